import PyProof.Rows.All
import HandS.ForMost
import HandS.ForExc
import HandS.Defaults
import HandS.HeadHook1
import HandS.HeadHook2
import HandS.Flow
import HandS.Wide
import HandS.Style
import HandS.IsInst
import HandS.Conv
import HandS.HeadEnd
import HandS.Head0
import HandS.Head1
import HandS.Head2
import HandS.ExcInit
import HandS.TryOnly
import HandS.TryMany
import HandS.ExcField
import HandS.HeadHook3
import PySem.Challenge.RW_knotwork_k05_steps_of_words
import Wide.All
import OpenK.AllK
import Wide.FinOn
set_option Elab.async false
set_option linter.all false
set_option maxRecDepth 100000
set_option maxHeartbeats 4000000
/-! SLa: values with owned cells, their standing for the layer's heap, results. -/
namespace SL
open PySem PySem.Spec PyProof.Rows L2

/-- a value: data, or a cell of the store -/
inductive A where
  | non | bl (b : Bool) | int (i : Int) | str (s : Str) | ty (n : String) | glo (x : Str)
  | lst (xs : List A) | slst (xs : List A) | tup (xs : List A) | cell (n : Nat)
  | obj (c : Str) (ns : List Str) (vs : List A)
  | dct (ks : List Key) (vs : List A)
  | xcp (a : Nat) (d : Option Nat) (c : Str) (ns : List Str) (vs : List A)
  deriving Inhabited

mutual
inductive Rep (K : PySem.W.Frag) (F : Hp) (μ : List Addr) : A → V → Prop
  | non : Rep K F μ .non .non
  | bl (b : Bool) : Rep K F μ (.bl b) (.bl b)
  | int (i : Int) : Rep K F μ (.int i) (.int i)
  | str (s : Str) : Rep K F μ (.str s) (.str s)
  | ty (n : String) : Rep K F μ (.ty n) (.ty n)
  | glo (x : Str) : Rep K F μ (.glo x) (.ref (He.ga K x))
  | lst {xs : List A} {a : Addr} {vs : List V} : F a = some (.lst vs) → Reps K F μ xs vs → Rep K F μ (.lst xs) (.ref a)
  | slst {xs : List A} {a : Addr} {vs : List V} : SqL K F a vs → Reps K F μ xs vs → Rep K F μ (.slst xs) (.ref a)
  | tup {xs : List A} {a : Addr} {vs : List V} : SqT K F a vs → Reps K F μ xs vs → Rep K F μ (.tup xs) (.ref a)
  | cell {n : Nat} {a : Addr} : μ[n]? = some a → Rep K F μ (.cell n) (.ref a)
  | obj {c : Str} {ns : List Str} {xs : List A} {a dx : Addr} {fs : List (Str × V)} : F a = some (.ins (He.ga K c) dx fs) → F dx = some (.own a) →
      fs.map (·.1) = ns → Reps K F μ xs (fs.map (·.2)) → Rep K F μ (.obj c ns xs) (.ref a)
  | dct {ks : List Key} {xs : List A} {a : Addr} {kvs : List (Key × V)} : F a = some (.dK kvs) → kvs.map (·.1) = ks → Reps K F μ xs (kvs.map (·.2)) → Rep K F μ (.dct ks xs) (.ref a)
  | xcp0 {a : Addr} {c : Str} : Rep K F μ (.xcp a none c [] []) (.ref a)
  | xcpD {a dd : Addr} {c : Str} {ns : List Str} {xs : List A} {fs : List (Str × V)} : F dd = some (.xd fs) → fs.map (·.1) = ns → Reps K F μ xs (fs.map (·.2)) → Rep K F μ (.xcp a (some dd) c ns xs) (.ref a)
inductive Reps (K : PySem.W.Frag) (F : Hp) (μ : List Addr) : List A → List V → Prop
  | nil : Reps K F μ [] []
  | cons {a : A} {v : V} {as : List A} {vs : List V} : Rep K F μ a v → Reps K F μ as vs → Reps K F μ (a :: as) (v :: vs)
end

/-- the known grows -/
structure Ext (F F' : Hp) (μ μ' : List Addr) : Prop where
  f : ∀ a o, F a = some o → F' a = some o
  m : ∀ (n : Nat) (a : Addr), μ[n]? = some a → μ'[n]? = some a
theorem Ext.refl {F : Hp} {μ : List Addr} : Ext F F μ μ := ⟨fun _ _ h => h, fun _ _ h => h⟩
theorem Ext.trans {F F1 F2 : Hp} {μ μ1 μ2 : List Addr} (a : Ext F F1 μ μ1) (b : Ext F1 F2 μ1 μ2) : Ext F F2 μ μ2 := ⟨fun x o h => b.f x o (a.f x o h), fun x o h => b.m x o (a.m x o h)⟩

theorem Rd.mono {H H' : Hp} {a : Addr} {u : HO} (e : ∀ a o, H a = some o → H' a = some o) (h : Rd H a u) : Rd H' a u := by
  rcases h with h | ⟨o, h⟩
  · exact .inl (e _ _ h)
  · exact .inr ⟨o, e _ _ h⟩
theorem SqL.mono {K : PySem.W.Frag} {H H' : Hp} {a : Addr} {xs : List V} (e : ∀ a o, H a = some o → H' a = some o) (h : SqL K H a xs) : SqL K H' a xs := by
  rcases h with h | h
  · exact .inl (Rd.mono e h)
  · exact .inr h
theorem SqT.mono {K : PySem.W.Frag} {H H' : Hp} {a : Addr} {xs : List V} (e : ∀ a o, H a = some o → H' a = some o) (h : SqT K H a xs) : SqT K H' a xs := by
  rcases h with h | h
  · exact .inl (Rd.mono e h)
  · exact .inr h

section
variable {K : PySem.W.Frag} {F F' : Hp} {μ μ' : List Addr}
mutual
theorem Rep.mono (e : Ext F F' μ μ') : ∀ {a : A} {v : V}, Rep K F μ a v → Rep K F' μ' a v
  | _, _, .non => .non
  | _, _, .bl b => .bl b
  | _, _, .int i => .int i
  | _, _, .str s => .str s
  | _, _, .ty n => .ty n
  | _, _, .glo x => .glo x
  | _, _, .lst s r => .lst (e.f _ _ s) (Reps.mono e r)
  | _, _, .slst s r => .slst (SqL.mono e.f s) (Reps.mono e r)
  | _, _, .tup s r => .tup (SqT.mono e.f s) (Reps.mono e r)
  | _, _, .cell h => .cell (e.m _ _ h)
  | _, _, .obj h1 h2 h3 r => .obj (e.f _ _ h1) (e.f _ _ h2) h3 (Reps.mono e r)
  | _, _, .dct h1 h3 r => .dct (e.f _ _ h1) h3 (Reps.mono e r)
  | _, _, .xcp0 => .xcp0
  | _, _, .xcpD h1 h3 r => .xcpD (e.f _ _ h1) h3 (Reps.mono e r)
theorem Reps.mono (e : Ext F F' μ μ') : ∀ {as : List A} {vs : List V}, Reps K F μ as vs → Reps K F' μ' as vs
  | _, _, .nil => .nil
  | _, _, .cons h t => .cons (Rep.mono e h) (Reps.mono e t)
end
theorem Reps.length : ∀ {as : List A} {vs : List V}, Reps K F μ as vs → as.length = vs.length
  | _, _, .nil => rfl
  | _, _, .cons _ t => by rw [List.length_cons, List.length_cons, Reps.length t]
theorem Reps.get : ∀ {as : List A} {vs : List V} {i : Nat} {a : A}, Reps K F μ as vs → as[i]? = some a → ∃ v, vs[i]? = some v ∧ Rep K F μ a v
  | _, _, _, _, .nil, e => by simp at e
  | _, _, 0, _, .cons r _, e => by simp at e; subst e; exact ⟨_, rfl, r⟩
  | _, _, i + 1, a, .cons _ t, e => by
    obtain ⟨v, h1, h2⟩ := Reps.get (i := i) (a := a) t (by simpa using e)
    exact ⟨v, by simpa using h1, h2⟩
theorem Reps.getV : ∀ {as : List A} {vs : List V} {i : Nat} {v : V}, Reps K F μ as vs → vs[i]? = some v → ∃ a, as[i]? = some a ∧ Rep K F μ a v
  | _, _, _, _, .nil, e => by simp at e
  | _, _, 0, _, .cons r _, e => by simp at e; subst e; exact ⟨_, rfl, r⟩
  | _, _, i + 1, v, .cons _ t, e => by
    obtain ⟨a, h1, h2⟩ := Reps.getV (i := i) (v := v) t (by simpa using e)
    exact ⟨a, by simpa using h1, h2⟩
theorem Reps.append : ∀ {as bs : List A} {vs ws : List V}, Reps K F μ as vs → Reps K F μ bs ws → Reps K F μ (as ++ bs) (vs ++ ws)
  | _, _, _, _, .nil, s => s
  | _, _, _, _, .cons r t, s => .cons r (Reps.append t s)
theorem Reps.set {a : A} {v : V} (r : Rep K F μ a v) : ∀ {as : List A} {vs : List V} (i : Nat), Reps K F μ as vs → Reps K F μ (as.set i a) (vs.set i v)
  | _, _, _, .nil => .nil
  | _, _, 0, .cons _ t => .cons r t
  | _, _, i + 1, .cons q t => .cons q (Reps.set r i t)
theorem Reps.take : ∀ {as : List A} {vs : List V} (n : Nat), Reps K F μ as vs → Reps K F μ (as.take n) (vs.take n)
  | _, _, 0, _ => .nil
  | _, _, _ + 1, .nil => .nil
  | _, _, n + 1, .cons r t => .cons r (Reps.take n t)
theorem Reps.drop : ∀ {as : List A} {vs : List V} (n : Nat), Reps K F μ as vs → Reps K F μ (as.drop n) (vs.drop n)
  | _, _, 0, r => r
  | _, _, _ + 1, .nil => .nil
  | _, _, n + 1, .cons _ t => Reps.drop n t
theorem Reps.eraseIdx : ∀ {as : List A} {vs : List V} (n : Nat), Reps K F μ as vs → Reps K F μ (as.eraseIdx n) (vs.eraseIdx n)
  | _, _, _, .nil => .nil
  | _, _, 0, .cons _ t => t
  | _, _, n + 1, .cons r t => .cons r (Reps.eraseIdx n t)
theorem Reps.reverse : ∀ {as : List A} {vs : List V}, Reps K F μ as vs → Reps K F μ as.reverse vs.reverse
  | _, _, .nil => .nil
  | _, _, .cons r t => by rw [List.reverse_cons, List.reverse_cons]; exact Reps.append (Reps.reverse t) (.cons r .nil)
theorem Reps.dropLast {as : List A} {vs : List V} (r : Reps K F μ as vs) : Reps K F μ as.dropLast vs.dropLast := by
  rw [List.dropLast_eq_take, List.dropLast_eq_take, r.length]; exact r.take _
theorem Reps.rep {as : List A} {vs : List V} (r : Reps K F μ as vs) : ∀ k : Nat, Reps K F μ (List.replicate k as).flatten (List.replicate k vs).flatten
  | 0 => .nil
  | k + 1 => by
    rw [List.replicate_succ, List.replicate_succ, List.flatten_cons, List.flatten_cons]
    exact Reps.append r (Reps.rep r k)
theorem Reps.ints : ∀ (ns : List Int), Reps K F μ (ns.map A.int) (ns.map V.int)
  | [] => .nil
  | n :: ns => .cons (.int n) (Reps.ints ns)
theorem Reps.intsV : ∀ {ns : List Int} {vs : List V}, Reps K F μ (ns.map A.int) vs → vs = ns.map V.int
  | [], _, .nil => rfl
  | n :: ns, _, .cons r t => by cases r; rw [Reps.intsV t]; rfl
theorem Reps.one {a : A} {vs : List V} (r : Reps K F μ [a] vs) : ∃ v, vs = [v] ∧ Rep K F μ a v := by
  cases r with
  | cons r t => cases t; exact ⟨_, rfl, r⟩
theorem Reps.two {a b : A} {vs : List V} (r : Reps K F μ [a, b] vs) : ∃ v w, vs = [v, w] ∧ Rep K F μ a v ∧ Rep K F μ b w := by
  cases r with
  | cons r t =>
    obtain ⟨w, rfl, q⟩ := t.one
    exact ⟨_, _, rfl, r, q⟩
end

/-- what a cell holds -/
inductive C where
  | lst (xs : List A)
  | dct (ks : List Key) (vs : List A)
  | obj (c : Str) (ns : List Str) (vs : List A)
  | dead
  deriving Inhabited
abbrev Store := List C
def CRep (K : PySem.W.Frag) (F : Hp) (μ : List Addr) (H : Hp) : C → Addr → Prop
  | .lst xs, a => ∃ vs, H a = some (.lst vs) ∧ Reps K F μ xs vs
  | .dct ks xs, a => ∃ kvs : List (Key × V), H a = some (.dK kvs) ∧ kvs.map (·.1) = ks ∧ Reps K F μ xs (kvs.map (·.2))
  | .obj c ns xs, a => ∃ (dx : Addr) (fs : List (Str × V)), H a = some (.ins (He.ga K c) dx fs) ∧ H dx = some (.own a) ∧ fs.map (·.1) = ns ∧ Reps K F μ xs (fs.map (·.2))
  | .dead, _ => True
/-- what a live cell's object may be -/
def isCellO : HO → Bool
  | .lst _ => true
  | .dK _ => true
  | .ins _ _ _ => true
  | _ => false
theorem CRep.o {K : PySem.W.Frag} {F : Hp} {μ : List Addr} {H : Hp} {c : C} {a : Addr} (h : CRep K F μ H c a) (l : c ≠ .dead) : ∃ o, H a = some o ∧ isCellO o = true := by
  cases c with
  | lst xs => obtain ⟨_, h, _⟩ := h; exact ⟨_, h, rfl⟩
  | dct ks xs => obtain ⟨_, h, _⟩ := h; exact ⟨_, h, rfl⟩
  | obj c ns xs => obtain ⟨_, _, h, _⟩ := h; exact ⟨_, h, rfl⟩
  | dead => exact absurd rfl l
/-- the cells' places, apart from the known -/
structure Good (K : PySem.W.Frag) (Z F : Hp) (μ : List Addr) (st : Store) (H : Hp) : Prop where
  zub : ∀ a o, Z a = some o → H a = some o
  zf : ∀ a o, Z a = some o → F a = none
  zc : ∀ a o, Z a = some o → isCellO o = true
  sub : ∀ a o, F a = some o → H a = some o
  len : μ.length = st.length
  cell : ∀ (i : Nat) (c : C), st[i]? = some c → c ≠ .dead → ∃ a, μ[i]? = some a ∧ (F a = none ∧ Z a = none) ∧ CRep K F μ H c a
  inj : ∀ (i j : Nat) (a : Addr) (c d : C), st[i]? = some c → c ≠ .dead → st[j]? = some d → d ≠ .dead → μ[i]? = some a → μ[j]? = some a → i = j

section
variable {K : PySem.W.Frag} {Z F F' : Hp} {μ μ' : List Addr} {st : Store} {H H' : Hp} {p : Addr} {o : HO} {c : C}
theorem CRep.mono (h : CRep K F μ H c p) (e : Ext F F' μ μ') (k : ∀ a o, H a = some o → H' a = some o) : CRep K F' μ' H' c p := by
  cases c with
  | lst xs => obtain ⟨vs, h, r⟩ := h; exact ⟨vs, k _ _ h, r.mono e⟩
  | dct ks xs => obtain ⟨kvs, h, q, r⟩ := h; exact ⟨kvs, k _ _ h, q, r.mono e⟩
  | obj c ns xs => obtain ⟨dx, fs, h, h2, q, r⟩ := h; exact ⟨dx, fs, k _ _ h, k _ _ h2, q, r.mono e⟩
  | dead => trivial
theorem ext_push : Ext F F μ (μ ++ [p]) := ⟨fun _ _ h => h, fun n a h => by
  obtain ⟨hl, _⟩ := List.getElem?_eq_some_iff.mp h
  rw [List.getElem?_append_left hl]; exact h⟩
theorem sub_upd (h : H p = none) : ∀ a o', H a = some o' → upd H p o a = some o' := fun a o' e => by rw [upd_ne (ne_of_none e h)]; exact e
theorem Good.nof (g : Good K Z F μ st H) (h : H p = none) : F p = none := by
  cases e : F p with
  | none => rfl
  | some o => rw [g.sub _ _ e] at h; cases h
theorem Good.noz (g : Good K Z F μ st H) (h : H p = none) : Z p = none := by
  cases e : Z p with
  | none => rfl
  | some o => rw [g.zub _ _ e] at h; cases h
/-- a new known object -/
theorem Good.known (g : Good K Z F μ st H) (h : H p = none) : Good K Z (upd F p o) μ st (upd H p o) ∧ Ext F (upd F p o) μ μ := by
  have e : Ext F (upd F p o) μ μ := ⟨sub_upd (g.nof h), fun _ _ h => h⟩
  refine ⟨{ zub := fun a o' q => sub_upd h _ _ (g.zub _ _ q), zf := fun a o' q => ?_, zc := g.zc, sub := fun a o' q => ?_, len := g.len, cell := fun i c hi hc => ?_, inj := g.inj }, e⟩
  · rw [upd_ne (ne_of_none (g.zub _ _ q) h)]; exact g.zf _ _ q
  · by_cases ha : a = p
    · subst ha; rw [upd_same] at q ⊢; exact q
    · rw [upd_ne ha] at q ⊢; exact g.sub _ _ q
  · obtain ⟨a, h1, h2, h3⟩ := g.cell i c hi hc
    obtain ⟨o2, ho, _⟩ := h3.o hc
    refine ⟨a, h1, ⟨?_, h2.2⟩, h3.mono e (sub_upd h)⟩
    rw [upd_ne (ne_of_none ho h)]; exact h2.1
/-- a new cell -/
theorem Good.push (g : Good K Z F μ st H) (h : H p = none) (hc : CRep K F μ (upd H p o) c p) : Good K Z F (μ ++ [p]) (st ++ [c]) (upd H p o) ∧ Ext F F μ (μ ++ [p]) := by
  refine ⟨{ zub := fun a o' q => sub_upd h _ _ (g.zub _ _ q), zf := g.zf, zc := g.zc, sub := fun a o' q => sub_upd h _ _ (g.sub _ _ q), len := by rw [List.length_append, List.length_append, g.len]; rfl, cell := fun i d hi hd => ?_, inj := fun i j a d d' hi hd hj hd' ei ej => ?_ }, ext_push⟩
  · by_cases hl : i < st.length
    · rw [List.getElem?_append_left hl] at hi
      obtain ⟨a, h1, h2, h3⟩ := g.cell i d hi hd
      exact ⟨a, ext_push.m (F := F) (F' := F) i a h1, h2, h3.mono ext_push (sub_upd h)⟩
    · rw [List.getElem?_append_right (by omega)] at hi
      have e0 : i - st.length = 0 := by
        cases e : i - st.length with
        | zero => rfl
        | succ n => rw [e] at hi; simp at hi
      rw [e0] at hi
      simp at hi
      subst hi
      have ei : i = st.length := by omega
      subst ei
      refine ⟨p, ?_, ⟨g.nof h, g.noz h⟩, hc.mono ext_push fun _ _ q => q⟩
      rw [← g.len, List.getElem?_append_right (Nat.le_refl _), Nat.sub_self]; rfl
  · have key : ∀ (i : Nat) (d : C), (st ++ [c])[i]? = some d → d ≠ .dead → (μ ++ [p])[i]? = some a → (i < st.length ∧ st[i]? = some d ∧ μ[i]? = some a ∧ a ≠ p) ∨ (i = st.length ∧ a = p) := by
      intro i d hi hd ei
      by_cases hl : i < st.length
      · rw [List.getElem?_append_left hl] at hi
        rw [List.getElem?_append_left (by rw [g.len]; exact hl)] at ei
        obtain ⟨a', h1, _, h3⟩ := g.cell i d hi hd
        obtain ⟨o2, ho, _⟩ := h3.o hd
        rw [ei] at h1; cases h1
        exact .inl ⟨hl, hi, ei, ne_of_none ho h⟩
      · have hi' : i < (st ++ [c]).length := (List.getElem?_eq_some_iff.mp hi).1
        rw [List.length_append] at hi'
        have e : i = st.length := by simp at hi'; omega
        subst e
        rw [← g.len, List.getElem?_append_right (Nat.le_refl _), Nat.sub_self] at ei
        simp at ei
        exact .inr ⟨rfl, ei.symm⟩
    rcases key i d hi hd ei with ⟨l1, a1, b1, n1⟩ | ⟨l1, n1⟩ <;> rcases key j d' hj hd' ej with ⟨l2, a2, b2, n2⟩ | ⟨l2, n2⟩
    · exact g.inj i j a d d' a1 hd a2 hd' b1 b2
    · exact absurd n2 n1
    · exact absurd n1 n2
    · omega
theorem get_set {α : Type} {l : List α} {i j : Nat} {x y : α} (h : (l.set i x)[j]? = some y) : (j = i ∧ y = x) ∨ (j ≠ i ∧ l[j]? = some y) := by
  by_cases e : j = i
  · subst e
    have hl : j < (l.set j x).length := (List.getElem?_eq_some_iff.mp h).1
    rw [List.length_set] at hl
    rw [List.getElem?_set_self hl] at h
    exact .inl ⟨rfl, (Option.some.inj h).symm⟩
  · rw [List.getElem?_set_ne (fun q => e q.symm)] at h
    exact .inr ⟨e, h⟩
/-- a cell is written -/
theorem Good.write {i : Nat} {d : C} (g : Good K Z F μ st H) (hi : st[i]? = some d) (hd : d ≠ .dead) (ha : μ[i]? = some p) (hc : CRep K F μ (upd H p o) c p) : Good K Z F μ (st.set i c) (upd H p o) := by
  obtain ⟨p', e1, ⟨hF, hZ⟩, hr⟩ := g.cell i d hi hd
  rw [ha] at e1; cases e1
  obtain ⟨o2, ho, hco⟩ := hr.o hd
  refine { zub := fun a o' q => ?_, zf := g.zf, zc := g.zc, sub := fun a o' q => ?_, len := by rw [List.length_set]; exact g.len, cell := fun j c' hj hc' => ?_, inj := fun j k a c1 c2 h1 n1 h2 n2 m1 m2 => ?_ }
  · rw [upd_ne]
    · exact g.zub _ _ q
    · intro e; subst e; rw [hZ] at q; cases q
  · rw [upd_ne]
    · exact g.sub _ _ q
    · intro e; subst e; rw [hF] at q; cases q
  · rcases get_set hj with ⟨rfl, rfl⟩ | ⟨hji, hj'⟩
    · exact ⟨p, ha, ⟨hF, hZ⟩, hc⟩
    · obtain ⟨a, h1, h2, h3⟩ := g.cell j c' hj' hc'
      have hap : a ≠ p := fun e => hji (g.inj j i a c' d hj' hc' hi hd h1 (e ▸ ha))
      refine ⟨a, h1, h2, ?_⟩
      cases c' with
      | lst xs => obtain ⟨vs, h, r⟩ := h3; exact ⟨vs, by rw [upd_ne hap]; exact h, r⟩
      | dct ks xs => obtain ⟨kvs, h, q, r⟩ := h3; exact ⟨kvs, by rw [upd_ne hap]; exact h, q, r⟩
      | obj c ns xs =>
        obtain ⟨dx, fs, h, h2, q, r⟩ := h3
        refine ⟨dx, fs, by rw [upd_ne hap]; exact h, ?_, q, r⟩
        rw [upd_ne]
        · exact h2
        · intro e; subst e; rw [ho] at h2; cases h2; cases hco
      | dead => trivial
  · have live : ∀ (j : Nat) (c1 : C), (st.set i c)[j]? = some c1 → c1 ≠ .dead → ∃ c', st[j]? = some c' ∧ c' ≠ .dead := by
      intro j c1 h1 n1
      rcases get_set h1 with ⟨rfl, _⟩ | ⟨_, h⟩
      · exact ⟨d, hi, hd⟩
      · exact ⟨c1, h, n1⟩
    obtain ⟨x1, y1, z1⟩ := live j c1 h1 n1
    obtain ⟨x2, y2, z2⟩ := live k c2 h2 n2
    exact g.inj j k a x1 x2 y1 z1 y2 z2 m1 m2
theorem Good.kill {i : Nat} (g : Good K Z F μ st H) : Good K Z F μ (st.set i .dead) H := by
  refine { zub := g.zub, zf := g.zf, zc := g.zc, sub := g.sub, len := by rw [List.length_set]; exact g.len, cell := fun j c' hj hc' => ?_, inj := fun j k a c1 c2 h1 n1 h2 n2 m1 m2 => ?_ }
  · rcases get_set hj with ⟨rfl, rfl⟩ | ⟨_, h⟩
    · exact absurd rfl hc'
    · exact g.cell j c' h hc'
  · rcases get_set h1 with ⟨rfl, rfl⟩ | ⟨_, h1⟩
    · exact absurd rfl n1
    · rcases get_set h2 with ⟨rfl, rfl⟩ | ⟨_, h2⟩
      · exact absurd rfl n2
      · exact g.inj j k a c1 c2 h1 n1 h2 n2 m1 m2
/-- a cell's object becomes known -/
theorem Good.know {i : Nat} {d : C} (g : Good K Z F μ st H) (hi : st[i]? = some d) (hd : d ≠ .dead) (ha : μ[i]? = some p) (ho : H p = some o) :
    Good K Z (upd F p o) μ (st.set i .dead) H ∧ Ext F (upd F p o) μ μ := by
  obtain ⟨p', e1, ⟨hF, hZ⟩, _⟩ := g.cell i d hi hd
  rw [ha] at e1; cases e1
  have e : Ext F (upd F p o) μ μ := ⟨sub_upd hF, fun _ _ h => h⟩
  have gk := g.kill (i := i)
  refine ⟨{ zub := g.zub, zf := fun a o' q => ?_, zc := g.zc, sub := fun a o' q => ?_, len := gk.len, cell := fun j c' hj hc' => ?_, inj := gk.inj }, e⟩
  · rw [upd_ne (ne_of_none q hZ)]; exact g.zf _ _ q
  · by_cases hap : a = p
    · subst hap; rw [upd_same] at q; cases q; exact ho
    · rw [upd_ne hap] at q; exact g.sub _ _ q
  · rcases get_set hj with ⟨rfl, rfl⟩ | ⟨hji, hj'⟩
    · exact absurd rfl hc'
    · obtain ⟨a, h1, h2, h3⟩ := g.cell j c' hj' hc'
      have hap : a ≠ p := fun e => hji (g.inj j i a c' d hj' hc' hi hd h1 (e ▸ ha))
      exact ⟨a, h1, ⟨by rw [upd_ne hap]; exact h2.1, h2.2⟩, h3.mono e fun _ _ q => q⟩
/-- more known of objects that are no cells' -/
theorem Good.knowO {q : Addr} {u : HO} (g : Good K Z F μ st H) (hq : H q = some u) (hu : isCellO u = false) (hz : Z q = none) (hn : F q = none ∨ F q = some u) : Good K Z (upd F q u) μ st H ∧ Ext F (upd F q u) μ μ := by
  have e : Ext F (upd F q u) μ μ := ⟨fun a o h => by
    by_cases ha : a = q
    · subst ha
      rcases hn with hn | hn
      · rw [hn] at h; cases h
      · rw [hn] at h; cases h; exact upd_same
    · rw [upd_ne ha]; exact h, fun _ _ h => h⟩
  refine ⟨{ zub := g.zub, zf := fun a o' x => ?_, zc := g.zc, sub := fun a o' h => ?_, len := g.len, cell := fun j c' hj hc' => ?_, inj := g.inj }, e⟩
  · rw [upd_ne (ne_of_none x hz)]; exact g.zf _ _ x
  · by_cases hap : a = q
    · subst hap; rw [upd_same] at h; cases h; exact hq
    · rw [upd_ne hap] at h; exact g.sub _ _ h
  · obtain ⟨a, h1, h2, h3⟩ := g.cell j c' hj hc'
    obtain ⟨o2, ho2, hco⟩ := h3.o hc'
    have : a ≠ q := by intro e; subst e; rw [ho2] at hq; cases hq; rw [hu] at hco; cases hco
    exact ⟨a, h1, ⟨by rw [upd_ne this]; exact h2.1, h2.2⟩, h3.mono e fun _ _ q => q⟩
/-! what stands apart: Z -/
/-- a new object that nobody's value names -/
theorem Good.apart (g : Good K Z F μ st H) (h : H p = none) (ho : isCellO o = true) : Good K (upd Z p o) F μ st (upd H p o) := by
  refine { zub := fun a o' q => ?_, zf := fun a o' q => ?_, zc := fun a o' q => by { by_cases ha : a = p; · { subst ha; rw [upd_same] at q; cases q; exact ho }; · { rw [upd_ne ha] at q; exact g.zc _ _ q } }, sub := fun a o' q => sub_upd h _ _ (g.sub _ _ q), len := g.len, cell := fun i c hi hc => ?_, inj := g.inj }
  · by_cases ha : a = p
    · subst ha; rw [upd_same] at q ⊢; exact q
    · rw [upd_ne ha] at q ⊢; exact g.zub _ _ q
  · by_cases ha : a = p
    · subst ha; exact g.nof h
    · rw [upd_ne ha] at q; exact g.zf _ _ q
  · obtain ⟨a, h1, h2, h3⟩ := g.cell i c hi hc
    obtain ⟨o2, ho, _⟩ := h3.o hc
    exact ⟨a, h1, ⟨h2.1, by rw [upd_ne (ne_of_none ho h)]; exact h2.2⟩, h3.mono Ext.refl (sub_upd h)⟩
/-- it is written -/
theorem Good.zset {u : HO} (g : Good K (upd Z p o) F μ st H) (hz : isCellO o = true) (hu : isCellO u = true) : Good K (upd Z p u) F μ st (upd H p u) := by
  have hp : H p = some o := g.zub _ _ upd_same
  refine { zub := fun a o' q => ?_, zf := fun a o' q => ?_, zc := fun a o' q => by { by_cases ha : a = p; · { subst ha; rw [upd_same] at q; cases q; exact hu }; · { rw [upd_ne ha] at q; exact g.zc _ _ (by rw [upd_ne ha]; exact q) } }, sub := fun a o' q => ?_, len := g.len, cell := fun i c hi hc => ?_, inj := g.inj }
  · by_cases ha : a = p
    · subst ha; rw [upd_same] at q ⊢; exact q
    · rw [upd_ne ha] at q ⊢; exact g.zub _ _ (by rw [upd_ne ha]; exact q)
  · by_cases ha : a = p
    · subst ha; exact g.zf _ _ upd_same
    · rw [upd_ne ha] at q; exact g.zf _ _ (by rw [upd_ne ha]; exact q)
  · have ha : a ≠ p := by intro e; subst e; rw [g.zf _ _ upd_same] at q; cases q
    rw [upd_ne ha]; exact g.sub _ _ q
  · obtain ⟨a, h1, h2, h3⟩ := g.cell i c hi hc
    have ha : a ≠ p := by intro e; subst e; rw [upd_same] at h2; cases h2.2
    refine ⟨a, h1, ⟨h2.1, by have := h2.2; rw [upd_ne ha] at this ⊢; exact this⟩, ?_⟩
    cases c with
    | lst xs => obtain ⟨vs, h, r⟩ := h3; exact ⟨vs, by rw [upd_ne ha]; exact h, r⟩
    | dct ks xs => obtain ⟨kvs, h, q, r⟩ := h3; exact ⟨kvs, by rw [upd_ne ha]; exact h, q, r⟩
    | obj c ns xs =>
      obtain ⟨dx, fs, h, h4, q, r⟩ := h3
      refine ⟨dx, fs, by rw [upd_ne ha]; exact h, ?_, q, r⟩
      rw [upd_ne]
      · exact h4
      · intro e; subst e; rw [hp] at h4; cases h4; cases hz
    | dead => trivial
/-- it becomes known -/
theorem Good.zknown (g : Good K (upd Z p o) F μ st H) (hz : Z p = none) : Good K Z (upd F p o) μ st H ∧ Ext F (upd F p o) μ μ := by
  have hp : H p = some o := g.zub _ _ upd_same
  have hF : F p = none := g.zf _ _ upd_same
  have e : Ext F (upd F p o) μ μ := ⟨sub_upd hF, fun _ _ h => h⟩
  refine ⟨{ zub := fun a o' q => g.zub _ _ (sub_upd hz _ _ q), zf := fun a o' q => ?_, zc := fun a o' q => g.zc _ _ (sub_upd hz _ _ q), sub := fun a o' q => ?_, len := g.len, cell := fun i c hi hc => ?_, inj := g.inj }, e⟩
  · rw [upd_ne (ne_of_none q hz)]; exact g.zf _ _ (sub_upd hz _ _ q)
  · by_cases ha : a = p
    · subst ha; rw [upd_same] at q; cases q; exact hp
    · rw [upd_ne ha] at q; exact g.sub _ _ q
  · obtain ⟨a, h1, h2, h3⟩ := g.cell i c hi hc
    have ha : a ≠ p := by intro e; subst e; rw [upd_same] at h2; cases h2.2
    exact ⟨a, h1, ⟨by rw [upd_ne ha]; exact h2.1, by have := h2.2; rw [upd_ne ha] at this; exact this⟩, h3.mono e fun _ _ q => q⟩
/-- it becomes a cell -/
theorem Good.zpush (g : Good K (upd Z p o) F μ st H) (hz : Z p = none) (hc : CRep K F μ H c p) : Good K Z F (μ ++ [p]) (st ++ [c]) H ∧ Ext F F μ (μ ++ [p]) := by
  have hF : F p = none := g.zf _ _ upd_same
  refine ⟨{ zub := fun a o' q => g.zub _ _ (sub_upd hz _ _ q), zf := fun a o' q => g.zf _ _ (sub_upd hz _ _ q), zc := fun a o' q => g.zc _ _ (sub_upd hz _ _ q), sub := g.sub, len := by rw [List.length_append, List.length_append, g.len]; rfl, cell := fun i d hi hd => ?_, inj := fun i j a d d' hi hd hj hd' ei ej => ?_ }, ext_push⟩
  · by_cases hl : i < st.length
    · rw [List.getElem?_append_left hl] at hi
      obtain ⟨a, h1, h2, h3⟩ := g.cell i d hi hd
      have ha : a ≠ p := by intro e; subst e; rw [upd_same] at h2; cases h2.2
      exact ⟨a, ext_push.m (F := F) (F' := F) i a h1, ⟨h2.1, by have := h2.2; rw [upd_ne ha] at this; exact this⟩, h3.mono ext_push fun _ _ q => q⟩
    · have hi' : i < (st ++ [c]).length := (List.getElem?_eq_some_iff.mp hi).1
      rw [List.length_append] at hi'
      have e : i = st.length := by simp at hi'; omega
      subst e
      rw [List.getElem?_append_right (Nat.le_refl _), Nat.sub_self] at hi
      simp at hi
      subst hi
      refine ⟨p, ?_, ⟨hF, hz⟩, hc.mono ext_push fun _ _ q => q⟩
      rw [← g.len, List.getElem?_append_right (Nat.le_refl _), Nat.sub_self]; rfl
  · have key : ∀ (i : Nat) (d : C), (st ++ [c])[i]? = some d → d ≠ .dead → (μ ++ [p])[i]? = some a → (i < st.length ∧ st[i]? = some d ∧ μ[i]? = some a ∧ a ≠ p) ∨ (i = st.length ∧ a = p) := by
      intro i d hi hd ei
      by_cases hl : i < st.length
      · rw [List.getElem?_append_left hl] at hi
        rw [List.getElem?_append_left (by rw [g.len]; exact hl)] at ei
        obtain ⟨a', h1, h2, h3⟩ := g.cell i d hi hd
        rw [ei] at h1; cases h1
        exact .inl ⟨hl, hi, ei, by intro e; subst e; rw [upd_same] at h2; cases h2.2⟩
      · have hi' : i < (st ++ [c]).length := (List.getElem?_eq_some_iff.mp hi).1
        rw [List.length_append] at hi'
        have e : i = st.length := by simp at hi'; omega
        subst e
        rw [← g.len, List.getElem?_append_right (Nat.le_refl _), Nat.sub_self] at ei
        simp at ei
        exact .inr ⟨rfl, ei.symm⟩
    rcases key i d hi hd ei with ⟨l1, a1, b1, n1⟩ | ⟨l1, n1⟩ <;> rcases key j d' hj hd' ej with ⟨l2, a2, b2, n2⟩ | ⟨l2, n2⟩
    · exact g.inj i j a d d' a1 hd a2 hd' b1 b2
    · exact absurd n2 n1
    · exact absurd n1 n2
    · omega
end

/-! ### results -/
/-- an exception: its class, what its own dict holds -/
structure Exc where
  c : Str
  ns : List Str
  vs : List A
inductive Res (α : Type) where
  | ok (a : α) (st : Store)
  | exc (e : Exc) (st : Store)
  | stuck
def Res.bind {α β : Type} (r : Res α) (f : α → Store → Res β) : Res β := match r with
  | .ok a st => f a st
  | .exc e st => .exc e st
  | .stuck => .stuck
def Res.post {α : Type} (r : Res α) (P : α → Store → Prop) (E : Exc → Store → Prop) : Prop := match r with
  | .ok a st => P a st
  | .exc e st => E e st
  | .stuck => False
@[simp] theorem Res.bind_ok {α β : Type} {a : α} {st : Store} {f : α → Store → Res β} : (Res.ok a st).bind f = f a st := (rfl)
@[simp] theorem Res.bind_exc {α β : Type} {e : Exc} {st : Store} {f : α → Store → Res β} : (Res.exc e st : Res α).bind f = .exc e st := (rfl)
@[simp] theorem Res.bind_stuck {α β : Type} {f : α → Store → Res β} : (Res.stuck : Res α).bind f = .stuck := (rfl)
theorem Res.post_bind {α β : Type} {r : Res α} {f : α → Store → Res β} {P : β → Store → Prop} {E : Exc → Store → Prop} : (r.bind f).post P E ↔ r.post (fun a st => (f a st).post P E) E := by
  cases r <;> exact Iff.rfl
theorem Res.post_mono {α : Type} {r : Res α} {P P' : α → Store → Prop} {E E' : Exc → Store → Prop} (h : r.post P E) (hP : ∀ a st, P a st → P' a st) (hE : ∀ e st, E e st → E' e st) : r.post P' E' := by
  cases r with
  | ok a st => exact hP _ _ h
  | exc e st => exact hE _ _ h
  | stuck => exact h
/-- a step that may be stuck, and raises nothing -/
def Res.of {α : Type} : Option (α × Store) → Res α
  | some (a, st) => .ok a st
  | none => .stuck
@[simp] theorem Res.of_some {α : Type} {p : α × Store} : Res.of (some p) = .ok p.1 p.2 := (rfl)
@[simp] theorem Res.of_none {α : Type} : (Res.of none : Res α) = .stuck := (rfl)
theorem Res.post_of {α : Type} {x : Option (α × Store)} {P : α → Store → Prop} {E : Exc → Store → Prop} (h : (Res.of x).post P E) : ∃ a st, x = some (a, st) ∧ P a st := by
  cases x with
  | none => exact h.elim
  | some p => exact ⟨p.1, p.2, rfl, h⟩
inductive SRes where
  | nx (env : List (Option A)) (st : Store)
  | rt (a : A) (st : Store)
  | bk (env : List (Option A)) (st : Store)
  | ct (env : List (Option A)) (st : Store)
  | exc (e : Exc) (env : List (Option A)) (st : Store)
  | stuck
abbrev AEnv := List (Option A)
structure SPost where
  nx : AEnv → Store → Prop
  rt : A → Store → Prop
  bk : AEnv → Store → Prop
  ct : AEnv → Store → Prop
  ex : Exc → AEnv → Store → Prop
def SRes.post (r : SRes) (P : SPost) : Prop := match r with
  | .nx env st => P.nx env st
  | .rt a st => P.rt a st
  | .bk env st => P.bk env st
  | .ct env st => P.ct env st
  | .exc e env st => P.ex e env st
  | .stuck => False
theorem SRes.post_mono {r : SRes} {P P' : SPost} (h : r.post P) (h1 : ∀ e s, P.nx e s → P'.nx e s) (h2 : ∀ a s, P.rt a s → P'.rt a s) (h3 : ∀ e s, P.bk e s → P'.bk e s) (h4 : ∀ e s, P.ct e s → P'.ct e s)
    (h5 : ∀ x e s, P.ex x e s → P'.ex x e s) : r.post P' := by
  cases r with
  | nx e s => exact h1 _ _ h
  | rt a s => exact h2 _ _ h
  | bk e s => exact h3 _ _ h
  | ct e s => exact h4 _ _ h
  | exc x e s => exact h5 _ _ _ h
  | stuck => exact h
/-- an expression's value goes on into a statement's end -/
def Res.toS {α : Type} (r : Res α) (env : AEnv) (f : α → Store → SRes) : SRes := match r with
  | .ok a st => f a st
  | .exc e st => .exc e env st
  | .stuck => .stuck
@[simp] theorem Res.toS_ok {α : Type} {a : α} {st : Store} {env : AEnv} {f : α → Store → SRes} : (Res.ok a st).toS env f = f a st := (rfl)
@[simp] theorem Res.toS_exc {α : Type} {e : Exc} {st : Store} {env : AEnv} {f : α → Store → SRes} : (Res.exc e st : Res α).toS env f = .exc e env st := (rfl)
@[simp] theorem Res.toS_stuck {α : Type} {env : AEnv} {f : α → Store → SRes} : (Res.stuck : Res α).toS env f = .stuck := (rfl)
theorem Res.post_toS {α : Type} {r : Res α} {env : AEnv} {f : α → Store → SRes} {P : SPost} : (r.toS env f).post P ↔ r.post (fun a st => (f a st).post P) (fun e st => P.ex e env st) := by
  cases r <;> exact Iff.rfl
/-- one statement, then more -/
def SRes.bind (r : SRes) (f : AEnv → Store → SRes) : SRes := match r with
  | .nx env st => f env st
  | r => r
@[simp] theorem SRes.bind_nx {e : AEnv} {s : Store} {f : AEnv → Store → SRes} : (SRes.nx e s).bind f = f e s := (rfl)
@[simp] theorem SRes.bind_rt {a : A} {s : Store} {f : AEnv → Store → SRes} : (SRes.rt a s).bind f = .rt a s := (rfl)
@[simp] theorem SRes.bind_bk {e : AEnv} {s : Store} {f : AEnv → Store → SRes} : (SRes.bk e s).bind f = .bk e s := (rfl)
@[simp] theorem SRes.bind_ct {e : AEnv} {s : Store} {f : AEnv → Store → SRes} : (SRes.ct e s).bind f = .ct e s := (rfl)
@[simp] theorem SRes.bind_exc {x : Exc} {e : AEnv} {s : Store} {f : AEnv → Store → SRes} : (SRes.exc x e s).bind f = .exc x e s := (rfl)
@[simp] theorem SRes.bind_stuck {f : AEnv → Store → SRes} : (SRes.stuck).bind f = .stuck := (rfl)
theorem SRes.post_bind {r : SRes} {f : AEnv → Store → SRes} {P : SPost} : (r.bind f).post P ↔ r.post { P with nx := fun e s => (f e s).post P } := by
  cases r <;> exact Iff.rfl
end SL

set_option Elab.async false
set_option linter.all false
set_option maxRecDepth 100000
set_option maxHeartbeats 4000000
/-! SLb: what a reading does, by a plain function of the values; expressions. -/
namespace SL
open PySem PySem.Spec L2
open PyProof.Rows hiding St
abbrev Rel (α β : Type) := PySem.W.Frag → Hp → List Addr → α → β → Prop
def Kont {α β : Type} (K : PySem.W.Frag) (Z : Hp) (R : Rel α β) (F : Hp) (μ : List Addr) (Q : β → Hp → Prop) : α → Store → Prop :=
  fun a st' => ∀ F' μ' H' b, Ext F F' μ μ' → Good K Z F' μ' st' H' → R K F' μ' a b → Q b H'
def RepB : Rel Bool Bool := fun _ _ _ a b => a = b
/-- how an exception lies -/
def XRep (K : PySem.W.Frag) (F : Hp) (μ : List Addr) (e : Exc) (d : Option Addr) : Prop :=
  (d = none ∧ e.ns = [] ∧ e.vs = []) ∨ ∃ (dd : Addr) (fs : List (Str × V)), d = some dd ∧ F dd = some (.xd fs) ∧ fs.map (·.1) = e.ns ∧ Reps K F μ e.vs (fs.map (·.2))
def KX (K : PySem.W.Frag) (Z F : Hp) (μ : List Addr) (σ : St) (W : WX) : Exc → Store → Prop :=
  fun e st' => ∀ F' μ' H' d, Ext F F' μ μ' → Good K Z F' μ' st' H' → XRep K F' μ' e d → W (.ref (He.ga K e.c)) d σ H'
structure REnv (K : PySem.W.Frag) (F : Hp) (μ : List Addr) (env : AEnv) (σ : St) : Prop where
  len : env.length = σ.length
  at_ : ∀ (i : Nat) (a : A), env[i]? = some (some a) → ∃ v, σ[i]? = some (some v) ∧ Rep K F μ a v
def Sim {α β : Type} (K : PySem.W.Frag) (R : Rel α β) (W : WX) (t : St → Hp → (β → Hp → Prop) → Prop) (m : AEnv → Store → Res α) : Prop :=
  ∀ (Z F : Hp) (μ : List Addr) (st : Store) (env : AEnv) (σ : St) (H : Hp) (Q : β → Hp → Prop), Good K Z F μ st H → REnv K F μ env σ → (m env st).post (Kont K Z R F μ Q) (KX K Z F μ σ W) → t σ H Q
/-- what stands still in a def (or a comprehension's block): its text, its names, the room for calls -/
structure G where
  P : Program
  w : World
  K : PySem.W.Frag
  mg : Str → Option Value
  base : Heap
  N : List Str
  sc : Scope
  k : Nat
  calm : Bool
  st : Bool
  hx : Option (Addr × Str × Option Addr)
structure CtxOk (Γ : G) (X : Cx) : Prop where
  prog : X.prog = Γ.P
  w : X.w = Γ.w
  K : X.K = Γ.K
  mg : X.mg = Γ.mg
  base : X.base = Γ.base
  N : X.N = Γ.N
  sc : X.env.scope = Γ.sc
  calm : Γ.calm = true → X.calm = true
  room : Γ.calm = true → Room Γ.k X.A
  units : X.A.units + 64 < cLine
  stk : Γ.st = true → X.stack = X.env :: X.outer ∧ X.env.frame = some X.env.locals
  hx : ∀ a c d, Γ.hx = some (a, c, d) → ∃ (X' : Cx) (oe : Obj) (pn : List (Addr × Obj)), X = X'.suite a ((a, oe) :: pn) ∧ Zc (.ref (He.ga Γ.K c)) d oe ∧ ∃ vs, oe.data = .fields vs
  nd : X.N.Nodup
  own : PassesOwn (model X.prog X.w) X.A X.env X.xe
structure SE (Γ : G) (e : Expr) (m : AEnv → Store → Res A) : Prop where
  run : ∀ W : WX, ∃ t : TE, Sim Γ.K Rep W t m ∧ ∀ X, CtxOk Γ X → Takes X W → PE X e t
structure ST (Γ : G) (e : Expr) (m : AEnv → Store → Res Bool) : Prop where
  run : ∀ W : WX, ∃ t : TT, Sim Γ.K RepB W t m ∧ ∀ X, CtxOk Γ X → Takes X W → PT X e t
structure SWt (Γ : G) (e : Expr) (m : AEnv → Store → Res Bool) : Prop where
  run : ∀ W : WX, ∃ t : TT, Sim Γ.K RepB W t m ∧ ∀ X, CtxOk Γ X → Takes X W → PW X e t
structure SA (Γ : G) (es : List Expr) (m : AEnv → Store → Res (List A)) : Prop where
  run : ∀ W : WX, ∃ t : TA, Sim Γ.K Reps W t m ∧ ∀ X, CtxOk Γ X → Takes X W → PA X es t

section
variable {K : PySem.W.Frag} {Z F F' : Hp} {μ μ' : List Addr} {σ : St} {W : WX}
theorem REnv.mono {env : AEnv} (r : REnv K F μ env σ) (e : Ext F F' μ μ') : REnv K F' μ' env σ := ⟨r.len, fun i a h => by
  obtain ⟨v, h1, h2⟩ := r.at_ i a h
  exact ⟨v, h1, h2.mono e⟩⟩
theorem REnv.set {env : AEnv} {a : A} {v : V} (r : REnv K F μ env σ) (i : Nat) (h : Rep K F μ a v) : REnv K F μ (env.set i (some a)) (σ.set i (some v)) := by
  refine ⟨by rw [List.length_set, List.length_set]; exact r.len, fun j b hj => ?_⟩
  rcases get_set hj with ⟨rfl, e⟩ | ⟨hji, hj⟩
  · cases e
    have hl : j < env.length := by have := (List.getElem?_eq_some_iff.mp hj).1; rw [List.length_set] at this; exact this
    exact ⟨v, by rw [List.getElem?_set_self (by rw [← r.len]; exact hl)], h⟩
  · obtain ⟨w, h1, h2⟩ := r.at_ j b hj
    exact ⟨w, by rw [List.getElem?_set_ne (fun q => hji q.symm)]; exact h1, h2⟩
theorem REnv.unset {env : AEnv} (r : REnv K F μ env σ) (i : Nat) : REnv K F μ (env.set i none) (σ.set i none) := by
  refine ⟨by rw [List.length_set, List.length_set]; exact r.len, fun j b hj => ?_⟩
  rcases get_set hj with ⟨rfl, e⟩ | ⟨hji, hj⟩
  · cases e
  · obtain ⟨w, h1, h2⟩ := r.at_ j b hj
    exact ⟨w, by rw [List.getElem?_set_ne (fun q => hji q.symm)]; exact h1, h2⟩
theorem Kont.ext {α β : Type} {R : Rel α β} {Q : β → Hp → Prop} {a : α} {st : Store} (e : Ext F F' μ μ') (h : Kont K Z R F μ Q a st) : Kont K Z R F' μ' Q a st :=
  fun F2 μ2 H2 b e2 g r => h F2 μ2 H2 b (e.trans e2) g r
theorem KX.ext {e : Exc} {st : Store} (x : Ext F F' μ μ') (h : KX K Z F μ σ W e st) : KX K Z F' μ' σ W e st :=
  fun F2 μ2 H2 d e2 g r => h F2 μ2 H2 d (x.trans e2) g r
theorem post_ext {α β : Type} {R : Rel α β} {Q : β → Hp → Prop} {r : Res α} (e : Ext F F' μ μ') (h : r.post (Kont K Z R F μ Q) (KX K Z F μ σ W)) : r.post (Kont K Z R F' μ' Q) (KX K Z F' μ' σ W) :=
  Res.post_mono h (fun _ _ q => q.ext e) (fun _ _ q => q.ext e)
/-- the value that is there goes on -/
theorem Kont.now {α β : Type} {R : Rel α β} {Q : β → Hp → Prop} {a : α} {b : β} {st : Store} {H : Hp} (h : Kont K Z R F μ Q a st) (g : Good K Z F μ st H) (r : R K F μ a b) : Q b H := h F μ H b Ext.refl g r
/-- one reading, then another -/
theorem Sim.bind {α β α' β' : Type} {R : Rel α β} {R' : Rel α' β'} {t : St → Hp → (β → Hp → Prop) → Prop} {m : AEnv → Store → Res α} {m' : α → AEnv → Store → Res α'} {k : β → St → Hp → (β' → Hp → Prop) → Prop} (h : Sim K R W t m)
    (h' : ∀ (Z F : Hp) (μ : List Addr) (st : Store) (env : AEnv) (σ : St) (H : Hp) (Q : β' → Hp → Prop) (a : α) (b : β), Good K Z F μ st H → REnv K F μ env σ → R K F μ a b → (m' a env st).post (Kont K Z R' F μ Q) (KX K Z F μ σ W) → k b σ H Q) :
    Sim K R' W (fun σ H Q => t σ H fun b H1 => k b σ H1 Q) (fun env st => (m env st).bind fun a st1 => m' a env st1) := by
  intro Z F μ st env σ H Q g re hp
  rw [Res.post_bind] at hp
  refine h Z F μ st env σ H _ g re (Res.post_mono hp (fun a st1 q => ?_) fun _ _ q => q)
  intro F1 μ1 H1 b e1 g1 r1
  exact h' Z F1 μ1 st1 env σ H1 Q a b g1 (re.mono e1) r1 (post_ext e1 q)
end

/-! ### operations on values -/
abbrev Op1 := A → Store → Option (A × Store)
abbrev Op2 := A → A → Store → Option (A × Store)
abbrev OpN := List A → Store → Option (A × Store)
def SimV1 (K : PySem.W.Frag) (r : V → Hp → VK → Prop) (op : Op1) : Prop := ∀ (Z F : Hp) (μ : List Addr) (st st' : Store) (H : Hp) (a c : A) (x : V) (Q : VK), Good K Z F μ st H → Rep K F μ a x → op a st = some (c, st') → Kont K Z Rep F μ Q c st' → r x H Q
def SimV2 (K : PySem.W.Frag) (r : R2) (op : Op2) : Prop := ∀ (Z F : Hp) (μ : List Addr) (st st' : Store) (H : Hp) (a b c : A) (x y : V) (Q : VK), Good K Z F μ st H → Rep K F μ a x → Rep K F μ b y → op a b st = some (c, st') → Kont K Z Rep F μ Q c st' → r x y H Q
def SimVN (K : PySem.W.Frag) (r : List V → Hp → VK → Prop) (op : OpN) : Prop := ∀ (Z F : Hp) (μ : List Addr) (st st' : Store) (H : Hp) (as : List A) (c : A) (xs : List V) (Q : VK), Good K Z F μ st H → Reps K F μ as xs → op as st = some (c, st') → Kont K Z Rep F μ Q c st' → r xs H Q
def SimMt (K : PySem.W.Frag) (T : String) (r : V → List V → Hp → VK → Prop) (op : A → OpN) : Prop := ∀ (Z F : Hp) (μ : List Addr) (st st' : Store) (H : Hp) (a : A) (as : List A) (c : A) (x : V) (xs : List V) (Q : VK), Good K Z F μ st H → Rep K F μ a x → Reps K F μ as xs → op a as st = some (c, st') → Kont K Z Rep F μ Q c st' → tyV K T x H ∧ r x xs H Q
theorem SimV2.or {K : PySem.W.Frag} {r r' : R2} {op op' : Op2} (h : SimV2 K r op) (h' : SimV2 K r' op') : SimV2 K (fun x y H Q => r x y H Q ∨ r' x y H Q) (fun a b st => (op a b st).or (op' a b st)) := by
  intro Z F μ st st' H a b c x y Q g ra rb e k
  cases e1 : op a b st with
  | none => simp only [e1, Option.none_or] at e; exact .inr (h' Z F μ st st' H a b c x y Q g ra rb e k)
  | some p => simp only [e1, Option.some_or] at e; cases e; exact .inl (h Z F μ st st' H a b c x y Q g ra rb e1 k)
/-- a list made new: a cell, or known at once -/
def newL (mk : Bool) (xs : List A) (st : Store) : A × Store := if mk then (.cell st.length, st ++ [.lst xs]) else (.lst xs, st)
theorem newL_ok {K : PySem.W.Frag} {F : Hp} {μ : List Addr} {st : Store} {H : Hp} {mk : Bool} {xs : List A} {vs : List V} {Q : VK} {p : Addr} (g : Good K Z F μ st H) (hp : H p = none) (r : Reps K F μ xs vs)
    (k : Kont K Z Rep F μ Q (newL mk xs st).1 (newL mk xs st).2) : Q (.ref p) (upd H p (.lst vs)) := by
  cases mk with
  | true =>
    obtain ⟨g', e⟩ := g.push (p := p) (o := .lst vs) (c := .lst xs) hp ⟨vs, upd_same, r⟩
    exact k _ _ _ _ e g' (.cell (by rw [← g.len, List.getElem?_append_right (Nat.le_refl _), Nat.sub_self]; rfl))
  | false =>
    obtain ⟨g', e⟩ := g.known (p := p) (o := .lst vs) hp
    exact k _ _ _ _ e g' (.lst upd_same (r.mono e))
theorem newT_ok {K : PySem.W.Frag} {F : Hp} {μ : List Addr} {st : Store} {H : Hp} {xs : List A} {vs : List V} {Q : VK} {p : Addr} (g : Good K Z F μ st H) (hp : H p = none) (r : Reps K F μ xs vs)
    (k : Kont K Z Rep F μ Q (.tup xs) st) : Q (.ref p) (upd H p (.tup vs)) := by
  obtain ⟨g', e⟩ := g.known (p := p) (o := .tup vs) hp
  exact k _ _ _ _ e g' (.tup (SqT.of upd_same) (r.mono e))
/-- lists that stand tracked -/
def lstH : A → Store → Option (List A)
  | .lst xs, _ => some xs
  | .cell n, st => match st[n]? with
    | some (.lst xs) => some xs
    | _ => none
  | _, _ => none
theorem lstH_ok {K : PySem.W.Frag} {F : Hp} {μ : List Addr} {st : Store} {H : Hp} {a : A} {xs : List A} {v : V} (g : Good K Z F μ st H) (r : Rep K F μ a v) (h : lstH a st = some xs) : ∃ p vs, v = .ref p ∧ H p = some (.lst vs) ∧ Reps K F μ xs vs := by
  cases a with
  | lst ys =>
    cases h
    cases r with
    | lst h1 r => exact ⟨_, _, rfl, g.sub _ _ h1, r⟩
  | cell n =>
    cases r with
    | cell h1 =>
      have h : (match st[n]? with | some (.lst xs) => some xs | _ => none) = some xs := h
      cases e : st[n]? with
      | none => rw [e] at h; cases h
      | some c =>
        rw [e] at h
        cases c with
        | lst ys =>
          cases h
          obtain ⟨a, h2, h3, vs, h4, h5⟩ := g.cell n _ e (by intro z; cases z)
          rw [h1] at h2; cases h2
          exact ⟨_, vs, rfl, h4, h5⟩
        | _ => cases h
  | _ => cases h
/-- any list that is read -/
def lstR : A → Store → Option (List A)
  | .slst xs, _ => some xs
  | a, st => lstH a st
theorem lstR_ok {K : PySem.W.Frag} {F : Hp} {μ : List Addr} {st : Store} {H : Hp} {a : A} {xs : List A} {v : V} (g : Good K Z F μ st H) (r : Rep K F μ a v) (h : lstR a st = some xs) : ∃ p vs, v = .ref p ∧ SqL K H p vs ∧ Reps K F μ xs vs := by
  have key : lstH a st = some xs → ∃ p vs, v = .ref p ∧ SqL K H p vs ∧ Reps K F μ xs vs := fun h => by
    obtain ⟨p, vs, e, h1, h2⟩ := lstH_ok g r h
    exact ⟨p, vs, e, SqL.of h1, h2⟩
  cases a with
  | slst ys =>
    cases h
    cases r with
    | slst h1 r => exact ⟨_, _, rfl, SqL.mono g.sub h1, r⟩
  | _ => exact key h
/-- a tuple's items -/
def tupR : A → Option (List A)
  | .tup xs => some xs
  | _ => none
theorem tupR_ok {K : PySem.W.Frag} {F : Hp} {μ : List Addr} {st : Store} {H : Hp} {a : A} {xs : List A} {v : V} (g : Good K Z F μ st H) (r : Rep K F μ a v) (h : tupR a = some xs) : ∃ p vs, v = .ref p ∧ SqT K H p vs ∧ Reps K F μ xs vs := by
  cases a with
  | tup ys =>
    cases h
    cases r with
    | tup h1 r => exact ⟨_, _, rfl, SqT.mono g.sub h1, r⟩
  | _ => cases h
/-- a list or a tuple that is read -/
def seqR (a : A) (st : Store) : Option (List A) := (tupR a).or (lstR a st)
theorem seqR_ok {K : PySem.W.Frag} {F : Hp} {μ : List Addr} {st : Store} {H : Hp} {a : A} {xs : List A} {v : V} (g : Good K Z F μ st H) (r : Rep K F μ a v) (h : seqR a st = some xs) : ∃ p vs, v = .ref p ∧ (SqL K H p vs ∨ SqT K H p vs) ∧ Reps K F μ xs vs := by
  unfold seqR at h
  cases e : tupR a with
  | some ys =>
    rw [e] at h; cases h
    obtain ⟨p, vs, e, h1, h2⟩ := tupR_ok g r e
    exact ⟨p, vs, e, .inr h1, h2⟩
  | none =>
    rw [e] at h
    obtain ⟨p, vs, e, h1, h2⟩ := lstR_ok g r h
    exact ⟨p, vs, e, .inl h1, h2⟩

/-! ### arithmetic -/
section
variable {K : PySem.W.Frag}
theorem Kont.same {F : Hp} {μ : List Addr} {st : Store} {H : Hp} {Q : VK} {a : A} {v : V} (k : Kont K Z Rep F μ Q a st) (g : Good K Z F μ st H) (r : Rep K F μ a v) : Q v H := k.now g r
def iiOp (p : Int → Int → Option A) : Op2 := fun a b st => match a, b with
  | .int i, .int j => (p i j).map fun c => (c, st)
  | _, _ => none
theorem sim_ii {C : Int → Int → Prop} {g : Int → Int → V} {p : Int → Int → Option A} (h : ∀ i j c, p i j = some c → C i j ∧ ∀ F μ, Rep K F μ c (g i j)) : SimV2 K (rI C g) (iiOp p) := by
  intro Z F μ st st' H a b c x y Q gd ra rb e k
  cases a with
  | int i =>
    cases b with
    | int j =>
      cases ra; cases rb
      have e : (p i j).map (fun c => (c, st)) = some (c, st') := e
      cases q : p i j with
      | none => rw [q] at e; cases e
      | some c' =>
        rw [q] at e; cases e
        obtain ⟨h1, h2⟩ := h i j _ q
        exact ⟨i, j, rfl, rfl, h1, k.same gd (h2 _ _)⟩
    | _ => cases e
  | _ => cases e
theorem sim_ii0 {g : Int → Int → V} {p : Int → Int → A} (h : ∀ i j F μ, Rep K F μ (p i j) (g i j)) : SimV2 K (rI0 g) (iiOp fun i j => some (p i j)) := by
  intro Z F μ st st' H a b c x y Q gd ra rb e k
  cases a with
  | int i =>
    cases b with
    | int j => cases ra; cases rb; cases e; exact ⟨i, j, rfl, rfl, k.same gd (h _ _ _ _)⟩
    | _ => cases e
  | _ => cases e
def gd (c : Prop) [Decidable c] (a : A) : Option A := if c then some a else none
@[simp] theorem gd_true {c : Prop} [Decidable c] {a : A} (h : c) : gd c a = some a := if_pos h
theorem gd_some {c : Prop} [Decidable c] {a b : A} (h : gd c a = some b) : c ∧ b = a := by
  unfold gd at h
  split at h
  · cases h; exact ⟨by assumption, rfl⟩
  · cases h
instance (i j : Int) : Decidable (CMulW i j) := by unfold CMulW; infer_instance
instance (i j : Int) : Decidable (CDivN i j) := by unfold CDivN; infer_instance
instance (i j : Int) : Decidable (CDivW i j) := by unfold CDivW; infer_instance
instance (i j : Int) : Decidable (CPow i j) := by unfold CPow; infer_instance
/-! + -/
def addI : Op2 := iiOp fun i j => some (.int (i + j))
def addS : Op2 := fun a b st => match a, b with
  | .str x, .str y => (gd (x.length + y.length ≤ sizeLine) (.str (x ++ y))).map fun c => (c, st)
  | _, _ => none
def addL (mk : Bool) : Op2 := fun a b st => match lstH a st, lstH b st with
  | some xs, some ys => if xs.length + ys.length ≤ sizeLine then some (newL mk (xs ++ ys) st) else none
  | _, _ => none
def addT : Op2 := fun a b st => match a, b with
  | .tup xs, .tup ys => if xs ≠ [] ∧ xs.length + ys.length ≤ sizeLine then some (.tup (xs ++ ys), st) else none
  | _, _ => none
theorem sim_addI : SimV2 K (rI0 fun i j => .int (i + j)) addI := sim_ii0 fun i j _ _ => .int _
theorem sim_addS : SimV2 K (fun x y H Q => ∃ i j, x = .str i ∧ y = .str j ∧ i.length + j.length ≤ sizeLine ∧ Q (.str (i ++ j)) H) addS := by
  intro Z F μ st st' H a b c x y Q g ra rb e k
  cases a with
  | str i =>
    cases b with
    | str j =>
      cases ra; cases rb
      have e : (gd (i.length + j.length ≤ sizeLine) (.str (i ++ j))).map (fun c => (c, st)) = some (c, st') := e
      cases q : gd (i.length + j.length ≤ sizeLine) (.str (i ++ j)) with
      | none => rw [q] at e; cases e
      | some c' =>
        rw [q] at e; cases e
        obtain ⟨h1, rfl⟩ := gd_some q
        exact ⟨i, j, rfl, rfl, h1, k.same g (.str _)⟩
    | _ => cases e
  | _ => cases e
theorem sim_addL {mk : Bool} : SimV2 K rCat (addL mk) := by
  intro Z F μ st st' H a b c x y Q g ra rb e k
  unfold addL at e
  cases ea : lstH a st with
  | none => rw [ea] at e; cases e
  | some xs =>
    cases eb : lstH b st with
    | none => rw [ea, eb] at e; cases e
    | some ys =>
      rw [ea, eb] at e
      obtain ⟨p, vs, rfl, h1, r1⟩ := lstH_ok g ra ea
      obtain ⟨q, ws, rfl, h2, r2⟩ := lstH_ok g rb eb
      have e : (if xs.length + ys.length ≤ sizeLine then some (newL mk (xs ++ ys) st) else none) = some (c, st') := e
      by_cases hl : xs.length + ys.length ≤ sizeLine
      · rw [if_pos hl] at e
        have e1 : newL mk (xs ++ ys) st = (c, st') := Option.some.inj e
        refine ⟨p, q, vs, ws, rfl, rfl, h1, h2, by rw [← r1.length, ← r2.length]; exact hl, fun l hl => ?_⟩
        exact newL_ok (mk := mk) g hl (r1.append r2) (by rw [e1]; exact k)
      · rw [if_neg hl] at e; cases e
theorem sim_addT : SimV2 K (rCatT K) addT := by
  intro Z F μ st st' H a b c x y Q g ra rb e k
  cases a with
  | tup xs =>
    cases b with
    | tup ys =>
      have e : (if xs ≠ [] ∧ xs.length + ys.length ≤ sizeLine then some (A.tup (xs ++ ys), st) else none) = some (c, st') := e
      by_cases hl : xs ≠ [] ∧ xs.length + ys.length ≤ sizeLine
      · rw [if_pos hl] at e; cases e
        obtain ⟨p, vs, rfl, h1, r1⟩ := tupR_ok g ra rfl
        obtain ⟨q, ws, rfl, h2, r2⟩ := tupR_ok g rb rfl
        refine ⟨p, q, vs, ws, rfl, rfl, h1, h2, fun z => hl.1 (List.length_eq_zero_iff.mp (by rw [r1.length, z]; rfl)), by rw [← r1.length, ← r2.length]; exact hl.2, fun z => ?_, fun _ l hp => newT_ok g hp (r1.append r2) k⟩
        have ey : ys = [] := List.length_eq_zero_iff.mp (by rw [r2.length, z]; rfl)
        subst ey
        rw [List.append_nil] at k
        exact k.same g ra
      · rw [if_neg hl] at e; cases e
    | _ => cases e
  | _ => cases e
def rAddA (K : PySem.W.Frag) : R2 := fun x y H Q => (rI0 fun i j => .int (i + j)) x y H Q ∨ (∃ i j, x = .str i ∧ y = .str j ∧ i.length + j.length ≤ sizeLine ∧ Q (.str (i ++ j)) H) ∨ rCat x y H Q ∨ rCatT K x y H Q
def addOp (mk : Bool) : Op2 := fun a b st => (addI a b st).or ((addS a b st).or ((addL mk a b st).or (addT a b st)))
theorem sim_add {mk : Bool} : SimV2 K (rAddA K) (addOp mk) := SimV2.or sim_addI (SimV2.or sim_addS (SimV2.or sim_addL sim_addT))
theorem op_addA {X : Cx} : OpR X (binaryOp .Add) (rAddA X.K) := op_add.or (op_add_str.or (op_cat.or op_catT))
/-! - * // % ** -/
def subOp : Op2 := iiOp fun i j => some (.int (i - j))
theorem sim_sub : SimV2 K (rI0 fun i j => .int (i - j)) subOp := sim_ii0 fun i j _ _ => .int _
def mulI : Op2 := iiOp fun i j => gd (CMulW i j) (.int (i * j))
theorem sim_mulI : SimV2 K (rI CMulW fun i j => .int (i * j)) mulI := sim_ii fun i j c h => by
  obtain ⟨h1, rfl⟩ := gd_some h
  exact ⟨h1, fun _ _ => .int _⟩
def mulL (mk : Bool) : Op2 := fun a b st => match lstH a st, b with
  | some xs, .int k => if -(2 ^ 63) ≤ k ∧ k < 2 ^ 63 ∧ xs.length * k.toNat ≤ sizeLine then some (newL mk (List.replicate k.toNat xs).flatten st) else none
  | _, _ => none
theorem sim_mulL {mk : Bool} : SimV2 K rRep (mulL mk) := by
  intro Z F μ st st' H a b c x y Q g ra rb e k
  unfold mulL at e
  cases ea : lstH a st with
  | none => rw [ea] at e; cases e
  | some xs =>
    rw [ea] at e
    cases b with
    | int n =>
      cases rb
      obtain ⟨p, vs, rfl, h1, r1⟩ := lstH_ok g ra ea
      have e : (if -(2 ^ 63) ≤ n ∧ n < 2 ^ 63 ∧ xs.length * n.toNat ≤ sizeLine then some (newL mk (List.replicate n.toNat xs).flatten st) else none) = some (c, st') := e
      by_cases hl : -(2 ^ 63) ≤ n ∧ n < 2 ^ 63 ∧ xs.length * n.toNat ≤ sizeLine
      · rw [if_pos hl] at e
        have e1 : newL mk (List.replicate n.toNat xs).flatten st = (c, st') := Option.some.inj e
        refine ⟨p, n, vs, rfl, rfl, h1, hl.1, hl.2.1, by rw [← r1.length]; exact hl.2.2, fun l hl => ?_⟩
        exact newL_ok (mk := mk) g hl (r1.rep _) (by rw [e1]; exact k)
      · rw [if_neg hl] at e; cases e
    | _ => cases e
def rMulA : R2 := fun x y H Q => (rI CMulW fun i j => .int (i * j)) x y H Q ∨ rRep x y H Q
def mulOp (mk : Bool) : Op2 := fun a b st => (mulI a b st).or (mulL mk a b st)
theorem sim_mul {mk : Bool} : SimV2 K rMulA (mulOp mk) := SimV2.or sim_mulI sim_mulL
theorem op_mulA {X : Cx} : OpR X (binaryOp .Mult) rMulA := op_mulW.or op_rep
def fdivN : Op2 := iiOp fun i j => gd (CDivN i j) (.int (i.fdiv j))
def fdivW : Op2 := iiOp fun i j => gd (CDivW i j) (.int (i.fdiv j))
theorem sim_fdivN : SimV2 K (rI CDivN fun i j => .int (i.fdiv j)) fdivN := sim_ii fun i j c h => by
  obtain ⟨h1, rfl⟩ := gd_some h
  exact ⟨h1, fun _ _ => .int _⟩
theorem sim_fdivW : SimV2 K (rI CDivW fun i j => .int (i / j)) fdivW := sim_ii fun i j c h => by
  obtain ⟨h1, rfl⟩ := gd_some h
  exact ⟨h1, fun _ _ => by rw [Int.fdiv_eq_ediv_of_nonneg _ (Int.le_of_lt h1.1)]; exact .int _⟩
def rFdivA : R2 := fun x y H Q => (rI CDivN fun i j => .int (i.fdiv j)) x y H Q ∨ (rI CDivW fun i j => .int (i / j)) x y H Q
def fdivOp : Op2 := fun a b st => (fdivN a b st).or (fdivW a b st)
theorem sim_fdiv : SimV2 K rFdivA fdivOp := SimV2.or sim_fdivN sim_fdivW
theorem op_fdivA {X : Cx} : OpR X (binaryOp .FloorDiv) rFdivA := op_fdivN.or op_fdivW
def modOp : Op2 := iiOp fun i j => gd (j ≠ 0) (.int (i.fmod j))
theorem sim_mod : SimV2 K (rI (fun _ j => j ≠ 0) fun i j => .int (i.fmod j)) modOp := sim_ii fun i j c h => by
  obtain ⟨h1, rfl⟩ := gd_some h
  exact ⟨h1, fun _ _ => .int _⟩
def powOp : Op2 := iiOp fun i j => gd (CPow i j) (.int (i ^ j.toNat))
theorem sim_pow : SimV2 K (rI CPow fun i j => .int (i ^ j.toNat)) powOp := sim_ii fun i j c h => by
  obtain ⟨h1, rfl⟩ := gd_some h
  exact ⟨h1, fun _ _ => .int _⟩
/-! comparisons -/
def ltOp : Op2 := iiOp fun i j => some (.bl (decide (i < j)))
def leOp : Op2 := iiOp fun i j => some (.bl (decide (i ≤ j)))
def gtOp : Op2 := iiOp fun i j => some (.bl (decide (j < i)))
def geOp : Op2 := iiOp fun i j => some (.bl (decide (j ≤ i)))
theorem sim_lt : SimV2 K (rI0 fun i j => .bl (decide (i < j))) ltOp := sim_ii0 fun i j _ _ => .bl _
theorem sim_le : SimV2 K (rI0 fun i j => .bl (decide (i ≤ j))) leOp := sim_ii0 fun i j _ _ => .bl _
theorem sim_gt : SimV2 K (rI0 fun i j => .bl (decide (j < i))) gtOp := sim_ii0 fun i j _ _ => .bl _
theorem sim_ge : SimV2 K (rI0 fun i j => .bl (decide (j ≤ i))) geOp := sim_ii0 fun i j _ _ => .bl _
/-- all, or nothing -/
def optAll {α β : Type} (f : α → Option β) : List α → Option (List β)
  | [] => some []
  | x :: xs => match f x, optAll f xs with
    | some y, some ys => some (y :: ys)
    | _, _ => none
/-- plain data -/
def toD (st : Store) : Nat → A → Option PyData
  | _, .non => some .none
  | _, .bl b => some (.bool b)
  | _, .int i => some (.int i)
  | _, .str s => some (.str s)
  | n + 1, .lst xs => (optAll (toD st n) xs).map .list
  | n + 1, .slst xs => (optAll (toD st n) xs).map .list
  | n + 1, .tup xs => (optAll (toD st n) xs).map .tuple
  | n + 1, .cell c => match st[c]? with
    | some (.lst xs) => (optAll (toD st n) xs).map .list
    | _ => none
  | _, _ => none
theorem optAll_dp {F : Hp} {μ : List Addr} {H : Hp} {f : A → Option PyData} (h : ∀ a d v, f a = some d → Rep K F μ a v → Dp K H v d) : ∀ {xs : List A} {ds : List PyData} {vs : List V}, optAll f xs = some ds → Reps K F μ xs vs → DpAll K H vs ds
  | [], _, _, e, r => by cases e; cases r; exact .nil
  | x :: xs, ds, _, e, .cons r t => by
    unfold optAll at e
    cases e1 : f x with
    | none => rw [e1] at e; cases e
    | some y =>
      cases e2 : optAll f xs with
      | none => rw [e1, e2] at e; cases e
      | some ys =>
        rw [e1, e2] at e; cases e
        exact .cons (h _ _ _ e1 r) (optAll_dp h e2 t)
theorem toD_ok {F : Hp} {μ : List Addr} {st : Store} {H : Hp} (g : Good K Z F μ st H) : ∀ (n : Nat) (a : A) (d : PyData) (v : V), toD st n a = some d → Rep K F μ a v → Dp K H v d := by
  intro n
  induction n with
  | zero =>
    intro a d v e r
    cases a with
    | non => cases e; cases r; exact .non
    | bl b => cases e; cases r; exact .bl b
    | int i => cases e; cases r; exact .int i
    | str s => cases e; cases r; exact .str s
    | _ => cases e
  | succ n ih =>
    intro a d v e r
    have lists : ∀ xs : List A, (optAll (toD st n) xs).map PyData.list = some d → (∃ p vs, v = .ref p ∧ SqL K H p vs ∧ Reps K F μ xs vs) → Dp K H v d := by
      rintro xs e ⟨p, vs, rfl, h1, h2⟩
      cases e1 : optAll (toD st n) xs with
      | none => rw [e1] at e; cases e
      | some ds => rw [e1] at e; cases e; exact .lst h1 (optAll_dp ih e1 h2)
    cases a with
    | non => cases e; cases r; exact .non
    | bl b => cases e; cases r; exact .bl b
    | int i => cases e; cases r; exact .int i
    | str s => cases e; cases r; exact .str s
    | lst xs => exact lists xs e (lstR_ok g r rfl)
    | slst xs => exact lists xs e (lstR_ok g r rfl)
    | tup xs =>
      obtain ⟨p, vs, rfl, h1, h2⟩ := tupR_ok g r rfl
      have e : (optAll (toD st n) xs).map PyData.tuple = some d := e
      cases e1 : optAll (toD st n) xs with
      | none => rw [e1] at e; cases e
      | some ds => rw [e1] at e; cases e; exact .tup h1 (optAll_dp ih e1 h2)
    | cell c =>
      have e : (match st[c]? with | some (.lst xs) => (optAll (toD st n) xs).map .list | _ => none) = some d := e
      cases e1 : st[c]? with
      | none => rw [e1] at e; cases e
      | some cc =>
        cases cc with
        | lst xs => rw [e1] at e; exact lists xs e (lstR_ok g r (by simp only [lstR, lstH, e1]))
        | _ => rw [e1] at e; cases e
    | _ => cases e
/-- == of data -/
def eqD (neg : Bool) : Op2 := fun a b st => match toD st 50 a, toD st 50 b with
  | some d, some e => if SeqAt.shaped d = true ∧ SeqAt.shaped e = true then some (.bl (if neg then !PyData.eqv d e else PyData.eqv d e), st) else none
  | _, _ => none
theorem eqD_ok {neg : Bool} {F : Hp} {μ : List Addr} {st st' : Store} {H : Hp} {a b c : A} {x y : V} (g : Good K Z F μ st H) (ra : Rep K F μ a x) (rb : Rep K F μ b y) (e : eqD neg a b st = some (c, st')) :
    ∃ d e, Dp K H x d ∧ Dp K H y e ∧ SeqAt.shaped d = true ∧ SeqAt.shaped e = true ∧ c = .bl (if neg then !PyData.eqv d e else PyData.eqv d e) ∧ st' = st := by
  unfold eqD at e
  cases e1 : toD st 50 a with
  | none => rw [e1] at e; cases e
  | some d =>
    cases e2 : toD st 50 b with
    | none => rw [e1, e2] at e; cases e
    | some d' =>
      rw [e1, e2] at e
      have e : (if SeqAt.shaped d = true ∧ SeqAt.shaped d' = true then some (A.bl (if neg then !PyData.eqv d d' else PyData.eqv d d'), st) else none) = some (c, st') := e
      by_cases hs : SeqAt.shaped d = true ∧ SeqAt.shaped d' = true
      · rw [if_pos hs] at e; cases e
        exact ⟨d, d', toD_ok g _ _ _ _ e1 ra, toD_ok g _ _ _ _ e2 rb, hs.1, hs.2, rfl, rfl⟩
      · rw [if_neg hs] at e; cases e
theorem sim_eqD : SimV2 K (rEqD K) (eqD false) := by
  intro Z F μ st st' H a b c x y Q g ra rb e k
  obtain ⟨d, e', h1, h2, h3, h4, rfl, rfl⟩ := eqD_ok g ra rb e
  exact ⟨d, e', h1, h2, h3, h4, k.same g (.bl _)⟩
theorem sim_neD : SimV2 K (rNeD K) (eqD true) := by
  intro Z F μ st st' H a b c x y Q g ra rb e k
  obtain ⟨d, e', h1, h2, h3, h4, rfl, rfl⟩ := eqD_ok g ra rb e
  exact ⟨d, e', h1, h2, h3, h4, k.same g (.bl _)⟩
/-- scalars -/
def eqSc (neg : Bool) : Op2 := fun a b st => match a, b with
  | .int i, .int j => some (.bl (if neg then !decide (i = j) else decide (i = j)), st)
  | .str i, .str j => some (.bl (if neg then !decide (i = j) else decide (i = j)), st)
  | .bl i, .bl j => some (.bl (if neg then !decide (i = j) else decide (i = j)), st)
  | _, _ => none
theorem dV_int {i j : Int} : decide (V.int i = V.int j) = decide (i = j) := by by_cases h : i = j <;> simp [h]
theorem dV_str {i j : Str} : decide (V.str i = V.str j) = decide (i = j) := by by_cases h : i = j <;> simp [h]
theorem dV_bl {i j : Bool} : decide (V.bl i = V.bl j) = decide (i = j) := by by_cases h : i = j <;> simp [h]
theorem sim_eqSc : SimV2 K rEq (eqSc false) := by
  intro Z F μ st st' H a b c x y Q g ra rb e k
  cases a <;> cases b <;> first
    | cases e; done
    | (cases ra; cases rb; cases e; refine ⟨rfl, ?_⟩; first | rw [dV_int] | rw [dV_str] | rw [dV_bl]
       exact k.same g (.bl _))
theorem sim_neSc : SimV2 K rNe (eqSc true) := by
  intro Z F μ st st' H a b c x y Q g ra rb e k
  cases a <;> cases b <;> first
    | cases e; done
    | (cases ra; cases rb; cases e; refine ⟨rfl, ?_⟩; first | rw [dV_int] | rw [dV_str] | rw [dV_bl]
       exact k.same g (.bl _))
def eqOp : Op2 := fun a b st => (eqSc false a b st).or (eqD false a b st)
def neOp : Op2 := fun a b st => (eqSc true a b st).or (eqD true a b st)
def rEqA (K : PySem.W.Frag) : R2 := fun x y H Q => rEq x y H Q ∨ rEqD K x y H Q
def rNeA (K : PySem.W.Frag) : R2 := fun x y H Q => rNe x y H Q ∨ rNeD K x y H Q
theorem sim_eq : SimV2 K (rEqA K) eqOp := SimV2.or sim_eqSc sim_eqD
theorem sim_ne : SimV2 K (rNeA K) neOp := SimV2.or sim_neSc sim_neD
/-! is, in -/
/-- x is None -/
def isN0 (neg : Bool) : Op2 := fun a b st => match b with
  | .non => (match a with
    | .non => some (.bl (!neg), st)
    | .cell _ => none
    | _ => some (.bl neg, st))
  | _ => none
/-- x is True, of a bool x -/
def isB0 (neg : Bool) : Op2 := fun a b st => match a, b with
  | .bl x, .bl y => some (.bl (if neg then !decide (x = y) else decide (x = y)), st)
  | _, _ => none
def isNOp (neg : Bool) : Op2 := fun a b st => (isN0 neg a b st).or (isB0 neg a b st)
theorem isN_ok {neg : Bool} {F : Hp} {μ : List Addr} {st st' : Store} {a b c : A} {x y : V} (ra : Rep K F μ a x) (rb : Rep K F μ b y) (e : isN0 neg a b st = some (c, st')) :
    y = .non ∧ c = .bl (if neg then !decide (x = .non) else decide (x = .non)) ∧ st' = st := by
  cases b with
  | non =>
    cases rb
    refine ⟨rfl, ?_⟩
    cases a <;> cases ra <;> cases e <;> cases neg <;> simp
  | _ => cases e
theorem isB_ok {neg : Bool} {F : Hp} {μ : List Addr} {st st' : Store} {a b c : A} {x y : V} (ra : Rep K F μ a x) (rb : Rep K F μ b y) (e : isB0 neg a b st = some (c, st')) :
    ∃ p q : Bool, x = .bl p ∧ y = .bl q ∧ c = .bl (if neg then !decide (p = q) else decide (p = q)) ∧ st' = st := by
  cases a <;> cases b <;> first | (cases e; done) | (cases ra; cases rb; cases e; exact ⟨_, _, rfl, rfl, rfl, rfl⟩)
def rIsA : R2 := fun x y H Q => (y = .non ∧ Q (.bl (decide (x = .non))) H) ∨ rIsB x y H Q
def rNotA : R2 := fun x y H Q => (y = .non ∧ Q (.bl (!decide (x = .non))) H) ∨ rNotB x y H Q
theorem sim_isN : SimV2 K rIsA (isNOp false) := SimV2.or (r := fun x y H Q => y = .non ∧ Q (.bl (decide (x = .non))) H) (fun Z F μ st st' H a b c x y Q g ra rb e k => by
  obtain ⟨h1, rfl, rfl⟩ := isN_ok ra rb e
  exact ⟨h1, k.same g (.bl _)⟩) (fun Z F μ st st' H a b c x y Q g ra rb e k => by
  obtain ⟨p, q, rfl, rfl, rfl, rfl⟩ := isB_ok ra rb e
  exact ⟨p, q, rfl, rfl, k.same g (.bl _)⟩)
theorem sim_notN : SimV2 K rNotA (isNOp true) := SimV2.or (r := fun x y H Q => y = .non ∧ Q (.bl (!decide (x = .non))) H) (fun Z F μ st st' H a b c x y Q g ra rb e k => by
  obtain ⟨h1, rfl, rfl⟩ := isN_ok ra rb e
  exact ⟨h1, k.same g (.bl _)⟩) (fun Z F μ st st' H a b c x y Q g ra rb e k => by
  obtain ⟨p, q, rfl, rfl, rfl, rfl⟩ := isB_ok ra rb e
  exact ⟨p, q, rfl, rfl, k.same g (.bl _)⟩)
/-! truth -/
def truA (st : Store) : A → Option Bool
  | .non => some false
  | .bl b => some b
  | .int i => some (i != 0)
  | .str y => if y.length ≤ sizeLine then some ((y.length : Int) != 0) else none
  | .dct ks _ => some (!ks.isEmpty)
  | .cell n => match st[n]? with
    | some (.lst xs) => some (!xs.isEmpty)
    | some (.dct ks _) => some (!ks.isEmpty)
    | _ => none
  | a => (seqR a st).map fun xs => !xs.isEmpty
theorem isEmpty_len {α β : Type} {xs : List α} {ys : List β} (h : xs.length = ys.length) : xs.isEmpty = ys.isEmpty := by
  cases xs <;> cases ys <;> simp_all
theorem seq_tru {F : Hp} {μ : List Addr} {st : Store} {H : Hp} {a : A} {x : V} {b : Bool} (g : Good K Z F μ st H) (r : Rep K F μ a x) (h : (seqR a st).map (fun xs => !xs.isEmpty) = some b) : TruV K x H b := by
  cases e : seqR a st with
  | none => rw [e] at h; cases h
  | some xs =>
    rw [e] at h; cases h
    obtain ⟨p, vs, rfl, h1, r1⟩ := seqR_ok g r e
    rcases h1 with h1 | h1
    · exact .inl ⟨vs, h1, congrArg (fun b => !b) (isEmpty_len r1.length)⟩
    · exact .inr (.inl ⟨vs, h1, congrArg (fun b => !b) (isEmpty_len r1.length)⟩)
theorem tru_of {F : Hp} {μ : List Addr} {st : Store} {H : Hp} {a : A} {x : V} {b : Bool} (g : Good K Z F μ st H) (r : Rep K F μ a x) (h : truA st a = some b) : TruV K x H b := by
  cases a with
  | non => cases h; cases r; rfl
  | bl b => cases h; cases r; rfl
  | int i => cases h; cases r; rfl
  | str y =>
    cases r
    have h : (if y.length ≤ sizeLine then some ((y.length : Int) != 0) else none) = some b := h
    by_cases hl : y.length ≤ sizeLine
    · rw [if_pos hl] at h; cases h; exact ⟨hl, rfl⟩
    · rw [if_neg hl] at h; cases h
  | dct ks vs =>
    cases h
    cases r with
    | dct h1 h2 r =>
      rename_i kvs
      exact .inr (.inr ⟨_, g.sub _ _ h1, by rw [isEmpty_len (α := Key) (β := Key × V) (by rw [← h2, List.length_map])]⟩)
  | xcp a d c ns vs => cases h
  | cell n =>
    have h : (match st[n]? with | some (.lst xs) => some (!xs.isEmpty) | some (.dct ks _) => some (!ks.isEmpty) | _ => none) = some b := h
    cases e : st[n]? with
    | none => rw [e] at h; cases h
    | some c =>
      rw [e] at h
      cases c with
      | lst xs =>
        refine seq_tru (a := .cell n) g r ?_
        have : seqR (.cell n) st = some xs := by simp [seqR, tupR, lstR, lstH, e]
        rw [this]; exact h
      | dct ks vs =>
        cases h
        cases r with
        | cell h1 =>
          obtain ⟨a, h2, _, kvs, h4, h5, _⟩ := g.cell n _ e (by intro z; cases z)
          rw [h1] at h2; cases h2
          exact .inr (.inr ⟨kvs, h4, by rw [isEmpty_len (α := Key) (β := Key × V) (by rw [← h5, List.length_map])]⟩)
      | _ => cases h
  | lst xs => exact seq_tru g r h
  | slst xs => exact seq_tru g r h
  | tup xs => exact seq_tru g r h
  | ty n => cases h
  | glo x => cases h
  | obj c ns vs => cases h
end
end SL

set_option Elab.async false
set_option linter.all false
set_option maxRecDepth 100000
set_option maxHeartbeats 4000000
/-! SLc: expressions, calls, a def. -/
namespace SL
open PySem PySem.Spec L2
open PyProof.Rows hiding St

section
variable {Γ : G} {X : Cx}
theorem CtxOk.vis (h : CtxOk Γ X) {x : Str} (v : Vis Γ.sc x) : Vis X.env.scope x := by rw [h.sc]; exact v
theorem CtxOk.gl (h : CtxOk Γ X) {x : Str} (v : Γ.sc.names.lookup x = some .globalImplicit) : Gl X x := by unfold Gl Env.kindOf; rw [h.sc]; exact v
theorem CtxOk.mgn (h : CtxOk Γ X) {x : Str} {o : Option Value} (v : Γ.mg x = o) : X.mg x = o := by rw [h.mg]; exact v
theorem CtxOk.name (h : CtxOk Γ X) {x : Str} {i : Nat} (v : Γ.N[i]? = some x) : X.N[i]? = some x := by rw [h.N]; exact v
end

/-! ### names, constants -/
def eVar (i : Nat) : AEnv → Store → Res A := fun env st => match env[i]? with
  | some (some a) => .ok a st
  | _ => .stuck
def eC (a : A) : AEnv → Store → Res A := fun _ st => .ok a st
section
variable {Γ : G}
theorem sim_var {K : PySem.W.Frag} {W : WX} {i : Nat} : Sim K Rep W (tVar i) (eVar i) := by
  intro Z F μ st env σ H Q g re h
  unfold eVar at h
  cases e : env[i]? with
  | none => rw [e] at h; exact h.elim
  | some o =>
    cases o with
    | none => rw [e] at h; exact h.elim
    | some a =>
      rw [e] at h
      obtain ⟨v, h1, h2⟩ := re.at_ i a e
      exact ⟨v, h1, Kont.now h g h2⟩
theorem s_var {i : Nat} {x : Str} {pos : Pos} (hN : Γ.N[i]? = some x) (hv : Vis Γ.sc x) (hd : (x == ("__debug__" : Str)) = false := by decide) (hcd : (x == ("__classdict__" : Str)) = false := by decide) : SE Γ (.Name x pos) (eVar i) :=
  ⟨fun W => ⟨_, sim_var, fun X c _ => pe_var (c.name hN) (c.vis hv) hd hcd⟩⟩
theorem sim_c {K : PySem.W.Frag} {W : WX} {a : A} {v : V} (h : ∀ F μ, Rep K F μ a v) : Sim K Rep W (tC v) (eC a) := fun Z F μ st env σ H Q g re q => Kont.now (show Kont K Z Rep F μ Q a st from q) g (h _ _)
theorem s_int {i : Int} {j pos} : SE Γ (.Constant (.int i) j pos) (eC (.int i)) := ⟨fun W => ⟨_, sim_c fun _ _ => .int i, fun X c _ => pe_int⟩⟩
theorem s_bl {i : Bool} {j pos} : SE Γ (.Constant (.bool i) j pos) (eC (.bl i)) := ⟨fun W => ⟨_, sim_c fun _ _ => .bl i, fun X c _ => pe_bl⟩⟩
theorem s_str {i : Str} {j pos} : SE Γ (.Constant (.str i) j pos) (eC (.str i)) := ⟨fun W => ⟨_, sim_c fun _ _ => .str i, fun X c _ => pe_str⟩⟩
theorem s_non {j pos} : SE Γ (.Constant .none j pos) (eC .non) := ⟨fun W => ⟨_, sim_c fun _ _ => .non, fun X c _ => pe_non⟩⟩
/-- a def or class of the module as a value -/
theorem s_glo {x : Str} {pos : Pos} (hg : Γ.sc.names.lookup x = some .globalImplicit) (hm : Γ.mg x = some (.ref (He.ga Γ.K x))) (hd : (x == ("__debug__" : Str)) = false := by decide) : SE Γ (.Name x pos) (eC (.glo x)) :=
  ⟨fun W => ⟨_, sim_c fun _ _ => .glo x, fun X c _ => pe_glob (c.gl hg) (c.mgn hm) rfl hd⟩⟩
/-- a module's int -/
theorem s_gint {x : Str} {i : Int} {pos : Pos} (hg : Γ.sc.names.lookup x = some .globalImplicit) (hm : ∃ t, Γ.mg x = some (.int i t)) (hd : (x == ("__debug__" : Str)) = false := by decide) : SE Γ (.Name x pos) (eC (.int i)) :=
  let ⟨_, hm⟩ := hm
  ⟨fun W => ⟨_, sim_c fun _ _ => .int i, fun X c _ => pe_glob (c.gl hg) (c.mgn hm) ⟨_, rfl⟩ hd⟩⟩
/-- a builtin type as a value -/
theorem s_ty {x : Str} {n : String} {pos : Pos} (hg : Γ.sc.names.lookup x = some .globalImplicit) (hm : Γ.mg x = none) (hv : bootBuiltins x = some (.type n)) (hn : x ≠ "__name__" := by decide) (hd : (x == ("__debug__" : Str)) = false := by decide) : SE Γ (.Name x pos) (eC (.ty n)) :=
  ⟨fun W => ⟨_, sim_c fun _ _ => .ty n, fun X c _ => pe_bltn (c.gl hg) (c.mgn hm) hv rfl hn hd⟩⟩

/-! ### operators -/
def eBin (op : Op2) (ma mb : AEnv → Store → Res A) : AEnv → Store → Res A := fun env st => (ma env st).bind fun a st1 => (mb env st1).bind fun b st2 => Res.of (op a b st2)
def eUn (op : Op1) (ma : AEnv → Store → Res A) : AEnv → Store → Res A := fun env st => (ma env st).bind fun a st1 => Res.of (op a st1)
theorem sim_bin {K : PySem.W.Frag} {W : WX} {r : R2} {op : Op2} {ta tb : TE} {ma mb : AEnv → Store → Res A} (h : SimV2 K r op) (ha : Sim K Rep W ta ma) (hb : Sim K Rep W tb mb) : Sim K Rep W (tOp r ta tb) (eBin op ma mb) :=
  Sim.bind (k := fun x σ H Q => tb σ H fun y H2 => r x y H2 Q) (m' := fun a env st1 => (mb env st1).bind fun b st2 => Res.of (op a b st2)) ha fun Z F μ st env σ H Q a x g re ra hp => by
    rw [Res.post_bind] at hp
    refine hb Z F μ st env σ H _ g re (Res.post_mono hp (fun b st2 q => ?_) fun _ _ q => q)
    intro F1 μ1 H1 y e1 g1 rb
    obtain ⟨c, st3, e, k⟩ := Res.post_of q
    exact h Z F1 μ1 st2 st3 H1 a b c x y Q g1 (ra.mono e1) rb e (k.ext e1)
theorem sim_un {K : PySem.W.Frag} {W : WX} {r : V → Hp → VK → Prop} {op : Op1} {ta : TE} {ma : AEnv → Store → Res A} (h : SimV1 K r op) (ha : Sim K Rep W ta ma) : Sim K Rep W (tUn r ta) (eUn op ma) :=
  Sim.bind (k := fun x σ H Q => r x H Q) (m' := fun a env st1 => Res.of (op a st1)) ha fun Z F μ st env σ H Q a x g re ra hp => by
    obtain ⟨c, st3, e, k⟩ := Res.post_of hp
    exact h Z F μ st st3 H a c x Q g ra e k
variable {a b e : Expr} {ma mb mc : AEnv → Store → Res A} {pos : Pos}
theorem s_bin {o : Operator} {r : PySem.W.Frag → R2} {op : Op2} (ho : ∀ X : Cx, OpR X (binaryOp o) (r X.K)) (hs : SimV2 Γ.K (r Γ.K) op) (ha : SE Γ a ma) (hb : SE Γ b mb) : SE Γ (.BinOp a o b pos) (eBin op ma mb) :=
  ⟨fun W => by
    obtain ⟨ta, sa, pa⟩ := ha.run W
    obtain ⟨tb, sb, pb⟩ := hb.run W
    refine ⟨_, sim_bin hs sa sb, fun X c t => ?_⟩
    rw [← c.K]
    exact pe_op (ho X) (pa X c t) (pb X c t)⟩
theorem s_add {mk : Bool} (ha : SE Γ a ma) (hb : SE Γ b mb) : SE Γ (.BinOp a .Add b pos) (eBin (addOp mk) ma mb) := s_bin (fun _ => op_addA) sim_add ha hb
theorem s_sub (ha : SE Γ a ma) (hb : SE Γ b mb) : SE Γ (.BinOp a .Sub b pos) (eBin subOp ma mb) := s_bin (r := fun _ => _) (fun _ => op_sub) sim_sub ha hb
theorem s_mul {mk : Bool} (ha : SE Γ a ma) (hb : SE Γ b mb) : SE Γ (.BinOp a .Mult b pos) (eBin (mulOp mk) ma mb) := s_bin (r := fun _ => _) (fun _ => op_mulA) sim_mul ha hb
theorem s_fdiv (ha : SE Γ a ma) (hb : SE Γ b mb) : SE Γ (.BinOp a .FloorDiv b pos) (eBin fdivOp ma mb) := s_bin (r := fun _ => _) (fun _ => op_fdivA) sim_fdiv ha hb
theorem s_mod (ha : SE Γ a ma) (hb : SE Γ b mb) : SE Γ (.BinOp a .Mod b pos) (eBin modOp ma mb) := s_bin (r := fun _ => _) (fun _ => op_modN) sim_mod ha hb
theorem s_pow (ha : SE Γ a ma) (hb : SE Γ b mb) : SE Γ (.BinOp a .Pow b pos) (eBin powOp ma mb) := s_bin (r := fun _ => _) (fun _ => op_pow) sim_pow ha hb
def negOp : Op1 := fun a st => match a with
  | .int i => some (.int (-i), st)
  | _ => none
theorem sim_neg {K : PySem.W.Frag} : SimV1 K (rU fun i => .int (-i)) negOp := by
  intro Z F μ st st' H a c x Q g ra e k
  cases a with
  | int i => cases ra; cases e; exact ⟨i, rfl, k.same g (.int _)⟩
  | _ => cases e
theorem s_neg (ha : SE Γ a ma) : SE Γ (.UnaryOp .USub a pos) (eUn negOp ma) :=
  ⟨fun W => by
    obtain ⟨ta, sa, pa⟩ := ha.run W
    exact ⟨_, sim_un sim_neg sa, fun X c t => pe_un un_neg (pa X c t)⟩⟩

/-! ### comparisons, tests -/
def asB (a : A) (st : Store) : Res Bool := match a with
  | .bl b => .ok b st
  | _ => .stuck
def tOf (m : AEnv → Store → Res A) : AEnv → Store → Res Bool := fun env st => (m env st).bind asB
theorem sim_test {K : PySem.W.Frag} {W : WX} {t : TE} {m : AEnv → Store → Res A} (h : Sim K Rep W t m) : Sim K RepB W (tTest t) (tOf m) :=
  Sim.bind (R' := RepB) (k := fun x σ H Q => ∃ k, x = V.bl k ∧ Q k H) (m' := fun a env st1 => asB a st1) h fun Z F μ st env σ H Q a x g re ra hp => by
    cases a with
    | bl b => cases ra; exact ⟨b, rfl, Kont.now (show Kont K Z RepB F μ Q b st from hp) g rfl⟩
    | _ => exact hp.elim
theorem s_cmp {o : CmpOp} {r : PySem.W.Frag → R2} {op : Op2} (ho : ∀ X : Cx, CtxOk Γ X → OpR X (compareOp o) (r X.K)) (hs : SimV2 Γ.K (r Γ.K) op) (ha : SE Γ a ma) (hb : SE Γ b mb) (hm : behindInMarks o b = false) : SE Γ (.Compare a [o] [b] pos) (eBin op ma mb) :=
  ⟨fun W => by
    obtain ⟨ta, sa, pa⟩ := ha.run W
    obtain ⟨tb, sb, pb⟩ := hb.run W
    refine ⟨_, sim_bin hs sa sb, fun X c t => ?_⟩
    rw [← c.K]
    exact pe_cmpR (ho X c) (pa X c t) (pb X c t) hm⟩
theorem t_cmp {o : CmpOp} {r : PySem.W.Frag → R2} {op : Op2} (ho : ∀ X : Cx, CtxOk Γ X → OpR X (compareOp o) (r X.K)) (hs : SimV2 Γ.K (r Γ.K) op) (ha : SE Γ a ma) (hb : SE Γ b mb) (hm : behindInMarks o b = false) : ST Γ (.Compare a [o] [b] pos) (tOf (eBin op ma mb)) :=
  ⟨fun W => by
    obtain ⟨ta, sa, pa⟩ := ha.run W
    obtain ⟨tb, sb, pb⟩ := hb.run W
    refine ⟨_, sim_test (sim_bin hs sa sb), fun X c t => ?_⟩
    rw [← c.K]
    exact pt_cmpR (ho X c) (pa X c t) (pb X c t) hm⟩
/-- an operator of comparison, with its plain function -/
structure Cop (o : CmpOp) (op : Op2) : Prop where
  ex : ∃ r : PySem.W.Frag → R2, (∀ (Γ : G) (X : Cx), CtxOk Γ X → OpR X (compareOp o) (r X.K)) ∧ ∀ K, SimV2 K (r K) op
  nm : ∀ b, o = .In ∨ o = .NotIn ∨ behindInMarks o b = false
theorem c_eq : Cop .Eq eqOp := ⟨⟨rEqA, fun Γ X c => op_eq.or (op_eqD c.units), fun _ => sim_eq⟩, fun b => .inr (.inr (nomark b))⟩
theorem c_ne : Cop .NotEq neOp := ⟨⟨rNeA, fun Γ X c => op_ne.or (op_neD c.units), fun _ => sim_ne⟩, fun b => .inr (.inr (nomark b))⟩
theorem c_lt : Cop .Lt ltOp := ⟨⟨fun _ => _, fun Γ X c => op_lt, fun _ => sim_lt⟩, fun b => .inr (.inr (nomark b))⟩
theorem c_le : Cop .LtE leOp := ⟨⟨fun _ => _, fun Γ X c => op_le, fun _ => sim_le⟩, fun b => .inr (.inr (nomark b))⟩
theorem c_gt : Cop .Gt gtOp := ⟨⟨fun _ => _, fun Γ X c => op_gt, fun _ => sim_gt⟩, fun b => .inr (.inr (nomark b))⟩
theorem c_ge : Cop .GtE geOp := ⟨⟨fun _ => _, fun Γ X c => op_ge, fun _ => sim_ge⟩, fun b => .inr (.inr (nomark b))⟩
theorem c_isN : Cop .Is (isNOp false) := ⟨⟨fun _ => rIsA, fun Γ X c => op_isN.or op_isBl, fun _ => sim_isN⟩, fun b => .inr (.inr (nomark b))⟩
theorem c_notN : Cop .IsNot (isNOp true) := ⟨⟨fun _ => rNotA, fun Γ X c => op_notN.or op_notBl, fun _ => sim_notN⟩, fun b => .inr (.inr (nomark b))⟩
theorem s_c {o : CmpOp} {op : Op2} (h : Cop o op) (ha : SE Γ a ma) (hb : SE Γ b mb) (hm : behindInMarks o b = false := by first | exact nomark _ | rfl) : SE Γ (.Compare a [o] [b] pos) (eBin op ma mb) :=
  let ⟨_, h1, h2⟩ := h.ex
  s_cmp (fun X c => h1 Γ X c) (h2 _) ha hb hm
theorem t_c {o : CmpOp} {op : Op2} (h : Cop o op) (ha : SE Γ a ma) (hb : SE Γ b mb) (hm : behindInMarks o b = false := by first | exact nomark _ | rfl) : ST Γ (.Compare a [o] [b] pos) (tOf (eBin op ma mb)) :=
  let ⟨_, h1, h2⟩ := h.ex
  t_cmp (fun X c => h1 Γ X c) (h2 _) ha hb hm
/-- a op1 b op2 c -/
def eChain (o o' : Op2) (ma mb mc : AEnv → Store → Res A) : AEnv → Store → Res A := fun env st => (ma env st).bind fun a st1 => (mb env st1).bind fun b st2 => (Res.of (o a b st2)).bind fun z st3 => (asB z st3).bind fun k st4 =>
  if k then (mc env st4).bind fun c st5 => Res.of (o' b c st5) else .ok (.bl false) st4
theorem sim_chain {K : PySem.W.Frag} {W : WX} {r r' : R2} {o o' : Op2} {ta tb tc : TE} (h : SimV2 K r o) (h' : SimV2 K r' o') (ha : Sim K Rep W ta ma) (hb : Sim K Rep W tb mb) (hc : Sim K Rep W tc mc) : Sim K Rep W (tChain r r' ta tb tc) (eChain o o' ma mb mc) := by
  intro Z F μ st env σ H Q g re hp
  unfold eChain at hp
  rw [Res.post_bind] at hp
  refine ha Z F μ st env σ H _ g re (Res.post_mono hp (fun a st1 q => ?_) fun _ _ q => q)
  intro F1 μ1 H1 x e1 g1 ra
  rw [Res.post_bind] at q
  refine hb Z F1 μ1 st1 env σ H1 _ g1 (re.mono e1) (Res.post_mono q (fun b st2 q => ?_) fun _ _ q => q.ext e1)
  intro F2 μ2 H2 y e2 g2 rb
  rw [Res.post_bind] at q
  obtain ⟨z, st3, e, q⟩ := Res.post_of q
  refine h Z F2 μ2 st2 st3 H2 a b z x y _ g2 (ra.mono e2) rb e ?_
  intro F3 μ3 H3 v e3 g3 rz
  cases z with
  | bl k =>
    cases rz
    refine ⟨k, rfl, ?_⟩
    cases k with
    | true =>
      rw [if_pos rfl]
      have q : ((mc env st3).bind fun c st5 => Res.of (o' b c st5)).post (Kont K Z Rep F μ Q) (KX K Z F μ σ W) := q
      rw [Res.post_bind] at q
      have e13 := e1.trans (e2.trans e3)
      refine hc Z F3 μ3 st3 env σ H3 _ g3 (re.mono e13) (Res.post_mono q (fun c st4 q => ?_) fun _ _ q => q.ext e13)
      intro F4 μ4 H4 w' e4 g4 rc
      obtain ⟨d, st5, e', k⟩ := Res.post_of q
      exact h' Z F4 μ4 st4 st5 H4 b c d y w' Q g4 (rb.mono (e3.trans e4)) rc e' (k.ext (e13.trans e4))
    | false =>
      rw [if_neg Bool.false_ne_true]
      exact Kont.now ((show Kont K Z Rep F μ Q (.bl false) st3 from q).ext (e1.trans (e2.trans e3))) g3 (.bl _)
  | _ => exact q.elim
theorem s_chain {o o' : CmpOp} {op op' : Op2} {c : Expr} (h : Cop o op) (h' : Cop o' op') (ha : SE Γ a ma) (hb : SE Γ b mb) (hc : SE Γ c mc) (hm : lastMarks [o, o'] [b, c] = false := by with_unfolding_all rfl) : SE Γ (.Compare a [o, o'] [b, c] pos) (eChain op op' ma mb mc) :=
  ⟨fun W => by
    obtain ⟨r, h1, h2⟩ := h.ex
    obtain ⟨r', h1', h2'⟩ := h'.ex
    obtain ⟨ta, sa, pa⟩ := ha.run W
    obtain ⟨tb, sb, pb⟩ := hb.run W
    obtain ⟨tc, sc, pc⟩ := hc.run W
    refine ⟨_, sim_chain (h2 _) (h2' _) sa sb sc, fun X c t => ?_⟩
    rw [← c.K]
    exact pe_chain (h1 Γ X c) (h1' Γ X c) (pa X c t) (pb X c t) (pc X c t) hm⟩
theorem t_chain {o o' : CmpOp} {op op' : Op2} {c : Expr} (h : Cop o op) (h' : Cop o' op') (ha : SE Γ a ma) (hb : SE Γ b mb) (hc : SE Γ c mc) (hm : lastMarks [o, o'] [b, c] = false := by with_unfolding_all rfl) : ST Γ (.Compare a [o, o'] [b, c] pos) (tOf (eChain op op' ma mb mc)) :=
  ⟨fun W => by
    obtain ⟨r, h1, h2⟩ := h.ex
    obtain ⟨r', h1', h2'⟩ := h'.ex
    obtain ⟨ta, sa, pa⟩ := ha.run W
    obtain ⟨tb, sb, pb⟩ := hb.run W
    obtain ⟨tc, sc, pc⟩ := hc.run W
    refine ⟨_, sim_test (sim_chain (h2 _) (h2' _) sa sb sc), fun X c t => ?_⟩
    rw [← c.K]
    exact pt_chain (h1 Γ X c) (h1' Γ X c) (pa X c t) (pb X c t) (pc X c t) hm⟩
/-- any value's truth -/
def tTru (m : AEnv → Store → Res A) : AEnv → Store → Res Bool := fun env st => (m env st).bind fun a st1 => match truA st1 a with
  | some b => .ok b st1
  | none => .stuck
theorem t_tru (ha : SE Γ a ma) (he : ∀ env whole, isTrue a env whole = (do let v ← whole; standAt a.pos; holding [v] (truthy v)) := by intro _ _; rfl) : ST Γ a (tTru ma) :=
  ⟨fun W => by
    obtain ⟨ta, sa, pa⟩ := ha.run W
    refine ⟨fun σ H Q => ta σ H fun x H' => ∃ k, TruV Γ.K x H' k ∧ Q k H', ?_, fun X c t => ?_⟩
    · refine Sim.bind (k := fun x σ H Q => ∃ k, TruV Γ.K x H k ∧ Q k H) (m' := fun a env st1 => match truA st1 a with | some b => .ok b st1 | none => .stuck) sa fun Z F μ st env σ H Q a x g re ra hp => ?_
      cases e : truA st a with
      | none => rw [e] at hp; exact hp.elim
      | some b => rw [e] at hp; exact ⟨b, tru_of g ra e, Kont.now (show Kont Γ.K Z RepB F μ Q b st from hp) g rfl⟩
    · rw [← c.K]
      exact pt_truth (pa X c t) (he X.env)⟩
variable {p q : AEnv → Store → Res Bool} {rest : List Expr}
def tAndM (p q : AEnv → Store → Res Bool) : AEnv → Store → Res Bool := fun env st => (p env st).bind fun c st1 => if c then q env st1 else .ok false st1
def tOrM (p q : AEnv → Store → Res Bool) : AEnv → Store → Res Bool := fun env st => (p env st).bind fun c st1 => if c then .ok true st1 else q env st1
def tNotM (p : AEnv → Store → Res Bool) : AEnv → Store → Res Bool := fun env st => (p env st).bind fun c st1 => .ok (!c) st1
theorem sim_and {K : PySem.W.Frag} {W : WX} {t u : TT} (h : Sim K RepB W t p) (h' : Sim K RepB W u q) : Sim K RepB W (tAnd t u) (tAndM p q) :=
  Sim.bind (k := fun c σ H Q => if c = true then u σ H Q else Q false H) (m' := fun c env st1 => if c then q env st1 else .ok false st1) h fun Z F μ st env σ H Q a x g re ra hp => by
    cases (ra : a = x)
    cases a with
    | true => rw [if_pos rfl]; exact h' Z F μ st env σ H Q g re hp
    | false => rw [if_neg Bool.false_ne_true]; exact Kont.now (show Kont K Z RepB F μ Q false st from hp) g rfl
theorem sim_or {K : PySem.W.Frag} {W : WX} {t u : TT} (h : Sim K RepB W t p) (h' : Sim K RepB W u q) : Sim K RepB W (tOr t u) (tOrM p q) :=
  Sim.bind (k := fun c σ H Q => if c = true then Q true H else u σ H Q) (m' := fun c env st1 => if c then .ok true st1 else q env st1) h fun Z F μ st env σ H Q a x g re ra hp => by
    cases (ra : a = x)
    cases a with
    | true => rw [if_pos rfl]; exact Kont.now (show Kont K Z RepB F μ Q true st from hp) g rfl
    | false => rw [if_neg Bool.false_ne_true]; exact h' Z F μ st env σ H Q g re hp
theorem sim_not {K : PySem.W.Frag} {W : WX} {t : TT} (h : Sim K RepB W t p) : Sim K RepB W (tNot t) (tNotM p) :=
  Sim.bind (k := fun c σ H Q => Q (!c) H) (m' := fun c env st1 => .ok (!c) st1) h fun Z F μ st env σ H Q a x g re ra hp => by
    cases (ra : a = x)
    exact Kont.now (show Kont K Z RepB F μ Q (!a) st from hp) g rfl
theorem w_and1 (ha : ST Γ a p) : SWt Γ (.BoolOp .And [a] pos) p := ⟨fun W => let ⟨t, s, h⟩ := ha.run W; ⟨t, s, fun X c k => pw_and1 (h X c k)⟩⟩
theorem w_or1 (ha : ST Γ a p) : SWt Γ (.BoolOp .Or [a] pos) p := ⟨fun W => let ⟨t, s, h⟩ := ha.run W; ⟨t, s, fun X c k => pw_or1 (h X c k)⟩⟩
theorem w_and (ha : ST Γ a p) (hb : SWt Γ (.BoolOp .And (b :: rest) pos) q) : SWt Γ (.BoolOp .And (a :: b :: rest) pos) (tAndM p q) :=
  ⟨fun W => let ⟨t, s, h⟩ := ha.run W; let ⟨t', s', h'⟩ := hb.run W; ⟨_, sim_and s s', fun X c k => pw_and (h X c k) (h' X c k)⟩⟩
theorem w_or (ha : ST Γ a p) (hb : SWt Γ (.BoolOp .Or (b :: rest) pos) q) : SWt Γ (.BoolOp .Or (a :: b :: rest) pos) (tOrM p q) :=
  ⟨fun W => let ⟨t, s, h⟩ := ha.run W; let ⟨t', s', h'⟩ := hb.run W; ⟨_, sim_or s s', fun X c k => pw_or (h X c k) (h' X c k)⟩⟩
theorem t_w (h : SWt Γ e p) : ST Γ e p := ⟨fun W => let ⟨t, s, h⟩ := h.run W; ⟨t, s, fun X c k => (h X c k).pt⟩⟩
theorem t_not (h : ST Γ a p) : ST Γ (.UnaryOp .Not a pos) (tNotM p) := ⟨fun W => let ⟨t, s, h⟩ := h.run W; ⟨_, sim_not s, fun X c k => pt_not (h X c k)⟩⟩
/-- and, or as values: True and False alone -/
def eAndV (ma mb : AEnv → Store → Res A) : AEnv → Store → Res A := fun env st => (ma env st).bind fun a st1 => (asB a st1).bind fun c st2 => if c then mb env st2 else .ok (.bl false) st2
def eOrV (ma mb : AEnv → Store → Res A) : AEnv → Store → Res A := fun env st => (ma env st).bind fun a st1 => (asB a st1).bind fun c st2 => if c then .ok (.bl true) st2 else mb env st2
def eNotV (ma : AEnv → Store → Res A) : AEnv → Store → Res A := fun env st => (ma env st).bind fun a st1 => (asB a st1).bind fun c st2 => .ok (.bl (!c)) st2
theorem sim_andV {K : PySem.W.Frag} {W : WX} {t u : TE} (h : Sim K Rep W t ma) (h' : Sim K Rep W u mb) : Sim K Rep W (tAndV t u) (eAndV ma mb) :=
  Sim.bind (R' := Rep) (k := fun x σ H Q => ∃ c, x = V.bl c ∧ if c = true then u σ H Q else Q (V.bl false) H) (m' := fun a env st1 => (asB a st1).bind fun c st2 => if c then mb env st2 else .ok (A.bl false) st2) h fun Z F μ st env σ H Q a x g re ra hp => by
    cases a with
    | bl b =>
      cases ra
      refine ⟨b, rfl, ?_⟩
      cases b with
      | true => rw [if_pos rfl]; exact h' Z F μ st env σ H Q g re hp
      | false => rw [if_neg Bool.false_ne_true]; exact Kont.now (show Kont K Z Rep F μ Q (.bl false) st from hp) g (.bl _)
    | _ => exact hp.elim
theorem sim_orV {K : PySem.W.Frag} {W : WX} {t u : TE} (h : Sim K Rep W t ma) (h' : Sim K Rep W u mb) : Sim K Rep W (tOrV t u) (eOrV ma mb) :=
  Sim.bind (R' := Rep) (k := fun x σ H Q => ∃ c, x = V.bl c ∧ if c = true then Q (V.bl true) H else u σ H Q) (m' := fun a env st1 => (asB a st1).bind fun c st2 => if c then .ok (A.bl true) st2 else mb env st2) h fun Z F μ st env σ H Q a x g re ra hp => by
    cases a with
    | bl b =>
      cases ra
      refine ⟨b, rfl, ?_⟩
      cases b with
      | true => rw [if_pos rfl]; exact Kont.now (show Kont K Z Rep F μ Q (.bl true) st from hp) g (.bl _)
      | false => rw [if_neg Bool.false_ne_true]; exact h' Z F μ st env σ H Q g re hp
    | _ => exact hp.elim
theorem sim_notV {K : PySem.W.Frag} {W : WX} {t : TE} (h : Sim K Rep W t ma) : Sim K Rep W (tNotV t) (eNotV ma) :=
  Sim.bind (R' := Rep) (k := fun x σ H Q => ∃ c, x = V.bl c ∧ Q (V.bl (!c)) H) (m' := fun a env st1 => (asB a st1).bind fun c st2 => .ok (A.bl (!c)) st2) h fun Z F μ st env σ H Q a x g re ra hp => by
    cases a with
    | bl b => cases ra; exact ⟨b, rfl, Kont.now (show Kont K Z Rep F μ Q (.bl (!b)) st from hp) g (.bl _)⟩
    | _ => exact hp.elim
theorem s_one {o} (h : SE Γ a ma) : SE Γ (.BoolOp o [a] pos) ma := ⟨fun W => let ⟨t, s, h⟩ := h.run W; ⟨t, s, fun X c k => pe_one (h X c k)⟩⟩
theorem s_and (ha : SE Γ a ma) (hb : SE Γ (.BoolOp .And (b :: rest) pos) mb) : SE Γ (.BoolOp .And (a :: b :: rest) pos) (eAndV ma mb) :=
  ⟨fun W => let ⟨t, s, h⟩ := ha.run W; let ⟨t', s', h'⟩ := hb.run W; ⟨_, sim_andV s s', fun X c k => pe_and (h X c k) (h' X c k)⟩⟩
theorem s_or (ha : SE Γ a ma) (hb : SE Γ (.BoolOp .Or (b :: rest) pos) mb) : SE Γ (.BoolOp .Or (a :: b :: rest) pos) (eOrV ma mb) :=
  ⟨fun W => let ⟨t, s, h⟩ := ha.run W; let ⟨t', s', h'⟩ := hb.run W; ⟨_, sim_orV s s', fun X c k => pe_or (h X c k) (h' X c k)⟩⟩
theorem s_not (ha : SE Γ a ma) : SE Γ (.UnaryOp .Not a pos) (eNotV ma) := ⟨fun W => let ⟨t, s, h⟩ := ha.run W; ⟨_, sim_notV s, fun X c k => pe_not (h X c k)⟩⟩
def eIf (p : AEnv → Store → Res Bool) (ma mb : AEnv → Store → Res A) : AEnv → Store → Res A := fun env st => (p env st).bind fun c st1 => if c then ma env st1 else mb env st1
theorem s_if {c : Expr} (hc : ST Γ c p) (ha : SE Γ a ma) (hb : SE Γ b mb) : SE Γ (.IfExp c a b pos) (eIf p ma mb) :=
  ⟨fun W => by
    obtain ⟨tc, sc, pc⟩ := hc.run W
    obtain ⟨ta, sa, pa⟩ := ha.run W
    obtain ⟨tb, sb, pb⟩ := hb.run W
    refine ⟨tIf tc ta tb, ?_, fun X c t => pe_ifExp (pc X c t) (pa X c t) (pb X c t)⟩
    refine Sim.bind (k := fun c σ H Q => if c = true then ta σ H Q else tb σ H Q) (m' := fun c env st1 => if c then ma env st1 else mb env st1) sc fun Z F μ st env σ H Q a x g re ra hp => ?_
    cases (ra : a = x)
    cases a with
    | true => rw [if_pos rfl]; exact sa Z F μ st env σ H Q g re hp
    | false => rw [if_neg Bool.false_ne_true]; exact sb Z F μ st env σ H Q g re hp⟩

/-! ### arguments, displays -/
def aNil : AEnv → Store → Res (List A) := fun _ st => .ok [] st
def aCons (m : AEnv → Store → Res A) (ms : AEnv → Store → Res (List A)) : AEnv → Store → Res (List A) := fun env st => (m env st).bind fun a st1 => (ms env st1).bind fun as st2 => .ok (a :: as) st2
variable {es : List Expr} {ms : AEnv → Store → Res (List A)}
theorem a_nil : SA Γ [] aNil := ⟨fun W => ⟨tNil, fun Z F μ st env σ H Q g re h => Kont.now (show Kont Γ.K Z Reps F μ Q [] st from h) g .nil, fun X c t => pa_nil⟩⟩
theorem a_cons (ha : SE Γ e ma) (hr : SA Γ es ms) (hs : ∀ env, starEach (e :: es) env = (false, eval e env) :: starEach es env := by intro _; rfl) : SA Γ (e :: es) (aCons ma ms) :=
  ⟨fun W => by
    obtain ⟨ta, sa, pa⟩ := ha.run W
    obtain ⟨tr, sr, pr⟩ := hr.run W
    refine ⟨tCons ta tr, ?_, fun X c t => pa_cons (pa X c t) (pr X c t) (hs _)⟩
    refine Sim.bind (R' := Reps) (k := fun x σ H Q => tr σ H fun xs H2 => Q (x :: xs) H2) (m' := fun a env st1 => (ms env st1).bind fun as st2 => .ok (a :: as) st2) sa fun Z F μ st env σ H Q a x g re ra hp => ?_
    rw [Res.post_bind] at hp
    refine sr Z F μ st env σ H _ g re (Res.post_mono hp (fun as st2 q => ?_) fun _ _ q => q)
    intro F1 μ1 H1 xs e1 g1 rs
    exact Kont.now ((show Kont Γ.K Z Reps F μ Q (a :: as) st2 from q).ext e1) g1 (.cons (ra.mono e1) rs)⟩
def eTup (ms : AEnv → Store → Res (List A)) : AEnv → Store → Res A := fun env st => (ms env st).bind fun xs st1 => if xs.length ≤ sizeLine then .ok (.tup xs) st1 else .stuck
def eLst (mk : Bool) (ms : AEnv → Store → Res (List A)) : AEnv → Store → Res A := fun env st => (ms env st).bind fun xs st1 => if xs.length ≤ sizeLine then .ok (newL mk xs st1).1 (newL mk xs st1).2 else .stuck
theorem s_tup {k} (h : SA Γ es ms) : SE Γ (.Tuple es k pos) (eTup ms) :=
  ⟨fun W => by
    obtain ⟨ta, sa, pa⟩ := h.run W
    refine ⟨tTup ta, ?_, fun X c t => pe_tup (pa X c t)⟩
    refine Sim.bind (R' := Rep) (k := fun xs σ H Q => xs.length ≤ sizeLine ∧ ∀ p, H p = none → Q (V.ref p) (upd H p (HO.tup xs))) (m' := fun xs env st1 => if xs.length ≤ sizeLine then .ok (A.tup xs) st1 else .stuck) sa fun Z F μ st env σ H Q a x g re ra hp => ?_
    by_cases hl : a.length ≤ sizeLine
    · rw [if_pos hl] at hp
      exact ⟨by rw [← ra.length]; exact hl, fun p hp' => newT_ok g hp' ra hp⟩
    · rw [if_neg hl] at hp; exact hp.elim⟩
theorem s_lst {mk : Bool} (h : SA Γ es ms) : SE Γ (.List es pos) (eLst mk ms) :=
  ⟨fun W => by
    obtain ⟨ta, sa, pa⟩ := h.run W
    refine ⟨tLst ta, ?_, fun X c t => pe_lst (pa X c t)⟩
    refine Sim.bind (R' := Rep) (k := fun xs σ H Q => xs.length ≤ sizeLine ∧ ∀ p, H p = none → Q (V.ref p) (upd H p (HO.lst xs))) (m' := fun xs env st1 => if xs.length ≤ sizeLine then .ok (newL mk xs st1).1 (newL mk xs st1).2 else .stuck) sa fun Z F μ st env σ H Q a x g re ra hp => ?_
    by_cases hl : a.length ≤ sizeLine
    · rw [if_pos hl] at hp
      exact ⟨by rw [← ra.length]; exact hl, fun p hp' => newL_ok (mk := mk) g hp' ra hp⟩
    · rw [if_neg hl] at hp; exact hp.elim⟩

/-! ### subscripts, slices -/
def ixL : Op2 := fun a b st => match seqR a st, b with
  | some xs, .int i => (atI xs i).map fun c => (c, st)
  | _, _ => none
def ixS : Op2 := fun a b st => match a, b with
  | .str z, .int i => if z.length ≤ sizeLine then (atI z.cps.toList i).map fun c => (.str ⟨#[c]⟩, st) else none
  | _, _ => none
def ixOp : Op2 := fun a b st => (ixL a b st).or (ixS a b st)
theorem atI_reps {K : PySem.W.Frag} {F : Hp} {μ : List Addr} {xs : List A} {vs : List V} {i : Int} {c : A} (r : Reps K F μ xs vs) (h : atI xs i = some c) : ∃ v, atI vs i = some v ∧ Rep K F μ c v := by
  unfold atI at h ⊢
  rw [← r.length]
  cases e : ixN xs.length i with
  | none => rw [e] at h; cases h
  | some j =>
    rw [e] at h
    obtain ⟨v, h1, h2⟩ := r.get (i := j) (a := c) h
    exact ⟨v, h1, h2⟩
theorem sim_ixL {K : PySem.W.Frag} : SimV2 K (fun x y H Q => rIxL K x y H Q ∨ rIxT K x y H Q) ixL := by
  intro Z F μ st st' H a b c x y Q g ra rb e k
  unfold ixL at e
  cases e1 : seqR a st with
  | none => rw [e1] at e; cases e
  | some xs =>
    rw [e1] at e
    cases b with
    | int i =>
      cases rb
      have e : (atI xs i).map (fun c => (c, st)) = some (c, st') := e
      cases e2 : atI xs i with
      | none => rw [e2] at e; cases e
      | some d =>
        rw [e2] at e; cases e
        obtain ⟨p, vs, rfl, h1, r1⟩ := seqR_ok g ra e1
        obtain ⟨v, h2, h3⟩ := atI_reps r1 e2
        rcases h1 with h1 | h1
        · exact .inl ⟨p, vs, i, v, rfl, rfl, h1, h2, k.same g h3⟩
        · exact .inr ⟨p, vs, i, v, rfl, rfl, h1, h2, k.same g h3⟩
    | _ => cases e
theorem sim_ixS {K : PySem.W.Frag} : SimV2 K rIxS ixS := by
  intro Z F μ st st' H a b c x y Q g ra rb e k
  cases a with
  | str z =>
    cases b with
    | int i =>
      cases ra; cases rb
      have e : (if z.length ≤ sizeLine then (atI z.cps.toList i).map (fun c => (A.str ⟨#[c]⟩, st)) else none) = some (c, st') := e
      by_cases hl : z.length ≤ sizeLine
      · rw [if_pos hl] at e
        cases e2 : atI z.cps.toList i with
        | none => rw [e2] at e; cases e
        | some d =>
          rw [e2] at e; cases e
          exact ⟨z, i, d, rfl, rfl, hl, e2, k.same g (.str _)⟩
      · rw [if_neg hl] at e; cases e
    | _ => cases e
  | _ => cases e
theorem sim_ix {K : PySem.W.Frag} : SimV2 K (fun x y H Q => (rIxL K x y H Q ∨ rIxT K x y H Q) ∨ rIxS x y H Q) ixOp := SimV2.or sim_ixL sim_ixS
theorem s_ix (ha : SE Γ a ma) (hb : SE Γ b mb) (hs : PlainIx b := by intro _ _; rfl) : SE Γ (.Subscript a b pos) (eBin ixOp ma mb) :=
  ⟨fun W => by
    obtain ⟨ta, sa, pa⟩ := ha.run W
    obtain ⟨tb, sb, pb⟩ := hb.run W
    refine ⟨_, sim_bin sim_ix sa sb, fun X c t => ?_⟩
    rw [← c.K]
    exact pe_ix ((ix_list.or ix_tup).or ix_str) (pa X c t) (pb X c t) hs⟩
/-- a slice's part -/
structure SO (Γ : G) (e : Option Expr) (m : AEnv → Store → Res (Option Int)) : Prop where
  run : ∀ W : WX, ∃ t : TO, Sim Γ.K (fun _ _ _ (a b : Option Int) => a = b) W t m ∧ ∀ X, CtxOk Γ X → Takes X W → PO X e t
def oNone : AEnv → Store → Res (Option Int) := fun _ st => .ok none st
def oSome (m : AEnv → Store → Res A) : AEnv → Store → Res (Option Int) := fun env st => (m env st).bind fun a st1 => match a with
  | .int i => .ok (some i) st1
  | _ => .stuck
theorem o_none : SO Γ none oNone := ⟨fun W => ⟨tNoPart, fun Z F μ st env σ H Q g re h => Kont.now (show Kont Γ.K Z (fun _ _ _ (a b : Option Int) => a = b) F μ Q none st from h) g rfl, fun X c t => po_none⟩⟩
theorem o_some (h : SE Γ e ma) : SO Γ (some e) (oSome ma) :=
  ⟨fun W => by
    obtain ⟨ta, sa, pa⟩ := h.run W
    refine ⟨tPart ta, ?_, fun X c t => po_some (pa X c t)⟩
    refine Sim.bind (R' := fun _ _ _ (a b : Option Int) => a = b) (k := fun x σ H Q => ∃ i, x = V.int i ∧ Q (some i) H) (m' := fun a env st1 => match a with | .int i => .ok (some i) st1 | _ => .stuck) sa fun Z F μ st env σ H Q a x g re ra hp => ?_
    cases a with
    | int i => cases ra; exact ⟨i, rfl, Kont.now (show Kont Γ.K Z (fun _ _ _ (a b : Option Int) => a = b) F μ Q (some i) st from hp) g rfl⟩
    | _ => exact hp.elim⟩
def cutA (xs : List A) (lo hi : Option Int) : List A := (xs.drop (HT.sIx xs.length 0 lo)).take (HT.sIx xs.length xs.length hi - HT.sIx xs.length 0 lo)
theorem cutA_reps {K : PySem.W.Frag} {F : Hp} {μ : List Addr} {xs : List A} {vs : List V} (r : Reps K F μ xs vs) (lo hi : Option Int) : Reps K F μ (cutA xs lo hi) (cutV vs lo hi) := by
  unfold cutA cutV
  rw [r.length]
  exact (r.drop _).take _
/-- x[lo:hi] -/
def slOp (mk : Bool) (a : A) (lo hi : Option Int) (st : Store) : Option (A × Store) := match a with
  | .tup xs => if HT.sIx xs.length 0 lo = 0 ∧ HT.sIx xs.length xs.length hi = xs.length then none else some (.tup (cutA xs lo hi), st)
  | .str z => if z.length ≤ sizeLine then some (.str (cutS z lo hi), st) else none
  | a => (lstR a st).map fun xs => newL mk (cutA xs lo hi) st
theorem SlR_K {X : Cx} {K : PySem.W.Frag} (h : X.K = K) : True := trivial
def rSlA (K : PySem.W.Frag) : V → Option Int → Option Int → Hp → VK → Prop := fun x lo hi H Q => rSlT K x lo hi H Q ∨ (∃ z, x = .str z ∧ z.length ≤ sizeLine ∧ Q (.str (cutS z lo hi)) H) ∨ rSlL K x lo hi H Q
theorem sim_sl {K : PySem.W.Frag} {mk : Bool} {F : Hp} {μ : List Addr} {st st' : Store} {H : Hp} {a c : A} {x : V} {lo hi : Option Int} {Q : VK} (g : Good K Z F μ st H) (ra : Rep K F μ a x) (e : slOp mk a lo hi st = some (c, st')) (k : Kont K Z Rep F μ Q c st') :
    rSlA K x lo hi H Q := by
  have lists : (lstR a st).map (fun xs => newL mk (cutA xs lo hi) st) = some (c, st') → rSlA K x lo hi H Q := fun e => by
    cases e1 : lstR a st with
    | none => rw [e1] at e; cases e
    | some xs =>
      rw [e1] at e
      have e : newL mk (cutA xs lo hi) st = (c, st') := Option.some.inj e
      obtain ⟨p, vs, rfl, h1, r1⟩ := lstR_ok g ra e1
      exact .inr (.inr ⟨p, vs, rfl, h1, fun l hl => newL_ok (mk := mk) g hl (cutA_reps r1 lo hi) (by rw [e]; exact k)⟩)
  cases a with
  | tup xs =>
    have e : (if HT.sIx xs.length 0 lo = 0 ∧ HT.sIx xs.length xs.length hi = xs.length then none else some (A.tup (cutA xs lo hi), st)) = some (c, st') := e
    by_cases hw : HT.sIx xs.length 0 lo = 0 ∧ HT.sIx xs.length xs.length hi = xs.length
    · rw [if_pos hw] at e; cases e
    · rw [if_neg hw] at e; cases e
      obtain ⟨p, vs, rfl, h1, r1⟩ := tupR_ok g ra rfl
      exact .inl ⟨p, vs, rfl, h1, by rw [← r1.length]; exact hw, fun l hl => newT_ok g hl (cutA_reps r1 lo hi) k⟩
  | str z =>
    cases ra
    have e : (if z.length ≤ sizeLine then some (A.str (cutS z lo hi), st) else none) = some (c, st') := e
    by_cases hl : z.length ≤ sizeLine
    · rw [if_pos hl] at e; cases e; exact .inr (.inl ⟨z, rfl, hl, k.same g (.str _)⟩)
    · rw [if_neg hl] at e; cases e
  | _ => exact lists e
end
end SL

set_option Elab.async false
set_option linter.all false
set_option maxRecDepth 100000
set_option maxHeartbeats 4000000
/-! SLd: slices, calls of built-ins, methods. -/
namespace SL
open PySem PySem.Spec L2
open PyProof.Rows hiding St
section
variable {Γ : G} {a b e : Expr} {es : List Expr} {ma mb mc : AEnv → Store → Res A} {ms : AEnv → Store → Res (List A)} {pos p2 p apos cpos : Pos}
def eSl (mk : Bool) (ma : AEnv → Store → Res A) (ml mh : AEnv → Store → Res (Option Int)) : AEnv → Store → Res A := fun env st => (ma env st).bind fun a st1 => (ml env st1).bind fun lo st2 => (mh env st2).bind fun hi st3 => Res.of (slOp mk a lo hi st3)
theorem s_sl {mk : Bool} {lo hi : Option Expr} {ml mh : AEnv → Store → Res (Option Int)} (ha : SE Γ a ma) (hl : SO Γ lo ml) (hh : SO Γ hi mh) : SE Γ (.Subscript a (.Slice lo hi none p2) pos) (eSl mk ma ml mh) :=
  ⟨fun W => by
    obtain ⟨ta, sa, pa⟩ := ha.run W
    obtain ⟨tl, sl, pl⟩ := hl.run W
    obtain ⟨th, sh, ph⟩ := hh.run W
    refine ⟨tSl (rSlA Γ.K) ta tl th, ?_, fun X c t => ?_⟩
    · intro Z F μ st env σ H Q g re hp
      unfold eSl at hp
      rw [Res.post_bind] at hp
      refine sa Z F μ st env σ H _ g re (Res.post_mono hp (fun a st1 q => ?_) fun _ _ q => q)
      intro F1 μ1 H1 x e1 g1 ra
      rw [Res.post_bind] at q
      refine sl Z F1 μ1 st1 env σ H1 _ g1 (re.mono e1) (Res.post_mono q (fun l st2 q => ?_) fun _ _ q => q.ext e1)
      intro F2 μ2 H2 l' e2 g2 rl
      cases rl
      rw [Res.post_bind] at q
      refine sh Z F2 μ2 st2 env σ H2 _ g2 (re.mono (e1.trans e2)) (Res.post_mono q (fun h st3 q => ?_) fun _ _ q => q.ext (e1.trans e2))
      intro F3 μ3 H3 h' e3 g3 rh
      cases rh
      obtain ⟨c, st4, e, k⟩ := Res.post_of q
      exact sim_sl (mk := mk) g3 (ra.mono (e2.trans e3)) e (k.ext (e1.trans (e2.trans e3)))
    · rw [← c.K]
      exact pe_slice (sl_tup.or (sl_str.or sl_list)) (pa X c t) (pl X c t) (ph X c t)⟩

/-! ### calls of built-ins -/
def eCB (op : OpN) (ms : AEnv → Store → Res (List A)) : AEnv → Store → Res A := fun env st => (ms env st).bind fun xs st1 => Res.of (op xs st1)
theorem sim_cb {K : PySem.W.Frag} {W : WX} {r : List V → Hp → VK → Prop} {op : OpN} {t : TA} (h : SimVN K r op) (ha : Sim K Reps W t ms) : Sim K Rep W (tCB r t) (eCB op ms) :=
  Sim.bind (k := fun xs σ H Q => r xs H Q) (m' := fun xs env st1 => Res.of (op xs st1)) ha fun Z F μ st env σ H Q a x g re ra hp => by
    obtain ⟨c, st3, e, k⟩ := Res.post_of hp
    exact h Z F μ st st3 H a c x Q g ra e k
/-- a built-in with its plain function -/
structure Cb (f : Value) (op : OpN) : Prop where
  ex : ∃ r : PySem.W.Frag → List V → Hp → VK → Prop, (∀ (Γ : G) (X : Cx), CtxOk Γ X → Γ.calm = true → CallR X f (r X.K)) ∧ ∀ K, SimVN K (r K) op
theorem Cb.or {f : Value} {op op' : OpN} (h : Cb f op) (h' : Cb f op') : Cb f (fun xs st => (op xs st).or (op' xs st)) := by
  obtain ⟨r, h1, h2⟩ := h.ex
  obtain ⟨r', h1', h2'⟩ := h'.ex
  refine ⟨⟨fun K xs H Q => r K xs H Q ∨ r' K xs H Q, fun Γ X c cm => (h1 Γ X c cm).or (h1' Γ X c cm), fun K Z F μ st st' H as c xs Q g ra e k => ?_⟩⟩
  cases e1 : op as st with
  | none => simp only [e1, Option.none_or] at e; exact .inr (h2' K Z F μ st st' H as c xs Q g ra e k)
  | some p => simp only [e1, Option.some_or] at e; cases e; exact .inl (h2 K Z F μ st st' H as c xs Q g ra e1 k)
theorem s_cb {x : Str} {id : String} {op : OpN} (h : Cb (.builtin id) op) (hg : Γ.sc.names.lookup x = some .globalImplicit) (hm : Γ.mg x = none) (hv : bootBuiltins x = some (.builtin id)) (ha : SA Γ (e :: es) ms)
    (hn : x ≠ "__name__" := by decide) (hdb : (x == ("__debug__" : Str)) = false := by decide)
    (he : ∀ env, starEach (e :: es) env = (false, eval e env) :: starEach es env := by intro _; rfl) (hpl : ∀ env, (backTo pos (starEach es env)).any (·.1) = false := by intro _; rfl) (cm : Γ.calm = true := by rfl) : SE Γ (.Call (.Name x p) (e :: es) [] pos) (eCB op ms) :=
  ⟨fun W => by
    obtain ⟨r, h1, h2⟩ := h.ex
    obtain ⟨ta, sa, pa⟩ := ha.run W
    refine ⟨_, sim_cb (h2 _) sa, fun X c t => ?_⟩
    rw [← c.K]
    exact pe_callB (h1 Γ X c cm) (c.gl hg) (c.mgn hm) hv (pa X c t) hn hdb (he _) (hpl _)⟩
theorem s_cty {x : Str} {T : String} {op : OpN} (h : Cb (.type T) op) (hg : Γ.sc.names.lookup x = some .globalImplicit) (hm : Γ.mg x = none) (hv : bootBuiltins x = some (.type T)) (ha : SA Γ (e :: es) ms)
    (hn : x ≠ "__name__" := by decide) (hdb : (x == ("__debug__" : Str)) = false := by decide)
    (he : ∀ env, starEach (e :: es) env = (false, eval e env) :: starEach es env := by intro _; rfl) (hpl : ∀ env, (backTo pos (starEach es env)).any (·.1) = false := by intro _; rfl) (cm : Γ.calm = true := by rfl) : SE Γ (.Call (.Name x p) (e :: es) [] pos) (eCB op ms) :=
  ⟨fun W => by
    obtain ⟨r, h1, h2⟩ := h.ex
    obtain ⟨ta, sa, pa⟩ := ha.run W
    refine ⟨_, sim_cb (h2 _) sa, fun X c t => ?_⟩
    rw [← c.K]
    exact pe_callTy (h1 Γ X c cm) (c.gl hg) (c.mgn hm) hv (pa X c t) hn hdb (he _) (hpl _)⟩
/-- of one argument -/
def one1 (op : Op1) : OpN := fun xs st => match xs with
  | [a] => op a st
  | _ => none
def two2 (op : Op2) : OpN := fun xs st => match xs with
  | [a, b] => op a b st
  | _ => none
theorem cb1 {f : Value} {r : PySem.W.Frag → List V → Hp → VK → Prop} {op : Op1} (h : ∀ (Γ : G) (X : Cx), CtxOk Γ X → Γ.calm = true → CallR X f (r X.K))
    (h' : ∀ (K : PySem.W.Frag) (Z F : Hp) (μ : List Addr) (st st' : Store) (H : Hp) (a c : A) (x : V) (Q : VK), Good K Z F μ st H → Rep K F μ a x → op a st = some (c, st') → Kont K Z Rep F μ Q c st' → r K [x] H Q) : Cb f (one1 op) :=
  ⟨⟨r, h, fun K Z F μ st st' H as c xs Q g ra e k => by
    cases as with
    | nil => cases e
    | cons a as =>
      cases as with
      | nil =>
        obtain ⟨x, rfl, ra1⟩ := ra.one
        exact h' K Z F μ st st' H a c x Q g ra1 e k
      | cons b as => cases e⟩⟩
theorem cb2 {f : Value} {r : PySem.W.Frag → List V → Hp → VK → Prop} {op : Op2} (h : ∀ (Γ : G) (X : Cx), CtxOk Γ X → Γ.calm = true → CallR X f (r X.K))
    (h' : ∀ (K : PySem.W.Frag) (Z F : Hp) (μ : List Addr) (st st' : Store) (H : Hp) (a b c : A) (x y : V) (Q : VK), Good K Z F μ st H → Rep K F μ a x → Rep K F μ b y → op a b st = some (c, st') → Kont K Z Rep F μ Q c st' → r K [x, y] H Q) : Cb f (two2 op) :=
  ⟨⟨r, h, fun K Z F μ st st' H as c xs Q g ra e k => by
    cases as with
    | nil => cases e
    | cons a as =>
      cases as with
      | nil => cases e
      | cons b as =>
        cases as with
        | nil =>
          obtain ⟨x, y, rfl, ra1, rb1⟩ := ra.two
          exact h' K Z F μ st st' H a b c x y Q g ra1 rb1 e k
        | cons b as => cases e⟩⟩
/-! len -/
def lenA : Op1 := fun a st => match a with
  | .str y => if y.length ≤ sizeLine then some (.int y.length, st) else none
  | a => (seqR a st).map fun xs => (.int xs.length, st)
theorem cb_len : Cb (.builtin "len") (one1 lenA) := cb1 (r := fun K xs H Q => ∃ x n, xs = [x] ∧ LenV K x H n ∧ Q (.int n) H) (fun _ _ _ _ => call_len) fun K Z F μ st st' H a c x Q g ra e k => by
  have seq_len : (seqR a st).map (fun xs => (A.int xs.length, st)) = some (c, st') → ∃ x' n, [x] = [x'] ∧ LenV K x' H n ∧ Q (.int n) H := fun e => by
    cases e1 : seqR a st with
    | none => rw [e1] at e; cases e
    | some xs =>
      rw [e1] at e; cases e
      obtain ⟨p, vs, rfl, h1, r1⟩ := seqR_ok g ra e1
      refine ⟨_, xs.length, rfl, ?_, k.same g (.int _)⟩
      rcases h1 with h1 | h1
      · exact .inl ⟨vs, h1, r1.length⟩
      · exact .inr ⟨vs, h1, r1.length⟩
  cases a with
  | str y =>
    cases ra
    have e : (if y.length ≤ sizeLine then some (A.int y.length, st) else none) = some (c, st') := e
    by_cases hl : y.length ≤ sizeLine
    · rw [if_pos hl] at e; cases e; exact ⟨V.str y, y.length, rfl, (show y.length ≤ sizeLine ∧ y.length = y.length from ⟨hl, rfl⟩), k.same g (.int _)⟩
    · rw [if_neg hl] at e; cases e
  | _ => exact seq_len e
/-! list(x), tuple(x) -/
def listA (mk : Bool) : Op1 := fun a st => (seqR a st).map fun ys => newL mk ys st
theorem cb_list {mk : Bool} : Cb (.type "list") (one1 (listA mk)) := cb1 (r := fun K xs H Q => ∃ p ys, xs = [.ref p] ∧ (SqL K H p ys ∨ SqT K H p ys) ∧ ∀ l, H l = none → Q (.ref l) (upd H l (.lst ys))) (fun _ _ _ _ => call_list_of) fun K Z F μ st st' H a c x Q g ra e k => by
  have e : (seqR a st).map (fun ys => newL mk ys st) = some (c, st') := e
  cases e1 : seqR a st with
  | none => rw [e1] at e; cases e
  | some ys =>
    rw [e1] at e
    have e : newL mk ys st = (c, st') := Option.some.inj e
    obtain ⟨p, vs, rfl, h1, r1⟩ := seqR_ok g ra e1
    exact ⟨p, vs, rfl, h1, fun l hl => newL_ok (mk := mk) g hl r1 (by rw [e]; exact k)⟩
def tupleA : Op1 := fun a st => match a with
  | .tup ys => some (.tup ys, st)
  | a => (lstR a st).map fun ys => (.tup ys, st)
theorem cb_tuple : Cb (.type "tuple") (one1 tupleA) := cb1 (r := fun K xs H Q => ∃ p ys, xs = [.ref p] ∧ ((SqL K H p ys ∧ ∀ l, H l = none → Q (.ref l) (upd H l (.tup ys))) ∨ (SqT K H p ys ∧ Q (.ref p) H))) (fun _ _ _ _ => call_tuple_of) fun K Z F μ st st' H a c x Q g ra e k => by
  have lists : (lstR a st).map (fun ys => (A.tup ys, st)) = some (c, st') → ∃ p ys, [x] = [V.ref p] ∧ ((SqL K H p ys ∧ ∀ l, H l = none → Q (.ref l) (upd H l (.tup ys))) ∨ (SqT K H p ys ∧ Q (.ref p) H)) := fun e => by
    cases e1 : lstR a st with
    | none => rw [e1] at e; cases e
    | some ys =>
      rw [e1] at e; cases e
      obtain ⟨p, vs, rfl, h1, r1⟩ := lstR_ok g ra e1
      exact ⟨p, vs, rfl, .inl ⟨h1, fun l hl => newT_ok g hl r1 k⟩⟩
  cases a with
  | tup ys =>
    cases e
    obtain ⟨p, vs, rfl, h1, r1⟩ := tupR_ok g ra rfl
    exact ⟨p, vs, rfl, .inr ⟨h1, k.same g ra⟩⟩
  | _ => exact lists e
/-! int, abs, bool, sum -/
def intA : Op1 := fun a st => match a with
  | .int i => some (.int i, st)
  | .bl k => some (.int (if k then 1 else 0), st)
  | _ => none
theorem cb_int : Cb (.type "int") (one1 intA) := cb1 (r := fun _ xs H Q => (∃ i, xs = [.int i] ∧ Q (.int i) H) ∨ ∃ k, xs = [.bl k] ∧ Q (.int (if k then 1 else 0)) H) (fun _ _ _ _ => call_int1) fun K Z F μ st st' H a c x Q g ra e k => by
  cases a with
  | int i => cases ra; cases e; exact .inl ⟨i, rfl, k.same g (.int _)⟩
  | bl b => cases ra; cases e; exact .inr ⟨b, rfl, k.same g (.int _)⟩
  | _ => cases e
def absA : Op1 := fun a st => match a with
  | .int i => some (.int (if i < 0 then -i else i), st)
  | _ => none
theorem cb_abs : Cb (.builtin "abs") (one1 absA) := cb1 (r := fun _ xs H Q => ∃ i, xs = [.int i] ∧ Q (.int (if i < 0 then -i else i)) H) (fun _ _ _ _ => call_abs) fun K Z F μ st st' H a c x Q g ra e k => by
  cases a with
  | int i => cases ra; cases e; exact ⟨i, rfl, k.same g (.int _)⟩
  | _ => cases e
/-- the ints of a list of ints -/
def intsA : List A → Option (List Int) := optAll fun a => match a with
  | .int i => some i
  | _ => none
theorem intsA_ok {xs : List A} {ns : List Int} (h : intsA xs = some ns) : xs = ns.map A.int := by
  unfold intsA at h
  induction xs generalizing ns with
  | nil => cases h; rfl
  | cons x xs ih =>
    unfold optAll at h
    cases x with
    | int i =>
      cases e : optAll (fun a : A => match a with | .int i => some i | _ => none) xs with
      | none => rw [e] at h; cases h
      | some ms => rw [e] at h; cases h; rw [ih e]; rfl
    | _ => cases h
@[simp] theorem intsA_map (ns : List Int) : intsA (ns.map A.int) = some ns := by
  unfold intsA
  induction ns with
  | nil => rfl
  | cons n ns ih => rw [List.map_cons]; unfold optAll; rw [ih]
def sumA : Op1 := fun a st => match lstR a st with
  | some xs => (intsA xs).map fun ns => (.int ns.sum, st)
  | none => none
theorem cb_sum : Cb (.builtin "sum") (one1 sumA) := cb1 (r := rSum) (fun _ _ c cm => cr_sum (c.calm cm)) fun K Z F μ st st' H a c x Q g ra e k => by
  unfold sumA at e
  cases e1 : lstR a st with
  | none => rw [e1] at e; cases e
  | some xs =>
    rw [e1] at e
    have e : (intsA xs).map (fun ns => (A.int ns.sum, st)) = some (c, st') := e
    cases e2 : intsA xs with
    | none => rw [e2] at e; cases e
    | some ns =>
      rw [e2] at e; cases e
      obtain ⟨p, vs, rfl, h1, r1⟩ := lstR_ok g ra e1
      rw [intsA_ok e2] at r1
      rw [r1.intsV] at h1
      exact ⟨p, ns, rfl, h1, k.same g (.int _)⟩
/-! isinstance of built-in types -/
/-- the name of a value's type -/
def tyName : A → Store → Option String
  | .non, _ => some "NoneType"
  | .bl _, _ => some "bool"
  | .int _, _ => some "int"
  | .str _, _ => some "str"
  | .lst _, _ => some "list"
  | .slst _, _ => some "list"
  | .tup _, _ => some "tuple"
  | .dct _ _, _ => some "dict"
  | .cell n, st => match st[n]? with
    | some (.lst _) => some "list"
    | some (.dct _ _) => some "dict"
    | _ => none
  | _, _ => none
theorem sqL_ty {K : PySem.W.Frag} {H : Hp} {p : Addr} {vs : List V} (h : SqL K H p vs) : TyX K H (.ref p) (.type "list") := by
  rcases h with (h | ⟨o, h⟩) | ⟨o, its, n, h1, h2, _⟩
  · exact .base (.lst h)
  · exact .base (.frz h)
  · exact .kList h1 h2
theorem sqT_ty {K : PySem.W.Frag} {H : Hp} {p : Addr} {vs : List V} (h : SqT K H p vs) : TyX K H (.ref p) (.type "tuple") := by
  rcases h with (h | ⟨o, h⟩) | ⟨o, its, n, h1, h2, _⟩
  · exact .base (.tup h)
  · exact .fTuple h
  · exact .kTuple h1 h2
theorem tyName_ok {K : PySem.W.Frag} {F : Hp} {μ : List Addr} {st : Store} {H : Hp} {a : A} {x : V} {n : String} (g : Good K Z F μ st H) (r : Rep K F μ a x) (h : tyName a st = some n) : TyX K H x (.type n) := by
  cases a with
  | non => cases h; cases r; exact .base .non
  | bl b => cases h; cases r; exact .base (.bl b)
  | int i => cases h; cases r; exact .base (.int i)
  | str s => cases h; cases r; exact .base (.str s)
  | lst xs => cases h; cases r with | lst h1 _ => exact .base (.lst (g.sub _ _ h1))
  | slst xs => cases h; cases r with | slst h1 _ => exact sqL_ty (SqL.mono g.sub h1)
  | tup xs => cases h; cases r with | tup h1 _ => exact sqT_ty (SqT.mono g.sub h1)
  | dct ks xs => cases h; cases r with | dct h1 _ _ => exact .base (.dK (g.sub _ _ h1))
  | cell m =>
    have h : (match st[m]? with | some (.lst _) => some "list" | some (.dct _ _) => some "dict" | _ => none) = some n := h
    cases e : st[m]? with
    | none => rw [e] at h; cases h
    | some c =>
      rw [e] at h
      cases r with
      | cell h1 =>
        cases c with
        | lst xs =>
          cases h
          obtain ⟨a, h2, _, vs, h4, _⟩ := g.cell m _ e (by intro z; cases z)
          rw [h1] at h2; cases h2
          exact .base (.lst h4)
        | dct ks xs =>
          cases h
          obtain ⟨a, h2, _, vs, h4, _⟩ := g.cell m _ e (by intro z; cases z)
          rw [h1] at h2; cases h2
          exact .base (.dK h4)
        | _ => cases h
  | _ => cases h
/-- one of these classes -/
def isiTys (n : String) : List A → Option Bool
  | [] => some false
  | .ty m :: cs => match kitB n m, isiTys n cs with
    | some b, some r => some (b || r)
    | _, _ => none
  | _ :: _ => none
theorem isiTys_ok {K : PySem.W.Frag} {F : Hp} {μ : List Addr} {n : String} : ∀ {cs : List A} {vs : List V} {b : Bool}, isiTys n cs = some b → Reps K F μ cs vs → ∃ us : List Value, Paired ClsV vs us ∧ PySem.W.kitAny K (.type n) us = some b
  | [], _, _, e, .nil => by cases e; exact ⟨[], .nil, kitAny_nil⟩
  | c :: cs, _, b, e, .cons r t => by
    cases c with
    | ty m =>
      cases r
      have e : (match kitB n m, isiTys n cs with | some b, some r => some (b || r) | _, _ => none) = some b := e
      cases e1 : kitB n m with
      | none => rw [e1] at e; cases e
      | some x =>
        cases e2 : isiTys n cs with
        | none => rw [e1, e2] at e; cases e
        | some y =>
          rw [e1, e2] at e; cases e
          obtain ⟨us, h1, h2⟩ := isiTys_ok e2 t
          refine ⟨_, .cons (.ty m) h1, kitAny_cons (kit_ty e1) (r := x || y) (fun hb => ?_) (fun hb => ?_)⟩
          · subst hb; exact h2
          · subst hb; rfl
    | _ => cases e
def isiA : Op2 := fun a c st => match tyName a st, c with
  | some n, .ty m => (kitB n m).map fun b => (.bl b, st)
  | some n, .tup cs => (isiTys n cs).map fun b => (.bl b, st)
  | _, _ => none
theorem SqT.tracked {K : PySem.W.Frag} {H : Hp} {a : Addr} {xs : List V} (h : SqT K H a xs) : True := trivial
def rIsiA (K : PySem.W.Frag) : List V → Hp → VK → Prop := fun xs H Q => rIsi K xs H Q ∨ rIsiT K xs H Q
def isiB : Op2 := fun a c st => match c with
    | .ty _ => isiA a c st
    | _ => none
theorem cb_isi : Cb (.builtin "isinstance") (two2 isiB) := cb2 (r := rIsi) (fun _ _ _ _ => call_isi) fun K Z F μ st st' H a b c x y Q g ra rb e k => by
  cases b with
  | ty m =>
    cases rb
    have e : isiA a (.ty m) st = some (c, st') := e
    unfold isiA at e
    cases e1 : tyName a st with
    | none => rw [e1] at e; cases e
    | some n =>
      rw [e1] at e
      have e : (kitB n m).map (fun b => (A.bl b, st)) = some (c, st') := e
      cases e2 : kitB n m with
      | none => rw [e2] at e; cases e
      | some b =>
        rw [e2] at e; cases e
        exact ⟨x, _, _, _, b, rfl, .ty m, tyName_ok g ra e1, kit_ty e2, k.same g (.bl _)⟩
  | _ => cases e
end
end SL

set_option Elab.async false
set_option linter.all false
set_option maxRecDepth 100000
set_option maxHeartbeats 4000000
/-! SLe: methods of built-in types; calls of defs; statements. -/
namespace SL
open PySem PySem.Spec L2
open PyProof.Rows hiding St
section
variable {Γ : G} {a b e o : Expr} {es : List Expr} {ma mb mc mo : AEnv → Store → Res A} {ms : AEnv → Store → Res (List A)} {pos p2 p apos cpos : Pos}
/-! isinstance(x, (T1, T2)) -/
def eIsiT (ma : AEnv → Store → Res A) (ms : AEnv → Store → Res (List A)) : AEnv → Store → Res A := fun env st => (ma env st).bind fun a st1 => (ms env st1).bind fun cs st2 =>
  if cs.length ≤ sizeLine then Res.of ((tyName a st2).bind fun n => (isiTys n cs).map fun b => (.bl b, st2)) else .stuck
theorem s_isiT {k : Nat} {pt : Pos} (ha : SE Γ e ma) (hc : SA Γ es ms) (hg : Γ.sc.names.lookup ("isinstance" : Str) = some .globalImplicit) (hm : Γ.mg "isinstance" = none)
    (he : ∀ env, starEach [e, .Tuple es k pt] env = (false, eval e env) :: starEach [.Tuple es k pt] env := by intro _; rfl) : SE Γ (.Call (.Name "isinstance" p) [e, .Tuple es k pt] [] pos) (eIsiT ma ms) :=
  ⟨fun W => by
    obtain ⟨ta, sa, pa⟩ := ha.run W
    obtain ⟨tc, sc, pc⟩ := hc.run W
    refine ⟨tCB (rIsiT Γ.K) (tCons ta (tCons (tTup tc) tNil)), ?_, fun X c t => ?_⟩
    · intro Z F μ st env σ H Q g re hp
      unfold eIsiT at hp
      rw [Res.post_bind] at hp
      refine sa Z F μ st env σ H _ g re (Res.post_mono hp (fun a st1 q => ?_) fun _ _ q => q)
      intro F1 μ1 H1 x e1 g1 ra
      rw [Res.post_bind] at q
      refine sc Z F1 μ1 st1 env σ H1 _ g1 (re.mono e1) (Res.post_mono q (fun cs st2 q => ?_) fun _ _ q => q.ext e1)
      intro F2 μ2 H2 xs e2 g2 rs
      by_cases hl : cs.length ≤ sizeLine
      · rw [if_pos hl] at q
        refine ⟨by rw [← rs.length]; exact hl, fun p hp => ?_⟩
        obtain ⟨c, st3, e, k⟩ := Res.post_of q
        cases en : tyName a st2 with
        | none => rw [en] at e; cases e
        | some n =>
          rw [en] at e
          have e : (isiTys n cs).map (fun b => (A.bl b, st2)) = some (c, st3) := e
          cases eb : isiTys n cs with
          | none => rw [eb] at e; cases e
          | some b =>
            rw [eb] at e; cases e
            obtain ⟨g3, e3⟩ := g2.known (p := p) (o := .tup xs) hp
            obtain ⟨us, h1, h2⟩ := isiTys_ok eb rs
            have ra3 := ra.mono (e2.trans e3)
            exact ⟨x, p, xs, _, us, b, rfl, upd_same, h1, tyName_ok g3 ra3 en, h2, Kont.now (k.ext (e1.trans (e2.trans e3))) g3 (.bl _)⟩
      · rw [if_neg hl] at q; exact q.elim
    · rw [← c.K]
      exact pe_callB call_isiT (c.gl hg) (c.mgn hm) PyProof.Rows.boot_isinstance (pa_cons (pa X c t) (pa_cons (pe_tup (pc X c t)) pa_nil) (he _)) (he := he _)⟩

/-! ### methods -/
def tyVA (T : String) (a : A) (st : Store) : Bool := match T, a with
  | "str", .str _ => true
  | "list", a => (lstR a st).isSome
  | "dict", .dct _ _ => true
  | "dict", .cell n => (match st[n]? with
    | some (.dct _ _) => true
    | _ => false)
  | _, _ => false
theorem tyVA_ok {K : PySem.W.Frag} {F : Hp} {μ : List Addr} {st : Store} {H : Hp} {T : String} {a : A} {x : V} (g : Good K Z F μ st H) (r : Rep K F μ a x) (h : tyVA T a st = true) : tyV K T x H := by
  unfold tyVA at h
  split at h
  · cases r; rfl
  · cases e : lstR a st with
    | none => rw [e] at h; cases h
    | some xs =>
      obtain ⟨p, vs, rfl, h1, _⟩ := lstR_ok g r e
      exact .inl ⟨rfl, vs, h1⟩
  · cases r with
    | dct h1 _ _ => exact .inr (.inr (.inl ⟨rfl, .inl ⟨_, g.sub _ _ h1⟩⟩))
  · rename_i n
    cases r with
    | cell h1 =>
      cases e : st[n]? with
      | none => rw [e] at h; cases h
      | some c =>
        cases c with
        | dct ks xs =>
          obtain ⟨a, h2, _, vs, h4, _⟩ := g.cell _ _ e (by intro z; cases z)
          rw [h1] at h2; cases h2
          exact .inr (.inr (.inl ⟨rfl, .inl ⟨_, h4⟩⟩))
        | _ => rw [e] at h; cases h
  · cases h
/-- a method with its plain function -/
structure Cm (T id : String) (op : A → OpN) : Prop where
  ex : ∃ r : PySem.W.Frag → V → List V → Hp → VK → Prop, (∀ (Γ : G) (X : Cx), CtxOk Γ X → MtR X id (r X.K)) ∧
    ∀ (K : PySem.W.Frag) (Z F : Hp) (μ : List Addr) (st st' : Store) (H : Hp) (a : A) (as : List A) (c : A) (x : V) (xs : List V) (Q : VK), Good K Z F μ st H → Rep K F μ a x → Reps K F μ as xs → op a as st = some (c, st') → Kont K Z Rep F μ Q c st' → r K x xs H Q
def eM (T : String) (op : A → OpN) (mo : AEnv → Store → Res A) (ms : AEnv → Store → Res (List A)) : AEnv → Store → Res A := fun env st => (mo env st).bind fun a st1 => if tyVA T a st1 then (ms env st1).bind fun as st2 => Res.of (op a as st2) else .stuck
theorem sim_m {K : PySem.W.Frag} {W : WX} {T : String} {r : V → List V → Hp → VK → Prop} {op : A → OpN} {to : TE} {t : TA}
    (h : ∀ (Z F : Hp) (μ : List Addr) (st st' : Store) (H : Hp) (a : A) (as : List A) (c : A) (x : V) (xs : List V) (Q : VK), Good K Z F μ st H → Rep K F μ a x → Reps K F μ as xs → op a as st = some (c, st') → Kont K Z Rep F μ Q c st' → r x xs H Q)
    (ho : Sim K Rep W to mo) (ha : Sim K Reps W t ms) : Sim K Rep W (tBM K T r to t) (eM T op mo ms) := by
  intro Z F μ st env σ H Q g re hp
  unfold eM at hp
  rw [Res.post_bind] at hp
  refine ho Z F μ st env σ H _ g re (Res.post_mono hp (fun a st1 q => ?_) fun _ _ q => q)
  intro F1 μ1 H1 x e1 g1 ra
  by_cases ty : tyVA T a st1 = true
  · rw [if_pos ty] at q
    refine ⟨tyVA_ok g1 ra ty, ?_⟩
    rw [Res.post_bind] at q
    refine ha Z F1 μ1 st1 env σ H1 _ g1 (re.mono e1) (Res.post_mono q (fun as st2 q => ?_) fun _ _ q => q.ext e1)
    intro F2 μ2 H2 xs e2 g2 rs
    obtain ⟨c, st3, e, k⟩ := Res.post_of q
    exact h Z F2 μ2 st2 st3 H2 a as c x xs Q g2 (ra.mono e2) rs e (k.ext (e1.trans e2))
  · rw [if_neg ty] at q; exact q.elim
theorem s_m {T id : String} {name : Str} {op : A → OpN} (pa : PlainAttrs T) (slot : Slot T name id) (hty : typeOf (.builtin id) = pure (.type "method_descriptor")) (hm : Cm T id op) (ho : SE Γ o mo) (ha : SA Γ (e :: es) ms)
    (hbase : ∀ env, attributeBase o name env (eval o env) = eval o env := by intro _; rfl)
    (hfew : ∀ env, ((backTo cpos (starEach (e :: es) env)).all (fun x => !x.1) && (backToKw cpos (keywordEach [] env)).all (fun x => x.1.isSome)
      && decide ((e :: es).length + ([] : List Keyword).length + (if ([] : List Keyword).isEmpty then 0 else 1) < 30)) = true := by intro _; rfl)
    (hline : (apos.endLine == cpos.line) = true := by rfl) (hs : ∀ env, starEach (e :: es) env = (false, eval e env) :: starEach es env := by intro _; rfl) (hplain : ∀ env, (backTo cpos (starEach es env)).any (·.1) = false := by intro _; rfl) :
    SE Γ (.Call (.Attribute o name apos) (e :: es) [] cpos) (eM T op mo ms) :=
  ⟨fun W => by
    obtain ⟨r, h1, h2⟩ := hm.ex
    obtain ⟨to, so, po⟩ := ho.run W
    obtain ⟨ta, sa, pa'⟩ := ha.run W
    refine ⟨_, sim_m (T := T) (h2 _) so sa, fun X c t => ?_⟩
    rw [← c.K]
    exact pe_bm pa slot hty (h1 Γ X c) (po X c t) (pa' X c t) (hbase _) (hfew _) hline (hs _) (hplain _)⟩
theorem s_m0 {T id : String} {name : Str} {op : A → OpN} (pa : PlainAttrs T) (slot : Slot T name id) (hty : typeOf (.builtin id) = pure (.type "method_descriptor")) (hm : Cm T id op) (ho : SE Γ o mo)
    (hbase : ∀ env, attributeBase o name env (eval o env) = eval o env := by intro _; rfl) (hline : (apos.endLine == cpos.line) = true := by rfl) :
    SE Γ (.Call (.Attribute o name apos) [] [] cpos) (eM T op mo aNil) :=
  ⟨fun W => by
    obtain ⟨r, h1, h2⟩ := hm.ex
    obtain ⟨to, so, po⟩ := ho.run W
    refine ⟨tBM Γ.K T (r Γ.K) to tNil, sim_m (T := T) (h2 _) so (fun Z F μ st env σ H Q g re h => Kont.now (show Kont Γ.K Z Reps F μ Q [] st from h) g .nil), fun X c t => ?_⟩
    rw [← c.K]
    exact pe_bm0 pa slot hty (h1 Γ X c) (po X c t) (hbase _) hline⟩
/-- a list's cell is written by a method -/
def cellL (a : A) (st : Store) : Option (Nat × List A) := match a with
  | .cell n => (match st[n]? with
    | some (.lst xs) => some (n, xs)
    | _ => none)
  | _ => none
theorem cellL_ok {K : PySem.W.Frag} {F : Hp} {μ : List Addr} {st : Store} {H : Hp} {a : A} {n : Nat} {xs : List A} {v : V} (g : Good K Z F μ st H) (r : Rep K F μ a v) (h : cellL a st = some (n, xs)) :
    ∃ p vs, v = .ref p ∧ H p = some (.lst vs) ∧ Reps K F μ xs vs ∧ ∀ ys ws, Reps K F μ ys ws → Good K Z F μ (st.set n (.lst ys)) (upd H p (.lst ws)) := by
  cases a with
  | cell m =>
    cases r with
    | cell h1 =>
      have h : (match st[m]? with | some (.lst xs) => some (m, xs) | _ => none) = some (n, xs) := h
      cases e : st[m]? with
      | none => rw [e] at h; cases h
      | some c =>
        rw [e] at h
        cases c with
        | lst ys =>
          cases h
          obtain ⟨a, h2, h3, vs, h4, h5⟩ := g.cell n _ e (by intro z; cases z)
          rw [h1] at h2; cases h2
          exact ⟨_, vs, rfl, h4, h5, fun ys ws r => g.write (o := .lst ws) e (by intro z; cases z) h1 ⟨ws, upd_same, r⟩⟩
        | _ => cases h
  | _ => cases h
def appendM : A → OpN := fun a as st => match cellL a st, as with
  | some (n, xs), [y] => if xs.length < sizeLine then some (.non, st.set n (.lst (xs ++ [y]))) else none
  | _, _ => none
theorem m_append : Cm "list" "list.append" appendM := ⟨⟨fun _ => rAppend, fun _ _ _ => mt_append, fun K Z F μ st st' H a as c x xs Q g ra rs e k => by
  unfold appendM at e
  cases e1 : cellL a st with
  | none => rw [e1] at e; cases e
  | some p =>
    obtain ⟨n, ys⟩ := p
    rw [e1] at e
    cases as with
    | nil => cases e
    | cons y as =>
      cases as with
      | cons z as => cases e
      | nil =>
        obtain ⟨v, rfl, ry⟩ := rs.one
        obtain ⟨p, vs, rfl, h1, r1, hw⟩ := cellL_ok g ra e1
        have e : (if ys.length < sizeLine then some (A.non, st.set n (.lst (ys ++ [y]))) else none) = some (c, st') := e
        by_cases hl : ys.length < sizeLine
        · rw [if_pos hl] at e; cases e
          exact ⟨p, vs, v, rfl, rfl, h1, by rw [← r1.length]; exact hl, k.now (hw _ _ (r1.append (.cons ry .nil))) .non⟩
        · rw [if_neg hl] at e; cases e⟩⟩
def popM : A → OpN := fun a as st => match cellL a st, as with
  | some (n, xs), [] => (xs[xs.length - 1]?).map fun y => (y, st.set n (.lst xs.dropLast))
  | some (n, xs), [.int i] => if -(2 ^ 63) ≤ i ∧ i < 2 ^ 63 then (seqIndex? i xs.length).bind fun k => (xs[k]?).map fun y => (y, st.set n (.lst (xs.eraseIdx k))) else none
  | _, _ => none
theorem m_pop : Cm "list" "list.pop" popM := ⟨⟨fun _ x xs H Q => rPop x xs H Q ∨ rPopAt x xs H Q, fun _ _ _ => MtR.or mt_pop mt_popAt, fun K Z F μ st st' H a as c x xs Q g ra rs e k => by
  unfold popM at e
  cases e1 : cellL a st with
  | none => rw [e1] at e; cases e
  | some p =>
    obtain ⟨n, ys⟩ := p
    rw [e1] at e
    obtain ⟨p, vs, rfl, h1, r1, hw⟩ := cellL_ok g ra e1
    cases as with
    | nil =>
      cases rs
      have e : (ys[ys.length - 1]?).map (fun y => (y, st.set n (.lst ys.dropLast))) = some (c, st') := e
      cases e2 : ys[ys.length - 1]? with
      | none => rw [e2] at e; cases e
      | some y =>
        rw [e2] at e; cases e
        obtain ⟨v, h2, h3⟩ := r1.get e2
        exact .inl ⟨p, vs, v, rfl, rfl, h1, by rw [← r1.length]; exact h2, k.now (hw _ _ r1.dropLast) h3⟩
    | cons i as =>
      cases as with
      | cons z as => cases i <;> cases e
      | nil =>
        cases i with
        | int i =>
          obtain ⟨v, rfl, ry⟩ := rs.one
          cases ry
          have e : (if -(2 ^ 63) ≤ i ∧ i < 2 ^ 63 then (seqIndex? i ys.length).bind (fun k => (ys[k]?).map fun y => (y, st.set n (.lst (ys.eraseIdx k)))) else none) = some (c, st') := e
          by_cases hl : -(2 ^ 63) ≤ i ∧ i < 2 ^ 63
          · rw [if_pos hl] at e
            cases e2 : seqIndex? i ys.length with
            | none => rw [e2] at e; cases e
            | some j =>
              rw [e2] at e
              have e : (ys[j]?).map (fun y => (y, st.set n (.lst (ys.eraseIdx j)))) = some (c, st') := e
              cases e3 : ys[j]? with
              | none => rw [e3] at e; cases e
              | some y =>
                rw [e3] at e; cases e
                obtain ⟨v, h2, h3⟩ := r1.get e3
                exact .inr ⟨p, vs, i, j, v, rfl, rfl, h1, hl.1, hl.2, by rw [← r1.length]; exact e2, h2, k.now (hw _ _ (r1.eraseIdx j)) h3⟩
          · rw [if_neg hl] at e; cases e
        | _ => cases e⟩⟩
def reverseM : A → OpN := fun a as st => match cellL a st, as with
  | some (n, xs), [] => some (.non, st.set n (.lst xs.reverse))
  | _, _ => none
theorem m_reverse : Cm "list" "list.reverse" reverseM := ⟨⟨fun _ => rReverse, fun _ _ _ => mt_reverse, fun K Z F μ st st' H a as c x xs Q g ra rs e k => by
  unfold reverseM at e
  cases e1 : cellL a st with
  | none => rw [e1] at e; cases e
  | some p =>
    obtain ⟨n, ys⟩ := p
    rw [e1] at e
    cases as with
    | cons y as => cases e
    | nil =>
      cases rs; cases e
      obtain ⟨p, vs, rfl, h1, r1, hw⟩ := cellL_ok g ra e1
      exact ⟨p, vs, rfl, rfl, h1, k.now (hw _ _ r1.reverse) .non⟩⟩⟩
def clearM : A → OpN := fun a as st => match cellL a st, as with
  | some (n, xs), [] => some (.non, st.set n (.lst []))
  | _, _ => none
theorem m_clear : Cm "list" "list.clear" clearM := ⟨⟨fun _ => rClear, fun _ _ _ => mt_clear, fun K Z F μ st st' H a as c x xs Q g ra rs e k => by
  unfold clearM at e
  cases e1 : cellL a st with
  | none => rw [e1] at e; cases e
  | some p =>
    obtain ⟨n, ys⟩ := p
    rw [e1] at e
    cases as with
    | cons y as => cases e
    | nil =>
      cases rs; cases e
      obtain ⟨p, vs, rfl, h1, r1, hw⟩ := cellL_ok g ra e1
      exact ⟨p, vs, rfl, rfl, h1, k.now (hw _ _ .nil) .non⟩⟩⟩

/-! ### calls of defs -/
/-- a def's promise: what the plain function tells -/
def spM (K : PySem.W.Frag) (n : Nat) (M : List A → Store → Res A) : Sp := fun vs H Q E => vs.length = n ∧ ∃ Z F μ st as, Good K Z F μ st H ∧ Reps K F μ as vs ∧
  (M as st).post (Kont K Z Rep F μ Q) (fun e st' => ∀ F' μ' H' d, Ext F F' μ μ' → Good K Z F' μ' st' H' → XRep K F' μ' e d → E (.ref (He.ga K e.c)) d H')
/-- a def of the module, what it does -/
structure FnS (P : Program) (w : World) (K : PySem.W.Frag) (mg : Str → Option Value) (base : Heap) (k : Nat) (f : Addr) (ps : List Str) (M : List A → Store → Res A) : Prop where
  ex : ∃ fd, FnOk P w K mg base (L2.CX P w) k f fd ps (spM K ps.length M) ∧ Binds K fd ps []
  kp : PySem.W.keepIn K (.ref f) = true
  ar : ∀ as st, as.length ≠ ps.length → M as st = .stuck
def eCall (M : List A → Store → Res A) (ms : AEnv → Store → Res (List A)) : AEnv → Store → Res A := fun env st => (ms env st).bind fun as st1 => M as st1
theorem sim_call {K : PySem.W.Frag} {W : WX} {n : Nat} {M : List A → Store → Res A} {t : TA} (ar : ∀ as st, as.length ≠ n → M as st = .stuck) (ha : Sim K Reps W t ms) : Sim K Rep W (tCallS (spM K n M) (WE W) t) (eCall M ms) :=
  Sim.bind (k := fun vs σ H Q => spM K n M vs H Q (WE W σ)) (m' := fun as env st1 => M as st1) ha fun Z F μ st env σ H Q a x g re ra hp => by
    refine ⟨?_, Z, F, μ, st, a, g, ra, hp⟩
    rw [← ra.length]
    by_cases h : a.length = n
    · exact h
    · rw [ar a st h] at hp; exact hp.elim
theorem s_call {j : Nat} {x : Str} {ps : List Str} {M : List A → Store → Res A} (F : FnS Γ.P Γ.w Γ.K Γ.mg Γ.base j (He.ga Γ.K x) ps M) (hj : j ≤ Γ.k) (hg : Γ.sc.names.lookup x = some .globalImplicit) (hm : Γ.mg x = some (.ref (He.ga Γ.K x)))
    (ha : SA Γ (e :: es) ms) (hdb : (x == ("__debug__" : Str)) = false := by decide) (he : ∀ env, starEach (e :: es) env = (false, eval e env) :: starEach es env := by intro _; rfl)
    (hpl : ∀ env, (backTo pos (starEach es env)).any (·.1) = false := by intro _; rfl) (cm : Γ.calm = true := by rfl) : SE Γ (.Call (.Name x p) (e :: es) [] pos) (eCall M ms) :=
  ⟨fun W => by
    obtain ⟨fd, h1, h2⟩ := F.ex
    obtain ⟨ta, sa, pa⟩ := ha.run W
    refine ⟨_, sim_call F.ar sa, fun X c t => ?_⟩
    have h1' : FnOk X.prog X.w X.K X.mg X.base (L2.CX X.prog X.w) j (He.ga Γ.K x) fd ps (spM Γ.K ps.length M) := by
      rw [c.prog, c.w, c.K, c.mg, c.base]; exact h1
    exact pe_callS h1' ((c.room cm).mono hj) (c.gl hg) (c.mgn hm) (by rw [c.K]; exact F.kp) (by rw [c.K]; exact h2) (fun σ => passAt t σ) (pa X c t) hdb (he _) (hpl _)⟩
end
end SL

set_option Elab.async false
set_option linter.all false
set_option maxRecDepth 100000
set_option maxHeartbeats 4000000
/-! SLf: what loops walk; targets; statements. -/
namespace SL
open PySem PySem.Spec L2
open PyProof.Rows hiding St
/-! ### what is walked -/
def srcOk (src : Option Nat) (xs : List A) (st : Store) : Prop := match src with
  | none => True
  | some c => st[c]? = some (.lst xs)
@[simp] theorem srcOk_none (xs : List A) (st : Store) : srcOk none xs st = True := (rfl)
@[simp] theorem srcOk_some (c : Nat) (xs : List A) (st : Store) : srcOk (some c) xs st = (st[c]? = some (.lst xs)) := (rfl)
def ItOk (K : PySem.W.Frag) (Z F : Hp) (μ : List Addr) (xs : List A) (src : Option Nat) (J : It) : Prop := ∀ (Z' : Hp) (i : Nat) (F' : Hp) (μ' : List Addr) (st' : Store) (H' : Hp), Ext F F' μ μ' → Good K Z' F' μ' st' H' → srcOk src xs st' →
  (∀ x, xs[i]? = some x → J.go i H' ∧ ∀ v H2, J.yld i H' v H2 → ∃ F2, Ext F' F2 μ' μ' ∧ Good K Z' F2 μ' st' H2 ∧ Rep K F2 μ' x v) ∧ (xs.length ≤ i → J.stop i H')
theorem ItOk.ext {K : PySem.W.Frag} {Z F F1 : Hp} {μ μ1 : List Addr} {xs : List A} {src : Option Nat} {J : It} (h : ItOk K Z F μ xs src J) (e : Ext F F1 μ μ1) : ItOk K Z F1 μ1 xs src J := fun Z' i F' μ' st' H' e' => h Z' i F' μ' st' H' (e.trans e')
abbrev MI := AEnv → Store → Res (List A × Option Nat)
def SimI (K : PySem.W.Frag) (W : WX) (wi : TI) (m : MI) : Prop := ∀ (Z F : Hp) (μ : List Addr) (st : Store) (env : AEnv) (σ : St) (H : Hp) (R : It → Hp → Prop), Good K Z F μ st H → REnv K F μ env σ →
  (m env st).post (fun p st' => ∀ F' μ' H', Ext F F' μ μ' → Good K Z F' μ' st' H' → ∀ J, ItOk K Z F' μ' p.1 p.2 J → R J H') (KX K Z F μ σ W) → wi σ H R
structure SI (Γ : G) (tg iter : Expr) (m : MI) : Prop where
  run : ∀ W : WX, ∃ wi : TI, SimI Γ.K W wi m ∧ ∀ X, CtxOk Γ X → Takes X W → PI X tg iter wi
theorem pi_or {X : Cx} {tg iter : Expr} {w1 w2 : TI} (h1 : PI X tg iter w1) (h2 : PI X tg iter w2) : PI X tg iter (fun σ H R => w1 σ H R ∨ w2 σ H R) :=
  ⟨fun pins s σ H R I h => h.elim (h1.run pins s σ H R I) (h2.run pins s σ H R I)⟩
def srcOf : A → Option Nat
  | .cell n => some n
  | _ => none
/-- a list or a tuple -/
def mSeq (m : AEnv → Store → Res A) : MI := fun env st => (m env st).bind fun a st1 => match seqR a st1 with
  | some xs => .ok (xs, srcOf a) st1
  | none => .stuck
/-- what is read of a list later -/
theorem lstR_later {K : PySem.W.Frag} {Z Z' F F' : Hp} {μ μ' : List Addr} {st st' : Store} {H H' : Hp} {a : A} {xs : List A} {p : Addr} (g : Good K Z F μ st H) (r : Rep K F μ a (.ref p)) (h : lstR a st = some xs) (e : Ext F F' μ μ') (g' : Good K Z' F' μ' st' H')
    (s : srcOk (srcOf a) xs st') : ∃ vs, SqL K H' p vs ∧ Reps K F' μ' xs vs := by
  have fin : ∀ st'', Good K Z' F' μ' st'' H' → lstR a st'' = some xs → ∃ vs, SqL K H' p vs ∧ Reps K F' μ' xs vs := fun st'' g'' h'' => by
    obtain ⟨q, vs, e1, h1, h2⟩ := lstR_ok g'' (r.mono e) h''
    cases e1
    exact ⟨vs, h1, h2⟩
  cases a with
  | lst ys => exact fin st' g' h
  | slst ys => exact fin st' g' h
  | cell n => exact fin st' g' (by have s : st'[n]? = some (.lst xs) := s; simp [lstR, lstH, s])
  | _ => cases h
section
variable {Γ : G} {e e2 : Expr} {tg : Expr} {m m2 : AEnv → Store → Res A} {p pos : Pos}
theorem itl_ok {K : PySem.W.Frag} {Z F : Hp} {μ : List Addr} {st : Store} {H : Hp} {a : A} {xs : List A} {p : Addr} (g : Good K Z F μ st H) (r : Rep K F μ a (.ref p)) (h : lstR a st = some xs) : ItOk K Z F μ xs (srcOf a) (Itl K p) := by
  intro Z' i F' μ' st' H' e g' s
  obtain ⟨vs, h1, h2⟩ := lstR_later g r h e g' s
  refine ⟨fun x hx => ?_, fun hl => ⟨vs, h1, by rw [← h2.length]; exact hl⟩⟩
  obtain ⟨v, hv, rv⟩ := h2.get hx
  refine ⟨⟨vs, v, h1, hv⟩, fun w H2 y => ?_⟩
  obtain ⟨rfl, y⟩ := y
  have := y vs h1
  rw [hv] at this; cases this
  exact ⟨F', Ext.refl, g', rv⟩
theorem itt_ok {K : PySem.W.Frag} {Z F : Hp} {μ : List Addr} {st : Store} {H : Hp} {a : A} {xs : List A} {p : Addr} (g : Good K Z F μ st H) (r : Rep K F μ a (.ref p)) (h : tupR a = some xs) : ItOk K Z F μ xs none (Itt K p) := by
  intro Z' i F' μ' st' H' e g' s
  obtain ⟨q, vs, e1, h1, h2⟩ := tupR_ok g' (r.mono e) h
  cases e1
  refine ⟨fun x hx => ?_, fun hl => ⟨vs, h1, by rw [← h2.length]; exact hl⟩⟩
  obtain ⟨v, hv, rv⟩ := h2.get hx
  refine ⟨⟨vs, v, h1, hv⟩, fun w H2 y => ?_⟩
  obtain ⟨rfl, y⟩ := y
  have := y vs h1
  rw [hv] at this; cases this
  exact ⟨F', Ext.refl, g', rv⟩
theorem i_seq (h : SE Γ e m) : SI Γ tg e (mSeq m) :=
  ⟨fun W => by
    obtain ⟨t, s, ph⟩ := h.run W
    refine ⟨fun σ H R => iList Γ.K t σ H R ∨ iTup Γ.K t σ H R, ?_, fun X c k => ?_⟩
    · intro Z F μ st env σ H R g re hp
      unfold mSeq at hp
      rw [Res.post_bind] at hp
      have left : ((m env st).post (fun a st1 => ∀ xs, lstR a st1 = some xs → seqR a st1 = some xs → (match seqR a st1 with | some xs => Res.ok (xs, srcOf a) st1 | none => .stuck).post (fun p st' => ∀ F' μ' H', Ext F F' μ μ' → Good Γ.K Z F' μ' st' H' → ∀ J, ItOk Γ.K Z F' μ' p.1 p.2 J → R J H') (KX Γ.K Z F μ σ W)) (KX Γ.K Z F μ σ W)) → (∀ a st1, m env st = .ok a st1 → ∃ xs, lstR a st1 = some xs ∧ seqR a st1 = some xs) → iList Γ.K t σ H R := by
        intro hq hl
        refine s Z F μ st env σ H _ g re ?_
        cases em : m env st with
        | stuck => rw [em] at hq; exact hq.elim
        | exc x st1 => rw [em] at hq; exact hq
        | ok a st1 =>
          rw [em] at hq
          obtain ⟨xs, h1, h2⟩ := hl a st1 em
          have q := hq xs h1 h2
          rw [h2] at q
          intro F1 μ1 H1 x e1 g1 ra
          obtain ⟨p, vs, rfl, h3, h4⟩ := lstR_ok g1 ra h1
          exact ⟨p, rfl, ⟨vs, h3⟩, q F1 μ1 H1 e1 g1 _ (itl_ok g1 ra h1)⟩
      have right : (∀ a st1, m env st = .ok a st1 → ∃ xs, tupR a = some xs) → (∃ a st1, m env st = .ok a st1) → iTup Γ.K t σ H R := by
        rintro hl ⟨a, st1, em⟩
        refine s Z F μ st env σ H _ g re ?_
        rw [em] at hp ⊢
        obtain ⟨xs, h1⟩ := hl a st1 em
        have h2 : seqR a st1 = some xs := by unfold seqR; rw [h1]; rfl
        have q : (match seqR a st1 with | some xs => Res.ok (xs, srcOf a) st1 | none => .stuck).post (fun p st' => ∀ F' μ' H', Ext F F' μ μ' → Good Γ.K Z F' μ' st' H' → ∀ J, ItOk Γ.K Z F' μ' p.1 p.2 J → R J H') (KX Γ.K Z F μ σ W) := hp
        rw [h2] at q
        intro F1 μ1 H1 x e1 g1 ra
        obtain ⟨p, vs, rfl, h3, h4⟩ := tupR_ok g1 ra h1
        have hs : srcOf a = none := by cases a <;> first | rfl | cases h1
        refine ⟨p, rfl, ⟨vs, h3⟩, q F1 μ1 H1 e1 g1 _ ?_⟩
        show ItOk Γ.K Z F1 μ1 xs (srcOf a) _
        rw [hs]
        exact itt_ok g1 ra h1
      cases em : m env st with
      | stuck => rw [em] at hp; exact hp.elim
      | exc x st1 =>
        refine .inl (left ?_ fun a st1 z => by rw [em] at z; cases z)
        rw [em] at hp ⊢; exact hp
      | ok a st1 =>
        cases et : tupR a with
        | some xs => exact .inr (right (fun a' st' z => by rw [em] at z; cases z; exact ⟨xs, et⟩) ⟨a, st1, em⟩)
        | none =>
          refine .inl (left ?_ fun a' st' z => ?_)
          · rw [em] at hp ⊢; intro xs h1 h2; exact hp
          · rw [em] at z; cases z
            rw [em] at hp
            have q : (match seqR a st1 with | some xs => Res.ok (xs, srcOf a) st1 | none => .stuck).post (fun p st' => ∀ F' μ' H', Ext F F' μ μ' → Good Γ.K Z F' μ' st' H' → ∀ J, ItOk Γ.K Z F' μ' p.1 p.2 J → R J H') (KX Γ.K Z F μ σ W) := hp
            cases eq : seqR a st1 with
            | none => rw [eq] at q; exact q.elim
            | some xs =>
              refine ⟨xs, ?_, rfl⟩
              unfold seqR at eq; rw [et] at eq; exact eq
    · rw [← c.K]
      exact pi_or (pi_list (ph X c k)) (pi_tup (ph X c k))⟩
/-- the ints from lo, below hi -/
def rgA (lo hi : Int) : List A := (List.range (hi - lo).toNat).map fun i => .int (lo + (i : Nat))
theorem rgA_get {lo hi : Int} {i : Nat} {x : A} (h : (rgA lo hi)[i]? = some x) : i < (hi - lo).toNat ∧ x = .int (lo + (i : Nat)) := by
  unfold rgA at h
  rw [List.getElem?_map] at h
  by_cases hi' : i < (hi - lo).toNat
  · rw [List.getElem?_range hi'] at h; cases h; exact ⟨hi', rfl⟩
  · rw [List.getElem?_eq_none (by rw [List.length_range]; omega)] at h; cases h
theorem rgA_length {lo hi : Int} : (rgA lo hi).length = (hi - lo).toNat := by unfold rgA; rw [List.length_map, List.length_range]
theorem itr_ok {K : PySem.W.Frag} {Z F : Hp} {μ : List Addr} {lo hi : Int} : ItOk K Z F μ (rgA lo hi) none (Itr lo (hi - lo).toNat) := by
  intro Z' i F' μ' st' H' e g' s
  refine ⟨fun x hx => ?_, fun hl => by rw [rgA_length] at hl; exact hl⟩
  obtain ⟨h1, rfl⟩ := rgA_get hx
  refine ⟨h1, fun v H2 y => ?_⟩
  obtain ⟨rfl, rfl⟩ := y
  exact ⟨F', Ext.refl, g', .int _⟩
def mRng1 (ms : AEnv → Store → Res (List A)) : MI := fun env st => (ms env st).bind fun as st1 => match as with
  | [.int j] => if -(2 ^ 62) ≤ j ∧ j < 2 ^ 62 then .ok (rgA 0 j, none) st1 else .stuck
  | _ => .stuck
def mRng2 (ms : AEnv → Store → Res (List A)) : MI := fun env st => (ms env st).bind fun as st1 => match as with
  | [.int i, .int j] => if -(2 ^ 62) ≤ i ∧ i < 2 ^ 62 ∧ -(2 ^ 62) ≤ j ∧ j < 2 ^ 62 then .ok (rgA i j, none) st1 else .stuck
  | _ => .stuck
variable {ms : AEnv → Store → Res (List A)}
theorem i_rng1 (hg : Γ.sc.names.lookup ("range" : Str) = some .globalImplicit) (hm : Γ.mg "range" = none) (ha : SA Γ [e] ms) (hs : ∀ env, starEach [e] env = [(false, eval e env)] := by intro _; rfl) : SI Γ tg (.Call (.Name "range" p) [e] [] pos) (mRng1 ms) :=
  ⟨fun W => by
    obtain ⟨t, s, ph⟩ := ha.run W
    refine ⟨iRng1 t, ?_, fun X c k => pi_range1 (c.gl hg) (c.mgn hm) (ph X c k) (hs _)⟩
    intro Z F μ st env σ H R g re hp
    unfold mRng1 at hp
    rw [Res.post_bind] at hp
    refine s Z F μ st env σ H _ g re (Res.post_mono hp (fun as st1 q => ?_) fun _ _ q => q)
    intro F1 μ1 H1 xs e1 g1 ra
    split at q
    · rename_i j
      split at q
      · rename_i hb
        obtain ⟨v, rfl, rv⟩ := ra.one
        cases rv
        exact ⟨j, rfl, hb.1, hb.2, by have := q F1 μ1 H1 e1 g1 (Itr 0 (j - 0).toNat) itr_ok; rw [Int.sub_zero] at this; exact this⟩
      · exact q.elim
    · exact q.elim⟩
theorem i_rng2 (hg : Γ.sc.names.lookup ("range" : Str) = some .globalImplicit) (hm : Γ.mg "range" = none) (ha : SA Γ [e, e2] ms) (hs : ∀ env, starEach [e, e2] env = [(false, eval e env), (false, eval e2 env)] := by intro _; rfl)
    (hs2 : ∀ env, starEach [e2] env = [(false, eval e2 env)] := by intro _; rfl) : SI Γ tg (.Call (.Name "range" p) [e, e2] [] pos) (mRng2 ms) :=
  ⟨fun W => by
    obtain ⟨t, s, ph⟩ := ha.run W
    refine ⟨iRng2 t, ?_, fun X c k => pi_range2 (c.gl hg) (c.mgn hm) (ph X c k) (hs _) (hs2 _)⟩
    intro Z F μ st env σ H R g re hp
    unfold mRng2 at hp
    rw [Res.post_bind] at hp
    refine s Z F μ st env σ H _ g re (Res.post_mono hp (fun as st1 q => ?_) fun _ _ q => q)
    intro F1 μ1 H1 xs e1 g1 ra
    split at q
    · rename_i i j
      split at q
      · rename_i hb
        obtain ⟨v, w, rfl, rv, rw'⟩ := ra.two
        cases rv; cases rw'
        exact ⟨i, j, rfl, hb, q F1 μ1 H1 e1 g1 (Itr i (j - i).toNat) itr_ok⟩
      · exact q.elim
    · exact q.elim⟩
/-- reversed(xs), enumerate(xs), zip(xs, ys) of lists -/
def mRev (ms : AEnv → Store → Res (List A)) : MI := fun env st => (ms env st).bind fun as st1 => match as with
  | [a] => (match a with
    | .cell _ => .stuck
    | a => (match lstR a st1 with
      | some xs => .ok (xs.reverse, none) st1
      | none => .stuck))
  | _ => .stuck
def enA : Nat → List A → List A
  | _, [] => []
  | i, x :: xs => .tup [.int i, x] :: enA (i + 1) xs
theorem enA_get : ∀ (xs : List A) (j i : Nat), (enA j xs)[i]? = (xs[i]?).map fun x => A.tup [.int ((j + i : Nat) : Int), x]
  | [], j, i => by simp [enA]
  | x :: xs, j, 0 => by simp [enA]
  | x :: xs, j, i + 1 => by
    rw [enA, List.getElem?_cons_succ, enA_get xs (j + 1) i, List.getElem?_cons_succ]
    congr 1
    funext y
    rw [show j + 1 + i = j + (i + 1) by omega]
theorem enA_length : ∀ (xs : List A) (j : Nat), (enA j xs).length = xs.length
  | [], _ => rfl
  | x :: xs, j => by rw [enA, List.length_cons, List.length_cons, enA_length xs]
def mEnum (ms : AEnv → Store → Res (List A)) : MI := fun env st => (ms env st).bind fun as st1 => match as with
  | [a] => (match a with
    | .cell _ => .stuck
    | a => (match lstR a st1 with
      | some xs => .ok (enA 0 xs, none) st1
      | none => .stuck))
  | _ => .stuck
def zpA (xs ys : List A) : List A := (xs.zip ys).map fun p => .tup [p.1, p.2]
def mZip (ms : AEnv → Store → Res (List A)) : MI := fun env st => (ms env st).bind fun as st1 => match as with
  | [a, b] => (match srcOf a, srcOf b with
    | none, none => (match lstR a st1, lstR b st1 with
      | some xs, some ys => .ok (zpA xs ys, none) st1
      | _, _ => .stuck)
    | _, _ => .stuck)
  | _ => .stuck
theorem i_rev (hg : Γ.sc.names.lookup ("reversed" : Str) = some .globalImplicit) (hm : Γ.mg "reversed" = none) (ha : SA Γ [e] ms) (hs : ∀ env, starEach [e] env = [(false, eval e env)] := by intro _; rfl) : SI Γ tg (.Call (.Name "reversed" p) [e] [] pos) (mRev ms) :=
  ⟨fun W => by
    obtain ⟨t, s, ph⟩ := ha.run W
    refine ⟨iRev Γ.K t, ?_, fun X c k => by rw [← c.K]; exact pi_reversed (c.gl hg) (c.mgn hm) (ph X c k) (hs _)⟩
    intro Z F μ st env σ H R g re hp
    unfold mRev at hp
    rw [Res.post_bind] at hp
    refine s Z F μ st env σ H _ g re (Res.post_mono hp (fun as st1 q => ?_) fun _ _ q => q)
    intro F1 μ1 H1 xs e1 g1 ra
    split at q
    · rename_i a
      obtain ⟨v, rfl, rv⟩ := ra.one
      split at q
      · exact q.elim
      · rename_i hn
        have hsrc : srcOf a = none := by cases a <;> first | rfl | exact absurd rfl (hn _)
        split at q
        · rename_i ys hy
          obtain ⟨p, vs, rfl, h1, r1⟩ := lstR_ok g1 rv hy
          refine ⟨p, vs, rfl, h1, q F1 μ1 H1 e1 g1 _ ?_⟩
          intro Z' i F' μ' st' H' e' g' s'
          obtain ⟨ws, h2, r2⟩ := lstR_later g1 rv hy e' g' (by rw [hsrc]; trivial)
          have hlen : vs.length = ys.length := r1.length.symm
          refine ⟨fun x hx => ?_, fun hl => by rw [hlen]; rw [List.length_reverse] at hl; exact hl⟩
          have hi : i < ys.length := by have := (List.getElem?_eq_some_iff.mp hx).1; rw [List.length_reverse] at this; exact this
          rw [List.getElem?_reverse hi] at hx
          obtain ⟨v, hv, rv'⟩ := r2.get hx
          refine ⟨⟨by omega, ws, v, h2, by rw [hlen]; exact hv⟩, fun w H2 y => ?_⟩
          obtain ⟨rfl, y⟩ := y
          have := y ws h2
          rw [hlen, hv] at this; cases this
          exact ⟨F', Ext.refl, g', rv'⟩
        · exact q.elim
    · exact q.elim⟩
theorem i_enum {elts : List Expr} {kk : Nat} {tpos : Pos} (hg : Γ.sc.names.lookup ("enumerate" : Str) = some .globalImplicit) (hm : Γ.mg "enumerate" = none) (ha : SA Γ [e] ms) (hs : ∀ env, starEach [e] env = [(false, eval e env)] := by intro _; rfl) :
    SI Γ (.Tuple elts kk tpos) (.Call (.Name "enumerate" p) [e] [] pos) (mEnum ms) :=
  ⟨fun W => by
    obtain ⟨t, s, ph⟩ := ha.run W
    refine ⟨iEnum Γ.K t, ?_, fun X c k => by rw [← c.K]; exact pi_enum (c.gl hg) (c.mgn hm) (ph X c k) (hs _)⟩
    intro Z F μ st env σ H R g re hp
    unfold mEnum at hp
    rw [Res.post_bind] at hp
    refine s Z F μ st env σ H _ g re (Res.post_mono hp (fun as st1 q => ?_) fun _ _ q => q)
    intro F1 μ1 H1 xs e1 g1 ra
    split at q
    · rename_i a
      obtain ⟨v, rfl, rv⟩ := ra.one
      split at q
      · exact q.elim
      · rename_i hn
        have hsrc : srcOf a = none := by cases a <;> first | rfl | exact absurd rfl (hn _)
        split at q
        · rename_i ys hy
          obtain ⟨p, vs, rfl, h1, r1⟩ := lstR_ok g1 rv hy
          refine ⟨p, vs, rfl, h1, q F1 μ1 H1 e1 g1 _ ?_⟩
          intro Z' i F' μ' st' H' e' g' s'
          obtain ⟨ws, h2, r2⟩ := lstR_later g1 rv hy e' g' (by rw [hsrc]; trivial)
          refine ⟨fun x hx => ?_, fun hl => ⟨ws, h2, by rw [enA_length] at hl; rw [← r2.length]; exact hl⟩⟩
          rw [enA_get] at hx
          cases hy' : ys[i]? with
          | none => rw [hy'] at hx; cases hx
          | some y =>
            rw [hy'] at hx; cases hx
            obtain ⟨v, hv, rv'⟩ := r2.get hy'
            refine ⟨⟨ws, v, h2, hv⟩, fun w H2 z => ?_⟩
            obtain ⟨T, x, rfl, hT, rfl, z⟩ := z
            have := z ws h2
            rw [hv] at this; cases this
            obtain ⟨g2, e2⟩ := g'.known (p := T) (o := .tup [.int (i : Nat), v]) hT
            exact ⟨_, e2, g2, .tup (SqT.of upd_same) (.cons (by rw [Nat.zero_add]; exact .int _) (.cons (rv'.mono e2) .nil))⟩
        · exact q.elim
    · exact q.elim⟩
theorem i_zip {elts : List Expr} {kk : Nat} {tpos : Pos} (hg : Γ.sc.names.lookup ("zip" : Str) = some .globalImplicit) (hm : Γ.mg "zip" = none) (ha : SA Γ [e, e2] ms) (hs : ∀ env, starEach [e, e2] env = (false, eval e env) :: starEach [e2] env := by intro _; rfl)
    (hpl : ∀ env, (backTo pos (starEach [e2] env)).any (·.1) = false := by intro _; rfl) : SI Γ (.Tuple elts kk tpos) (.Call (.Name "zip" p) [e, e2] [] pos) (mZip ms) :=
  ⟨fun W => by
    obtain ⟨t, s, ph⟩ := ha.run W
    refine ⟨iZip Γ.K t, ?_, fun X c k => by rw [← c.K]; exact pi_zip (c.gl hg) (c.mgn hm) (ph X c k) (hs _) (hpl _)⟩
    intro Z F μ st env σ H R g re hp
    unfold mZip at hp
    rw [Res.post_bind] at hp
    refine s Z F μ st env σ H _ g re (Res.post_mono hp (fun as st1 q => ?_) fun _ _ q => q)
    intro F1 μ1 H1 xs e1 g1 ra
    split at q
    · rename_i a b
      obtain ⟨v, w, rfl, rv, rw'⟩ := ra.two
      split at q
      · rename_i ha' hb'
        split at q
        · rename_i xs ys hx hy
          obtain ⟨p1, vs, rfl, h1, r1⟩ := lstR_ok g1 rv hx
          obtain ⟨p2, ws, rfl, h2, r2⟩ := lstR_ok g1 rw' hy
          refine ⟨p1, p2, vs, ws, rfl, h1, h2, q F1 μ1 H1 e1 g1 _ ?_⟩
          intro Z' i F' μ' st' H' e' g' s'
          obtain ⟨vs', k1, t1⟩ := lstR_later g1 rv hx e' g' (by rw [ha']; trivial)
          obtain ⟨ws', k2, t2⟩ := lstR_later g1 rw' hy e' g' (by rw [hb']; trivial)
          refine ⟨fun x hx' => ?_, fun hl => ⟨vs', ws', k1, k2, ?_⟩⟩
          · unfold zpA at hx'
            rw [List.getElem?_map] at hx'
            cases hz : (xs.zip ys)[i]? with
            | none => rw [hz] at hx'; cases hx'
            | some pr =>
              rw [hz] at hx'; cases hx'
              rw [List.getElem?_zip_eq_some] at hz
              obtain ⟨v1, hv1, rv1⟩ := t1.get hz.1
              obtain ⟨v2, hv2, rv2⟩ := t2.get hz.2
              refine ⟨⟨vs', ws', v1, v2, k1, k2, hv1, hv2⟩, fun u H2 z => ?_⟩
              obtain ⟨T, x, y, rfl, hT, rfl, z1, z2⟩ := z
              have q1 := z1 vs' k1
              have q2 := z2 ws' k2
              rw [hv1] at q1; cases q1
              rw [hv2] at q2; cases q2
              obtain ⟨g2, e2⟩ := g'.known (p := T) (o := .tup [v1, v2]) hT
              exact ⟨_, e2, g2, .tup (SqT.of upd_same) (.cons (rv1.mono e2) (.cons (rv2.mono e2) .nil))⟩
          · unfold zpA at hl
            rw [List.length_map, List.length_zip] at hl
            have := t1.length; have := t2.length
            omega
        · exact q.elim
      · exact q.elim
    · exact q.elim⟩
end
end SL

set_option Elab.async false
set_option linter.all false
set_option maxRecDepth 100000
set_option maxHeartbeats 4000000
/-! SLg: targets, statements, comprehensions, a def. -/
namespace SL
open PySem PySem.Spec L2
open PyProof.Rows hiding St
/-! ### targets -/
abbrev MG := A → AEnv → Option AEnv
/-- the slots differ at most at own -/
structure Diff (own : List Nat) (σ σ' : St) : Prop where
  len : σ'.length = σ.length
  at_ : ∀ i, i ∉ own → σ'[i]? = σ[i]?
theorem Diff.refl {own : List Nat} {σ : St} : Diff own σ σ := ⟨rfl, fun _ _ => rfl⟩
theorem Diff.trans {o1 o2 : List Nat} {σ σ1 σ2 : St} (a : Diff o1 σ σ1) (b : Diff o2 σ1 σ2) : Diff (o1 ++ o2) σ σ2 := ⟨b.len.trans a.len, fun i h => by
  rw [List.mem_append, not_or] at h
  exact (b.at_ i h.2).trans (a.at_ i h.1)⟩
theorem wipe_at (σ : St) : ∀ (vs : List Nat) (i : Nat), (wipe σ vs)[i]? = if i ∈ vs ∧ i < σ.length then some none else σ[i]?
  | [], i => by simp [wipe]
  | v :: vs, i => by
    unfold wipe
    rw [List.getElem?_set, wipe_length, wipe_at σ vs i]
    by_cases h : v = i
    · subst h
      by_cases hl : v < σ.length <;> simp [hl]
    · have h' : i ≠ v := fun q => h q.symm
      simp [h, h']
theorem Diff.wipe {own vs : List Nat} {σ σ' : St} (d : Diff own σ σ') (h : ∀ i ∈ own, i ∈ vs) : L2.wipe σ' vs = L2.wipe σ vs := by
  apply List.ext_getElem?
  intro i
  rw [wipe_at, wipe_at, d.len]
  by_cases hi : i ∈ vs
  · by_cases hl : i < σ.length
    · simp [hi, hl]
    · simp [hi, hl]
      rw [d.len]; omega
  · simp [hi]
    exact d.at_ i fun q => hi (h i q)
def SimG (K : PySem.W.Frag) (t : TG) (g : MG) (own : List Nat) : Prop := ∀ (Z F : Hp) (μ : List Addr) (st : Store) (env env' : AEnv) (σ : St) (H : Hp) (v : V) (a : A) (Q : St → Hp → Prop), Good K Z F μ st H → REnv K F μ env σ → Rep K F μ a v → g a env = some env' →
  (∀ σ', REnv K F μ env' σ' → Diff own σ σ' → Q σ' H) → t v σ H Q
structure SG (Γ : G) (fo : Str → Bool) (tg : Expr) (g : MG) (own : List Nat) : Prop where
  run : ∃ t : TG, SimG Γ.K t g own ∧ ∀ X, CtxOk Γ X → (∀ x, fo x = true → X.fn x = true) → PG X tg t
structure SGs (Γ : G) (fo : Str → Bool) (tgs : List Expr) (g : List A → AEnv → Option AEnv) (own : List Nat) : Prop where
  run : ∃ t : TGs, (∀ (Z F : Hp) (μ : List Addr) (st : Store) (env env' : AEnv) (σ : St) (H : Hp) (vs : List V) (as : List A) (Q : St → Hp → Prop), Good Γ.K Z F μ st H → REnv Γ.K F μ env σ → Reps Γ.K F μ as vs → g as env = some env' →
    (∀ σ', REnv Γ.K F μ env' σ' → Diff own σ σ' → Q σ' H) → t vs σ H Q) ∧ ∀ X, CtxOk Γ X → (∀ x, fo x = true → X.fn x = true) → PGs X tgs t
def gN (i : Nat) : MG := fun a env => some (env.set i (some a))
def gsNil : List A → AEnv → Option AEnv := fun as env => match as with
  | [] => some env
  | _ => none
def gsCons (g : MG) (gs : List A → AEnv → Option AEnv) : List A → AEnv → Option AEnv := fun as env => match as with
  | a :: as => (g a env).bind fun env1 => gs as env1
  | _ => none
def gT (n : Nat) (gs : List A → AEnv → Option AEnv) : MG := fun a env => match tupR a with
  | some xs => if xs.length = n then gs xs env else none
  | none => none
section
variable {Γ : G} {fo : Str → Bool} {own own' : List Nat} {pos : Pos} {e : Expr} {es : List Expr} {g : MG} {gs : List A → AEnv → Option AEnv}
theorem g_name {i : Nat} {x : Str} (hi : Γ.N[i]? = some x) (hx : Loc Γ.sc x) (hf : fo x = true ∨ Γ.sc.names.lookup x = some .local := by first | exact .inl rfl | exact .inr rfl) : SG Γ fo (.Name x pos) (gN i) [i] :=
  ⟨gName i, fun Z F μ st env env' σ H v a Q g re ra e k => by cases e; exact k _ (re.set i ra) ⟨by rw [List.length_set], fun j hj => by rw [List.getElem?_set_ne (fun q => hj (by simp [q]))]⟩, fun X c hfo => pg_name c.nd (c.name hi) (by rw [c.sc]; exact hx) (hf.imp (hfo x) fun h => by rw [c.sc]; exact h)⟩
theorem gs_nil : SGs Γ fo [] gsNil [] := by
  refine ⟨gNil, fun Z F μ st env env' σ H vs as Q g re ra e k => ?_, fun X c hfo => pgs_nil⟩
  cases as with
  | nil => cases ra; cases e; exact ⟨rfl, k _ re Diff.refl⟩
  | cons a as => cases e
theorem gs_cons (h : SG Γ fo e g own) (hs : SGs Γ fo es gs own') (ha : ∀ env, (assignEach (e :: es) env).map (·.2) = assign e env :: (assignEach es env).map (·.2) := by intro _; rfl) : SGs Γ fo (e :: es) (gsCons g gs) (own ++ own') := by
  obtain ⟨t, h1, h2⟩ := h.run
  obtain ⟨ts, h3, h4⟩ := hs.run
  refine ⟨gCons t ts, fun Z F μ st env env' σ H vs as Q gd re ra e' k => ?_, fun X c hfo => pgs_cons (h2 X c hfo) (h4 X c hfo) (ha _)⟩
  cases as with
  | nil => cases e'
  | cons a as =>
    cases ra with
    | cons r rs =>
      have e' : (g a env).bind (fun env1 => gs as env1) = some env' := e'
      cases e1 : g a env with
      | none => rw [e1] at e'; cases e'
      | some env1 =>
        rw [e1] at e'
        exact ⟨_, _, rfl, h1 Z F μ st env env1 σ H _ a _ gd re r e1 fun σ' re' d => h3 Z F μ st env1 env' σ' H _ as Q gd re' rs e' fun σ2 re2 d2 => k σ2 re2 (d.trans d2)⟩
theorem g_tup {k n : Nat} (hs : SGs Γ fo es gs own) (hn : ∀ env, (assignEach es env).length = n := by intro _; rfl) (hst : ∀ env, (assignEach es env).findIdx? (·.1) = none := by intro _; rfl) (cm : Γ.calm = true := by rfl) : SG Γ fo (.Tuple es k pos) (gT n gs) own := by
  obtain ⟨ts, h3, h4⟩ := hs.run
  refine ⟨gTup Γ.K n ts, fun Z F μ st env env' σ H v a Q gd re ra e' k => ?_, fun X c hfo => by rw [← c.K]; exact pg_tup (c.calm cm) (h4 X c hfo) (hn _) (hst _)⟩
  unfold gT at e'
  cases e1 : tupR a with
  | none => rw [e1] at e'; cases e'
  | some xs =>
    rw [e1] at e'
    have e' : (if xs.length = n then gs xs env else none) = some env' := e'
    by_cases hl : xs.length = n
    · rw [if_pos hl] at e'
      obtain ⟨p, vs, rfl, h5, h6⟩ := tupR_ok gd ra e1
      exact ⟨p, vs, rfl, h5, by rw [← h6.length]; exact hl, h3 Z F μ st env env' σ H vs xs Q gd re h6 e' k⟩
    · rw [if_neg hl] at e'; cases e'
end

/-! ### statements -/
def KN (K : PySem.W.Frag) (Z F : Hp) (μ : List Addr) (P : St → Hp → Prop) : AEnv → Store → Prop := fun env' st' => ∀ F' μ' H' σ', Ext F F' μ μ' → Good K Z F' μ' st' H' → REnv K F' μ' env' σ' → P σ' H'
def KXS (K : PySem.W.Frag) (Z F : Hp) (μ : List Addr) (W : WX) : Exc → AEnv → Store → Prop := fun e env' st' => ∀ F' μ' H' σ' d, Ext F F' μ μ' → Good K Z F' μ' st' H' → REnv K F' μ' env' σ' → XRep K F' μ' e d → W (.ref (He.ga K e.c)) d σ' H'
def KS (K : PySem.W.Frag) (Z F : Hp) (μ : List Addr) (D : Ends) (W : WX) : SPost := ⟨KN K Z F μ D.nx, Kont K Z Rep F μ D.rt, KN K Z F μ D.bk, KN K Z F μ D.ct, KXS K Z F μ W⟩
abbrev MS := AEnv → Store → SRes
def SimS (K : PySem.W.Frag) (W : WX) (t : TS) (m : MS) : Prop := ∀ (Z F : Hp) (μ : List Addr) (st : Store) (env : AEnv) (σ : St) (H : Hp) (D : Ends), Good K Z F μ st H → REnv K F μ env σ → (m env st).post (KS K Z F μ D W) → t D σ H
structure SS (Γ : G) (fo : Str → Bool) (s : Stmt) (m : MS) : Prop where
  run : ∀ W : WX, ∃ t : TS, SimS Γ.K W t m ∧ ∀ X, CtxOk Γ X → (∀ x, fo x = true → X.fn x = true) → Takes X W → PS X s t
structure SB (Γ : G) (fo : Str → Bool) (ss : List Stmt) (m : MS) : Prop where
  run : ∀ W : WX, ∃ t : TS, SimS Γ.K W t m ∧ ∀ X, CtxOk Γ X → (∀ x, fo x = true → X.fn x = true) → Takes X W → PSs X ss t
section
variable {K : PySem.W.Frag} {Z F F' : Hp} {μ μ' : List Addr} {W : WX} {D : Ends}
theorem KN.ext {P : St → Hp → Prop} {env : AEnv} {st : Store} (e : Ext F F' μ μ') (h : KN K Z F μ P env st) : KN K Z F' μ' P env st := fun F2 μ2 H2 σ2 e2 g r => h F2 μ2 H2 σ2 (e.trans e2) g r
theorem KXS.ext {x : Exc} {env : AEnv} {st : Store} (e : Ext F F' μ μ') (h : KXS K Z F μ W x env st) : KXS K Z F' μ' W x env st := fun F2 μ2 H2 σ2 d e2 g r => h F2 μ2 H2 σ2 d (e.trans e2) g r
theorem KS.ext {r : SRes} (e : Ext F F' μ μ') (h : r.post (KS K Z F μ D W)) : r.post (KS K Z F' μ' D W) :=
  SRes.post_mono h (fun _ _ q => KN.ext e q) (fun _ _ q => Kont.ext e q) (fun _ _ q => KN.ext e q) (fun _ _ q => KN.ext e q) (fun _ _ _ q => KXS.ext e q)
theorem KN.now {P : St → Hp → Prop} {env : AEnv} {st : Store} {σ : St} {H : Hp} (h : KN K Z F μ P env st) (g : Good K Z F μ st H) (r : REnv K F μ env σ) : P σ H := h F μ H σ Ext.refl g r
/-- an expression, then the rest of its statement -/
theorem SimS.of {α β : Type} {R : Rel α β} {t : St → Hp → (β → Hp → Prop) → Prop} {m : AEnv → Store → Res α} {f : α → AEnv → Store → SRes} {k : β → TS} (h : Sim K R W t m)
    (h' : ∀ (Z F : Hp) (μ : List Addr) (st : Store) (env : AEnv) (σ : St) (H : Hp) (D : Ends) (a : α) (b : β), Good K Z F μ st H → REnv K F μ env σ → R K F μ a b → (f a env st).post (KS K Z F μ D W) → k b D σ H) :
    SimS K W (fun D σ H => t σ H fun b H1 => k b D σ H1) (fun env st => (m env st).toS env fun a st1 => f a env st1) := by
  intro Z F μ st env σ H D g re hp
  rw [Res.post_toS] at hp
  refine h Z F μ st env σ H _ g re (Res.post_mono hp (fun a st1 q => ?_) fun x st1 q => ?_)
  · intro F1 μ1 H1 b e1 g1 r1
    exact h' Z F1 μ1 st1 env σ H1 D a b g1 (re.mono e1) r1 (KS.ext e1 q)
  · intro F1 μ1 H1 d e1 g1 x1
    exact q F1 μ1 H1 σ d e1 g1 (re.mono e1) x1
end
def sNil : MS := fun env st => .nx env st
def sSeq (a b : MS) : MS := fun env st => (a env st).bind b
def sAsg (g : MG) (m : AEnv → Store → Res A) : MS := fun env st => (m env st).toS env fun a st1 => match g a env with
  | some env1 => .nx env1 st1
  | none => .stuck
def sEx (m : AEnv → Store → Res A) : MS := fun env st => (m env st).toS env fun _ st1 => .nx env st1
def sRet (m : AEnv → Store → Res A) : MS := fun env st => (m env st).toS env fun a st1 => .rt a st1
def sRetN : MS := fun _ st => .rt .non st
def sIf (p : AEnv → Store → Res Bool) (a b : MS) : MS := fun env st => (p env st).toS env fun c st1 => if c then a env st1 else b env st1
def sBk : MS := fun env st => .bk env st
def sCt : MS := fun env st => .ct env st
section
variable {Γ : G} {fo : Str → Bool} {pos : Pos} {e : Expr} {s : Stmt} {ss : List Stmt} {m : AEnv → Store → Res A} {ma mb : MS}
theorem b_nil : SB Γ fo [] sNil := ⟨fun W => ⟨tNext, fun Z F μ st env σ H D g re h => KN.now h g re, fun X c hf t => pss_nil⟩⟩
theorem b_one (h : SS Γ fo s ma) : SB Γ fo [s] ma := ⟨fun W => let ⟨t, h1, h2⟩ := h.run W; ⟨t, h1, fun X c hf k => pss_one (h2 X c hf k)⟩⟩
theorem sim_seq {K : PySem.W.Frag} {W : WX} {t u : TS} (h1 : SimS K W t ma) (h2 : SimS K W u mb) : SimS K W (tSeq t u) (sSeq ma mb) := by
  intro Z F μ st env σ H D g re hp
  unfold sSeq at hp
  rw [SRes.post_bind] at hp
  refine h1 Z F μ st env σ H _ g re (SRes.post_mono hp (fun env1 st1 q => ?_) (fun _ _ q => q) (fun _ _ q => q) (fun _ _ q => q) (fun _ _ _ q => q))
  intro F1 μ1 H1 σ1 e1 g1 re1
  exact h2 Z F1 μ1 st1 env1 σ1 H1 D g1 re1 (KS.ext e1 q)
theorem b_cons (h : SS Γ fo s ma) (hs : SB Γ fo ss mb) : SB Γ fo (s :: ss) (sSeq ma mb) :=
  ⟨fun W => let ⟨t, h1, h2⟩ := h.run W; let ⟨u, h3, h4⟩ := hs.run W; ⟨_, sim_seq h1 h3, fun X c hf k => pss_cons (h2 X c hf k) (h4 X c hf k)⟩⟩
theorem st_pass : SS Γ fo (.Pass pos) sNil := ⟨fun W => ⟨tNext, fun Z F μ st env σ H D g re h => KN.now h g re, fun X c hf t => ps_pass⟩⟩
theorem st_break : SS Γ fo (.Break pos) sBk := ⟨fun W => ⟨tBreak, fun Z F μ st env σ H D g re h => KN.now h g re, fun X c hf t => ps_break⟩⟩
theorem st_cont : SS Γ fo (.Continue pos) sCt := ⟨fun W => ⟨tCont, fun Z F μ st env σ H D g re h => KN.now h g re, fun X c hf t => ps_continue⟩⟩
theorem st_ex (h : SE Γ e m) (hs : ∀ env, swapsWith e none pos.line env = pure false := by intro _; rfl) : SS Γ fo (.Expr e pos) (sEx m) :=
  ⟨fun W => let ⟨t, h1, h2⟩ := h.run W; ⟨tDrop t, SimS.of (k := fun b D σ H => D.nx σ H) (f := fun a env st1 => .nx env st1) h1 (fun Z F μ st env σ H D a b g re r q => KN.now q g re), fun X c hf k => ps_expr (h2 X c k) (hs _)⟩⟩
theorem st_ret (h : SE Γ e m) : SS Γ fo (.Return (some e) pos) (sRet m) :=
  ⟨fun W => let ⟨t, h1, h2⟩ := h.run W; ⟨tRet t, SimS.of (k := fun b D σ H => D.rt b H) (f := fun a env st1 => .rt a st1) h1 (fun Z F μ st env σ H D a b g re r q => Kont.now q g r), fun X c hf k => ps_ret (h2 X c k)⟩⟩
theorem st_retN : SS Γ fo (.Return none pos) sRetN := ⟨fun W => ⟨tRetN, fun Z F μ st env σ H D g re h => Kont.now (R := Rep) (a := A.non) (b := V.non) (Q := D.rt) h g .non, fun X c hf t => ps_retN⟩⟩
theorem st_if {c : Expr} {p : AEnv → Store → Res Bool} {ssb : List Stmt} (hc : ST Γ c p) (ha : SB Γ fo ss ma) (hb : SB Γ fo ssb mb) : SS Γ fo (.If c ss ssb pos) (sIf p ma mb) :=
  ⟨fun W => by
    obtain ⟨tc, h1, h2⟩ := hc.run W
    obtain ⟨ta, h3, h4⟩ := ha.run W
    obtain ⟨tb, h5, h6⟩ := hb.run W
    refine ⟨tIfS tc ta tb, SimS.of (k := fun b D σ H => if b = true then ta D σ H else tb D σ H) (f := fun (c : Bool) env st1 => if c then ma env st1 else mb env st1) h1 (fun Z F μ st env σ H D a b g re r q => ?_), fun X c hf k => ps_if (h2 X c k) (h4 X c hf k) (h6 X c hf k)⟩
    cases (r : a = b)
    cases a with
    | true => rw [if_pos rfl]; exact h3 Z F μ st env σ H D g re q
    | false => rw [if_neg Bool.false_ne_true]; exact h5 Z F μ st env σ H D g re q⟩
theorem sim_asg {K : PySem.W.Frag} {W : WX} {t : TE} {tg : TG} {g : MG} {own : List Nat} (h : Sim K Rep W t m) (hg : SimG K tg g own) : SimS K W (tAsg t tg) (sAsg g m) :=
  SimS.of (k := fun b D σ H => tg b σ H D.nx) (f := fun a env st1 => match g a env with | some env1 => .nx env1 st1 | none => .stuck) h (fun Z F μ st env σ H D a b gd re r q => by
    cases e1 : g a env with
    | none => rw [e1] at q; exact q.elim
    | some env1 =>
      rw [e1] at q
      exact hg Z F μ st env env1 σ H b a D.nx gd re r e1 fun σ' re' _ => KN.now q gd re')
theorem sim_gN {K : PySem.W.Frag} (i : Nat) : SimG K (gName i) (gN i) [i] := fun Z F μ st env env' σ H v a Q g re ra e k => by cases e; exact k _ (re.set i ra) ⟨by rw [List.length_set], fun j hj => by rw [List.getElem?_set_ne (fun q => hj (by simp [q]))]⟩
/-- x = e -/
theorem st_set {i : Nat} {x : Str} {pos' : Pos} (hi : Γ.N[i]? = some x) (hx : Loc Γ.sc x) (h : SE Γ e m) (hs : ∀ X : Cx, CtxOk Γ X → swapsWith e (some (.Name x pos')) pos.line X.env = pure false := by intro _ _; rfl)
    (hf : fo x = true ∨ Γ.sc.names.lookup x = some .local := by first | exact .inl rfl | exact .inr rfl) : SS Γ fo (.Assign [.Name x pos'] e pos) (sAsg (gN i) m) :=
  ⟨fun W => let ⟨t, h1, h2⟩ := h.run W
   ⟨_, sim_asg h1 (tg := gName i) (sim_gN i),
    fun X c hfo k => ps_set c.nd (c.name hi) (by rw [c.sc]; exact hx) (h2 X c k) (hs X c) (hf.imp (hfo x) fun h => by rw [c.sc]; exact h)⟩⟩
/-- a, b = e -/
theorem st_asg {tg : Expr} {g : MG} {own : List Nat} (h : SE Γ e m) (hg : SG Γ fo tg g own) (hs : ∀ env, swapsWithSole [tg] e pos.line env = pure false := by intro _; rfl) (hw : ∀ env, swappedStores [tg] e env = pure none := by intro _; rfl)
    (ha : ∀ env, (assignEach [tg] env).map (·.2) = [assign tg env] := by intro _; rfl) : SS Γ fo (.Assign [tg] e pos) (sAsg g m) :=
  ⟨fun W => by
    obtain ⟨t, h1, h2⟩ := h.run W
    obtain ⟨u, h3, h4⟩ := hg.run
    exact ⟨_, sim_asg h1 h3, fun X c hf k => ps_asg (h2 X c k) (h4 X c hf) (hs _) (hw _) (ha _)⟩⟩
/-- a, b = e1, e2 -/
def sPar (i j : Nat) (ms : AEnv → Store → Res (List A)) : MS := fun env st => (ms env st).toS env fun as st1 => match as with
  | [a, b] => .nx ((env.set i (some a)).set j (some b)) st1
  | _ => .stuck
theorem st_par {i j : Nat} {x y : Str} {a b : Expr} {ms : AEnv → Store → Res (List A)} {px py pt : Pos} {kt k2 pt2} (hi : Γ.N[i]? = some x) (hj : Γ.N[j]? = some y) (hij : i ≠ j) (hx : Γ.sc.names.lookup x = some .local) (hy : Γ.sc.names.lookup y = some .local) (h : SA Γ [a, b] ms)
    (hw : ∀ X : Cx, CtxOk Γ X → swappedStores [.Tuple [.Name x px, .Name y py] kt pt] (.Tuple [a, b] k2 pt2) X.env = pure (some [x, y]))
    (hs : ∀ env, swapsWithSole [.Tuple [.Name x px, .Name y py] kt pt] (.Tuple [a, b] k2 pt2) pos.line env = pure false := by intro _; rfl) (cm : Γ.calm = true := by rfl) :
    SS Γ fo (.Assign [.Tuple [.Name x px, .Name y py] kt pt] (.Tuple [a, b] k2 pt2) pos) (sPar i j ms) :=
  ⟨fun W => by
    obtain ⟨t, h1, h2⟩ := h.run W
    refine ⟨tPar i j t, SimS.of (k := fun (vs : List V) D σ H => ∃ v w, vs = [v, w] ∧ D.nx ((σ.set i (some v)).set j (some w)) H) (f := fun (as : List A) env st1 => match as with | [a, b] => .nx ((env.set i (some a)).set j (some b)) st1 | _ => .stuck) h1 (fun Z F μ st env σ H D as vs g re r q => ?_),
      fun X c hf k => ps_par (c.calm cm) c.nd (c.name hi) (c.name hj) hij (by rw [c.sc]; exact hx) (by rw [c.sc]; exact hy) (h2 X c k) (hw X c) (hs _)⟩
    split at q
    · obtain ⟨v, w, rfl, r1, r2⟩ := r.two
      exact ⟨v, w, rfl, KN.now q g ((re.set i r1).set j r2)⟩
    · exact q.elim⟩
/-! xs[i] = e -/
def setL : A → A → A → Store → Option Store := fun o i v st => match cellL o st, i with
  | some (n, xs), .int k => (ixN xs.length k).map fun j => st.set n (.lst (xs.set j v))
  | _, _ => none
/-- a store by values -/
structure Cset (op : A → A → A → Store → Option Store) : Prop where
  ex : ∃ r : PySem.W.Frag → TSet, (∀ (Γ : G) (X : Cx), CtxOk Γ X → PSet X (r X.K)) ∧ ∀ (K : PySem.W.Frag) (Z F : Hp) (μ : List Addr) (st st' : Store) (H : Hp) (o i a : A) (x y v : V) (Q : Hp → Prop), Good K Z F μ st H → Rep K F μ o x → Rep K F μ i y → Rep K F μ a v → op o i a st = some st' →
    (∀ F' H', Ext F F' μ μ → Good K Z F' μ st' H' → Q H') → r K x y v H Q
theorem cset_list : Cset setL := ⟨⟨fun _ => rSetL, fun _ _ _ => set_list, fun K Z F μ st st' H o i a x y v Q g ro ri ra e k => by
  unfold setL at e
  cases e1 : cellL o st with
  | none => rw [e1] at e; cases e
  | some p =>
    obtain ⟨n, xs⟩ := p
    rw [e1] at e
    cases i with
    | int j =>
      cases ri
      have e : (ixN xs.length j).map (fun l => st.set n (.lst (xs.set l a))) = some st' := e
      cases e2 : ixN xs.length j with
      | none => rw [e2] at e; cases e
      | some l =>
        rw [e2] at e; cases e
        obtain ⟨p, vs, rfl, h1, r1, hw⟩ := cellL_ok g ro e1
        exact ⟨p, vs, j, l, rfl, rfl, h1, by rw [← r1.length]; exact e2, k _ _ Ext.refl (hw _ _ (Reps.set ra l r1))⟩
    | _ => cases e⟩⟩
def sSub (op : A → A → A → Store → Option Store) (mv mo mi : AEnv → Store → Res A) : MS := fun env st => (mv env st).toS env fun v st1 => (mo env st1).toS env fun o st2 => (mi env st2).toS env fun i st3 => match op o i v st3 with
  | some st4 => .nx env st4
  | none => .stuck
theorem st_sub {op : A → A → A → Store → Option Store} {o i : Expr} {mo mi : AEnv → Store → Res A} {sp : Pos} (hop : Cset op) (h : SE Γ e m) (ho : SE Γ o mo) (hi : SE Γ i mi)
    (hass : ∀ env v, assign (.Subscript o i sp) env v = (do
      let ov ← holding [v] (eval o env)
      let iv ← holding [v, ov] (eval i env)
      standAt sp
      holding [v, ov, iv] (setItem ov iv v)
      release [v, ov, iv] []) := by intro _ _; rfl)
    (hs : ∀ env, swapsWithSole [.Subscript o i sp] e pos.line env = pure false := by intro _; rfl) (hw : ∀ env, swappedStores [.Subscript o i sp] e env = pure none := by intro _; rfl)
    (ha : ∀ env, (assignEach [.Subscript o i sp] env).map (·.2) = [assign (.Subscript o i sp) env] := by intro _; rfl) : SS Γ fo (.Assign [.Subscript o i sp] e pos) (sSub op m mo mi) :=
  ⟨fun W => by
    obtain ⟨r, h1, h2⟩ := hop.ex
    obtain ⟨t, s1, p1⟩ := h.run W
    obtain ⟨t2, s2, p2⟩ := ho.run W
    obtain ⟨t3, s3, p3⟩ := hi.run W
    refine ⟨tAsg t (gSub t2 t3 (r Γ.K)), ?_, fun X c hf k => ?_⟩
    · intro Z F μ st env σ H D g re hp
      unfold sSub at hp
      rw [Res.post_toS] at hp
      refine s1 Z F μ st env σ H _ g re (Res.post_mono hp (fun v st1 q => ?_) fun x st1 q F1 μ1 H1 d e1 g1 x1 => q F1 μ1 H1 σ d e1 g1 (re.mono e1) x1)
      intro F1 μ1 H1 vv e1 g1 rv
      rw [Res.post_toS] at q
      refine s2 Z F1 μ1 st1 env σ H1 _ g1 (re.mono e1) (Res.post_mono q (fun o st2 q => ?_) fun x st2 q F2 μ2 H2 d e2 g2 x1 => q F2 μ2 H2 σ d (e1.trans e2) g2 (re.mono (e1.trans e2)) x1)
      intro F2 μ2 H2 ov e2 g2 ro
      rw [Res.post_toS] at q
      refine s3 Z F2 μ2 st2 env σ H2 _ g2 (re.mono (e1.trans e2)) (Res.post_mono q (fun i st3 q => ?_) fun x st3 q F3 μ3 H3 d e3 g3 x1 => q F3 μ3 H3 σ d (e1.trans (e2.trans e3)) g3 (re.mono (e1.trans (e2.trans e3))) x1)
      intro F3 μ3 H3 iv e3 g3 ri
      cases eo : op o i v st3 with
      | none => rw [eo] at q; exact q.elim
      | some st4 =>
        rw [eo] at q
        have e13 := e1.trans (e2.trans e3)
        refine h2 Γ.K Z F3 μ3 st3 st4 H3 o i v ov iv vv _ g3 (ro.mono e3) ri (rv.mono (e2.trans e3)) eo fun F4 H4 e4 g4 => ?_
        exact KN.now ((show KN Γ.K Z F μ D.nx env st4 from q).ext (e13.trans e4)) g4 (re.mono (e13.trans e4))
    · rw [← c.K]
      exact ps_asg (p1 X c k) (pg_sub (p2 X c k) (p3 X c k) (h1 Γ X c) (hass _)) (hs _) (hw _) (ha _)⟩
/-! x op= e -/
def sAug (i : Nat) (op : Op2) (m : AEnv → Store → Res A) : MS := fun env st => match env[i]? with
  | some (some a) => (m env st).toS env fun b st1 => match op a b st1 with
    | some (c, st2) => .nx (env.set i (some c)) st2
    | none => .stuck
  | _ => .stuck
/-- an in-place operator with its plain function -/
structure Cip (o : Operator) (op : Op2) : Prop where
  ex : ∃ r : PySem.W.Frag → R2, (∀ X : Cx, OpR X (inplaceOp o) (r X.K)) ∧ ∀ K, SimV2 K (r K) op
theorem ip_addI : Cip .Add addI := ⟨⟨fun _ => _, fun _ => iop_add, fun _ => sim_addI⟩⟩
theorem ip_subI : Cip .Sub subOp := ⟨⟨fun _ => _, fun _ => iop_sub, fun _ => sim_sub⟩⟩
theorem ip_addS : Cip .Add addS := ⟨⟨fun _ => _, fun _ => iop_add_str, fun _ => sim_addS⟩⟩
theorem st_aug {i : Nat} {x : Str} {o : Operator} {op : Op2} {pos' : Pos} (ho : Cip o op) (hi : Γ.N[i]? = some x) (hx : Loc Γ.sc x) (h : SE Γ e m) (hf : fo x = true ∨ Γ.sc.names.lookup x = some .local := by first | exact .inl rfl | exact .inr rfl) :
    SS Γ fo (.AugAssign (.Name x pos') o e pos) (sAug i op m) :=
  ⟨fun W => by
    obtain ⟨r, h1, h2⟩ := ho.ex
    obtain ⟨t, s, p⟩ := h.run W
    refine ⟨tAug i t (fun x y H Q => r Γ.K x y H Q), ?_, fun X c hfo k => ?_⟩
    · intro Z F μ st env σ H D g re hp
      unfold sAug at hp
      cases e1 : env[i]? with
      | none => rw [e1] at hp; exact hp.elim
      | some oa =>
        cases oa with
        | none => rw [e1] at hp; exact hp.elim
        | some a =>
          rw [e1] at hp
          obtain ⟨v, hv, rv⟩ := re.at_ i a e1
          refine ⟨v, hv, ?_⟩
          have hp : ((m env st).toS env fun b st1 => match op a b st1 with | some (c, st2) => .nx (env.set i (some c)) st2 | none => .stuck).post (KS Γ.K Z F μ D W) := hp
          rw [Res.post_toS] at hp
          refine s Z F μ st env σ H _ g re (Res.post_mono hp (fun b st1 q => ?_) fun x st1 q F1 μ1 H1 d e1 g1 x1 => q F1 μ1 H1 σ d e1 g1 (re.mono e1) x1)
          intro F1 μ1 H1 y e2 g1 ry
          cases eo : op a b st1 with
          | none => rw [eo] at q; exact q.elim
          | some pr =>
            obtain ⟨c, st2⟩ := pr
            rw [eo] at q
            refine h2 Γ.K Z F1 μ1 st1 st2 H1 a b c v y _ g1 (rv.mono e2) ry eo ?_
            intro F2 μ2 H2 z e3 g2 rz
            exact KN.now ((show KN Γ.K Z F μ D.nx (env.set i (some c)) st2 from q).ext (e2.trans e3)) g2 ((re.mono (e2.trans e3)).set i rz)
    · have hip : PIp X o (fun x y H Q => r Γ.K x y H Q) := by
        intro pins s σ H x y v u Q I rx ry q
        have := h1 X
        rw [c.K] at this
        exact this pins s σ H x y v u Q I rx ry q
      exact ps_aug c.nd (c.name hi) (by rw [c.sc]; exact hx) (p X c k) hip (hf.imp (hfo x) fun h => by rw [c.sc]; exact h)⟩

/-! ### loops -/
open Classical in
noncomputable def forL (src : Option Nat) (all : List A) (g : MG) (body : MS) : List A → AEnv → Store → SRes
  | [], env, st => if srcOk src all st then .nx env st else .stuck
  | x :: xs, env, st => if srcOk src all st then (match g x env with
    | some env1 => (match body env1 st with
      | .nx e s => forL src all g body xs e s
      | .ct e s => forL src all g body xs e s
      | .bk e s => .nx e s
      | r => r)
    | none => .stuck) else .stuck
noncomputable def sFor (mi : MI) (g : MG) (body : MS) : MS := fun env st => (mi env st).toS env fun p st1 => forL p.2 p.1 g body p.1 env st1
theorem sim_for {K : PySem.W.Frag} {W : WX} {wi : TI} {tg : TG} {tb : TS} {mi : MI} {g : MG} {own : List Nat} {body : MS} (hi : SimI K W wi mi) (hg : SimG K tg g own) (hb : SimS K W tb body) : SimS K W (tFor wi tg tb) (sFor mi g body) := by
  intro Z F μ st env σ H D gd re hp
  unfold sFor at hp
  rw [Res.post_toS] at hp
  refine hi Z F μ st env σ H _ gd re (Res.post_mono hp (fun p st1 q => ?_) fun x st1 q F1 μ1 H1 d e1 g1 x1 => q F1 μ1 H1 σ d e1 g1 (re.mono e1) x1)
  obtain ⟨xs, src⟩ := p
  intro F1 μ1 H1 e1 g1 J hJ
  refine ⟨fun i m σ' H' => m = xs.length - i ∧ i ≤ xs.length ∧ ∃ F' μ' env' st', Ext F1 F' μ1 μ' ∧ Good K Z F' μ' st' H' ∧ REnv K F' μ' env' σ' ∧ (forL src xs g body (xs.drop i) env' st').post (KS K Z F' μ' D W), ⟨xs.length, ?_⟩, ?_⟩
  · exact ⟨rfl, Nat.zero_le _, F1, μ1, env, st1, Ext.refl, g1, re.mono e1, KS.ext e1 q⟩
  · rintro i m σ' H' ⟨rfl, hil, F', μ', env', st', e2, g2, re2, hp2⟩
    have chk : srcOk src xs st' := by
      cases ed : xs.drop i with
      | nil =>
        rw [ed] at hp2
        by_cases h : srcOk src xs st'
        · exact h
        · rw [forL, if_neg h] at hp2; exact hp2.elim
      | cons y ys =>
        rw [ed] at hp2
        by_cases h : srcOk src xs st'
        · exact h
        · rw [forL, if_neg h] at hp2; exact hp2.elim
    obtain ⟨j1, j2⟩ := hJ Z i F' μ' st' H' e2 g2 chk
    by_cases hl : i < xs.length
    · refine .inr ?_
      have ed : xs.drop i = xs[i] :: xs.drop (i + 1) := List.drop_eq_getElem_cons hl
      rw [ed, forL, if_pos chk] at hp2
      obtain ⟨hgo, hy⟩ := j1 xs[i] (List.getElem?_eq_getElem hl)
      cases eg : g xs[i] env' with
      | none => rw [eg] at hp2; exact hp2.elim
      | some env1 =>
        rw [eg] at hp2
        dsimp only at hp2
        let N : St → Hp → Prop := fun σ'' H'' => ∃ F' μ' env' st', Ext F1 F' μ1 μ' ∧ Good K Z F' μ' st' H'' ∧ REnv K F' μ' env' σ'' ∧ (forL src xs g body (xs.drop (i + 1)) env' st').post (KS K Z F' μ' D W)
        refine ⟨hgo, N, ?_, ?_⟩
        · rintro σ'' H'' ⟨F3, μ3, env3, st3, e3, g3, re3, hp3⟩
          exact ⟨xs.length - (i + 1), by omega, rfl, hl, F3, μ3, env3, st3, e3, g3, re3, hp3⟩
        · intro x H2 yd
          obtain ⟨F2, e3, g3, rx⟩ := hy x H2 yd
          refine hg Z F2 μ' st' env' env1 σ' H2 x xs[i] _ g3 (re2.mono e3) rx eg fun σ3 re3 _ => ?_
          refine hb Z F2 μ' st' env1 σ3 H2 _ g3 re3 ?_
          have hp3 := KS.ext e3 hp2
          cases eb : body env1 st' with
          | nx ee ss =>
            rw [eb] at hp3
            intro F4 μ4 H4 σ4 e4 g4 re4
            exact ⟨F4, μ4, ee, ss, e2.trans (e3.trans e4), g4, re4, KS.ext e4 hp3⟩
          | ct ee ss =>
            rw [eb] at hp3
            intro F4 μ4 H4 σ4 e4 g4 re4
            exact ⟨F4, μ4, ee, ss, e2.trans (e3.trans e4), g4, re4, KS.ext e4 hp3⟩
          | bk ee ss => rw [eb] at hp3; exact hp3
          | rt a ss => rw [eb] at hp3; exact hp3
          | exc x ee ss => rw [eb] at hp3; exact hp3
          | stuck => rw [eb] at hp3; exact hp3.elim
    · have hil' : i = xs.length := by omega
      subst hil'
      refine .inl ⟨j2 (Nat.le_refl _), ?_⟩
      rw [List.drop_length, forL, if_pos chk] at hp2
      exact KN.now (show KN K Z F' μ' D.nx env' st' from hp2) g2 re2
theorem st_for {tg iter : Expr} {mi : MI} {g : MG} {own : List Nat} (hi : SI Γ tg iter mi) (hg : SG Γ fo tg g own) (hb : SB Γ fo ss ma) (hs : ∀ env x, foldedSetIterable iter env x = pure x := by intro _ _; rfl) (cm : Γ.calm = true := by rfl) : SS Γ fo (.For tg iter ss [] pos) (sFor mi g ma) :=
  ⟨fun W => by
    obtain ⟨wi, h1, h2⟩ := hi.run W
    obtain ⟨u, h3, h4⟩ := hg.run
    obtain ⟨tb, h5, h6⟩ := hb.run W
    exact ⟨_, sim_for h1 h3 h5, fun X c hf k => ps_for c.own (c.calm cm) (h2 X c k) (h4 X c hf) (h6 X c hf k) (hs _)⟩⟩
/-- while, at most so many turns -/
def whL (p : AEnv → Store → Res Bool) (body : MS) : Nat → AEnv → Store → SRes
  | 0, _, _ => .stuck
  | n + 1, env, st => (p env st).toS env fun c st1 => if c then (match body env st1 with
    | .nx e s => whL p body n e s
    | .ct e s => whL p body n e s
    | .bk e s => .nx e s
    | r => r) else .nx env st1
/-- more turns than any while takes -/
def fuelW : Nat := 2 ^ 64
def sWhile (p : AEnv → Store → Res Bool) (body : MS) : MS := fun env st => whL p body fuelW env st
theorem sim_while {K : PySem.W.Frag} {W : WX} {tc : TT} {tb : TS} {p : AEnv → Store → Res Bool} {body : MS} (hc : Sim K RepB W tc p) (hb : SimS K W tb body) : SimS K W (tWhile tc tb) (sWhile p body) := by
  intro Z F μ st env σ H D gd re hp
  refine ⟨fun m σ' H' => ∃ F' μ' env' st', Ext F F' μ μ' ∧ Good K Z F' μ' st' H' ∧ REnv K F' μ' env' σ' ∧ (whL p body m env' st').post (KS K Z F' μ' D W), ⟨fuelW, F, μ, env, st, Ext.refl, gd, re, hp⟩, ?_⟩
  rintro m σ' H' ⟨F', μ', env', st', e2, g2, re2, hp2⟩
  cases m with
  | zero => exact hp2.elim
  | succ n =>
    rw [whL, Res.post_toS] at hp2
    refine hc Z F' μ' st' env' σ' H' _ g2 re2 (Res.post_mono hp2 (fun c st1 q => ?_) fun x st1 q F1 μ1 H1 d e1 g1 x1 => q F1 μ1 H1 σ' d e1 g1 (re2.mono e1) x1)
    intro F3 μ3 H3 b e3 g3 rb
    cases (rb : c = b)
    cases c with
    | false => rw [if_neg Bool.false_ne_true]; exact KN.now ((show KN K Z F' μ' D.nx env' st1 from q).ext e3) g3 (re2.mono e3)
    | true =>
      rw [if_pos rfl]
      refine ⟨fun σ'' H'' => ∃ F' μ' env' st', Ext F F' μ μ' ∧ Good K Z F' μ' st' H'' ∧ REnv K F' μ' env' σ'' ∧ (whL p body n env' st').post (KS K Z F' μ' D W), fun σ'' H'' h => ⟨n, Nat.lt_succ_self _, h⟩, ?_⟩
      refine hb Z F3 μ3 st1 env' σ' H3 _ g3 (re2.mono e3) ?_
      have hp3 := KS.ext e3 (show (match body env' st1 with | .nx e s => whL p body n e s | .ct e s => whL p body n e s | .bk e s => SRes.nx e s | r => r).post (KS K Z F' μ' D W) from q)
      cases eb : body env' st1 with
      | nx ee ss =>
        rw [eb] at hp3
        intro F4 μ4 H4 σ4 e4 g4 re4
        exact ⟨F4, μ4, ee, ss, e2.trans (e3.trans e4), g4, re4, KS.ext e4 hp3⟩
      | ct ee ss =>
        rw [eb] at hp3
        intro F4 μ4 H4 σ4 e4 g4 re4
        exact ⟨F4, μ4, ee, ss, e2.trans (e3.trans e4), g4, re4, KS.ext e4 hp3⟩
      | bk ee ss => rw [eb] at hp3; exact hp3
      | rt a ss => rw [eb] at hp3; exact hp3
      | exc x ee ss => rw [eb] at hp3; exact hp3
      | stuck => rw [eb] at hp3; exact hp3.elim
theorem st_while {c : Expr} {p : AEnv → Store → Res Bool} (hc : ST Γ c p) (hb : SB Γ fo ss ma) : SS Γ fo (.While c ss [] pos) (sWhile p ma) :=
  ⟨fun W => by
    obtain ⟨tc, h1, h2⟩ := hc.run W
    obtain ⟨tb, h5, h6⟩ := hb.run W
    exact ⟨_, sim_while h1 h5, fun X c hf k => ps_while c.own (h2 X c k) (h6 X c hf k)⟩⟩
end
end SL

set_option Elab.async false
set_option linter.all false
set_option maxRecDepth 100000
set_option maxHeartbeats 4000000
/-! SLh: comprehensions; lists of a range; what a def's body is worth. -/
namespace SL
open PySem PySem.Spec L2
open PyProof.Rows hiding St
/-- the place of a comprehension's block -/
def G.blk (Γ : G) (scope : Scope) : G := { Γ with sc := relS scope Γ.sc, st := false, hx := none }
def blkFo (scope : Scope) : Str → Bool := fun x => scope.names.lookup x == some .cell
theorem CtxOk.blk {Γ : G} {X : Cx} (c : CtxOk Γ X) (scope : Scope) (s : Shared) (H : Hp) (C : Addr) (cl : List (Str × Addr)) (fp : List Addr) : CtxOk (Γ.blk scope) (X.blk s H scope (compEnvC scope cl C X.env) fp) where
  prog := c.prog
  w := c.w
  K := c.K
  mg := c.mg
  base := c.base
  N := c.N
  sc := by
    show relabel scope X.env = relS scope Γ.sc
    unfold relabel relS Env.kindOf
    rw [c.sc]
  calm := c.calm
  room := c.room
  units := c.units
  stk := fun z => Bool.noConfusion z
  hx := fun _ _ _ z => nomatch z
  nd := c.nd
  own := PassesOwn.never
def noX {α : Type} (r : Res α) : Res α := match r with
  | .exc _ _ => .stuck
  | r => r
@[simp] theorem noX_ok {α : Type} {a : α} {st : Store} : noX (.ok a st) = .ok a st := (rfl)
theorem noX_post {α : Type} {r : Res α} {P : α → Store → Prop} {E E' : Exc → Store → Prop} (h : (noX r).post P E) : r.post P E' := by
  cases r with
  | ok a st => exact h
  | exc e st => exact h.elim
  | stuck => exact h
def wipeA (env : AEnv) : List Nat → AEnv
  | [] => env
  | v :: vs => (wipeA env vs).set v none
theorem REnv.wipe {K : PySem.W.Frag} {F : Hp} {μ : List Addr} {env : AEnv} {σ : St} (r : REnv K F μ env σ) : ∀ vs : List Nat, REnv K F μ (wipeA env vs) (L2.wipe σ vs)
  | [] => r
  | v :: vs => (r.wipe vs).unset v
theorem wipe_wipe (σ : St) (vs : List Nat) : wipe (wipe σ vs) vs = wipe σ vs := by
  apply List.ext_getElem?
  intro i
  rw [wipe_at, wipe_at, wipe_length]
  by_cases h : i ∈ vs ∧ i < σ.length
  · rw [if_pos h, if_pos h]
  · rw [if_neg h]
open Classical in
noncomputable def lcL (src : Option Nat) (all : List A) (g : MG) (mt : AEnv → Store → Res Bool) (me : AEnv → Store → Res A) (env0 : AEnv) : List A → List A → Store → Res (List A)
  | [], acc, st => if srcOk src all st then .ok acc st else .stuck
  | x :: xs, acc, st => if srcOk src all st then (match g x env0 with
    | none => .stuck
    | some env1 => (noX (mt env1 st)).bind fun b st1 => if b then (noX (me env1 st1)).bind fun y st2 => if acc.length < sizeLine then lcL src all g mt me env0 xs (acc ++ [y]) st2 else .stuck
      else lcL src all g mt me env0 xs acc st1) else .stuck
noncomputable def eLc (mk : Bool) (mi : MI) (g : MG) (own : List Nat) (mt : AEnv → Store → Res Bool) (me : AEnv → Store → Res A) : AEnv → Store → Res A := fun env st => (mi env st).bind fun p st1 =>
  (lcL p.2 p.1 g mt me (wipeA env own) p.1 [] st1).bind fun acc st2 => .ok (newL mk acc st2).1 (newL mk acc st2).2
abbrev W0 : WX := fun _ _ _ _ => False
theorem sim_lc {K : PySem.W.Frag} {W : WX} {mk : Bool} {wi : TI} {tg : TG} {tt : TT} {te : TE} {mi : MI} {g : MG} {own gown : List Nat} {mt : AEnv → Store → Res Bool} {me : AEnv → Store → Res A} (hi : SimI K W wi mi) (hg : SimG K tg g gown) (hsub : ∀ i ∈ gown, i ∈ own)
    (ht : Sim K RepB W0 tt mt) (he : Sim K Rep W0 te me) : Sim K Rep W (tLc wi tg tt te own) (eLc mk mi g own mt me) := by
  intro Z F μ st env σ H Q gd re hp
  unfold eLc at hp
  rw [Res.post_bind] at hp
  refine hi Z F μ st env σ H _ gd re (Res.post_mono hp (fun p st1 q => ?_) fun _ _ q => q)
  obtain ⟨xs, src⟩ := p
  intro F1 μ1 H1 e1 g1 J hJ D hD
  have hZ : Z D = none := g1.noz hD
  rw [Res.post_bind] at q
  refine ⟨fun i m H' => m = xs.length - i ∧ i ≤ xs.length ∧ ∃ F' μ' st' acc vs, Ext F1 F' μ1 μ' ∧ Good K (upd Z D (.lst vs)) F' μ' st' H' ∧ Reps K F' μ' acc vs ∧
    (lcL src xs g mt me (wipeA env own) (xs.drop i) acc st').post (fun acc' st'' => Kont K Z Rep F' μ' Q (newL mk acc' st'').1 (newL mk acc' st'').2) (fun _ _ => True), ⟨xs.length, ?_⟩, ?_⟩
  · refine ⟨rfl, Nat.zero_le _, F1, μ1, st1, [], [], Ext.refl, g1.apart hD rfl, .nil, ?_⟩
    exact Res.post_mono q (fun acc st2 q => Kont.ext e1 q) fun _ _ _ => trivial
  · rintro i m H' ⟨rfl, hil, F', μ', st', acc, vs, e2, g2, ra, hp2⟩
    have chk : srcOk src xs st' := by
      cases ed : xs.drop i with
      | nil =>
        rw [ed] at hp2
        by_cases h : srcOk src xs st'
        · exact h
        · rw [lcL, if_neg h] at hp2; exact hp2.elim
      | cons y ys =>
        rw [ed] at hp2
        by_cases h : srcOk src xs st'
        · exact h
        · rw [lcL, if_neg h] at hp2; exact hp2.elim
    obtain ⟨j1, j2⟩ := hJ _ i F' μ' st' H' e2 g2 chk
    have re2 : REnv K F' μ' (wipeA env own) (wipe σ own) := (re.mono (e1.trans e2)).wipe own
    by_cases hl : i < xs.length
    · refine .inr ?_
      have ed : xs.drop i = xs[i] :: xs.drop (i + 1) := List.drop_eq_getElem_cons hl
      rw [ed, lcL, if_pos chk] at hp2
      obtain ⟨hgo, hy⟩ := j1 xs[i] (List.getElem?_eq_getElem hl)
      cases eg : g xs[i] (wipeA env own) with
      | none => rw [eg] at hp2; exact hp2.elim
      | some env1 =>
        rw [eg] at hp2
        dsimp only at hp2
        let Nx : Hp → Prop := fun H'' => ∃ F' μ' st' acc vs, Ext F1 F' μ1 μ' ∧ Good K (upd Z D (.lst vs)) F' μ' st' H'' ∧ Reps K F' μ' acc vs ∧
          (lcL src xs g mt me (wipeA env own) (xs.drop (i + 1)) acc st').post (fun acc' st'' => Kont K Z Rep F' μ' Q (newL mk acc' st'').1 (newL mk acc' st'').2) (fun _ _ => True)
        refine ⟨hgo, Nx, fun H'' h => ⟨xs.length - (i + 1), by omega, rfl, hl, h⟩, ?_⟩
        intro x H2 yd
        obtain ⟨F2, e3, g3, rx⟩ := hy x H2 yd
        refine hg _ F2 μ' st' _ env1 _ H2 x xs[i] _ g3 (re2.mono e3) rx eg fun σ3 re3 df => ⟨?_, ?_⟩
        · rw [df.wipe hsub, wipe_wipe]
        · rw [Res.post_bind] at hp2
          refine ht _ F2 μ' st' env1 σ3 H2 _ g3 re3 (Res.post_mono (noX_post (E' := fun _ _ => False) hp2) (fun b st2 q => ?_) fun _ _ z => z.elim)
          intro F4 μ4 H4 b' e4 g4 rb
          cases (rb : b = b')
          cases b with
          | false =>
            rw [if_neg Bool.false_ne_true]
            refine ⟨F4, μ4, st2, acc, vs, e2.trans (e3.trans e4), g4, ra.mono (e3.trans e4), ?_⟩
            exact Res.post_mono (show (lcL src xs g mt me (wipeA env own) (xs.drop (i + 1)) acc st2).post _ _ from q) (fun a s q => Kont.ext (e3.trans e4) q) fun _ _ _ => trivial
          | true =>
            rw [if_pos rfl]
            have q : ((noX (me env1 st2)).bind fun y st3 => if acc.length < sizeLine then lcL src xs g mt me (wipeA env own) (xs.drop (i + 1)) (acc ++ [y]) st3 else .stuck).post (fun acc' st'' => Kont K Z Rep F' μ' Q (newL mk acc' st'').1 (newL mk acc' st'').2) (fun _ _ => True) := q
            rw [Res.post_bind] at q
            refine he _ F4 μ4 st2 env1 σ3 H4 _ g4 (re3.mono e4) (Res.post_mono (noX_post (E' := fun _ _ => False) q) (fun y st3 q => ?_) fun _ _ z => z.elim)
            intro F5 μ5 H5 v e5 g5 rv
            by_cases hacc : acc.length < sizeLine
            · rw [if_pos hacc] at q
              refine ⟨vs, g5.zub _ _ upd_same, by rw [← ra.length]; exact hacc, ?_⟩
              have e35 := e3.trans (e4.trans e5)
              refine ⟨F5, μ5, st3, acc ++ [y], vs ++ [v], e2.trans e35, g5.zset rfl rfl, (ra.mono e35).append (.cons rv .nil), ?_⟩
              exact Res.post_mono q (fun a s q => Kont.ext e35 q) fun _ _ _ => trivial
            · rw [if_neg hacc] at q; exact q.elim
    · have hil' : i = xs.length := by omega
      subst hil'
      refine .inl ⟨j2 (Nat.le_refl _), ?_⟩
      rw [List.drop_length, lcL, if_pos chk] at hp2
      have k : Kont K Z Rep F' μ' Q (newL mk acc st').1 (newL mk acc st').2 := hp2
      cases mk with
      | false =>
        obtain ⟨g3, e3⟩ := g2.zknown hZ
        exact (k.ext e3).now g3 (.lst upd_same (ra.mono e3))
      | true =>
        obtain ⟨g3, e3⟩ := g2.zpush (c := .lst acc) hZ ⟨vs, g2.zub _ _ upd_same, ra⟩
        exact (k.ext e3).now g3 (.cell (by rw [← g2.len, List.getElem?_append_right (Nat.le_refl _), Nat.sub_self]; rfl))
/-- a clause's tests -/
structure STs (Γ : G) (ifs : List Expr) (m : AEnv → Store → Res Bool) : Prop where
  run : ∀ W : WX, ∃ t : TT, Sim Γ.K RepB W t m ∧ ∀ X, CtxOk Γ X → Takes X W → PTs X ifs t
def tYesM : AEnv → Store → Res Bool := fun _ st => .ok true st
section
variable {Γ : G} {fo : Str → Bool} {elt tg iter : Expr} {ifs : List Expr} {scope : Scope} {pos spos py p : Pos} {mi : MI} {g : MG} {own : List (Str × Nat)} {gown : List Nat} {mt : AEnv → Store → Res Bool} {me : AEnv → Store → Res A}
theorem ts_nil : STs Γ [] tYesM := ⟨fun W => ⟨tYes, fun Z F μ st env σ H Q g re h => Kont.now (show Kont Γ.K Z RepB F μ Q true st from h) g rfl, fun X c t => pts_nil⟩⟩
theorem ts_one {c : Expr} (h : ST Γ c mt) : STs Γ [c] mt := ⟨fun W => let ⟨t, h1, h2⟩ := h.run W; ⟨t, h1, fun X c k => pts_one (h2 X c k)⟩⟩
theorem s_lc {mk : Bool} (hi : SI Γ tg iter mi) (ok : blkC Γ.N Γ.sc scope own = true) (hg : SG (Γ.blk scope) (blkFo scope) tg g gown) (hsub : ∀ i ∈ gown, i ∈ own.map (·.2)) (ht : STs (Γ.blk scope) ifs mt) (he : SE (Γ.blk scope) elt me)
    (hs : ∀ env x, foldedSetIterable iter env x = pure x := by intro _ _; rfl) (cm : Γ.calm = true := by rfl) : SE Γ (.ListComp elt [⟨tg, iter, ifs, 0⟩] scope pos) (eLc mk mi g (own.map (·.2)) mt me) :=
  ⟨fun W => by
    obtain ⟨wi, h1, h2⟩ := hi.run W
    obtain ⟨u, h3, h4⟩ := hg.run
    obtain ⟨tt, h5, h6⟩ := ht.run W0
    obtain ⟨te, h7, h8⟩ := he.run W0
    refine ⟨_, sim_lc (mk := mk) h1 h3 hsub h5 h7, fun X c k => ?_⟩
    exact pe_lc (c.calm cm) c.nd (h2 X c k) (by rw [c.N, c.sc]; exact blkOk_by ok) (fun s H C cl fp => h4 _ (c.blk scope s H C cl fp) fun x h => h) (fun s H C cl fp => h6 _ (c.blk scope s H C cl fp) takes0) (fun s H C cl fp => h8 _ (c.blk scope s H C cl fp) takes0) (hs _)⟩
theorem st_setLc {mk : Bool} {i : Nat} {y : Str} (hy : Γ.N[i]? = some y) (hyl : Γ.sc.names.lookup y = some .local) (hk : Γ.sc.kind = .function) (hl : (py.line == pos.line) = true) (hn : (scope.names.any fun (n, k) => n == y && (k == .local || k == .cell)) = false)
    (hi : SI Γ tg iter mi) (ok : blkC Γ.N Γ.sc scope own = true) (hg : SG (Γ.blk scope) (blkFo scope) tg g gown) (hsub : ∀ i ∈ gown, i ∈ own.map (·.2)) (ht : STs (Γ.blk scope) ifs mt) (he : SE (Γ.blk scope) elt me)
    (hs : ∀ env x, foldedSetIterable iter env x = pure x := by intro _ _; rfl) (cm : Γ.calm = true := by rfl) : SS Γ fo (.Assign [.Name y py] (.ListComp elt [⟨tg, iter, ifs, 0⟩] scope pos) spos) (sAsg (gN i) (eLc mk mi g (own.map (·.2)) mt me)) :=
  ⟨fun W => by
    obtain ⟨wi, h1, h2⟩ := hi.run W
    obtain ⟨u, h3, h4⟩ := hg.run
    obtain ⟨tt, h5, h6⟩ := ht.run W0
    obtain ⟨te, h7, h8⟩ := he.run W0
    refine ⟨_, sim_asg (sim_lc (mk := mk) h1 h3 hsub h5 h7) (sim_gN i), fun X c hfo k => ?_⟩
    exact ps_setLc (c.calm cm) c.nd (c.name hy) (by rw [c.sc]; exact hyl) (sw_true (by rw [c.sc]; exact hk) (by rw [c.sc]; exact hyl) hl hn) (h2 X c k) (by rw [c.N, c.sc]; exact blkOk_by ok) (fun s H C cl fp => h4 _ (c.blk scope s H C cl fp) fun x h => h) (fun s H C cl fp => h6 _ (c.blk scope s H C cl fp) takes0) (fun s H C cl fp => h8 _ (c.blk scope s H C cl fp) takes0) (hs _)⟩
/-- where the target is captured by some block: an ordinary store -/
theorem sw_cell {X : Cx} (c : CtxOk Γ X) {y : Str} {gs : List Comprehension} {l : Nat} (hy : Γ.sc.names.lookup y = some .cell) : swapsWith (.ListComp elt gs scope pos) (some (.Name y py)) l X.env = pure false := by
  have e : (X.env.kindOf y == some NameKind.local) = false := by unfold Env.kindOf; rw [c.sc, hy]; rfl
  show (pure (X.env.blockKind == .function && X.env.kindOf y == some .local && py.line == pos.line && !(scope.names.any fun (n, k) => n == y && (k == .local || k == .cell))) : Sem Bool) = pure false
  rw [e, Bool.and_false, Bool.false_and, Bool.false_and]
/-! list(range(..)), tuple(range(..)) -/
def rgPair : List A → Option (Int × Int)
  | [.int j] => some ((0 : Int), j)
  | [.int i, .int j] => some (i, j)
  | _ => none
def eRg (mk : Option Bool) (ms : AEnv → Store → Res (List A)) : AEnv → Store → Res A := fun env st => (ms env st).bind fun as st1 =>
  match rgPair as with
  | some (i, j) => if -(2 ^ 62) ≤ i ∧ i < 2 ^ 62 ∧ -(2 ^ 62) ≤ j ∧ j < 2 ^ 62 ∧ (j - i).toNat ≤ 2 ^ 24 then (match mk with
    | some mk => .ok (newL mk (rgA i j) st1).1 (newL mk (rgA i j) st1).2
    | none => .ok (.tup (rgA i j)) st1) else .stuck
  | none => .stuck
theorem rgA_reps {K : PySem.W.Frag} {F : Hp} {μ : List Addr} (i j : Int) : Reps K F μ (rgA i j) (rgV i j) := by
  unfold rgA rgV
  generalize List.range (j - i).toNat = l
  induction l with
  | nil => exact .nil
  | cons n l ih => exact .cons (.int _) ih
/-- the two ends of a range -/
structure SR (Γ : G) (e : Expr) (ms : AEnv → Store → Res (List A)) : Prop where
  run : ∀ W : WX, ∃ t : St → Hp → (Int → Int → Hp → Prop) → Prop, (∀ (Z F : Hp) (μ : List Addr) (st : Store) (env : AEnv) (σ : St) (H : Hp) (Q : Int → Int → Hp → Prop), Good Γ.K Z F μ st H → REnv Γ.K F μ env σ →
    (ms env st).post (fun as st1 => ∀ F' μ' H', Ext F F' μ μ' → Good Γ.K Z F' μ' st1 H' → ∃ i j, rgPair as = some (i, j) ∧ Q i j H') (KX Γ.K Z F μ σ W) → t σ H Q) ∧
    ∀ X, CtxOk Γ X → Takes X W → PRg X e t
theorem r_1 {a : Expr} {ma : AEnv → Store → Res A} (hg : Γ.sc.names.lookup ("range" : Str) = some .globalImplicit) (hm : Γ.mg "range" = none) (ha : SE Γ a ma) (hs : ∀ env, starEach [a] env = (false, eval a env) :: starEach [] env := by intro _; rfl) :
    SR Γ (.Call (.Name "range" p) [a] [] pos) (aCons ma aNil) :=
  ⟨fun W => by
    obtain ⟨t, h1, h2⟩ := ha.run W
    refine ⟨tRg1 t, fun Z F μ st env σ H Q g re hp => ?_, fun X c k => prg_1 (c.gl hg) (c.mgn hm) (h2 X c k) (hs _)⟩
    unfold aCons aNil at hp
    rw [Res.post_bind] at hp
    refine h1 Z F μ st env σ H _ g re (Res.post_mono hp (fun a st1 q => ?_) fun _ _ q => q)
    intro F1 μ1 H1 x e1 g1 ra
    obtain ⟨i, j, e, k⟩ := q F1 μ1 H1 e1 g1
    cases a with
    | int n => cases ra; cases e; exact ⟨_, rfl, k⟩
    | _ => cases e⟩
theorem r_2 {a b : Expr} {ma mb : AEnv → Store → Res A} (hg : Γ.sc.names.lookup ("range" : Str) = some .globalImplicit) (hm : Γ.mg "range" = none) (ha : SE Γ a ma) (hb : SE Γ b mb) (hs : ∀ env, starEach [a, b] env = (false, eval a env) :: starEach [b] env := by intro _; rfl)
    (hs2 : ∀ env, starEach [b] env = (false, eval b env) :: starEach [] env := by intro _; rfl) (hp : ∀ env, (backTo pos (starEach [b] env)).any (·.1) = false := by intro _; rfl) :
    SR Γ (.Call (.Name "range" p) [a, b] [] pos) (aCons ma (aCons mb aNil)) :=
  ⟨fun W => by
    obtain ⟨t, h1, h2⟩ := ha.run W
    obtain ⟨u, h3, h4⟩ := hb.run W
    refine ⟨tRg2 t u, fun Z F μ st env σ H Q g re hp => ?_, fun X c k => prg_2 (c.gl hg) (c.mgn hm) (h2 X c k) (h4 X c k) (hs _) (hs2 _) (hp _)⟩
    unfold aCons aNil at hp
    rw [Res.post_bind] at hp
    refine h1 Z F μ st env σ H _ g re (Res.post_mono hp (fun a st1 q => ?_) fun _ _ q => q)
    intro F1 μ1 H1 x e1 g1 ra
    simp only [Res.post_bind] at q
    refine h3 Z F1 μ1 st1 env σ H1 _ g1 (re.mono e1) (Res.post_mono q (fun b st2 q => ?_) fun _ _ q => q.ext e1)
    intro F2 μ2 H2 y e2 g2 rb
    obtain ⟨i, j, e, k⟩ := q F2 μ2 H2 (e1.trans e2) g2
    cases a with
    | int n =>
      cases b with
      | int m => cases ra; cases rb; cases e; exact ⟨_, _, rfl, rfl, k⟩
      | _ => cases e
    | _ => cases b <;> cases e⟩
variable {e : Expr} {ms : AEnv → Store → Res (List A)}
theorem sim_rg {W : WX} {mk : Option Bool} {t : St → Hp → (Int → Int → Hp → Prop) → Prop} (h : ∀ (Z F : Hp) (μ : List Addr) (st : Store) (env : AEnv) (σ : St) (H : Hp) (Q : Int → Int → Hp → Prop), Good Γ.K Z F μ st H → REnv Γ.K F μ env σ →
    (ms env st).post (fun as st1 => ∀ F' μ' H', Ext F F' μ μ' → Good Γ.K Z F' μ' st1 H' → ∃ i j, rgPair as = some (i, j) ∧ Q i j H') (KX Γ.K Z F μ σ W) → t σ H Q) :
    Sim Γ.K Rep W (match mk with | some _ => tLstRg t | none => tTupRg t) (eRg mk ms) := by
  intro Z F μ st env σ H Q g re hp
  unfold eRg at hp
  rw [Res.post_bind] at hp
  have key : (ms env st).post (fun as st1 => ∀ F' μ' H', Ext F F' μ μ' → Good Γ.K Z F' μ' st1 H' → ∃ i j, rgPair as = some (i, j) ∧
      (RgOk i j ∧ ∀ q, H' q = none → Q (.ref q) (upd H' q (match mk with | some _ => .lst (rgV i j) | none => .tup (rgV i j))))) (KX Γ.K Z F μ σ W) := by
    refine Res.post_mono hp (fun as st1 q => ?_) fun _ _ q => q
    intro F1 μ1 H1 e1 g1
    split at q
    · rename_i i j hr
      split at q
      · rename_i hb
        refine ⟨i, j, hr, hb, fun p hp' => ?_⟩
        cases mk with
        | some mk =>
          have q : Kont Γ.K Z Rep F μ Q (newL mk (rgA i j) st1).1 (newL mk (rgA i j) st1).2 := q
          exact newL_ok (mk := mk) g1 hp' (rgA_reps i j) (q.ext e1)
        | none =>
          have q : Kont Γ.K Z Rep F μ Q (.tup (rgA i j)) st1 := q
          exact newT_ok g1 hp' (rgA_reps i j) (q.ext e1)
      · exact q.elim
    · exact q.elim
  cases mk with
  | some mk => exact h Z F μ st env σ H _ g re key
  | none => exact h Z F μ st env σ H _ g re key
theorem s_listRg {mk : Bool} (hg : Γ.sc.names.lookup ("list" : Str) = some .globalImplicit) (hm : Γ.mg "list" = none) (h : SR Γ e ms) (na : ∀ env, starEach [e] env = (false, eval e env) :: starEach [] env := by intro _; rfl) (cm : Γ.calm = true := by rfl) : SE Γ (.Call (.Name "list" p) [e] [] pos) (eRg (some mk) ms) :=
  ⟨fun W => let ⟨t, h1, h2⟩ := h.run W; ⟨tLstRg t, sim_rg (mk := some mk) h1, fun X c k => pe_listRg (c.calm cm) (c.gl hg) (c.mgn hm) (h2 X c k) (na _)⟩⟩
theorem s_tupRg (hg : Γ.sc.names.lookup ("tuple" : Str) = some .globalImplicit) (hm : Γ.mg "tuple" = none) (h : SR Γ e ms) (na : ∀ env, starEach [e] env = (false, eval e env) :: starEach [] env := by intro _; rfl) (cm : Γ.calm = true := by rfl) : SE Γ (.Call (.Name "tuple" p) [e] [] pos) (eRg none ms) :=
  ⟨fun W => let ⟨t, h1, h2⟩ := h.run W; ⟨tTupRg t, sim_rg (mk := none) h1, fun X c k => pe_tupRg (c.calm cm) (c.gl hg) (c.mgn hm) (h2 X c k) (na _)⟩⟩
end
end SL

set_option Elab.async false
set_option linter.all false
set_option maxRecDepth 100000
set_option maxHeartbeats 4000000
/-! SLi: what a def is worth: its cells go, or become data; the law's end. -/
namespace SL
open PySem PySem.Spec L2
open PyProof.Rows hiding St
mutual
def A.bel (n : Nat) : A → Bool
  | .cell c => decide (c < n)
  | .lst xs => belowL n xs
  | .slst xs => belowL n xs
  | .tup xs => belowL n xs
  | .obj _ _ vs => belowL n vs
  | .dct _ vs => belowL n vs
  | .xcp _ _ _ _ vs => belowL n vs
  | .non => true
  | .bl _ => true
  | .int _ => true
  | .str _ => true
  | .ty _ => true
  | .glo _ => true
def belowL (n : Nat) : List A → Bool
  | [] => true
  | x :: xs => x.bel n && belowL n xs
end
def C.bel (n : Nat) : C → Bool
  | .lst xs => belowL n xs
  | .dct _ vs => belowL n vs
  | .obj _ _ vs => belowL n vs
  | .dead => true
section
variable {K : PySem.W.Frag} {Z F : Hp} {μ : List Addr}
theorem take_get {α : Type} {l : List α} {n i : Nat} (h : i < n) : (l.take n)[i]? = l[i]? := by rw [List.getElem?_take]; simp [h]
mutual
theorem Rep.cut {n : Nat} : ∀ {a : A} {v : V}, Rep K F μ a v → a.bel n = true → Rep K F (μ.take n) a v
  | _, _, .non, _ => .non
  | _, _, .bl b, _ => .bl b
  | _, _, .int i, _ => .int i
  | _, _, .str s, _ => .str s
  | _, _, .ty n, _ => .ty n
  | _, _, .glo x, _ => .glo x
  | _, _, .lst s r, h => .lst s (Reps.cut r (by simpa [A.bel] using h))
  | _, _, .slst s r, h => .slst s (Reps.cut r (by simpa [A.bel] using h))
  | _, _, .tup s r, h => .tup s (Reps.cut r (by simpa [A.bel] using h))
  | _, _, .cell e, h => .cell (by rw [take_get (by simpa [A.bel] using h)]; exact e)
  | _, _, .obj h1 h2 h3 r, h => .obj h1 h2 h3 (Reps.cut r (by simpa [A.bel] using h))
  | _, _, .dct h1 h3 r, h => .dct h1 h3 (Reps.cut r (by simpa [A.bel] using h))
  | _, _, .xcp0, _ => .xcp0
  | _, _, .xcpD h1 h3 r, h => .xcpD h1 h3 (Reps.cut r (by simpa [A.bel] using h))
theorem Reps.cut {n : Nat} : ∀ {as : List A} {vs : List V}, Reps K F μ as vs → belowL n as = true → Reps K F (μ.take n) as vs
  | _, _, .nil, _ => .nil
  | _, _, .cons r t, h => by
    rw [belowL, Bool.and_eq_true] at h
    exact .cons (Rep.cut r h.1) (Reps.cut t h.2)
end
mutual
theorem Rep.bel : ∀ {a : A} {v : V}, Rep K F μ a v → a.bel μ.length = true
  | _, _, .non => by simp [A.bel]
  | _, _, .bl b => by simp [A.bel]
  | _, _, .int i => by simp [A.bel]
  | _, _, .str s => by simp [A.bel]
  | _, _, .ty n => by simp [A.bel]
  | _, _, .glo x => by simp [A.bel]
  | _, _, .lst s r => by simp only [A.bel]; exact Reps.bel r
  | _, _, .slst s r => by simp only [A.bel]; exact Reps.bel r
  | _, _, .tup s r => by simp only [A.bel]; exact Reps.bel r
  | _, _, .cell e => by simp only [A.bel, decide_eq_true_eq]; exact (List.getElem?_eq_some_iff.mp e).1
  | _, _, .obj h1 h2 h3 r => by simp only [A.bel]; exact Reps.bel r
  | _, _, .dct h1 h3 r => by simp only [A.bel]; exact Reps.bel r
  | _, _, .xcp0 => by simp [A.bel, belowL]
  | _, _, .xcpD h1 h3 r => by simp only [A.bel]; exact Reps.bel r
theorem Reps.bel : ∀ {as : List A} {vs : List V}, Reps K F μ as vs → belowL μ.length as = true
  | _, _, .nil => by simp [belowL]
  | _, _, .cons r t => by rw [belowL, Rep.bel r, Reps.bel t]; rfl
end
theorem CRep.cut {n : Nat} {H : Hp} {c : C} {a : Addr} (h : CRep K F μ H c a) (b : c.bel n = true) : CRep K F (μ.take n) H c a := by
  cases c with
  | lst xs => obtain ⟨vs, h, r⟩ := h; exact ⟨vs, h, r.cut b⟩
  | dct ks xs => obtain ⟨kvs, h, q, r⟩ := h; exact ⟨kvs, h, q, r.cut b⟩
  | obj c ns xs => obtain ⟨dx, fs, h, h2, q, r⟩ := h; exact ⟨dx, fs, h, h2, q, r.cut b⟩
  | dead => trivial
theorem CRep.bel {H : Hp} {c : C} {a : Addr} (h : CRep K F μ H c a) : c.bel μ.length = true := by
  cases c with
  | lst xs => obtain ⟨vs, h, r⟩ := h; exact r.bel
  | dct ks xs => obtain ⟨kvs, h, q, r⟩ := h; exact r.bel
  | obj c ns xs => obtain ⟨dx, fs, h, h2, q, r⟩ := h; exact r.bel
  | dead => rfl
/-- the cells of the caller stand as they stood, or hold nothing of the callee's -/
def okS (n : Nat) (st0 st : Store) : Prop := ∀ i, i < n → st[i]? = st0[i]? ∨ ∃ c, st[i]? = some c ∧ c.bel n = true
theorem Good.trunc {st : Store} {H : Hp} {n : Nat} (g : Good K Z F μ st H) (h : ∀ i c, i < n → st[i]? = some c → c ≠ .dead → c.bel n = true) : Good K Z F (μ.take n) (st.take n) H := by
  refine { zub := g.zub, zf := g.zf, zc := g.zc, sub := g.sub, len := by rw [List.length_take, List.length_take, g.len], cell := fun i c hi hc => ?_, inj := fun i j a c d h1 n1 h2 n2 m1 m2 => ?_ }
  · have hin : i < n := by have := (List.getElem?_eq_some_iff.mp hi).1; rw [List.length_take] at this; omega
    rw [take_get hin] at hi
    obtain ⟨a, h1, h2, h3⟩ := g.cell i c hi hc
    exact ⟨a, by rw [take_get hin]; exact h1, h2, h3.cut (h i c hin hi hc)⟩
  · have hin : i < n := by have := (List.getElem?_eq_some_iff.mp h1).1; rw [List.length_take] at this; omega
    have hjn : j < n := by have := (List.getElem?_eq_some_iff.mp h2).1; rw [List.length_take] at this; omega
    rw [take_get hin] at h1 m1
    rw [take_get hjn] at h2 m2
    exact g.inj i j a c d h1 n1 h2 n2 m1 m2
end

/-! ### cells become data -/
def frzL (f : A → Store → Option (A × Store)) : List A → Store → Option (List A × Store)
  | [], st => some ([], st)
  | x :: xs, st => match f x st with
    | some (y, st1) => (match frzL f xs st1 with
      | some (ys, st2) => some (y :: ys, st2)
      | none => none)
    | none => none
def frzA (n : Nat) : Nat → A → Store → Option (A × Store)
  | 0, a, st => if a.bel n = true then some (a, st) else none
  | k + 1, a, st => if a.bel n = true then some (a, st) else match a with
    | .cell c => (match st[c]? with
      | some (.lst xs) => (frzL (frzA n k) xs (st.set c .dead)).map fun p => (.lst p.1, p.2)
      | some (.dct ks xs) => (frzL (frzA n k) xs (st.set c .dead)).map fun p => (.dct ks p.1, p.2)
      | some (.obj cn ns xs) => (frzL (frzA n k) xs (st.set c .dead)).map fun p => (.obj cn ns p.1, p.2)
      | _ => none)
    | .lst xs => (frzL (frzA n k) xs st).map fun p => (.lst p.1, p.2)
    | .tup xs => (frzL (frzA n k) xs st).map fun p => (.tup p.1, p.2)
    | .obj cn ns xs => (frzL (frzA n k) xs st).map fun p => (.obj cn ns p.1, p.2)
    | _ => none
section
variable {K : PySem.W.Frag} {Z : Hp} {μ : List Addr}
theorem frzL_ok {f : A → Store → Option (A × Store)} {H : Hp} (h : ∀ (F : Hp) (st st' : Store) (a b : A) (v : V), Good K Z F μ st H → Rep K F μ a v → f a st = some (b, st') → ∃ F', Ext F F' μ μ ∧ Good K Z F' μ st' H ∧ Rep K F' μ b v) :
    ∀ (xs : List A) (F : Hp) (st st' : Store) (ys : List A) (vs : List V), Good K Z F μ st H → Reps K F μ xs vs → frzL f xs st = some (ys, st') → ∃ F', Ext F F' μ μ ∧ Good K Z F' μ st' H ∧ Reps K F' μ ys vs
  | [], F, st, st', ys, vs, g, r, e => by cases e; cases r; exact ⟨F, Ext.refl, g, .nil⟩
  | x :: xs, F, st, st', ys, _, g, .cons r t, e => by
    unfold frzL at e
    cases e1 : f x st with
    | none => rw [e1] at e; cases e
    | some p =>
      obtain ⟨y, st1⟩ := p
      rw [e1] at e
      dsimp only at e
      cases e2 : frzL f xs st1 with
      | none => rw [e2] at e; cases e
      | some q =>
        obtain ⟨zs, st2⟩ := q
        rw [e2] at e; cases e
        obtain ⟨F1, x1, g1, r1⟩ := h F st st1 x y _ g r e1
        obtain ⟨F2, x2, g2, r2⟩ := frzL_ok h xs F1 st1 _ zs _ g1 (t.mono x1) e2
        exact ⟨F2, x1.trans x2, g2, .cons (r1.mono x2) r2⟩
theorem frzA_ok {H : Hp} {n : Nat} : ∀ (k : Nat) (F : Hp) (st st' : Store) (a b : A) (v : V), Good K Z F μ st H → Rep K F μ a v → frzA n k a st = some (b, st') → ∃ F', Ext F F' μ μ ∧ Good K Z F' μ st' H ∧ Rep K F' μ b v := by
  intro k
  induction k with
  | zero =>
    intro F st st' a b v g r e
    unfold frzA at e
    split at e
    · cases e; exact ⟨F, Ext.refl, g, r⟩
    · cases e
  | succ k ih =>
    intro F st st' a b v g r e
    unfold frzA at e
    split at e
    · cases e; exact ⟨F, Ext.refl, g, r⟩
    · cases a with
      | cell c =>
        dsimp only at e
        cases r with
        | cell hc =>
          rename_i ad
          cases ec : st[c]? with
          | none => rw [ec] at e; cases e
          | some cc =>
            rw [ec] at e
            cases cc with
            | lst xs =>
              dsimp only at e
              obtain ⟨a2, m2, _, vs, h4, h5⟩ := g.cell c _ ec (by intro z; cases z)
              rw [hc] at m2; cases m2
              obtain ⟨g1, x1⟩ := g.know (o := .lst vs) ec (by intro z; cases z) hc h4
              cases el : frzL (frzA n k) xs (st.set c .dead) with
              | none => rw [el] at e; cases e
              | some p =>
                rw [el] at e; cases e
                obtain ⟨F2, x2, g2, r2⟩ := frzL_ok ih xs _ _ p.2 p.1 vs g1 (h5.mono x1) el
                exact ⟨F2, x1.trans x2, g2, .lst (x2.f _ _ upd_same) r2⟩
            | dct ks xs =>
              dsimp only at e
              obtain ⟨a2, m2, _, kvs, h4, h6, h5⟩ := g.cell c _ ec (by intro z; cases z)
              rw [hc] at m2; cases m2
              obtain ⟨g1, x1⟩ := g.know (o := .dK kvs) ec (by intro z; cases z) hc h4
              cases el : frzL (frzA n k) xs (st.set c .dead) with
              | none => rw [el] at e; cases e
              | some p =>
                rw [el] at e; cases e
                obtain ⟨F2, x2, g2, r2⟩ := frzL_ok ih xs _ _ p.2 p.1 _ g1 (h5.mono x1) el
                exact ⟨F2, x1.trans x2, g2, .dct (x2.f _ _ upd_same) h6 r2⟩
            | obj cn ns xs =>
              dsimp only at e
              obtain ⟨a2, m2, ⟨hF, hZ⟩, dx, fs, h4, h7, h6, h5⟩ := g.cell c _ ec (by intro z; cases z)
              rw [hc] at m2; cases m2
              obtain ⟨g1, x1⟩ := g.know (o := .ins (He.ga K cn) dx fs) ec (by intro z; cases z) hc h4
              have hzd : Z dx = none := by
                cases ez : Z dx with
                | none => rfl
                | some u =>
                  have c1 := g.zc _ _ ez
                  have c2 := g.zub _ _ ez
                  rw [h7] at c2; cases c2; cases c1
              have hfd : upd F ad (.ins (He.ga K cn) dx fs) dx = none ∨ upd F ad (.ins (He.ga K cn) dx fs) dx = some (.own ad) := by
                cases ef : upd F ad (.ins (He.ga K cn) dx fs) dx with
                | none => exact .inl rfl
                | some u => have := g1.sub _ _ ef; rw [h7] at this; exact .inr this.symm
              obtain ⟨g2, x2⟩ := g1.knowO (q := dx) (u := .own ad) h7 rfl hzd hfd
              cases el : frzL (frzA n k) xs (st.set c .dead) with
              | none => rw [el] at e; cases e
              | some p =>
                rw [el] at e; cases e
                obtain ⟨F2, x3, g3, r2⟩ := frzL_ok ih xs _ _ p.2 p.1 _ g2 (h5.mono (x1.trans x2)) el
                exact ⟨F2, x1.trans (x2.trans x3), g3, .obj ((x2.trans x3).f _ _ upd_same) (x3.f _ _ upd_same) h6 r2⟩
            | dead => cases e
      | lst xs =>
        dsimp only at e
        cases r with
        | lst h1 h2 =>
          cases el : frzL (frzA n k) xs st with
          | none => rw [el] at e; cases e
          | some p =>
            rw [el] at e; cases e
            obtain ⟨F2, x2, g2, r2⟩ := frzL_ok ih xs _ _ p.2 p.1 _ g h2 el
            exact ⟨F2, x2, g2, .lst (x2.f _ _ h1) r2⟩
      | tup xs =>
        dsimp only at e
        cases r with
        | tup h1 h2 =>
          cases el : frzL (frzA n k) xs st with
          | none => rw [el] at e; cases e
          | some p =>
            rw [el] at e; cases e
            obtain ⟨F2, x2, g2, r2⟩ := frzL_ok ih xs _ _ p.2 p.1 _ g h2 el
            exact ⟨F2, x2, g2, .tup (SqT.mono x2.f h1) r2⟩
      | obj cn ns xs =>
        dsimp only at e
        cases r with
        | obj h1 h3 h4 h2 =>
          cases el : frzL (frzA n k) xs st with
          | none => rw [el] at e; cases e
          | some p =>
            rw [el] at e; cases e
            obtain ⟨F2, x2, g2, r2⟩ := frzL_ok ih xs _ _ p.2 p.1 _ g h2 el
            exact ⟨F2, x2, g2, .obj (x2.f _ _ h1) (x2.f _ _ h3) h4 r2⟩
      | _ => cases e
end
end SL

set_option Elab.async false
set_option linter.all false
set_option maxRecDepth 100000
set_option maxHeartbeats 4000000
/-! SLj: a def by its body; the law. -/
namespace SL
open PySem PySem.Spec L2
open PyProof.Rows hiding St
def C.live : C → Bool
  | .dead => false
  | _ => true
theorem C.live_ne {c : C} (h : c.live = true) : c ≠ .dead := by intro e; subst e; cases h
noncomputable instance (n : Nat) (st0 st : Store) : Decidable (okS n st0 st) := Classical.propDecidable _
/-- a def hands back a value: what is the def's own becomes data (rc: or one new cell stays) -/
noncomputable def finA (rc : Bool) (n : Nat) (st0 : Store) (a : A) (st : Store) : Res A :=
  match rc, a with
  | true, .cell c => if n ≤ c then (match st[c]? with
    | some cc => if cc.live = true ∧ cc.bel n = true ∧ okS n st0 st then .ok (.cell n) (st.take n ++ [cc]) else .stuck
    | none => .stuck) else .stuck
  | _, a => match frzA n 8 a st with
    | some (b, st1) => if b.bel n = true ∧ okS n st0 st1 then .ok b (st1.take n) else .stuck
    | none => .stuck
noncomputable def fin (rc : Bool) (n : Nat) (st0 : Store) (r : SRes) : Res A := match r with
  | .nx _ st => finA false n st0 .non st
  | .rt a st => finA rc n st0 a st
  | .exc e _ st => if belowL n e.vs = true ∧ okS n st0 st then .exc e (st.take n) else .stuck
  | _ => .stuck
noncomputable def fnM (rc : Bool) (np ns : Nat) (body : MS) : List A → Store → Res A := fun as st =>
  if as.length = np then fin rc st.length st (body (as.map some ++ List.replicate (ns - np) none) st) else .stuck
section
variable {K : PySem.W.Frag} {Z F F' : Hp} {μ μ' : List Addr} {st0 st : Store} {H H' : Hp}
theorem okS_bel (g0 : Good K Z F μ st0 H) (ok : okS st0.length st0 st) : ∀ i c, i < st0.length → st[i]? = some c → c ≠ .dead → c.bel st0.length = true := by
  intro i c hi hc hd
  rcases ok i hi with h | ⟨c', h, hb⟩
  · rw [h] at hc
    obtain ⟨a, _, _, h3⟩ := g0.cell i c hc hd
    rw [← g0.len]
    exact h3.bel
  · rw [h] at hc; cases hc; exact hb
theorem pre_take (e : Ext F F' μ μ') : μ'.take μ.length = μ := by
  apply List.ext_getElem?
  intro i
  by_cases h : i < μ.length
  · rw [take_get h]
    exact (e.m i _ (List.getElem?_eq_getElem h)).trans (List.getElem?_eq_getElem h).symm
  · rw [List.getElem?_eq_none (by rw [List.length_take]; omega), List.getElem?_eq_none (by omega)]
theorem good_le (e : Ext F F' μ μ') (g0 : Good K Z F μ st0 H) (g : Good K Z F' μ' st H') : st0.length ≤ st.length := by
  rw [← g0.len, ← g.len]
  by_cases h : μ.length ≤ μ'.length
  · exact h
  · have hl : μ'.length < μ.length := by omega
    have := e.m μ'.length _ (List.getElem?_eq_getElem hl)
    rw [List.getElem?_eq_none (Nat.le_refl _)] at this
    cases this
theorem finA_ok {rc : Bool} {a : A} {v : V} {Q : VK} {E : Exc → Store → Prop} (g0 : Good K Z F μ st0 H) (e : Ext F F' μ μ') (g : Good K Z F' μ' st H') (r : Rep K F' μ' a v) (h : (finA rc st0.length st0 a st).post (Kont K Z Rep F μ Q) E) : Q v H' := by
  have gen : (match frzA st0.length 8 a st with | some (b, st1) => if b.bel st0.length = true ∧ okS st0.length st0 st1 then Res.ok b (st1.take st0.length) else .stuck | none => .stuck : Res A).post (Kont K Z Rep F μ Q) E → Q v H' := by
    intro h
    cases ef : frzA st0.length 8 a st with
    | none => rw [ef] at h; exact h.elim
    | some p =>
      obtain ⟨b, st1⟩ := p
      rw [ef] at h
      dsimp only at h
      split at h
      · rename_i hb
        obtain ⟨F2, x2, g2, r2⟩ := frzA_ok 8 F' st st1 a b v g r ef
        have k : Kont K Z Rep F μ Q b (st1.take st0.length) := h
        have hm := pre_take e
        have g3 := g2.trunc (okS_bel g0 hb.2)
        rw [← g0.len, hm] at g3
        have r3 := r2.cut hb.1
        rw [← g0.len, hm] at r3
        rw [← g0.len] at k
        exact k F2 μ H' v ⟨fun a o q => x2.f _ _ (e.f _ _ q), fun _ _ q => q⟩ g3 r3
      · exact h.elim
  unfold finA at h
  split at h
  · rename_i c
    split at h
    · rename_i hn
      split at h
      · rename_i cc hcc
        split at h
        · rename_i hb
          have hb1 := C.live_ne hb.1
          have k : Kont K Z Rep F μ Q (.cell st0.length) (st.take st0.length ++ [cc]) := h
          obtain ⟨a2, m2, ⟨hF2, hZ2⟩, hr2⟩ := g.cell c cc hcc hb1
          cases r with
          | cell hc =>
            rw [hc] at m2; cases m2
            have hm := pre_take e
            have g3 := g.trunc (okS_bel g0 hb.2.2)
            rw [← g0.len, hm] at g3
            have hr3 := hr2.cut hb.2.1
            rw [← g0.len, hm] at hr3
            obtain ⟨o, ho, hco⟩ := hr2.o hb1
            -- the cell laid anew behind the caller's
            have hlen : (st.take st0.length).length = st0.length := by rw [List.length_take]; have := good_le e g0 g; omega
            have g4 : Good K Z F' (μ ++ [a2]) (st.take st0.length ++ [cc]) H' := by
              rw [← g0.len] at hlen ⊢
              refine { zub := g3.zub, zf := g3.zf, zc := g3.zc, sub := g3.sub, len := by rw [List.length_append, List.length_append, hlen]; rfl, cell := fun i d hi hd => ?_, inj := fun i j a d d' hi hd hj hd' ei ej => ?_ }
              · by_cases hl : i < (st.take μ.length).length
                · rw [List.getElem?_append_left hl] at hi
                  obtain ⟨b, h1, h2, h3⟩ := g3.cell i d hi hd
                  exact ⟨b, ext_push.m (F := F') (F' := F') i b h1, h2, h3.mono ext_push fun _ _ q => q⟩
                · have hi' := (List.getElem?_eq_some_iff.mp hi).1
                  rw [List.length_append] at hi'
                  have ei : i = (st.take μ.length).length := by simp at hi' hl ⊢; omega
                  subst ei
                  rw [List.getElem?_append_right (Nat.le_refl _), Nat.sub_self] at hi
                  simp at hi; subst hi
                  refine ⟨_, ?_, ⟨hF2, hZ2⟩, hr3.mono ext_push fun _ _ q => q⟩
                  rw [hlen, List.getElem?_append_right (Nat.le_refl _), Nat.sub_self]; rfl
              · have key : ∀ (i : Nat) (d : C), (st.take μ.length ++ [cc])[i]? = some d → d ≠ .dead → ∀ b, (μ ++ [a2])[i]? = some b → (i < μ.length ∧ st[i]? = some d ∧ μ'[i]? = some b) ∨ (i = μ.length ∧ μ'[c]? = some b) := by
                  intro i d hi hd b hb'
                  by_cases hl : i < μ.length
                  · rw [List.getElem?_append_left (by rw [hlen]; exact hl), take_get hl] at hi
                    rw [List.getElem?_append_left hl] at hb'
                    exact .inl ⟨hl, hi, e.m _ _ hb'⟩
                  · have hi' := (List.getElem?_eq_some_iff.mp hi).1
                    rw [List.length_append, hlen] at hi'
                    have ei : i = μ.length := by simp at hi'; omega
                    subst ei
                    rw [List.getElem?_append_right (Nat.le_refl _), Nat.sub_self] at hb'
                    simp at hb'; subst hb'
                    exact .inr ⟨rfl, hc⟩
                have hn' : μ.length ≤ c := by rw [g0.len]; exact hn
                rcases key i d hi hd _ ei with ⟨l1, a1, b1⟩ | ⟨l1, b1⟩ <;> rcases key j d' hj hd' _ ej with ⟨l2, a2, b2⟩ | ⟨l2, b2⟩
                · exact g.inj i j a d d' a1 hd a2 hd' b1 b2
                · have := g.inj i c a d cc a1 hd hcc hb1 b1 b2; omega
                · have := g.inj j c a d' cc a2 hd' hcc hb1 b2 b1; omega
                · omega
            exact k F' (μ ++ [a2]) H' _ ⟨e.f, fun i b q => ext_push.m (F := F') (F' := F') i b q⟩ g4 (.cell (by rw [← g0.len, List.getElem?_append_right (Nat.le_refl _), Nat.sub_self]; rfl))
        · exact h.elim
      · exact h.elim
    · exact h.elim
  · exact gen h
end
section
variable {P : Program} {w : World} {K : PySem.W.Frag} {mg : Str → Option Value} {base : Heap}
theorem start_env {F : Hp} {μ : List Addr} {as : List A} {vs : List V} (r : Reps K F μ as vs) (N : List Str) : REnv K F μ (as.map some ++ List.replicate (N.length - as.length) none) (L2.start N vs) := by
  unfold L2.start
  rw [r.length]
  refine ⟨by simp [r.length], fun i a h => ?_⟩
  by_cases hl : i < as.length
  · rw [List.getElem?_append_left (by rw [List.length_map]; exact hl), List.getElem?_map] at h
    cases e : as[i]? with
    | none => rw [e] at h; cases h
    | some b =>
      rw [e] at h; cases h
      obtain ⟨v, h1, h2⟩ := r.get e
      exact ⟨v, by rw [List.getElem?_append_left (by rw [List.length_map, ← r.length]; exact hl), List.getElem?_map, h1]; rfl, h2⟩
  · rw [List.getElem?_append_right (by rw [List.length_map]; omega)] at h
    rw [List.getElem?_replicate] at h
    split at h <;> cases h
/-- the reading of a body, from the def's plain function -/
theorem body_ok {rc : Bool} {N : List Str} {np : Nat} {m : MS} {t : TS} {W : WX} {E : XK} (hW : ∀ cls d σ H, E cls d H → W cls d σ H) (h : SimS K W t m) {vs : List V} {H : Hp} {Q : VK}
    (hs : spM K np (fnM rc np N.length m) vs H Q E) : t { nx := fun _ H' => Q .non H', rt := Q } (L2.start N vs) H := by
  obtain ⟨hl, Z, F, μ, st, as, g, r, hp⟩ := hs
  have hal : as.length = np := by rw [r.length]; exact hl
  unfold fnM at hp
  rw [if_pos hal] at hp
  rw [← hal] at hp
  refine h Z F μ st _ (L2.start N vs) H _ g (start_env r N) ?_
  generalize m (as.map some ++ List.replicate (N.length - as.length) none) st = rr at hp ⊢
  cases rr with
  | nx env st' =>
    intro F' μ' H' σ' e g' re
    exact finA_ok (rc := false) (a := .non) (v := .non) g e g' .non hp
  | rt a st' =>
    intro F' μ' H' v e g' ra
    exact finA_ok g e g' ra hp
  | bk env st' => exact hp.elim
  | ct env st' => exact hp.elim
  | stuck => exact hp.elim
  | exc x env st' =>
    intro F' μ' H' σ' d e g' re xr
    have hp : (if belowL st.length x.vs = true ∧ okS st.length st st' then Res.exc x (st'.take st.length) else .stuck : Res A).post (Kont K Z Rep F μ Q) (fun e st' => ∀ F' μ' H' d, Ext F F' μ μ' → Good K Z F' μ' st' H' → XRep K F' μ' e d → E (.ref (He.ga K e.c)) d H') := hp
    split at hp
    · rename_i hb
      apply hW
      have hm := pre_take e
      have g3 := g'.trunc (okS_bel g hb.2)
      rw [← g.len, hm] at g3
      refine (show ∀ F' μ' H' d, Ext F F' μ μ' → Good K Z F' μ' (st'.take st.length) H' → XRep K F' μ' x d → E (.ref (He.ga K x.c)) d H' from hp) F' μ H' d ⟨e.f, fun _ _ q => q⟩ (by rw [← g.len]; exact g3) ?_
      rcases xr with xr | ⟨dd, fs, h1, h2, h3, h4⟩
      · exact .inl xr
      · refine .inr ⟨dd, fs, h1, h2, h3, ?_⟩
        have := h4.cut hb.1
        rw [← g.len, hm] at this
        exact this
    · exact hp.elim
/-- THE RULE for a def -/
theorem fnS_of {rc : Bool} {x qual : Str} {params : Arguments} {body : List Stmt} {scope : Scope} {f : Addr} {fd : FuncData} {N ps : List Str} {k : Nat} {m : MS} (F : FunD K x qual params body scope [] [] f fd) (S : FnScope N ps scope)
    (hB : Binds K fd ps []) (h : SB ⟨P, w, K, mg, base, N, scope, k, true, true, none⟩ (fun _ => true) body m) : FnS P w K mg base (k + 1) f ps (fnM rc ps.length N.length m) where
  ex := by
    refine ⟨fd, F.ok S (fun vs H Q E hs => hs.1) (fun cdv A outer s H vs Q E hr hs => ?_), hB⟩
    obtain ⟨t, h1, h2⟩ := h.run (fun cls d _ H => E cls d H)
    refine ⟨t, h2 _ ?_ (fun _ _ => rfl) (takes_of rfl rfl rfl rfl), body_ok (fun _ _ _ _ z => z) h1 hs⟩
    exact { prog := rfl, w := rfl, K := rfl, mg := rfl, base := rfl, N := rfl, sc := rfl, calm := fun _ => rfl, room := fun _ => hr, units := hr.units, stk := fun _ => ⟨rfl, rfl⟩, hx := (fun _ _ _ z => nomatch z), nd := S.nd, own := passes_of rfl }
  kp := F.kp
  ar := fun as st hne => by unfold fnM; rw [if_neg hne]
/-- a def that isn't called so deep -/
theorem fnS_zero {fd : FuncData} {f : Addr} {ps : List Str} (hB : Binds K fd ps []) (kp : PySem.W.keepIn K (.ref f) = true) (k : Nat) : FnS P w K mg base k f ps (fun _ _ => .stuck) where
  ex := ⟨fd, ⟨fun vs H Q E hs => hs.1, fun A outer s H args us vs Q E _ _ _ _ hs => by obtain ⟨_, _, _, _, _, _, _, _, z⟩ := hs; exact z.elim⟩, hB⟩
  kp := kp
  ar := fun _ _ _ => rfl
/-- the law -/
theorem law_of {x qual : Str} {params : Arguments} {body : List Stmt} {scope : Scope} {f : Addr} {fd : FuncData} {N ps : List Str} {k : Nat} {m : MS} (F : FunD K x qual params body scope [] [] f fd) (S : FnScope N ps scope)
    (h : SB ⟨P, w, K, mg, base, N, scope, k, true, true, none⟩ (fun _ => true) body m) : FnOk P w K mg base CX0 (k + 1) f fd ps (fun vs H Q _ => spM K ps.length (fnM false ps.length N.length m) vs H Q E0) := by
  refine F.ok S (fun vs H Q E hs => hs.1) (fun cdv A outer s H vs Q E hr hs => ?_)
  obtain ⟨t, h1, h2⟩ := h.run W0
  refine ⟨t, PSs.nox (h2 _ ?_ (fun _ _ => rfl) takes0), body_ok (fun _ _ _ _ z => z) h1 hs⟩
  exact { prog := rfl, w := rfl, K := rfl, mg := rfl, base := rfl, N := rfl, sc := rfl, calm := fun _ => rfl, room := fun _ => hr, units := hr.units, stk := fun _ => ⟨rfl, rfl⟩, hx := (fun _ _ _ z => nomatch z), nd := S.nd, own := PassesOwn.never }
/-- the law at a script, from its plain function -/
theorem law_sp {M : List A → Store → Res A} {H : Hp} {a : Addr} {ns : List Int} (hS : SqL K H a (ns.map V.int)) (h : ∃ st, M [.slst (ns.map A.int)] [] = .ok (.bl true) st) : spM K 1 M [.ref a] H (fun v _ => v = .bl true) E0 := by
  obtain ⟨st, h⟩ := h
  refine ⟨rfl, fun _ => none, H, [], [], [.slst (ns.map A.int)], ?_, .cons (.slst hS (Reps.ints ns)) .nil, ?_⟩
  · exact { zub := fun _ _ q => (by cases q), zf := fun _ _ q => (by cases q), zc := fun _ _ q => (by cases q), sub := fun _ _ q => q, len := rfl, cell := fun i c q => (by simp at q), inj := fun i j a c d q => (by simp at q) }
  · rw [h]
    intro F' μ' H' b e g r
    cases r; rfl
end
end SL

set_option Elab.async false
set_option linter.all false
set_option maxRecDepth 100000
set_option maxHeartbeats 4000000
/-! SLk: two stores at once. -/
namespace SL
open PySem PySem.Spec L2
open PyProof.Rows hiding St
section
variable {Γ : G} {fo : Str → Bool} {pos : Pos} {a b : Expr}
theorem sw_sub2 {o1 i1 o2 i2 : Expr} {p1 p2 pt pv : Pos} {k kv : Nat} (env : Env) : swappedStores [.Tuple [.Subscript o1 i1 p1, .Subscript o2 i2 p2] k pt] (.Tuple [a, b] kv pv) env = pure none := by
  simp only [swappedStores]
  by_cases h : (env.blockKind != ScopeKind.function) = true
  · simp [h]
  · simp [h]
def sSub2 (op : A → A → A → Store → Option Store) (ms : AEnv → Store → Res (List A)) (mo1 mi1 mo2 mi2 : AEnv → Store → Res A) : MS := fun env st => (ms env st).toS env fun as st1 => match as with
  | [v, w] => (mo1 env st1).toS env fun o1 st2 => (mi1 env st2).toS env fun i1 st3 => match op o1 i1 v st3 with
    | some st4 => (mo2 env st4).toS env fun o2 st5 => (mi2 env st5).toS env fun i2 st6 => match op o2 i2 w st6 with
      | some st7 => .nx env st7
      | none => .stuck
    | none => .stuck
  | _ => .stuck
def SubAss (o i : Expr) (sp : Pos) : Prop := ∀ env v, assign (.Subscript o i sp) env v = (do
      let ov ← holding [v] (eval o env)
      let iv ← holding [v, ov] (eval i env)
      standAt sp
      holding [v, ov, iv] (setItem ov iv v)
      release [v, ov, iv] [])
theorem st_sub2 {op : A → A → A → Store → Option Store} {o1 i1 o2 i2 : Expr} {ms : AEnv → Store → Res (List A)} {mo1 mi1 mo2 mi2 : AEnv → Store → Res A} {p1 p2 pt pv : Pos} {k kv : Nat} (hop : Cset op) (h : SA Γ [a, b] ms) (ho1 : SE Γ o1 mo1) (hi1 : SE Γ i1 mi1) (ho2 : SE Γ o2 mo2) (hi2 : SE Γ i2 mi2)
    (ha1 : SubAss o1 i1 p1 := by intro _ _; rfl) (ha2 : SubAss o2 i2 p2 := by intro _ _; rfl) (cm : Γ.calm = true := by rfl) :
    SS Γ fo (.Assign [.Tuple [.Subscript o1 i1 p1, .Subscript o2 i2 p2] k pt] (.Tuple [a, b] kv pv) pos) (sSub2 op ms mo1 mi1 mo2 mi2) :=
  ⟨fun W => by
    obtain ⟨r, h1, h2⟩ := hop.ex
    obtain ⟨t, s0, p0⟩ := h.run W
    obtain ⟨t1, s1, q1⟩ := ho1.run W
    obtain ⟨t2, s2, q2⟩ := hi1.run W
    obtain ⟨t3, s3, q3⟩ := ho2.run W
    obtain ⟨t4, s4, q4⟩ := hi2.run W
    refine ⟨tAsg (tTup t) (gTup Γ.K 2 (gCons (gSub t1 t2 (r Γ.K)) (gCons (gSub t3 t4 (r Γ.K)) gNil))), ?_, fun X c hf kk => ?_⟩
    · intro Z F μ st env σ H D g re hp
      unfold sSub2 at hp
      rw [Res.post_toS] at hp
      refine s0 Z F μ st env σ H _ g re (Res.post_mono hp (fun as st1 q => ?_) fun x st1 q F1 μ1 H1 d e1 g1 x1 => q F1 μ1 H1 σ d e1 g1 (re.mono e1) x1)
      intro F1 μ1 H1 vs e1 g1 rs
      split at q
      · rename_i v w
        obtain ⟨vv, wv, rfl, rv, rw'⟩ := rs.two
        refine ⟨by show 2 ≤ sizeLine; rw [sizeLine_eq]; decide, fun p hp => ⟨p, [vv, wv], rfl, SqT.of upd_same, rfl, ?_⟩⟩
        obtain ⟨g1', e1'⟩ := g1.known (p := p) (o := .tup [vv, wv]) hp
        have e01 := e1.trans e1'
        refine ⟨vv, [wv], rfl, ?_⟩
        rw [Res.post_toS] at q
        refine s1 Z _ μ1 st1 env σ _ _ g1' (re.mono e01) (Res.post_mono q (fun o1 st2 q => ?_) fun x st2 q F2 μ2 H2 d e2 g2 x1 => q F2 μ2 H2 σ d (e01.trans e2) g2 (re.mono (e01.trans e2)) x1)
        intro F2 μ2 H2 ov e2 g2 ro
        have e02 := e01.trans e2
        rw [Res.post_toS] at q
        refine s2 Z F2 μ2 st2 env σ H2 _ g2 (re.mono e02) (Res.post_mono q (fun i1 st3 q => ?_) fun x st3 q F3 μ3 H3 d e3 g3 x1 => q F3 μ3 H3 σ d (e02.trans e3) g3 (re.mono (e02.trans e3)) x1)
        intro F3 μ3 H3 iv e3 g3 ri
        have e03 := e02.trans e3
        cases eo : op o1 i1 v st3 with
        | none => rw [eo] at q; exact q.elim
        | some st4 =>
          rw [eo] at q
          dsimp only at q
          refine h2 Γ.K Z F3 μ3 st3 st4 H3 o1 i1 v ov iv vv _ g3 (ro.mono e3) ri (rv.mono (e1'.trans (e2.trans e3))) eo fun F4 H4 e4 g4 => ?_
          have e04 := e03.trans e4
          refine ⟨wv, [], rfl, ?_⟩
          rw [Res.post_toS] at q
          refine s3 Z F4 μ3 st4 env σ H4 _ g4 (re.mono e04) (Res.post_mono q (fun o2 st5 q => ?_) fun x st5 q F5 μ5 H5 d e5 g5 x1 => q F5 μ5 H5 σ d (e04.trans e5) g5 (re.mono (e04.trans e5)) x1)
          intro F5 μ5 H5 ov2 e5 g5 ro2
          have e05 := e04.trans e5
          rw [Res.post_toS] at q
          refine s4 Z F5 μ5 st5 env σ H5 _ g5 (re.mono e05) (Res.post_mono q (fun i2 st6 q => ?_) fun x st6 q F6 μ6 H6 d e6 g6 x1 => q F6 μ6 H6 σ d (e05.trans e6) g6 (re.mono (e05.trans e6)) x1)
          intro F6 μ6 H6 iv2 e6 g6 ri2
          have e06 := e05.trans e6
          cases eo2 : op o2 i2 w st6 with
          | none => rw [eo2] at q; exact q.elim
          | some st7 =>
            rw [eo2] at q
            refine h2 Γ.K Z F6 μ6 st6 st7 H6 o2 i2 w ov2 iv2 wv _ g6 (ro2.mono e6) ri2 (rw'.mono (e1'.trans (e2.trans (e3.trans (e4.trans (e5.trans e6)))))) eo2 fun F7 H7 e7 g7 => ?_
            exact ⟨rfl, KN.now ((show KN Γ.K Z F μ D.nx env st7 from q).ext (e06.trans e7)) g7 (re.mono (e06.trans e7))⟩
      · exact q.elim
    · rw [← c.K]
      exact ps_asg (pe_tup (p0 X c kk)) (pg_tup (c.calm cm) (pgs_cons (pg_sub (q1 X c kk) (q2 X c kk) (h1 Γ X c) (ha1 _)) (pgs_cons (pg_sub (q3 X c kk) (q4 X c kk) (h1 Γ X c) (ha2 _)) pgs_nil))) (hs := by rfl) (hw := sw_sub2 _) (h1 := by rfl)⟩
end
end SL

set_option Elab.async false
set_option linter.all false
set_option maxRecDepth 100000
set_option maxHeartbeats 4000000
/-! SLm: words for the plain functions. -/
namespace SL
open PySem PySem.Spec L2
open PyProof.Rows hiding St
section
variable {i j : Nat} {env : AEnv} {st : Store} {a b : A} {ma mb mc : AEnv → Store → Res A} {ms : AEnv → Store → Res (List A)} {p q : AEnv → Store → Res Bool}
@[simp] theorem eVar_ap : eVar i env st = match env[i]? with | some (some a) => .ok a st | _ => .stuck := (rfl)
@[simp] theorem eC_ap : eC a env st = .ok a st := (rfl)
@[simp] theorem eBin_ap {op : Op2} : eBin op ma mb env st = (ma env st).bind fun a st1 => (mb env st1).bind fun b st2 => Res.of (op a b st2) := (rfl)
@[simp] theorem eUn_ap {op : Op1} : eUn op ma env st = (ma env st).bind fun a st1 => Res.of (op a st1) := (rfl)
@[simp] theorem aNil_ap : aNil env st = .ok [] st := (rfl)
@[simp] theorem aCons_ap : aCons ma ms env st = (ma env st).bind fun a st1 => (ms env st1).bind fun as st2 => .ok (a :: as) st2 := (rfl)
@[simp] theorem eTup_ap : eTup ms env st = (ms env st).bind fun xs st1 => if xs.length ≤ sizeLine then .ok (.tup xs) st1 else .stuck := (rfl)
@[simp] theorem eLst_ap {mk : Bool} : eLst mk ms env st = (ms env st).bind fun xs st1 => if xs.length ≤ sizeLine then .ok (newL mk xs st1).1 (newL mk xs st1).2 else .stuck := (rfl)
@[simp] theorem newL_t {xs : List A} : newL true xs st = (.cell st.length, st ++ [.lst xs]) := (rfl)
@[simp] theorem newL_f {xs : List A} : newL false xs st = (.lst xs, st) := (rfl)
@[simp] theorem eCB_ap {op : OpN} : eCB op ms env st = (ms env st).bind fun xs st1 => Res.of (op xs st1) := (rfl)
@[simp] theorem one1_ap {op : Op1} : one1 op [a] st = op a st := (rfl)
@[simp] theorem two2_ap {op : Op2} : two2 op [a, b] st = op a b st := (rfl)
@[simp] theorem eCall_ap {M : List A → Store → Res A} : eCall M ms env st = (ms env st).bind fun as st1 => M as st1 := (rfl)
@[simp] theorem eM_ap {T : String} {op : A → OpN} : eM T op ma ms env st = (ma env st).bind fun a st1 => if tyVA T a st1 then (ms env st1).bind fun as st2 => Res.of (op a as st2) else .stuck := (rfl)
@[simp] theorem tOf_ap : tOf ma env st = (ma env st).bind asB := (rfl)
@[simp] theorem asB_bl {k : Bool} : asB (.bl k) st = .ok k st := (rfl)
@[simp] theorem tTru_ap : tTru ma env st = (ma env st).bind fun a st1 => match truA st1 a with | some b => .ok b st1 | none => .stuck := (rfl)
@[simp] theorem tAndM_ap : tAndM p q env st = (p env st).bind fun c st1 => if c then q env st1 else .ok false st1 := (rfl)
@[simp] theorem tOrM_ap : tOrM p q env st = (p env st).bind fun c st1 => if c then .ok true st1 else q env st1 := (rfl)
@[simp] theorem tNotM_ap : tNotM p env st = (p env st).bind fun c st1 => .ok (!c) st1 := (rfl)
@[simp] theorem tYesM_ap : tYesM env st = .ok true st := (rfl)
@[simp] theorem eAndV_ap : eAndV ma mb env st = (ma env st).bind fun a st1 => (asB a st1).bind fun c st2 => if c then mb env st2 else .ok (.bl false) st2 := (rfl)
@[simp] theorem eOrV_ap : eOrV ma mb env st = (ma env st).bind fun a st1 => (asB a st1).bind fun c st2 => if c then .ok (.bl true) st2 else mb env st2 := (rfl)
@[simp] theorem eNotV_ap : eNotV ma env st = (ma env st).bind fun a st1 => (asB a st1).bind fun c st2 => .ok (.bl (!c)) st2 := (rfl)
@[simp] theorem eIf_ap : eIf p ma mb env st = (p env st).bind fun c st1 => if c then ma env st1 else mb env st1 := (rfl)
@[simp] theorem eSl_ap {mk : Bool} {ml mh : AEnv → Store → Res (Option Int)} : eSl mk ma ml mh env st = (ma env st).bind fun a st1 => (ml env st1).bind fun lo st2 => (mh env st2).bind fun hi st3 => Res.of (slOp mk a lo hi st3) := (rfl)
@[simp] theorem oNone_ap : oNone env st = .ok none st := (rfl)
@[simp] theorem oSome_ap : oSome ma env st = (ma env st).bind fun a st1 => match a with | .int i => .ok (some i) st1 | _ => .stuck := (rfl)
@[simp] theorem eIsiT_ap : eIsiT ma ms env st = (ma env st).bind fun a st1 => (ms env st1).bind fun cs st2 =>
  if cs.length ≤ sizeLine then Res.of ((tyName a st2).bind fun n => (isiTys n cs).map fun b => (.bl b, st2)) else .stuck := (rfl)
@[simp] theorem mSeq_ap : mSeq ma env st = (ma env st).bind fun a st1 => match seqR a st1 with | some xs => .ok (xs, srcOf a) st1 | none => .stuck := (rfl)
@[simp] theorem eLc_ap {mk : Bool} {mi : MI} {g : MG} {own : List Nat} : eLc mk mi g own p ma env st = (mi env st).bind fun r st1 =>
  (lcL r.2 r.1 g p ma (wipeA env own) r.1 [] st1).bind fun acc st2 => .ok (newL mk acc st2).1 (newL mk acc st2).2 := (rfl)
@[simp] theorem gN_ap : gN i a env = some (env.set i (some a)) := (rfl)
@[simp] theorem wipeA_nil : wipeA env [] = env := (rfl)
@[simp] theorem wipeA_cons {vs : List Nat} : wipeA env (i :: vs) = (wipeA env vs).set i none := (rfl)
variable {x y : MS} {g : MG}
@[simp] theorem sNil_ap : sNil env st = .nx env st := (rfl)
@[simp] theorem sSeq_ap : sSeq x y env st = (x env st).bind y := (rfl)
@[simp] theorem sAsg_ap : sAsg g ma env st = (ma env st).toS env fun a st1 => match g a env with | some env1 => .nx env1 st1 | none => .stuck := (rfl)
@[simp] theorem sEx_ap : sEx ma env st = (ma env st).toS env fun _ st1 => .nx env st1 := (rfl)
@[simp] theorem sRet_ap : sRet ma env st = (ma env st).toS env fun a st1 => .rt a st1 := (rfl)
@[simp] theorem sRetN_ap : sRetN env st = .rt .non st := (rfl)
@[simp] theorem sIf_ap : sIf p x y env st = (p env st).toS env fun c st1 => if c then x env st1 else y env st1 := (rfl)
@[simp] theorem sBk_ap : sBk env st = .bk env st := (rfl)
@[simp] theorem sCt_ap : sCt env st = .ct env st := (rfl)
@[simp] theorem sFor_ap {mi : MI} : sFor mi g x env st = (mi env st).toS env fun r st1 => forL r.2 r.1 g x r.1 env st1 := (rfl)
@[simp] theorem sAug_ap {op : Op2} : sAug i op ma env st = match env[i]? with
  | some (some a) => (ma env st).toS env fun b st1 => match op a b st1 with
    | some (c, st2) => .nx (env.set i (some c)) st2
    | none => .stuck
  | _ => .stuck := (rfl)
@[simp] theorem sSub_ap {op : A → A → A → Store → Option Store} : sSub op ma mb mc env st = (ma env st).toS env fun v st1 => (mb env st1).toS env fun o st2 => (mc env st2).toS env fun i st3 => match op o i v st3 with
  | some st4 => .nx env st4
  | none => .stuck := (rfl)
@[simp] theorem sSub2_ap {op : A → A → A → Store → Option Store} {mo1 mi1 mo2 mi2 : AEnv → Store → Res A} : sSub2 op ms mo1 mi1 mo2 mi2 env st = (ms env st).toS env fun as st1 => match as with
  | [v, w] => (mo1 env st1).toS env fun o1 st2 => (mi1 env st2).toS env fun i1 st3 => match op o1 i1 v st3 with
    | some st4 => (mo2 env st4).toS env fun o2 st5 => (mi2 env st5).toS env fun i2 st6 => match op o2 i2 w st6 with
      | some st7 => .nx env st7
      | none => .stuck
    | none => .stuck
  | _ => .stuck := (rfl)
@[simp] theorem sPar_ap : sPar i j ms env st = (ms env st).toS env fun as st1 => match as with
  | [a, b] => .nx ((env.set i (some a)).set j (some b)) st1
  | _ => .stuck := (rfl)
/-! operations upon what they fit -/
@[simp] theorem addOp_ii {mk : Bool} {m n : Int} : addOp mk (.int m) (.int n) st = some (.int (m + n), st) := (rfl)
@[simp] theorem subOp_ii {m n : Int} : subOp (.int m) (.int n) st = some (.int (m - n), st) := (rfl)
@[simp] theorem addI_ii {m n : Int} : addI (.int m) (.int n) st = some (.int (m + n), st) := (rfl)
@[simp] theorem negOp_i {m : Int} : negOp (.int m) st = some (.int (-m), st) := (rfl)
theorem mulOp_ii {mk : Bool} {m n : Int} (h : CMulW m n) : mulOp mk (.int m) (.int n) st = some (.int (m * n), st) := by
  simp [mulOp, mulI, iiOp, gd, h]
theorem modOp_ii {m n : Int} (h : n ≠ 0) : modOp (.int m) (.int n) st = some (.int (m.fmod n), st) := by
  simp [modOp, iiOp, gd, h]
theorem fdivOp_ii {m n : Int} (h : CDivN m n) : fdivOp (.int m) (.int n) st = some (.int (m.fdiv n), st) := by
  simp [fdivOp, fdivN, iiOp, gd, h]
theorem powOp_ii {m n : Int} (h : CPow m n) : powOp (.int m) (.int n) st = some (.int (m ^ n.toNat), st) := by
  simp [powOp, iiOp, gd, h]
@[simp] theorem ltOp_ii {m n : Int} : ltOp (.int m) (.int n) st = some (.bl (decide (m < n)), st) := (rfl)
@[simp] theorem leOp_ii {m n : Int} : leOp (.int m) (.int n) st = some (.bl (decide (m ≤ n)), st) := (rfl)
@[simp] theorem gtOp_ii {m n : Int} : gtOp (.int m) (.int n) st = some (.bl (decide (n < m)), st) := (rfl)
@[simp] theorem geOp_ii {m n : Int} : geOp (.int m) (.int n) st = some (.bl (decide (n ≤ m)), st) := (rfl)
@[simp] theorem eqOp_ii {m n : Int} : eqOp (.int m) (.int n) st = some (.bl (decide (m = n)), st) := (rfl)
@[simp] theorem neOp_ii {m n : Int} : neOp (.int m) (.int n) st = some (.bl (!decide (m = n)), st) := (rfl)
@[simp] theorem eqOp_ss {m n : Str} : eqOp (.str m) (.str n) st = some (.bl (decide (m = n)), st) := (rfl)
@[simp] theorem neOp_ss {m n : Str} : neOp (.str m) (.str n) st = some (.bl (!decide (m = n)), st) := (rfl)
@[simp] theorem absA_i {m : Int} : absA (.int m) st = some (.int (if m < 0 then -m else m), st) := (rfl)
@[simp] theorem intA_i {m : Int} : intA (.int m) st = some (.int m, st) := (rfl)
@[simp] theorem intA_b {k : Bool} : intA (.bl k) st = some (.int (if k then 1 else 0), st) := (rfl)
@[simp] theorem truA_b {k : Bool} : truA st (.bl k) = some k := (rfl)
@[simp] theorem truA_i {m : Int} : truA st (.int m) = some (m != 0) := (rfl)
variable {xs ys : List A}
@[simp] theorem seqR_lst : seqR (.lst xs) st = some xs := (rfl)
@[simp] theorem seqR_slst : seqR (.slst xs) st = some xs := (rfl)
@[simp] theorem seqR_tup : seqR (.tup xs) st = some xs := (rfl)
theorem seqR_cell {c : Nat} (h : st[c]? = some (.lst xs)) : seqR (.cell c) st = some xs := by simp [seqR, tupR, lstR, lstH, h]
@[simp] theorem srcOf_lst : srcOf (.lst xs) = none := (rfl)
@[simp] theorem srcOf_slst : srcOf (.slst xs) = none := (rfl)
@[simp] theorem srcOf_tup : srcOf (.tup xs) = none := (rfl)
@[simp] theorem truA_lst : truA st (.lst xs) = some (!xs.isEmpty) := (rfl)
@[simp] theorem truA_tup : truA st (.tup xs) = some (!xs.isEmpty) := (rfl)
@[simp] theorem lenA_lst : lenA (.lst xs) st = some (.int xs.length, st) := (rfl)
@[simp] theorem lenA_slst : lenA (.slst xs) st = some (.int xs.length, st) := (rfl)
@[simp] theorem lenA_tup : lenA (.tup xs) st = some (.int xs.length, st) := (rfl)
theorem lenA_cell {c : Nat} (h : st[c]? = some (.lst xs)) : lenA (.cell c) st = some (.int xs.length, st) := by simp [lenA, seqR_cell h]
@[simp] theorem listA_lst {mk : Bool} : listA mk (.lst xs) st = some (newL mk xs st) := (rfl)
@[simp] theorem listA_tup {mk : Bool} : listA mk (.tup xs) st = some (newL mk xs st) := (rfl)
@[simp] theorem listA_slst {mk : Bool} : listA mk (.slst xs) st = some (newL mk xs st) := (rfl)
theorem listA_cell {mk : Bool} {c : Nat} (h : st[c]? = some (.lst xs)) : listA mk (.cell c) st = some (newL mk xs st) := by simp [listA, seqR_cell h]
@[simp] theorem tupleA_lst : tupleA (.lst xs) st = some (.tup xs, st) := (rfl)
@[simp] theorem tupleA_tup : tupleA (.tup xs) st = some (.tup xs, st) := (rfl)
theorem tupleA_cell {c : Nat} (h : st[c]? = some (.lst xs)) : tupleA (.cell c) st = some (.tup xs, st) := by simp [tupleA, lstR, lstH, h]
theorem ixOp_at {a : A} {k : Int} {v : A} (h : seqR a st = some xs) (h2 : atI xs k = some v) : ixOp a (.int k) st = some (v, st) := by simp [ixOp, ixL, h, h2]
theorem atI_of {α : Type} {l : List α} {k : Int} {v : α} (h0 : 0 ≤ k) (h : l[k.toNat]? = some v) : atI l k = some v := by
  have : ((k.toNat : Nat) : Int) = k := Int.toNat_of_nonneg h0
  rw [← this]
  exact atI_nat h
/-! cells -/
@[simp] theorem get_app_len {c : C} {l : List C} {n : Nat} (h : n = st.length) : (st ++ c :: l)[n]? = some c := by subst h; simp
theorem cellL_ok' {c : Nat} (h : st[c]? = some (.lst xs)) : cellL (.cell c) st = some (c, xs) := by simp [cellL, h]
theorem tyVA_cell {c : Nat} (h : st[c]? = some (.lst xs)) : tyVA "list" (.cell c) st = true := by simp [tyVA, lstR, lstH, h]
theorem appendM_c {c : Nat} {v : A} (h : st[c]? = some (.lst xs)) (hl : xs.length < sizeLine) : appendM (.cell c) [v] st = some (.non, st.set c (.lst (xs ++ [v]))) := by simp [appendM, cellL_ok' h, hl]
theorem popM_c {c : Nat} {v : A} (h : st[c]? = some (.lst (xs ++ [v]))) : popM (.cell c) [] st = some (v, st.set c (.lst xs)) := by simp [popM, cellL_ok' h]
theorem popM_at {c : Nat} {k : Int} {v : A} (h : st[c]? = some (.lst xs)) (h0 : 0 ≤ k) (h1 : k < 2 ^ 63) (hv : xs[k.toNat]? = some v) : popM (.cell c) [.int k] st = some (v, st.set c (.lst (xs.eraseIdx k.toNat))) := by
  have hl : k.toNat < xs.length := (List.getElem?_eq_some_iff.mp hv).1
  have hi : seqIndex? k xs.length = some k.toNat := by
    unfold seqIndex?
    have h2 : ¬ k < 0 := by omega
    have h3 : k < xs.length := by omega
    simp [h2, h3, h0]
  simp only [popM, cellL_ok' h]
  rw [if_pos ⟨by omega, h1⟩, hi]
  simp [hv]
theorem reverseM_c {c : Nat} (h : st[c]? = some (.lst xs)) : reverseM (.cell c) [] st = some (.non, st.set c (.lst xs.reverse)) := by simp [reverseM, cellL_ok' h]
theorem setL_c {c : Nat} {k : Int} {v : A} (h : st[c]? = some (.lst xs)) (h0 : 0 ≤ k) (h1 : k < xs.length) : setL (.cell c) (.int k) v st = some (st.set c (.lst (xs.set k.toNat v))) := by
  simp [setL, cellL_ok' h, ixN, h0, h1]
/-! ranges -/
theorem mRng1_ap {m : Int} (h : (ms env st) = .ok [.int m] st) (h1 : -(2 ^ 62) ≤ m) (h2 : m < 2 ^ 62) : mRng1 ms env st = .ok (rgA 0 m, none) st := by
  simp only [mRng1, h, Res.bind_ok]; rw [if_pos ⟨h1, h2⟩]
theorem mRng2_ap {m n : Int} (h : (ms env st) = .ok [.int m, .int n] st) (h1 : -(2 ^ 62) ≤ m) (h2 : m < 2 ^ 62) (h3 : -(2 ^ 62) ≤ n) (h4 : n < 2 ^ 62) : mRng2 ms env st = .ok (rgA m n, none) st := by
  simp only [mRng2, h, Res.bind_ok]; rw [if_pos ⟨h1, h2, h3, h4⟩]
theorem rgA_nat (n : Nat) : rgA 0 (n : Int) = (List.range n).map fun i => A.int ((i : Nat) : Int) := by
  unfold rgA
  simp
theorem rgA_ints (n : Nat) : rgA 0 (n : Int) = ((List.range n).map fun i => ((i : Nat) : Int)).map A.int := by
  rw [rgA_nat, List.map_map]; rfl
/-! a def's end -/
theorem okS_same {st : Store} : okS st.length st st := fun _ _ => .inl rfl
theorem okS_app {l : List C} : okS st.length st (st ++ l) := fun i hi => .inl (List.getElem?_append_left hi)
theorem okS_set {c : Nat} {k : C} {l : List C} (h : k.bel st.length = true) : okS st.length st (st.set c k ++ l) := fun i hi => by
  rw [List.getElem?_append_left (by rw [List.length_set]; exact hi)]
  by_cases e : c = i
  · subst e; exact .inr ⟨k, by rw [List.getElem?_set_self hi], h⟩
  · exact .inl (List.getElem?_set_ne e)
@[simp] theorem bel_ints (n : Nat) (l : List Int) : belowL n (l.map A.int) = true := by
  induction l with
  | nil => rfl
  | cons x l ih => rw [List.map_cons, belowL, ih]; simp [A.bel]
/-- a value without cells goes out, nothing else changed -/
theorem finA_pure {rc : Bool} {a : A} {l : List C} (h : a.bel st.length = true) (hc : ∀ c, a ≠ .cell c) : finA rc st.length st a (st ++ l) = .ok a st := by
  have gen : (match frzA st.length 8 a (st ++ l) with | some (b, st1) => if b.bel st.length = true ∧ okS st.length st st1 then Res.ok b (st1.take st.length) else .stuck | none => .stuck : Res A) = .ok a st := by
    have e : frzA st.length 8 a (st ++ l) = some (a, st ++ l) := by unfold frzA; rw [if_pos h]
    rw [e]
    dsimp only
    rw [if_pos ⟨h, okS_app⟩]
    simp
  cases rc with
  | false => exact gen
  | true =>
    cases a with
    | cell c => exact absurd rfl (hc c)
    | _ => exact gen
/-- the same where the caller's cell c was written -/
theorem finA_set {rc : Bool} {a : A} {l : List C} {c : Nat} {k : C} (h : a.bel st.length = true) (hc : ∀ c, a ≠ .cell c) (hk : k.bel st.length = true) : finA rc st.length st a (st.set c k ++ l) = .ok a (st.set c k) := by
  have gen : (match frzA st.length 8 a (st.set c k ++ l) with | some (b, st1) => if b.bel st.length = true ∧ okS st.length st st1 then Res.ok b (st1.take st.length) else .stuck | none => .stuck : Res A) = .ok a (st.set c k) := by
    have e : frzA st.length 8 a (st.set c k ++ l) = some (a, st.set c k ++ l) := by unfold frzA; rw [if_pos h]
    rw [e]
    dsimp only
    rw [if_pos ⟨h, okS_set hk⟩]
    congr 1
    have : st.length = (st.set c k).length := by simp
    rw [this, List.take_left]
  cases rc with
  | false => exact gen
  | true =>
    cases a with
    | cell c => exact absurd rfl (hc c)
    | _ => exact gen
/-- a new list goes out as data -/
theorem finA_lst {l : List C} {n : Nat} {zs : List A} (hn : st.length ≤ n) (h : (st ++ l)[n]? = some (.lst zs)) (hb : belowL st.length zs = true) : finA false st.length st (.cell n) (st ++ l) = .ok (.lst zs) st := by
  have hnb : A.bel st.length (.cell n) = false := by simp [A.bel]; omega
  have e2 : ∀ (k : Nat) (ys : List A) (s : Store), belowL st.length ys = true → frzL (frzA st.length k) ys s = some (ys, s) := by
    intro k ys
    induction ys with
    | nil => intro s _; rfl
    | cons y ys ih =>
      intro s hb
      rw [belowL, Bool.and_eq_true] at hb
      unfold frzL
      have e : frzA st.length k y s = some (y, s) := by cases k <;> (unfold frzA; rw [if_pos hb.1])
      rw [e]
      dsimp only
      rw [ih s hb.2]
  have e : frzA st.length 8 (.cell n) (st ++ l) = some (.lst zs, (st ++ l).set n .dead) := by
    unfold frzA
    rw [if_neg (by rw [hnb]; decide)]
    dsimp only
    rw [h]
    dsimp only
    rw [e2 _ _ _ hb]
    rfl
  unfold finA
  dsimp only
  rw [e]
  dsimp only
  have hs : (st ++ l).set n .dead = st ++ l.set (n - st.length) .dead := by rw [List.set_append_right _ _ hn]
  rw [hs, if_pos ⟨by simp only [A.bel]; exact hb, okS_app⟩]
  simp
end
/-! ### loops -/
/-- by an invariant over the turns; the end is told by P -/
theorem forL_post {src : Option Nat} {all : List A} {g : MG} {body : MS} {P : SPost} (I : Nat → AEnv → Store → Prop) (hsrc : ∀ i e s, I i e s → srcOk src all s) : ∀ (xs : List A) (k : Nat) (env : AEnv) (st : Store), I k env st →
    (∀ i x e s, xs[i]? = some x → I (k + i) e s → ∃ e1, g x e = some e1 ∧ (body e1 s).post { nx := I (k + i + 1), ct := I (k + i + 1), bk := P.nx, rt := P.rt, ex := P.ex }) →
    (∀ e s, I (k + xs.length) e s → P.nx e s) → (forL src all g body xs env st).post P
  | [], k, env, st, h0, hs, hd => by
    rw [forL, if_pos (hsrc _ _ _ h0)]
    exact hd _ _ h0
  | x :: xs, k, env, st, h0, hs, hd => by
    rw [forL, if_pos (hsrc _ _ _ h0)]
    obtain ⟨e1, h1, h2⟩ := hs 0 x env st rfl h0
    rw [h1]
    dsimp only
    have ih := forL_post (g := g) (body := body) (P := P) I hsrc xs (k + 1)
    have hs' : ∀ i y e s, xs[i]? = some y → I (k + 1 + i) e s → ∃ e1, g y e = some e1 ∧ (body e1 s).post { nx := I (k + 1 + i + 1), ct := I (k + 1 + i + 1), bk := P.nx, rt := P.rt, ex := P.ex } := fun i y e s hy hi => by
      have := hs (i + 1) y e s (by rw [List.getElem?_cons_succ]; exact hy) (by rw [show k + (i + 1) = k + 1 + i by omega]; exact hi)
      rw [show k + (i + 1) + 1 = k + 1 + i + 1 by omega] at this
      exact this
    have hd' : ∀ e s, I (k + 1 + xs.length) e s → P.nx e s := fun e s h => hd e s (by rw [List.length_cons, show k + (xs.length + 1) = k + 1 + xs.length by omega]; exact h)
    cases eb : body e1 st with
    | nx e s => rw [eb] at h2; exact ih e s h2 hs' hd'
    | ct e s => rw [eb] at h2; exact ih e s h2 hs' hd'
    | bk e s => rw [eb] at h2; exact h2
    | rt a s => rw [eb] at h2; exact h2
    | exc x e s => rw [eb] at h2; exact h2
    | stuck => rw [eb] at h2; exact h2.elim
/-- a loop that runs through -/
theorem forL_inv {all : List A} {g : MG} {body : MS} {xs : List A} {env : AEnv} {st : Store} (I : Nat → AEnv → Store → Prop) (h0 : I 0 env st)
    (hs : ∀ i x e s, xs[i]? = some x → I i e s → ∃ e1, g x e = some e1 ∧ ∃ e2 s2, (body e1 s = .nx e2 s2 ∨ body e1 s = .ct e2 s2) ∧ I (i + 1) e2 s2) : ∃ e s, forL none all g body xs env st = .nx e s ∧ I xs.length e s := by
  have h := forL_post (src := none) (all := all) (g := g) (body := body) (P := ⟨fun e s => I xs.length e s, fun _ _ => False, fun _ _ => False, fun _ _ => False, fun _ _ _ => False⟩) I (fun _ _ _ _ => trivial) xs 0 env st h0
    (fun i x e s hx hi => by
      rw [Nat.zero_add] at hi ⊢
      obtain ⟨e1, h1, e2, s2, h2, h3⟩ := hs i x e s hx hi
      refine ⟨e1, h1, ?_⟩
      rcases h2 with h2 | h2 <;> rw [h2] <;> exact h3)
    (fun e s h => by rw [Nat.zero_add] at h; exact h)
  cases e : forL none all g body xs env st with
  | nx e' s => rw [e] at h; exact ⟨e', s, rfl, h⟩
  | ct e' s => rw [e] at h; exact h.elim
  | bk e' s => rw [e] at h; exact h.elim
  | rt a s => rw [e] at h; exact h.elim
  | exc x e' s => rw [e] at h; exact h.elim
  | stuck => rw [e] at h; exact h.elim
/-- a comprehension that maps -/
theorem lcL_map {all : List A} {g : MG} {me : AEnv → Store → Res A} {mt : AEnv → Store → Res Bool} {env0 : AEnv} {st : Store} (t : A → Bool) (f : A → A) : ∀ (xs acc : List A), (∀ x ∈ xs, ∃ e1, g x env0 = some e1 ∧ mt e1 st = .ok (t x) st ∧ (t x = true → me e1 st = .ok (f x) st)) →
    acc.length + xs.length ≤ sizeLine → lcL none all g mt me env0 xs acc st = .ok (acc ++ (xs.filter t).map f) st
  | [], acc, _, _ => by rw [lcL, if_pos (show srcOk none all st from trivial)]; simp
  | x :: xs, acc, h, hl => by
    rw [lcL, if_pos (show srcOk none all st from trivial)]
    obtain ⟨e1, h1, h2, h3⟩ := h x (by simp)
    rw [h1]
    dsimp only
    rw [h2]
    simp only [noX_ok, Res.bind_ok]
    rw [List.length_cons] at hl
    cases ht : t x with
    | true =>
      rw [if_pos rfl, h3 ht]
      simp only [noX_ok, Res.bind_ok]
      rw [if_pos (by omega), lcL_map t f xs (acc ++ [f x]) (fun y hy => h y (by simp [hy])) (by simp; omega)]
      simp [ht]
    | false =>
      rw [if_neg Bool.false_ne_true, lcL_map t f xs acc (fun y hy => h y (by simp [hy])) (by omega)]
      simp [ht]
/-- a while, by a measure -/
theorem whL_inv {p : AEnv → Store → Res Bool} {body : MS} {P : SPost} (I : Nat → AEnv → Store → Prop)
    (hs : ∀ m e s, I m e s → ∃ c, p e s = .ok c s ∧ (c = true → ∃ n, m = n + 1 ∧ (body e s).post { nx := I n, ct := I n, bk := P.nx, rt := P.rt, ex := P.ex }) ∧ (c = false → P.nx e s)) : ∀ (k m : Nat) (env : AEnv) (st : Store), m < k → I m env st → (whL p body k env st).post P
  | 0, m, _, _, h, _ => absurd h (Nat.not_lt_zero _)
  | k + 1, m, env, st, h, h0 => by
    rw [whL]
    obtain ⟨c, h1, h2, h3⟩ := hs m env st h0
    rw [h1]
    simp only [Res.toS_ok]
    cases c with
    | false => rw [if_neg Bool.false_ne_true]; exact h3 rfl
    | true =>
      rw [if_pos rfl]
      obtain ⟨n, rfl, h4⟩ := h2 rfl
      cases eb : body env st with
      | nx e s => rw [eb] at h4; exact whL_inv I hs k n e s (by omega) h4
      | ct e s => rw [eb] at h4; exact whL_inv I hs k n e s (by omega) h4
      | bk e s => rw [eb] at h4; exact h4
      | rt a s => rw [eb] at h4; exact h4
      | exc x e s => rw [eb] at h4; exact h4
      | stuck => rw [eb] at h4; exact h4.elim
end SL
namespace SL
open PySem PySem.Spec L2
open PyProof.Rows hiding St
/-- it goes on to the next turn -/
def NxP (r : SRes) (P : AEnv → Store → Prop) : Prop := match r with
  | .nx e s => P e s
  | .ct e s => P e s
  | _ => False
@[simp] theorem NxP_nx {e : AEnv} {s : Store} {P : AEnv → Store → Prop} : NxP (.nx e s) P = P e s := (rfl)
@[simp] theorem NxP_ct {e : AEnv} {s : Store} {P : AEnv → Store → Prop} : NxP (.ct e s) P = P e s := (rfl)
theorem NxP.of {r : SRes} {P : AEnv → Store → Prop} (h : NxP r P) : ∃ e s, (r = .nx e s ∨ r = .ct e s) ∧ P e s := by
  cases r with
  | nx e s => exact ⟨e, s, .inl rfl, h⟩
  | ct e s => exact ⟨e, s, .inr rfl, h⟩
  | _ => exact h.elim
/-- a loop that runs through -/
theorem for_inv {all : List A} {g : MG} {body : MS} {xs : List A} {env : AEnv} {st : Store} (I : Nat → AEnv → Store → Prop) (h0 : I 0 env st)
    (hs : ∀ i x e s, xs[i]? = some x → I i e s → ∃ e1, g x e = some e1 ∧ NxP (body e1 s) (I (i + 1))) : ∃ e s, forL none all g body xs env st = .nx e s ∧ I xs.length e s :=
  forL_inv I h0 fun i x e s hx hi => by
    obtain ⟨e1, h1, h2⟩ := hs i x e s hx hi
    obtain ⟨e2, s2, h3, h4⟩ := h2.of
    exact ⟨e1, h1, e2, s2, h3, h4⟩
end SL
namespace SL
open PySem PySem.Spec L2
open PyProof.Rows hiding St
/-- one new cell goes out -/
theorem finA_cell {st : Store} {l : List C} {n : Nat} {c : C} (hn : st.length ≤ n) (h : (st ++ l)[n]? = some c) (hl : c.live = true) (hb : c.bel st.length = true) : finA true st.length st (.cell n) (st ++ l) = .ok (.cell st.length) (st ++ [c]) := by
  unfold finA
  dsimp only
  rw [if_pos hn, h]
  dsimp only
  rw [if_pos ⟨hl, hb, okS_app⟩]
  simp
/-- a def's call, by its body -/
theorem fnM_rt {rc : Bool} {np ns : Nat} {body : MS} {as : List A} {st st' : Store} {a b : A} {s : Store} (hl : as.length = np) (hb : body (as.map some ++ List.replicate (ns - np) none) st = .rt a st') (hf : finA rc st.length st a st' = .ok b s) : fnM rc np ns body as st = .ok b s := by
  unfold fnM
  rw [if_pos hl, hb]
  exact hf
theorem fnM_nx {rc : Bool} {np ns : Nat} {body : MS} {as : List A} {st st' : Store} {e : AEnv} {b : A} {s : Store} (hl : as.length = np) (hb : body (as.map some ++ List.replicate (ns - np) none) st = .nx e st') (hf : finA false st.length st .non st' = .ok b s) : fnM rc np ns body as st = .ok b s := by
  unfold fnM
  rw [if_pos hl, hb]
  exact hf
end SL

set_option Elab.async false
set_option linter.all false
set_option maxRecDepth 100000
set_option maxHeartbeats 4000000
/-! SLn: lists of numbers; equal data. -/
namespace SL
open PySem PySem.Spec L2
open PyProof.Rows hiding St
abbrev ti (l : List Int) : A := .tup (l.map A.int)
abbrev lI (l : List Int) : A := .lst (l.map A.int)
theorem rgA_intsG (a b : Int) : rgA a b = ((List.range (b - a).toNat).map fun i => a + ((i : Nat) : Int)).map A.int := by
  unfold rgA; rw [List.map_map]; rfl
theorem get_getD {l : List Int} {k : Nat} (h : k < l.length) : (l.map A.int)[k]? = some (.int (l.getD k 0)) := by
  rw [List.getElem?_map, List.getElem?_eq_getElem h, List.getD_eq_getElem?_getD, List.getElem?_eq_getElem h]; rfl
theorem ix_ints {st : Store} {a : A} {l : List Int} {k : Int} (h : seqR a st = some (l.map A.int)) (h0 : 0 ≤ k) (h1 : k < l.length) : ixOp a (.int k) st = some (.int (l.getD k.toNat 0), st) :=
  ixOp_at h (atI_of h0 (get_getD (by omega)))
theorem ix_ti {st : Store} {l : List Int} {k : Int} (h0 : 0 ≤ k) (h1 : k < l.length) : ixOp (.tup (l.map A.int)) (.int k) st = some (.int (l.getD k.toNat 0), st) := ix_ints rfl h0 h1
theorem ix_lI {st : Store} {l : List Int} {k : Int} (h0 : 0 ≤ k) (h1 : k < l.length) : ixOp (.lst (l.map A.int)) (.int k) st = some (.int (l.getD k.toNat 0), st) := ix_ints rfl h0 h1
theorem ix_li {st : Store} {c : Nat} {l : List Int} {k : Int} (h : st[c]? = some (.lst (l.map A.int))) (h0 : 0 ≤ k) (h1 : k < l.length) : ixOp (.cell c) (.int k) st = some (.int (l.getD k.toNat 0), st) := ix_ints (seqR_cell h) h0 h1
theorem appendM_li {st : Store} {c : Nat} {l : List Int} {v : Int} (h : st[c]? = some (.lst (l.map A.int))) (hl : l.length < sizeLine) : appendM (.cell c) [.int v] st = some (.non, st.set c (.lst ((l ++ [v]).map A.int))) := by
  rw [appendM_c h (by simpa using hl)]; simp
theorem setL_li {st : Store} {c : Nat} {l : List Int} {k v : Int} (h : st[c]? = some (.lst (l.map A.int))) (h0 : 0 ≤ k) (h1 : k < l.length) : setL (.cell c) (.int k) (.int v) st = some (st.set c (.lst ((l.set k.toNat v).map A.int))) := by
  rw [setL_c h h0 (by simpa using h1)]; simp
theorem eraseIdx_mapA : ∀ (l : List Int) (k : Nat), (l.map A.int).eraseIdx k = (l.eraseIdx k).map A.int
  | [], _ => by simp
  | x :: l, 0 => by simp
  | x :: l, k + 1 => by simp [eraseIdx_mapA l k]
theorem popM_li {st : Store} {c : Nat} {k : Int} {l : List Int} (h : st[c]? = some (.lst (l.map A.int))) (h0 : 0 ≤ k) (h1 : k < l.length) (h2 : l.length < 2 ^ 62) : popM (.cell c) [.int k] st = some (.int (l.getD k.toNat 0), st.set c (.lst ((l.eraseIdx k.toNat).map A.int))) := by
  rw [popM_at h h0 (by omega) (get_getD (l := l) (by omega)), eraseIdx_mapA]
/-! data without cells -/
theorem belowL_all {n : Nat} : ∀ {xs : List A}, (∀ x ∈ xs, x.bel n = true) → belowL n xs = true
  | [], _ => by simp [belowL]
  | x :: xs, h => by rw [belowL, h x (by simp), belowL_all fun y hy => h y (by simp [hy])]; rfl
theorem bel_int {n : Nat} {i : Int} : (A.int i).bel n = true := by simp [A.bel]
theorem bel_tup {n : Nat} {xs : List A} (h : ∀ x ∈ xs, x.bel n = true) : (A.tup xs).bel n = true := by simp only [A.bel]; exact belowL_all h
theorem bel_lst {n : Nat} {xs : List A} (h : ∀ x ∈ xs, x.bel n = true) : (A.lst xs).bel n = true := by simp only [A.bel]; exact belowL_all h
theorem bel_ti {n : Nat} {l : List Int} : (A.tup (l.map A.int)).bel n = true := by simp only [A.bel]; exact bel_ints n l
theorem bel_lI {n : Nat} {l : List Int} : (A.lst (l.map A.int)).bel n = true := by simp only [A.bel]; exact bel_ints n l
theorem fin_ti {rc : Bool} {st : Store} {l : List C} {p : List Int} : finA rc st.length st (ti p) (st ++ l) = .ok (ti p) st := finA_pure bel_ti (by intro c h; cases h)
theorem fin_ti0 {rc : Bool} {st : Store} {p : List Int} : finA rc st.length st (ti p) st = .ok (ti p) st := by
  have := fin_ti (rc := rc) (st := st) (l := []) (p := p); simpa using this
theorem fin_lI {rc : Bool} {st : Store} {l : List C} {p : List Int} : finA rc st.length st (lI p) (st ++ l) = .ok (lI p) st := finA_pure bel_lI (by intro c h; cases h)
theorem fin_lI0 {rc : Bool} {st : Store} {p : List Int} : finA rc st.length st (lI p) st = .ok (lI p) st := by
  have := fin_lI (rc := rc) (st := st) (l := []) (p := p); simpa using this
theorem fin_pure0 {rc : Bool} {st : Store} {a : A} (h : a.bel st.length = true) (hc : ∀ c, a ≠ .cell c) : finA rc st.length st a st = .ok a st := by
  have := finA_pure (rc := rc) (st := st) (l := []) h hc; simpa using this
theorem fin_int0 {rc : Bool} {st : Store} {i : Int} : finA rc st.length st (.int i) st = .ok (.int i) st := fin_pure0 bel_int (by intro c h; cases h)
theorem fin_bl0 {rc : Bool} {st : Store} {i : Bool} : finA rc st.length st (.bl i) st = .ok (.bl i) st := fin_pure0 (by simp [A.bel]) (by intro c h; cases h)
theorem fin_lIc {st : Store} {l : List C} {n : Nat} {zs : List Int} (hn : st.length ≤ n) (h : (st ++ l)[n]? = some (.lst (zs.map A.int))) : finA false st.length st (.cell n) (st ++ l) = .ok (lI zs) st := finA_lst hn h (bel_ints _ _)
/-! equal data -/
/-- data, at most so deep -/
def Dt (st : Store) (n : Nat) (a : A) : Prop := ∃ d, toD st n a = some d ∧ d.canLay0 = true ∧ d.depth ≤ n + 1
theorem dt_int {st : Store} {n : Nat} {i : Int} : Dt st n (.int i) := ⟨.int i, by cases n <;> rfl, rfl, by simp [PyData.depth]⟩
theorem dt_bl {st : Store} {n : Nat} {i : Bool} : Dt st n (.bl i) := ⟨.bool i, by cases n <;> rfl, rfl, by simp [PyData.depth]⟩
theorem dt_non {st : Store} {n : Nat} : Dt st n .non := ⟨.none, by cases n <;> rfl, rfl, by simp [PyData.depth]⟩
theorem dt_str {st : Store} {n : Nat} {x : Str} (h : PyData.canLay0 (.str x) = true) : Dt st n (.str x) := ⟨.str x, by cases n <;> rfl, h, by simp [PyData.depth]⟩
theorem dt_all {st : Store} {n : Nat} : ∀ {xs : List A}, (∀ x ∈ xs, Dt st n x) → ∃ ds, optAll (toD st n) xs = some ds ∧ PyData.canLayAll0 ds = true ∧ PyData.depthAll ds ≤ n + 1
  | [], _ => ⟨[], rfl, rfl, by simp [PyData.depthAll]⟩
  | x :: xs, h => by
    obtain ⟨d, h1, h2, h3⟩ := h x (by simp)
    obtain ⟨ds, h4, h5, h6⟩ := dt_all (xs := xs) fun y hy => h y (by simp [hy])
    exact ⟨d :: ds, by rw [optAll, h1, h4], by simp [PyData.canLayAll0, h2, h5], by simp only [PyData.depthAll]; omega⟩
theorem dt_lst {st : Store} {n : Nat} {xs : List A} (h : ∀ x ∈ xs, Dt st n x) : Dt st (n + 1) (.lst xs) := by
  obtain ⟨ds, h4, h5, h6⟩ := dt_all h
  exact ⟨.list ds, by rw [toD, h4]; rfl, by simpa [PyData.canLay0] using h5, by simp only [PyData.depth]; omega⟩
theorem dt_tup {st : Store} {n : Nat} {xs : List A} (h : ∀ x ∈ xs, Dt st n x) : Dt st (n + 1) (.tup xs) := by
  obtain ⟨ds, h4, h5, h6⟩ := dt_all h
  exact ⟨.tuple ds, by rw [toD, h4]; rfl, by simpa [PyData.canLay0] using h5, by simp only [PyData.depth]; omega⟩
theorem neOp_same {st : Store} {a : A} (h : Dt st 50 a) : neOp a a st = some (.bl false, st) := by
  obtain ⟨d, h1, h2, h3⟩ := h
  have hs : SeqAt.shaped d = true := by
    show (d.canLay0 && decide (d.depth ≤ 64)) = true
    rw [h2, decide_eq_true (by omega)]; rfl
  have e : eqD true a a st = some (.bl false, st) := by
    have hr : PyData.eqv d d = true := by first | exact PySem.SeqAt.eqv_refl d h2 | exact PySem.eqv_refl d h2 | exact PyProof.P3.eqv_refl d h2
    unfold eqD; rw [h1]; dsimp only; rw [if_pos ⟨hs, hs⟩, hr]; rfl
  unfold neOp
  rw [e]
  cases a <;> simp [eqSc]
theorem eqOp_same {st : Store} {a : A} (h : Dt st 50 a) : eqOp a a st = some (.bl true, st) := by
  obtain ⟨d, h1, h2, h3⟩ := h
  have hs : SeqAt.shaped d = true := by
    show (d.canLay0 && decide (d.depth ≤ 64)) = true
    rw [h2, decide_eq_true (by omega)]; rfl
  have e : eqD false a a st = some (.bl true, st) := by
    have hr : PyData.eqv d d = true := by first | exact PySem.SeqAt.eqv_refl d h2 | exact PySem.eqv_refl d h2 | exact PyProof.P3.eqv_refl d h2
    unfold eqD; rw [h1]; dsimp only; rw [if_pos ⟨hs, hs⟩, hr]; rfl
  unfold eqOp
  rw [e]
  cases a <;> simp [eqSc]
theorem dt_ti {st : Store} {n : Nat} {l : List Int} : Dt st (n + 1) (.tup (l.map A.int)) := dt_tup fun x hx => by
  obtain ⟨i, _, rfl⟩ := List.mem_map.mp hx; exact dt_int
theorem dt_lI {st : Store} {n : Nat} {l : List Int} : Dt st (n + 1) (.lst (l.map A.int)) := dt_lst fun x hx => by
  obtain ⟨i, _, rfl⟩ := List.mem_map.mp hx; exact dt_int
theorem neOp_ti {st : Store} {l : List Int} : neOp (.tup (l.map A.int)) (.tup (l.map A.int)) st = some (.bl false, st) := neOp_same dt_ti
theorem filT {α : Type} : ∀ l : List α, l.filter (fun _ => true) = l
  | [] => rfl
  | x :: l => by rw [List.filter_cons, filT l]; rfl
/-- a comprehension over numbers that maps and keeps the store -/
theorem eLc_ints {mi : MI} {i : Nat} {own : List Nat} {p : AEnv → Store → Res Bool} {ma : AEnv → Store → Res A} {env : AEnv} {st : Store} {mk : Bool} {xs : List Int} (t : Int → Bool) (f : Int → Int) (hmi : mi env st = .ok (xs.map A.int, none) st) (hl : xs.length ≤ sizeLine)
    (h : ∀ x ∈ xs, p ((wipeA env own).set i (some (.int x))) st = .ok (t x) st ∧ (t x = true → ma ((wipeA env own).set i (some (.int x))) st = .ok (.int (f x)) st)) :
    eLc mk mi (gN i) own p ma env st = .ok (newL mk (((xs.filter t).map f).map A.int) st).1 (newL mk (((xs.filter t).map f).map A.int) st).2 := by
  rw [eLc_ap, hmi]
  simp only [Res.bind_ok]
  have := lcL_map (all := xs.map A.int) (g := gN i) (me := ma) (mt := p) (env0 := wipeA env own) (st := st) (fun a => match a with | .int x => t x | _ => false) (fun a => match a with | .int x => .int (f x) | a => a) (xs.map A.int) [] (fun a ha => by
    obtain ⟨x, hx, rfl⟩ := List.mem_map.mp ha
    obtain ⟨h1, h2⟩ := h x hx
    exact ⟨_, rfl, h1, h2⟩) (by simpa using hl)
  rw [this]
  simp only [Res.bind_ok, List.nil_append, List.filter_map, List.map_map]
  rfl
end SL

set_option Elab.async false
set_option linter.all false
set_option maxRecDepth 100000
set_option maxHeartbeats 4000000
/-! SLp: own exceptions: raised, caught. -/
namespace SL
open PySem PySem.Spec L2
open PyProof.Rows hiding St
/-! ### an expression that makes an exception -/
structure SMk (Γ : G) (e : Expr) (m : AEnv → Store → Res Exc) : Prop where
  run : ∀ W : WX, ∃ t : L2.St → Hp → XK → Prop, (∀ (Z F : Hp) (μ : List Addr) (st : Store) (env : AEnv) (σ : L2.St) (H : Hp) (Q : XK), Good Γ.K Z F μ st H → REnv Γ.K F μ env σ →
      (m env st).post (fun x st1 => ∀ F' μ' H' d, Ext F F' μ μ' → Good Γ.K Z F' μ' st1 H' → XRep Γ.K F' μ' x d → Q (.ref (He.ga Γ.K x.c)) d H') (KX Γ.K Z F μ σ W) → t σ H Q) ∧
    ∀ X, CtxOk Γ X → Takes X W → PMk X e t
def sRaise (m : AEnv → Store → Res Exc) : MS := fun env st => (m env st).toS env fun x st1 => .exc x env st1
theorem st_raise {Γ : G} {fo : Str → Bool} {e : Expr} {m : AEnv → Store → Res Exc} {pos : Pos} (h : SMk Γ e m) (cm : Γ.calm = true := by rfl) : SS Γ fo (.Raise (some e) none pos) (sRaise m) :=
  ⟨fun W => by
    obtain ⟨t, h1, h2⟩ := h.run W
    refine ⟨fun _ σ H => t σ H fun cls d H' => W cls d σ H', fun Z F μ st env σ H D g re hp => ?_, fun X c hf k => ps_raise (c.calm cm) k (h2 X c k)⟩
    unfold sRaise at hp
    rw [Res.post_toS] at hp
    refine h1 Z F μ st env σ H _ g re (Res.post_mono hp (fun x st1 q => ?_) fun x st1 q => ?_)
    · intro F' μ' H' d e' g' xr
      exact (show KXS Γ.K Z F μ W x env st1 from q) F' μ' H' σ d e' g' (re.mono e') xr
    · intro F' μ' H' d e' g' xr
      exact (show KXS Γ.K Z F μ W x env st1 from q) F' μ' H' σ d e' g' (re.mono e') xr⟩
/-! ### a class over KnotError, its __init__: Base.__init__(self, lit + what); self.what = what -/
/-- what the written part says of the base class -/
structure KBase (K : PySem.W.Frag) (B : Addr) : Prop where
  ga : PySem.W.specialIn K (.ref B) "__getattribute__" = some (some (.builtin "type.__getattribute__"))
  ty : PySem.W.typeIn K (.ref B) = some (.type "type")
  rd : PySem.W.readsIn K B (.type "type") = true
  fi : PySem.W.findCls K (.ref B) (.type "type") "__init__" = some (.val (.builtin "ValueError.__init__"))
def kBaseB (K : PySem.W.Frag) (B : Addr) : Bool := decide (PySem.W.specialIn K (.ref B) "__getattribute__" = some (some (.builtin "type.__getattribute__"))) && (decide (PySem.W.typeIn K (.ref B) = some (.type "type")) && (PySem.W.readsIn K B (.type "type") && (match PySem.W.findCls K (.ref B) (.type "type") "__init__" with
  | some (.val (.builtin x)) => decide (x = "ValueError.__init__")
  | _ => false)))
theorem kBaseB_ok {K : PySem.W.Frag} {B : Addr} (h : kBaseB K B = true) : KBase K B := by
  unfold kBaseB at h
  obtain ⟨h1, h⟩ := Bool.and_eq_true_iff.mp h
  obtain ⟨h2, h⟩ := Bool.and_eq_true_iff.mp h
  obtain ⟨h3, h4⟩ := Bool.and_eq_true_iff.mp h
  refine ⟨of_decide_eq_true h1, of_decide_eq_true h2, h3, ?_⟩
  split at h4
  · rename_i x e
    rw [e, of_decide_eq_true h4]
  · cases h4
section
variable {X : Cx} {e : Expr} {es : List Expr} {ta : TA} {B : Addr} {x : Str} {p1 p2 pos : Pos}
/-- Base.__init__(self, ..), Base an own class over ValueError -/
theorem pe_kinit {pl : Sem Bool} (hg : Gl X x) (hm : X.mg x = some (.ref B)) (kb : KBase X.K B) (ha : PA X (e :: es) ta) (hdb : (x == ("__debug__" : Str)) = false := by decide)
    (hc : eval (.Call (.Attribute (.Name x p1) "__init__" p2) (e :: es) [] pos) X.env = (do
      let ov ← eval (.Name x p1) X.env
      standAt p2.atName
      let (f, first) ← holding [ov] (getMethod ov "__init__" pl)
      callWith pos f first (backTo pos (starEach (e :: es) X.env)) (backToKw pos (keywordEach [] X.env))) := by rfl)
    (he : starEach (e :: es) X.env = (false, eval e X.env) :: starEach es X.env := by rfl) (hpl : (backTo pos (starEach es X.env)).any (·.1) = false := by rfl) :
    PE X (.Call (.Attribute (.Name x p1) "__init__" p2) (e :: es) [] pos) (tVeI X.K ta) := by
  refine ⟨fun pins s σ H Q I h => PySem.W.methodCall_KW (ld_glob I hg hm ?_ hdb) hc⟩
  obtain ⟨m, fr⟩ := I.fr
  refine PySem.W.method_of_cls fr I.ok.mod.kin kb.ga (PySem.W.cls_val fr I.ok.mod.kin kb.ty kb.rd kb.fi (by decide +kernel) ?_)
  refine PyProof.Rows.callWith_method1 (thn (ha.run pos pins _ σ H _ (I.tok _) h) fun us s1 hh => ?_) he hpl
  obtain ⟨vs, H1, I1, r1, a, C, ws, ev, hl, T, ea, q⟩ := hh
  subst ev
  cases r1 with
  | @cons _ u0 _ ur ra rw' =>
    obtain rfl : u0 = Value.ref a := ra
    refine oinit_ok T I1 ea ?_ fun s' J => ⟨.non, H1, J, rfl, q⟩
    have := Paired.length rw'
    rw [sizeLine_eq]
    omega
end
/-- the promise of such an __init__ -/
def spW (K : PySem.W.Frag) (C : Addr) : Sp := fun vs H Q _ => ∃ (a : Addr) (s : Str), vs = [.ref a, .str s] ∧ s.length < 1000 ∧ H a = some (exo a C none) ∧
  ∀ dx, H dx = none → dx ≠ a → Q .non (upd (upd H dx (exd dx [("what", .str s)])) a (exo a C (some dx)))
/-- such a class -/
structure KExc (P : Program) (w : World) (K : PySem.W.Frag) (mg : Str → Option Value) (base : Heap) (C : Addr) : Prop where
  oex : OexC K C
  nw : PySem.W.findIn K (.ref C) "what" = some none
  fi : ∃ fI fd, PySem.W.findIn K (.ref C) "__init__" = some (some (.ref fI)) ∧ PySem.W.typeIn K (.ref fI) = some (.type "function") ∧ FnOk P w K mg base (L2.CX P w) 1 fI fd ["self", "what"] (spW K C) ∧ Binds K fd ["self", "what"] []
abbrev kinitBody (bn lit : Str) (p1 p2 p3 p4 p5 p6 p7 p8 p9 p10 p11 p12 : Pos) (j : Nat) : List Stmt :=
  [.Expr (.Call (.Attribute (.Name bn p1) "__init__" p2) [.Name "self" p3, .BinOp (.Constant (.str lit) j p4) .Add (.Name "what" p5) p6] [] p7) p8,
   .Assign [.Attribute (.Name "self" p9) "what" p10] (.Name "what" p11) p12]
theorem kexc_of {P : Program} {w : World} {K : PySem.W.Frag} {mg : Str → Option Value} {base : Heap} {C B fI : Addr} {fd : FuncData} {qual bn lit : Str} {params : Arguments} {scope : Scope} {p1 p2 p3 p4 p5 p6 p7 p8 p9 p10 p11 p12 : Pos} {j : Nat} {pl : Env → Sem Bool}
    (F : FunD K "__init__" qual params (kinitBody bn lit p1 p2 p3 p4 p5 p6 p7 p8 p9 p10 p11 p12 j) scope [] [] fI fd) (S : FnScope ["self", "what"] ["self", "what"] scope) (hB : Binds K fd ["self", "what"] [])
    (oex : OexC K C) (nw : PySem.W.findIn K (.ref C) "what" = some none) (fi : PySem.W.findIn K (.ref C) "__init__" = some (some (.ref fI))) (ft : PySem.W.typeIn K (.ref fI) = some (.type "function"))
    (kb : KBase K B) (hm : mg bn = some (.ref B)) (hg : scope.names.lookup bn = some .globalImplicit) (vs : Vis scope "self") (vw : Vis scope "what") (hlit : lit.length < 1000)
    (hdb : (bn == ("__debug__" : Str)) = false)
    (hc : ∀ env, eval (.Call (.Attribute (.Name bn p1) "__init__" p2) [.Name "self" p3, .BinOp (.Constant (.str lit) j p4) .Add (.Name "what" p5) p6] [] p7) env = (do
      let ov ← eval (.Name bn p1) env
      standAt p2.atName
      let (f, first) ← holding [ov] (getMethod ov "__init__" (pl env))
      callWith p7 f first (backTo p7 (starEach [.Name "self" p3, .BinOp (.Constant (.str lit) j p4) .Add (.Name "what" p5) p6] env)) (backToKw p7 (keywordEach [] env))) := by intro _; rfl) : KExc P w K mg base C where
  oex := oex
  nw := nw
  fi := by
    refine ⟨fI, fd, fi, ft, F.ok S (fun vs H Q E hs => ?_) (fun cdv A outer s H vs' Q E hr hs => ?_), hB⟩
    · obtain ⟨a, s, rfl, _⟩ := hs; rfl
    · obtain ⟨a, s, rfl, hsl, ha, hq⟩ := hs
      refine ⟨_, pss_cons (ps_expr (pe_kinit (pl := pl _) hg hm kb (pa_cons (pv 0 rfl vs) (pa_cons (pe_op op_add_str pe_str (pv 1 rfl vw)) pa_nil)) hdb (hc _))) (pss_one (ps_ost (pv 0 rfl vs) (pv 1 rfl vw))), ?_⟩
      refine ⟨.ref a, rfl, .str s, rfl, lit, s, rfl, rfl, by rw [sizeLine_eq]; omega, a, C, [.str (lit ++ s)], rfl, by simp, oex, ha, .str s, rfl, .ref a, rfl, a, C, rfl, oex, nw, .inl ⟨ha, hq⟩⟩
section
variable {Γ : G} {e : Expr} {es : List Expr} {m : AEnv → Store → Res A} {pos p : Pos}
/-- C(what) -/
def mkWhat (c : Str) (m : AEnv → Store → Res A) : AEnv → Store → Res Exc := fun env st => (m env st).bind fun a st1 => match a with
  | .str s => if s.length < 1000 then .ok ⟨c, ["what"], [.str s]⟩ st1 else .stuck
  | _ => .stuck
theorem mk_what {x : Str} (ke : KExc Γ.P Γ.w Γ.K Γ.mg Γ.base (He.ga Γ.K x)) (hg : Γ.sc.names.lookup x = some .globalImplicit) (hm : Γ.mg x = some (.ref (He.ga Γ.K x))) (ha : SE Γ e m) (hk : 2 ≤ Γ.k) (hdb : (x == ("__debug__" : Str)) = false := by decide)
    (he : ∀ env, starEach [e] env = (false, eval e env) :: starEach [] env := by intro _; rfl) (hpl : ∀ env, (backTo pos (starEach [] env)).any (·.1) = false := by intro _; rfl) (cm : Γ.calm = true := by rfl) :
    SMk Γ (.Call (.Name x p) [e] [] pos) (mkWhat x m) :=
  ⟨fun W => by
    obtain ⟨t, h1, h2⟩ := ha.run W
    obtain ⟨fI, fd, f1, f2, f3, f4⟩ := ke.fi
    refine ⟨tMkO (He.ga Γ.K x) (spW Γ.K (He.ga Γ.K x)) [] (tCons t tNil), fun Z F μ st env σ H Q g re hp => ?_, fun X c tk => ?_⟩
    · unfold mkWhat at hp
      rw [Res.post_bind] at hp
      refine h1 Z F μ st env σ H _ g re (Res.post_mono hp (fun a st1 q => ?_) fun _ _ q => q)
      intro F1 μ1 H1 v e1 g1 ra
      cases a with
      | str s =>
        cases ra
        dsimp only at q
        by_cases hl : s.length < 1000
        · rw [if_pos hl] at q
          refine ⟨by simp, fun a hna => ⟨a, s, rfl, hl, upd_same, fun dx hdx hda => ?_⟩⟩
          refine ⟨rfl, dx, [("what", .str s)], upd_same, ?_, ?_, ?_⟩
          · rw [upd_ne hda, upd_same]
          · rw [upd_ne hda] at hdx; exact hdx
          · have hd1 : H1 dx = none := by rw [upd_ne hda] at hdx; exact hdx
            have eq : upd (del (upd (upd (upd H1 a (exo a (He.ga Γ.K x) none)) dx (exd dx [("what", .str s)])) a (exo a (He.ga Γ.K x) (some dx))) a) dx (.xd [("what", .str s)]) = upd H1 dx (.xd [("what", .str s)]) := by
              funext b
              by_cases hb : b = dx
              · subst hb; rw [upd_same, upd_same]
              · rw [upd_ne hb, upd_ne hb]
                by_cases hb2 : b = a
                · subst hb2; rw [del_same, hna]
                · rw [del_ne hb2, upd_ne hb2, upd_ne hb, upd_ne hb2]
            rw [eq]
            obtain ⟨g2, e2⟩ := g1.known (p := dx) (o := .xd [("what", .str s)]) hd1
            exact (show ∀ F' μ' H' d, Ext F F' μ μ' → Good Γ.K Z F' μ' st1 H' → XRep Γ.K F' μ' ⟨x, ["what"], [.str s]⟩ d → Q (.ref (He.ga Γ.K x)) d H' from q) _ μ1 _ (some dx) (e1.trans e2) g2 (.inr ⟨dx, [("what", .str s)], rfl, upd_same, rfl, .cons (.str s) .nil⟩)
        · rw [if_neg hl] at q; exact q.elim
      | _ => exact q.elim
    · have hr := c.room cm
      have f3' : FnOk X.prog X.w X.K X.mg X.base (L2.CX X.prog X.w) 1 fI fd ["self", "what"] (spW Γ.K (He.ga Γ.K x)) := by rw [c.prog, c.w, c.K, c.mg, c.base]; exact f3
      exact pmk_oex (C := He.ga Γ.K x) (fI := fI) (k := 1) (fd := fd) (ps := ["self", "what"]) (ds := []) (dvs := []) (by rw [c.K]; exact ke.oex) (by rw [c.K]; exact f1) (by rw [c.K]; exact f2) f3' (hr.mono hk) (by rw [c.K]; exact f4) .nil (fun _ _ _ _ _ _ _ z => by obtain ⟨_, _, _, _, _, _, _, _, _, _, _, _, _, z⟩ := z) (c.gl hg) (by rw [c.mg]; exact hm) (pa_cons (h2 X c tk) pa_nil (he _)) hdb (he _) (hpl _)⟩
end
end SL

set_option Elab.async false
set_option linter.all false
set_option maxRecDepth 100000
set_option maxHeartbeats 4000000
/-! SLq: try, except; what a caught exception holds. -/
namespace SL
open PySem PySem.Spec L2
open PyProof.Rows hiding St
/-- within an except suite: the exception at a, its class c, its dict d -/
def G.hot (Γ : G) (a : Addr) (c : Str) (d : Option Addr) : G := { Γ with calm := false, st := false, hx := some (a, c, d) }
theorem CtxOk.hot {Γ : G} {X : Cx} (k : CtxOk Γ X) {a : Addr} {c : Str} {d : Option Addr} {oe : Obj} {pn : List (Addr × Obj)} (hz : Zc (.ref (He.ga Γ.K c)) d oe) (hf : ∃ vs, oe.data = .fields vs) : CtxOk (Γ.hot a c d) (X.suite a ((a, oe) :: pn)) where
  prog := k.prog
  w := k.w
  K := k.K
  mg := k.mg
  base := k.base
  N := k.N
  sc := k.sc
  calm := fun z => Bool.noConfusion z
  room := fun z => Bool.noConfusion z
  units := k.units
  stk := fun z => Bool.noConfusion z
  hx := fun a' c' d' z => by
    have z' : some (a, c, d) = some (a', c', d') := z
    cases z'
    exact ⟨X, oe, pn, rfl, hz, hf⟩
  nd := k.nd
  own := PassesOwn.never
theorem CtxOk.tr {Γ : G} {X : Cx} (k : CtxOk Γ X) {pn : List (Addr × Obj)} {xe : Value → Shared → Prop} (ho : PassesOwn (model X.prog X.w) X.A X.env xe) (hx : Γ.hx = none) : CtxOk Γ (X.tr pn xe) where
  prog := k.prog
  w := k.w
  K := k.K
  mg := k.mg
  base := k.base
  N := k.N
  sc := k.sc
  calm := k.calm
  room := k.room
  units := k.units
  stk := k.stk
  hx := fun a' c' d' z => by rw [hx] at z; cases z
  nd := k.nd
  own := ho
/-- e.f of the exception in hand -/
def eXf (cs : List Str) (f : Str) (a0 : Addr) (c0 : Str) (d0 : Option Addr) (m : AEnv → Store → Res A) : AEnv → Store → Res A := fun env st => (m env st).bind fun v st1 => match v with
  | .xcp a d c ns vs => if a = a0 ∧ c = c0 ∧ d = d0 ∧ c ∈ cs then (match (ns.zip vs).lookup f with
    | some x => .ok x st1
    | none => .stuck) else .stuck
  | _ => .stuck
theorem lookup_reps {K : PySem.W.Frag} {F : Hp} {μ : List Addr} {f : Str} : ∀ {fs : List (Str × V)} {ns : List Str} {xs : List A} {x : A}, fs.map (·.1) = ns → Reps K F μ xs (fs.map (·.2)) → (ns.zip xs).lookup f = some x → ∃ v, fs.lookup f = some v ∧ Rep K F μ x v
  | [], ns, xs, x, h1, h2, h3 => by subst h1; simp at h3
  | (g, w) :: fs, ns, xs, x, h1, h2, h3 => by
    subst h1
    cases h2 with
    | @cons y _ ys _ r t =>
      rw [List.map_cons, List.zip_cons_cons, List.lookup_cons] at h3
      rw [List.lookup_cons]
      cases e : (f == g) with
      | true => rw [e] at h3; cases h3; exact ⟨w, rfl, r⟩
      | false => rw [e] at h3; exact lookup_reps rfl t h3
theorem s_xf {Γ : G} {e : Expr} {n : Str} {pos : Pos} {m : AEnv → Store → Res A} {a0 : Addr} {c0 : Str} {d0 : Option Addr} (cs : List Str) (h : SE (Γ.hot a0 c0 d0) e m) (hcs : ∀ c ∈ cs, XfC Γ.K (He.ga Γ.K c) ∧ PySem.W.findIn Γ.K (.ref (He.ga Γ.K c)) n = some none)
    (hb : ∀ env, attributeBase e n env (eval e env) = eval e env := by intro _; rfl) : SE (Γ.hot a0 c0 d0) (.Attribute e n pos) (eXf cs n a0 c0 d0 m) :=
  ⟨fun W => by
    obtain ⟨t, h1, h2⟩ := h.run W
    refine ⟨fun σ H Q => c0 ∈ cs ∧ tXf a0 (.ref (He.ga Γ.K c0)) d0 (He.ga Γ.K c0) n t σ H Q ∨ c0 ∉ cs ∧ t σ H (fun _ _ => False), fun Z F μ st env σ H Q g re hp => ?_, fun X k tk => ?_⟩
    · by_cases hc : c0 ∈ cs
      · refine .inl ⟨hc, ?_⟩
        unfold eXf at hp
        rw [Res.post_bind] at hp
        refine h1 Z F μ st env σ H _ g re (Res.post_mono hp (fun v st1 q => ?_) fun _ _ q => q)
        intro F1 μ1 H1 b e1 g1 rb
        cases v with
        | xcp a d c ns vs =>
          dsimp only at q
          by_cases hh : a = a0 ∧ c = c0 ∧ d = d0 ∧ c ∈ cs
          · rw [if_pos hh] at q
            obtain ⟨rfl, rfl, rfl, _⟩ := hh
            cases rb with
            | xcp0 => simp at q; exact q.elim
            | xcpD r1 r2 r3 =>
              rename_i dd fs
              cases el : (ns.zip vs).lookup n with
              | none => rw [el] at q; exact q.elim
              | some x =>
                rw [el] at q
                obtain ⟨w, hw, rw'⟩ := lookup_reps r2 r3 el
                exact ⟨rfl, rfl, dd, fs, w, rfl, g1.sub _ _ r1, hw, (show Kont Γ.K Z Rep F μ Q x st1 from q) F1 μ1 H1 w e1 g1 rw'⟩
          · rw [if_neg hh] at q; exact q.elim
        | _ => exact q.elim
      · refine .inr ⟨hc, ?_⟩
        unfold eXf at hp
        rw [Res.post_bind] at hp
        refine h1 Z F μ st env σ H _ g re (Res.post_mono hp (fun v st1 q => ?_) fun _ _ q => q)
        cases v with
        | xcp a d c ns vs =>
          dsimp only at q
          rw [if_neg (show ¬ (a = a0 ∧ c = c0 ∧ d = d0 ∧ c ∈ cs) from fun z => hc (z.2.1 ▸ z.2.2.2))] at q
          exact q.elim
        | _ => exact q.elim
    · obtain ⟨X', oe, pn, rfl, hz, hf⟩ := k.hx a0 c0 d0 rfl
      refine ⟨fun pins s σ H Q I hh => ?_⟩
      rcases hh with ⟨hc, hh⟩ | hh
      · have kK : (X'.suite a0 ((a0, oe) :: pn)).K = Γ.K := k.K
        have T := hcs c0 hc
        exact (pe_xf (X := X') (a := a0) (C := He.ga Γ.K c0) (by rw [show X'.K = Γ.K from kK]; exact T.1) (by rw [show X'.K = Γ.K from kK]; exact T.2) hz hf (h2 _ k tk) (hb _)).run pins s σ H Q I hh
      · exact attr_of (hb _) (thn ((h2 _ k tk).run pins s σ H _ I hh.2) fun u s1 z => by obtain ⟨_, _, _, _, z⟩ := z; exact z.elim)⟩
/-! ### try: body, except C as n: suite -/
def clr (i : Nat) (r : SRes) : SRes := match r with
  | .nx e s => .nx (e.set i none) s
  | .bk e s => .bk (e.set i none) s
  | .ct e s => .ct (e.set i none) s
  | .rt a s => .rt a s
  | .exc _ _ _ => .stuck
  | .stuck => .stuck
def noXS (r : SRes) : SRes := match r with
  | .exc _ _ _ => .stuck
  | r => r
/-- tbl: the classes that may come, whether the clause takes them; the suite is run with any exception of that class and these fields in slot i -/
noncomputable def sTryAs (tbl : List (Str × Bool)) (i : Nat) (body : MS) (ms : Addr → Str → Option Addr → MS) : MS := open Classical in fun env st => match body env st with
  | .exc x e s => (match tbl.lookup x.c with
    | some true => if ∀ a d, clr i (ms a x.c d (e.set i (some (.xcp a d x.c x.ns x.vs))) s) = clr i (ms 0 x.c none (e.set i (some (.xcp 0 none x.c x.ns x.vs))) s) then clr i (ms 0 x.c none (e.set i (some (.xcp 0 none x.c x.ns x.vs))) s) else .stuck
    | some false => .exc x e s
    | none => .stuck)
  | r => r
noncomputable def sTryNo (tbl : List (Str × Bool)) (body : MS) (ms : Addr → Str → Option Addr → MS) : MS := open Classical in fun env st => match body env st with
  | .exc x e s => (match tbl.lookup x.c with
    | some true => if ∀ a d, noXS (ms a x.c d e s) = noXS (ms 0 x.c none e s) then noXS (ms 0 x.c none e s) else .stuck
    | some false => .exc x e s
    | none => .stuck)
  | r => r
theorem lookup_mem' {α β : Type} [BEq α] [LawfulBEq α] {x : α} {y : β} : ∀ {l : List (α × β)}, l.lookup x = some y → (x, y) ∈ l
  | [], h => by cases h
  | (a, b) :: l, h => by
    rw [List.lookup_cons] at h
    cases e : (x == a) with
    | true => rw [e] at h; cases h; rw [eq_of_beq e]; exact List.mem_cons_self
    | false => rw [e] at h; exact List.mem_cons_of_mem _ (lookup_mem' h)
theorem XRep.xcp {K : PySem.W.Frag} {F : Hp} {μ : List Addr} {x : Exc} {d : Option Addr} (h : XRep K F μ x d) (a : Addr) : Rep K F μ (.xcp a d x.c x.ns x.vs) (.ref a) := by
  rcases h with ⟨rfl, h1, h2⟩ | ⟨dd, fs, rfl, h1, h2, h3⟩
  · rw [h1, h2]; exact .xcp0
  · exact .xcpD h1 h2 h3
theorem REnv.unset' {K : PySem.W.Frag} {F : Hp} {μ : List Addr} {env : AEnv} {σ : L2.St} (r : REnv K F μ env σ) (i : Nat) : REnv K F μ (env.set i none) (σ.set i none) := by
  refine ⟨by rw [List.length_set, List.length_set]; exact r.len, fun j b hj => ?_⟩
  by_cases e : i = j
  · subst e
    by_cases hl : i < env.length
    · rw [List.getElem?_set_self hl] at hj; cases hj
    · rw [List.getElem?_eq_none (by rw [List.length_set]; omega)] at hj; cases hj
  · rw [List.getElem?_set_ne e] at hj ⊢
    exact r.at_ j b hj
section
variable {Γ : G} {fo : Str → Bool} {x n : Str} {i : Nat} {body suite : List Stmt} {b₀ : Stmt} {np pos pos' : Pos} {m : MS} {ms : Addr → Str → Option Addr → MS} {tbl : List (Str × Bool)}
theorem st_tryAs (hi : Γ.N[i]? = some n) (hl : Γ.sc.names.lookup n = some .local) (hg : Γ.sc.names.lookup x = some .globalImplicit) (hm : Γ.mg x = some (.ref (He.ga Γ.K x))) (hdb : (x == ("__debug__" : Str)) = false)
    (htb : ∀ p ∈ tbl, PySem.W.exmOne Γ.K (.ref (He.ga Γ.K p.1)) (.ref (He.ga Γ.K x)) = some p.2) (hb : SB Γ fo body m) (hsu : ∀ a c d, SB (Γ.hot a c d) fo (b₀ :: suite) (ms a c d)) (hst : Γ.st = true := by rfl) (hhx : Γ.hx = none := by rfl) :
    SS Γ fo (.Try body [.ExceptHandler (some (.Name x np)) (some n) (b₀ :: suite) pos'] [] [] pos) (sTryAs tbl i m ms) :=
  ⟨fun W => by
    classical
    let ts : Addr → Value → Option Addr → TS := fun a cls d D σ H => ∃ c, cls = .ref (He.ga Γ.K c) ∧ Classical.choose ((hsu a c d).run W0) D σ H
    have hts : ∀ a c d, SimS Γ.K W0 (Classical.choose ((hsu a c d).run W0)) (ms a c d) ∧ ∀ X, CtxOk (Γ.hot a c d) X → (∀ x, fo x = true → X.fn x = true) → Takes X W0 → PSs X (b₀ :: suite) (Classical.choose ((hsu a c d).run W0)) := fun a c d => Classical.choose_spec ((hsu a c d).run W0)
    let tb : WX → TS := fun W => Classical.choose (hb.run W)
    have htbs : ∀ W, SimS Γ.K W (tb W) m ∧ ∀ X, CtxOk Γ X → (∀ x, fo x = true → X.fn x = true) → Takes X W → PSs X body (tb W) := fun W => Classical.choose_spec (hb.run W)
    refine ⟨fun D σ H => tb (wAs Γ.K (.ref (He.ga Γ.K x)) i ts W D) D σ H, fun Z F μ st env σ H D g re hp => ?_, fun X c hf k => ?_⟩
    · refine (htbs _).1 Z F μ st env σ H D g re ?_
      unfold sTryAs at hp
      generalize m env st = r at hp ⊢
      cases r with
      | nx e s => exact hp
      | rt a s => exact hp
      | bk e s => exact hp
      | ct e s => exact hp
      | stuck => exact hp
      | exc y e s =>
        intro F' μ' H' σ' d e' g' re' xr
        dsimp only at hp
        cases hlk : tbl.lookup y.c with
        | none => rw [hlk] at hp; exact hp.elim
        | some b =>
          rw [hlk] at hp
          refine ⟨b, htb _ (lookup_mem' hlk), fun hbt a hna => ?_, fun hbf => ?_⟩
          · subst hbt
            dsimp only at hp
            split at hp
            · rename_i hall
              rw [← hall a d] at hp
              refine ⟨y.c, rfl, (hts a y.c d).1 Z F' μ' s _ _ H' _ g' (re'.set i (xr.xcp a)) ?_⟩
              have hp2 := KS.ext e' hp
              generalize ms a y.c d (e.set i (some (.xcp a d y.c y.ns y.vs))) s = r2 at hp2 ⊢
              cases r2 with
              | nx e2 s2 =>
                intro F3 μ3 H3 σ3 e3 g3 re3
                exact (show KN Γ.K Z F' μ' D.nx (e2.set i none) s2 from hp2) F3 μ3 H3 _ e3 g3 (re3.unset' i)
              | rt a s2 => exact hp2
              | bk e2 s2 =>
                intro F3 μ3 H3 σ3 e3 g3 re3
                exact (show KN Γ.K Z F' μ' D.bk (e2.set i none) s2 from hp2) F3 μ3 H3 _ e3 g3 (re3.unset' i)
              | ct e2 s2 =>
                intro F3 μ3 H3 σ3 e3 g3 re3
                exact (show KN Γ.K Z F' μ' D.ct (e2.set i none) s2 from hp2) F3 μ3 H3 _ e3 g3 (re3.unset' i)
              | exc _ _ _ => exact hp2.elim
              | stuck => exact hp2.elim
            · exact hp.elim
          · subst hbf
            exact (show KXS Γ.K Z F μ W y e s from hp) F' μ' H' σ' d e' g' re' xr
    · obtain ⟨k1, k2⟩ := c.stk hst
      have hK := c.K
      rw [← hK]
      refine ps_try_as (i := i) k1 k2 c.nd (c.name hi) (by unfold Env.kindOf; rw [c.sc]; exact hl) ⟨c.gl hg, hdb, .inl (by rw [c.mg, hK]; exact hm)⟩ k (fun W' pn xe tk ho => (htbs W').2 _ (c.tr ho hhx) hf tk) (fun a oe cls d pn hz hfl => ⟨fun pins s σ H D I hh => ?_⟩)
      obtain ⟨c', rfl, hh⟩ := hh
      exact ((hts a c' d).2 _ (c.hot hz hfl) hf takes0).run pins s σ H D I hh⟩
theorem st_tryNo (hg : Γ.sc.names.lookup x = some .globalImplicit) (hm : Γ.mg x = some (.ref (He.ga Γ.K x))) (hdb : (x == ("__debug__" : Str)) = false)
    (htb : ∀ p ∈ tbl, PySem.W.exmOne Γ.K (.ref (He.ga Γ.K p.1)) (.ref (He.ga Γ.K x)) = some p.2) (hb : SB Γ fo body m) (hsu : ∀ a c d, SB (Γ.hot a c d) fo (b₀ :: suite) (ms a c d)) (hst : Γ.st = true := by rfl) (hhx : Γ.hx = none := by rfl) :
    SS Γ fo (.Try body [.ExceptHandler (some (.Name x np)) none (b₀ :: suite) pos'] [] [] pos) (sTryNo tbl m ms) :=
  ⟨fun W => by
    classical
    let ts : Addr → Value → Option Addr → TS := fun a cls d D σ H => ∃ c, cls = .ref (He.ga Γ.K c) ∧ Classical.choose ((hsu a c d).run W0) D σ H
    have hts : ∀ a c d, SimS Γ.K W0 (Classical.choose ((hsu a c d).run W0)) (ms a c d) ∧ ∀ X, CtxOk (Γ.hot a c d) X → (∀ x, fo x = true → X.fn x = true) → Takes X W0 → PSs X (b₀ :: suite) (Classical.choose ((hsu a c d).run W0)) := fun a c d => Classical.choose_spec ((hsu a c d).run W0)
    let tb : WX → TS := fun W => Classical.choose (hb.run W)
    have htbs : ∀ W, SimS Γ.K W (tb W) m ∧ ∀ X, CtxOk Γ X → (∀ x, fo x = true → X.fn x = true) → Takes X W → PSs X body (tb W) := fun W => Classical.choose_spec (hb.run W)
    refine ⟨fun D σ H => tb (wOnly Γ.K (.ref (He.ga Γ.K x)) ts W D) D σ H, fun Z F μ st env σ H D g re hp => ?_, fun X c hf k => ?_⟩
    · refine (htbs _).1 Z F μ st env σ H D g re ?_
      unfold sTryNo at hp
      generalize m env st = r at hp ⊢
      cases r with
      | nx e s => exact hp
      | rt a s => exact hp
      | bk e s => exact hp
      | ct e s => exact hp
      | stuck => exact hp
      | exc y e s =>
        intro F' μ' H' σ' d e' g' re' xr
        dsimp only at hp
        cases hlk : tbl.lookup y.c with
        | none => rw [hlk] at hp; exact hp.elim
        | some b =>
          rw [hlk] at hp
          refine ⟨b, htb _ (lookup_mem' hlk), fun hbt a hna => ?_, fun hbf => ?_⟩
          · subst hbt
            dsimp only at hp
            split at hp
            · rename_i hall
              rw [← hall a d] at hp
              refine ⟨y.c, rfl, (hts a y.c d).1 Z F' μ' s _ _ H' _ g' re' ?_⟩
              have hp2 := KS.ext e' hp
              generalize ms a y.c d e s = r2 at hp2 ⊢
              cases r2 with
              | exc _ _ _ => exact hp2.elim
              | _ => exact hp2
            · exact hp.elim
          · subst hbf
            exact (show KXS Γ.K Z F μ W y e s from hp) F' μ' H' σ' d e' g' re' xr
    · obtain ⟨k1, k2⟩ := c.stk hst
      have hK := c.K
      rw [← hK]
      refine ps_try_only k1 k2 ⟨c.gl hg, hdb, .inl (by rw [c.mg, hK]; exact hm)⟩ k (fun W' pn xe tk ho => (htbs W').2 _ (c.tr ho hhx) hf tk) (fun a oe cls d pn hz hfl => ⟨fun pins s σ H D I hh => ?_⟩)
      obtain ⟨c', rfl, hh⟩ := hh
      exact ((hts a c' d).2 _ (c.hot hz hfl) hf takes0).run pins s σ H D I hh⟩
end
end SL

set_option Elab.async false
set_option linter.all false
set_option maxRecDepth 100000
set_option maxHeartbeats 4000000
/-! SLr: the head's facts of own exceptions and classes, by a hook with one more Bool. -/
namespace SL
open PySem PySem.Spec L2
open PyProof.Rows hiding St
open He (ga ma)
inductive Fb where
  | oex (x : Str)
  | kbase (x : Str)
  | xf (x : Str)
  | ini (x : Str)
  | vals (x : Str) (kvs : List (Str × He.Dv))
def oexB (K : PySem.W.Frag) (C : Addr) : Bool := match K.lookup C with
  | some ⟨.type T, _, .cls cd, sl⟩ => (match cd.mro, sl.toList with
    | .ref C' :: bm, [_, _, _, _, some (.builtin n), _] => decide (T = "type") && (decide (C' = C) && (decide (n = "ValueError.__new__") && (cd.hasDict && (!cd.hasDel && PySem.HandSPX.refsVE bm))))
    | _, _ => false)
  | _ => false
def Fb.ok (K : PySem.W.Frag) : Fb → Bool
  | .oex x => oexB K (ga K x) && (He.eqO (PySem.W.findIn K (.ref (ga K x)) "__setattr__") (some (some (.builtin "object.__setattr__"))) && (decide (PySem.W.subIn K (.ref (ga K x)) (.type "BaseException") = some true) && (decide (PySem.W.typeIn K (.ref (ga K x)) = some (.type "type")) && PySem.W.keepIn K (.ref (ga K x)))))
  | .kbase x => kBaseB K (ga K x)
  | .xf x => xfB K (ga K x)
  | .ini x => He.eqO (PySem.W.findIn K (.ref (ga K x)) "__init__") (some (some (.ref (ma K (ga K x) "__init__")))) && decide (PySem.W.typeIn K (.ref (ma K (ga K x) "__init__")) = some (.type "function"))
  | .vals x kvs => He.valsB K (ga K x) kvs
theorem and2 {a b : Bool} (h : (a && b) = true) : a = true ∧ b = true := Bool.and_eq_true_iff.mp h
theorem oexB_ok {K : PySem.W.Frag} {C : Addr} (h : oexB K C = true) : ∃ nm q N bs bm sn sub ab col dd k0 k1 k2 k3 k5, K.lookup C = some (excClassObj nm q C N bs bm true sn sub ab col dd k0 k1 k2 k3 k5 "ValueError.__new__") ∧ PySem.HandSPX.refsVE bm = true := by
  unfold oexB at h
  split at h
  · rename_i T dd cd sl e
    obtain ⟨nm, bs, mro, ns, qn, hd, sn, sb, ab, col, dl⟩ := cd
    dsimp only at h
    split at h
    · rename_i C' bm k0 k1 k2 k3 n k5 e2
      obtain ⟨h1, h⟩ := and2 h
      obtain ⟨h2, h⟩ := and2 h
      obtain ⟨h3, h⟩ := and2 h
      obtain ⟨h4, h⟩ := and2 h
      obtain ⟨h5, h6⟩ := and2 h
      have h4 : hd = true := h4
      have h5 : dl = false := by simpa using h5
      have e3 := of_decide_eq_true h1
      have e4 := of_decide_eq_true h2
      have e5 := of_decide_eq_true h3
      subst e3 e4 e5 h4 h5
      refine ⟨nm, qn, ns, bs, bm, sn, sb, ab, col, dd, k0, k1, k2, k3, k5, ?_, h6⟩
      rw [e]
      have : sl = #[k0, k1, k2, k3, some (.builtin "ValueError.__new__"), k5] := by
        apply Array.toList_inj.mp
        rw [e2]
      rw [this]
    · cases h
  · cases h
theorem oex_ok {K : PySem.W.Frag} {x : Str} (h : (Fb.oex x).ok K = true) : OexC K (ga K x) := by
  obtain ⟨h1, h⟩ := and2 h
  obtain ⟨h2, h⟩ := and2 h
  obtain ⟨h3, h⟩ := and2 h
  obtain ⟨h4, h5⟩ := and2 h
  exact ⟨oexB_ok h1, He.eqO_ok h2, of_decide_eq_true h3, of_decide_eq_true h4, h5⟩
theorem kbase_ok {K : PySem.W.Frag} {x : Str} (h : (Fb.kbase x).ok K = true) : KBase K (ga K x) := kBaseB_ok h
theorem xf_ok {K : PySem.W.Frag} {x : Str} (h : (Fb.xf x).ok K = true) : XfC K (ga K x) := xfB_ok h
theorem ini_ok {K : PySem.W.Frag} {x : Str} (h : (Fb.ini x).ok K = true) : PySem.W.findIn K (.ref (ga K x)) "__init__" = some (some (.ref (ma K (ga K x) "__init__"))) ∧ PySem.W.typeIn K (.ref (ma K (ga K x) "__init__")) = some (.type "function") := by
  obtain ⟨h1, h2⟩ := and2 h
  exact ⟨He.eqO_ok h1, of_decide_eq_true h2⟩
theorem vals_ok {K : PySem.W.Frag} {x : Str} {kvs : List (Str × He.Dv)} (h : (Fb.vals x kvs).ok K = true) : He.valsB K (ga K x) kvs = true := h
/-! ### the hook -/
abbrev AlS : Type := He.AlT × Bool
def obsS (n : Nat) (fa : List He.Fa) (fn : List He.DefD) (ts : List He.Tab) (fb : List Fb) (g : Addr → Option Obj) : AlS := (He.obsT fa fn ts (He.frG g (cStatics :: He.asD g n)), fb.all fun f => f.ok (He.frG g (cStatics :: He.asD g n)))
structure SaysS (fa : List He.Fa) (fn : List He.DefD) (ts : List He.Tab) (fb : List Fb) (w : World) (K : PySem.W.Frag) : Prop where
  t : He.SaysT fa fn ts w K
  b : (fb.all fun f => f.ok K) = true
section
variable {fa : List He.Fa} {fn : List He.DefD} {ts : List He.Tab} {fb : List Fb} {w : World} {K : PySem.W.Frag}
theorem SaysS.fbs (c : SaysS fa fn ts fb w K) (i : Nat) {f : Fb} (h : fb[i]? = some f := by rfl) : f.ok K = true :=
  List.all_eq_true.mp c.b f (List.mem_of_getElem? h)
theorem SaysS.fact (c : SaysS fa fn ts fb w K) (i : Nat) {f : He.Fa} (h : fa[i]? = some f := by rfl) : f.ok K = true := c.t.d.fact i h
theorem SaysS.def_ (c : SaysS fa fn ts fb w K) (i : Nat) {d : He.DefD} (h : fn[i]? = some d := by rfl) : ∃ fd, FunD K d.name d.qual d.params d.body d.scope (d.dvs K) (d.kws K) (He.fAd K d.at_) fd := c.t.d.def_ i h
end
def hookS (n : Nat) (fa : List He.Fa) (fn : List He.DefD) (ts : List He.Tab) (fb : List Fb) : PySem.W.Hook where
  α := AlS
  obs := fun s => obsS n fa fn ts fb s.heap.get?
  val := fun w => (He.valT fn ts w, true)
  says := fun w h => ∃ K : PySem.W.Frag, K.In h ∧ SaysS fa fn ts fb w K
  of := fun _ _ e => ⟨_, He.frG_in, ⟨congrArg (fun z : AlS => z.1) e, congrArg (fun z : AlS => z.2) e⟩⟩
  keeps := fun _ _ _ z k => let ⟨K, hK, c⟩ := z; ⟨K, PySem.W.Frag.In.keeps hK k, c⟩
theorem obsS_eq {n : Nat} {fa : List He.Fa} {fn : List He.DefD} {ts : List He.Tab} {fb : List Fb} {g : Addr → Option Obj} {s : Shared} (h : ∀ a, g a = s.heap.get? a) : obsS n fa fn ts fb g = (hookS n fa fn ts fb).obs s := by
  have e : g = s.heap.get? := funext h
  rw [e] <;> rfl
/-! ### the text of a class -/
def clsBody (s : Stmt) : List Stmt := match s with
  | .ClassDef _ _ _ b _ _ _ _ _ _ _ => b
  | _ => []
def meth (s : Stmt) (i : Nat) : Stmt := (clsBody s).getD i (.Pass ⟨0, 0, 0, 0⟩)
/-! ### a dict of the module, its keys texts, its values numbers -/
def wixOp (d : Str) (tbl : List (Str × Int)) : Op2 := fun a b st => match a, b with
  | .glo x, .str z => if x = d then (tbl.lookup z).map fun i => (.int i, st) else none
  | _, _ => none
/-- what the written part says of it -/
def WDct (K : PySem.W.Frag) (w : World) (d : Str) (tbl : List (Str × Int)) : Prop := ∀ p ∈ tbl, KDct K w (He.ga K d) p.1 (.int p.2)
theorem wdct_of {K : PySem.W.Frag} {w : World} {d : Str} {tbl : List (Str × Int)} {es : Array DictEntry} {n : Nat} (D : KDict K w (He.ga K d) es n) (h : He.valsB K (He.ga K d) (tbl.map fun p => (p.1, .int p.2)) = true) : WDct K w d tbl := by
  intro p hp
  obtain ⟨u, h1, h2⟩ := He.valsB_ok h (List.mem_map.mpr ⟨p, hp, rfl⟩)
  exact ⟨es, n, u, D.at_, D.lit, h1, h2⟩
theorem s_wix {Γ : G} {a b : Expr} {ma mb : AEnv → Store → Res A} {pos : Pos} {d : Str} {tbl : List (Str × Int)} (h : WDct Γ.K Γ.w d tbl) (ha : SE Γ a ma) (hb : SE Γ b mb) (hs : PlainIx b := by intro _ _; rfl) : SE Γ (.Subscript a b pos) (eBin (wixOp d tbl) ma mb) :=
  ⟨fun W => by
    obtain ⟨ta, sa, pa⟩ := ha.run W
    obtain ⟨tb, sb, pb⟩ := hb.run W
    have sw : SimV2 Γ.K (rIxD Γ.K Γ.w) (wixOp d tbl) := by
      intro Z F μ st st' H a b c x y Q g ra rb e k
      cases a with
      | glo z =>
        cases b with
        | str z' =>
          cases ra; cases rb
          have e : (if z = d then (tbl.lookup z').map (fun i => (A.int i, st)) else none) = some (c, st') := e
          by_cases hz : z = d
          · rw [if_pos hz] at e
            cases el : tbl.lookup z' with
            | none => rw [el] at e; cases e
            | some i =>
              rw [el] at e; cases e
              subst hz
              exact ⟨_, z', _, rfl, rfl, h _ (lookup_mem' el), k.same g (.int _)⟩
          · rw [if_neg hz] at e; cases e
        | _ => cases e
      | _ => cases e
    refine ⟨_, sim_bin sw sa sb, fun X c t => ?_⟩
    rw [← c.K, ← c.w]
    exact pe_ix ix_kdict (pa X c t) (pb X c t) hs⟩
/-! max, min of two numbers -/
def maxA : Op2 := iiOp fun i j => some (.int (if j > i then j else i))
def minA : Op2 := iiOp fun i j => some (.int (if j < i then j else i))
theorem cb_max2 : Cb (.builtin "max") (two2 maxA) := cb2 (r := fun _ xs H Q => ∃ i j, xs = [.int i, .int j] ∧ Q (.int (if j > i then j else i)) H) (fun _ _ c cm => call_max2 (c.calm cm)) fun K Z F μ st st' H a b c x y Q g ra rb e k => by
  cases a with
  | int i =>
    cases b with
    | int j => cases ra; cases rb; cases e; exact ⟨i, j, rfl, k.same g (.int _)⟩
    | _ => cases e
  | _ => cases e
theorem cb_min2 : Cb (.builtin "min") (two2 minA) := cb2 (r := fun _ xs H Q => ∃ i j, xs = [.int i, .int j] ∧ Q (.int (if j < i then j else i)) H) (fun _ _ c cm => call_min2 (c.calm cm)) fun K Z F μ st st' H a b c x y Q g ra rb e k => by
  cases a with
  | int i =>
    cases b with
    | int j => cases ra; cases rb; cases e; exact ⟨i, j, rfl, k.same g (.int _)⟩
    | _ => cases e
  | _ => cases e
end SL

set_option Elab.async false
set_option linter.all false
set_option maxRecDepth 100000
set_option maxHeartbeats 4000000
/-! SLs: words for the plain functions: exceptions, slices, sums and equality of lists of numbers. -/
namespace SL
open PySem PySem.Spec L2
open PyProof.Rows hiding St
section
variable {env : AEnv} {st : Store} {xs ys : List A}
@[simp] theorem sRaise_ap {m : AEnv → Store → Res Exc} : sRaise m env st = (m env st).toS env fun x st1 => .exc x env st1 := (rfl)
@[simp] theorem mkWhat_ap {c : Str} {m : AEnv → Store → Res A} : mkWhat c m env st = (m env st).bind fun a st1 => match a with
  | .str s => if s.length < 1000 then .ok ⟨c, ["what"], [.str s]⟩ st1 else .stuck
  | _ => .stuck := (rfl)
theorem sTryNo_ok {tbl : List (Str × Bool)} {body : MS} {ms : Addr → Str → Option Addr → MS} {r : SRes} (h : body env st = r) (hr : ∀ x e s, r ≠ .exc x e s) : sTryNo tbl body ms env st = r := by
  unfold sTryNo; rw [h]; cases r <;> first | rfl | exact absurd rfl (hr _ _ _)
theorem sTryAs_ok {tbl : List (Str × Bool)} {i : Nat} {body : MS} {ms : Addr → Str → Option Addr → MS} {r : SRes} (h : body env st = r) (hr : ∀ x e s, r ≠ .exc x e s) : sTryAs tbl i body ms env st = r := by
  unfold sTryAs; rw [h]; cases r <;> first | rfl | exact absurd rfl (hr _ _ _)
theorem sTryNo_exc {tbl : List (Str × Bool)} {body : MS} {ms : Addr → Str → Option Addr → MS} {x : Exc} {e : AEnv} {s : Store} {r : SRes} (h : body env st = .exc x e s) (ht : tbl.lookup x.c = some true) (hm : ∀ a d, noXS (ms a x.c d e s) = r) : sTryNo tbl body ms env st = r := by
  unfold sTryNo; rw [h]; dsimp only; rw [ht]; dsimp only; rw [if_pos (fun a d => by rw [hm, hm]), hm]
theorem sTryAs_exc {tbl : List (Str × Bool)} {i : Nat} {body : MS} {ms : Addr → Str → Option Addr → MS} {x : Exc} {e : AEnv} {s : Store} {r : SRes} (h : body env st = .exc x e s) (ht : tbl.lookup x.c = some true) (hm : ∀ a d, clr i (ms a x.c d (e.set i (some (.xcp a d x.c x.ns x.vs))) s) = r) : sTryAs tbl i body ms env st = r := by
  unfold sTryAs; rw [h]; dsimp only; rw [ht]; dsimp only; rw [if_pos (fun a d => by rw [hm, hm]), hm]
@[simp] theorem eXf_ap {cs : List Str} {f : Str} {a0 : Addr} {c0 : Str} {d0 : Option Addr} {m : AEnv → Store → Res A} : eXf cs f a0 c0 d0 m env st = (m env st).bind fun v st1 => match v with
  | .xcp a d c ns vs => if a = a0 ∧ c = c0 ∧ d = d0 ∧ c ∈ cs then (match (ns.zip vs).lookup f with
    | some x => .ok x st1
    | none => .stuck) else .stuck
  | _ => .stuck := (rfl)
@[simp] theorem maxA_ii {i j : Int} : maxA (.int i) (.int j) st = some (.int (if j > i then j else i), st) := (rfl)
@[simp] theorem minA_ii {i j : Int} : minA (.int i) (.int j) st = some (.int (if j < i then j else i), st) := (rfl)
@[simp] theorem wixOp_ap {d z : Str} {tbl : List (Str × Int)} : wixOp d tbl (.glo d) (.str z) st = (tbl.lookup z).map fun i => (.int i, st) := by simp [wixOp]
/-! + and slices of lists -/
theorem addOp_l (h : xs.length + ys.length ≤ sizeLine) : addOp false (.lst xs) (.lst ys) st = some (.lst (xs ++ ys), st) := by
  have e : addL false (.lst xs) (.lst ys) st = some (.lst (xs ++ ys), st) := by
    simp only [addL, lstH]
    rw [if_pos h]; rfl
  simp [addOp, addI, addS, iiOp, e]
theorem sl_take {k : Int} (h0 : 0 ≤ k) (h1 : k ≤ xs.length) : slOp false (.lst xs) none (some k) st = some (.lst (xs.take k.toNat), st) := by
  have e : cutA xs none (some k) = xs.take k.toNat := by
    obtain ⟨n, rfl⟩ := Int.eq_ofNat_of_zero_le h0
    unfold cutA
    rw [HT.sIx_none, HT.sIx_nat, List.drop_zero, Nat.sub_zero, Nat.min_eq_left (by omega)]
    simp
  show (lstR (.lst xs) st).map (fun ys => newL false (cutA ys none (some k)) st) = _
  simp [lstR, lstH, e]
theorem sl_drop {k : Int} (h0 : 0 ≤ k) (h1 : k ≤ xs.length) : slOp false (.lst xs) (some k) none st = some (.lst (xs.drop k.toNat), st) := by
  have e : cutA xs (some k) none = xs.drop k.toNat := by
    obtain ⟨n, rfl⟩ := Int.eq_ofNat_of_zero_le h0
    unfold cutA
    rw [HT.sIx_none, HT.sIx_nat, Nat.min_eq_left (by omega)]
    rw [List.take_of_length_le (by rw [List.length_drop]; omega)]
    simp
  show (lstR (.lst xs) st).map (fun ys => newL false (cutA ys (some k) none) st) = _
  simp [lstR, lstH, e]
theorem sl_mid {k j : Int} (h0 : 0 ≤ k) (h1 : k ≤ j) (h2 : j ≤ xs.length) : slOp false (.lst xs) (some k) (some j) st = some (.lst ((xs.drop k.toNat).take (j - k).toNat), st) := by
  have e : cutA xs (some k) (some j) = (xs.drop k.toNat).take (j - k).toNat := by
    obtain ⟨n, rfl⟩ := Int.eq_ofNat_of_zero_le h0
    obtain ⟨m, rfl⟩ := Int.eq_ofNat_of_zero_le (Int.le_trans h0 h1)
    unfold cutA
    rw [HT.sIx_nat, HT.sIx_nat, Nat.min_eq_left (by omega), Nat.min_eq_left (by omega)]
    congr 1
    omega
  show (lstR (.lst xs) st).map (fun ys => newL false (cutA ys (some k) (some j)) st) = _
  simp [lstR, lstH, e]
end
/-! equality of lists of numbers -/
theorem toD_ints {st : Store} (n : Nat) : ∀ l : List Int, optAll (toD st n) (l.map A.int) = some (l.map PyData.int)
  | [] => rfl
  | x :: l => by
    have e : toD st n (.int x) = some (.int x) := by cases n <;> rfl
    rw [List.map_cons, optAll, e, toD_ints n l]; rfl
theorem eqv_ints : ∀ a b : List Int, PyData.eqvAll (a.map PyData.int) (b.map PyData.int) = decide (a = b)
  | [], [] => by simp [PyData.eqvAll]
  | [], _ :: _ => by simp [PyData.eqvAll]
  | _ :: _, [] => by simp [PyData.eqvAll]
  | x :: a, y :: b => by
    simp only [List.map_cons, PyData.eqvAll, eqv_ints a b, PyData.eqv]
    by_cases h : x = y
    · subst h; simp
    · simp [h]
theorem shaped_lI (a : List Int) : SeqAt.shaped (.list (a.map PyData.int)) = true := PySem.W.shaped_ints a
theorem eqOp_lI {st : Store} {a b : List Int} : eqOp (.lst (a.map A.int)) (.lst (b.map A.int)) st = some (.bl (decide (a = b)), st) := by
  have e : eqD false (.lst (a.map A.int)) (.lst (b.map A.int)) st = some (.bl (decide (a = b)), st) := by
    unfold eqD
    simp only [toD, toD_ints, Option.map_some]
    rw [if_pos ⟨shaped_lI a, shaped_lI b⟩, PyData.eqv, eqv_ints]; rfl
  simp [eqOp, eqSc, e]
theorem neOp_lI {st : Store} {a b : List Int} : neOp (.lst (a.map A.int)) (.lst (b.map A.int)) st = some (.bl (!decide (a = b)), st) := by
  have e : eqD true (.lst (a.map A.int)) (.lst (b.map A.int)) st = some (.bl (!decide (a = b)), st) := by
    unfold eqD
    simp only [toD, toD_ints, Option.map_some]
    rw [if_pos ⟨shaped_lI a, shaped_lI b⟩, PyData.eqv, eqv_ints]; rfl
  simp [neOp, eqSc, e]
end SL
namespace SL
open PySem PySem.Spec L2
open PyProof.Rows hiding St
/-- a def that raises -/
theorem fnM_exc {rc : Bool} {np ns : Nat} {body : MS} {as : List A} {st : Store} {l : List C} {x : Exc} {e : AEnv} (hl : as.length = np) (hb : body (as.map some ++ List.replicate (ns - np) none) st = .exc x e (st ++ l)) (hv : belowL st.length x.vs = true) : fnM rc np ns body as st = .exc x st := by
  unfold fnM
  rw [if_pos hl, hb]
  show (if belowL st.length x.vs = true ∧ okS st.length st (st ++ l) then Res.exc x ((st ++ l).take st.length) else .stuck : Res A) = _
  rw [if_pos ⟨hv, okS_app⟩, List.take_left]
theorem fnM_exc0 {rc : Bool} {np ns : Nat} {body : MS} {as : List A} {st : Store} {x : Exc} {e : AEnv} (hl : as.length = np) (hb : body (as.map some ++ List.replicate (ns - np) none) st = .exc x e st) (hv : belowL st.length x.vs = true) : fnM rc np ns body as st = .exc x st :=
  fnM_exc (l := []) hl (by rw [List.append_nil]; exact hb) hv
@[simp] theorem eChain_ap {op op' : Op2} {ma mb mc : AEnv → Store → Res A} {env : AEnv} {st : Store} : eChain op op' ma mb mc env st = (ma env st).bind fun a st1 => (mb env st1).bind fun b st2 => (Res.of (op a b st2)).bind fun v st3 => (asB v st3).bind fun k st4 => if k then (mc env st4).bind fun c st5 => Res.of (op' b c st5) else .ok (.bl false) st4 := (rfl)
end SL

set_option Elab.async false
set_option linter.all false
set_option maxRecDepth 100000
set_option maxHeartbeats 4000000
/-! printed by gen.py from the linked text: the defs' plain functions, and that each def keeps to its own -/
namespace Gk05
open PySem PySem.Spec L2 SL
open PyProof.Rows hiding St
def top (i : Nat) : Stmt := PySem.Challenge.pw_knotwork_k05_steps_of_words.main.body.getD i (.Pass ⟨0, 0, 0, 0⟩)

abbrev s__law_deck : Stmt := top 10
abbrev s__law_take : Stmt := top 11
abbrev s__law_word : Stmt := top 13
abbrev s__law_step : Stmt := top 14
abbrev s__law_made : Stmt := top 15
abbrev s_created : Stmt := top 5
abbrev s_replaced : Stmt := top 6
abbrev s_make_step : Stmt := top 7
abbrev s__law_told : Stmt := top 16
abbrev s__law_plain : Stmt := top 12
abbrev s__law_wrong_end : Stmt := top 17
abbrev s_judge_derivation : Stmt := top 8
abbrev s_law : Stmt := top 18
abbrev s_IllegalMove : Stmt := top 2
noncomputable def L1__law_deck : MS :=
  (sSeq (sEx (eM "list" appendM (eVar 3) (aCons (eBin modOp (eCB (one1 intA) (aCons (eVar 7) aNil)) (eC (.int 1000003))) aNil)))
  (sAsg (gN 7) (eBin fdivOp (eVar 7) (eC (.int 1000003)))))
noncomputable def L2__law_deck : MS :=
  (sSeq (sAsg (gN 4) (eBin modOp (eCB (one1 intA) (aCons (eBin (addOp false) (eBin (addOp false) (eBin (mulOp false) (eVar 4) (eC (.int 69621))) (eVar 8)) (eC (.int 1))) aNil)) (eC (.int 2147483629))))
  (sEx (eM "list" appendM (eVar 3) (aCons (eBin modOp (eCB (one1 intA) (aCons (eBin fdivOp (eVar 4) (eC (.int 5))) aNil)) (eC (.int 1000003))) aNil))))
noncomputable def L3__law_deck : MS :=
  (sSeq (sAsg (gN 6) (eC (.int 0)))
  (sSeq (sIf (tOf (eBin ltOp (eVar 5) (eCB (one1 lenA) (aCons (eVar 0) aNil)))) (sAsg (gN 6) (eBin ixOp (eVar 0) (eVar 5))) sNil)
  (sSeq (sAsg (gN 7) (eCB (one1 absA) (aCons (eVar 6) aNil)))
  (sIf (tOf (eBin geOp (eVar 7) (eBin powOp (eC (.int 10)) (eC (.int 30))))) (sFor (mRng1 (aCons (eVar 2) aNil)) (gN 8) L1__law_deck) (sSeq (sAsg (gN 4) (eBin modOp (eCB (one1 intA) (aCons (eBin (addOp false) (eBin (addOp false) (eBin (addOp false) (eBin (mulOp false) (eVar 4) (eC (.int 48271))) (eBin (mulOp false) (eC (.int 2)) (eVar 7))) (eCB (one1 intA) (aCons (eBin ltOp (eVar 6) (eC (.int 0))) aNil))) (eVar 5)) aNil)) (eC (.int 2147483647))))
  (sFor (mRng1 (aCons (eVar 2) aNil)) (gN 8) L2__law_deck))))))
noncomputable def B__law_deck : MS :=
  (sSeq (sAsg (gN 3) (eLst true aNil))
  (sSeq (sAsg (gN 4) (eBin (addOp false) (eC (.int 7)) (eCB (one1 lenA) (aCons (eVar 0) aNil))))
  (sSeq (sFor (mRng1 (aCons (eVar 1) aNil)) (gN 5) L3__law_deck)
  (sSeq (sEx (eM "list" reverseM (eVar 3) aNil))
  (sRet (eVar 3))))))
noncomputable def M__law_deck : List A → Store → Res A := fnM true 3 9 B__law_deck
noncomputable def B__law_take : MS :=
  (sSeq (sIf (tOf (eBin eqOp (eCB (one1 lenA) (aCons (eVar 0) aNil)) (eC (.int 0)))) (sRet (eC (.int 0))) sNil)
  (sRet (eBin modOp (eCB (one1 intA) (aCons (eM "list" popM (eVar 0) aNil) aNil)) (eVar 1))))
noncomputable def M__law_take : List A → Store → Res A := fnM false 2 2 B__law_take
noncomputable def L1__law_word : MS :=
  (sSeq (sAsg (gN 5) (eBin (addOp false) (eC (.int 1)) (eCall M__law_take (aCons (eVar 0) (aCons (eVar 3) aNil)))))
  (sSeq (sAsg (gN 6) (eCall M__law_take (aCons (eVar 0) (aCons (eC (.int 4)) aNil))))
  (sSeq (sIf (tAndM (tOf (eBin eqOp (eVar 6) (eC (.int 0)))) (tOf (eBin gtOp (eVar 4) (eC (.int 0))))) (sAsg (gN 5) (eCB (one1 absA) (aCons (eBin ixOp (eVar 2) (eUn negOp (eC (.int 1)))) aNil))) sNil)
  (sSeq (sIf (tAndM (tOf (eBin eqOp (eVar 6) (eC (.int 1)))) (tOf (eBin gtOp (eVar 4) (eC (.int 1))))) (sAsg (gN 5) (eCB (one1 absA) (aCons (eBin ixOp (eVar 2) (eUn negOp (eC (.int 2)))) aNil))) sNil)
  (sEx (eM "list" appendM (eVar 2) (aCons (eBin ixOp (eLst false (aCons (eVar 5) (aCons (eVar 5) (aCons (eUn negOp (eVar 5)) aNil)))) (eCall M__law_take (aCons (eVar 0) (aCons (eC (.int 3)) aNil)))) aNil)))))))
noncomputable def B__law_word : MS :=
  (sSeq (sAsg (gN 2) (eLst true aNil))
  (sSeq (sAsg (gN 3) (eBin ixOp (eLst false (aCons (eBin subOp (eVar 1) (eC (.int 1))) (aCons (eCB (two2 minA) (aCons (eC (.int 3)) (aCons (eBin subOp (eVar 1) (eC (.int 1))) aNil))) aNil))) (eCall M__law_take (aCons (eVar 0) (aCons (eC (.int 2)) aNil)))))
  (sSeq (sFor (mRng1 (aCons (eBin (mulOp false) (eCall M__law_take (aCons (eVar 0) (aCons (eC (.int 21)) aNil))) (eCB (one1 intA) (aCons (eBin gtOp (eVar 1) (eC (.int 1))) aNil))) aNil)) (gN 4) L1__law_word)
  (sRet (eVar 2)))))
noncomputable def M__law_word : List A → Store → Res A := fnM false 2 7 B__law_word
noncomputable def B__law_step : MS :=
  (sSeq (sAsg (gN 3) (eBin ixOp (eLst false (aCons (eC (.str "create")) (aCons (eC (.str "cancel")) (aCons (eC (.str "cancel")) (aCons (eC (.str "swap")) (aCons (eC (.str "swap")) (aCons (eC (.str "turn")) (aCons (eC (.str "turn")) (aCons (eC (.str "turn")) aNil))))))))) (eCall M__law_take (aCons (eVar 0) (aCons (eC (.int 8)) aNil)))))
  (sSeq (sAsg (gN 4) (eBin subOp (eCall M__law_take (aCons (eVar 0) (aCons (eBin (addOp false) (eCB (one1 lenA) (aCons (eVar 2) aNil)) (eC (.int 3))) aNil))) (eC (.int 1))))
  (sSeq (sIf (tOf (eBin eqOp (eVar 3) (eC (.str "create")))) (sSeq (sAsg (gN 5) (eBin ixOp (eLst false (aCons (eBin (addOp false) (eC (.int 1)) (eCall M__law_take (aCons (eVar 0) (aCons (eC (.int 8)) aNil)))) (aCons (eC (.int 0)) (aCons (eVar 1) (aCons (eCB (two2 maxA) (aCons (eC (.int 1)) (aCons (eBin subOp (eVar 1) (eC (.int 1))) aNil))) aNil))))) (eCall M__law_take (aCons (eVar 0) (aCons (eC (.int 4)) aNil)))))
  (sRet (eTup (aCons (eVar 3) (aCons (eVar 4) (aCons (eBin ixOp (eLst false (aCons (eVar 5) (aCons (eUn negOp (eVar 5)) aNil))) (eCall M__law_take (aCons (eVar 0) (aCons (eC (.int 2)) aNil)))) aNil)))))) sNil)
  (sRet (eTup (aCons (eVar 3) (aCons (eVar 4) aNil)))))))
noncomputable def M__law_step : List A → Store → Res A := fnM false 3 6 B__law_step
noncomputable def B__law_made : MS :=
  (sSeq (sAsg (gN 3) (eBin ixOp (eVar 2) (eC (.int 1))))
  (sSeq (sIf (tOf (eBin eqOp (eBin ixOp (eVar 2) (eC (.int 0))) (eC (.str "create")))) (sSeq (sIf (tOrM (tOf (eBin ltOp (eVar 3) (eC (.int 0)))) (tOrM (tOf (eBin gtOp (eVar 3) (eCB (one1 lenA) (aCons (eVar 1) aNil)))) (tOrM (tOf (eBin eqOp (eBin ixOp (eVar 2) (eC (.int 2))) (eC (.int 0)))) (tOf (eBin gtOp (eCB (one1 absA) (aCons (eBin ixOp (eVar 2) (eC (.int 2))) aNil)) (eBin subOp (eVar 0) (eC (.int 1)))))))) (sRet (eC .non)) sNil)
  (sRet (eBin (addOp false) (eBin (addOp false) (eSl false (eVar 1) oNone (oSome (eVar 3))) (eLst false (aCons (eBin ixOp (eVar 2) (eC (.int 2))) (aCons (eUn negOp (eBin ixOp (eVar 2) (eC (.int 2)))) aNil)))) (eSl false (eVar 1) (oSome (eVar 3)) oNone)))) sNil)
  (sSeq (sAsg (gN 4) (eBin (addOp false) (eC (.int 2)) (eCB (one1 intA) (aCons (eBin eqOp (eBin ixOp (eVar 2) (eC (.int 0))) (eC (.str "turn"))) aNil))))
  (sSeq (sIf (tOrM (tOf (eBin ltOp (eVar 3) (eC (.int 0)))) (tOf (eBin gtOp (eBin (addOp false) (eVar 3) (eVar 4)) (eCB (one1 lenA) (aCons (eVar 1) aNil))))) (sRet (eC .non)) sNil)
  (sSeq (sAsg (gN 5) (eBin ixOp (eVar 1) (eVar 3)))
  (sSeq (sAsg (gN 6) (eBin ixOp (eVar 1) (eBin (addOp false) (eVar 3) (eC (.int 1)))))
  (sSeq (sIf (tAndM (tOf (eBin eqOp (eBin ixOp (eVar 2) (eC (.int 0))) (eC (.str "cancel")))) (tOf (eBin eqOp (eBin (addOp false) (eVar 5) (eVar 6)) (eC (.int 0))))) (sRet (eBin (addOp false) (eSl false (eVar 1) oNone (oSome (eVar 3))) (eSl false (eVar 1) (oSome (eBin (addOp false) (eVar 3) (eC (.int 2)))) oNone))) sNil)
  (sSeq (sIf (tAndM (tOf (eBin eqOp (eBin ixOp (eVar 2) (eC (.int 0))) (eC (.str "swap")))) (tOf (eBin gtOp (eCB (one1 absA) (aCons (eBin subOp (eCB (one1 absA) (aCons (eVar 5) aNil)) (eCB (one1 absA) (aCons (eVar 6) aNil))) aNil)) (eC (.int 1))))) (sRet (eBin (addOp false) (eBin (addOp false) (eSl false (eVar 1) oNone (oSome (eVar 3))) (eLst false (aCons (eVar 6) (aCons (eVar 5) aNil)))) (eSl false (eVar 1) (oSome (eBin (addOp false) (eVar 3) (eC (.int 2)))) oNone))) sNil)
  (sSeq (sIf (tAndM (tOf (eBin eqOp (eBin ixOp (eVar 2) (eC (.int 0))) (eC (.str "turn")))) (tAndM (tOf (eBin eqOp (eBin ixOp (eVar 1) (eBin (addOp false) (eVar 3) (eC (.int 2)))) (eVar 5))) (tAndM (tOf (eBin gtOp (eBin (mulOp false) (eVar 5) (eVar 6)) (eC (.int 0)))) (tOf (eBin eqOp (eCB (one1 absA) (aCons (eBin subOp (eVar 5) (eVar 6)) aNil)) (eC (.int 1))))))) (sRet (eBin (addOp false) (eBin (addOp false) (eSl false (eVar 1) oNone (oSome (eVar 3))) (eLst false (aCons (eVar 6) (aCons (eVar 5) (aCons (eVar 6) aNil))))) (eSl false (eVar 1) (oSome (eBin (addOp false) (eVar 3) (eC (.int 3)))) oNone))) sNil)
  (sRet (eC .non)))))))))))
noncomputable def M__law_made : List A → Store → Res A := fnM false 3 7 B__law_made
noncomputable def B_created : MS :=
  (sSeq (sIf (tOrM (tNotM (tOf (eChain leOp leOp (eC (.int 0)) (eVar 2) (eCB (one1 lenA) (aCons (eVar 1) aNil))))) (tOrM (tOf (eBin eqOp (eVar 3) (eC (.int 0)))) (tOf (eBin geOp (eCB (one1 absA) (aCons (eVar 3) aNil)) (eVar 0))))) (sRaise (mkWhat "IllegalMove" (eC (.str "create")))) sNil)
  (sRet (eBin (addOp false) (eBin (addOp false) (eSl false (eVar 1) oNone (oSome (eVar 2))) (eLst false (aCons (eVar 3) (aCons (eUn negOp (eVar 3)) aNil)))) (eSl false (eVar 1) (oSome (eVar 2)) oNone))))
noncomputable def M_created : List A → Store → Res A := fnM false 4 4 B_created
noncomputable def B_replaced : MS :=
  (sSeq (sIf (tOf (eBin eqOp (eVar 0) (eC (.str "cancel")))) (sRet (eIf (tOf (eBin eqOp (eBin ixOp (eVar 1) (eC (.int 0))) (eUn negOp (eBin ixOp (eVar 1) (eC (.int 1)))))) (eLst false aNil) (eC .non))) sNil)
  (sSeq (sAsg (gN 2) (eCB (one1 absA) (aCons (eBin subOp (eCB (one1 absA) (aCons (eBin ixOp (eVar 1) (eC (.int 0))) aNil)) (eCB (one1 absA) (aCons (eBin ixOp (eVar 1) (eC (.int 1))) aNil))) aNil)))
  (sSeq (sIf (tOf (eBin eqOp (eVar 0) (eC (.str "swap")))) (sRet (eIf (tOf (eBin geOp (eVar 2) (eC (.int 2)))) (eLst false (aCons (eBin ixOp (eVar 1) (eC (.int 1))) (aCons (eBin ixOp (eVar 1) (eC (.int 0))) aNil))) (eC .non))) sNil)
  (sSeq (sIf (tOrM (tOf (eBin neOp (eBin ixOp (eVar 1) (eC (.int 0))) (eBin ixOp (eVar 1) (eC (.int 2))))) (tOrM (tOf (eBin neOp (eVar 2) (eC (.int 1)))) (tOf (eBin neOp (eBin gtOp (eBin ixOp (eVar 1) (eC (.int 0))) (eC (.int 0))) (eBin gtOp (eBin ixOp (eVar 1) (eC (.int 1))) (eC (.int 0))))))) (sRet (eC .non)) sNil)
  (sRet (eLst false (aCons (eBin ixOp (eVar 1) (eC (.int 1))) (aCons (eBin ixOp (eVar 1) (eC (.int 0))) (aCons (eBin ixOp (eVar 1) (eC (.int 1))) aNil)))))))))
noncomputable def M_replaced : List A → Store → Res A := fnM false 2 3 B_replaced
noncomputable def B_make_step : MS :=
  (sSeq (sIf (tOf (eBin eqOp (eBin ixOp (eVar 2) (eC (.int 0))) (eC (.str "create")))) (sRet (eCall M_created (aCons (eVar 0) (aCons (eVar 1) (aCons (eBin ixOp (eVar 2) (eC (.int 1))) (aCons (eBin ixOp (eVar 2) (eC (.int 2))) aNil)))))) sNil)
  (sSeq (sAsg (gN 3) (eBin ixOp (eVar 2) (eC (.int 1))))
  (sSeq (sAsg (gN 4) (eBin (wixOp "SIZES" [("cancel", 2), ("swap", 2), ("turn", 3)]) (eC (.glo "SIZES")) (eBin ixOp (eVar 2) (eC (.int 0)))))
  (sSeq (sIf (tNotM (tOf (eChain leOp leOp (eC (.int 0)) (eVar 3) (eBin subOp (eCB (one1 lenA) (aCons (eVar 1) aNil)) (eVar 4))))) (sRaise (mkWhat "IllegalMove" (eBin ixOp (eVar 2) (eC (.int 0))))) sNil)
  (sSeq (sAsg (gN 5) (eCall M_replaced (aCons (eBin ixOp (eVar 2) (eC (.int 0))) (aCons (eSl false (eVar 1) (oSome (eVar 3)) (oSome (eBin (addOp false) (eVar 3) (eVar 4)))) aNil))))
  (sSeq (sIf (tOf (eBin (isNOp false) (eVar 5) (eC .non))) (sRaise (mkWhat "IllegalMove" (eBin ixOp (eVar 2) (eC (.int 0))))) sNil)
  (sRet (eBin (addOp false) (eBin (addOp false) (eSl false (eVar 1) oNone (oSome (eVar 3))) (eVar 5)) (eSl false (eVar 1) (oSome (eBin (addOp false) (eVar 3) (eVar 4))) oNone)))))))))
noncomputable def M_make_step : List A → Store → Res A := fnM false 3 6 B_make_step
noncomputable def Y1__law_told : MS :=
  (sRet (eCall M_make_step (aCons (eVar 0) (aCons (eVar 1) (aCons (eVar 2) aNil)))))
noncomputable def X2__law_told : Addr → Str → Option Addr → MS :=
  fun a c d => (sRet (eTup (aCons (eC (.str "illegal")) (aCons (eXf ["IllegalMove"] "what" a c d (eVar 3)) aNil))))
noncomputable def B__law_told : MS :=
  (sTryAs [("IllegalMove", true)] 3 Y1__law_told X2__law_told)
noncomputable def M__law_told : List A → Store → Res A := fnM false 3 4 B__law_told
noncomputable def e1__law_plain (self : List A → Store → Res A) : AEnv → Store → Res A :=
  (eCall self (aCons (eVar 1) aNil))
noncomputable def B__law_plain (self : List A → Store → Res A) : MS :=
  (sSeq (sIf (tTru (eIsiT (eVar 0) (aCons (eC (.ty "tuple")) (aCons (eC (.ty "list")) aNil)))) (sRet (eBin (addOp false) (eLst false (aCons (eCB (two2 isiB) (aCons (eVar 0) (aCons (eC (.ty "list")) aNil))) aNil)) (eLc false (mSeq (eVar 0)) (gN 1) [1] tYesM (e1__law_plain self)))) sNil)
  (sSeq (sIf (tOrM (tOf (eBin (isNOp false) (eVar 0) (eC .non))) (tTru (eCB (two2 isiB) (aCons (eVar 0) (aCons (eC (.ty "bool")) aNil))))) (sRet (eBin ixOp (eLst false (aCons (eC (.str "None")) (aCons (eC (.str "False")) (aCons (eC (.str "True")) aNil)))) (eBin (addOp false) (eCB (one1 intA) (aCons (eBin (isNOp true) (eVar 0) (eC .non)) aNil)) (eCB (one1 intA) (aCons (eBin (isNOp false) (eVar 0) (eC (.bl true))) aNil))))) sNil)
  (sSeq (sIf (tTru (eIsiT (eVar 0) (aCons (eC (.ty "int")) (aCons (eC (.ty "str")) aNil)))) (sRet (eLst false (aCons (eCB (two2 isiB) (aCons (eVar 0) (aCons (eC (.ty "str")) aNil))) (aCons (eVar 0) aNil)))) sNil)
  (sRet (eC (.str "another"))))))
noncomputable def M__law_plain_ : Nat → List A → Store → Res A
  | 0 => fun _ _ => .stuck
  | n + 1 => fnM false 1 2 (B__law_plain (M__law_plain_ n))
noncomputable def M__law_plain : List A → Store → Res A := M__law_plain_ 6
noncomputable def B__law_wrong_end : MS :=
  (sSeq (sAsg (gN 2) (eCall M__law_take (aCons (eVar 0) (aCons (eBin (addOp false) (eCB (one1 lenA) (aCons (eVar 1) aNil)) (eC (.int 1))) aNil))))
  (sSeq (sAsg (gN 3) (eCall M__law_take (aCons (eVar 0) (aCons (eC (.int 4)) aNil))))
  (sSeq (sIf (tOf (eBin eqOp (eVar 3) (eC (.int 0)))) (sRet (eBin (addOp false) (eBin (addOp false) (eSl false (eVar 1) oNone (oSome (eVar 2))) (eLst false (aCons (eC (.int 1)) aNil))) (eSl false (eVar 1) (oSome (eVar 2)) oNone))) sNil)
  (sSeq (sIf (tAndM (tOf (eBin eqOp (eVar 3) (eC (.int 1)))) (tOf (eBin gtOp (eCB (one1 lenA) (aCons (eVar 1) aNil)) (eC (.int 0))))) (sRet (eIf (tOf (eBin ltOp (eVar 2) (eCB (one1 lenA) (aCons (eVar 1) aNil)))) (eBin (addOp false) (eSl false (eVar 1) oNone (oSome (eVar 2))) (eSl false (eVar 1) (oSome (eBin (addOp false) (eVar 2) (eC (.int 1)))) oNone)) (eSl false (eVar 1) (oSome (eC (.int 1))) oNone))) sNil)
  (sSeq (sIf (tAndM (tOf (eBin eqOp (eVar 3) (eC (.int 2)))) (tOf (eBin ltOp (eVar 2) (eCB (one1 lenA) (aCons (eVar 1) aNil))))) (sRet (eBin (addOp false) (eBin (addOp false) (eSl false (eVar 1) oNone (oSome (eVar 2))) (eLst false (aCons (eUn negOp (eBin ixOp (eVar 1) (eVar 2))) aNil))) (eSl false (eVar 1) (oSome (eBin (addOp false) (eVar 2) (eC (.int 1)))) oNone))) sNil)
  (sRet (eVar 1)))))))
noncomputable def M__law_wrong_end : List A → Store → Res A := fnM false 2 4 B__law_wrong_end
noncomputable def L1_judge_derivation : MS :=
  (sAsg (gN 1) (eCall M_make_step (aCons (eVar 0) (aCons (eVar 1) (aCons (eVar 4) aNil)))))
noncomputable def Y2_judge_derivation : MS :=
  (sFor (mSeq (eVar 2)) (gN 4) L1_judge_derivation)
noncomputable def X3_judge_derivation : Addr → Str → Option Addr → MS :=
  fun a c d => (sRet (eC (.bl false)))
noncomputable def B_judge_derivation : MS :=
  (sSeq (sAsg (gN 1) (eCB (one1 (listA false)) (aCons (eVar 1) aNil)))
  (sSeq (sTryNo [("IllegalMove", true)] Y2_judge_derivation X3_judge_derivation)
  (sRet (eBin eqOp (eVar 1) (eVar 3)))))
noncomputable def M_judge_derivation : List A → Store → Res A := fnM false 4 5 B_judge_derivation
noncomputable def L1_law : MS :=
  (sSeq (sAsg (gN 10) (eCall M__law_step (aCons (eVar 1) (aCons (eVar 2) (aCons (eVar 3) aNil)))))
  (sSeq (sAsg (gN 11) (eCall M__law_made (aCons (eVar 2) (aCons (eVar 3) (aCons (eVar 10) aNil)))))
  (sSeq (sAsg (gN 12) (eIf (tOf (eBin (isNOp false) (eVar 11) (eC .non))) (eTup (aCons (eC (.str "illegal")) (aCons (eBin ixOp (eVar 10) (eC (.int 0))) aNil))) (eVar 11)))
  (sSeq (sAsg (gN 13) (eCB (one1 (listA false)) (aCons (eVar 3) aNil)))
  (sIf (tOrM (tOf (eBin neOp (eCall M__law_plain (aCons (eCall M__law_told (aCons (eVar 2) (aCons (eVar 13) (aCons (eVar 10) aNil)))) aNil)) (eCall M__law_plain (aCons (eVar 12) aNil)))) (tOf (eBin neOp (eVar 13) (eVar 3)))) (sRet (eC (.bl false))) sNil)))))
noncomputable def L2_law : MS :=
  (sIf (tOf (eBin (isNOp false) (eCall M__law_made (aCons (eVar 2) (aCons (eVar 6) (aCons (eVar 10) aNil)))) (eC .non))) (sAsg (gN 10) (eCall M__law_step (aCons (eVar 1) (aCons (eVar 2) (aCons (eVar 6) aNil))))) sNil)
noncomputable def L3_law : MS :=
  (sSeq (sAsg (gN 10) (eCall M__law_step (aCons (eVar 1) (aCons (eVar 2) (aCons (eVar 6) aNil)))))
  (sSeq (sFor (mRng1 (aCons (eC (.int 8)) aNil)) (gN 14) L2_law)
  (sSeq (sAsg (gN 11) (eCall M__law_made (aCons (eVar 2) (aCons (eVar 6) (aCons (eVar 10) aNil)))))
  (sIf (tOf (eBin (isNOp true) (eVar 11) (eC .non))) (sSeq (sAsg (gN 6) (eVar 11))
  (sEx (eM "list" appendM (eVar 5) (aCons (eVar 10) aNil)))) (sIf (tOf (eBin eqOp (eCall M__law_take (aCons (eVar 1) (aCons (eC (.int 20)) aNil))) (eC (.int 0)))) (sSeq (sEx (eM "list" appendM (eVar 5) (aCons (eVar 10) aNil)))
  (sAsg (gN 7) (eC (.bl false)))) sNil)))))
noncomputable def B_law : MS :=
  (sSeq (sAsg (gN 1) (eCall M__law_deck (aCons (eVar 0) (aCons (eC (.int 40)) (aCons (eC (.int 14)) aNil)))))
  (sSeq (sAsg (gN 2) (eBin (addOp false) (eC (.int 1)) (eCall M__law_take (aCons (eVar 1) (aCons (eC (.int 8)) aNil)))))
  (sSeq (sAsg (gN 3) (eCall M__law_word (aCons (eVar 1) (aCons (eVar 2) aNil))))
  (sSeq (sFor (mRng1 (aCons (eC (.int 12)) aNil)) (gN 4) L1_law)
  (sSeq (sAsg (gN 5) (eLst true aNil))
  (sSeq (sAsg (gN 6) (eCB (one1 (listA false)) (aCons (eVar 3) aNil)))
  (sSeq (sAsg (gN 7) (eC (.bl true)))
  (sSeq (sFor (mRng1 (aCons (eCall M__law_take (aCons (eVar 1) (aCons (eC (.int 13)) aNil))) aNil)) (gN 4) L3_law)
  (sSeq (sAsg (gN 8) (eVar 6))
  (sSeq (sIf (tOf (eBin eqOp (eCall M__law_take (aCons (eVar 1) (aCons (eC (.int 3)) aNil))) (eC (.int 0)))) (sAsg (gN 8) (eCall M__law_wrong_end (aCons (eVar 1) (aCons (eVar 6) aNil)))) sNil)
  (sSeq (sAsg (gN 9) (eCall M_judge_derivation (aCons (eVar 2) (aCons (eCB (one1 (listA false)) (aCons (eVar 3) aNil)) (aCons (eCB (one1 (listA false)) (aCons (eVar 5) aNil)) (aCons (eCB (one1 (listA false)) (aCons (eVar 8) aNil)) aNil))))))
  (sRet (eBin eqOp (eCall M__law_plain (aCons (eLst false (aCons (eVar 9) aNil)) aNil)) (eCall M__law_plain (aCons (eLst false (aCons (eAndV (eVar 7) (eBin eqOp (eVar 8) (eVar 6))) aNil)) aNil)))))))))))))))
noncomputable def M_law : List A → Store → Res A := fnM false 1 15 B_law
end Gk05

set_option Elab.async false
set_option linter.all false
set_option maxRecDepth 100000
set_option maxHeartbeats 4000000
namespace Gk05
open PySem PySem.Spec L2 SL
open PyProof.Rows hiding St
structure Txt (w : World) (K : PySem.W.Frag) (mg : Str → Option Value) : Prop where
  b_abs : mg "abs" = none
  b_bool : mg "bool" = none
  b_int : mg "int" = none
  b_isinstance : mg "isinstance" = none
  b_len : mg "len" = none
  b_list : mg "list" = none
  b_max : mg "max" = none
  b_min : mg "min" = none
  b_range : mg "range" = none
  b_str : mg "str" = none
  b_tuple : mg "tuple" = none
  g__law_deck : mg "_law_deck" = some (.ref (He.ga K "_law_deck"))
  g__law_take : mg "_law_take" = some (.ref (He.ga K "_law_take"))
  g__law_word : mg "_law_word" = some (.ref (He.ga K "_law_word"))
  g__law_step : mg "_law_step" = some (.ref (He.ga K "_law_step"))
  g__law_made : mg "_law_made" = some (.ref (He.ga K "_law_made"))
  g_created : mg "created" = some (.ref (He.ga K "created"))
  g_replaced : mg "replaced" = some (.ref (He.ga K "replaced"))
  g_make_step : mg "make_step" = some (.ref (He.ga K "make_step"))
  g__law_told : mg "_law_told" = some (.ref (He.ga K "_law_told"))
  g__law_plain : mg "_law_plain" = some (.ref (He.ga K "_law_plain"))
  g__law_wrong_end : mg "_law_wrong_end" = some (.ref (He.ga K "_law_wrong_end"))
  g_judge_derivation : mg "judge_derivation" = some (.ref (He.ga K "judge_derivation"))
  g_law : mg "law" = some (.ref (He.ga K "law"))
  g_KnotError : mg "KnotError" = some (.ref (He.ga K "KnotError"))
  g_IllegalMove : mg "IllegalMove" = some (.ref (He.ga K "IllegalMove"))
  g_SIZES : mg "SIZES" = some (.ref (He.ga K "SIZES"))
  xm_IllegalMove : ∀ p ∈ ([("IllegalMove", true)] : List (Str × Bool)), PySem.W.exmOne K (.ref (He.ga K p.1)) (.ref (He.ga K "IllegalMove")) = some p.2
  xf : ∀ c ∈ (["IllegalMove"] : List Str), XfC K (He.ga K c) ∧ PySem.W.findIn K (.ref (He.ga K c)) "what" = some none
  wd_SIZES : WDct K w "SIZES" [("cancel", 2), ("swap", 2), ("turn", 3)]
section
variable {P : Program} {w : World} {K : PySem.W.Frag} {mg : Str → Option Value} {base : Heap}
theorem sc__law_deck : FnScope ["script", "cells", "each", "deck", "seed", "k", "cell", "rest", "at"] ["script", "cells", "each"] (defScope s__law_deck) := ⟨rfl, rfl, rfl, by decide +kernel, rfl, by decide +kernel, by decide +kernel⟩
theorem ok__law_deck (T : Txt w K mg)   {fd : FuncData} (F : FunD K "_law_deck" "_law_deck" (defArgs s__law_deck) (defBody s__law_deck) (defScope s__law_deck) [] [] (He.ga K "_law_deck") fd) : FnS P w K mg base 1 (He.ga K "_law_deck") ["script", "cells", "each"] M__law_deck :=
  fnS_of (rc := true) (N := ["script", "cells", "each", "deck", "seed", "k", "cell", "rest", "at"]) (ps := ["script", "cells", "each"]) (k := 0) (m := B__law_deck) F sc__law_deck (F.bindsN fun _ _ _ _ _ _ us hl => match us, hl with | [_, _, _], _ => rfl) (by
    refine b_cons ?_ ?_
    · refine st_set (i := 3) rfl (.inl rfl) ?_
      refine s_lst (mk := true) ?_
      exact a_nil 
    · refine b_cons ?_ ?_
      · refine st_set (i := 4) rfl (.inl rfl) ?_
        refine s_add (mk := false) ?_ ?_
        · exact s_int 
        · refine s_cb (cb_len) rfl T.b_len PySem.boot_len ?_
          refine a_cons ?_ ?_
          · exact s_var (i := 0) rfl (.inl rfl)
          · exact a_nil 
      · refine b_cons ?_ ?_
        · refine st_for (own := [5]) ?_ ?_ ?_
          · refine i_rng1 rfl T.b_range ?_
            refine a_cons ?_ ?_
            · exact s_var (i := 1) rfl (.inl rfl)
            · exact a_nil 
          · exact g_name (i := 5) rfl (.inl rfl)
          · refine b_cons ?_ ?_
            · refine st_set (i := 6) rfl (.inl rfl) ?_
              exact s_int 
            · refine b_cons ?_ ?_
              · refine st_if ?_ ?_ ?_
                · refine t_c c_lt ?_ ?_
                  · exact s_var (i := 5) rfl (.inl rfl)
                  · refine s_cb (cb_len) rfl T.b_len PySem.boot_len ?_
                    refine a_cons ?_ ?_
                    · exact s_var (i := 0) rfl (.inl rfl)
                    · exact a_nil 
                · refine b_one ?_
                  refine st_set (i := 6) rfl (.inl rfl) ?_
                  refine s_ix ?_ ?_
                  · exact s_var (i := 0) rfl (.inl rfl)
                  · exact s_var (i := 5) rfl (.inl rfl)
                · exact b_nil 
              · refine b_cons ?_ ?_
                · refine st_set (i := 7) rfl (.inl rfl) ?_
                  refine s_cb (cb_abs) rfl T.b_abs PyProof.Rows.boot_abs ?_
                  refine a_cons ?_ ?_
                  · exact s_var (i := 6) rfl (.inl rfl)
                  · exact a_nil 
                · refine b_one ?_
                  refine st_if ?_ ?_ ?_
                  · refine t_c c_ge ?_ ?_
                    · exact s_var (i := 7) rfl (.inl rfl)
                    · refine s_pow ?_ ?_
                      · exact s_int 
                      · exact s_int 
                  · refine b_one ?_
                    refine st_for (own := [8]) ?_ ?_ ?_
                    · refine i_rng1 rfl T.b_range ?_
                      refine a_cons ?_ ?_
                      · exact s_var (i := 2) rfl (.inl rfl)
                      · exact a_nil 
                    · exact g_name (i := 8) rfl (.inl rfl)
                    · refine b_cons ?_ ?_
                      · refine st_ex ?_
                        refine s_m PySem.F.plainAttrs_list PySem.F.slot_list_append PySem.F.type_list_append m_append ?_ ?_
                        · exact s_var (i := 3) rfl (.inl rfl)
                        · refine a_cons ?_ ?_
                          · refine s_mod ?_ ?_
                            · refine s_cty (cb_int) rfl T.b_int PyProof.Rows.boot_int ?_
                              refine a_cons ?_ ?_
                              · exact s_var (i := 7) rfl (.inl rfl)
                              · exact a_nil 
                            · exact s_int 
                          · exact a_nil 
                      · refine b_one ?_
                        refine st_set (i := 7) rfl (.inl rfl) ?_
                        refine s_fdiv ?_ ?_
                        · exact s_var (i := 7) rfl (.inl rfl)
                        · exact s_int 
                  · refine b_cons ?_ ?_
                    · refine st_set (i := 4) rfl (.inl rfl) ?_
                      refine s_mod ?_ ?_
                      · refine s_cty (cb_int) rfl T.b_int PyProof.Rows.boot_int ?_
                        refine a_cons ?_ ?_
                        · refine s_add (mk := false) ?_ ?_
                          · refine s_add (mk := false) ?_ ?_
                            · refine s_add (mk := false) ?_ ?_
                              · refine s_mul (mk := false) ?_ ?_
                                · exact s_var (i := 4) rfl (.inl rfl)
                                · exact s_int 
                              · refine s_mul (mk := false) ?_ ?_
                                · exact s_int 
                                · exact s_var (i := 7) rfl (.inl rfl)
                            · refine s_cty (cb_int) rfl T.b_int PyProof.Rows.boot_int ?_
                              refine a_cons ?_ ?_
                              · refine s_c c_lt ?_ ?_
                                · exact s_var (i := 6) rfl (.inl rfl)
                                · exact s_int 
                              · exact a_nil 
                          · exact s_var (i := 5) rfl (.inl rfl)
                        · exact a_nil 
                      · exact s_int 
                    · refine b_one ?_
                      refine st_for (own := [8]) ?_ ?_ ?_
                      · refine i_rng1 rfl T.b_range ?_
                        refine a_cons ?_ ?_
                        · exact s_var (i := 2) rfl (.inl rfl)
                        · exact a_nil 
                      · exact g_name (i := 8) rfl (.inl rfl)
                      · refine b_cons ?_ ?_
                        · refine st_set (i := 4) rfl (.inl rfl) ?_
                          refine s_mod ?_ ?_
                          · refine s_cty (cb_int) rfl T.b_int PyProof.Rows.boot_int ?_
                            refine a_cons ?_ ?_
                            · refine s_add (mk := false) ?_ ?_
                              · refine s_add (mk := false) ?_ ?_
                                · refine s_mul (mk := false) ?_ ?_
                                  · exact s_var (i := 4) rfl (.inl rfl)
                                  · exact s_int 
                                · exact s_var (i := 8) rfl (.inl rfl)
                              · exact s_int 
                            · exact a_nil 
                          · exact s_int 
                        · refine b_one ?_
                          refine st_ex ?_
                          refine s_m PySem.F.plainAttrs_list PySem.F.slot_list_append PySem.F.type_list_append m_append ?_ ?_
                          · exact s_var (i := 3) rfl (.inl rfl)
                          · refine a_cons ?_ ?_
                            · refine s_mod ?_ ?_
                              · refine s_cty (cb_int) rfl T.b_int PyProof.Rows.boot_int ?_
                                refine a_cons ?_ ?_
                                · refine s_fdiv ?_ ?_
                                  · exact s_var (i := 4) rfl (.inl rfl)
                                  · exact s_int 
                                · exact a_nil 
                              · exact s_int 
                            · exact a_nil 
        · refine b_cons ?_ ?_
          · refine st_ex ?_
            refine s_m0 PySem.F.plainAttrs_list PySem.F.slot_list_reverse PySem.F.type_list_reverse m_reverse ?_
            exact s_var (i := 3) rfl (.inl rfl)
          · refine b_one ?_
            refine st_ret ?_
            exact s_var (i := 3) rfl (.inl rfl)
    )
theorem sc__law_take : FnScope ["deck", "many"] ["deck", "many"] (defScope s__law_take) := ⟨rfl, rfl, rfl, by decide +kernel, rfl, by decide +kernel, by decide +kernel⟩
theorem ok__law_take (T : Txt w K mg)   {fd : FuncData} (F : FunD K "_law_take" "_law_take" (defArgs s__law_take) (defBody s__law_take) (defScope s__law_take) [] [] (He.ga K "_law_take") fd) : FnS P w K mg base 1 (He.ga K "_law_take") ["deck", "many"] M__law_take :=
  fnS_of (rc := false) (N := ["deck", "many"]) (ps := ["deck", "many"]) (k := 0) (m := B__law_take) F sc__law_take (F.bindsN fun _ _ _ _ _ _ us hl => match us, hl with | [_, _], _ => rfl) (by
    refine b_cons ?_ ?_
    · refine st_if ?_ ?_ ?_
      · refine t_c c_eq ?_ ?_
        · refine s_cb (cb_len) rfl T.b_len PySem.boot_len ?_
          refine a_cons ?_ ?_
          · exact s_var (i := 0) rfl (.inl rfl)
          · exact a_nil 
        · exact s_int 
      · refine b_one ?_
        refine st_ret ?_
        exact s_int 
      · exact b_nil 
    · refine b_one ?_
      refine st_ret ?_
      refine s_mod ?_ ?_
      · refine s_cty (cb_int) rfl T.b_int PyProof.Rows.boot_int ?_
        refine a_cons ?_ ?_
        · refine s_m0 PySem.F.plainAttrs_list PySem.F.slot_list_pop PySem.F.type_list_pop m_pop ?_
          exact s_var (i := 0) rfl (.inl rfl)
        · exact a_nil 
      · exact s_var (i := 1) rfl (.inl rfl)
    )
theorem sc__law_word : FnScope ["deck", "strands", "word", "few", "at", "letter", "again"] ["deck", "strands"] (defScope s__law_word) := ⟨rfl, rfl, rfl, by decide +kernel, rfl, by decide +kernel, by decide +kernel⟩
theorem ok__law_word (T : Txt w K mg) (F__law_take : FnS P w K mg base 1 (He.ga K "_law_take") ["deck", "many"] M__law_take)  {fd : FuncData} (F : FunD K "_law_word" "_law_word" (defArgs s__law_word) (defBody s__law_word) (defScope s__law_word) [] [] (He.ga K "_law_word") fd) : FnS P w K mg base 2 (He.ga K "_law_word") ["deck", "strands"] M__law_word :=
  fnS_of (rc := false) (N := ["deck", "strands", "word", "few", "at", "letter", "again"]) (ps := ["deck", "strands"]) (k := 1) (m := B__law_word) F sc__law_word (F.bindsN fun _ _ _ _ _ _ us hl => match us, hl with | [_, _], _ => rfl) (by
    refine b_cons ?_ ?_
    · refine st_set (i := 2) rfl (.inl rfl) ?_
      refine s_lst (mk := true) ?_
      exact a_nil 
    · refine b_cons ?_ ?_
      · refine st_set (i := 3) rfl (.inl rfl) ?_
        refine s_ix ?_ ?_
        · refine s_lst (mk := false) ?_
          refine a_cons ?_ ?_
          · refine s_sub ?_ ?_
            · exact s_var (i := 1) rfl (.inl rfl)
            · exact s_int 
          · refine a_cons ?_ ?_
            · refine s_cb cb_min2 rfl T.b_min PyProof.Rows.boot_min ?_
              refine a_cons ?_ ?_
              · exact s_int 
              · refine a_cons ?_ ?_
                · refine s_sub ?_ ?_
                  · exact s_var (i := 1) rfl (.inl rfl)
                  · exact s_int 
                · exact a_nil 
            · exact a_nil 
        · refine s_call F__law_take (Nat.le_of_ble_eq_true rfl) rfl T.g__law_take ?_
          refine a_cons ?_ ?_
          · exact s_var (i := 0) rfl (.inl rfl)
          · refine a_cons ?_ ?_
            · exact s_int 
            · exact a_nil 
      · refine b_cons ?_ ?_
        · refine st_for (own := [4]) ?_ ?_ ?_
          · refine i_rng1 rfl T.b_range ?_
            refine a_cons ?_ ?_
            · refine s_mul (mk := false) ?_ ?_
              · refine s_call F__law_take (Nat.le_of_ble_eq_true rfl) rfl T.g__law_take ?_
                refine a_cons ?_ ?_
                · exact s_var (i := 0) rfl (.inl rfl)
                · refine a_cons ?_ ?_
                  · exact s_int 
                  · exact a_nil 
              · refine s_cty (cb_int) rfl T.b_int PyProof.Rows.boot_int ?_
                refine a_cons ?_ ?_
                · refine s_c c_gt ?_ ?_
                  · exact s_var (i := 1) rfl (.inl rfl)
                  · exact s_int 
                · exact a_nil 
            · exact a_nil 
          · exact g_name (i := 4) rfl (.inl rfl)
          · refine b_cons ?_ ?_
            · refine st_set (i := 5) rfl (.inl rfl) ?_
              refine s_add (mk := false) ?_ ?_
              · exact s_int 
              · refine s_call F__law_take (Nat.le_of_ble_eq_true rfl) rfl T.g__law_take ?_
                refine a_cons ?_ ?_
                · exact s_var (i := 0) rfl (.inl rfl)
                · refine a_cons ?_ ?_
                  · exact s_var (i := 3) rfl (.inl rfl)
                  · exact a_nil 
            · refine b_cons ?_ ?_
              · refine st_set (i := 6) rfl (.inl rfl) ?_
                refine s_call F__law_take (Nat.le_of_ble_eq_true rfl) rfl T.g__law_take ?_
                refine a_cons ?_ ?_
                · exact s_var (i := 0) rfl (.inl rfl)
                · refine a_cons ?_ ?_
                  · exact s_int 
                  · exact a_nil 
              · refine b_cons ?_ ?_
                · refine st_if ?_ ?_ ?_
                  · refine t_w ?_
                    refine w_and ?_ ?_
                    · refine t_c c_eq ?_ ?_
                      · exact s_var (i := 6) rfl (.inl rfl)
                      · exact s_int 
                    · refine w_and1 ?_
                      refine t_c c_gt ?_ ?_
                      · exact s_var (i := 4) rfl (.inl rfl)
                      · exact s_int 
                  · refine b_one ?_
                    refine st_set (i := 5) rfl (.inl rfl) ?_
                    refine s_cb (cb_abs) rfl T.b_abs PyProof.Rows.boot_abs ?_
                    refine a_cons ?_ ?_
                    · refine s_ix ?_ ?_
                      · exact s_var (i := 2) rfl (.inl rfl)
                      · refine s_neg ?_
                        exact s_int 
                    · exact a_nil 
                  · exact b_nil 
                · refine b_cons ?_ ?_
                  · refine st_if ?_ ?_ ?_
                    · refine t_w ?_
                      refine w_and ?_ ?_
                      · refine t_c c_eq ?_ ?_
                        · exact s_var (i := 6) rfl (.inl rfl)
                        · exact s_int 
                      · refine w_and1 ?_
                        refine t_c c_gt ?_ ?_
                        · exact s_var (i := 4) rfl (.inl rfl)
                        · exact s_int 
                    · refine b_one ?_
                      refine st_set (i := 5) rfl (.inl rfl) ?_
                      refine s_cb (cb_abs) rfl T.b_abs PyProof.Rows.boot_abs ?_
                      refine a_cons ?_ ?_
                      · refine s_ix ?_ ?_
                        · exact s_var (i := 2) rfl (.inl rfl)
                        · refine s_neg ?_
                          exact s_int 
                      · exact a_nil 
                    · exact b_nil 
                  · refine b_one ?_
                    refine st_ex ?_
                    refine s_m PySem.F.plainAttrs_list PySem.F.slot_list_append PySem.F.type_list_append m_append ?_ ?_
                    · exact s_var (i := 2) rfl (.inl rfl)
                    · refine a_cons ?_ ?_
                      · refine s_ix ?_ ?_
                        · refine s_lst (mk := false) ?_
                          refine a_cons ?_ ?_
                          · exact s_var (i := 5) rfl (.inl rfl)
                          · refine a_cons ?_ ?_
                            · exact s_var (i := 5) rfl (.inl rfl)
                            · refine a_cons ?_ ?_
                              · refine s_neg ?_
                                exact s_var (i := 5) rfl (.inl rfl)
                              · exact a_nil 
                        · refine s_call F__law_take (Nat.le_of_ble_eq_true rfl) rfl T.g__law_take ?_
                          refine a_cons ?_ ?_
                          · exact s_var (i := 0) rfl (.inl rfl)
                          · refine a_cons ?_ ?_
                            · exact s_int 
                            · exact a_nil 
                      · exact a_nil 
        · refine b_one ?_
          refine st_ret ?_
          exact s_var (i := 2) rfl (.inl rfl)
    )
theorem sc__law_step : FnScope ["deck", "strands", "word", "kind", "place", "letter"] ["deck", "strands", "word"] (defScope s__law_step) := ⟨rfl, rfl, rfl, by decide +kernel, rfl, by decide +kernel, by decide +kernel⟩
theorem ok__law_step (T : Txt w K mg) (F__law_take : FnS P w K mg base 1 (He.ga K "_law_take") ["deck", "many"] M__law_take)  {fd : FuncData} (F : FunD K "_law_step" "_law_step" (defArgs s__law_step) (defBody s__law_step) (defScope s__law_step) [] [] (He.ga K "_law_step") fd) : FnS P w K mg base 2 (He.ga K "_law_step") ["deck", "strands", "word"] M__law_step :=
  fnS_of (rc := false) (N := ["deck", "strands", "word", "kind", "place", "letter"]) (ps := ["deck", "strands", "word"]) (k := 1) (m := B__law_step) F sc__law_step (F.bindsN fun _ _ _ _ _ _ us hl => match us, hl with | [_, _, _], _ => rfl) (by
    refine b_cons ?_ ?_
    · refine st_set (i := 3) rfl (.inl rfl) ?_
      refine s_ix ?_ ?_
      · refine s_lst (mk := false) ?_
        refine a_cons ?_ ?_
        · exact s_str 
        · refine a_cons ?_ ?_
          · exact s_str 
          · refine a_cons ?_ ?_
            · exact s_str 
            · refine a_cons ?_ ?_
              · exact s_str 
              · refine a_cons ?_ ?_
                · exact s_str 
                · refine a_cons ?_ ?_
                  · exact s_str 
                  · refine a_cons ?_ ?_
                    · exact s_str 
                    · refine a_cons ?_ ?_
                      · exact s_str 
                      · exact a_nil 
      · refine s_call F__law_take (Nat.le_of_ble_eq_true rfl) rfl T.g__law_take ?_
        refine a_cons ?_ ?_
        · exact s_var (i := 0) rfl (.inl rfl)
        · refine a_cons ?_ ?_
          · exact s_int 
          · exact a_nil 
    · refine b_cons ?_ ?_
      · refine st_set (i := 4) rfl (.inl rfl) ?_
        refine s_sub ?_ ?_
        · refine s_call F__law_take (Nat.le_of_ble_eq_true rfl) rfl T.g__law_take ?_
          refine a_cons ?_ ?_
          · exact s_var (i := 0) rfl (.inl rfl)
          · refine a_cons ?_ ?_
            · refine s_add (mk := false) ?_ ?_
              · refine s_cb (cb_len) rfl T.b_len PySem.boot_len ?_
                refine a_cons ?_ ?_
                · exact s_var (i := 2) rfl (.inl rfl)
                · exact a_nil 
              · exact s_int 
            · exact a_nil 
        · exact s_int 
      · refine b_cons ?_ ?_
        · refine st_if ?_ ?_ ?_
          · refine t_c c_eq ?_ ?_
            · exact s_var (i := 3) rfl (.inl rfl)
            · exact s_str 
          · refine b_cons ?_ ?_
            · refine st_set (i := 5) rfl (.inl rfl) ?_
              refine s_ix ?_ ?_
              · refine s_lst (mk := false) ?_
                refine a_cons ?_ ?_
                · refine s_add (mk := false) ?_ ?_
                  · exact s_int 
                  · refine s_call F__law_take (Nat.le_of_ble_eq_true rfl) rfl T.g__law_take ?_
                    refine a_cons ?_ ?_
                    · exact s_var (i := 0) rfl (.inl rfl)
                    · refine a_cons ?_ ?_
                      · exact s_int 
                      · exact a_nil 
                · refine a_cons ?_ ?_
                  · exact s_int 
                  · refine a_cons ?_ ?_
                    · exact s_var (i := 1) rfl (.inl rfl)
                    · refine a_cons ?_ ?_
                      · refine s_cb cb_max2 rfl T.b_max PyProof.Rows.boot_max ?_
                        refine a_cons ?_ ?_
                        · exact s_int 
                        · refine a_cons ?_ ?_
                          · refine s_sub ?_ ?_
                            · exact s_var (i := 1) rfl (.inl rfl)
                            · exact s_int 
                          · exact a_nil 
                      · exact a_nil 
              · refine s_call F__law_take (Nat.le_of_ble_eq_true rfl) rfl T.g__law_take ?_
                refine a_cons ?_ ?_
                · exact s_var (i := 0) rfl (.inl rfl)
                · refine a_cons ?_ ?_
                  · exact s_int 
                  · exact a_nil 
            · refine b_one ?_
              refine st_ret ?_
              refine s_tup ?_
              refine a_cons ?_ ?_
              · exact s_var (i := 3) rfl (.inl rfl)
              · refine a_cons ?_ ?_
                · exact s_var (i := 4) rfl (.inl rfl)
                · refine a_cons ?_ ?_
                  · refine s_ix ?_ ?_
                    · refine s_lst (mk := false) ?_
                      refine a_cons ?_ ?_
                      · exact s_var (i := 5) rfl (.inl rfl)
                      · refine a_cons ?_ ?_
                        · refine s_neg ?_
                          exact s_var (i := 5) rfl (.inl rfl)
                        · exact a_nil 
                    · refine s_call F__law_take (Nat.le_of_ble_eq_true rfl) rfl T.g__law_take ?_
                      refine a_cons ?_ ?_
                      · exact s_var (i := 0) rfl (.inl rfl)
                      · refine a_cons ?_ ?_
                        · exact s_int 
                        · exact a_nil 
                  · exact a_nil 
          · exact b_nil 
        · refine b_one ?_
          refine st_ret ?_
          refine s_tup ?_
          refine a_cons ?_ ?_
          · exact s_var (i := 3) rfl (.inl rfl)
          · refine a_cons ?_ ?_
            · exact s_var (i := 4) rfl (.inl rfl)
            · exact a_nil 
    )
theorem sc__law_made : FnScope ["strands", "word", "step", "place", "size", "one", "other"] ["strands", "word", "step"] (defScope s__law_made) := ⟨rfl, rfl, rfl, by decide +kernel, rfl, by decide +kernel, by decide +kernel⟩
theorem ok__law_made (T : Txt w K mg)   {fd : FuncData} (F : FunD K "_law_made" "_law_made" (defArgs s__law_made) (defBody s__law_made) (defScope s__law_made) [] [] (He.ga K "_law_made") fd) : FnS P w K mg base 1 (He.ga K "_law_made") ["strands", "word", "step"] M__law_made :=
  fnS_of (rc := false) (N := ["strands", "word", "step", "place", "size", "one", "other"]) (ps := ["strands", "word", "step"]) (k := 0) (m := B__law_made) F sc__law_made (F.bindsN fun _ _ _ _ _ _ us hl => match us, hl with | [_, _, _], _ => rfl) (by
    refine b_cons ?_ ?_
    · refine st_set (i := 3) rfl (.inl rfl) ?_
      refine s_ix ?_ ?_
      · exact s_var (i := 2) rfl (.inl rfl)
      · exact s_int 
    · refine b_cons ?_ ?_
      · refine st_if ?_ ?_ ?_
        · refine t_c c_eq ?_ ?_
          · refine s_ix ?_ ?_
            · exact s_var (i := 2) rfl (.inl rfl)
            · exact s_int 
          · exact s_str 
        · refine b_cons ?_ ?_
          · refine st_if ?_ ?_ ?_
            · refine t_w ?_
              refine w_or ?_ ?_
              · refine t_c c_lt ?_ ?_
                · exact s_var (i := 3) rfl (.inl rfl)
                · exact s_int 
              · refine w_or ?_ ?_
                · refine t_c c_gt ?_ ?_
                  · exact s_var (i := 3) rfl (.inl rfl)
                  · refine s_cb (cb_len) rfl T.b_len PySem.boot_len ?_
                    refine a_cons ?_ ?_
                    · exact s_var (i := 1) rfl (.inl rfl)
                    · exact a_nil 
                · refine w_or ?_ ?_
                  · refine t_c c_eq ?_ ?_
                    · refine s_ix ?_ ?_
                      · exact s_var (i := 2) rfl (.inl rfl)
                      · exact s_int 
                    · exact s_int 
                  · refine w_or1 ?_
                    refine t_c c_gt ?_ ?_
                    · refine s_cb (cb_abs) rfl T.b_abs PyProof.Rows.boot_abs ?_
                      refine a_cons ?_ ?_
                      · refine s_ix ?_ ?_
                        · exact s_var (i := 2) rfl (.inl rfl)
                        · exact s_int 
                      · exact a_nil 
                    · refine s_sub ?_ ?_
                      · exact s_var (i := 0) rfl (.inl rfl)
                      · exact s_int 
            · refine b_one ?_
              refine st_ret ?_
              exact s_non 
            · exact b_nil 
          · refine b_one ?_
            refine st_ret ?_
            refine s_add (mk := false) ?_ ?_
            · refine s_add (mk := false) ?_ ?_
              · refine s_sl (mk := false) ?_ ?_ ?_
                · exact s_var (i := 1) rfl (.inl rfl)
                · exact o_none 
                · refine o_some ?_
                  exact s_var (i := 3) rfl (.inl rfl)
              · refine s_lst (mk := false) ?_
                refine a_cons ?_ ?_
                · refine s_ix ?_ ?_
                  · exact s_var (i := 2) rfl (.inl rfl)
                  · exact s_int 
                · refine a_cons ?_ ?_
                  · refine s_neg ?_
                    refine s_ix ?_ ?_
                    · exact s_var (i := 2) rfl (.inl rfl)
                    · exact s_int 
                  · exact a_nil 
            · refine s_sl (mk := false) ?_ ?_ ?_
              · exact s_var (i := 1) rfl (.inl rfl)
              · refine o_some ?_
                exact s_var (i := 3) rfl (.inl rfl)
              · exact o_none 
        · exact b_nil 
      · refine b_cons ?_ ?_
        · refine st_set (i := 4) rfl (.inl rfl) ?_
          refine s_add (mk := false) ?_ ?_
          · exact s_int 
          · refine s_cty (cb_int) rfl T.b_int PyProof.Rows.boot_int ?_
            refine a_cons ?_ ?_
            · refine s_c c_eq ?_ ?_
              · refine s_ix ?_ ?_
                · exact s_var (i := 2) rfl (.inl rfl)
                · exact s_int 
              · exact s_str 
            · exact a_nil 
        · refine b_cons ?_ ?_
          · refine st_if ?_ ?_ ?_
            · refine t_w ?_
              refine w_or ?_ ?_
              · refine t_c c_lt ?_ ?_
                · exact s_var (i := 3) rfl (.inl rfl)
                · exact s_int 
              · refine w_or1 ?_
                refine t_c c_gt ?_ ?_
                · refine s_add (mk := false) ?_ ?_
                  · exact s_var (i := 3) rfl (.inl rfl)
                  · exact s_var (i := 4) rfl (.inl rfl)
                · refine s_cb (cb_len) rfl T.b_len PySem.boot_len ?_
                  refine a_cons ?_ ?_
                  · exact s_var (i := 1) rfl (.inl rfl)
                  · exact a_nil 
            · refine b_one ?_
              refine st_ret ?_
              exact s_non 
            · exact b_nil 
          · refine b_cons ?_ ?_
            · refine st_set (i := 5) rfl (.inl rfl) ?_
              refine s_ix ?_ ?_
              · exact s_var (i := 1) rfl (.inl rfl)
              · exact s_var (i := 3) rfl (.inl rfl)
            · refine b_cons ?_ ?_
              · refine st_set (i := 6) rfl (.inl rfl) ?_
                refine s_ix ?_ ?_
                · exact s_var (i := 1) rfl (.inl rfl)
                · refine s_add (mk := false) ?_ ?_
                  · exact s_var (i := 3) rfl (.inl rfl)
                  · exact s_int 
              · refine b_cons ?_ ?_
                · refine st_if ?_ ?_ ?_
                  · refine t_w ?_
                    refine w_and ?_ ?_
                    · refine t_c c_eq ?_ ?_
                      · refine s_ix ?_ ?_
                        · exact s_var (i := 2) rfl (.inl rfl)
                        · exact s_int 
                      · exact s_str 
                    · refine w_and1 ?_
                      refine t_c c_eq ?_ ?_
                      · refine s_add (mk := false) ?_ ?_
                        · exact s_var (i := 5) rfl (.inl rfl)
                        · exact s_var (i := 6) rfl (.inl rfl)
                      · exact s_int 
                  · refine b_one ?_
                    refine st_ret ?_
                    refine s_add (mk := false) ?_ ?_
                    · refine s_sl (mk := false) ?_ ?_ ?_
                      · exact s_var (i := 1) rfl (.inl rfl)
                      · exact o_none 
                      · refine o_some ?_
                        exact s_var (i := 3) rfl (.inl rfl)
                    · refine s_sl (mk := false) ?_ ?_ ?_
                      · exact s_var (i := 1) rfl (.inl rfl)
                      · refine o_some ?_
                        refine s_add (mk := false) ?_ ?_
                        · exact s_var (i := 3) rfl (.inl rfl)
                        · exact s_int 
                      · exact o_none 
                  · exact b_nil 
                · refine b_cons ?_ ?_
                  · refine st_if ?_ ?_ ?_
                    · refine t_w ?_
                      refine w_and ?_ ?_
                      · refine t_c c_eq ?_ ?_
                        · refine s_ix ?_ ?_
                          · exact s_var (i := 2) rfl (.inl rfl)
                          · exact s_int 
                        · exact s_str 
                      · refine w_and1 ?_
                        refine t_c c_gt ?_ ?_
                        · refine s_cb (cb_abs) rfl T.b_abs PyProof.Rows.boot_abs ?_
                          refine a_cons ?_ ?_
                          · refine s_sub ?_ ?_
                            · refine s_cb (cb_abs) rfl T.b_abs PyProof.Rows.boot_abs ?_
                              refine a_cons ?_ ?_
                              · exact s_var (i := 5) rfl (.inl rfl)
                              · exact a_nil 
                            · refine s_cb (cb_abs) rfl T.b_abs PyProof.Rows.boot_abs ?_
                              refine a_cons ?_ ?_
                              · exact s_var (i := 6) rfl (.inl rfl)
                              · exact a_nil 
                          · exact a_nil 
                        · exact s_int 
                    · refine b_one ?_
                      refine st_ret ?_
                      refine s_add (mk := false) ?_ ?_
                      · refine s_add (mk := false) ?_ ?_
                        · refine s_sl (mk := false) ?_ ?_ ?_
                          · exact s_var (i := 1) rfl (.inl rfl)
                          · exact o_none 
                          · refine o_some ?_
                            exact s_var (i := 3) rfl (.inl rfl)
                        · refine s_lst (mk := false) ?_
                          refine a_cons ?_ ?_
                          · exact s_var (i := 6) rfl (.inl rfl)
                          · refine a_cons ?_ ?_
                            · exact s_var (i := 5) rfl (.inl rfl)
                            · exact a_nil 
                      · refine s_sl (mk := false) ?_ ?_ ?_
                        · exact s_var (i := 1) rfl (.inl rfl)
                        · refine o_some ?_
                          refine s_add (mk := false) ?_ ?_
                          · exact s_var (i := 3) rfl (.inl rfl)
                          · exact s_int 
                        · exact o_none 
                    · exact b_nil 
                  · refine b_cons ?_ ?_
                    · refine st_if ?_ ?_ ?_
                      · refine t_w ?_
                        refine w_and ?_ ?_
                        · refine t_c c_eq ?_ ?_
                          · refine s_ix ?_ ?_
                            · exact s_var (i := 2) rfl (.inl rfl)
                            · exact s_int 
                          · exact s_str 
                        · refine w_and ?_ ?_
                          · refine t_c c_eq ?_ ?_
                            · refine s_ix ?_ ?_
                              · exact s_var (i := 1) rfl (.inl rfl)
                              · refine s_add (mk := false) ?_ ?_
                                · exact s_var (i := 3) rfl (.inl rfl)
                                · exact s_int 
                            · exact s_var (i := 5) rfl (.inl rfl)
                          · refine w_and ?_ ?_
                            · refine t_c c_gt ?_ ?_
                              · refine s_mul (mk := false) ?_ ?_
                                · exact s_var (i := 5) rfl (.inl rfl)
                                · exact s_var (i := 6) rfl (.inl rfl)
                              · exact s_int 
                            · refine w_and1 ?_
                              refine t_c c_eq ?_ ?_
                              · refine s_cb (cb_abs) rfl T.b_abs PyProof.Rows.boot_abs ?_
                                refine a_cons ?_ ?_
                                · refine s_sub ?_ ?_
                                  · exact s_var (i := 5) rfl (.inl rfl)
                                  · exact s_var (i := 6) rfl (.inl rfl)
                                · exact a_nil 
                              · exact s_int 
                      · refine b_one ?_
                        refine st_ret ?_
                        refine s_add (mk := false) ?_ ?_
                        · refine s_add (mk := false) ?_ ?_
                          · refine s_sl (mk := false) ?_ ?_ ?_
                            · exact s_var (i := 1) rfl (.inl rfl)
                            · exact o_none 
                            · refine o_some ?_
                              exact s_var (i := 3) rfl (.inl rfl)
                          · refine s_lst (mk := false) ?_
                            refine a_cons ?_ ?_
                            · exact s_var (i := 6) rfl (.inl rfl)
                            · refine a_cons ?_ ?_
                              · exact s_var (i := 5) rfl (.inl rfl)
                              · refine a_cons ?_ ?_
                                · exact s_var (i := 6) rfl (.inl rfl)
                                · exact a_nil 
                        · refine s_sl (mk := false) ?_ ?_ ?_
                          · exact s_var (i := 1) rfl (.inl rfl)
                          · refine o_some ?_
                            refine s_add (mk := false) ?_ ?_
                            · exact s_var (i := 3) rfl (.inl rfl)
                            · exact s_int 
                          · exact o_none 
                      · exact b_nil 
                    · refine b_one ?_
                      refine st_ret ?_
                      exact s_non 
    )
theorem sc_created : FnScope ["strands", "word", "place", "letter"] ["strands", "word", "place", "letter"] (defScope s_created) := ⟨rfl, rfl, rfl, by decide +kernel, rfl, by decide +kernel, by decide +kernel⟩
theorem ok_created (T : Txt w K mg)  (X_IllegalMove : KExc P w K mg base (He.ga K "IllegalMove")) {fd : FuncData} (F : FunD K "created" "created" (defArgs s_created) (defBody s_created) (defScope s_created) [] [] (He.ga K "created") fd) : FnS P w K mg base 3 (He.ga K "created") ["strands", "word", "place", "letter"] M_created :=
  fnS_of (rc := false) (N := ["strands", "word", "place", "letter"]) (ps := ["strands", "word", "place", "letter"]) (k := 2) (m := B_created) F sc_created (F.bindsN fun _ _ _ _ _ _ us hl => match us, hl with | [_, _, _, _], _ => rfl) (by
    refine b_cons ?_ ?_
    · refine st_if ?_ ?_ ?_
      · refine t_w ?_
        refine w_or ?_ ?_
        · refine t_not ?_
          refine t_chain c_le c_le ?_ ?_ ?_
          · exact s_int 
          · exact s_var (i := 2) rfl (.inl rfl)
          · refine s_cb (cb_len) rfl T.b_len PySem.boot_len ?_
            refine a_cons ?_ ?_
            · exact s_var (i := 1) rfl (.inl rfl)
            · exact a_nil 
        · refine w_or ?_ ?_
          · refine t_c c_eq ?_ ?_
            · exact s_var (i := 3) rfl (.inl rfl)
            · exact s_int 
          · refine w_or1 ?_
            refine t_c c_ge ?_ ?_
            · refine s_cb (cb_abs) rfl T.b_abs PyProof.Rows.boot_abs ?_
              refine a_cons ?_ ?_
              · exact s_var (i := 3) rfl (.inl rfl)
              · exact a_nil 
            · exact s_var (i := 0) rfl (.inl rfl)
      · refine b_one ?_
        refine st_raise ?_
        refine mk_what X_IllegalMove rfl T.g_IllegalMove ?_ (Nat.le_of_ble_eq_true rfl)
        exact s_str 
      · exact b_nil 
    · refine b_one ?_
      refine st_ret ?_
      refine s_add (mk := false) ?_ ?_
      · refine s_add (mk := false) ?_ ?_
        · refine s_sl (mk := false) ?_ ?_ ?_
          · exact s_var (i := 1) rfl (.inl rfl)
          · exact o_none 
          · refine o_some ?_
            exact s_var (i := 2) rfl (.inl rfl)
        · refine s_lst (mk := false) ?_
          refine a_cons ?_ ?_
          · exact s_var (i := 3) rfl (.inl rfl)
          · refine a_cons ?_ ?_
            · refine s_neg ?_
              exact s_var (i := 3) rfl (.inl rfl)
            · exact a_nil 
      · refine s_sl (mk := false) ?_ ?_ ?_
        · exact s_var (i := 1) rfl (.inl rfl)
        · refine o_some ?_
          exact s_var (i := 2) rfl (.inl rfl)
        · exact o_none 
    )
theorem sc_replaced : FnScope ["kind", "part", "far"] ["kind", "part"] (defScope s_replaced) := ⟨rfl, rfl, rfl, by decide +kernel, rfl, by decide +kernel, by decide +kernel⟩
theorem ok_replaced (T : Txt w K mg)   {fd : FuncData} (F : FunD K "replaced" "replaced" (defArgs s_replaced) (defBody s_replaced) (defScope s_replaced) [] [] (He.ga K "replaced") fd) : FnS P w K mg base 1 (He.ga K "replaced") ["kind", "part"] M_replaced :=
  fnS_of (rc := false) (N := ["kind", "part", "far"]) (ps := ["kind", "part"]) (k := 0) (m := B_replaced) F sc_replaced (F.bindsN fun _ _ _ _ _ _ us hl => match us, hl with | [_, _], _ => rfl) (by
    refine b_cons ?_ ?_
    · refine st_if ?_ ?_ ?_
      · refine t_c c_eq ?_ ?_
        · exact s_var (i := 0) rfl (.inl rfl)
        · exact s_str 
      · refine b_one ?_
        refine st_ret ?_
        refine s_if ?_ ?_ ?_
        · refine t_c c_eq ?_ ?_
          · refine s_ix ?_ ?_
            · exact s_var (i := 1) rfl (.inl rfl)
            · exact s_int 
          · refine s_neg ?_
            refine s_ix ?_ ?_
            · exact s_var (i := 1) rfl (.inl rfl)
            · exact s_int 
        · refine s_lst (mk := false) ?_
          exact a_nil 
        · exact s_non 
      · exact b_nil 
    · refine b_cons ?_ ?_
      · refine st_set (i := 2) rfl (.inl rfl) ?_
        refine s_cb (cb_abs) rfl T.b_abs PyProof.Rows.boot_abs ?_
        refine a_cons ?_ ?_
        · refine s_sub ?_ ?_
          · refine s_cb (cb_abs) rfl T.b_abs PyProof.Rows.boot_abs ?_
            refine a_cons ?_ ?_
            · refine s_ix ?_ ?_
              · exact s_var (i := 1) rfl (.inl rfl)
              · exact s_int 
            · exact a_nil 
          · refine s_cb (cb_abs) rfl T.b_abs PyProof.Rows.boot_abs ?_
            refine a_cons ?_ ?_
            · refine s_ix ?_ ?_
              · exact s_var (i := 1) rfl (.inl rfl)
              · exact s_int 
            · exact a_nil 
        · exact a_nil 
      · refine b_cons ?_ ?_
        · refine st_if ?_ ?_ ?_
          · refine t_c c_eq ?_ ?_
            · exact s_var (i := 0) rfl (.inl rfl)
            · exact s_str 
          · refine b_one ?_
            refine st_ret ?_
            refine s_if ?_ ?_ ?_
            · refine t_c c_ge ?_ ?_
              · exact s_var (i := 2) rfl (.inl rfl)
              · exact s_int 
            · refine s_lst (mk := false) ?_
              refine a_cons ?_ ?_
              · refine s_ix ?_ ?_
                · exact s_var (i := 1) rfl (.inl rfl)
                · exact s_int 
              · refine a_cons ?_ ?_
                · refine s_ix ?_ ?_
                  · exact s_var (i := 1) rfl (.inl rfl)
                  · exact s_int 
                · exact a_nil 
            · exact s_non 
          · exact b_nil 
        · refine b_cons ?_ ?_
          · refine st_if ?_ ?_ ?_
            · refine t_w ?_
              refine w_or ?_ ?_
              · refine t_c c_ne ?_ ?_
                · refine s_ix ?_ ?_
                  · exact s_var (i := 1) rfl (.inl rfl)
                  · exact s_int 
                · refine s_ix ?_ ?_
                  · exact s_var (i := 1) rfl (.inl rfl)
                  · exact s_int 
              · refine w_or ?_ ?_
                · refine t_c c_ne ?_ ?_
                  · exact s_var (i := 2) rfl (.inl rfl)
                  · exact s_int 
                · refine w_or1 ?_
                  refine t_c c_ne ?_ ?_
                  · refine s_c c_gt ?_ ?_
                    · refine s_ix ?_ ?_
                      · exact s_var (i := 1) rfl (.inl rfl)
                      · exact s_int 
                    · exact s_int 
                  · refine s_c c_gt ?_ ?_
                    · refine s_ix ?_ ?_
                      · exact s_var (i := 1) rfl (.inl rfl)
                      · exact s_int 
                    · exact s_int 
            · refine b_one ?_
              refine st_ret ?_
              exact s_non 
            · exact b_nil 
          · refine b_one ?_
            refine st_ret ?_
            refine s_lst (mk := false) ?_
            refine a_cons ?_ ?_
            · refine s_ix ?_ ?_
              · exact s_var (i := 1) rfl (.inl rfl)
              · exact s_int 
            · refine a_cons ?_ ?_
              · refine s_ix ?_ ?_
                · exact s_var (i := 1) rfl (.inl rfl)
                · exact s_int 
              · refine a_cons ?_ ?_
                · refine s_ix ?_ ?_
                  · exact s_var (i := 1) rfl (.inl rfl)
                  · exact s_int 
                · exact a_nil 
    )
theorem sc_make_step : FnScope ["strands", "word", "step", "place", "size", "found"] ["strands", "word", "step"] (defScope s_make_step) := ⟨rfl, rfl, rfl, by decide +kernel, rfl, by decide +kernel, by decide +kernel⟩
theorem ok_make_step (T : Txt w K mg) (F_created : FnS P w K mg base 3 (He.ga K "created") ["strands", "word", "place", "letter"] M_created) (F_replaced : FnS P w K mg base 1 (He.ga K "replaced") ["kind", "part"] M_replaced) (X_IllegalMove : KExc P w K mg base (He.ga K "IllegalMove")) {fd : FuncData} (F : FunD K "make_step" "make_step" (defArgs s_make_step) (defBody s_make_step) (defScope s_make_step) [] [] (He.ga K "make_step") fd) : FnS P w K mg base 4 (He.ga K "make_step") ["strands", "word", "step"] M_make_step :=
  fnS_of (rc := false) (N := ["strands", "word", "step", "place", "size", "found"]) (ps := ["strands", "word", "step"]) (k := 3) (m := B_make_step) F sc_make_step (F.bindsN fun _ _ _ _ _ _ us hl => match us, hl with | [_, _, _], _ => rfl) (by
    refine b_cons ?_ ?_
    · refine st_if ?_ ?_ ?_
      · refine t_c c_eq ?_ ?_
        · refine s_ix ?_ ?_
          · exact s_var (i := 2) rfl (.inl rfl)
          · exact s_int 
        · exact s_str 
      · refine b_one ?_
        refine st_ret ?_
        refine s_call F_created (Nat.le_of_ble_eq_true rfl) rfl T.g_created ?_
        refine a_cons ?_ ?_
        · exact s_var (i := 0) rfl (.inl rfl)
        · refine a_cons ?_ ?_
          · exact s_var (i := 1) rfl (.inl rfl)
          · refine a_cons ?_ ?_
            · refine s_ix ?_ ?_
              · exact s_var (i := 2) rfl (.inl rfl)
              · exact s_int 
            · refine a_cons ?_ ?_
              · refine s_ix ?_ ?_
                · exact s_var (i := 2) rfl (.inl rfl)
                · exact s_int 
              · exact a_nil 
      · exact b_nil 
    · refine b_cons ?_ ?_
      · refine st_set (i := 3) rfl (.inl rfl) ?_
        refine s_ix ?_ ?_
        · exact s_var (i := 2) rfl (.inl rfl)
        · exact s_int 
      · refine b_cons ?_ ?_
        · refine st_set (i := 4) rfl (.inl rfl) ?_
          refine s_wix T.wd_SIZES ?_ ?_
          · exact s_glo rfl T.g_SIZES
          · refine s_ix ?_ ?_
            · exact s_var (i := 2) rfl (.inl rfl)
            · exact s_int 
        · refine b_cons ?_ ?_
          · refine st_if ?_ ?_ ?_
            · refine t_not ?_
              refine t_chain c_le c_le ?_ ?_ ?_
              · exact s_int 
              · exact s_var (i := 3) rfl (.inl rfl)
              · refine s_sub ?_ ?_
                · refine s_cb (cb_len) rfl T.b_len PySem.boot_len ?_
                  refine a_cons ?_ ?_
                  · exact s_var (i := 1) rfl (.inl rfl)
                  · exact a_nil 
                · exact s_var (i := 4) rfl (.inl rfl)
            · refine b_one ?_
              refine st_raise ?_
              refine mk_what X_IllegalMove rfl T.g_IllegalMove ?_ (Nat.le_of_ble_eq_true rfl)
              refine s_ix ?_ ?_
              · exact s_var (i := 2) rfl (.inl rfl)
              · exact s_int 
            · exact b_nil 
          · refine b_cons ?_ ?_
            · refine st_set (i := 5) rfl (.inl rfl) ?_
              refine s_call F_replaced (Nat.le_of_ble_eq_true rfl) rfl T.g_replaced ?_
              refine a_cons ?_ ?_
              · refine s_ix ?_ ?_
                · exact s_var (i := 2) rfl (.inl rfl)
                · exact s_int 
              · refine a_cons ?_ ?_
                · refine s_sl (mk := false) ?_ ?_ ?_
                  · exact s_var (i := 1) rfl (.inl rfl)
                  · refine o_some ?_
                    exact s_var (i := 3) rfl (.inl rfl)
                  · refine o_some ?_
                    refine s_add (mk := false) ?_ ?_
                    · exact s_var (i := 3) rfl (.inl rfl)
                    · exact s_var (i := 4) rfl (.inl rfl)
                · exact a_nil 
            · refine b_cons ?_ ?_
              · refine st_if ?_ ?_ ?_
                · refine t_c c_isN ?_ ?_
                  · exact s_var (i := 5) rfl (.inl rfl)
                  · exact s_non 
                · refine b_one ?_
                  refine st_raise ?_
                  refine mk_what X_IllegalMove rfl T.g_IllegalMove ?_ (Nat.le_of_ble_eq_true rfl)
                  refine s_ix ?_ ?_
                  · exact s_var (i := 2) rfl (.inl rfl)
                  · exact s_int 
                · exact b_nil 
              · refine b_one ?_
                refine st_ret ?_
                refine s_add (mk := false) ?_ ?_
                · refine s_add (mk := false) ?_ ?_
                  · refine s_sl (mk := false) ?_ ?_ ?_
                    · exact s_var (i := 1) rfl (.inl rfl)
                    · exact o_none 
                    · refine o_some ?_
                      exact s_var (i := 3) rfl (.inl rfl)
                  · exact s_var (i := 5) rfl (.inl rfl)
                · refine s_sl (mk := false) ?_ ?_ ?_
                  · exact s_var (i := 1) rfl (.inl rfl)
                  · refine o_some ?_
                    refine s_add (mk := false) ?_ ?_
                    · exact s_var (i := 3) rfl (.inl rfl)
                    · exact s_var (i := 4) rfl (.inl rfl)
                  · exact o_none 
    )
theorem sc__law_told : FnScope ["strands", "word", "step", "error"] ["strands", "word", "step"] (defScope s__law_told) := ⟨rfl, rfl, rfl, by decide +kernel, rfl, by decide +kernel, by decide +kernel⟩
theorem ok__law_told (T : Txt w K mg) (F_make_step : FnS P w K mg base 4 (He.ga K "make_step") ["strands", "word", "step"] M_make_step)  {fd : FuncData} (F : FunD K "_law_told" "_law_told" (defArgs s__law_told) (defBody s__law_told) (defScope s__law_told) [] [] (He.ga K "_law_told") fd) : FnS P w K mg base 5 (He.ga K "_law_told") ["strands", "word", "step"] M__law_told :=
  fnS_of (rc := false) (N := ["strands", "word", "step", "error"]) (ps := ["strands", "word", "step"]) (k := 4) (m := B__law_told) F sc__law_told (F.bindsN fun _ _ _ _ _ _ us hl => match us, hl with | [_, _, _], _ => rfl) (by
    refine b_one ?_
    refine st_tryAs (i := 3) (tbl := [("IllegalMove", true)]) rfl rfl rfl T.g_IllegalMove (by decide) T.xm_IllegalMove ?_ ?_
    · refine b_one ?_
      refine st_ret ?_
      refine s_call F_make_step (Nat.le_of_ble_eq_true rfl) rfl T.g_make_step ?_
      refine a_cons ?_ ?_
      · exact s_var (i := 0) rfl (.inl rfl)
      · refine a_cons ?_ ?_
        · exact s_var (i := 1) rfl (.inl rfl)
        · refine a_cons ?_ ?_
          · exact s_var (i := 2) rfl (.inl rfl)
          · exact a_nil 
    · intro a c d
      refine b_one ?_
      refine st_ret ?_
      refine s_tup ?_
      refine a_cons ?_ ?_
      · exact s_str 
      · refine a_cons ?_ ?_
        · refine s_xf ["IllegalMove"] ?_ T.xf
          exact s_var (i := 3) rfl (.inl rfl)
        · exact a_nil 
    )
theorem sc__law_plain : FnScope ["value", "item"] ["value"] (defScope s__law_plain) := ⟨rfl, rfl, rfl, by decide +kernel, rfl, by decide +kernel, by decide +kernel⟩
theorem ok__law_plain_ (T : Txt w K mg)   {fd : FuncData} (F : FunD K "_law_plain" "_law_plain" (defArgs s__law_plain) (defBody s__law_plain) (defScope s__law_plain) [] [] (He.ga K "_law_plain") fd) : ∀ j : Nat, FnS P w K mg base (0 + j) (He.ga K "_law_plain") ["value"] (M__law_plain_ j)
  | 0 => fnS_zero (F.bindsN fun _ _ _ _ _ _ us hl => match us, hl with | [_], _ => rfl) F.kp _
  | j + 1 =>
    have F__law_plain := ok__law_plain_ T  F j
    fnS_of (rc := false) (N := ["value", "item"]) (ps := ["value"]) (k := 0 + j) (m := B__law_plain (M__law_plain_ j)) F sc__law_plain (F.bindsN fun _ _ _ _ _ _ us hl => match us, hl with | [_], _ => rfl) (by
      refine b_cons ?_ ?_
      · refine st_if ?_ ?_ ?_
        · refine t_tru ?_
          refine s_isiT ?_ ?_ rfl T.b_isinstance
          · exact s_var (i := 0) rfl (.inl rfl)
          · refine a_cons ?_ ?_
            · exact s_ty (n := "tuple") rfl T.b_tuple PyProof.Rows.boot_tuple
            · refine a_cons ?_ ?_
              · exact s_ty (n := "list") rfl T.b_list PyProof.Rows.boot_list
              · exact a_nil 
        · refine b_one ?_
          refine st_ret ?_
          refine s_add (mk := false) ?_ ?_
          · refine s_lst (mk := false) ?_
            refine a_cons ?_ ?_
            · refine s_cb cb_isi rfl T.b_isinstance PyProof.Rows.boot_isinstance ?_
              refine a_cons ?_ ?_
              · exact s_var (i := 0) rfl (.inl rfl)
              · refine a_cons ?_ ?_
                · exact s_ty (n := "list") rfl T.b_list PyProof.Rows.boot_list
                · exact a_nil 
            · exact a_nil 
          · refine s_lc (mk := false) (own := [("item", 1)]) (gown := [1]) ?_ (by kernel_rfl) ?_ (by decide) ?_ ?_
            · refine i_seq ?_
              exact s_var (i := 0) rfl (.inl rfl)
            · exact g_name (i := 1) rfl (.inl rfl)
            · exact ts_nil 
            · refine s_call F__law_plain (Nat.le_refl _) rfl T.g__law_plain ?_
              refine a_cons ?_ ?_
              · exact s_var (i := 1) rfl (.inl rfl)
              · exact a_nil 
        · exact b_nil 
      · refine b_cons ?_ ?_
        · refine st_if ?_ ?_ ?_
          · refine t_w ?_
            refine w_or ?_ ?_
            · refine t_c c_isN ?_ ?_
              · exact s_var (i := 0) rfl (.inl rfl)
              · exact s_non 
            · refine w_or1 ?_
              refine t_tru ?_
              refine s_cb cb_isi rfl T.b_isinstance PyProof.Rows.boot_isinstance ?_
              refine a_cons ?_ ?_
              · exact s_var (i := 0) rfl (.inl rfl)
              · refine a_cons ?_ ?_
                · exact s_ty (n := "bool") rfl T.b_bool PyProof.Rows.boot_bool
                · exact a_nil 
          · refine b_one ?_
            refine st_ret ?_
            refine s_ix ?_ ?_
            · refine s_lst (mk := false) ?_
              refine a_cons ?_ ?_
              · exact s_str 
              · refine a_cons ?_ ?_
                · exact s_str 
                · refine a_cons ?_ ?_
                  · exact s_str 
                  · exact a_nil 
            · refine s_add (mk := false) ?_ ?_
              · refine s_cty (cb_int) rfl T.b_int PyProof.Rows.boot_int ?_
                refine a_cons ?_ ?_
                · refine s_c c_notN ?_ ?_
                  · exact s_var (i := 0) rfl (.inl rfl)
                  · exact s_non 
                · exact a_nil 
              · refine s_cty (cb_int) rfl T.b_int PyProof.Rows.boot_int ?_
                refine a_cons ?_ ?_
                · refine s_c c_isN ?_ ?_
                  · exact s_var (i := 0) rfl (.inl rfl)
                  · exact s_bl 
                · exact a_nil 
          · exact b_nil 
        · refine b_cons ?_ ?_
          · refine st_if ?_ ?_ ?_
            · refine t_tru ?_
              refine s_isiT ?_ ?_ rfl T.b_isinstance
              · exact s_var (i := 0) rfl (.inl rfl)
              · refine a_cons ?_ ?_
                · exact s_ty (n := "int") rfl T.b_int PyProof.Rows.boot_int
                · refine a_cons ?_ ?_
                  · exact s_ty (n := "str") rfl T.b_str PyProof.Rows.boot_str
                  · exact a_nil 
            · refine b_one ?_
              refine st_ret ?_
              refine s_lst (mk := false) ?_
              refine a_cons ?_ ?_
              · refine s_cb cb_isi rfl T.b_isinstance PyProof.Rows.boot_isinstance ?_
                refine a_cons ?_ ?_
                · exact s_var (i := 0) rfl (.inl rfl)
                · refine a_cons ?_ ?_
                  · exact s_ty (n := "str") rfl T.b_str PyProof.Rows.boot_str
                  · exact a_nil 
              · refine a_cons ?_ ?_
                · exact s_var (i := 0) rfl (.inl rfl)
                · exact a_nil 
            · exact b_nil 
          · refine b_one ?_
            refine st_ret ?_
            exact s_str 
      )
theorem ok__law_plain (T : Txt w K mg)   {fd : FuncData} (F : FunD K "_law_plain" "_law_plain" (defArgs s__law_plain) (defBody s__law_plain) (defScope s__law_plain) [] [] (He.ga K "_law_plain") fd) : FnS P w K mg base 6 (He.ga K "_law_plain") ["value"] M__law_plain := ok__law_plain_ T  F 6
theorem sc__law_wrong_end : FnScope ["deck", "word", "at", "way"] ["deck", "word"] (defScope s__law_wrong_end) := ⟨rfl, rfl, rfl, by decide +kernel, rfl, by decide +kernel, by decide +kernel⟩
theorem ok__law_wrong_end (T : Txt w K mg) (F__law_take : FnS P w K mg base 1 (He.ga K "_law_take") ["deck", "many"] M__law_take)  {fd : FuncData} (F : FunD K "_law_wrong_end" "_law_wrong_end" (defArgs s__law_wrong_end) (defBody s__law_wrong_end) (defScope s__law_wrong_end) [] [] (He.ga K "_law_wrong_end") fd) : FnS P w K mg base 2 (He.ga K "_law_wrong_end") ["deck", "word"] M__law_wrong_end :=
  fnS_of (rc := false) (N := ["deck", "word", "at", "way"]) (ps := ["deck", "word"]) (k := 1) (m := B__law_wrong_end) F sc__law_wrong_end (F.bindsN fun _ _ _ _ _ _ us hl => match us, hl with | [_, _], _ => rfl) (by
    refine b_cons ?_ ?_
    · refine st_set (i := 2) rfl (.inl rfl) ?_
      refine s_call F__law_take (Nat.le_of_ble_eq_true rfl) rfl T.g__law_take ?_
      refine a_cons ?_ ?_
      · exact s_var (i := 0) rfl (.inl rfl)
      · refine a_cons ?_ ?_
        · refine s_add (mk := false) ?_ ?_
          · refine s_cb (cb_len) rfl T.b_len PySem.boot_len ?_
            refine a_cons ?_ ?_
            · exact s_var (i := 1) rfl (.inl rfl)
            · exact a_nil 
          · exact s_int 
        · exact a_nil 
    · refine b_cons ?_ ?_
      · refine st_set (i := 3) rfl (.inl rfl) ?_
        refine s_call F__law_take (Nat.le_of_ble_eq_true rfl) rfl T.g__law_take ?_
        refine a_cons ?_ ?_
        · exact s_var (i := 0) rfl (.inl rfl)
        · refine a_cons ?_ ?_
          · exact s_int 
          · exact a_nil 
      · refine b_cons ?_ ?_
        · refine st_if ?_ ?_ ?_
          · refine t_c c_eq ?_ ?_
            · exact s_var (i := 3) rfl (.inl rfl)
            · exact s_int 
          · refine b_one ?_
            refine st_ret ?_
            refine s_add (mk := false) ?_ ?_
            · refine s_add (mk := false) ?_ ?_
              · refine s_sl (mk := false) ?_ ?_ ?_
                · exact s_var (i := 1) rfl (.inl rfl)
                · exact o_none 
                · refine o_some ?_
                  exact s_var (i := 2) rfl (.inl rfl)
              · refine s_lst (mk := false) ?_
                refine a_cons ?_ ?_
                · exact s_int 
                · exact a_nil 
            · refine s_sl (mk := false) ?_ ?_ ?_
              · exact s_var (i := 1) rfl (.inl rfl)
              · refine o_some ?_
                exact s_var (i := 2) rfl (.inl rfl)
              · exact o_none 
          · exact b_nil 
        · refine b_cons ?_ ?_
          · refine st_if ?_ ?_ ?_
            · refine t_w ?_
              refine w_and ?_ ?_
              · refine t_c c_eq ?_ ?_
                · exact s_var (i := 3) rfl (.inl rfl)
                · exact s_int 
              · refine w_and1 ?_
                refine t_c c_gt ?_ ?_
                · refine s_cb (cb_len) rfl T.b_len PySem.boot_len ?_
                  refine a_cons ?_ ?_
                  · exact s_var (i := 1) rfl (.inl rfl)
                  · exact a_nil 
                · exact s_int 
            · refine b_one ?_
              refine st_ret ?_
              refine s_if ?_ ?_ ?_
              · refine t_c c_lt ?_ ?_
                · exact s_var (i := 2) rfl (.inl rfl)
                · refine s_cb (cb_len) rfl T.b_len PySem.boot_len ?_
                  refine a_cons ?_ ?_
                  · exact s_var (i := 1) rfl (.inl rfl)
                  · exact a_nil 
              · refine s_add (mk := false) ?_ ?_
                · refine s_sl (mk := false) ?_ ?_ ?_
                  · exact s_var (i := 1) rfl (.inl rfl)
                  · exact o_none 
                  · refine o_some ?_
                    exact s_var (i := 2) rfl (.inl rfl)
                · refine s_sl (mk := false) ?_ ?_ ?_
                  · exact s_var (i := 1) rfl (.inl rfl)
                  · refine o_some ?_
                    refine s_add (mk := false) ?_ ?_
                    · exact s_var (i := 2) rfl (.inl rfl)
                    · exact s_int 
                  · exact o_none 
              · refine s_sl (mk := false) ?_ ?_ ?_
                · exact s_var (i := 1) rfl (.inl rfl)
                · refine o_some ?_
                  exact s_int 
                · exact o_none 
            · exact b_nil 
          · refine b_cons ?_ ?_
            · refine st_if ?_ ?_ ?_
              · refine t_w ?_
                refine w_and ?_ ?_
                · refine t_c c_eq ?_ ?_
                  · exact s_var (i := 3) rfl (.inl rfl)
                  · exact s_int 
                · refine w_and1 ?_
                  refine t_c c_lt ?_ ?_
                  · exact s_var (i := 2) rfl (.inl rfl)
                  · refine s_cb (cb_len) rfl T.b_len PySem.boot_len ?_
                    refine a_cons ?_ ?_
                    · exact s_var (i := 1) rfl (.inl rfl)
                    · exact a_nil 
              · refine b_one ?_
                refine st_ret ?_
                refine s_add (mk := false) ?_ ?_
                · refine s_add (mk := false) ?_ ?_
                  · refine s_sl (mk := false) ?_ ?_ ?_
                    · exact s_var (i := 1) rfl (.inl rfl)
                    · exact o_none 
                    · refine o_some ?_
                      exact s_var (i := 2) rfl (.inl rfl)
                  · refine s_lst (mk := false) ?_
                    refine a_cons ?_ ?_
                    · refine s_neg ?_
                      refine s_ix ?_ ?_
                      · exact s_var (i := 1) rfl (.inl rfl)
                      · exact s_var (i := 2) rfl (.inl rfl)
                    · exact a_nil 
                · refine s_sl (mk := false) ?_ ?_ ?_
                  · exact s_var (i := 1) rfl (.inl rfl)
                  · refine o_some ?_
                    refine s_add (mk := false) ?_ ?_
                    · exact s_var (i := 2) rfl (.inl rfl)
                    · exact s_int 
                  · exact o_none 
              · exact b_nil 
            · refine b_one ?_
              refine st_ret ?_
              exact s_var (i := 1) rfl (.inl rfl)
    )
theorem sc_judge_derivation : FnScope ["strands", "word", "steps", "other", "step"] ["strands", "word", "steps", "other"] (defScope s_judge_derivation) := ⟨rfl, rfl, rfl, by decide +kernel, rfl, by decide +kernel, by decide +kernel⟩
theorem ok_judge_derivation (T : Txt w K mg) (F_make_step : FnS P w K mg base 4 (He.ga K "make_step") ["strands", "word", "step"] M_make_step)  {fd : FuncData} (F : FunD K "judge_derivation" "judge_derivation" (defArgs s_judge_derivation) (defBody s_judge_derivation) (defScope s_judge_derivation) [] [] (He.ga K "judge_derivation") fd) : FnS P w K mg base 5 (He.ga K "judge_derivation") ["strands", "word", "steps", "other"] M_judge_derivation :=
  fnS_of (rc := false) (N := ["strands", "word", "steps", "other", "step"]) (ps := ["strands", "word", "steps", "other"]) (k := 4) (m := B_judge_derivation) F sc_judge_derivation (F.bindsN fun _ _ _ _ _ _ us hl => match us, hl with | [_, _, _, _], _ => rfl) (by
    refine b_cons ?_ ?_
    · refine st_set (i := 1) rfl (.inl rfl) ?_
      refine s_cty (cb_list (mk := false)) rfl T.b_list PyProof.Rows.boot_list ?_
      refine a_cons ?_ ?_
      · exact s_var (i := 1) rfl (.inl rfl)
      · exact a_nil 
    · refine b_cons ?_ ?_
      · refine st_tryNo (tbl := [("IllegalMove", true)]) rfl T.g_IllegalMove (by decide) T.xm_IllegalMove ?_ ?_
        · refine b_one ?_
          refine st_for (own := [4]) ?_ ?_ ?_
          · refine i_seq ?_
            exact s_var (i := 2) rfl (.inl rfl)
          · exact g_name (i := 4) rfl (.inl rfl)
          · refine b_one ?_
            refine st_set (i := 1) rfl (.inl rfl) ?_
            refine s_call F_make_step (Nat.le_of_ble_eq_true rfl) rfl T.g_make_step ?_
            refine a_cons ?_ ?_
            · exact s_var (i := 0) rfl (.inl rfl)
            · refine a_cons ?_ ?_
              · exact s_var (i := 1) rfl (.inl rfl)
              · refine a_cons ?_ ?_
                · exact s_var (i := 4) rfl (.inl rfl)
                · exact a_nil 
        · intro a c d
          refine b_one ?_
          refine st_ret ?_
          exact s_bl 
      · refine b_one ?_
        refine st_ret ?_
        refine s_c c_eq ?_ ?_
        · exact s_var (i := 1) rfl (.inl rfl)
        · exact s_var (i := 3) rfl (.inl rfl)
    )
theorem sc_law : FnScope ["script", "deck", "strands", "word", "turn", "steps", "last", "right", "other", "told", "step", "made", "due", "passed", "again"] ["script"] (defScope s_law) := ⟨rfl, rfl, rfl, by decide +kernel, rfl, by decide +kernel, by decide +kernel⟩
theorem ok_law (T : Txt w K mg) (F__law_deck : FnS P w K mg base 1 (He.ga K "_law_deck") ["script", "cells", "each"] M__law_deck) (F__law_take : FnS P w K mg base 1 (He.ga K "_law_take") ["deck", "many"] M__law_take) (F__law_word : FnS P w K mg base 2 (He.ga K "_law_word") ["deck", "strands"] M__law_word) (F__law_step : FnS P w K mg base 2 (He.ga K "_law_step") ["deck", "strands", "word"] M__law_step) (F__law_made : FnS P w K mg base 1 (He.ga K "_law_made") ["strands", "word", "step"] M__law_made) (F__law_told : FnS P w K mg base 5 (He.ga K "_law_told") ["strands", "word", "step"] M__law_told) (F__law_plain : FnS P w K mg base 6 (He.ga K "_law_plain") ["value"] M__law_plain) (F__law_wrong_end : FnS P w K mg base 2 (He.ga K "_law_wrong_end") ["deck", "word"] M__law_wrong_end) (F_judge_derivation : FnS P w K mg base 5 (He.ga K "judge_derivation") ["strands", "word", "steps", "other"] M_judge_derivation)  {fd : FuncData} (F : FunD K "law" "law" (defArgs s_law) (defBody s_law) (defScope s_law) [] [] (He.ga K "law") fd) : FnOk P w K mg base CX0 7 (He.ga K "law") fd ["script"] (fun vs H Q _ => spM K 1 M_law vs H Q E0) :=
  law_of (N := ["script", "deck", "strands", "word", "turn", "steps", "last", "right", "other", "told", "step", "made", "due", "passed", "again"]) (ps := ["script"]) (k := 6) (m := B_law) F sc_law (by
    refine b_cons ?_ ?_
    · refine st_set (i := 1) rfl (.inl rfl) ?_
      refine s_call F__law_deck (Nat.le_of_ble_eq_true rfl) rfl T.g__law_deck ?_
      refine a_cons ?_ ?_
      · exact s_var (i := 0) rfl (.inl rfl)
      · refine a_cons ?_ ?_
        · exact s_int 
        · refine a_cons ?_ ?_
          · exact s_int 
          · exact a_nil 
    · refine b_cons ?_ ?_
      · refine st_set (i := 2) rfl (.inl rfl) ?_
        refine s_add (mk := false) ?_ ?_
        · exact s_int 
        · refine s_call F__law_take (Nat.le_of_ble_eq_true rfl) rfl T.g__law_take ?_
          refine a_cons ?_ ?_
          · exact s_var (i := 1) rfl (.inl rfl)
          · refine a_cons ?_ ?_
            · exact s_int 
            · exact a_nil 
      · refine b_cons ?_ ?_
        · refine st_set (i := 3) rfl (.inl rfl) ?_
          refine s_call F__law_word (Nat.le_of_ble_eq_true rfl) rfl T.g__law_word ?_
          refine a_cons ?_ ?_
          · exact s_var (i := 1) rfl (.inl rfl)
          · refine a_cons ?_ ?_
            · exact s_var (i := 2) rfl (.inl rfl)
            · exact a_nil 
        · refine b_cons ?_ ?_
          · refine st_for (own := [4]) ?_ ?_ ?_
            · refine i_rng1 rfl T.b_range ?_
              refine a_cons ?_ ?_
              · exact s_int 
              · exact a_nil 
            · exact g_name (i := 4) rfl (.inl rfl)
            · refine b_cons ?_ ?_
              · refine st_set (i := 10) rfl (.inl rfl) ?_
                refine s_call F__law_step (Nat.le_of_ble_eq_true rfl) rfl T.g__law_step ?_
                refine a_cons ?_ ?_
                · exact s_var (i := 1) rfl (.inl rfl)
                · refine a_cons ?_ ?_
                  · exact s_var (i := 2) rfl (.inl rfl)
                  · refine a_cons ?_ ?_
                    · exact s_var (i := 3) rfl (.inl rfl)
                    · exact a_nil 
              · refine b_cons ?_ ?_
                · refine st_set (i := 11) rfl (.inl rfl) ?_
                  refine s_call F__law_made (Nat.le_of_ble_eq_true rfl) rfl T.g__law_made ?_
                  refine a_cons ?_ ?_
                  · exact s_var (i := 2) rfl (.inl rfl)
                  · refine a_cons ?_ ?_
                    · exact s_var (i := 3) rfl (.inl rfl)
                    · refine a_cons ?_ ?_
                      · exact s_var (i := 10) rfl (.inl rfl)
                      · exact a_nil 
                · refine b_cons ?_ ?_
                  · refine st_set (i := 12) rfl (.inl rfl) ?_
                    refine s_if ?_ ?_ ?_
                    · refine t_c c_isN ?_ ?_
                      · exact s_var (i := 11) rfl (.inl rfl)
                      · exact s_non 
                    · refine s_tup ?_
                      refine a_cons ?_ ?_
                      · exact s_str 
                      · refine a_cons ?_ ?_
                        · refine s_ix ?_ ?_
                          · exact s_var (i := 10) rfl (.inl rfl)
                          · exact s_int 
                        · exact a_nil 
                    · exact s_var (i := 11) rfl (.inl rfl)
                  · refine b_cons ?_ ?_
                    · refine st_set (i := 13) rfl (.inl rfl) ?_
                      refine s_cty (cb_list (mk := false)) rfl T.b_list PyProof.Rows.boot_list ?_
                      refine a_cons ?_ ?_
                      · exact s_var (i := 3) rfl (.inl rfl)
                      · exact a_nil 
                    · refine b_one ?_
                      refine st_if ?_ ?_ ?_
                      · refine t_w ?_
                        refine w_or ?_ ?_
                        · refine t_c c_ne ?_ ?_
                          · refine s_call F__law_plain (Nat.le_of_ble_eq_true rfl) rfl T.g__law_plain ?_
                            refine a_cons ?_ ?_
                            · refine s_call F__law_told (Nat.le_of_ble_eq_true rfl) rfl T.g__law_told ?_
                              refine a_cons ?_ ?_
                              · exact s_var (i := 2) rfl (.inl rfl)
                              · refine a_cons ?_ ?_
                                · exact s_var (i := 13) rfl (.inl rfl)
                                · refine a_cons ?_ ?_
                                  · exact s_var (i := 10) rfl (.inl rfl)
                                  · exact a_nil 
                            · exact a_nil 
                          · refine s_call F__law_plain (Nat.le_of_ble_eq_true rfl) rfl T.g__law_plain ?_
                            refine a_cons ?_ ?_
                            · exact s_var (i := 12) rfl (.inl rfl)
                            · exact a_nil 
                        · refine w_or1 ?_
                          refine t_c c_ne ?_ ?_
                          · exact s_var (i := 13) rfl (.inl rfl)
                          · exact s_var (i := 3) rfl (.inl rfl)
                      · refine b_one ?_
                        refine st_ret ?_
                        exact s_bl 
                      · exact b_nil 
          · refine b_cons ?_ ?_
            · refine st_set (i := 5) rfl (.inl rfl) ?_
              refine s_lst (mk := true) ?_
              exact a_nil 
            · refine b_cons ?_ ?_
              · refine st_set (i := 6) rfl (.inl rfl) ?_
                refine s_cty (cb_list (mk := false)) rfl T.b_list PyProof.Rows.boot_list ?_
                refine a_cons ?_ ?_
                · exact s_var (i := 3) rfl (.inl rfl)
                · exact a_nil 
              · refine b_cons ?_ ?_
                · refine st_set (i := 7) rfl (.inl rfl) ?_
                  exact s_bl 
                · refine b_cons ?_ ?_
                  · refine st_for (own := [4]) ?_ ?_ ?_
                    · refine i_rng1 rfl T.b_range ?_
                      refine a_cons ?_ ?_
                      · refine s_call F__law_take (Nat.le_of_ble_eq_true rfl) rfl T.g__law_take ?_
                        refine a_cons ?_ ?_
                        · exact s_var (i := 1) rfl (.inl rfl)
                        · refine a_cons ?_ ?_
                          · exact s_int 
                          · exact a_nil 
                      · exact a_nil 
                    · exact g_name (i := 4) rfl (.inl rfl)
                    · refine b_cons ?_ ?_
                      · refine st_set (i := 10) rfl (.inl rfl) ?_
                        refine s_call F__law_step (Nat.le_of_ble_eq_true rfl) rfl T.g__law_step ?_
                        refine a_cons ?_ ?_
                        · exact s_var (i := 1) rfl (.inl rfl)
                        · refine a_cons ?_ ?_
                          · exact s_var (i := 2) rfl (.inl rfl)
                          · refine a_cons ?_ ?_
                            · exact s_var (i := 6) rfl (.inl rfl)
                            · exact a_nil 
                      · refine b_cons ?_ ?_
                        · refine st_for (own := [14]) ?_ ?_ ?_
                          · refine i_rng1 rfl T.b_range ?_
                            refine a_cons ?_ ?_
                            · exact s_int 
                            · exact a_nil 
                          · exact g_name (i := 14) rfl (.inl rfl)
                          · refine b_one ?_
                            refine st_if ?_ ?_ ?_
                            · refine t_c c_isN ?_ ?_
                              · refine s_call F__law_made (Nat.le_of_ble_eq_true rfl) rfl T.g__law_made ?_
                                refine a_cons ?_ ?_
                                · exact s_var (i := 2) rfl (.inl rfl)
                                · refine a_cons ?_ ?_
                                  · exact s_var (i := 6) rfl (.inl rfl)
                                  · refine a_cons ?_ ?_
                                    · exact s_var (i := 10) rfl (.inl rfl)
                                    · exact a_nil 
                              · exact s_non 
                            · refine b_one ?_
                              refine st_set (i := 10) rfl (.inl rfl) ?_
                              refine s_call F__law_step (Nat.le_of_ble_eq_true rfl) rfl T.g__law_step ?_
                              refine a_cons ?_ ?_
                              · exact s_var (i := 1) rfl (.inl rfl)
                              · refine a_cons ?_ ?_
                                · exact s_var (i := 2) rfl (.inl rfl)
                                · refine a_cons ?_ ?_
                                  · exact s_var (i := 6) rfl (.inl rfl)
                                  · exact a_nil 
                            · exact b_nil 
                        · refine b_cons ?_ ?_
                          · refine st_set (i := 11) rfl (.inl rfl) ?_
                            refine s_call F__law_made (Nat.le_of_ble_eq_true rfl) rfl T.g__law_made ?_
                            refine a_cons ?_ ?_
                            · exact s_var (i := 2) rfl (.inl rfl)
                            · refine a_cons ?_ ?_
                              · exact s_var (i := 6) rfl (.inl rfl)
                              · refine a_cons ?_ ?_
                                · exact s_var (i := 10) rfl (.inl rfl)
                                · exact a_nil 
                          · refine b_one ?_
                            refine st_if ?_ ?_ ?_
                            · refine t_c c_notN ?_ ?_
                              · exact s_var (i := 11) rfl (.inl rfl)
                              · exact s_non 
                            · refine b_cons ?_ ?_
                              · refine st_set (i := 6) rfl (.inl rfl) ?_
                                exact s_var (i := 11) rfl (.inl rfl)
                              · refine b_one ?_
                                refine st_ex ?_
                                refine s_m PySem.F.plainAttrs_list PySem.F.slot_list_append PySem.F.type_list_append m_append ?_ ?_
                                · exact s_var (i := 5) rfl (.inl rfl)
                                · refine a_cons ?_ ?_
                                  · exact s_var (i := 10) rfl (.inl rfl)
                                  · exact a_nil 
                            · refine b_one ?_
                              refine st_if ?_ ?_ ?_
                              · refine t_c c_eq ?_ ?_
                                · refine s_call F__law_take (Nat.le_of_ble_eq_true rfl) rfl T.g__law_take ?_
                                  refine a_cons ?_ ?_
                                  · exact s_var (i := 1) rfl (.inl rfl)
                                  · refine a_cons ?_ ?_
                                    · exact s_int 
                                    · exact a_nil 
                                · exact s_int 
                              · refine b_cons ?_ ?_
                                · refine st_ex ?_
                                  refine s_m PySem.F.plainAttrs_list PySem.F.slot_list_append PySem.F.type_list_append m_append ?_ ?_
                                  · exact s_var (i := 5) rfl (.inl rfl)
                                  · refine a_cons ?_ ?_
                                    · exact s_var (i := 10) rfl (.inl rfl)
                                    · exact a_nil 
                                · refine b_one ?_
                                  refine st_set (i := 7) rfl (.inl rfl) ?_
                                  exact s_bl 
                              · exact b_nil 
                  · refine b_cons ?_ ?_
                    · refine st_set (i := 8) rfl (.inl rfl) ?_
                      exact s_var (i := 6) rfl (.inl rfl)
                    · refine b_cons ?_ ?_
                      · refine st_if ?_ ?_ ?_
                        · refine t_c c_eq ?_ ?_
                          · refine s_call F__law_take (Nat.le_of_ble_eq_true rfl) rfl T.g__law_take ?_
                            refine a_cons ?_ ?_
                            · exact s_var (i := 1) rfl (.inl rfl)
                            · refine a_cons ?_ ?_
                              · exact s_int 
                              · exact a_nil 
                          · exact s_int 
                        · refine b_one ?_
                          refine st_set (i := 8) rfl (.inl rfl) ?_
                          refine s_call F__law_wrong_end (Nat.le_of_ble_eq_true rfl) rfl T.g__law_wrong_end ?_
                          refine a_cons ?_ ?_
                          · exact s_var (i := 1) rfl (.inl rfl)
                          · refine a_cons ?_ ?_
                            · exact s_var (i := 6) rfl (.inl rfl)
                            · exact a_nil 
                        · exact b_nil 
                      · refine b_cons ?_ ?_
                        · refine st_set (i := 9) rfl (.inl rfl) ?_
                          refine s_call F_judge_derivation (Nat.le_of_ble_eq_true rfl) rfl T.g_judge_derivation ?_
                          refine a_cons ?_ ?_
                          · exact s_var (i := 2) rfl (.inl rfl)
                          · refine a_cons ?_ ?_
                            · refine s_cty (cb_list (mk := false)) rfl T.b_list PyProof.Rows.boot_list ?_
                              refine a_cons ?_ ?_
                              · exact s_var (i := 3) rfl (.inl rfl)
                              · exact a_nil 
                            · refine a_cons ?_ ?_
                              · refine s_cty (cb_list (mk := false)) rfl T.b_list PyProof.Rows.boot_list ?_
                                refine a_cons ?_ ?_
                                · exact s_var (i := 5) rfl (.inl rfl)
                                · exact a_nil 
                              · refine a_cons ?_ ?_
                                · refine s_cty (cb_list (mk := false)) rfl T.b_list PyProof.Rows.boot_list ?_
                                  refine a_cons ?_ ?_
                                  · exact s_var (i := 8) rfl (.inl rfl)
                                  · exact a_nil 
                                · exact a_nil 
                        · refine b_one ?_
                          refine st_ret ?_
                          refine s_c c_eq ?_ ?_
                          · refine s_call F__law_plain (Nat.le_of_ble_eq_true rfl) rfl T.g__law_plain ?_
                            refine a_cons ?_ ?_
                            · refine s_lst (mk := false) ?_
                              refine a_cons ?_ ?_
                              · exact s_var (i := 9) rfl (.inl rfl)
                              · exact a_nil 
                            · exact a_nil 
                          · refine s_call F__law_plain (Nat.le_of_ble_eq_true rfl) rfl T.g__law_plain ?_
                            refine a_cons ?_ ?_
                            · refine s_lst (mk := false) ?_
                              refine a_cons ?_ ?_
                              · refine s_and ?_ ?_
                                · exact s_var (i := 7) rfl (.inl rfl)
                                · refine s_one ?_
                                  refine s_c c_eq ?_ ?_
                                  · exact s_var (i := 8) rfl (.inl rfl)
                                  · exact s_var (i := 6) rfl (.inl rfl)
                              · exact a_nil 
                            · exact a_nil 
    )
end
end Gk05

set_option Elab.async false
set_option linter.all false
set_option maxRecDepth 100000
set_option maxHeartbeats 4000000
namespace Gk05
open PySem PySem.Spec L2 SL
open PyProof.Rows hiding St
/-! the draws -/
abbrev li (l : List Int) : C := .lst (l.map A.int)
theorem set_get {α : Type} {l : List α} {c : Nat} {x : α} (h : l[c]? = some x) : l.set c x = l := by
  apply List.ext_getElem?
  intro i
  by_cases e : c = i
  · subst e; rw [List.getElem?_set_self (List.getElem?_eq_some_iff.mp h).1, h]
  · rw [List.getElem?_set_ne e]
theorem take_spec {st : Store} {c : Nat} {ds : List Int} {n : Int} (h : st[c]? = some (li ds)) (hn : 0 < n) : ∃ d ds', 0 ≤ d ∧ d < n ∧ M__law_take [.cell c, .int n] st = .ok (.int d) (st.set c (li ds')) := by
  have hfin : ∀ (a : Int) (l : List Int), finA false st.length st (.int a) (st.set c (li l)) = .ok (.int a) (st.set c (li l)) := fun a l => by
    have := finA_set (rc := false) (st := st) (a := .int a) (l := []) (c := c) (k := li l) (by simp [A.bel]) (by intro c h; cases h) (by simp [C.bel])
    simpa using this
  rcases List.eq_nil_or_concat ds with rfl | ⟨ds0, d, rfl⟩
  · refine ⟨0, [], by omega, hn, ?_⟩
    have h' : st[c]? = some (.lst []) := h
    have e := hfin 0 []
    rw [set_get h] at e
    rw [set_get h]
    simp [M__law_take, fnM, B__law_take, lenA_cell h', fin, e]
  · have h' : st[c]? = some (.lst (ds0.map A.int ++ [.int d])) := by rw [h]; simp [li]
    refine ⟨d.fmod n, ds0, ?_, ?_, ?_⟩
    · rw [Int.fmod_eq_emod_of_nonneg _ (by omega)]; exact Int.emod_nonneg _ (by omega)
    · rw [Int.fmod_eq_emod_of_nonneg _ (by omega)]; exact Int.emod_lt_of_pos _ hn
    · have hne : ¬ ((ds0.length : Int) + 1 = 0) := by omega
      simp [M__law_take, fnM, B__law_take, lenA_cell h', popM_c h', tyVA_cell h', modOp_ii (show n ≠ 0 by omega), fin, hne, hfin]
/-- deck built: some list of ints -/
structure DeckI (ns : List Int) (cells each : Nat) (i : Nat) (e : AEnv) (s : Store) : Prop where
  ex : ∃ (seed : Int) (ds : List Int) (x5 x6 x7 x8 : Option A), e = [some (.slst (ns.map A.int)), some (.int cells), some (.int each), some (.cell 0), some (.int seed), x5, x6, x7, x8] ∧ s = [li ds] ∧ 0 ≤ seed ∧ seed < 2147483748 ∧ ds.length = i
theorem small_mul {a b : Int} (h : a.natAbs < 2 ^ 200) (h' : b.natAbs < 2 ^ 200) : CMulW a b := wide_mul h h' (by decide) (by decide) (by decide)
theorem loop1 (ns : List Int) (cells each k : Nat) (hk : k + each < sizeLine) (seed rest : Int) (ds : List Int) (hd : ds.length = k) (x5 x6 x8 : Option A) (hs0 : 0 ≤ seed) (hs1 : seed < 2147483748) :
    ∃ e s, forL none (rgA 0 each) (gN 8) L1__law_deck (rgA 0 each) [some (.slst (ns.map A.int)), some (.int cells), some (.int each), some (.cell 0), some (.int seed), x5, x6, some (.int rest), x8] [li ds] = .nx e s ∧ DeckI ns cells each (k + each) e s := by
  have h := for_inv (all := rgA 0 each) (g := gN 8) (body := L1__law_deck) (xs := rgA 0 each) (fun i e s => ∃ (r : Int) (ds : List Int) (x8 : Option A), e = [some (.slst (ns.map A.int)), some (.int cells), some (.int each), some (.cell 0), some (.int seed), x5, x6, some (.int r), x8] ∧ s = [li ds] ∧ ds.length = k + i)
    (env := [some (.slst (ns.map A.int)), some (.int cells), some (.int each), some (.cell 0), some (.int seed), x5, x6, some (.int rest), x8]) (st := [li ds]) ⟨rest, ds, x8, rfl, rfl, by omega⟩ ?_
  · obtain ⟨e, s, h1, r, ds', x8', rfl, rfl, h2⟩ := h
    rw [rgA_length] at h2
    exact ⟨_, _, h1, seed, ds', _, _, _, _, rfl, rfl, hs0, hs1, by omega⟩
  · rintro i x e s hx ⟨r, ds', x8', rfl, rfl, hl⟩
    obtain ⟨hi, rfl⟩ := rgA_get hx
    have hc : ([li ds'] : Store)[0]? = some (.lst (ds'.map A.int)) := rfl
    have hlt : (ds'.map A.int).length < sizeLine := by rw [List.length_map]; omega
    refine ⟨_, rfl, ?_⟩
    simp [L1__law_deck, tyVA_cell hc, appendM_c hc hlt, modOp_ii (show (1000003 : Int) ≠ 0 by decide), fdivOp_ii (show CDivN r 1000003 from ⟨by decide, by decide⟩)]
    exact ⟨ds' ++ [r.fmod 1000003], by simp [li], by simp; omega⟩
theorem loop2 (ns : List Int) (cells each k : Nat) (hk : k + each < sizeLine) (seed : Int) (ds : List Int) (hd : ds.length = k) (x5 x6 x7 x8 : Option A) (hs0 : 0 ≤ seed) (hs1 : seed < 2147483748) :
    ∃ e s, forL none (rgA 0 each) (gN 8) L2__law_deck (rgA 0 each) [some (.slst (ns.map A.int)), some (.int cells), some (.int each), some (.cell 0), some (.int seed), x5, x6, x7, x8] [li ds] = .nx e s ∧ DeckI ns cells each (k + each) e s := by
  have h := for_inv (all := rgA 0 each) (g := gN 8) (body := L2__law_deck) (xs := rgA 0 each) (fun i e s => DeckI ns cells each (k + i) e s)
    (env := [some (.slst (ns.map A.int)), some (.int cells), some (.int each), some (.cell 0), some (.int seed), x5, x6, x7, x8]) (st := [li ds]) ⟨seed, ds, _, _, _, _, rfl, rfl, hs0, hs1, by omega⟩ ?_
  · obtain ⟨e, s, h1, h2⟩ := h
    rw [rgA_length] at h2
    exact ⟨e, s, h1, by simpa using h2⟩
  · rintro i x e s hx ⟨seed', ds', _, _, _, _, rfl, rfl, h0, h1, hl⟩
    obtain ⟨hi, rfl⟩ := rgA_get hx
    have hc : ([li ds'] : Store)[0]? = some (.lst (ds'.map A.int)) := rfl
    have hlt : (ds'.map A.int).length < sizeLine := by rw [List.length_map]; omega
    have hmul : CMulW seed' 69621 := small_mul (by omega) (by decide)
    refine ⟨_, rfl, ?_⟩
    have hs : ∀ y : Int, 0 ≤ y.fmod 2147483629 ∧ y.fmod 2147483629 < 2147483748 := fun y => by
      rw [Int.fmod_eq_emod_of_nonneg _ (by decide)]
      have := Int.emod_lt_of_pos y (show (0 : Int) < 2147483629 by decide)
      exact ⟨Int.emod_nonneg _ (by decide), by omega⟩
    simp [L2__law_deck, tyVA_cell hc, appendM_c hc hlt, mulOp_ii hmul, modOp_ii (show (1000003 : Int) ≠ 0 by decide), modOp_ii (show (2147483629 : Int) ≠ 0 by decide), fdivOp_ii (show CDivN _ 5 from ⟨by decide, by decide⟩)]
    exact ⟨_, ds' ++ [(((seed' * 69621 + (i : Int) + 1).fmod 2147483629).fdiv 5).fmod 1000003], _, _, _, _, rfl, by simp [li], (hs _).1, (hs _).2, by simp; omega⟩
theorem key_spec {ns : List Int} {cells each i : Nat} {seed : Int} {ds : List Int} {x7 x8 : Option A} (hb : i * each + each < sizeLine) (he : -(2 ^ 62) ≤ (each : Int) ∧ (each : Int) < 2 ^ 62) (hl : ds.length = i * each) (h0 : 0 ≤ seed) (h1 : seed < 2147483748) :
    ∀ cell : Int, NxP ((sSeq (sAsg (gN 7) (eCB (one1 absA) (aCons (eVar 6) aNil)))
      (sIf (tOf (eBin geOp (eVar 7) (eBin powOp (eC (.int 10)) (eC (.int 30))))) (sFor (mRng1 (aCons (eVar 2) aNil)) (gN 8) L1__law_deck) (sSeq (sAsg (gN 4) (eBin modOp (eCB (one1 intA) (aCons (eBin (addOp false) (eBin (addOp false) (eBin (addOp false) (eBin (mulOp false) (eVar 4) (eC (.int 48271))) (eBin (mulOp false) (eC (.int 2)) (eVar 7))) (eCB (one1 intA) (aCons (eBin ltOp (eVar 6) (eC (.int 0))) aNil))) (eVar 5)) aNil)) (eC (.int 2147483647))))
      (sFor (mRng1 (aCons (eVar 2) aNil)) (gN 8) L2__law_deck)))) [some (.slst (ns.map A.int)), some (.int cells), some (.int each), some (.cell 0), some (.int seed), some (.int (i : Int)), some (.int cell), x7, x8] [li ds]) (DeckI ns cells each (i * each + each)) := by
      have hr : ∀ (e : AEnv) (s : Store), e[2]? = some (some (.int each)) → mRng1 (aCons (eVar 2) aNil) e s = .ok (rgA 0 each, none) s := fun e s he' => mRng1_ap (by simp [he']) he.1 he.2
      intro cell
      generalize hrest : (if cell < 0 then -cell else cell) = rest
      have hr0 : 0 ≤ rest := by split at hrest <;> omega
      have hpow : ((10 : Int) ^ (30 : Int).toNat) = 1000000000000000000000000000000 := by decide
      by_cases hbig : (1000000000000000000000000000000 : Int) ≤ rest
      · obtain ⟨e, s, h2, h3⟩ := loop1 ns cells each (i * each) hb seed rest ds hl (some (.int (i : Int))) (some (.int cell)) x8 h0 h1
        simp [powOp_ii (show CPow 10 30 from ⟨by decide, by decide, by decide⟩), hrest, hpow, hbig, hr, h2, h3]
      · have hm1 : CMulW seed 48271 := small_mul (by omega) (by decide)
        have hm2 : CMulW 2 rest := small_mul (by decide) (by omega)
        have hs : ∀ y : Int, 0 ≤ y.fmod 2147483647 ∧ y.fmod 2147483647 < 2147483748 := fun y => by
          rw [Int.fmod_eq_emod_of_nonneg _ (by decide)]
          have := Int.emod_lt_of_pos y (show (0 : Int) < 2147483647 by decide)
          exact ⟨Int.emod_nonneg _ (by decide), by omega⟩
        have h2 : ∀ y : Int, ∃ e s, forL none (rgA 0 each) (gN 8) L2__law_deck (rgA 0 each) [some (.slst (ns.map A.int)), some (.int cells), some (.int each), some (.cell 0), some (.int (y.fmod 2147483647)), some (.int (i : Int)), some (.int cell), some (.int rest), x8] [li ds] = .nx e s ∧ DeckI ns cells each (i * each + each) e s :=
          fun y => loop2 ns cells each (i * each) hb _ ds hl _ _ _ _ (hs y).1 (hs y).2
        simp [powOp_ii (show CPow 10 30 from ⟨by decide, by decide, by decide⟩), hrest, hpow, hbig, hr, mulOp_ii hm1, mulOp_ii hm2, modOp_ii (show (2147483647 : Int) ≠ 0 by decide)]
        obtain ⟨e, s, h3, h4⟩ := h2 (seed * 48271 + 2 * rest + (if cell < 0 then 1 else 0) + (i : Int))
        rw [h3]
        exact h4
theorem deck_spec {ns : List Int} (hns : ns.length ≤ 63) (cells each : Nat) (hk : cells * each < 100000) (hc : cells < 1000) : ∃ ds : List Int, ds.length = cells * each ∧ M__law_deck [.slst (ns.map A.int), .int cells, .int each] [] = .ok (.cell 0) [li ds] := by
  have hsz : sizeLine = 16777216 := sizeLine_eq
  have h := for_inv (all := rgA 0 cells) (g := gN 5) (body := L3__law_deck) (xs := rgA 0 cells) (fun i e s => DeckI ns cells each (i * each) e s)
    (env := [some (.slst (ns.map A.int)), some (.int cells), some (.int each), some (.cell 0), some (.int (7 + (ns.length : Int))), none, none, none, none]) (st := [li []]) ⟨_, [], _, _, _, _, rfl, rfl, by omega, by omega, by simp⟩ ?_
  · obtain ⟨e, s, h1, seed, ds, x5, x6, x7, x8, rfl, rfl, _, _, hl⟩ := h
    rw [rgA_length] at hl
    refine ⟨ds.reverse, by simpa using hl, ?_⟩
    have hc1 : -(2 ^ 62) ≤ (cells : Int) ∧ (cells : Int) < 2 ^ 62 := by omega
    have hcc : ([li ds] : Store)[0]? = some (.lst (ds.map A.int)) := rfl
    have hr : mRng1 (aCons (eVar 1) aNil) [some (.slst (ns.map A.int)), some (.int cells), some (.int each), some (.cell 0), some (.int (7 + (ns.length : Int))), none, none, none, none] [li []] = .ok (rgA 0 cells, none) [li []] :=
      mRng1_ap (by simp) hc1.1 hc1.2
    simp only [li, List.map_nil] at hr h1
    have hbody : B__law_deck [some (.slst (ns.map A.int)), some (.int cells), some (.int each), none, none, none, none, none, none] [] = .rt (.cell 0) [li ds.reverse] := by
      simp [B__law_deck, hr, h1, tyVA_cell hcc, reverseM_c hcc, li]
    exact fnM_rt rfl hbody (finA_cell (st := []) (l := [li ds.reverse]) (Nat.zero_le _) rfl rfl (bel_ints _ _))
  · rintro i x e s hx ⟨seed, ds, x5, x6, x7, x8, rfl, rfl, h0, h1, hl⟩
    obtain ⟨hi, rfl⟩ := rgA_get hx
    have hb : i * each + each < sizeLine := by
      have : i * each + each = (i + 1) * each := by rw [Nat.succ_mul]
      have h2 : (i + 1) * each ≤ cells * each := Nat.mul_le_mul_right _ (by omega)
      omega
    have he : -(2 ^ 62) ≤ (each : Int) ∧ (each : Int) < 2 ^ 62 := by
      have : each ≤ cells * each := Nat.le_mul_of_pos_left _ (by omega)
      omega
    refine ⟨_, rfl, ?_⟩
    rw [Nat.succ_mul]
    have hr : ∀ (e : AEnv) (s : Store), e[2]? = some (some (.int each)) → mRng1 (aCons (eVar 2) aNil) e s = .ok (rgA 0 each, none) s := fun e s he' => mRng1_ap (by simp [he']) he.1 he.2
    have key := key_spec hb he hl h0 h1 (ns := ns) (cells := cells) (x7 := x7) (x8 := x8)
    by_cases hlen : (i : Int) < (ns.length : Int)
    · have hv : (ns.map A.int)[i]? = some (.int (ns[i]'(by omega))) := by
        rw [List.getElem?_map, List.getElem?_eq_getElem (by omega)]; rfl
      have hix : ixOp (.slst (ns.map A.int)) (.int (i : Int)) [li ds] = some (.int (ns[i]'(by omega)), [li ds]) := ixOp_at (xs := ns.map A.int) rfl (atI_of (by omega) (by simpa using hv))
      have k := key (ns[i]'(by omega))
      simp [L3__law_deck, hlen, hix]
      simp at k
      exact k
    · have k := key 0
      simp [L3__law_deck, hlen]
      simp at k
      exact k
end Gk05

set_option Elab.async false
set_option linter.all false
set_option maxRecDepth 100000
set_option maxHeartbeats 4000000
namespace Gk05
open PySem PySem.Spec L2 SL
open PyProof.Rows hiding St
theorem sz : sizeLine = 16777216 := sizeLine_eq
theorem rng1 {ms : AEnv → Store → Res (List A)} {env : AEnv} {st : Store} {n : Nat} (hn : n < 10000) (h : ms env st = .ok [.int (n : Int)] st) : mRng1 ms env st = .ok (((List.range n).map fun i => ((i : Nat) : Int)).map A.int, none) st := by
  rw [mRng1_ap h (by omega) (by omega), rgA_ints]
/-! plain -/
theorem plain_int {st : Store} {k : Nat} {i : Int} : M__law_plain_ (k + 1) [.int i] st = .ok (.lst [.bl false, .int i]) st := by
  have hz := sz
  have hb : B__law_plain (M__law_plain_ k) [some (.int i), none] st = .rt (.lst [.bl false, .int i]) st := by
    have h1 : isiTys "int" [.ty "tuple", .ty "list"] = some false := by decide
    have h2 : isiTys "int" [.ty "int", .ty "str"] = some true := by decide
    have h3 : isiB (.int i) (.ty "bool") st = some (.bl false, st) := by simp only [isiB, isiA, tyName]; rw [show kitB "int" "bool" = some false by decide]; rfl
    have h4 : isiB (.int i) (.ty "str") st = some (.bl false, st) := by simp only [isiB, isiA, tyName]; rw [show kitB "int" "str" = some false by decide]; rfl
    have h5 : isNOp false (.int i) .non st = some (.bl false, st) := rfl
    simp [B__law_plain, tyName, h1, h2, h3, h4, h5, hz]
  exact fnM_rt rfl hb (fin_pure0 (by simp [A.bel, belowL]) (by intro c h; cases h))
theorem plain_seq {st : Store} {k : Nat} {a : A} {xs : List A} (f : A → A) (b : Bool) (ha : (a = .tup xs ∧ b = false) ∨ (a = .lst xs ∧ b = true)) (hl : xs.length < 10000) (hbel : ∀ x ∈ xs, (f x).bel st.length = true)
    (h : ∀ x ∈ xs, M__law_plain_ k [x] st = .ok (f x) st) : M__law_plain_ (k + 1) [a] st = .ok (.lst (.bl b :: xs.map f)) st := by
  have hz := sz
  have hsq : seqR a st = some xs ∧ srcOf a = none := by rcases ha with ⟨rfl, _⟩ | ⟨rfl, _⟩ <;> exact ⟨rfl, rfl⟩
  have hb : B__law_plain (M__law_plain_ k) [some a, none] st = .rt (.lst (.bl b :: xs.map f)) st := by
    have h1 : ((tyName a st).bind fun n => (isiTys n [.ty "tuple", .ty "list"]).map fun b => (A.bl b, st)) = some (.bl true, st) := by
      rcases ha with ⟨rfl, _⟩ | ⟨rfl, _⟩
      · have : isiTys "tuple" [.ty "tuple", .ty "list"] = some true := by decide
        simp [tyName, this]
      · have : isiTys "list" [.ty "tuple", .ty "list"] = some true := by decide
        simp [tyName, this]
    have h2 : isiB a (.ty "list") st = some (.bl b, st) := by
      rcases ha with ⟨rfl, rfl⟩ | ⟨rfl, rfl⟩ <;> simp only [isiB, isiA, tyName]
      · rw [show kitB "tuple" "list" = some false by decide]; rfl
      · rw [show kitB "list" "list" = some true by decide]; rfl
    have hc := lcL_map (all := xs) (g := gN 1) (me := e1__law_plain (M__law_plain_ k)) (mt := tYesM) (env0 := [some a, none]) (st := st) (fun _ => true) f xs [] (fun x hx => ⟨[some a, some x], rfl, by simp, fun _ => by simp [e1__law_plain, h x hx]⟩) (by simp; omega)
    rw [filT] at hc
    have e1 : eLc false (mSeq (eVar 0)) (gN 1) [1] tYesM (e1__law_plain (M__law_plain_ k)) [some a, none] st = .ok (.lst (xs.map f)) st := by
      simp [hsq.1, hsq.2]
      simp at hc
      rw [hc]; rfl
    have e2 : addOp false (.lst [.bl b]) (.lst (xs.map f)) st = some (.lst (.bl b :: xs.map f), st) := by
      have hq : addL false (.lst [.bl b]) (.lst (xs.map f)) st = some (.lst (.bl b :: xs.map f), st) := by
        simp only [addL, lstH]
        rw [if_pos (by simp; omega)]; rfl
      simp [addOp, addI, addS, iiOp, hq]
    have e0 : eIsiT (eVar 0) (aCons (eC (.ty "tuple")) (aCons (eC (.ty "list")) aNil)) [some a, none] st = .ok (.bl true) st := by
      simp only [eIsiT_ap, eVar_ap, List.getElem?_cons_zero, Res.bind_ok, aCons_ap, eC_ap, aNil_ap]
      rw [if_pos (by simp [hz]), h1]; rfl
    simp only [B__law_plain, sSeq_ap, sIf_ap, tTru_ap, e0, Res.bind_ok, truA_b, Res.toS_ok, if_true, sRet_ap, eBin_ap, eLst_ap, aCons_ap, eCB_ap, eVar_ap, List.getElem?_cons_zero, eC_ap, aNil_ap, two2_ap, h2, Res.of_some, List.length_cons, List.length_nil, newL_f, e1]
    rw [if_pos (by omega)]
    simp only [Res.bind_ok, e1, e2, Res.of_some, Res.toS_ok, SRes.bind_rt]
  refine fnM_rt rfl hb (fin_pure0 ?_ (by intro c h; cases h))
  simp only [A.bel, belowL, Bool.true_and]
  exact belowL_all fun x hx => by obtain ⟨y, hy, rfl⟩ := List.mem_map.mp hx; exact hbel y hy
abbrev plI : A → A := fun a => .lst [.bl false, a]
theorem plI_bel {n : Nat} {i : Int} : (plI (.int i)).bel n = true := by simp [A.bel, belowL]
theorem plI_dt {st : Store} {n : Nat} {i : Int} : Dt st (n + 1) (plI (.int i)) := dt_lst (by intro x hx; simp at hx; rcases hx with rfl | rfl <;> first | exact dt_bl | exact dt_int)
theorem plain_ti {st : Store} {k : Nat} {l : List Int} (hl : l.length < 10000) : M__law_plain_ (k + 2) [ti l] st = .ok (.lst (.bl false :: (l.map A.int).map plI)) st :=
  plain_seq plI false (.inl ⟨rfl, rfl⟩) (by simpa using hl) (fun x hx => by obtain ⟨i, _, rfl⟩ := List.mem_map.mp hx; exact plI_bel) (fun x hx => by obtain ⟨i, _, rfl⟩ := List.mem_map.mp hx; exact plain_int)
theorem plain_lI {st : Store} {k : Nat} {l : List Int} (hl : l.length < 10000) : M__law_plain_ (k + 2) [lI l] st = .ok (.lst (.bl true :: (l.map A.int).map plI)) st :=
  plain_seq plI true (.inr ⟨rfl, rfl⟩) (by simpa using hl) (fun x hx => by obtain ⟨i, _, rfl⟩ := List.mem_map.mp hx; exact plI_bel) (fun x hx => by obtain ⟨i, _, rfl⟩ := List.mem_map.mp hx; exact plain_int)
/-- a list of lists or tuples of numbers: told and compared with itself -/
theorem plain_nest {st : Store} {xs : List A} (hl : xs.length < 10000) (h : ∀ x ∈ xs, ∃ l : List Int, l.length < 10000 ∧ (x = ti l ∨ x = lI l)) : ∃ r, M__law_plain [.lst xs] st = .ok r st ∧ neOp r r st = some (.bl false, st) := by
  have hq : ∀ x ∈ xs, ∃ y, M__law_plain_ 5 [x] st = .ok y st ∧ y.bel st.length = true ∧ Dt st 49 y := by
    intro x hx
    obtain ⟨l, hl, rfl | rfl⟩ := h x hx
    · refine ⟨_, plain_ti hl, ?_, ?_⟩
      · simp only [A.bel, belowL, Bool.true_and]
        exact belowL_all fun x hx => by obtain ⟨y, hy, rfl⟩ := List.mem_map.mp hx; obtain ⟨i, _, rfl⟩ := List.mem_map.mp hy; exact plI_bel
      · refine dt_lst fun x hx => ?_
        rw [List.mem_cons] at hx
        rcases hx with rfl | hx
        · exact dt_bl
        · obtain ⟨y, hy, rfl⟩ := List.mem_map.mp hx; obtain ⟨i, _, rfl⟩ := List.mem_map.mp hy; exact plI_dt
    · refine ⟨_, plain_lI hl, ?_, ?_⟩
      · simp only [A.bel, belowL, Bool.true_and]
        exact belowL_all fun x hx => by obtain ⟨y, hy, rfl⟩ := List.mem_map.mp hx; obtain ⟨i, _, rfl⟩ := List.mem_map.mp hy; exact plI_bel
      · refine dt_lst fun x hx => ?_
        rw [List.mem_cons] at hx
        rcases hx with rfl | hx
        · exact dt_bl
        · obtain ⟨y, hy, rfl⟩ := List.mem_map.mp hx; obtain ⟨i, _, rfl⟩ := List.mem_map.mp hy; exact plI_dt
  classical
  let f : A → A := fun x => if hx : x ∈ xs then Classical.choose (hq x hx) else x
  have hf : ∀ x ∈ xs, M__law_plain_ 5 [x] st = .ok (f x) st ∧ (f x).bel st.length = true ∧ Dt st 49 (f x) := fun x hx => by
    have : f x = Classical.choose (hq x hx) := dif_pos hx
    rw [this]; exact Classical.choose_spec (hq x hx)
  refine ⟨_, plain_seq f true (.inr ⟨rfl, rfl⟩) hl (fun x hx => (hf x hx).2.1) (fun x hx => (hf x hx).1), neOp_same (dt_lst fun x hx => ?_)⟩
  rw [List.mem_cons] at hx
  rcases hx with rfl | hx
  · exact dt_bl
  · obtain ⟨y, hy, rfl⟩ := List.mem_map.mp hx; exact (hf y hy).2.2
end Gk05

set_option Elab.async false
set_option linter.all false
set_option maxRecDepth 100000
set_option maxHeartbeats 4000000
namespace Gk05
open PySem PySem.Spec L2 SL
open PyProof.Rows hiding St
inductive Stp where
  | cr (p k : Int)
  | ca (p : Int)
  | sw (p : Int)
  | tu (p : Int)
def Stp.k : Stp → Str
  | .cr _ _ => "create"
  | .ca _ => "cancel"
  | .sw _ => "swap"
  | .tu _ => "turn"
def Stp.a : Stp → A
  | .cr p k => .tup [.str "create", .int p, .int k]
  | .ca p => .tup [.str "cancel", .int p]
  | .sw p => .tup [.str "swap", .int p]
  | .tu p => .tup [.str "turn", .int p]
def ab (i : Int) : Int := if i < 0 then -i else i
theorem absA_ab {i : Int} {st : Store} : absA (.int i) st = some (.int (ab i), st) := rfl
def g0 (w : List Int) (p : Int) : Int := w.getD p.toNat 0
def mk (n : Int) (w : List Int) : Stp → Option (List Int)
  | .cr p k => if 0 ≤ p ∧ p ≤ w.length ∧ k ≠ 0 ∧ ab k < n then some (w.take p.toNat ++ [k, -k] ++ w.drop p.toNat) else none
  | .ca p => if 0 ≤ p ∧ p + 2 ≤ w.length ∧ g0 w p + g0 w (p + 1) = 0 then some (w.take p.toNat ++ w.drop (p + 2).toNat) else none
  | .sw p => if 0 ≤ p ∧ p + 2 ≤ w.length ∧ 1 < ab (ab (g0 w p) - ab (g0 w (p + 1))) then some (w.take p.toNat ++ [g0 w (p + 1), g0 w p] ++ w.drop (p + 2).toNat) else none
  | .tu p => if 0 ≤ p ∧ p + 3 ≤ w.length ∧ g0 w (p + 2) = g0 w p ∧ 0 < g0 w p * g0 w (p + 1) ∧ ab (g0 w p - g0 w (p + 1)) = 1 then some (w.take p.toNat ++ [g0 w (p + 1), g0 w p, g0 w (p + 1)] ++ w.drop (p + 3).toNat) else none
def optA : Option (List Int) → A
  | none => .non
  | some l => lI l
/-- words: letters within, not zero, few -/
structure Wd (w : List Int) : Prop where
  nz : ∀ x ∈ w, x ≠ 0 ∧ -100 < x ∧ x < 100
  few : w.length < 1000
theorem g0_mem {w : List Int} {p : Int} (h0 : 0 ≤ p) (h1 : p < w.length) : g0 w p ∈ w := by
  unfold g0
  rw [List.getD_eq_getElem?_getD, List.getElem?_eq_getElem (by omega)]
  exact List.getElem_mem _
theorem fin_opt {st : Store} {o : Option (List Int)} : finA false st.length st (optA o) st = .ok (optA o) st := by
  cases o with
  | none => exact fin_pure0 (by simp [optA, A.bel]) (by intro c h; cases h)
  | some l => exact fin_lI0
theorem ixg {st : Store} {w : List Int} {p : Int} (h0 : 0 ≤ p) (h1 : p < w.length) : ixOp (.lst (w.map A.int)) (.int p) st = some (.int (g0 w p), st) := ix_lI h0 h1
theorem tupix {st : Store} {xs : List A} {k : Int} {v : A} (h0 : 0 ≤ k) (h : xs[k.toNat]? = some v) : ixOp (.tup xs) (.int k) st = some (v, st) := ixOp_at rfl (atI_of h0 h)
theorem addI_l {st : Store} {a b : List Int} (h : a.length + b.length < 10000) : addOp false (.lst (a.map A.int)) (.lst (b.map A.int)) st = some (.lst ((a ++ b).map A.int), st) := by
  have hz := sz
  rw [addOp_l (by simp; omega), List.map_append]
theorem slt {st : Store} {w : List Int} {k : Int} (h0 : 0 ≤ k) (h1 : k ≤ w.length) : slOp false (.lst (w.map A.int)) none (some k) st = some (.lst ((w.take k.toNat).map A.int), st) := by
  rw [sl_take h0 (by simpa using h1), List.map_take]
theorem sld {st : Store} {w : List Int} {k : Int} (h0 : 0 ≤ k) (h1 : k ≤ w.length) : slOp false (.lst (w.map A.int)) (some k) none st = some (.lst ((w.drop k.toNat).map A.int), st) := by
  rw [sl_drop h0 (by simpa using h1), List.map_drop]
theorem addI_2 {st : Store} {a : List Int} {x y : Int} (h : a.length < 5000) : addOp false (.lst (a.map A.int)) (.lst [.int x, .int y]) st = some (.lst ((a ++ [x, y]).map A.int), st) := addI_l (b := [x, y]) (by simp; omega)
theorem addI_3 {st : Store} {a : List Int} {x y z : Int} (h : a.length < 5000) : addOp false (.lst (a.map A.int)) (.lst [.int x, .int y, .int z]) st = some (.lst ((a ++ [x, y, z]).map A.int), st) := addI_l (b := [x, y, z]) (by simp; omega)
section
variable {st : Store} {n : Int} {w : List Int}
theorem made_cr {p k : Int} (hw : Wd w) : M__law_made [.int n, lI w, Stp.a (.cr p k)] st = .ok (optA (mk n w (.cr p k))) st := by
  have hz := sz
  have hf := hw.few
  have t0 := @tupix st [.str "create", .int p, .int k] 0 _ (by omega) rfl
  have t1 := @tupix st [.str "create", .int p, .int k] 1 _ (by omega) rfl
  have t2 := @tupix st [.str "create", .int p, .int k] 2 _ (by omega) rfl
  have l2' : (2 : Nat) ≤ sizeLine := by omega
  refine fnM_rt (b := optA (mk n w (.cr p k))) rfl (a := optA (mk n w (.cr p k))) (st' := st) ?_ fin_opt
  show B__law_made [some (.int n), some (lI w), some (.tup [.str "create", .int p, .int k]), none, none, none, none] st = _
  by_cases h1 : p < 0
  · have e : mk n w (.cr p k) = none := if_neg (by omega)
    simp only [B__law_made, sSeq_ap, sAsg_ap, sEx_ap, sRet_ap, sRetN_ap, sNil_ap, sIf_ap, sFor_ap, sSub_ap, sRaise_ap, mkWhat_ap, eVar_ap, eC_ap, eBin_ap, eUn_ap, eTup_ap, eLst_ap, eCB_ap, eCall_ap, eM_ap, eIf_ap, eAndV_ap, eOrV_ap, eNotV_ap, eChain_ap, eSl_ap, oNone_ap, oSome_ap, eXf_ap, aNil_ap, aCons_ap, tOf_ap, tTru_ap, tAndM_ap, tOrM_ap, tNotM_ap, tYesM_ap, asB_bl, truA_b, Res.bind_ok, Res.bind_exc, Res.toS_ok, Res.toS_exc, Res.of_some, SRes.bind_nx, SRes.bind_rt, SRes.bind_exc, SRes.bind_ct, SRes.bind_bk, gN_ap, List.getElem?_cons_zero, List.getElem?_cons_succ, List.set_cons_zero, List.set_cons_succ, one1_ap, two2_ap, newL_f, newL_t, addOp_ii, subOp_ii, negOp_i, ltOp_ii, leOp_ii, gtOp_ii, geOp_ii, eqOp_ii, neOp_ii, eqOp_ss, neOp_ss, intA_i, intA_b, maxA_ii, minA_ii, lenA_lst, lenA_tup, lenA_slst, listA_lst, listA_tup, listA_slst, tupleA_lst, tupleA_tup, List.length_map, List.length_cons, List.length_nil, Bool.not_true, Bool.not_false, Bool.false_eq_true, if_true, if_false, Nat.zero_add, Nat.reduceAdd, t0, t1, t2, decide_eq_true h1, e, optA, decide_true]
  by_cases h2 : p > w.length
  · have e : mk n w (.cr p k) = none := if_neg (by omega)
    simp only [B__law_made, sSeq_ap, sAsg_ap, sEx_ap, sRet_ap, sRetN_ap, sNil_ap, sIf_ap, sFor_ap, sSub_ap, sRaise_ap, mkWhat_ap, eVar_ap, eC_ap, eBin_ap, eUn_ap, eTup_ap, eLst_ap, eCB_ap, eCall_ap, eM_ap, eIf_ap, eAndV_ap, eOrV_ap, eNotV_ap, eChain_ap, eSl_ap, oNone_ap, oSome_ap, eXf_ap, aNil_ap, aCons_ap, tOf_ap, tTru_ap, tAndM_ap, tOrM_ap, tNotM_ap, tYesM_ap, asB_bl, truA_b, Res.bind_ok, Res.bind_exc, Res.toS_ok, Res.toS_exc, Res.of_some, SRes.bind_nx, SRes.bind_rt, SRes.bind_exc, SRes.bind_ct, SRes.bind_bk, gN_ap, List.getElem?_cons_zero, List.getElem?_cons_succ, List.set_cons_zero, List.set_cons_succ, one1_ap, two2_ap, newL_f, newL_t, addOp_ii, subOp_ii, negOp_i, ltOp_ii, leOp_ii, gtOp_ii, geOp_ii, eqOp_ii, neOp_ii, eqOp_ss, neOp_ss, intA_i, intA_b, maxA_ii, minA_ii, lenA_lst, lenA_tup, lenA_slst, listA_lst, listA_tup, listA_slst, tupleA_lst, tupleA_tup, List.length_map, List.length_cons, List.length_nil, Bool.not_true, Bool.not_false, Bool.false_eq_true, if_true, if_false, Nat.zero_add, Nat.reduceAdd, t0, t1, t2, decide_eq_false h1, decide_eq_true h2, e, optA, decide_true]
  by_cases h3 : k = 0
  · have e : mk n w (.cr p k) = none := if_neg (by omega)
    simp only [B__law_made, sSeq_ap, sAsg_ap, sEx_ap, sRet_ap, sRetN_ap, sNil_ap, sIf_ap, sFor_ap, sSub_ap, sRaise_ap, mkWhat_ap, eVar_ap, eC_ap, eBin_ap, eUn_ap, eTup_ap, eLst_ap, eCB_ap, eCall_ap, eM_ap, eIf_ap, eAndV_ap, eOrV_ap, eNotV_ap, eChain_ap, eSl_ap, oNone_ap, oSome_ap, eXf_ap, aNil_ap, aCons_ap, tOf_ap, tTru_ap, tAndM_ap, tOrM_ap, tNotM_ap, tYesM_ap, asB_bl, truA_b, Res.bind_ok, Res.bind_exc, Res.toS_ok, Res.toS_exc, Res.of_some, SRes.bind_nx, SRes.bind_rt, SRes.bind_exc, SRes.bind_ct, SRes.bind_bk, gN_ap, List.getElem?_cons_zero, List.getElem?_cons_succ, List.set_cons_zero, List.set_cons_succ, one1_ap, two2_ap, newL_f, newL_t, addOp_ii, subOp_ii, negOp_i, ltOp_ii, leOp_ii, gtOp_ii, geOp_ii, eqOp_ii, neOp_ii, eqOp_ss, neOp_ss, intA_i, intA_b, maxA_ii, minA_ii, lenA_lst, lenA_tup, lenA_slst, listA_lst, listA_tup, listA_slst, tupleA_lst, tupleA_tup, List.length_map, List.length_cons, List.length_nil, Bool.not_true, Bool.not_false, Bool.false_eq_true, if_true, if_false, Nat.zero_add, Nat.reduceAdd, t0, t1, t2, decide_eq_false h1, decide_eq_false h2, decide_eq_true h3, e, optA, decide_true]
  by_cases h4 : n - 1 < ab k
  · have e : mk n w (.cr p k) = none := if_neg (by omega)
    simp only [B__law_made, sSeq_ap, sAsg_ap, sEx_ap, sRet_ap, sRetN_ap, sNil_ap, sIf_ap, sFor_ap, sSub_ap, sRaise_ap, mkWhat_ap, eVar_ap, eC_ap, eBin_ap, eUn_ap, eTup_ap, eLst_ap, eCB_ap, eCall_ap, eM_ap, eIf_ap, eAndV_ap, eOrV_ap, eNotV_ap, eChain_ap, eSl_ap, oNone_ap, oSome_ap, eXf_ap, aNil_ap, aCons_ap, tOf_ap, tTru_ap, tAndM_ap, tOrM_ap, tNotM_ap, tYesM_ap, asB_bl, truA_b, Res.bind_ok, Res.bind_exc, Res.toS_ok, Res.toS_exc, Res.of_some, SRes.bind_nx, SRes.bind_rt, SRes.bind_exc, SRes.bind_ct, SRes.bind_bk, gN_ap, List.getElem?_cons_zero, List.getElem?_cons_succ, List.set_cons_zero, List.set_cons_succ, one1_ap, two2_ap, newL_f, newL_t, addOp_ii, subOp_ii, negOp_i, ltOp_ii, leOp_ii, gtOp_ii, geOp_ii, eqOp_ii, neOp_ii, eqOp_ss, neOp_ss, intA_i, intA_b, maxA_ii, minA_ii, lenA_lst, lenA_tup, lenA_slst, listA_lst, listA_tup, listA_slst, tupleA_lst, tupleA_tup, List.length_map, List.length_cons, List.length_nil, Bool.not_true, Bool.not_false, Bool.false_eq_true, if_true, if_false, Nat.zero_add, Nat.reduceAdd, t0, t1, t2, absA_ab, decide_eq_false h1, decide_eq_false h2, decide_eq_false h3, decide_eq_true h4, e, optA, decide_true]
  · have e : mk n w (.cr p k) = some (w.take p.toNat ++ [k, -k] ++ w.drop p.toNat) := if_pos ⟨by omega, by omega, h3, by omega⟩
    have s1 := @slt st w p (by omega) (by omega)
    have s2 := @sld st w p (by omega) (by omega)
    have a1 := @addI_2 st (w.take p.toNat) k (-k) (by simp; omega)
    have a2 := @addI_l st (w.take p.toNat ++ [k, -k]) (w.drop p.toNat) (by simp; omega)
    simp only [B__law_made, sSeq_ap, sAsg_ap, sEx_ap, sRet_ap, sRetN_ap, sNil_ap, sIf_ap, sFor_ap, sSub_ap, sRaise_ap, mkWhat_ap, eVar_ap, eC_ap, eBin_ap, eUn_ap, eTup_ap, eLst_ap, eCB_ap, eCall_ap, eM_ap, eIf_ap, eAndV_ap, eOrV_ap, eNotV_ap, eChain_ap, eSl_ap, oNone_ap, oSome_ap, eXf_ap, aNil_ap, aCons_ap, tOf_ap, tTru_ap, tAndM_ap, tOrM_ap, tNotM_ap, tYesM_ap, asB_bl, truA_b, Res.bind_ok, Res.bind_exc, Res.toS_ok, Res.toS_exc, Res.of_some, SRes.bind_nx, SRes.bind_rt, SRes.bind_exc, SRes.bind_ct, SRes.bind_bk, gN_ap, List.getElem?_cons_zero, List.getElem?_cons_succ, List.set_cons_zero, List.set_cons_succ, one1_ap, two2_ap, newL_f, newL_t, addOp_ii, subOp_ii, negOp_i, ltOp_ii, leOp_ii, gtOp_ii, geOp_ii, eqOp_ii, neOp_ii, eqOp_ss, neOp_ss, intA_i, intA_b, maxA_ii, minA_ii, lenA_lst, lenA_tup, lenA_slst, listA_lst, listA_tup, listA_slst, tupleA_lst, tupleA_tup, List.length_map, List.length_cons, List.length_nil, Bool.not_true, Bool.not_false, Bool.false_eq_true, if_true, if_false, Nat.zero_add, Nat.reduceAdd, t0, t1, t2, absA_ab, decide_eq_false h1, decide_eq_false h2, decide_eq_false h3, decide_eq_false h4, e, optA, decide_true, s1, s2, l2', a1, a2]
theorem created_sp {p k : Int} (hw : Wd w) : M_created [.int n, lI w, .int p, .int k] st = (match mk n w (.cr p k) with | some l => .ok (lI l) st | none => .exc ⟨"IllegalMove", ["what"], [.str "create"]⟩ st) := by
  have hz := sz
  have hf := hw.few
  have l2' : (2 : Nat) ≤ sizeLine := by omega
  have ln : Str.length "create" < 1000 := by decide
  by_cases h0 : 0 ≤ p
  · by_cases h1 : p ≤ w.length
    · by_cases h3 : k = 0
      · have e : mk n w (.cr p k) = none := if_neg (by omega)
        rw [e]
        refine fnM_exc0 rfl (e := [some (.int n), some (lI w), some (.int p), some (.int k)]) ?_ rfl
        show B_created [some (.int n), some (lI w), some (.int p), some (.int k)] st = _
        simp only [B_created, sSeq_ap, sAsg_ap, sEx_ap, sRet_ap, sRetN_ap, sNil_ap, sIf_ap, sFor_ap, sSub_ap, sRaise_ap, mkWhat_ap, eVar_ap, eC_ap, eBin_ap, eUn_ap, eTup_ap, eLst_ap, eCB_ap, eCall_ap, eM_ap, eIf_ap, eAndV_ap, eOrV_ap, eNotV_ap, eChain_ap, eSl_ap, oNone_ap, oSome_ap, eXf_ap, aNil_ap, aCons_ap, tOf_ap, tTru_ap, tAndM_ap, tOrM_ap, tNotM_ap, tYesM_ap, asB_bl, truA_b, Res.bind_ok, Res.bind_exc, Res.toS_ok, Res.toS_exc, Res.of_some, SRes.bind_nx, SRes.bind_rt, SRes.bind_exc, SRes.bind_ct, SRes.bind_bk, gN_ap, List.getElem?_cons_zero, List.getElem?_cons_succ, List.set_cons_zero, List.set_cons_succ, one1_ap, two2_ap, newL_f, newL_t, addOp_ii, subOp_ii, negOp_i, ltOp_ii, leOp_ii, gtOp_ii, geOp_ii, eqOp_ii, neOp_ii, eqOp_ss, neOp_ss, intA_i, intA_b, maxA_ii, minA_ii, lenA_lst, lenA_tup, lenA_slst, listA_lst, listA_tup, listA_slst, tupleA_lst, tupleA_tup, List.length_map, List.length_cons, List.length_nil, Bool.not_true, Bool.not_false, Bool.false_eq_true, if_true, if_false, Nat.zero_add, Nat.reduceAdd, decide_eq_true h0, decide_eq_true h1, decide_eq_true h3, decide_true, ln]
      · by_cases h4 : n ≤ ab k
        · have e : mk n w (.cr p k) = none := if_neg (by omega)
          rw [e]
          refine fnM_exc0 rfl (e := [some (.int n), some (lI w), some (.int p), some (.int k)]) ?_ rfl
          show B_created [some (.int n), some (lI w), some (.int p), some (.int k)] st = _
          simp only [B_created, sSeq_ap, sAsg_ap, sEx_ap, sRet_ap, sRetN_ap, sNil_ap, sIf_ap, sFor_ap, sSub_ap, sRaise_ap, mkWhat_ap, eVar_ap, eC_ap, eBin_ap, eUn_ap, eTup_ap, eLst_ap, eCB_ap, eCall_ap, eM_ap, eIf_ap, eAndV_ap, eOrV_ap, eNotV_ap, eChain_ap, eSl_ap, oNone_ap, oSome_ap, eXf_ap, aNil_ap, aCons_ap, tOf_ap, tTru_ap, tAndM_ap, tOrM_ap, tNotM_ap, tYesM_ap, asB_bl, truA_b, Res.bind_ok, Res.bind_exc, Res.toS_ok, Res.toS_exc, Res.of_some, SRes.bind_nx, SRes.bind_rt, SRes.bind_exc, SRes.bind_ct, SRes.bind_bk, gN_ap, List.getElem?_cons_zero, List.getElem?_cons_succ, List.set_cons_zero, List.set_cons_succ, one1_ap, two2_ap, newL_f, newL_t, addOp_ii, subOp_ii, negOp_i, ltOp_ii, leOp_ii, gtOp_ii, geOp_ii, eqOp_ii, neOp_ii, eqOp_ss, neOp_ss, intA_i, intA_b, maxA_ii, minA_ii, lenA_lst, lenA_tup, lenA_slst, listA_lst, listA_tup, listA_slst, tupleA_lst, tupleA_tup, List.length_map, List.length_cons, List.length_nil, Bool.not_true, Bool.not_false, Bool.false_eq_true, if_true, if_false, Nat.zero_add, Nat.reduceAdd, absA_ab, decide_eq_true h0, decide_eq_true h1, decide_eq_false h3, decide_eq_true h4, decide_true, ln]
        · have e : mk n w (.cr p k) = some (w.take p.toNat ++ [k, -k] ++ w.drop p.toNat) := if_pos ⟨by omega, by omega, h3, by omega⟩
          rw [e]
          refine fnM_rt rfl (a := lI (w.take p.toNat ++ [k, -k] ++ w.drop p.toNat)) (st' := st) ?_ fin_lI0
          show B_created [some (.int n), some (lI w), some (.int p), some (.int k)] st = _
          have s1 := @slt st w p (by omega) (by omega)
          have s2 := @sld st w p (by omega) (by omega)
          have a1 := @addI_2 st (w.take p.toNat) k (-k) (by simp; omega)
          have a2 := @addI_l st (w.take p.toNat ++ [k, -k]) (w.drop p.toNat) (by simp; omega)
          simp only [B_created, sSeq_ap, sAsg_ap, sEx_ap, sRet_ap, sRetN_ap, sNil_ap, sIf_ap, sFor_ap, sSub_ap, sRaise_ap, mkWhat_ap, eVar_ap, eC_ap, eBin_ap, eUn_ap, eTup_ap, eLst_ap, eCB_ap, eCall_ap, eM_ap, eIf_ap, eAndV_ap, eOrV_ap, eNotV_ap, eChain_ap, eSl_ap, oNone_ap, oSome_ap, eXf_ap, aNil_ap, aCons_ap, tOf_ap, tTru_ap, tAndM_ap, tOrM_ap, tNotM_ap, tYesM_ap, asB_bl, truA_b, Res.bind_ok, Res.bind_exc, Res.toS_ok, Res.toS_exc, Res.of_some, SRes.bind_nx, SRes.bind_rt, SRes.bind_exc, SRes.bind_ct, SRes.bind_bk, gN_ap, List.getElem?_cons_zero, List.getElem?_cons_succ, List.set_cons_zero, List.set_cons_succ, one1_ap, two2_ap, newL_f, newL_t, addOp_ii, subOp_ii, negOp_i, ltOp_ii, leOp_ii, gtOp_ii, geOp_ii, eqOp_ii, neOp_ii, eqOp_ss, neOp_ss, intA_i, intA_b, maxA_ii, minA_ii, lenA_lst, lenA_tup, lenA_slst, listA_lst, listA_tup, listA_slst, tupleA_lst, tupleA_tup, List.length_map, List.length_cons, List.length_nil, Bool.not_true, Bool.not_false, Bool.false_eq_true, if_true, if_false, Nat.zero_add, Nat.reduceAdd, absA_ab, decide_eq_true h0, decide_eq_true h1, decide_eq_false h3, decide_eq_false h4, decide_true, s1, s2, l2', a1, a2]
    · have e : mk n w (.cr p k) = none := if_neg (by omega)
      rw [e]
      refine fnM_exc0 rfl (e := [some (.int n), some (lI w), some (.int p), some (.int k)]) ?_ rfl
      show B_created [some (.int n), some (lI w), some (.int p), some (.int k)] st = _
      simp only [B_created, sSeq_ap, sAsg_ap, sEx_ap, sRet_ap, sRetN_ap, sNil_ap, sIf_ap, sFor_ap, sSub_ap, sRaise_ap, mkWhat_ap, eVar_ap, eC_ap, eBin_ap, eUn_ap, eTup_ap, eLst_ap, eCB_ap, eCall_ap, eM_ap, eIf_ap, eAndV_ap, eOrV_ap, eNotV_ap, eChain_ap, eSl_ap, oNone_ap, oSome_ap, eXf_ap, aNil_ap, aCons_ap, tOf_ap, tTru_ap, tAndM_ap, tOrM_ap, tNotM_ap, tYesM_ap, asB_bl, truA_b, Res.bind_ok, Res.bind_exc, Res.toS_ok, Res.toS_exc, Res.of_some, SRes.bind_nx, SRes.bind_rt, SRes.bind_exc, SRes.bind_ct, SRes.bind_bk, gN_ap, List.getElem?_cons_zero, List.getElem?_cons_succ, List.set_cons_zero, List.set_cons_succ, one1_ap, two2_ap, newL_f, newL_t, addOp_ii, subOp_ii, negOp_i, ltOp_ii, leOp_ii, gtOp_ii, geOp_ii, eqOp_ii, neOp_ii, eqOp_ss, neOp_ss, intA_i, intA_b, maxA_ii, minA_ii, lenA_lst, lenA_tup, lenA_slst, listA_lst, listA_tup, listA_slst, tupleA_lst, tupleA_tup, List.length_map, List.length_cons, List.length_nil, Bool.not_true, Bool.not_false, Bool.false_eq_true, if_true, if_false, Nat.zero_add, Nat.reduceAdd, decide_eq_true h0, decide_eq_false h1, decide_true, ln]
  · have e : mk n w (.cr p k) = none := if_neg (by omega)
    rw [e]
    refine fnM_exc0 rfl (e := [some (.int n), some (lI w), some (.int p), some (.int k)]) ?_ rfl
    show B_created [some (.int n), some (lI w), some (.int p), some (.int k)] st = _
    simp only [B_created, sSeq_ap, sAsg_ap, sEx_ap, sRet_ap, sRetN_ap, sNil_ap, sIf_ap, sFor_ap, sSub_ap, sRaise_ap, mkWhat_ap, eVar_ap, eC_ap, eBin_ap, eUn_ap, eTup_ap, eLst_ap, eCB_ap, eCall_ap, eM_ap, eIf_ap, eAndV_ap, eOrV_ap, eNotV_ap, eChain_ap, eSl_ap, oNone_ap, oSome_ap, eXf_ap, aNil_ap, aCons_ap, tOf_ap, tTru_ap, tAndM_ap, tOrM_ap, tNotM_ap, tYesM_ap, asB_bl, truA_b, Res.bind_ok, Res.bind_exc, Res.toS_ok, Res.toS_exc, Res.of_some, SRes.bind_nx, SRes.bind_rt, SRes.bind_exc, SRes.bind_ct, SRes.bind_bk, gN_ap, List.getElem?_cons_zero, List.getElem?_cons_succ, List.set_cons_zero, List.set_cons_succ, one1_ap, two2_ap, newL_f, newL_t, addOp_ii, subOp_ii, negOp_i, ltOp_ii, leOp_ii, gtOp_ii, geOp_ii, eqOp_ii, neOp_ii, eqOp_ss, neOp_ss, intA_i, intA_b, maxA_ii, minA_ii, lenA_lst, lenA_tup, lenA_slst, listA_lst, listA_tup, listA_slst, tupleA_lst, tupleA_tup, List.length_map, List.length_cons, List.length_nil, Bool.not_true, Bool.not_false, Bool.false_eq_true, if_true, if_false, Nat.zero_add, Nat.reduceAdd, decide_eq_false h0, decide_true, ln]
end
end Gk05

set_option Elab.async false
set_option linter.all false
set_option maxRecDepth 100000
set_option maxHeartbeats 4000000
namespace Gk05
open PySem PySem.Spec L2 SL
open PyProof.Rows hiding St
theorem d1 : decide (("cancel" : Str) = "create") = false := by decide
theorem d2 : decide (("swap" : Str) = "create") = false := by decide
theorem d3 : decide (("turn" : Str) = "create") = false := by decide
theorem d4 : decide (("cancel" : Str) = "turn") = false := by decide
theorem d5 : decide (("swap" : Str) = "turn") = false := by decide
theorem d6 : decide (("swap" : Str) = "cancel") = false := by decide
theorem d7 : decide (("turn" : Str) = "cancel") = false := by decide
theorem d8 : decide (("cancel" : Str) = "swap") = false := by decide
theorem d9 : decide (("turn" : Str) = "swap") = false := by decide
section
variable {st : Store} {n : Int} {w : List Int}
theorem made_ca {p : Int} (hw : Wd w) : M__law_made [.int n, lI w, Stp.a (.ca p)] st = .ok (optA (mk n w (.ca p))) st := by
  have hz := sz
  have hf := hw.few
  have t0 := @tupix st [.str "cancel", .int p] 0 _ (by omega) rfl
  have t1 := @tupix st [.str "cancel", .int p] 1 _ (by omega) rfl
  refine fnM_rt (b := optA (mk n w (.ca p))) rfl (a := optA (mk n w (.ca p))) (st' := st) ?_ fin_opt
  show B__law_made [some (.int n), some (lI w), some (.tup [.str "cancel", .int p]), none, none, none, none] st = _
  by_cases h1 : p < 0
  · have e : mk n w (.ca p) = none := if_neg (by omega)
    simp only [B__law_made, sSeq_ap, sAsg_ap, sEx_ap, sRet_ap, sRetN_ap, sNil_ap, sIf_ap, sFor_ap, sSub_ap, sRaise_ap, mkWhat_ap, eVar_ap, eC_ap, eBin_ap, eUn_ap, eTup_ap, eLst_ap, eCB_ap, eCall_ap, eM_ap, eIf_ap, eAndV_ap, eOrV_ap, eNotV_ap, eChain_ap, eSl_ap, oNone_ap, oSome_ap, eXf_ap, aNil_ap, aCons_ap, tOf_ap, tTru_ap, tAndM_ap, tOrM_ap, tNotM_ap, tYesM_ap, asB_bl, truA_b, Res.bind_ok, Res.bind_exc, Res.toS_ok, Res.toS_exc, Res.of_some, SRes.bind_nx, SRes.bind_rt, SRes.bind_exc, SRes.bind_ct, SRes.bind_bk, gN_ap, List.getElem?_cons_zero, List.getElem?_cons_succ, List.set_cons_zero, List.set_cons_succ, one1_ap, two2_ap, newL_f, newL_t, addOp_ii, subOp_ii, negOp_i, ltOp_ii, leOp_ii, gtOp_ii, geOp_ii, eqOp_ii, neOp_ii, eqOp_ss, neOp_ss, intA_i, intA_b, maxA_ii, minA_ii, lenA_lst, lenA_tup, lenA_slst, listA_lst, listA_tup, listA_slst, tupleA_lst, tupleA_tup, List.length_map, List.length_cons, List.length_nil, Bool.not_true, Bool.not_false, Bool.false_eq_true, if_true, if_false, Nat.zero_add, Nat.reduceAdd, t0, t1, d1, d4, decide_eq_true h1, e, optA, decide_true]
  by_cases h2 : p + (2 + 0) > w.length
  · have e : mk n w (.ca p) = none := if_neg (by omega)
    simp only [B__law_made, sSeq_ap, sAsg_ap, sEx_ap, sRet_ap, sRetN_ap, sNil_ap, sIf_ap, sFor_ap, sSub_ap, sRaise_ap, mkWhat_ap, eVar_ap, eC_ap, eBin_ap, eUn_ap, eTup_ap, eLst_ap, eCB_ap, eCall_ap, eM_ap, eIf_ap, eAndV_ap, eOrV_ap, eNotV_ap, eChain_ap, eSl_ap, oNone_ap, oSome_ap, eXf_ap, aNil_ap, aCons_ap, tOf_ap, tTru_ap, tAndM_ap, tOrM_ap, tNotM_ap, tYesM_ap, asB_bl, truA_b, Res.bind_ok, Res.bind_exc, Res.toS_ok, Res.toS_exc, Res.of_some, SRes.bind_nx, SRes.bind_rt, SRes.bind_exc, SRes.bind_ct, SRes.bind_bk, gN_ap, List.getElem?_cons_zero, List.getElem?_cons_succ, List.set_cons_zero, List.set_cons_succ, one1_ap, two2_ap, newL_f, newL_t, addOp_ii, subOp_ii, negOp_i, ltOp_ii, leOp_ii, gtOp_ii, geOp_ii, eqOp_ii, neOp_ii, eqOp_ss, neOp_ss, intA_i, intA_b, maxA_ii, minA_ii, lenA_lst, lenA_tup, lenA_slst, listA_lst, listA_tup, listA_slst, tupleA_lst, tupleA_tup, List.length_map, List.length_cons, List.length_nil, Bool.not_true, Bool.not_false, Bool.false_eq_true, if_true, if_false, Nat.zero_add, Nat.reduceAdd, t0, t1, d1, d4, decide_eq_false h1, decide_eq_true h2, e, optA, decide_true]
  have x0 := @ixg st w p (by omega) (by omega)
  have x1 := @ixg st w (p + 1) (by omega) (by omega)
  by_cases h3 : g0 w p + g0 w (p + 1) = 0
  · have e : mk n w (.ca p) = some (w.take p.toNat ++ w.drop (p + 2).toNat) := if_pos ⟨by omega, by omega, h3⟩
    have s1 := @slt st w p (by omega) (by omega)
    have s2 := @sld st w (p + 2) (by omega) (by omega)
    have a1 := @addI_l st (w.take p.toNat) (w.drop (p + 2).toNat) (by simp; omega)
    simp only [B__law_made, sSeq_ap, sAsg_ap, sEx_ap, sRet_ap, sRetN_ap, sNil_ap, sIf_ap, sFor_ap, sSub_ap, sRaise_ap, mkWhat_ap, eVar_ap, eC_ap, eBin_ap, eUn_ap, eTup_ap, eLst_ap, eCB_ap, eCall_ap, eM_ap, eIf_ap, eAndV_ap, eOrV_ap, eNotV_ap, eChain_ap, eSl_ap, oNone_ap, oSome_ap, eXf_ap, aNil_ap, aCons_ap, tOf_ap, tTru_ap, tAndM_ap, tOrM_ap, tNotM_ap, tYesM_ap, asB_bl, truA_b, Res.bind_ok, Res.bind_exc, Res.toS_ok, Res.toS_exc, Res.of_some, SRes.bind_nx, SRes.bind_rt, SRes.bind_exc, SRes.bind_ct, SRes.bind_bk, gN_ap, List.getElem?_cons_zero, List.getElem?_cons_succ, List.set_cons_zero, List.set_cons_succ, one1_ap, two2_ap, newL_f, newL_t, addOp_ii, subOp_ii, negOp_i, ltOp_ii, leOp_ii, gtOp_ii, geOp_ii, eqOp_ii, neOp_ii, eqOp_ss, neOp_ss, intA_i, intA_b, maxA_ii, minA_ii, lenA_lst, lenA_tup, lenA_slst, listA_lst, listA_tup, listA_slst, tupleA_lst, tupleA_tup, List.length_map, List.length_cons, List.length_nil, Bool.not_true, Bool.not_false, Bool.false_eq_true, if_true, if_false, Nat.zero_add, Nat.reduceAdd, t0, t1, d1, d4, decide_eq_false h1, decide_eq_false h2, x0, x1, decide_eq_true h3, e, optA, decide_true, s1, s2, a1]
  · have e : mk n w (.ca p) = none := if_neg (fun z => h3 z.2.2)
    simp only [B__law_made, sSeq_ap, sAsg_ap, sEx_ap, sRet_ap, sRetN_ap, sNil_ap, sIf_ap, sFor_ap, sSub_ap, sRaise_ap, mkWhat_ap, eVar_ap, eC_ap, eBin_ap, eUn_ap, eTup_ap, eLst_ap, eCB_ap, eCall_ap, eM_ap, eIf_ap, eAndV_ap, eOrV_ap, eNotV_ap, eChain_ap, eSl_ap, oNone_ap, oSome_ap, eXf_ap, aNil_ap, aCons_ap, tOf_ap, tTru_ap, tAndM_ap, tOrM_ap, tNotM_ap, tYesM_ap, asB_bl, truA_b, Res.bind_ok, Res.bind_exc, Res.toS_ok, Res.toS_exc, Res.of_some, SRes.bind_nx, SRes.bind_rt, SRes.bind_exc, SRes.bind_ct, SRes.bind_bk, gN_ap, List.getElem?_cons_zero, List.getElem?_cons_succ, List.set_cons_zero, List.set_cons_succ, one1_ap, two2_ap, newL_f, newL_t, addOp_ii, subOp_ii, negOp_i, ltOp_ii, leOp_ii, gtOp_ii, geOp_ii, eqOp_ii, neOp_ii, eqOp_ss, neOp_ss, intA_i, intA_b, maxA_ii, minA_ii, lenA_lst, lenA_tup, lenA_slst, listA_lst, listA_tup, listA_slst, tupleA_lst, tupleA_tup, List.length_map, List.length_cons, List.length_nil, Bool.not_true, Bool.not_false, Bool.false_eq_true, if_true, if_false, Nat.zero_add, Nat.reduceAdd, t0, t1, d1, d4, d8, decide_eq_false h1, decide_eq_false h2, x0, x1, decide_eq_false h3, e, optA, decide_true]
theorem made_sw {p : Int} (hw : Wd w) : M__law_made [.int n, lI w, Stp.a (.sw p)] st = .ok (optA (mk n w (.sw p))) st := by
  have hz := sz
  have hf := hw.few
  have l2' : (2 : Nat) ≤ sizeLine := by omega
  have t0 := @tupix st [.str "swap", .int p] 0 _ (by omega) rfl
  have t1 := @tupix st [.str "swap", .int p] 1 _ (by omega) rfl
  refine fnM_rt (b := optA (mk n w (.sw p))) rfl (a := optA (mk n w (.sw p))) (st' := st) ?_ fin_opt
  show B__law_made [some (.int n), some (lI w), some (.tup [.str "swap", .int p]), none, none, none, none] st = _
  by_cases h1 : p < 0
  · have e : mk n w (.sw p) = none := if_neg (by omega)
    simp only [B__law_made, sSeq_ap, sAsg_ap, sEx_ap, sRet_ap, sRetN_ap, sNil_ap, sIf_ap, sFor_ap, sSub_ap, sRaise_ap, mkWhat_ap, eVar_ap, eC_ap, eBin_ap, eUn_ap, eTup_ap, eLst_ap, eCB_ap, eCall_ap, eM_ap, eIf_ap, eAndV_ap, eOrV_ap, eNotV_ap, eChain_ap, eSl_ap, oNone_ap, oSome_ap, eXf_ap, aNil_ap, aCons_ap, tOf_ap, tTru_ap, tAndM_ap, tOrM_ap, tNotM_ap, tYesM_ap, asB_bl, truA_b, Res.bind_ok, Res.bind_exc, Res.toS_ok, Res.toS_exc, Res.of_some, SRes.bind_nx, SRes.bind_rt, SRes.bind_exc, SRes.bind_ct, SRes.bind_bk, gN_ap, List.getElem?_cons_zero, List.getElem?_cons_succ, List.set_cons_zero, List.set_cons_succ, one1_ap, two2_ap, newL_f, newL_t, addOp_ii, subOp_ii, negOp_i, ltOp_ii, leOp_ii, gtOp_ii, geOp_ii, eqOp_ii, neOp_ii, eqOp_ss, neOp_ss, intA_i, intA_b, maxA_ii, minA_ii, lenA_lst, lenA_tup, lenA_slst, listA_lst, listA_tup, listA_slst, tupleA_lst, tupleA_tup, List.length_map, List.length_cons, List.length_nil, Bool.not_true, Bool.not_false, Bool.false_eq_true, if_true, if_false, Nat.zero_add, Nat.reduceAdd, t0, t1, d2, d5, decide_eq_true h1, e, optA, decide_true]
  by_cases h2 : p + (2 + 0) > w.length
  · have e : mk n w (.sw p) = none := if_neg (by omega)
    simp only [B__law_made, sSeq_ap, sAsg_ap, sEx_ap, sRet_ap, sRetN_ap, sNil_ap, sIf_ap, sFor_ap, sSub_ap, sRaise_ap, mkWhat_ap, eVar_ap, eC_ap, eBin_ap, eUn_ap, eTup_ap, eLst_ap, eCB_ap, eCall_ap, eM_ap, eIf_ap, eAndV_ap, eOrV_ap, eNotV_ap, eChain_ap, eSl_ap, oNone_ap, oSome_ap, eXf_ap, aNil_ap, aCons_ap, tOf_ap, tTru_ap, tAndM_ap, tOrM_ap, tNotM_ap, tYesM_ap, asB_bl, truA_b, Res.bind_ok, Res.bind_exc, Res.toS_ok, Res.toS_exc, Res.of_some, SRes.bind_nx, SRes.bind_rt, SRes.bind_exc, SRes.bind_ct, SRes.bind_bk, gN_ap, List.getElem?_cons_zero, List.getElem?_cons_succ, List.set_cons_zero, List.set_cons_succ, one1_ap, two2_ap, newL_f, newL_t, addOp_ii, subOp_ii, negOp_i, ltOp_ii, leOp_ii, gtOp_ii, geOp_ii, eqOp_ii, neOp_ii, eqOp_ss, neOp_ss, intA_i, intA_b, maxA_ii, minA_ii, lenA_lst, lenA_tup, lenA_slst, listA_lst, listA_tup, listA_slst, tupleA_lst, tupleA_tup, List.length_map, List.length_cons, List.length_nil, Bool.not_true, Bool.not_false, Bool.false_eq_true, if_true, if_false, Nat.zero_add, Nat.reduceAdd, t0, t1, d2, d5, decide_eq_false h1, decide_eq_true h2, e, optA, decide_true]
  have x0 := @ixg st w p (by omega) (by omega)
  have x1 := @ixg st w (p + 1) (by omega) (by omega)
  by_cases h3 : 1 < ab (ab (g0 w p) - ab (g0 w (p + 1)))
  · have e : mk n w (.sw p) = some (w.take p.toNat ++ [g0 w (p + 1), g0 w p] ++ w.drop (p + 2).toNat) := if_pos ⟨by omega, by omega, h3⟩
    have s1 := @slt st w p (by omega) (by omega)
    have s2 := @sld st w (p + 2) (by omega) (by omega)
    have a1 := @addI_2 st (w.take p.toNat) (g0 w (p + 1)) (g0 w p) (by simp; omega)
    have a2 := @addI_l st (w.take p.toNat ++ [g0 w (p + 1), g0 w p]) (w.drop (p + 2).toNat) (by simp; omega)
    simp only [B__law_made, sSeq_ap, sAsg_ap, sEx_ap, sRet_ap, sRetN_ap, sNil_ap, sIf_ap, sFor_ap, sSub_ap, sRaise_ap, mkWhat_ap, eVar_ap, eC_ap, eBin_ap, eUn_ap, eTup_ap, eLst_ap, eCB_ap, eCall_ap, eM_ap, eIf_ap, eAndV_ap, eOrV_ap, eNotV_ap, eChain_ap, eSl_ap, oNone_ap, oSome_ap, eXf_ap, aNil_ap, aCons_ap, tOf_ap, tTru_ap, tAndM_ap, tOrM_ap, tNotM_ap, tYesM_ap, asB_bl, truA_b, Res.bind_ok, Res.bind_exc, Res.toS_ok, Res.toS_exc, Res.of_some, SRes.bind_nx, SRes.bind_rt, SRes.bind_exc, SRes.bind_ct, SRes.bind_bk, gN_ap, List.getElem?_cons_zero, List.getElem?_cons_succ, List.set_cons_zero, List.set_cons_succ, one1_ap, two2_ap, newL_f, newL_t, addOp_ii, subOp_ii, negOp_i, ltOp_ii, leOp_ii, gtOp_ii, geOp_ii, eqOp_ii, neOp_ii, eqOp_ss, neOp_ss, intA_i, intA_b, maxA_ii, minA_ii, lenA_lst, lenA_tup, lenA_slst, listA_lst, listA_tup, listA_slst, tupleA_lst, tupleA_tup, List.length_map, List.length_cons, List.length_nil, Bool.not_true, Bool.not_false, Bool.false_eq_true, if_true, if_false, Nat.zero_add, Nat.reduceAdd, t0, t1, d2, d5, d6, absA_ab, decide_eq_false h1, decide_eq_false h2, x0, x1, decide_eq_true h3, e, optA, decide_true, s1, s2, a1, a2, l2']
  · have e : mk n w (.sw p) = none := if_neg (fun z => h3 z.2.2)
    simp only [B__law_made, sSeq_ap, sAsg_ap, sEx_ap, sRet_ap, sRetN_ap, sNil_ap, sIf_ap, sFor_ap, sSub_ap, sRaise_ap, mkWhat_ap, eVar_ap, eC_ap, eBin_ap, eUn_ap, eTup_ap, eLst_ap, eCB_ap, eCall_ap, eM_ap, eIf_ap, eAndV_ap, eOrV_ap, eNotV_ap, eChain_ap, eSl_ap, oNone_ap, oSome_ap, eXf_ap, aNil_ap, aCons_ap, tOf_ap, tTru_ap, tAndM_ap, tOrM_ap, tNotM_ap, tYesM_ap, asB_bl, truA_b, Res.bind_ok, Res.bind_exc, Res.toS_ok, Res.toS_exc, Res.of_some, SRes.bind_nx, SRes.bind_rt, SRes.bind_exc, SRes.bind_ct, SRes.bind_bk, gN_ap, List.getElem?_cons_zero, List.getElem?_cons_succ, List.set_cons_zero, List.set_cons_succ, one1_ap, two2_ap, newL_f, newL_t, addOp_ii, subOp_ii, negOp_i, ltOp_ii, leOp_ii, gtOp_ii, geOp_ii, eqOp_ii, neOp_ii, eqOp_ss, neOp_ss, intA_i, intA_b, maxA_ii, minA_ii, lenA_lst, lenA_tup, lenA_slst, listA_lst, listA_tup, listA_slst, tupleA_lst, tupleA_tup, List.length_map, List.length_cons, List.length_nil, Bool.not_true, Bool.not_false, Bool.false_eq_true, if_true, if_false, Nat.zero_add, Nat.reduceAdd, t0, t1, d2, d5, d6, absA_ab, decide_eq_false h1, decide_eq_false h2, x0, x1, decide_eq_false h3, e, optA, decide_true]
theorem made_tu {p : Int} (hw : Wd w) : M__law_made [.int n, lI w, Stp.a (.tu p)] st = .ok (optA (mk n w (.tu p))) st := by
  have hz := sz
  have hf := hw.few
  have l3' : (3 : Nat) ≤ sizeLine := by omega
  have t0 := @tupix st [.str "turn", .int p] 0 _ (by omega) rfl
  have t1 := @tupix st [.str "turn", .int p] 1 _ (by omega) rfl
  refine fnM_rt (b := optA (mk n w (.tu p))) rfl (a := optA (mk n w (.tu p))) (st' := st) ?_ fin_opt
  show B__law_made [some (.int n), some (lI w), some (.tup [.str "turn", .int p]), none, none, none, none] st = _
  by_cases h1 : p < 0
  · have e : mk n w (.tu p) = none := if_neg (by omega)
    simp only [B__law_made, sSeq_ap, sAsg_ap, sEx_ap, sRet_ap, sRetN_ap, sNil_ap, sIf_ap, sFor_ap, sSub_ap, sRaise_ap, mkWhat_ap, eVar_ap, eC_ap, eBin_ap, eUn_ap, eTup_ap, eLst_ap, eCB_ap, eCall_ap, eM_ap, eIf_ap, eAndV_ap, eOrV_ap, eNotV_ap, eChain_ap, eSl_ap, oNone_ap, oSome_ap, eXf_ap, aNil_ap, aCons_ap, tOf_ap, tTru_ap, tAndM_ap, tOrM_ap, tNotM_ap, tYesM_ap, asB_bl, truA_b, Res.bind_ok, Res.bind_exc, Res.toS_ok, Res.toS_exc, Res.of_some, SRes.bind_nx, SRes.bind_rt, SRes.bind_exc, SRes.bind_ct, SRes.bind_bk, gN_ap, List.getElem?_cons_zero, List.getElem?_cons_succ, List.set_cons_zero, List.set_cons_succ, one1_ap, two2_ap, newL_f, newL_t, addOp_ii, subOp_ii, negOp_i, ltOp_ii, leOp_ii, gtOp_ii, geOp_ii, eqOp_ii, neOp_ii, eqOp_ss, neOp_ss, intA_i, intA_b, maxA_ii, minA_ii, lenA_lst, lenA_tup, lenA_slst, listA_lst, listA_tup, listA_slst, tupleA_lst, tupleA_tup, List.length_map, List.length_cons, List.length_nil, Bool.not_true, Bool.not_false, Bool.false_eq_true, if_true, if_false, Nat.zero_add, Nat.reduceAdd, t0, t1, d3, decide_eq_true h1, e, optA, decide_true]
  by_cases h2 : p + (2 + 1) > w.length
  · have e : mk n w (.tu p) = none := if_neg (by omega)
    simp only [B__law_made, sSeq_ap, sAsg_ap, sEx_ap, sRet_ap, sRetN_ap, sNil_ap, sIf_ap, sFor_ap, sSub_ap, sRaise_ap, mkWhat_ap, eVar_ap, eC_ap, eBin_ap, eUn_ap, eTup_ap, eLst_ap, eCB_ap, eCall_ap, eM_ap, eIf_ap, eAndV_ap, eOrV_ap, eNotV_ap, eChain_ap, eSl_ap, oNone_ap, oSome_ap, eXf_ap, aNil_ap, aCons_ap, tOf_ap, tTru_ap, tAndM_ap, tOrM_ap, tNotM_ap, tYesM_ap, asB_bl, truA_b, Res.bind_ok, Res.bind_exc, Res.toS_ok, Res.toS_exc, Res.of_some, SRes.bind_nx, SRes.bind_rt, SRes.bind_exc, SRes.bind_ct, SRes.bind_bk, gN_ap, List.getElem?_cons_zero, List.getElem?_cons_succ, List.set_cons_zero, List.set_cons_succ, one1_ap, two2_ap, newL_f, newL_t, addOp_ii, subOp_ii, negOp_i, ltOp_ii, leOp_ii, gtOp_ii, geOp_ii, eqOp_ii, neOp_ii, eqOp_ss, neOp_ss, intA_i, intA_b, maxA_ii, minA_ii, lenA_lst, lenA_tup, lenA_slst, listA_lst, listA_tup, listA_slst, tupleA_lst, tupleA_tup, List.length_map, List.length_cons, List.length_nil, Bool.not_true, Bool.not_false, Bool.false_eq_true, if_true, if_false, Nat.zero_add, Nat.reduceAdd, t0, t1, d3, decide_eq_false h1, decide_eq_true h2, e, optA, decide_true]
  have x0 := @ixg st w p (by omega) (by omega)
  have x1 := @ixg st w (p + 1) (by omega) (by omega)
  have x2 := @ixg st w (p + 2) (by omega) (by omega)
  have b0 := hw.nz _ (@g0_mem w p (by omega) (by omega))
  have b1 := hw.nz _ (@g0_mem w (p + 1) (by omega) (by omega))
  have m1 : mulOp false (.int (g0 w p)) (.int (g0 w (p + 1))) st = some (.int (g0 w p * g0 w (p + 1)), st) := mulOp_ii (small_mul (by omega) (by omega))
  by_cases h3 : g0 w (p + 2) = g0 w p
  · by_cases h4 : 0 < g0 w p * g0 w (p + 1)
    · by_cases h5 : ab (g0 w p - g0 w (p + 1)) = 1
      · have e : mk n w (.tu p) = some (w.take p.toNat ++ [g0 w (p + 1), g0 w p, g0 w (p + 1)] ++ w.drop (p + 3).toNat) := if_pos ⟨by omega, by omega, h3, h4, h5⟩
        have s1 := @slt st w p (by omega) (by omega)
        have s2 := @sld st w (p + 3) (by omega) (by omega)
        have a1 := @addI_3 st (w.take p.toNat) (g0 w (p + 1)) (g0 w p) (g0 w (p + 1)) (by simp; omega)
        have a2 := @addI_l st (w.take p.toNat ++ [g0 w (p + 1), g0 w p, g0 w (p + 1)]) (w.drop (p + 3).toNat) (by simp; omega)
        simp only [B__law_made, sSeq_ap, sAsg_ap, sEx_ap, sRet_ap, sRetN_ap, sNil_ap, sIf_ap, sFor_ap, sSub_ap, sRaise_ap, mkWhat_ap, eVar_ap, eC_ap, eBin_ap, eUn_ap, eTup_ap, eLst_ap, eCB_ap, eCall_ap, eM_ap, eIf_ap, eAndV_ap, eOrV_ap, eNotV_ap, eChain_ap, eSl_ap, oNone_ap, oSome_ap, eXf_ap, aNil_ap, aCons_ap, tOf_ap, tTru_ap, tAndM_ap, tOrM_ap, tNotM_ap, tYesM_ap, asB_bl, truA_b, Res.bind_ok, Res.bind_exc, Res.toS_ok, Res.toS_exc, Res.of_some, SRes.bind_nx, SRes.bind_rt, SRes.bind_exc, SRes.bind_ct, SRes.bind_bk, gN_ap, List.getElem?_cons_zero, List.getElem?_cons_succ, List.set_cons_zero, List.set_cons_succ, one1_ap, two2_ap, newL_f, newL_t, addOp_ii, subOp_ii, negOp_i, ltOp_ii, leOp_ii, gtOp_ii, geOp_ii, eqOp_ii, neOp_ii, eqOp_ss, neOp_ss, intA_i, intA_b, maxA_ii, minA_ii, lenA_lst, lenA_tup, lenA_slst, listA_lst, listA_tup, listA_slst, tupleA_lst, tupleA_tup, List.length_map, List.length_cons, List.length_nil, Bool.not_true, Bool.not_false, Bool.false_eq_true, if_true, if_false, Nat.zero_add, Nat.reduceAdd, t0, t1, d3, d7, d9, absA_ab, decide_eq_false h1, decide_eq_false h2, x0, x1, x2, m1, decide_eq_true h3, decide_eq_true h4, decide_eq_true h5, e, optA, decide_true, s1, s2, a1, a2, l3']
      · have e : mk n w (.tu p) = none := if_neg (fun z => h5 z.2.2.2.2)
        simp only [B__law_made, sSeq_ap, sAsg_ap, sEx_ap, sRet_ap, sRetN_ap, sNil_ap, sIf_ap, sFor_ap, sSub_ap, sRaise_ap, mkWhat_ap, eVar_ap, eC_ap, eBin_ap, eUn_ap, eTup_ap, eLst_ap, eCB_ap, eCall_ap, eM_ap, eIf_ap, eAndV_ap, eOrV_ap, eNotV_ap, eChain_ap, eSl_ap, oNone_ap, oSome_ap, eXf_ap, aNil_ap, aCons_ap, tOf_ap, tTru_ap, tAndM_ap, tOrM_ap, tNotM_ap, tYesM_ap, asB_bl, truA_b, Res.bind_ok, Res.bind_exc, Res.toS_ok, Res.toS_exc, Res.of_some, SRes.bind_nx, SRes.bind_rt, SRes.bind_exc, SRes.bind_ct, SRes.bind_bk, gN_ap, List.getElem?_cons_zero, List.getElem?_cons_succ, List.set_cons_zero, List.set_cons_succ, one1_ap, two2_ap, newL_f, newL_t, addOp_ii, subOp_ii, negOp_i, ltOp_ii, leOp_ii, gtOp_ii, geOp_ii, eqOp_ii, neOp_ii, eqOp_ss, neOp_ss, intA_i, intA_b, maxA_ii, minA_ii, lenA_lst, lenA_tup, lenA_slst, listA_lst, listA_tup, listA_slst, tupleA_lst, tupleA_tup, List.length_map, List.length_cons, List.length_nil, Bool.not_true, Bool.not_false, Bool.false_eq_true, if_true, if_false, Nat.zero_add, Nat.reduceAdd, t0, t1, d3, d7, d9, absA_ab, decide_eq_false h1, decide_eq_false h2, x0, x1, x2, m1, decide_eq_true h3, decide_eq_true h4, decide_eq_false h5, e, optA, decide_true]
    · have e : mk n w (.tu p) = none := if_neg (fun z => h4 z.2.2.2.1)
      simp only [B__law_made, sSeq_ap, sAsg_ap, sEx_ap, sRet_ap, sRetN_ap, sNil_ap, sIf_ap, sFor_ap, sSub_ap, sRaise_ap, mkWhat_ap, eVar_ap, eC_ap, eBin_ap, eUn_ap, eTup_ap, eLst_ap, eCB_ap, eCall_ap, eM_ap, eIf_ap, eAndV_ap, eOrV_ap, eNotV_ap, eChain_ap, eSl_ap, oNone_ap, oSome_ap, eXf_ap, aNil_ap, aCons_ap, tOf_ap, tTru_ap, tAndM_ap, tOrM_ap, tNotM_ap, tYesM_ap, asB_bl, truA_b, Res.bind_ok, Res.bind_exc, Res.toS_ok, Res.toS_exc, Res.of_some, SRes.bind_nx, SRes.bind_rt, SRes.bind_exc, SRes.bind_ct, SRes.bind_bk, gN_ap, List.getElem?_cons_zero, List.getElem?_cons_succ, List.set_cons_zero, List.set_cons_succ, one1_ap, two2_ap, newL_f, newL_t, addOp_ii, subOp_ii, negOp_i, ltOp_ii, leOp_ii, gtOp_ii, geOp_ii, eqOp_ii, neOp_ii, eqOp_ss, neOp_ss, intA_i, intA_b, maxA_ii, minA_ii, lenA_lst, lenA_tup, lenA_slst, listA_lst, listA_tup, listA_slst, tupleA_lst, tupleA_tup, List.length_map, List.length_cons, List.length_nil, Bool.not_true, Bool.not_false, Bool.false_eq_true, if_true, if_false, Nat.zero_add, Nat.reduceAdd, t0, t1, d3, d7, d9, absA_ab, decide_eq_false h1, decide_eq_false h2, x0, x1, x2, m1, decide_eq_true h3, decide_eq_false h4, e, optA, decide_true]
  · have e : mk n w (.tu p) = none := if_neg (fun z => h3 z.2.2.1)
    simp only [B__law_made, sSeq_ap, sAsg_ap, sEx_ap, sRet_ap, sRetN_ap, sNil_ap, sIf_ap, sFor_ap, sSub_ap, sRaise_ap, mkWhat_ap, eVar_ap, eC_ap, eBin_ap, eUn_ap, eTup_ap, eLst_ap, eCB_ap, eCall_ap, eM_ap, eIf_ap, eAndV_ap, eOrV_ap, eNotV_ap, eChain_ap, eSl_ap, oNone_ap, oSome_ap, eXf_ap, aNil_ap, aCons_ap, tOf_ap, tTru_ap, tAndM_ap, tOrM_ap, tNotM_ap, tYesM_ap, asB_bl, truA_b, Res.bind_ok, Res.bind_exc, Res.toS_ok, Res.toS_exc, Res.of_some, SRes.bind_nx, SRes.bind_rt, SRes.bind_exc, SRes.bind_ct, SRes.bind_bk, gN_ap, List.getElem?_cons_zero, List.getElem?_cons_succ, List.set_cons_zero, List.set_cons_succ, one1_ap, two2_ap, newL_f, newL_t, addOp_ii, subOp_ii, negOp_i, ltOp_ii, leOp_ii, gtOp_ii, geOp_ii, eqOp_ii, neOp_ii, eqOp_ss, neOp_ss, intA_i, intA_b, maxA_ii, minA_ii, lenA_lst, lenA_tup, lenA_slst, listA_lst, listA_tup, listA_slst, tupleA_lst, tupleA_tup, List.length_map, List.length_cons, List.length_nil, Bool.not_true, Bool.not_false, Bool.false_eq_true, if_true, if_false, Nat.zero_add, Nat.reduceAdd, t0, t1, d3, d7, d9, absA_ab, decide_eq_false h1, decide_eq_false h2, x0, x1, x2, decide_eq_false h3, e, optA, decide_true]
theorem made_sp {s : Stp} (hw : Wd w) : M__law_made [.int n, lI w, s.a] st = .ok (optA (mk n w s)) st := by
  cases s with
  | cr p k => exact made_cr hw
  | ca p => exact made_ca hw
  | sw p => exact made_sw hw
  | tu p => exact made_tu hw
end
end Gk05

set_option Elab.async false
set_option linter.all false
set_option maxRecDepth 100000
set_option maxHeartbeats 4000000
namespace Gk05
open PySem PySem.Spec L2 SL
open PyProof.Rows hiding St
section
variable {st : Store} {n : Int} {w : List Int}
/-- what replaced answers -/
def rp : Str → List Int → Option (List Int)
  | k, part => if k = "cancel" then (if part.getD 0 0 = -part.getD 1 0 then some [] else none)
    else if k = "swap" then (if ab (ab (part.getD 0 0) - ab (part.getD 1 0)) ≥ 2 then some [part.getD 1 0, part.getD 0 0] else none)
    else (if part.getD 0 0 ≠ part.getD 2 0 ∨ ab (ab (part.getD 0 0) - ab (part.getD 1 0)) ≠ 1 ∨ decide (0 < part.getD 0 0) ≠ decide (0 < part.getD 1 0) then none else some [part.getD 1 0, part.getD 0 0, part.getD 1 0])
theorem ixs {k : Int} {l : List A} {v : A} (h0 : 0 ≤ k) (h : l[k.toNat]? = some v) : ixOp (.lst l) (.int k) st = some (v, st) := ixOp_at rfl (atI_of h0 h)
theorem rp_ca {a b : Int} : M_replaced [.str "cancel", .lst [.int a, .int b]] st = .ok (if a = -b then lI [] else .non) st := by
  have hz := sz
  have l0 : (0 : Nat) ≤ sizeLine := by omega
  have i0 := @ixs st 0 [.int a, .int b] _ (by omega) rfl
  have i1 := @ixs st 1 [.int a, .int b] _ (by omega) rfl
  by_cases h : a = -b
  · rw [if_pos h]
    refine fnM_rt rfl (a := lI []) (st' := st) ?_ fin_lI0
    show B_replaced [some (.str "cancel"), some (.lst [.int a, .int b]), none] st = _
    simp only [B_replaced, sSeq_ap, sAsg_ap, sEx_ap, sRet_ap, sRetN_ap, sNil_ap, sIf_ap, sFor_ap, sSub_ap, sRaise_ap, mkWhat_ap, eVar_ap, eC_ap, eBin_ap, eUn_ap, eTup_ap, eLst_ap, eCB_ap, eCall_ap, eM_ap, eIf_ap, eAndV_ap, eOrV_ap, eNotV_ap, eChain_ap, eSl_ap, oNone_ap, oSome_ap, eXf_ap, aNil_ap, aCons_ap, tOf_ap, tTru_ap, tAndM_ap, tOrM_ap, tNotM_ap, tYesM_ap, asB_bl, truA_b, Res.bind_ok, Res.bind_exc, Res.toS_ok, Res.toS_exc, Res.of_some, SRes.bind_nx, SRes.bind_rt, SRes.bind_exc, SRes.bind_ct, SRes.bind_bk, gN_ap, List.getElem?_cons_zero, List.getElem?_cons_succ, List.set_cons_zero, List.set_cons_succ, one1_ap, two2_ap, newL_f, newL_t, addOp_ii, subOp_ii, negOp_i, ltOp_ii, leOp_ii, gtOp_ii, geOp_ii, eqOp_ii, neOp_ii, eqOp_ss, neOp_ss, intA_i, intA_b, maxA_ii, minA_ii, lenA_lst, lenA_tup, lenA_slst, listA_lst, listA_tup, listA_slst, tupleA_lst, tupleA_tup, List.length_map, List.length_cons, List.length_nil, Bool.not_true, Bool.not_false, Bool.false_eq_true, if_true, if_false, Nat.zero_add, Nat.reduceAdd, i0, i1, decide_true, decide_eq_true h, l0]; rfl
  · rw [if_neg h]
    refine fnM_rt rfl (a := .non) (st' := st) ?_ (fin_pure0 (by simp [A.bel]) (by intro c h; cases h))
    show B_replaced [some (.str "cancel"), some (.lst [.int a, .int b]), none] st = _
    simp only [B_replaced, sSeq_ap, sAsg_ap, sEx_ap, sRet_ap, sRetN_ap, sNil_ap, sIf_ap, sFor_ap, sSub_ap, sRaise_ap, mkWhat_ap, eVar_ap, eC_ap, eBin_ap, eUn_ap, eTup_ap, eLst_ap, eCB_ap, eCall_ap, eM_ap, eIf_ap, eAndV_ap, eOrV_ap, eNotV_ap, eChain_ap, eSl_ap, oNone_ap, oSome_ap, eXf_ap, aNil_ap, aCons_ap, tOf_ap, tTru_ap, tAndM_ap, tOrM_ap, tNotM_ap, tYesM_ap, asB_bl, truA_b, Res.bind_ok, Res.bind_exc, Res.toS_ok, Res.toS_exc, Res.of_some, SRes.bind_nx, SRes.bind_rt, SRes.bind_exc, SRes.bind_ct, SRes.bind_bk, gN_ap, List.getElem?_cons_zero, List.getElem?_cons_succ, List.set_cons_zero, List.set_cons_succ, one1_ap, two2_ap, newL_f, newL_t, addOp_ii, subOp_ii, negOp_i, ltOp_ii, leOp_ii, gtOp_ii, geOp_ii, eqOp_ii, neOp_ii, eqOp_ss, neOp_ss, intA_i, intA_b, maxA_ii, minA_ii, lenA_lst, lenA_tup, lenA_slst, listA_lst, listA_tup, listA_slst, tupleA_lst, tupleA_tup, List.length_map, List.length_cons, List.length_nil, Bool.not_true, Bool.not_false, Bool.false_eq_true, if_true, if_false, Nat.zero_add, Nat.reduceAdd, i0, i1, decide_true, decide_eq_false h]
theorem rp_sw {a b : Int} : M_replaced [.str "swap", .lst [.int a, .int b]] st = .ok (if 2 ≤ ab (ab a - ab b) then lI [b, a] else .non) st := by
  have hz := sz
  have l0 : (2 : Nat) ≤ sizeLine := by omega
  have i0 := @ixs st 0 [.int a, .int b] _ (by omega) rfl
  have i1 := @ixs st 1 [.int a, .int b] _ (by omega) rfl
  by_cases h : 2 ≤ ab (ab a - ab b)
  · rw [if_pos h]
    refine fnM_rt rfl (a := lI [b, a]) (st' := st) ?_ fin_lI0
    show B_replaced [some (.str "swap"), some (.lst [.int a, .int b]), none] st = _
    simp only [B_replaced, sSeq_ap, sAsg_ap, sEx_ap, sRet_ap, sRetN_ap, sNil_ap, sIf_ap, sFor_ap, sSub_ap, sRaise_ap, mkWhat_ap, eVar_ap, eC_ap, eBin_ap, eUn_ap, eTup_ap, eLst_ap, eCB_ap, eCall_ap, eM_ap, eIf_ap, eAndV_ap, eOrV_ap, eNotV_ap, eChain_ap, eSl_ap, oNone_ap, oSome_ap, eXf_ap, aNil_ap, aCons_ap, tOf_ap, tTru_ap, tAndM_ap, tOrM_ap, tNotM_ap, tYesM_ap, asB_bl, truA_b, Res.bind_ok, Res.bind_exc, Res.toS_ok, Res.toS_exc, Res.of_some, SRes.bind_nx, SRes.bind_rt, SRes.bind_exc, SRes.bind_ct, SRes.bind_bk, gN_ap, List.getElem?_cons_zero, List.getElem?_cons_succ, List.set_cons_zero, List.set_cons_succ, one1_ap, two2_ap, newL_f, newL_t, addOp_ii, subOp_ii, negOp_i, ltOp_ii, leOp_ii, gtOp_ii, geOp_ii, eqOp_ii, neOp_ii, eqOp_ss, neOp_ss, intA_i, intA_b, maxA_ii, minA_ii, lenA_lst, lenA_tup, lenA_slst, listA_lst, listA_tup, listA_slst, tupleA_lst, tupleA_tup, List.length_map, List.length_cons, List.length_nil, Bool.not_true, Bool.not_false, Bool.false_eq_true, if_true, if_false, Nat.zero_add, Nat.reduceAdd, i0, i1, d6, absA_ab, decide_true, decide_eq_true h, l0]; rfl
  · rw [if_neg h]
    refine fnM_rt rfl (a := .non) (st' := st) ?_ (fin_pure0 (by simp [A.bel]) (by intro c h; cases h))
    show B_replaced [some (.str "swap"), some (.lst [.int a, .int b]), none] st = _
    simp only [B_replaced, sSeq_ap, sAsg_ap, sEx_ap, sRet_ap, sRetN_ap, sNil_ap, sIf_ap, sFor_ap, sSub_ap, sRaise_ap, mkWhat_ap, eVar_ap, eC_ap, eBin_ap, eUn_ap, eTup_ap, eLst_ap, eCB_ap, eCall_ap, eM_ap, eIf_ap, eAndV_ap, eOrV_ap, eNotV_ap, eChain_ap, eSl_ap, oNone_ap, oSome_ap, eXf_ap, aNil_ap, aCons_ap, tOf_ap, tTru_ap, tAndM_ap, tOrM_ap, tNotM_ap, tYesM_ap, asB_bl, truA_b, Res.bind_ok, Res.bind_exc, Res.toS_ok, Res.toS_exc, Res.of_some, SRes.bind_nx, SRes.bind_rt, SRes.bind_exc, SRes.bind_ct, SRes.bind_bk, gN_ap, List.getElem?_cons_zero, List.getElem?_cons_succ, List.set_cons_zero, List.set_cons_succ, one1_ap, two2_ap, newL_f, newL_t, addOp_ii, subOp_ii, negOp_i, ltOp_ii, leOp_ii, gtOp_ii, geOp_ii, eqOp_ii, neOp_ii, eqOp_ss, neOp_ss, intA_i, intA_b, maxA_ii, minA_ii, lenA_lst, lenA_tup, lenA_slst, listA_lst, listA_tup, listA_slst, tupleA_lst, tupleA_tup, List.length_map, List.length_cons, List.length_nil, Bool.not_true, Bool.not_false, Bool.false_eq_true, if_true, if_false, Nat.zero_add, Nat.reduceAdd, i0, i1, d6, absA_ab, decide_true, decide_eq_false h]
theorem neOp_bb {a b : Bool} : neOp (.bl a) (.bl b) st = some (.bl (!decide (a = b)), st) := rfl
theorem rp_tu {a b c : Int} : M_replaced [.str "turn", .lst [.int a, .int b, .int c]] st = .ok (if a = c ∧ ab (ab a - ab b) = 1 ∧ (0 < a ↔ 0 < b) then lI [b, a, b] else .non) st := by
  have hz := sz
  have l0 : (3 : Nat) ≤ sizeLine := by omega
  have i0 := @ixs st 0 [.int a, .int b, .int c] _ (by omega) rfl
  have i1 := @ixs st 1 [.int a, .int b, .int c] _ (by omega) rfl
  have i2 := @ixs st 2 [.int a, .int b, .int c] _ (by omega) rfl
  by_cases h1 : a = c
  · by_cases h2 : ab (ab a - ab b) = 1
    · by_cases h3 : (0 < a ↔ 0 < b)
      · rw [if_pos ⟨h1, h2, h3⟩]
        refine fnM_rt rfl (a := lI [b, a, b]) (st' := st) ?_ fin_lI0
        show B_replaced [some (.str "turn"), some (.lst [.int a, .int b, .int c]), none] st = _
        have h3' : decide (0 < a) = decide (0 < b) := decide_eq_decide.mpr h3
        simp only [B_replaced, sSeq_ap, sAsg_ap, sEx_ap, sRet_ap, sRetN_ap, sNil_ap, sIf_ap, sFor_ap, sSub_ap, sRaise_ap, mkWhat_ap, eVar_ap, eC_ap, eBin_ap, eUn_ap, eTup_ap, eLst_ap, eCB_ap, eCall_ap, eM_ap, eIf_ap, eAndV_ap, eOrV_ap, eNotV_ap, eChain_ap, eSl_ap, oNone_ap, oSome_ap, eXf_ap, aNil_ap, aCons_ap, tOf_ap, tTru_ap, tAndM_ap, tOrM_ap, tNotM_ap, tYesM_ap, asB_bl, truA_b, Res.bind_ok, Res.bind_exc, Res.toS_ok, Res.toS_exc, Res.of_some, SRes.bind_nx, SRes.bind_rt, SRes.bind_exc, SRes.bind_ct, SRes.bind_bk, gN_ap, List.getElem?_cons_zero, List.getElem?_cons_succ, List.set_cons_zero, List.set_cons_succ, one1_ap, two2_ap, newL_f, newL_t, addOp_ii, subOp_ii, negOp_i, ltOp_ii, leOp_ii, gtOp_ii, geOp_ii, eqOp_ii, neOp_ii, eqOp_ss, neOp_ss, intA_i, intA_b, maxA_ii, minA_ii, lenA_lst, lenA_tup, lenA_slst, listA_lst, listA_tup, listA_slst, tupleA_lst, tupleA_tup, List.length_map, List.length_cons, List.length_nil, Bool.not_true, Bool.not_false, Bool.false_eq_true, if_true, if_false, Nat.zero_add, Nat.reduceAdd, i0, i1, i2, d7, d9, absA_ab, decide_true, decide_eq_true h1, decide_eq_true h2, neOp_bb, h3', l0]; rfl
      · rw [if_neg (fun z => h3 z.2.2)]
        refine fnM_rt rfl (a := .non) (st' := st) ?_ (fin_pure0 (by simp [A.bel]) (by intro c h; cases h))
        show B_replaced [some (.str "turn"), some (.lst [.int a, .int b, .int c]), none] st = _
        have h3' : ¬ decide (0 < a) = decide (0 < b) := fun z => h3 (decide_eq_decide.mp z)
        simp only [B_replaced, sSeq_ap, sAsg_ap, sEx_ap, sRet_ap, sRetN_ap, sNil_ap, sIf_ap, sFor_ap, sSub_ap, sRaise_ap, mkWhat_ap, eVar_ap, eC_ap, eBin_ap, eUn_ap, eTup_ap, eLst_ap, eCB_ap, eCall_ap, eM_ap, eIf_ap, eAndV_ap, eOrV_ap, eNotV_ap, eChain_ap, eSl_ap, oNone_ap, oSome_ap, eXf_ap, aNil_ap, aCons_ap, tOf_ap, tTru_ap, tAndM_ap, tOrM_ap, tNotM_ap, tYesM_ap, asB_bl, truA_b, Res.bind_ok, Res.bind_exc, Res.toS_ok, Res.toS_exc, Res.of_some, SRes.bind_nx, SRes.bind_rt, SRes.bind_exc, SRes.bind_ct, SRes.bind_bk, gN_ap, List.getElem?_cons_zero, List.getElem?_cons_succ, List.set_cons_zero, List.set_cons_succ, one1_ap, two2_ap, newL_f, newL_t, addOp_ii, subOp_ii, negOp_i, ltOp_ii, leOp_ii, gtOp_ii, geOp_ii, eqOp_ii, neOp_ii, eqOp_ss, neOp_ss, intA_i, intA_b, maxA_ii, minA_ii, lenA_lst, lenA_tup, lenA_slst, listA_lst, listA_tup, listA_slst, tupleA_lst, tupleA_tup, List.length_map, List.length_cons, List.length_nil, Bool.not_true, Bool.not_false, Bool.false_eq_true, if_true, if_false, Nat.zero_add, Nat.reduceAdd, i0, i1, i2, d7, d9, absA_ab, decide_true, decide_eq_true h1, decide_eq_true h2, neOp_bb, decide_eq_false h3']
    · rw [if_neg (fun z => h2 z.2.1)]
      refine fnM_rt rfl (a := .non) (st' := st) ?_ (fin_pure0 (by simp [A.bel]) (by intro c h; cases h))
      show B_replaced [some (.str "turn"), some (.lst [.int a, .int b, .int c]), none] st = _
      simp only [B_replaced, sSeq_ap, sAsg_ap, sEx_ap, sRet_ap, sRetN_ap, sNil_ap, sIf_ap, sFor_ap, sSub_ap, sRaise_ap, mkWhat_ap, eVar_ap, eC_ap, eBin_ap, eUn_ap, eTup_ap, eLst_ap, eCB_ap, eCall_ap, eM_ap, eIf_ap, eAndV_ap, eOrV_ap, eNotV_ap, eChain_ap, eSl_ap, oNone_ap, oSome_ap, eXf_ap, aNil_ap, aCons_ap, tOf_ap, tTru_ap, tAndM_ap, tOrM_ap, tNotM_ap, tYesM_ap, asB_bl, truA_b, Res.bind_ok, Res.bind_exc, Res.toS_ok, Res.toS_exc, Res.of_some, SRes.bind_nx, SRes.bind_rt, SRes.bind_exc, SRes.bind_ct, SRes.bind_bk, gN_ap, List.getElem?_cons_zero, List.getElem?_cons_succ, List.set_cons_zero, List.set_cons_succ, one1_ap, two2_ap, newL_f, newL_t, addOp_ii, subOp_ii, negOp_i, ltOp_ii, leOp_ii, gtOp_ii, geOp_ii, eqOp_ii, neOp_ii, eqOp_ss, neOp_ss, intA_i, intA_b, maxA_ii, minA_ii, lenA_lst, lenA_tup, lenA_slst, listA_lst, listA_tup, listA_slst, tupleA_lst, tupleA_tup, List.length_map, List.length_cons, List.length_nil, Bool.not_true, Bool.not_false, Bool.false_eq_true, if_true, if_false, Nat.zero_add, Nat.reduceAdd, i0, i1, i2, d7, d9, absA_ab, decide_true, decide_eq_true h1, decide_eq_false h2]
  · rw [if_neg (fun z => h1 z.1)]
    refine fnM_rt rfl (a := .non) (st' := st) ?_ (fin_pure0 (by simp [A.bel]) (by intro c h; cases h))
    show B_replaced [some (.str "turn"), some (.lst [.int a, .int b, .int c]), none] st = _
    simp only [B_replaced, sSeq_ap, sAsg_ap, sEx_ap, sRet_ap, sRetN_ap, sNil_ap, sIf_ap, sFor_ap, sSub_ap, sRaise_ap, mkWhat_ap, eVar_ap, eC_ap, eBin_ap, eUn_ap, eTup_ap, eLst_ap, eCB_ap, eCall_ap, eM_ap, eIf_ap, eAndV_ap, eOrV_ap, eNotV_ap, eChain_ap, eSl_ap, oNone_ap, oSome_ap, eXf_ap, aNil_ap, aCons_ap, tOf_ap, tTru_ap, tAndM_ap, tOrM_ap, tNotM_ap, tYesM_ap, asB_bl, truA_b, Res.bind_ok, Res.bind_exc, Res.toS_ok, Res.toS_exc, Res.of_some, SRes.bind_nx, SRes.bind_rt, SRes.bind_exc, SRes.bind_ct, SRes.bind_bk, gN_ap, List.getElem?_cons_zero, List.getElem?_cons_succ, List.set_cons_zero, List.set_cons_succ, one1_ap, two2_ap, newL_f, newL_t, addOp_ii, subOp_ii, negOp_i, ltOp_ii, leOp_ii, gtOp_ii, geOp_ii, eqOp_ii, neOp_ii, eqOp_ss, neOp_ss, intA_i, intA_b, maxA_ii, minA_ii, lenA_lst, lenA_tup, lenA_slst, listA_lst, listA_tup, listA_slst, tupleA_lst, tupleA_tup, List.length_map, List.length_cons, List.length_nil, Bool.not_true, Bool.not_false, Bool.false_eq_true, if_true, if_false, Nat.zero_add, Nat.reduceAdd, i0, i1, i2, d7, d9, absA_ab, decide_true, decide_eq_false h1]
theorem cut2 {l : List A} {p : Nat} {a b : A} (h0 : l[p]? = some a) (h1 : l[p + 1]? = some b) : (l.drop p).take 2 = [a, b] := by
  apply List.ext_getElem?
  intro i
  rw [List.getElem?_take]
  match i with
  | 0 => simp [h0]
  | 1 => simp [h1]
  | i + 2 => simp; intro h; omega
theorem cut3 {l : List A} {p : Nat} {a b c : A} (h0 : l[p]? = some a) (h1 : l[p + 1]? = some b) (h2 : l[p + 2]? = some c) : (l.drop p).take 3 = [a, b, c] := by
  apply List.ext_getElem?
  intro i
  rw [List.getElem?_take]
  match i with
  | 0 => simp [h0]
  | 1 => simp [h1]
  | 2 => simp [h2]
  | i + 3 => simp; intro h; omega
theorem gat {r : Int} {q : Nat} (h : r.toNat = q) (hq : q < w.length) : (w.map A.int)[q]? = some (.int (g0 w r)) := by subst h; exact get_getD hq
theorem sl2 {p : Int} (h0 : 0 ≤ p) (h1 : p + 2 ≤ w.length) : slOp false (.lst (w.map A.int)) (some p) (some (p + 2)) st = some (.lst [.int (g0 w p), .int (g0 w (p + 1))], st) := by
  rw [sl_mid h0 (by omega) (by simpa using h1), show (p + 2 - p).toNat = 2 by omega]
  rw [cut2 (@gat w p _ rfl (by omega)) (@gat w (p + 1) _ (by omega) (by omega))]
theorem sl3 {p : Int} (h0 : 0 ≤ p) (h1 : p + 3 ≤ w.length) : slOp false (.lst (w.map A.int)) (some p) (some (p + 3)) st = some (.lst [.int (g0 w p), .int (g0 w (p + 1)), .int (g0 w (p + 2))], st) := by
  rw [sl_mid h0 (by omega) (by simpa using h1), show (p + 3 - p).toNat = 3 by omega]
  rw [cut3 (@gat w p _ rfl (by omega)) (@gat w (p + 1) _ (by omega) (by omega)) (@gat w (p + 2) _ (by omega) (by omega))]
theorem sizes (x : Str) (i : Int) (h : [(("cancel" : Str), (2 : Int)), ("swap", 2), ("turn", 3)].lookup x = some i) : wixOp "SIZES" [("cancel", 2), ("swap", 2), ("turn", 3)] (.glo "SIZES") (.str x) st = some (.int i, st) := by
  rw [wixOp_ap, h]; rfl
theorem isN_l {l : List A} : isNOp false (.lst l) .non st = some (.bl false, st) := rfl
theorem isN_n : isNOp false .non .non st = some (.bl true, st) := rfl
theorem notN_l {l : List A} : isNOp true (.lst l) .non st = some (.bl true, st) := rfl
theorem notN_n : isNOp true .non .non st = some (.bl false, st) := rfl
abbrev mkR (o : Option (List Int)) (k : Str) (st : Store) : Res A := match o with
  | some l => .ok (lI l) st
  | none => .exc ⟨"IllegalMove", ["what"], [.str k]⟩ st
theorem step_cr {p k : Int} (hw : Wd w) : M_make_step [.int n, lI w, Stp.a (.cr p k)] st = mkR (mk n w (.cr p k)) "create" st := by
  have t0 := @tupix st [.str "create", .int p, .int k] 0 _ (by omega) rfl
  have t1 := @tupix st [.str "create", .int p, .int k] 1 _ (by omega) rfl
  have t2 := @tupix st [.str "create", .int p, .int k] 2 _ (by omega) rfl
  have hc := @created_sp st n w p k hw
  cases e : mk n w (.cr p k) with
  | none =>
    rw [e] at hc
    refine fnM_exc0 rfl (e := [some (.int n), some (lI w), some (.tup [.str "create", .int p, .int k]), none, none, none]) ?_ rfl
    show B_make_step [some (.int n), some (lI w), some (.tup [.str "create", .int p, .int k]), none, none, none] st = _
    simp only [B_make_step, sSeq_ap, sAsg_ap, sEx_ap, sRet_ap, sRetN_ap, sNil_ap, sIf_ap, sFor_ap, sSub_ap, sRaise_ap, mkWhat_ap, eVar_ap, eC_ap, eBin_ap, eUn_ap, eTup_ap, eLst_ap, eCB_ap, eCall_ap, eM_ap, eIf_ap, eAndV_ap, eOrV_ap, eNotV_ap, eChain_ap, eSl_ap, oNone_ap, oSome_ap, eXf_ap, aNil_ap, aCons_ap, tOf_ap, tTru_ap, tAndM_ap, tOrM_ap, tNotM_ap, tYesM_ap, asB_bl, truA_b, Res.bind_ok, Res.bind_exc, Res.toS_ok, Res.toS_exc, Res.of_some, SRes.bind_nx, SRes.bind_rt, SRes.bind_exc, SRes.bind_ct, SRes.bind_bk, gN_ap, List.getElem?_cons_zero, List.getElem?_cons_succ, List.set_cons_zero, List.set_cons_succ, one1_ap, two2_ap, newL_f, newL_t, addOp_ii, subOp_ii, negOp_i, ltOp_ii, leOp_ii, gtOp_ii, geOp_ii, eqOp_ii, neOp_ii, eqOp_ss, neOp_ss, intA_i, intA_b, maxA_ii, minA_ii, lenA_lst, lenA_tup, lenA_slst, listA_lst, listA_tup, listA_slst, tupleA_lst, tupleA_tup, List.length_map, List.length_cons, List.length_nil, Bool.not_true, Bool.not_false, Bool.false_eq_true, if_true, if_false, Nat.zero_add, Nat.reduceAdd, t0, t1, t2, decide_true, hc]
  | some l =>
    rw [e] at hc
    refine fnM_rt rfl (a := lI l) (st' := st) ?_ fin_lI0
    show B_make_step [some (.int n), some (lI w), some (.tup [.str "create", .int p, .int k]), none, none, none] st = _
    simp only [B_make_step, sSeq_ap, sAsg_ap, sEx_ap, sRet_ap, sRetN_ap, sNil_ap, sIf_ap, sFor_ap, sSub_ap, sRaise_ap, mkWhat_ap, eVar_ap, eC_ap, eBin_ap, eUn_ap, eTup_ap, eLst_ap, eCB_ap, eCall_ap, eM_ap, eIf_ap, eAndV_ap, eOrV_ap, eNotV_ap, eChain_ap, eSl_ap, oNone_ap, oSome_ap, eXf_ap, aNil_ap, aCons_ap, tOf_ap, tTru_ap, tAndM_ap, tOrM_ap, tNotM_ap, tYesM_ap, asB_bl, truA_b, Res.bind_ok, Res.bind_exc, Res.toS_ok, Res.toS_exc, Res.of_some, SRes.bind_nx, SRes.bind_rt, SRes.bind_exc, SRes.bind_ct, SRes.bind_bk, gN_ap, List.getElem?_cons_zero, List.getElem?_cons_succ, List.set_cons_zero, List.set_cons_succ, one1_ap, two2_ap, newL_f, newL_t, addOp_ii, subOp_ii, negOp_i, ltOp_ii, leOp_ii, gtOp_ii, geOp_ii, eqOp_ii, neOp_ii, eqOp_ss, neOp_ss, intA_i, intA_b, maxA_ii, minA_ii, lenA_lst, lenA_tup, lenA_slst, listA_lst, listA_tup, listA_slst, tupleA_lst, tupleA_tup, List.length_map, List.length_cons, List.length_nil, Bool.not_true, Bool.not_false, Bool.false_eq_true, if_true, if_false, Nat.zero_add, Nat.reduceAdd, t0, t1, t2, decide_true, hc]
theorem step_ca {p : Int} (hw : Wd w) : M_make_step [.int n, lI w, Stp.a (.ca p)] st = mkR (mk n w (.ca p)) "cancel" st := by
  have hz := sz
  have hf := hw.few
  have t0 := @tupix st [.str "cancel", .int p] 0 _ (by omega) rfl
  have t1 := @tupix st [.str "cancel", .int p] 1 _ (by omega) rfl
  have ln : Str.length "cancel" < 1000 := by decide
  have z := @sizes st "cancel" 2 (by decide)
  by_cases h1 : 0 ≤ p
  · by_cases h2 : p ≤ (w.length : Int) - 2
    · have s2 := @sl2 st w p h1 (by omega)
      have r := @rp_ca st (g0 w p) (g0 w (p + 1))
      by_cases h3 : g0 w p = -g0 w (p + 1)
      · rw [if_pos h3] at r
        have e : mk n w (.ca p) = some (w.take p.toNat ++ w.drop (p + 2).toNat) := if_pos ⟨by omega, by omega, by omega⟩
        have s1 := @slt st w p (by omega) (by omega)
        have s3 := @sld st w (p + 2) (by omega) (by omega)
        have a0 : addOp false (.lst ((w.take p.toNat).map A.int)) (.lst (([] : List Int).map A.int)) st = _ := @addI_l st (w.take p.toNat) [] (by simp; omega)
        rw [List.append_nil] at a0
        have a1 := @addI_l st (w.take p.toNat) (w.drop (p + 2).toNat) (by simp; omega)
        rw [e]
        refine fnM_rt rfl (a := lI (w.take p.toNat ++ w.drop (p + 2).toNat)) (st' := st) ?_ fin_lI0
        show B_make_step [some (.int n), some (lI w), some (.tup [.str "cancel", .int p]), none, none, none] st = _
        simp only [B_make_step, sSeq_ap, sAsg_ap, sEx_ap, sRet_ap, sRetN_ap, sNil_ap, sIf_ap, sFor_ap, sSub_ap, sRaise_ap, mkWhat_ap, eVar_ap, eC_ap, eBin_ap, eUn_ap, eTup_ap, eLst_ap, eCB_ap, eCall_ap, eM_ap, eIf_ap, eAndV_ap, eOrV_ap, eNotV_ap, eChain_ap, eSl_ap, oNone_ap, oSome_ap, eXf_ap, aNil_ap, aCons_ap, tOf_ap, tTru_ap, tAndM_ap, tOrM_ap, tNotM_ap, tYesM_ap, asB_bl, truA_b, Res.bind_ok, Res.bind_exc, Res.toS_ok, Res.toS_exc, Res.of_some, SRes.bind_nx, SRes.bind_rt, SRes.bind_exc, SRes.bind_ct, SRes.bind_bk, gN_ap, List.getElem?_cons_zero, List.getElem?_cons_succ, List.set_cons_zero, List.set_cons_succ, one1_ap, two2_ap, newL_f, newL_t, addOp_ii, subOp_ii, negOp_i, ltOp_ii, leOp_ii, gtOp_ii, geOp_ii, eqOp_ii, neOp_ii, eqOp_ss, neOp_ss, intA_i, intA_b, maxA_ii, minA_ii, lenA_lst, lenA_tup, lenA_slst, listA_lst, listA_tup, listA_slst, tupleA_lst, tupleA_tup, List.length_map, List.length_cons, List.length_nil, Bool.not_true, Bool.not_false, Bool.false_eq_true, if_true, if_false, Nat.zero_add, Nat.reduceAdd, t0, t1, d1, z, decide_eq_true h1, decide_eq_true h2, s2, r, isN_l, s1, a0, s3, a1]
      · rw [if_neg h3] at r
        have e : mk n w (.ca p) = none := if_neg (by omega)
        rw [e]
        refine fnM_exc0 rfl (e := [some (.int n), some (lI w), some (.tup [.str "cancel", .int p]), some (.int p), some (.int 2), some .non]) ?_ rfl
        show B_make_step [some (.int n), some (lI w), some (.tup [.str "cancel", .int p]), none, none, none] st = _
        simp only [B_make_step, sSeq_ap, sAsg_ap, sEx_ap, sRet_ap, sRetN_ap, sNil_ap, sIf_ap, sFor_ap, sSub_ap, sRaise_ap, mkWhat_ap, eVar_ap, eC_ap, eBin_ap, eUn_ap, eTup_ap, eLst_ap, eCB_ap, eCall_ap, eM_ap, eIf_ap, eAndV_ap, eOrV_ap, eNotV_ap, eChain_ap, eSl_ap, oNone_ap, oSome_ap, eXf_ap, aNil_ap, aCons_ap, tOf_ap, tTru_ap, tAndM_ap, tOrM_ap, tNotM_ap, tYesM_ap, asB_bl, truA_b, Res.bind_ok, Res.bind_exc, Res.toS_ok, Res.toS_exc, Res.of_some, SRes.bind_nx, SRes.bind_rt, SRes.bind_exc, SRes.bind_ct, SRes.bind_bk, gN_ap, List.getElem?_cons_zero, List.getElem?_cons_succ, List.set_cons_zero, List.set_cons_succ, one1_ap, two2_ap, newL_f, newL_t, addOp_ii, subOp_ii, negOp_i, ltOp_ii, leOp_ii, gtOp_ii, geOp_ii, eqOp_ii, neOp_ii, eqOp_ss, neOp_ss, intA_i, intA_b, maxA_ii, minA_ii, lenA_lst, lenA_tup, lenA_slst, listA_lst, listA_tup, listA_slst, tupleA_lst, tupleA_tup, List.length_map, List.length_cons, List.length_nil, Bool.not_true, Bool.not_false, Bool.false_eq_true, if_true, if_false, Nat.zero_add, Nat.reduceAdd, t0, t1, d1, z, decide_eq_true h1, decide_eq_true h2, s2, r, isN_n, ln]
    · have e : mk n w (.ca p) = none := if_neg (by omega)
      rw [e]
      refine fnM_exc0 rfl (e := [some (.int n), some (lI w), some (.tup [.str "cancel", .int p]), some (.int p), some (.int 2), none]) ?_ rfl
      show B_make_step [some (.int n), some (lI w), some (.tup [.str "cancel", .int p]), none, none, none] st = _
      simp only [B_make_step, sSeq_ap, sAsg_ap, sEx_ap, sRet_ap, sRetN_ap, sNil_ap, sIf_ap, sFor_ap, sSub_ap, sRaise_ap, mkWhat_ap, eVar_ap, eC_ap, eBin_ap, eUn_ap, eTup_ap, eLst_ap, eCB_ap, eCall_ap, eM_ap, eIf_ap, eAndV_ap, eOrV_ap, eNotV_ap, eChain_ap, eSl_ap, oNone_ap, oSome_ap, eXf_ap, aNil_ap, aCons_ap, tOf_ap, tTru_ap, tAndM_ap, tOrM_ap, tNotM_ap, tYesM_ap, asB_bl, truA_b, Res.bind_ok, Res.bind_exc, Res.toS_ok, Res.toS_exc, Res.of_some, SRes.bind_nx, SRes.bind_rt, SRes.bind_exc, SRes.bind_ct, SRes.bind_bk, gN_ap, List.getElem?_cons_zero, List.getElem?_cons_succ, List.set_cons_zero, List.set_cons_succ, one1_ap, two2_ap, newL_f, newL_t, addOp_ii, subOp_ii, negOp_i, ltOp_ii, leOp_ii, gtOp_ii, geOp_ii, eqOp_ii, neOp_ii, eqOp_ss, neOp_ss, intA_i, intA_b, maxA_ii, minA_ii, lenA_lst, lenA_tup, lenA_slst, listA_lst, listA_tup, listA_slst, tupleA_lst, tupleA_tup, List.length_map, List.length_cons, List.length_nil, Bool.not_true, Bool.not_false, Bool.false_eq_true, if_true, if_false, Nat.zero_add, Nat.reduceAdd, t0, t1, d1, z, decide_eq_true h1, decide_eq_false h2, ln]
  · have e : mk n w (.ca p) = none := if_neg (by omega)
    rw [e]
    refine fnM_exc0 rfl (e := [some (.int n), some (lI w), some (.tup [.str "cancel", .int p]), some (.int p), some (.int 2), none]) ?_ rfl
    show B_make_step [some (.int n), some (lI w), some (.tup [.str "cancel", .int p]), none, none, none] st = _
    simp only [B_make_step, sSeq_ap, sAsg_ap, sEx_ap, sRet_ap, sRetN_ap, sNil_ap, sIf_ap, sFor_ap, sSub_ap, sRaise_ap, mkWhat_ap, eVar_ap, eC_ap, eBin_ap, eUn_ap, eTup_ap, eLst_ap, eCB_ap, eCall_ap, eM_ap, eIf_ap, eAndV_ap, eOrV_ap, eNotV_ap, eChain_ap, eSl_ap, oNone_ap, oSome_ap, eXf_ap, aNil_ap, aCons_ap, tOf_ap, tTru_ap, tAndM_ap, tOrM_ap, tNotM_ap, tYesM_ap, asB_bl, truA_b, Res.bind_ok, Res.bind_exc, Res.toS_ok, Res.toS_exc, Res.of_some, SRes.bind_nx, SRes.bind_rt, SRes.bind_exc, SRes.bind_ct, SRes.bind_bk, gN_ap, List.getElem?_cons_zero, List.getElem?_cons_succ, List.set_cons_zero, List.set_cons_succ, one1_ap, two2_ap, newL_f, newL_t, addOp_ii, subOp_ii, negOp_i, ltOp_ii, leOp_ii, gtOp_ii, geOp_ii, eqOp_ii, neOp_ii, eqOp_ss, neOp_ss, intA_i, intA_b, maxA_ii, minA_ii, lenA_lst, lenA_tup, lenA_slst, listA_lst, listA_tup, listA_slst, tupleA_lst, tupleA_tup, List.length_map, List.length_cons, List.length_nil, Bool.not_true, Bool.not_false, Bool.false_eq_true, if_true, if_false, Nat.zero_add, Nat.reduceAdd, t0, t1, d1, z, decide_eq_false h1, ln]
theorem step_sw {p : Int} (hw : Wd w) : M_make_step [.int n, lI w, Stp.a (.sw p)] st = mkR (mk n w (.sw p)) "swap" st := by
  have hz := sz
  have hf := hw.few
  have t0 := @tupix st [.str "swap", .int p] 0 _ (by omega) rfl
  have t1 := @tupix st [.str "swap", .int p] 1 _ (by omega) rfl
  have ln : Str.length "swap" < 1000 := by decide
  have z := @sizes st "swap" 2 (by decide)
  by_cases h1 : 0 ≤ p
  · by_cases h2 : p ≤ (w.length : Int) - 2
    · have s2 := @sl2 st w p h1 (by omega)
      have r := @rp_sw st (g0 w p) (g0 w (p + 1))
      by_cases h3 : 2 ≤ ab (ab (g0 w p) - ab (g0 w (p + 1)))
      · rw [if_pos h3] at r
        have e : mk n w (.sw p) = some (w.take p.toNat ++ [g0 w (p + 1), g0 w p] ++ w.drop (p + 2).toNat) := if_pos ⟨by omega, by omega, by omega⟩
        have s1 := @slt st w p (by omega) (by omega)
        have s3 := @sld st w (p + 2) (by omega) (by omega)
        have a0 := @addI_l st (w.take p.toNat) [g0 w (p + 1), g0 w p] (by simp; omega)
        have a1 := @addI_l st (w.take p.toNat ++ [g0 w (p + 1), g0 w p]) (w.drop (p + 2).toNat) (by simp; omega)
        rw [e]
        refine fnM_rt rfl (a := lI (w.take p.toNat ++ [g0 w (p + 1), g0 w p] ++ w.drop (p + 2).toNat)) (st' := st) ?_ fin_lI0
        show B_make_step [some (.int n), some (lI w), some (.tup [.str "swap", .int p]), none, none, none] st = _
        simp only [B_make_step, sSeq_ap, sAsg_ap, sEx_ap, sRet_ap, sRetN_ap, sNil_ap, sIf_ap, sFor_ap, sSub_ap, sRaise_ap, mkWhat_ap, eVar_ap, eC_ap, eBin_ap, eUn_ap, eTup_ap, eLst_ap, eCB_ap, eCall_ap, eM_ap, eIf_ap, eAndV_ap, eOrV_ap, eNotV_ap, eChain_ap, eSl_ap, oNone_ap, oSome_ap, eXf_ap, aNil_ap, aCons_ap, tOf_ap, tTru_ap, tAndM_ap, tOrM_ap, tNotM_ap, tYesM_ap, asB_bl, truA_b, Res.bind_ok, Res.bind_exc, Res.toS_ok, Res.toS_exc, Res.of_some, SRes.bind_nx, SRes.bind_rt, SRes.bind_exc, SRes.bind_ct, SRes.bind_bk, gN_ap, List.getElem?_cons_zero, List.getElem?_cons_succ, List.set_cons_zero, List.set_cons_succ, one1_ap, two2_ap, newL_f, newL_t, addOp_ii, subOp_ii, negOp_i, ltOp_ii, leOp_ii, gtOp_ii, geOp_ii, eqOp_ii, neOp_ii, eqOp_ss, neOp_ss, intA_i, intA_b, maxA_ii, minA_ii, lenA_lst, lenA_tup, lenA_slst, listA_lst, listA_tup, listA_slst, tupleA_lst, tupleA_tup, List.length_map, List.length_cons, List.length_nil, Bool.not_true, Bool.not_false, Bool.false_eq_true, if_true, if_false, Nat.zero_add, Nat.reduceAdd, t0, t1, d2, z, decide_eq_true h1, decide_eq_true h2, s2, r, isN_l, s1, a0, s3, a1]
      · rw [if_neg h3] at r
        have e : mk n w (.sw p) = none := if_neg (by omega)
        rw [e]
        refine fnM_exc0 rfl (e := [some (.int n), some (lI w), some (.tup [.str "swap", .int p]), some (.int p), some (.int 2), some .non]) ?_ rfl
        show B_make_step [some (.int n), some (lI w), some (.tup [.str "swap", .int p]), none, none, none] st = _
        simp only [B_make_step, sSeq_ap, sAsg_ap, sEx_ap, sRet_ap, sRetN_ap, sNil_ap, sIf_ap, sFor_ap, sSub_ap, sRaise_ap, mkWhat_ap, eVar_ap, eC_ap, eBin_ap, eUn_ap, eTup_ap, eLst_ap, eCB_ap, eCall_ap, eM_ap, eIf_ap, eAndV_ap, eOrV_ap, eNotV_ap, eChain_ap, eSl_ap, oNone_ap, oSome_ap, eXf_ap, aNil_ap, aCons_ap, tOf_ap, tTru_ap, tAndM_ap, tOrM_ap, tNotM_ap, tYesM_ap, asB_bl, truA_b, Res.bind_ok, Res.bind_exc, Res.toS_ok, Res.toS_exc, Res.of_some, SRes.bind_nx, SRes.bind_rt, SRes.bind_exc, SRes.bind_ct, SRes.bind_bk, gN_ap, List.getElem?_cons_zero, List.getElem?_cons_succ, List.set_cons_zero, List.set_cons_succ, one1_ap, two2_ap, newL_f, newL_t, addOp_ii, subOp_ii, negOp_i, ltOp_ii, leOp_ii, gtOp_ii, geOp_ii, eqOp_ii, neOp_ii, eqOp_ss, neOp_ss, intA_i, intA_b, maxA_ii, minA_ii, lenA_lst, lenA_tup, lenA_slst, listA_lst, listA_tup, listA_slst, tupleA_lst, tupleA_tup, List.length_map, List.length_cons, List.length_nil, Bool.not_true, Bool.not_false, Bool.false_eq_true, if_true, if_false, Nat.zero_add, Nat.reduceAdd, t0, t1, d2, z, decide_eq_true h1, decide_eq_true h2, s2, r, isN_n, ln]
    · have e : mk n w (.sw p) = none := if_neg (by omega)
      rw [e]
      refine fnM_exc0 rfl (e := [some (.int n), some (lI w), some (.tup [.str "swap", .int p]), some (.int p), some (.int 2), none]) ?_ rfl
      show B_make_step [some (.int n), some (lI w), some (.tup [.str "swap", .int p]), none, none, none] st = _
      simp only [B_make_step, sSeq_ap, sAsg_ap, sEx_ap, sRet_ap, sRetN_ap, sNil_ap, sIf_ap, sFor_ap, sSub_ap, sRaise_ap, mkWhat_ap, eVar_ap, eC_ap, eBin_ap, eUn_ap, eTup_ap, eLst_ap, eCB_ap, eCall_ap, eM_ap, eIf_ap, eAndV_ap, eOrV_ap, eNotV_ap, eChain_ap, eSl_ap, oNone_ap, oSome_ap, eXf_ap, aNil_ap, aCons_ap, tOf_ap, tTru_ap, tAndM_ap, tOrM_ap, tNotM_ap, tYesM_ap, asB_bl, truA_b, Res.bind_ok, Res.bind_exc, Res.toS_ok, Res.toS_exc, Res.of_some, SRes.bind_nx, SRes.bind_rt, SRes.bind_exc, SRes.bind_ct, SRes.bind_bk, gN_ap, List.getElem?_cons_zero, List.getElem?_cons_succ, List.set_cons_zero, List.set_cons_succ, one1_ap, two2_ap, newL_f, newL_t, addOp_ii, subOp_ii, negOp_i, ltOp_ii, leOp_ii, gtOp_ii, geOp_ii, eqOp_ii, neOp_ii, eqOp_ss, neOp_ss, intA_i, intA_b, maxA_ii, minA_ii, lenA_lst, lenA_tup, lenA_slst, listA_lst, listA_tup, listA_slst, tupleA_lst, tupleA_tup, List.length_map, List.length_cons, List.length_nil, Bool.not_true, Bool.not_false, Bool.false_eq_true, if_true, if_false, Nat.zero_add, Nat.reduceAdd, t0, t1, d2, z, decide_eq_true h1, decide_eq_false h2, ln]
  · have e : mk n w (.sw p) = none := if_neg (by omega)
    rw [e]
    refine fnM_exc0 rfl (e := [some (.int n), some (lI w), some (.tup [.str "swap", .int p]), some (.int p), some (.int 2), none]) ?_ rfl
    show B_make_step [some (.int n), some (lI w), some (.tup [.str "swap", .int p]), none, none, none] st = _
    simp only [B_make_step, sSeq_ap, sAsg_ap, sEx_ap, sRet_ap, sRetN_ap, sNil_ap, sIf_ap, sFor_ap, sSub_ap, sRaise_ap, mkWhat_ap, eVar_ap, eC_ap, eBin_ap, eUn_ap, eTup_ap, eLst_ap, eCB_ap, eCall_ap, eM_ap, eIf_ap, eAndV_ap, eOrV_ap, eNotV_ap, eChain_ap, eSl_ap, oNone_ap, oSome_ap, eXf_ap, aNil_ap, aCons_ap, tOf_ap, tTru_ap, tAndM_ap, tOrM_ap, tNotM_ap, tYesM_ap, asB_bl, truA_b, Res.bind_ok, Res.bind_exc, Res.toS_ok, Res.toS_exc, Res.of_some, SRes.bind_nx, SRes.bind_rt, SRes.bind_exc, SRes.bind_ct, SRes.bind_bk, gN_ap, List.getElem?_cons_zero, List.getElem?_cons_succ, List.set_cons_zero, List.set_cons_succ, one1_ap, two2_ap, newL_f, newL_t, addOp_ii, subOp_ii, negOp_i, ltOp_ii, leOp_ii, gtOp_ii, geOp_ii, eqOp_ii, neOp_ii, eqOp_ss, neOp_ss, intA_i, intA_b, maxA_ii, minA_ii, lenA_lst, lenA_tup, lenA_slst, listA_lst, listA_tup, listA_slst, tupleA_lst, tupleA_tup, List.length_map, List.length_cons, List.length_nil, Bool.not_true, Bool.not_false, Bool.false_eq_true, if_true, if_false, Nat.zero_add, Nat.reduceAdd, t0, t1, d2, z, decide_eq_false h1, ln]
theorem turn_iff {a b c : Int} (ha : a ≠ 0) (hb : b ≠ 0) : (a = c ∧ ab (ab a - ab b) = 1 ∧ (0 < a ↔ 0 < b)) ↔ (c = a ∧ 0 < a * b ∧ ab (a - b) = 1) := by
  have hm : (0 < a ↔ 0 < b) ↔ 0 < a * b := by
    rcases Int.lt_or_gt_of_ne ha with h | h <;> rcases Int.lt_or_gt_of_ne hb with h' | h'
    · have := Int.mul_pos_of_neg_of_neg h h'
      exact ⟨fun _ => this, fun _ => ⟨fun z => by omega, fun z => by omega⟩⟩
    · have := Int.mul_neg_of_neg_of_pos h h'
      exact ⟨fun z => by omega, fun z => by omega⟩
    · have := Int.mul_neg_of_pos_of_neg h h'
      exact ⟨fun z => by omega, fun z => by omega⟩
    · have := Int.mul_pos h h'
      exact ⟨fun _ => this, fun _ => ⟨fun _ => h', fun _ => h⟩⟩
  constructor
  · rintro ⟨h1, h2, h3⟩
    refine ⟨h1.symm, hm.mp h3, ?_⟩
    unfold ab at h2 ⊢
    by_cases x : 0 < a <;> by_cases y : 0 < b <;> simp [x, y] at h3 <;> (split at h2 <;> split at h2 <;> split at h2 <;> split <;> omega)
  · rintro ⟨h1, h2, h3⟩
    have h2' := hm.mpr h2
    refine ⟨h1.symm, ?_, h2'⟩
    unfold ab at h3 ⊢
    by_cases x : 0 < a <;> by_cases y : 0 < b <;> simp [x, y] at h2' <;> (split at h3 <;> (repeat' split) <;> omega)
theorem step_tu {p : Int} (hw : Wd w) : M_make_step [.int n, lI w, Stp.a (.tu p)] st = mkR (mk n w (.tu p)) "turn" st := by
  have hz := sz
  have hf := hw.few
  have t0 := @tupix st [.str "turn", .int p] 0 _ (by omega) rfl
  have t1 := @tupix st [.str "turn", .int p] 1 _ (by omega) rfl
  have ln : Str.length "turn" < 1000 := by decide
  have z := @sizes st "turn" 3 (by decide)
  by_cases h1 : 0 ≤ p
  · by_cases h2 : p ≤ (w.length : Int) - 3
    · have s2 := @sl3 st w p h1 (by omega)
      have r := @rp_tu st (g0 w p) (g0 w (p + 1)) (g0 w (p + 2))
      have b0 := hw.nz _ (@g0_mem w p (by omega) (by omega))
      have b1 := hw.nz _ (@g0_mem w (p + 1) (by omega) (by omega))
      have hq := turn_iff (c := g0 w (p + 2)) b0.1 b1.1
      by_cases h3 : g0 w p = g0 w (p + 2) ∧ ab (ab (g0 w p) - ab (g0 w (p + 1))) = 1 ∧ (0 < g0 w p ↔ 0 < g0 w (p + 1))
      · rw [if_pos h3] at r
        have e : mk n w (.tu p) = some (w.take p.toNat ++ [g0 w (p + 1), g0 w p, g0 w (p + 1)] ++ w.drop (p + 3).toNat) := if_pos ⟨by omega, by omega, hq.mp h3⟩
        have s1 := @slt st w p (by omega) (by omega)
        have s3 := @sld st w (p + 3) (by omega) (by omega)
        have a0 := @addI_l st (w.take p.toNat) [g0 w (p + 1), g0 w p, g0 w (p + 1)] (by simp; omega)
        have a1 := @addI_l st (w.take p.toNat ++ [g0 w (p + 1), g0 w p, g0 w (p + 1)]) (w.drop (p + 3).toNat) (by simp; omega)
        rw [e]
        refine fnM_rt rfl (a := lI (w.take p.toNat ++ [g0 w (p + 1), g0 w p, g0 w (p + 1)] ++ w.drop (p + 3).toNat)) (st' := st) ?_ fin_lI0
        show B_make_step [some (.int n), some (lI w), some (.tup [.str "turn", .int p]), none, none, none] st = _
        simp only [B_make_step, sSeq_ap, sAsg_ap, sEx_ap, sRet_ap, sRetN_ap, sNil_ap, sIf_ap, sFor_ap, sSub_ap, sRaise_ap, mkWhat_ap, eVar_ap, eC_ap, eBin_ap, eUn_ap, eTup_ap, eLst_ap, eCB_ap, eCall_ap, eM_ap, eIf_ap, eAndV_ap, eOrV_ap, eNotV_ap, eChain_ap, eSl_ap, oNone_ap, oSome_ap, eXf_ap, aNil_ap, aCons_ap, tOf_ap, tTru_ap, tAndM_ap, tOrM_ap, tNotM_ap, tYesM_ap, asB_bl, truA_b, Res.bind_ok, Res.bind_exc, Res.toS_ok, Res.toS_exc, Res.of_some, SRes.bind_nx, SRes.bind_rt, SRes.bind_exc, SRes.bind_ct, SRes.bind_bk, gN_ap, List.getElem?_cons_zero, List.getElem?_cons_succ, List.set_cons_zero, List.set_cons_succ, one1_ap, two2_ap, newL_f, newL_t, addOp_ii, subOp_ii, negOp_i, ltOp_ii, leOp_ii, gtOp_ii, geOp_ii, eqOp_ii, neOp_ii, eqOp_ss, neOp_ss, intA_i, intA_b, maxA_ii, minA_ii, lenA_lst, lenA_tup, lenA_slst, listA_lst, listA_tup, listA_slst, tupleA_lst, tupleA_tup, List.length_map, List.length_cons, List.length_nil, Bool.not_true, Bool.not_false, Bool.false_eq_true, if_true, if_false, Nat.zero_add, Nat.reduceAdd, t0, t1, d3, z, decide_eq_true h1, decide_eq_true h2, s2, r, isN_l, s1, a0, s3, a1]
      · rw [if_neg h3] at r
        have e : mk n w (.tu p) = none := if_neg (fun z => h3 (hq.mpr z.2.2))
        rw [e]
        refine fnM_exc0 rfl (e := [some (.int n), some (lI w), some (.tup [.str "turn", .int p]), some (.int p), some (.int 3), some .non]) ?_ rfl
        show B_make_step [some (.int n), some (lI w), some (.tup [.str "turn", .int p]), none, none, none] st = _
        simp only [B_make_step, sSeq_ap, sAsg_ap, sEx_ap, sRet_ap, sRetN_ap, sNil_ap, sIf_ap, sFor_ap, sSub_ap, sRaise_ap, mkWhat_ap, eVar_ap, eC_ap, eBin_ap, eUn_ap, eTup_ap, eLst_ap, eCB_ap, eCall_ap, eM_ap, eIf_ap, eAndV_ap, eOrV_ap, eNotV_ap, eChain_ap, eSl_ap, oNone_ap, oSome_ap, eXf_ap, aNil_ap, aCons_ap, tOf_ap, tTru_ap, tAndM_ap, tOrM_ap, tNotM_ap, tYesM_ap, asB_bl, truA_b, Res.bind_ok, Res.bind_exc, Res.toS_ok, Res.toS_exc, Res.of_some, SRes.bind_nx, SRes.bind_rt, SRes.bind_exc, SRes.bind_ct, SRes.bind_bk, gN_ap, List.getElem?_cons_zero, List.getElem?_cons_succ, List.set_cons_zero, List.set_cons_succ, one1_ap, two2_ap, newL_f, newL_t, addOp_ii, subOp_ii, negOp_i, ltOp_ii, leOp_ii, gtOp_ii, geOp_ii, eqOp_ii, neOp_ii, eqOp_ss, neOp_ss, intA_i, intA_b, maxA_ii, minA_ii, lenA_lst, lenA_tup, lenA_slst, listA_lst, listA_tup, listA_slst, tupleA_lst, tupleA_tup, List.length_map, List.length_cons, List.length_nil, Bool.not_true, Bool.not_false, Bool.false_eq_true, if_true, if_false, Nat.zero_add, Nat.reduceAdd, t0, t1, d3, z, decide_eq_true h1, decide_eq_true h2, s2, r, isN_n, ln]
    · have e : mk n w (.tu p) = none := if_neg (by omega)
      rw [e]
      refine fnM_exc0 rfl (e := [some (.int n), some (lI w), some (.tup [.str "turn", .int p]), some (.int p), some (.int 3), none]) ?_ rfl
      show B_make_step [some (.int n), some (lI w), some (.tup [.str "turn", .int p]), none, none, none] st = _
      simp only [B_make_step, sSeq_ap, sAsg_ap, sEx_ap, sRet_ap, sRetN_ap, sNil_ap, sIf_ap, sFor_ap, sSub_ap, sRaise_ap, mkWhat_ap, eVar_ap, eC_ap, eBin_ap, eUn_ap, eTup_ap, eLst_ap, eCB_ap, eCall_ap, eM_ap, eIf_ap, eAndV_ap, eOrV_ap, eNotV_ap, eChain_ap, eSl_ap, oNone_ap, oSome_ap, eXf_ap, aNil_ap, aCons_ap, tOf_ap, tTru_ap, tAndM_ap, tOrM_ap, tNotM_ap, tYesM_ap, asB_bl, truA_b, Res.bind_ok, Res.bind_exc, Res.toS_ok, Res.toS_exc, Res.of_some, SRes.bind_nx, SRes.bind_rt, SRes.bind_exc, SRes.bind_ct, SRes.bind_bk, gN_ap, List.getElem?_cons_zero, List.getElem?_cons_succ, List.set_cons_zero, List.set_cons_succ, one1_ap, two2_ap, newL_f, newL_t, addOp_ii, subOp_ii, negOp_i, ltOp_ii, leOp_ii, gtOp_ii, geOp_ii, eqOp_ii, neOp_ii, eqOp_ss, neOp_ss, intA_i, intA_b, maxA_ii, minA_ii, lenA_lst, lenA_tup, lenA_slst, listA_lst, listA_tup, listA_slst, tupleA_lst, tupleA_tup, List.length_map, List.length_cons, List.length_nil, Bool.not_true, Bool.not_false, Bool.false_eq_true, if_true, if_false, Nat.zero_add, Nat.reduceAdd, t0, t1, d3, z, decide_eq_true h1, decide_eq_false h2, ln]
  · have e : mk n w (.tu p) = none := if_neg (by omega)
    rw [e]
    refine fnM_exc0 rfl (e := [some (.int n), some (lI w), some (.tup [.str "turn", .int p]), some (.int p), some (.int 3), none]) ?_ rfl
    show B_make_step [some (.int n), some (lI w), some (.tup [.str "turn", .int p]), none, none, none] st = _
    simp only [B_make_step, sSeq_ap, sAsg_ap, sEx_ap, sRet_ap, sRetN_ap, sNil_ap, sIf_ap, sFor_ap, sSub_ap, sRaise_ap, mkWhat_ap, eVar_ap, eC_ap, eBin_ap, eUn_ap, eTup_ap, eLst_ap, eCB_ap, eCall_ap, eM_ap, eIf_ap, eAndV_ap, eOrV_ap, eNotV_ap, eChain_ap, eSl_ap, oNone_ap, oSome_ap, eXf_ap, aNil_ap, aCons_ap, tOf_ap, tTru_ap, tAndM_ap, tOrM_ap, tNotM_ap, tYesM_ap, asB_bl, truA_b, Res.bind_ok, Res.bind_exc, Res.toS_ok, Res.toS_exc, Res.of_some, SRes.bind_nx, SRes.bind_rt, SRes.bind_exc, SRes.bind_ct, SRes.bind_bk, gN_ap, List.getElem?_cons_zero, List.getElem?_cons_succ, List.set_cons_zero, List.set_cons_succ, one1_ap, two2_ap, newL_f, newL_t, addOp_ii, subOp_ii, negOp_i, ltOp_ii, leOp_ii, gtOp_ii, geOp_ii, eqOp_ii, neOp_ii, eqOp_ss, neOp_ss, intA_i, intA_b, maxA_ii, minA_ii, lenA_lst, lenA_tup, lenA_slst, listA_lst, listA_tup, listA_slst, tupleA_lst, tupleA_tup, List.length_map, List.length_cons, List.length_nil, Bool.not_true, Bool.not_false, Bool.false_eq_true, if_true, if_false, Nat.zero_add, Nat.reduceAdd, t0, t1, d3, z, decide_eq_false h1, ln]
theorem step_sp {s : Stp} (hw : Wd w) : M_make_step [.int n, lI w, s.a] st = mkR (mk n w s) s.k st := by
  cases s with
  | cr p k => exact step_cr hw
  | ca p => exact step_ca hw
  | sw p => exact step_sw hw
  | tu p => exact step_tu hw
end
end Gk05

set_option Elab.async false
set_option linter.all false
set_option maxRecDepth 100000
set_option maxHeartbeats 4000000
namespace Gk05
open PySem PySem.Spec L2 SL
open PyProof.Rows hiding St
def toldA (o : Option (List Int)) (k : Str) : A := match o with
  | some l => lI l
  | none => .tup [.str "illegal", .str k]
section
variable {st : Store} {n : Int} {w : List Int}
theorem told_sp {s : Stp} (hw : Wd w) : M__law_told [.int n, lI w, s.a] st = .ok (toldA (mk n w s) s.k) st := by
  have hz := sz
  have l2' : (2 : Nat) ≤ sizeLine := by omega
  have hs := @step_sp st n w s hw
  cases e : mk n w s with
  | some l =>
    rw [e] at hs
    refine fnM_rt rfl (a := lI l) (st' := st) ?_ fin_lI0
    show sTryAs [("IllegalMove", true)] 3 Y1__law_told X2__law_told [some (.int n), some (lI w), some s.a, none] st = _
    refine sTryAs_ok ?_ (by intro x e s h; cases h)
    simp only [Y1__law_told, sSeq_ap, sAsg_ap, sEx_ap, sRet_ap, sRetN_ap, sNil_ap, sIf_ap, sFor_ap, sSub_ap, sRaise_ap, mkWhat_ap, eVar_ap, eC_ap, eBin_ap, eUn_ap, eTup_ap, eLst_ap, eCB_ap, eCall_ap, eM_ap, eIf_ap, eAndV_ap, eOrV_ap, eNotV_ap, eChain_ap, eSl_ap, oNone_ap, oSome_ap, eXf_ap, aNil_ap, aCons_ap, tOf_ap, tTru_ap, tAndM_ap, tOrM_ap, tNotM_ap, tYesM_ap, asB_bl, truA_b, Res.bind_ok, Res.bind_exc, Res.toS_ok, Res.toS_exc, Res.of_some, SRes.bind_nx, SRes.bind_rt, SRes.bind_exc, SRes.bind_ct, SRes.bind_bk, gN_ap, List.getElem?_cons_zero, List.getElem?_cons_succ, List.set_cons_zero, List.set_cons_succ, one1_ap, two2_ap, newL_f, newL_t, addOp_ii, subOp_ii, negOp_i, ltOp_ii, leOp_ii, gtOp_ii, geOp_ii, eqOp_ii, neOp_ii, eqOp_ss, neOp_ss, intA_i, intA_b, maxA_ii, minA_ii, lenA_lst, lenA_tup, lenA_slst, listA_lst, listA_tup, listA_slst, tupleA_lst, tupleA_tup, List.length_map, List.length_cons, List.length_nil, Bool.not_true, Bool.not_false, Bool.false_eq_true, if_true, if_false, Nat.zero_add, Nat.reduceAdd, hs]
  | none =>
    rw [e] at hs
    refine fnM_rt rfl (a := .tup [.str "illegal", .str s.k]) (st' := st) ?_ (fin_pure0 (by simp [A.bel, belowL]) (by intro c h; cases h))
    show sTryAs [("IllegalMove", true)] 3 Y1__law_told X2__law_told [some (.int n), some (lI w), some s.a, none] st = _
    refine sTryAs_exc (x := ⟨"IllegalMove", ["what"], [.str s.k]⟩) (e := [some (.int n), some (lI w), some s.a, none]) (s := st) ?_ (show List.lookup ("IllegalMove" : Str) [("IllegalMove", true)] = some true by decide) (fun a d => ?_)
    · simp only [Y1__law_told, sSeq_ap, sAsg_ap, sEx_ap, sRet_ap, sRetN_ap, sNil_ap, sIf_ap, sFor_ap, sSub_ap, sRaise_ap, mkWhat_ap, eVar_ap, eC_ap, eBin_ap, eUn_ap, eTup_ap, eLst_ap, eCB_ap, eCall_ap, eM_ap, eIf_ap, eAndV_ap, eOrV_ap, eNotV_ap, eChain_ap, eSl_ap, oNone_ap, oSome_ap, eXf_ap, aNil_ap, aCons_ap, tOf_ap, tTru_ap, tAndM_ap, tOrM_ap, tNotM_ap, tYesM_ap, asB_bl, truA_b, Res.bind_ok, Res.bind_exc, Res.toS_ok, Res.toS_exc, Res.of_some, SRes.bind_nx, SRes.bind_rt, SRes.bind_exc, SRes.bind_ct, SRes.bind_bk, gN_ap, List.getElem?_cons_zero, List.getElem?_cons_succ, List.set_cons_zero, List.set_cons_succ, one1_ap, two2_ap, newL_f, newL_t, addOp_ii, subOp_ii, negOp_i, ltOp_ii, leOp_ii, gtOp_ii, geOp_ii, eqOp_ii, neOp_ii, eqOp_ss, neOp_ss, intA_i, intA_b, maxA_ii, minA_ii, lenA_lst, lenA_tup, lenA_slst, listA_lst, listA_tup, listA_slst, tupleA_lst, tupleA_tup, List.length_map, List.length_cons, List.length_nil, Bool.not_true, Bool.not_false, Bool.false_eq_true, if_true, if_false, Nat.zero_add, Nat.reduceAdd, hs]
    · have hm : ("IllegalMove" : Str) ∈ (["IllegalMove"] : List Str) := by simp
      have hlk : ((["what"] : List Str).zip ([.str s.k] : List A)).lookup ("what" : Str) = some (A.str s.k) := by
        rw [List.zip_cons_cons, List.lookup_cons]; rfl
      simp only [X2__law_told, sSeq_ap, sAsg_ap, sEx_ap, sRet_ap, sRetN_ap, sNil_ap, sIf_ap, sFor_ap, sSub_ap, sRaise_ap, mkWhat_ap, eVar_ap, eC_ap, eBin_ap, eUn_ap, eTup_ap, eLst_ap, eCB_ap, eCall_ap, eM_ap, eIf_ap, eAndV_ap, eOrV_ap, eNotV_ap, eChain_ap, eSl_ap, oNone_ap, oSome_ap, eXf_ap, aNil_ap, aCons_ap, tOf_ap, tTru_ap, tAndM_ap, tOrM_ap, tNotM_ap, tYesM_ap, asB_bl, truA_b, Res.bind_ok, Res.bind_exc, Res.toS_ok, Res.toS_exc, Res.of_some, SRes.bind_nx, SRes.bind_rt, SRes.bind_exc, SRes.bind_ct, SRes.bind_bk, gN_ap, List.getElem?_cons_zero, List.getElem?_cons_succ, List.set_cons_zero, List.set_cons_succ, one1_ap, two2_ap, newL_f, newL_t, addOp_ii, subOp_ii, negOp_i, ltOp_ii, leOp_ii, gtOp_ii, geOp_ii, eqOp_ii, neOp_ii, eqOp_ss, neOp_ss, intA_i, intA_b, maxA_ii, minA_ii, lenA_lst, lenA_tup, lenA_slst, listA_lst, listA_tup, listA_slst, tupleA_lst, tupleA_tup, List.length_map, List.length_cons, List.length_nil, Bool.not_true, Bool.not_false, Bool.false_eq_true, if_true, if_false, Nat.zero_add, Nat.reduceAdd, true_and, hm, hlk, l2', clr]
end
def run (n : Int) : List Int → List Stp → Option (List Int)
  | w, [] => some w
  | w, s :: S => (mk n w s).bind fun l => run n l S
theorem run_snoc (n : Int) (s : Stp) : ∀ (S : List Stp) (w : List Int), run n w (S ++ [s]) = (run n w S).bind fun l => mk n l s
  | [], w => by
    show (mk n w s).bind (fun l => some l) = mk n w s
    cases mk n w s <;> rfl
  | t :: S, w => by
    show (mk n w t).bind (fun l => run n l (S ++ [s])) = ((mk n w t).bind fun l => run n l S).bind _
    cases mk n w t with
    | none => rfl
    | some l => exact run_snoc n s S l
structure WdL (n : Int) (L : Nat) (w : List Int) : Prop where
  nz : ∀ x ∈ w, x ≠ 0 ∧ -100 < x ∧ x < 100
  few : w.length ≤ L
theorem WdL.wd {n : Int} {L : Nat} {w : List Int} (h : WdL n L w) (hL : L < 1000) : Wd w := ⟨h.nz, by have := h.few; omega⟩
theorem WdL.mono {n : Int} {L M : Nat} {w : List Int} (h : WdL n L w) (hL : L ≤ M) : WdL n M w := ⟨h.nz, by have := h.few; omega⟩
theorem mk_wd {n : Int} (hn : n ≤ 100) {L : Nat} {w l : List Int} {s : Stp} (hw : WdL n L w) (h : mk n w s = some l) : WdL n (L + 2) l := by
  have hf := hw.few
  have tk : ∀ k x, x ∈ w.take k → x ≠ 0 ∧ -100 < x ∧ x < 100 := fun k x hx => hw.nz x (List.mem_of_mem_take hx)
  have dk : ∀ k x, x ∈ w.drop k → x ≠ 0 ∧ -100 < x ∧ x < 100 := fun k x hx => hw.nz x (List.mem_of_mem_drop hx)
  cases s with
  | cr p k =>
    simp only [mk] at h
    split at h
    · rename_i c
      cases h
      obtain ⟨c1, c2, c3, c4⟩ := c
      refine ⟨fun x hx => ?_, by simp; omega⟩
      simp only [List.mem_append, List.mem_cons, List.not_mem_nil, or_false] at hx
      unfold ab at c4
      rcases hx with (hx | rfl | rfl) | hx
      · exact tk _ _ hx
      · split at c4 <;> omega
      · split at c4 <;> omega
      · exact dk _ _ hx
    · cases h
  | ca p =>
    simp only [mk] at h
    split at h
    · cases h
      refine ⟨fun x hx => ?_, by simp; omega⟩
      rcases List.mem_append.mp hx with hx | hx
      · exact tk _ _ hx
      · exact dk _ _ hx
    · cases h
  | sw p =>
    simp only [mk] at h
    split at h
    · rename_i c
      cases h
      obtain ⟨c1, c2, c3⟩ := c
      refine ⟨fun x hx => ?_, by simp; omega⟩
      simp only [List.mem_append, List.mem_cons, List.not_mem_nil, or_false] at hx
      rcases hx with (hx | rfl | rfl) | hx
      · exact tk _ _ hx
      · exact hw.nz _ (g0_mem (by omega) (by omega))
      · exact hw.nz _ (g0_mem (by omega) (by omega))
      · exact dk _ _ hx
    · cases h
  | tu p =>
    simp only [mk] at h
    split at h
    · rename_i c
      cases h
      obtain ⟨c1, c2, c3⟩ := c
      refine ⟨fun x hx => ?_, by simp; omega⟩
      simp only [List.mem_append, List.mem_cons, List.not_mem_nil, or_false] at hx
      rcases hx with (hx | rfl | rfl | rfl) | hx
      · exact tk _ _ hx
      · exact hw.nz _ (g0_mem (by omega) (by omega))
      · exact hw.nz _ (g0_mem (by omega) (by omega))
      · exact hw.nz _ (g0_mem (by omega) (by omega))
      · exact dk _ _ hx
    · cases h
theorem judge_loop {n : Int} (hn : n ≤ 100) {st : Store} {all : List A} {x2 x3 : Option A} : ∀ (S : List Stp) (L : Nat) (w : List Int) (x4 : Option A), WdL n L w → L + 2 * S.length < 1000 →
    (∃ l x4', run n w S = some l ∧ forL none all (gN 4) L1_judge_derivation (S.map Stp.a) [some (.int n), some (lI w), x2, x3, x4] st = .nx [some (.int n), some (lI l), x2, x3, x4'] st) ∨
    (run n w S = none ∧ ∃ (x : Exc) (e : AEnv), x.c = ("IllegalMove" : Str) ∧ forL none all (gN 4) L1_judge_derivation (S.map Stp.a) [some (.int n), some (lI w), x2, x3, x4] st = .exc x e st)
  | [], L, w, x4, hw, hL => .inl ⟨w, x4, rfl, by rw [List.map_nil, forL, if_pos (show srcOk none all st from trivial)]⟩
  | s :: S, L, w, x4, hw, hL => by
    rw [List.length_cons] at hL
    have hs := @step_sp st n w s (hw.wd (by omega))
    have hfl : forL none all (gN 4) L1_judge_derivation ((s :: S).map Stp.a) [some (.int n), some (lI w), x2, x3, x4] st = (match L1_judge_derivation [some (.int n), some (lI w), x2, x3, some s.a] st with
      | .nx e s => forL none all (gN 4) L1_judge_derivation (S.map Stp.a) e s
      | .ct e s => forL none all (gN 4) L1_judge_derivation (S.map Stp.a) e s
      | .bk e s => .nx e s
      | r => r) := by
      rw [List.map_cons, forL, if_pos (show srcOk none all st from trivial)]; rfl
    rw [hfl]
    cases e : mk n w s with
    | none =>
      rw [e] at hs
      refine .inr ⟨by show (mk n w s).bind _ = none; rw [e]; rfl, ⟨"IllegalMove", ["what"], [.str s.k]⟩, [some (.int n), some (lI w), x2, x3, some s.a], rfl, ?_⟩
      have hb : L1_judge_derivation [some (.int n), some (lI w), x2, x3, some s.a] st = .exc ⟨"IllegalMove", ["what"], [.str s.k]⟩ [some (.int n), some (lI w), x2, x3, some s.a] st := by
        simp only [L1_judge_derivation, sSeq_ap, sAsg_ap, sEx_ap, sRet_ap, sRetN_ap, sNil_ap, sIf_ap, sFor_ap, sSub_ap, sRaise_ap, mkWhat_ap, eVar_ap, eC_ap, eBin_ap, eUn_ap, eTup_ap, eLst_ap, eCB_ap, eCall_ap, eM_ap, eIf_ap, eAndV_ap, eOrV_ap, eNotV_ap, eChain_ap, eSl_ap, oNone_ap, oSome_ap, eXf_ap, aNil_ap, aCons_ap, tOf_ap, tTru_ap, tAndM_ap, tOrM_ap, tNotM_ap, tYesM_ap, asB_bl, truA_b, Res.bind_ok, Res.bind_exc, Res.toS_ok, Res.toS_exc, Res.of_some, SRes.bind_nx, SRes.bind_rt, SRes.bind_exc, SRes.bind_ct, SRes.bind_bk, gN_ap, List.getElem?_cons_zero, List.getElem?_cons_succ, List.set_cons_zero, List.set_cons_succ, one1_ap, two2_ap, newL_f, newL_t, addOp_ii, subOp_ii, negOp_i, ltOp_ii, leOp_ii, gtOp_ii, geOp_ii, eqOp_ii, neOp_ii, eqOp_ss, neOp_ss, intA_i, intA_b, maxA_ii, minA_ii, lenA_lst, lenA_tup, lenA_slst, listA_lst, listA_tup, listA_slst, tupleA_lst, tupleA_tup, List.length_map, List.length_cons, List.length_nil, Bool.not_true, Bool.not_false, Bool.false_eq_true, if_true, if_false, Nat.zero_add, Nat.reduceAdd, hs]
      rw [hb]
    | some l =>
      rw [e] at hs
      have hb : L1_judge_derivation [some (.int n), some (lI w), x2, x3, some s.a] st = .nx [some (.int n), some (lI l), x2, x3, some s.a] st := by
        simp only [L1_judge_derivation, sSeq_ap, sAsg_ap, sEx_ap, sRet_ap, sRetN_ap, sNil_ap, sIf_ap, sFor_ap, sSub_ap, sRaise_ap, mkWhat_ap, eVar_ap, eC_ap, eBin_ap, eUn_ap, eTup_ap, eLst_ap, eCB_ap, eCall_ap, eM_ap, eIf_ap, eAndV_ap, eOrV_ap, eNotV_ap, eChain_ap, eSl_ap, oNone_ap, oSome_ap, eXf_ap, aNil_ap, aCons_ap, tOf_ap, tTru_ap, tAndM_ap, tOrM_ap, tNotM_ap, tYesM_ap, asB_bl, truA_b, Res.bind_ok, Res.bind_exc, Res.toS_ok, Res.toS_exc, Res.of_some, SRes.bind_nx, SRes.bind_rt, SRes.bind_exc, SRes.bind_ct, SRes.bind_bk, gN_ap, List.getElem?_cons_zero, List.getElem?_cons_succ, List.set_cons_zero, List.set_cons_succ, one1_ap, two2_ap, newL_f, newL_t, addOp_ii, subOp_ii, negOp_i, ltOp_ii, leOp_ii, gtOp_ii, geOp_ii, eqOp_ii, neOp_ii, eqOp_ss, neOp_ss, intA_i, intA_b, maxA_ii, minA_ii, lenA_lst, lenA_tup, lenA_slst, listA_lst, listA_tup, listA_slst, tupleA_lst, tupleA_tup, List.length_map, List.length_cons, List.length_nil, Bool.not_true, Bool.not_false, Bool.false_eq_true, if_true, if_false, Nat.zero_add, Nat.reduceAdd, hs]
      rw [hb]
      have hr : run n w (s :: S) = run n l S := by show (mk n w s).bind _ = _; rw [e]; rfl
      rw [hr]
      exact judge_loop hn S (L + 2) l _ (mk_wd hn hw e) (by omega)
theorem judge_sp {n : Int} (hn : n ≤ 100) {st : Store} {S : List Stp} {L : Nat} {w o : List Int} (hw : WdL n L w) (hL : L + 2 * S.length < 1000) :
    M_judge_derivation [.int n, lI w, .lst (S.map Stp.a), lI o] st = .ok (.bl (match run n w S with | some l => decide (l = o) | none => false)) st := by
  rcases @judge_loop n hn st (S.map Stp.a) (some (.lst (S.map Stp.a))) (some (lI o)) S L w none hw hL with ⟨l, x4', hr, hf⟩ | ⟨hr, x, e, hx, hf⟩
  · rw [hr]
    refine fnM_rt rfl (a := .bl (decide (l = o))) (st' := st) ?_ fin_bl0
    show B_judge_derivation [some (.int n), some (lI w), some (.lst (S.map Stp.a)), some (lI o), none] st = _
    have ht : sTryNo [("IllegalMove", true)] Y2_judge_derivation X3_judge_derivation [some (.int n), some (lI w), some (.lst (S.map Stp.a)), some (lI o), none] st = .nx [some (.int n), some (lI l), some (.lst (S.map Stp.a)), some (lI o), x4'] st := by
      refine sTryNo_ok ?_ (by intro x e s h; cases h)
      simp only [Y2_judge_derivation, sSeq_ap, sAsg_ap, sEx_ap, sRet_ap, sRetN_ap, sNil_ap, sIf_ap, sFor_ap, sSub_ap, sRaise_ap, mkWhat_ap, eVar_ap, eC_ap, eBin_ap, eUn_ap, eTup_ap, eLst_ap, eCB_ap, eCall_ap, eM_ap, eIf_ap, eAndV_ap, eOrV_ap, eNotV_ap, eChain_ap, eSl_ap, oNone_ap, oSome_ap, eXf_ap, aNil_ap, aCons_ap, tOf_ap, tTru_ap, tAndM_ap, tOrM_ap, tNotM_ap, tYesM_ap, asB_bl, truA_b, Res.bind_ok, Res.bind_exc, Res.toS_ok, Res.toS_exc, Res.of_some, SRes.bind_nx, SRes.bind_rt, SRes.bind_exc, SRes.bind_ct, SRes.bind_bk, gN_ap, List.getElem?_cons_zero, List.getElem?_cons_succ, List.set_cons_zero, List.set_cons_succ, one1_ap, two2_ap, newL_f, newL_t, addOp_ii, subOp_ii, negOp_i, ltOp_ii, leOp_ii, gtOp_ii, geOp_ii, eqOp_ii, neOp_ii, eqOp_ss, neOp_ss, intA_i, intA_b, maxA_ii, minA_ii, lenA_lst, lenA_tup, lenA_slst, listA_lst, listA_tup, listA_slst, tupleA_lst, tupleA_tup, List.length_map, List.length_cons, List.length_nil, Bool.not_true, Bool.not_false, Bool.false_eq_true, if_true, if_false, Nat.zero_add, Nat.reduceAdd, mSeq_ap, seqR_lst, srcOf_lst, hf]
    simp only [B_judge_derivation, sSeq_ap, sAsg_ap, sEx_ap, sRet_ap, sRetN_ap, sNil_ap, sIf_ap, sFor_ap, sSub_ap, sRaise_ap, mkWhat_ap, eVar_ap, eC_ap, eBin_ap, eUn_ap, eTup_ap, eLst_ap, eCB_ap, eCall_ap, eM_ap, eIf_ap, eAndV_ap, eOrV_ap, eNotV_ap, eChain_ap, eSl_ap, oNone_ap, oSome_ap, eXf_ap, aNil_ap, aCons_ap, tOf_ap, tTru_ap, tAndM_ap, tOrM_ap, tNotM_ap, tYesM_ap, asB_bl, truA_b, Res.bind_ok, Res.bind_exc, Res.toS_ok, Res.toS_exc, Res.of_some, SRes.bind_nx, SRes.bind_rt, SRes.bind_exc, SRes.bind_ct, SRes.bind_bk, gN_ap, List.getElem?_cons_zero, List.getElem?_cons_succ, List.set_cons_zero, List.set_cons_succ, one1_ap, two2_ap, newL_f, newL_t, addOp_ii, subOp_ii, negOp_i, ltOp_ii, leOp_ii, gtOp_ii, geOp_ii, eqOp_ii, neOp_ii, eqOp_ss, neOp_ss, intA_i, intA_b, maxA_ii, minA_ii, lenA_lst, lenA_tup, lenA_slst, listA_lst, listA_tup, listA_slst, tupleA_lst, tupleA_tup, List.length_map, List.length_cons, List.length_nil, Bool.not_true, Bool.not_false, Bool.false_eq_true, if_true, if_false, Nat.zero_add, Nat.reduceAdd, ht, eqOp_lI]
  · rw [hr]
    refine fnM_rt rfl (a := .bl false) (st' := st) ?_ fin_bl0
    show B_judge_derivation [some (.int n), some (lI w), some (.lst (S.map Stp.a)), some (lI o), none] st = _
    have ht : sTryNo [("IllegalMove", true)] Y2_judge_derivation X3_judge_derivation [some (.int n), some (lI w), some (.lst (S.map Stp.a)), some (lI o), none] st = .rt (.bl false) st := by
      refine sTryNo_exc (x := x) (e := e) (s := st) ?_ (by rw [hx]; decide) (fun a d => ?_)
      · simp only [Y2_judge_derivation, sSeq_ap, sAsg_ap, sEx_ap, sRet_ap, sRetN_ap, sNil_ap, sIf_ap, sFor_ap, sSub_ap, sRaise_ap, mkWhat_ap, eVar_ap, eC_ap, eBin_ap, eUn_ap, eTup_ap, eLst_ap, eCB_ap, eCall_ap, eM_ap, eIf_ap, eAndV_ap, eOrV_ap, eNotV_ap, eChain_ap, eSl_ap, oNone_ap, oSome_ap, eXf_ap, aNil_ap, aCons_ap, tOf_ap, tTru_ap, tAndM_ap, tOrM_ap, tNotM_ap, tYesM_ap, asB_bl, truA_b, Res.bind_ok, Res.bind_exc, Res.toS_ok, Res.toS_exc, Res.of_some, SRes.bind_nx, SRes.bind_rt, SRes.bind_exc, SRes.bind_ct, SRes.bind_bk, gN_ap, List.getElem?_cons_zero, List.getElem?_cons_succ, List.set_cons_zero, List.set_cons_succ, one1_ap, two2_ap, newL_f, newL_t, addOp_ii, subOp_ii, negOp_i, ltOp_ii, leOp_ii, gtOp_ii, geOp_ii, eqOp_ii, neOp_ii, eqOp_ss, neOp_ss, intA_i, intA_b, maxA_ii, minA_ii, lenA_lst, lenA_tup, lenA_slst, listA_lst, listA_tup, listA_slst, tupleA_lst, tupleA_tup, List.length_map, List.length_cons, List.length_nil, Bool.not_true, Bool.not_false, Bool.false_eq_true, if_true, if_false, Nat.zero_add, Nat.reduceAdd, mSeq_ap, seqR_lst, srcOf_lst, hf]
      · simp only [X3_judge_derivation, sSeq_ap, sAsg_ap, sEx_ap, sRet_ap, sRetN_ap, sNil_ap, sIf_ap, sFor_ap, sSub_ap, sRaise_ap, mkWhat_ap, eVar_ap, eC_ap, eBin_ap, eUn_ap, eTup_ap, eLst_ap, eCB_ap, eCall_ap, eM_ap, eIf_ap, eAndV_ap, eOrV_ap, eNotV_ap, eChain_ap, eSl_ap, oNone_ap, oSome_ap, eXf_ap, aNil_ap, aCons_ap, tOf_ap, tTru_ap, tAndM_ap, tOrM_ap, tNotM_ap, tYesM_ap, asB_bl, truA_b, Res.bind_ok, Res.bind_exc, Res.toS_ok, Res.toS_exc, Res.of_some, SRes.bind_nx, SRes.bind_rt, SRes.bind_exc, SRes.bind_ct, SRes.bind_bk, gN_ap, List.getElem?_cons_zero, List.getElem?_cons_succ, List.set_cons_zero, List.set_cons_succ, one1_ap, two2_ap, newL_f, newL_t, addOp_ii, subOp_ii, negOp_i, ltOp_ii, leOp_ii, gtOp_ii, geOp_ii, eqOp_ii, neOp_ii, eqOp_ss, neOp_ss, intA_i, intA_b, maxA_ii, minA_ii, lenA_lst, lenA_tup, lenA_slst, listA_lst, listA_tup, listA_slst, tupleA_lst, tupleA_tup, List.length_map, List.length_cons, List.length_nil, Bool.not_true, Bool.not_false, Bool.false_eq_true, if_true, if_false, Nat.zero_add, Nat.reduceAdd, noXS]
    simp only [B_judge_derivation, sSeq_ap, sAsg_ap, sEx_ap, sRet_ap, sRetN_ap, sNil_ap, sIf_ap, sFor_ap, sSub_ap, sRaise_ap, mkWhat_ap, eVar_ap, eC_ap, eBin_ap, eUn_ap, eTup_ap, eLst_ap, eCB_ap, eCall_ap, eM_ap, eIf_ap, eAndV_ap, eOrV_ap, eNotV_ap, eChain_ap, eSl_ap, oNone_ap, oSome_ap, eXf_ap, aNil_ap, aCons_ap, tOf_ap, tTru_ap, tAndM_ap, tOrM_ap, tNotM_ap, tYesM_ap, asB_bl, truA_b, Res.bind_ok, Res.bind_exc, Res.toS_ok, Res.toS_exc, Res.of_some, SRes.bind_nx, SRes.bind_rt, SRes.bind_exc, SRes.bind_ct, SRes.bind_bk, gN_ap, List.getElem?_cons_zero, List.getElem?_cons_succ, List.set_cons_zero, List.set_cons_succ, one1_ap, two2_ap, newL_f, newL_t, addOp_ii, subOp_ii, negOp_i, ltOp_ii, leOp_ii, gtOp_ii, geOp_ii, eqOp_ii, neOp_ii, eqOp_ss, neOp_ss, intA_i, intA_b, maxA_ii, minA_ii, lenA_lst, lenA_tup, lenA_slst, listA_lst, listA_tup, listA_slst, tupleA_lst, tupleA_tup, List.length_map, List.length_cons, List.length_nil, Bool.not_true, Bool.not_false, Bool.false_eq_true, if_true, if_false, Nat.zero_add, Nat.reduceAdd, ht]
end Gk05

set_option Elab.async false
set_option linter.all false
set_option maxRecDepth 100000
set_option maxHeartbeats 4000000
namespace Gk05
open PySem PySem.Spec L2 SL
open PyProof.Rows hiding St
theorem tkA {st : Store} {l : List C} {c : Nat} {ds : List Int} {n : Int} (h : c < st.length) (hn : 0 < n) : ∃ d ds', 0 ≤ d ∧ d < n ∧ M__law_take [.cell c, .int n] (st.set c (li ds) ++ l) = .ok (.int d) (st.set c (li ds') ++ l) := by
  have h0 : (st.set c (li ds) ++ l)[c]? = some (li ds) := by
    rw [List.getElem?_append_left (by simpa using h), List.getElem?_set_self h]
  obtain ⟨d, ds', h1, h2, h3⟩ := take_spec h0 hn
  refine ⟨d, ds', h1, h2, ?_⟩
  rw [h3, List.set_append_left _ _ (by simpa using h), List.set_set]
theorem tk0 {st : Store} {c : Nat} {ds : List Int} {n : Int} (h : c < st.length) (hn : 0 < n) : ∃ d ds', 0 ≤ d ∧ d < n ∧ M__law_take [.cell c, .int n] (st.set c (li ds)) = .ok (.int d) (st.set c (li ds')) := by
  have := tkA (l := []) (ds := ds) h hn
  simpa using this
theorem fin_set {st : Store} {c : Nat} {ds : List Int} {a : A} {l : List C} (h : a.bel st.length = true) (hc : ∀ c, a ≠ .cell c) : finA false st.length st a (st.set c (li ds) ++ l) = .ok a (st.set c (li ds)) :=
  finA_set h hc (bel_ints _ _)
theorem fin_set0 {st : Store} {c : Nat} {ds : List Int} {a : A} (h : a.bel st.length = true) (hc : ∀ c, a ≠ .cell c) : finA false st.length st a (st.set c (li ds)) = .ok a (st.set c (li ds)) := by
  have := fin_set (l := []) (st := st) (c := c) (ds := ds) h hc
  simpa using this
theorem neg_ix {st : Store} {a : A} {w : List Int} {k : Nat} (hs : seqR a st = some (w.map A.int)) (h : k < w.length) : ixOp a (.int (-((k : Int) + 1))) st = some (.int (w.getD (w.length - 1 - k) 0), st) := by
  refine ixOp_at hs ?_
  unfold atI ixN
  rw [List.length_map, if_neg (by omega), if_pos (by omega)]
  show (w.map A.int)[_]? = _
  rw [show (-((k : Int) + 1) + (w.length : Int)).toNat = w.length - 1 - k by omega]
  exact get_getD (by omega)
theorem small_mulI {a b : Int} (h : a.natAbs < 2 ^ 20) (h' : b.natAbs < 2 ^ 20) : CMulW a b := wide_mul h h' (by decide) (by decide) (by decide)
theorem finA_lstW {st s : Store} {n : Nat} {zs : List A} (hn : st.length ≤ n) (h : s[n]? = some (.lst zs)) (hb : belowL st.length zs = true) (hok : okS st.length st s) : finA false st.length st (.cell n) s = .ok (.lst zs) (s.take st.length) := by
  have hnb : A.bel st.length (.cell n) = false := by simp [A.bel]; omega
  have e2 : ∀ (k : Nat) (ys : List A) (s : Store), belowL st.length ys = true → frzL (frzA st.length k) ys s = some (ys, s) := by
    intro k ys
    induction ys with
    | nil => intro s _; rfl
    | cons y ys ih =>
      intro s hb
      rw [belowL, Bool.and_eq_true] at hb
      unfold frzL
      have e : frzA st.length k y s = some (y, s) := by cases k <;> (unfold frzA; rw [if_pos hb.1])
      rw [e]
      dsimp only
      rw [ih s hb.2]
  have e : frzA st.length 8 (.cell n) s = some (.lst zs, s.set n .dead) := by
    unfold frzA
    rw [if_neg (by rw [hnb]; decide)]
    dsimp only
    rw [h]
    dsimp only
    rw [e2 _ _ _ hb]
    rfl
  have hok' : okS st.length st (s.set n .dead) := fun i hi => by
    rw [List.getElem?_set_ne (by omega)]; exact hok i hi
  unfold finA
  dsimp only
  rw [e]
  dsimp only
  rw [if_pos ⟨by simp only [A.bel]; exact hb, hok'⟩]
  congr 1
  rw [List.take_set_of_le (by omega)]
/-- a new list of numbers goes out, the draws having moved on -/
theorem fin_draw {st : Store} {c : Nat} {ds ds' zs : List Int} {l : List C} {n : Nat} (hn : st.length ≤ n) (h : (st.set c (li ds') ++ l)[n]? = some (li zs)) : finA false (st.set c (li ds)).length (st.set c (li ds)) (.cell n) (st.set c (li ds') ++ l) = .ok (lI zs) (st.set c (li ds')) := by
  have hok : okS (st.set c (li ds)).length (st.set c (li ds)) (st.set c (li ds') ++ l) := by
    have := okS_set (st := st.set c (li ds)) (c := c) (k := li ds') (l := l) (bel_ints _ _)
    rwa [List.set_set] at this
  rw [finA_lstW (zs := zs.map A.int) (by simpa using hn) h (bel_ints _ _) hok]
  congr 1
  have : (st.set c (li ds)).length = (st.set c (li ds')).length := by simp
  rw [this, List.take_left]
/-- a value without cells goes out, the draws having moved on -/
theorem fin_draw0 {st : Store} {c : Nat} {ds ds' : List Int} {a : A} (h : a.bel st.length = true) (hc : ∀ c, a ≠ .cell c) : finA false (st.set c (li ds)).length (st.set c (li ds)) a (st.set c (li ds')) = .ok a (st.set c (li ds')) := by
  have := finA_set (rc := false) (st := st.set c (li ds)) (a := a) (l := []) (c := c) (k := li ds') (by simpa using h) hc (bel_ints _ _)
  simpa using this
theorem rng1' {ms : AEnv → Store → Res (List A)} {env : AEnv} {st st' : Store} {n : Nat} (hn : n < 10000) (h : ms env st = .ok [.int (n : Int)] st') : mRng1 ms env st = .ok (((List.range n).map fun i => ((i : Nat) : Int)).map A.int, none) st' := by
  simp only [mRng1, h, Res.bind_ok]; rw [if_pos ⟨by omega, by omega⟩, rgA_ints]
theorem rng_get {q i : Nat} {a : A} (h : (((List.range q).map fun i => ((i : Nat) : Int)).map A.int)[i]? = some a) : i < q ∧ a = .int (i : Int) := by
  rw [List.getElem?_map, List.getElem?_map] at h
  by_cases hj : i < q
  · rw [List.getElem?_range hj] at h; cases h; exact ⟨hj, rfl⟩
  · rw [List.getElem?_eq_none (by simp; omega)] at h; cases h
end Gk05

set_option Elab.async false
set_option linter.all false
set_option maxRecDepth 100000
set_option maxHeartbeats 4000000
namespace Gk05
open PySem PySem.Spec L2 SL
open PyProof.Rows hiding St
def lets (w : List Int) : Prop := ∀ x ∈ w, x ≠ 0 ∧ -100 < x ∧ x < 100
theorem getD_lets {w : List Int} (h : lets w) {k : Nat} (hk : k < w.length) : w.getD k 0 ≠ 0 ∧ -100 < w.getD k 0 ∧ w.getD k 0 < 100 := by
  rw [List.getD_eq_getElem?_getD, List.getElem?_eq_getElem hk]
  exact h _ (List.getElem_mem _)
theorem ab_lets {x : Int} (h : x ≠ 0 ∧ -100 < x ∧ x < 100) : 1 ≤ ab x ∧ ab x < 100 := by unfold ab; split <;> omega
theorem word_body {st : Store} {c : Nat} {n few : Int} (hc : c < st.length) (hf : 1 ≤ few ∧ few ≤ 7) {w ds : List Int} {i : Nat} (hl : w.length = i) (hi : i < 20) (hw : lets w) {x5 x6 : Option A} :
    ∃ u ds' y5 y6, (u ≠ 0 ∧ -100 < u ∧ u < 100) ∧ L1__law_word [some (.cell c), some (.int n), some (.cell st.length), some (.int few), some (.int (i : Int)), x5, x6] (st.set c (li ds) ++ [li w]) = .nx [some (.cell c), some (.int n), some (.cell st.length), some (.int few), some (.int (i : Int)), y5, y6] (st.set c (li ds') ++ [li (w ++ [u])]) := by
  have hz := sz
  have l2' : (2 : Nat) ≤ sizeLine := by omega
  have l3' : (3 : Nat) ≤ sizeLine := by omega
  obtain ⟨d1, ds1, p1, p2, t1⟩ := tkA (l := [li w]) (ds := ds) (n := few) hc (by omega)
  obtain ⟨d2, ds2, p3, p4, t2⟩ := tkA (l := [li w]) (ds := ds1) (n := 4) hc (by omega)
  obtain ⟨d3, ds3, p5, p6, t3⟩ := tkA (l := [li w]) (ds := ds2) (n := 3) hc (by omega)
  have hcw : ∀ ds, (st.set c (li ds) ++ [li w])[st.length]? = some (li w) := fun ds => get_app_len (by simp)
  have key : ∃ v : Int, (1 ≤ v ∧ v < 100) ∧ ∀ R : MS, (sSeq (sIf (tAndM (tOf (eBin eqOp (eVar 6) (eC (.int 0)))) (tOf (eBin gtOp (eVar 4) (eC (.int 0))))) (sAsg (gN 5) (eCB (one1 absA) (aCons (eBin ixOp (eVar 2) (eUn negOp (eC (.int 1)))) aNil))) sNil)
    (sSeq (sIf (tAndM (tOf (eBin eqOp (eVar 6) (eC (.int 1)))) (tOf (eBin gtOp (eVar 4) (eC (.int 1))))) (sAsg (gN 5) (eCB (one1 absA) (aCons (eBin ixOp (eVar 2) (eUn negOp (eC (.int 2)))) aNil))) sNil) R))
      [some (.cell c), some (.int n), some (.cell st.length), some (.int few), some (.int (i : Int)), some (.int (1 + d1)), some (.int d2)] (st.set c (li ds2) ++ [li w]) = R [some (.cell c), some (.int n), some (.cell st.length), some (.int few), some (.int (i : Int)), some (.int v), some (.int d2)] (st.set c (li ds2) ++ [li w]) := by
    by_cases h1 : d2 = 0
    · have h1' : ¬ d2 = 1 := by omega
      by_cases h2 : (i : Int) > 0
      · have n1 : ixOp (.cell st.length) (.int (-1)) (st.set c (li ds2) ++ [li w]) = some (.int (w.getD (w.length - 1 - 0) 0), st.set c (li ds2) ++ [li w]) := neg_ix (k := 0) (seqR_cell (hcw ds2)) (by omega)
        refine ⟨ab (w.getD (w.length - 1 - 0) 0), ab_lets (getD_lets hw (by omega)), fun R => ?_⟩
        simp only [sSeq_ap, sAsg_ap, sEx_ap, sRet_ap, sRetN_ap, sNil_ap, sIf_ap, sFor_ap, sSub_ap, sRaise_ap, mkWhat_ap, eVar_ap, eC_ap, eBin_ap, eUn_ap, eTup_ap, eLst_ap, eCB_ap, eCall_ap, eM_ap, eIf_ap, eAndV_ap, eOrV_ap, eNotV_ap, eChain_ap, eSl_ap, oNone_ap, oSome_ap, eXf_ap, aNil_ap, aCons_ap, tOf_ap, tTru_ap, tAndM_ap, tOrM_ap, tNotM_ap, tYesM_ap, asB_bl, truA_b, Res.bind_ok, Res.bind_exc, Res.toS_ok, Res.toS_exc, Res.of_some, SRes.bind_nx, SRes.bind_rt, SRes.bind_exc, SRes.bind_ct, SRes.bind_bk, gN_ap, List.getElem?_cons_zero, List.getElem?_cons_succ, List.set_cons_zero, List.set_cons_succ, one1_ap, two2_ap, newL_f, newL_t, addOp_ii, subOp_ii, negOp_i, ltOp_ii, leOp_ii, gtOp_ii, geOp_ii, eqOp_ii, neOp_ii, eqOp_ss, neOp_ss, intA_i, intA_b, maxA_ii, minA_ii, lenA_lst, lenA_tup, lenA_slst, listA_lst, listA_tup, listA_slst, tupleA_lst, tupleA_tup, List.length_map, List.length_cons, List.length_nil, Bool.not_true, Bool.not_false, Bool.false_eq_true, if_true, if_false, Nat.zero_add, Nat.reduceAdd, decide_eq_true h1, decide_eq_true h2, decide_eq_false h1', n1, absA_ab]
      · refine ⟨1 + d1, by omega, fun R => ?_⟩
        simp only [sSeq_ap, sAsg_ap, sEx_ap, sRet_ap, sRetN_ap, sNil_ap, sIf_ap, sFor_ap, sSub_ap, sRaise_ap, mkWhat_ap, eVar_ap, eC_ap, eBin_ap, eUn_ap, eTup_ap, eLst_ap, eCB_ap, eCall_ap, eM_ap, eIf_ap, eAndV_ap, eOrV_ap, eNotV_ap, eChain_ap, eSl_ap, oNone_ap, oSome_ap, eXf_ap, aNil_ap, aCons_ap, tOf_ap, tTru_ap, tAndM_ap, tOrM_ap, tNotM_ap, tYesM_ap, asB_bl, truA_b, Res.bind_ok, Res.bind_exc, Res.toS_ok, Res.toS_exc, Res.of_some, SRes.bind_nx, SRes.bind_rt, SRes.bind_exc, SRes.bind_ct, SRes.bind_bk, gN_ap, List.getElem?_cons_zero, List.getElem?_cons_succ, List.set_cons_zero, List.set_cons_succ, one1_ap, two2_ap, newL_f, newL_t, addOp_ii, subOp_ii, negOp_i, ltOp_ii, leOp_ii, gtOp_ii, geOp_ii, eqOp_ii, neOp_ii, eqOp_ss, neOp_ss, intA_i, intA_b, maxA_ii, minA_ii, lenA_lst, lenA_tup, lenA_slst, listA_lst, listA_tup, listA_slst, tupleA_lst, tupleA_tup, List.length_map, List.length_cons, List.length_nil, Bool.not_true, Bool.not_false, Bool.false_eq_true, if_true, if_false, Nat.zero_add, Nat.reduceAdd, decide_eq_true h1, decide_eq_false h2, decide_eq_false h1']
    · by_cases h2 : d2 = 1
      · by_cases h3 : (i : Int) > 1
        · have n1 : ixOp (.cell st.length) (.int (-2)) (st.set c (li ds2) ++ [li w]) = some (.int (w.getD (w.length - 1 - 1) 0), st.set c (li ds2) ++ [li w]) := neg_ix (k := 1) (seqR_cell (hcw ds2)) (by omega)
          refine ⟨ab (w.getD (w.length - 1 - 1) 0), ab_lets (getD_lets hw (by omega)), fun R => ?_⟩
          simp only [sSeq_ap, sAsg_ap, sEx_ap, sRet_ap, sRetN_ap, sNil_ap, sIf_ap, sFor_ap, sSub_ap, sRaise_ap, mkWhat_ap, eVar_ap, eC_ap, eBin_ap, eUn_ap, eTup_ap, eLst_ap, eCB_ap, eCall_ap, eM_ap, eIf_ap, eAndV_ap, eOrV_ap, eNotV_ap, eChain_ap, eSl_ap, oNone_ap, oSome_ap, eXf_ap, aNil_ap, aCons_ap, tOf_ap, tTru_ap, tAndM_ap, tOrM_ap, tNotM_ap, tYesM_ap, asB_bl, truA_b, Res.bind_ok, Res.bind_exc, Res.toS_ok, Res.toS_exc, Res.of_some, SRes.bind_nx, SRes.bind_rt, SRes.bind_exc, SRes.bind_ct, SRes.bind_bk, gN_ap, List.getElem?_cons_zero, List.getElem?_cons_succ, List.set_cons_zero, List.set_cons_succ, one1_ap, two2_ap, newL_f, newL_t, addOp_ii, subOp_ii, negOp_i, ltOp_ii, leOp_ii, gtOp_ii, geOp_ii, eqOp_ii, neOp_ii, eqOp_ss, neOp_ss, intA_i, intA_b, maxA_ii, minA_ii, lenA_lst, lenA_tup, lenA_slst, listA_lst, listA_tup, listA_slst, tupleA_lst, tupleA_tup, List.length_map, List.length_cons, List.length_nil, Bool.not_true, Bool.not_false, Bool.false_eq_true, if_true, if_false, Nat.zero_add, Nat.reduceAdd, decide_eq_false h1, decide_eq_true h2, decide_eq_true h3, n1, absA_ab]
        · refine ⟨1 + d1, by omega, fun R => ?_⟩
          simp only [sSeq_ap, sAsg_ap, sEx_ap, sRet_ap, sRetN_ap, sNil_ap, sIf_ap, sFor_ap, sSub_ap, sRaise_ap, mkWhat_ap, eVar_ap, eC_ap, eBin_ap, eUn_ap, eTup_ap, eLst_ap, eCB_ap, eCall_ap, eM_ap, eIf_ap, eAndV_ap, eOrV_ap, eNotV_ap, eChain_ap, eSl_ap, oNone_ap, oSome_ap, eXf_ap, aNil_ap, aCons_ap, tOf_ap, tTru_ap, tAndM_ap, tOrM_ap, tNotM_ap, tYesM_ap, asB_bl, truA_b, Res.bind_ok, Res.bind_exc, Res.toS_ok, Res.toS_exc, Res.of_some, SRes.bind_nx, SRes.bind_rt, SRes.bind_exc, SRes.bind_ct, SRes.bind_bk, gN_ap, List.getElem?_cons_zero, List.getElem?_cons_succ, List.set_cons_zero, List.set_cons_succ, one1_ap, two2_ap, newL_f, newL_t, addOp_ii, subOp_ii, negOp_i, ltOp_ii, leOp_ii, gtOp_ii, geOp_ii, eqOp_ii, neOp_ii, eqOp_ss, neOp_ss, intA_i, intA_b, maxA_ii, minA_ii, lenA_lst, lenA_tup, lenA_slst, listA_lst, listA_tup, listA_slst, tupleA_lst, tupleA_tup, List.length_map, List.length_cons, List.length_nil, Bool.not_true, Bool.not_false, Bool.false_eq_true, if_true, if_false, Nat.zero_add, Nat.reduceAdd, decide_eq_false h1, decide_eq_true h2, decide_eq_false h3]
      · refine ⟨1 + d1, by omega, fun R => ?_⟩
        simp only [sSeq_ap, sAsg_ap, sEx_ap, sRet_ap, sRetN_ap, sNil_ap, sIf_ap, sFor_ap, sSub_ap, sRaise_ap, mkWhat_ap, eVar_ap, eC_ap, eBin_ap, eUn_ap, eTup_ap, eLst_ap, eCB_ap, eCall_ap, eM_ap, eIf_ap, eAndV_ap, eOrV_ap, eNotV_ap, eChain_ap, eSl_ap, oNone_ap, oSome_ap, eXf_ap, aNil_ap, aCons_ap, tOf_ap, tTru_ap, tAndM_ap, tOrM_ap, tNotM_ap, tYesM_ap, asB_bl, truA_b, Res.bind_ok, Res.bind_exc, Res.toS_ok, Res.toS_exc, Res.of_some, SRes.bind_nx, SRes.bind_rt, SRes.bind_exc, SRes.bind_ct, SRes.bind_bk, gN_ap, List.getElem?_cons_zero, List.getElem?_cons_succ, List.set_cons_zero, List.set_cons_succ, one1_ap, two2_ap, newL_f, newL_t, addOp_ii, subOp_ii, negOp_i, ltOp_ii, leOp_ii, gtOp_ii, geOp_ii, eqOp_ii, neOp_ii, eqOp_ss, neOp_ss, intA_i, intA_b, maxA_ii, minA_ii, lenA_lst, lenA_tup, lenA_slst, listA_lst, listA_tup, listA_slst, tupleA_lst, tupleA_tup, List.length_map, List.length_cons, List.length_nil, Bool.not_true, Bool.not_false, Bool.false_eq_true, if_true, if_false, Nat.zero_add, Nat.reduceAdd, decide_eq_false h1, decide_eq_false h2]
  obtain ⟨v, hv, key⟩ := key
  obtain ⟨u, hu, e3⟩ : ∃ u : Int, (u ≠ 0 ∧ -100 < u ∧ u < 100) ∧ ∀ s, ixOp (.lst [.int v, .int v, .int (-v)]) (.int d3) s = some (.int u, s) := by
    rcases (by omega : d3 = 0 ∨ d3 = 1 ∨ d3 = 2) with rfl | rfl | rfl
    · exact ⟨v, by omega, fun s => ixs (by omega) rfl⟩
    · exact ⟨v, by omega, fun s => ixs (by omega) rfl⟩
    · exact ⟨-v, by omega, fun s => ixs (by omega) rfl⟩
  refine ⟨u, ds3, some (.int v), some (.int d2), hu, ?_⟩
  have ap := appendM_li (v := u) (hcw ds3) (by omega)
  have hset : ∀ x : C, (st.set c (li ds3) ++ [li w]).set st.length x = st.set c (li ds3) ++ [x] := fun x => by
    rw [List.set_append_right _ _ (by simp), List.length_set, Nat.sub_self]; rfl
  rw [hset] at ap
  have ty := tyVA_cell (hcw ds2)
  have k := key (sEx (eM "list" appendM (eVar 2) (aCons (eBin ixOp (eLst false (aCons (eVar 5) (aCons (eVar 5) (aCons (eUn negOp (eVar 5)) aNil)))) (eCall M__law_take (aCons (eVar 0) (aCons (eC (.int 3)) aNil)))) aNil)))
  simp only [sSeq_ap] at k
  simp only [L1__law_word, sSeq_ap, sAsg_ap, eVar_ap, eC_ap, eBin_ap, eCall_ap, aCons_ap, aNil_ap, List.getElem?_cons_zero, List.getElem?_cons_succ, Res.bind_ok, t1, t2, addOp_ii, Res.of_some, Res.toS_ok, gN_ap, List.set_cons_zero, List.set_cons_succ, SRes.bind_nx]
  rw [k]
  simp only [sSeq_ap, sAsg_ap, sEx_ap, sRet_ap, sRetN_ap, sNil_ap, sIf_ap, sFor_ap, sSub_ap, sRaise_ap, mkWhat_ap, eVar_ap, eC_ap, eBin_ap, eUn_ap, eTup_ap, eLst_ap, eCB_ap, eCall_ap, eM_ap, eIf_ap, eAndV_ap, eOrV_ap, eNotV_ap, eChain_ap, eSl_ap, oNone_ap, oSome_ap, eXf_ap, aNil_ap, aCons_ap, tOf_ap, tTru_ap, tAndM_ap, tOrM_ap, tNotM_ap, tYesM_ap, asB_bl, truA_b, Res.bind_ok, Res.bind_exc, Res.toS_ok, Res.toS_exc, Res.of_some, SRes.bind_nx, SRes.bind_rt, SRes.bind_exc, SRes.bind_ct, SRes.bind_bk, gN_ap, List.getElem?_cons_zero, List.getElem?_cons_succ, List.set_cons_zero, List.set_cons_succ, one1_ap, two2_ap, newL_f, newL_t, addOp_ii, subOp_ii, negOp_i, ltOp_ii, leOp_ii, gtOp_ii, geOp_ii, eqOp_ii, neOp_ii, eqOp_ss, neOp_ss, intA_i, intA_b, maxA_ii, minA_ii, lenA_lst, lenA_tup, lenA_slst, listA_lst, listA_tup, listA_slst, tupleA_lst, tupleA_tup, List.length_map, List.length_cons, List.length_nil, Bool.not_true, Bool.not_false, Bool.false_eq_true, if_true, if_false, Nat.zero_add, Nat.reduceAdd, ty, t3, l3', e3, ap]
theorem word_sp {st : Store} {c : Nat} {ds : List Int} {n : Int} (hc : c < st.length) (hn : 1 ≤ n) (hn8 : n ≤ 8) : ∃ w ds', WdL n 20 w ∧ M__law_word [.cell c, .int n] (st.set c (li ds)) = .ok (lI w) (st.set c (li ds')) := by
  have hz := sz
  have l2' : (2 : Nat) ≤ sizeLine := by omega
  obtain ⟨d, ds1, a1, a2, t1⟩ := tkA (l := [li []]) (ds := ds) (n := 2) hc (by omega)
  obtain ⟨few, hf, e1⟩ : ∃ few : Int, (few ≤ 7 ∧ (1 < n → 1 ≤ few)) ∧ ∀ s, ixOp (.lst [.int (n - 1), .int (if n - 1 < 3 then n - 1 else 3)]) (.int d) s = some (.int few, s) := by
    rcases (by omega : d = 0 ∨ d = 1) with rfl | rfl
    · exact ⟨n - 1, by omega, fun s => ixs (by omega) rfl⟩
    · exact ⟨if n - 1 < 3 then n - 1 else 3, by split <;> omega, fun s => ixs (by omega) rfl⟩
  obtain ⟨m, ds2, b1, b2, t2⟩ := tkA (l := [li []]) (ds := ds1) (n := 21) hc (by omega)
  obtain ⟨q, hq, hm⟩ : ∃ q : Nat, (q ≤ 20 ∧ (0 < q → 1 < n)) ∧ ∀ s, mulOp false (.int m) (.int (if decide (n > 1) = true then 1 else 0)) s = some (.int (q : Int), s) := by
    by_cases h : n > 1
    · refine ⟨m.toNat, by omega, fun s => ?_⟩
      rw [if_pos (decide_eq_true h), mulOp_ii (small_mulI (by omega) (by omega)), show m * 1 = (m.toNat : Int) by omega]
    · refine ⟨0, by omega, fun s => ?_⟩
      rw [if_neg (by simp; omega), mulOp_ii (small_mulI (by omega) (by omega)), show m * 0 = ((0 : Nat) : Int) by omega]
  obtain ⟨e, s, h1, w, ds', x4, x5, x6, rfl, rfl, hl, hw⟩ := for_inv (all := ((List.range q).map fun (j : Nat) => (j : Int)).map A.int) (g := gN 4) (body := L1__law_word) (xs := ((List.range q).map fun (j : Nat) => (j : Int)).map A.int)
    (fun i e s => ∃ w ds' x4 x5 x6, e = [some (.cell c), some (.int n), some (.cell st.length), some (.int few), x4, x5, x6] ∧ s = st.set c (li ds') ++ [li w] ∧ w.length = i ∧ lets w)
    (env := [some (.cell c), some (.int n), some (.cell st.length), some (.int few), none, none, none]) (st := st.set c (li ds2) ++ [li []]) ⟨[], ds2, _, _, _, rfl, rfl, rfl, by intro x hx; cases hx⟩ (by
      rintro i a e s hx ⟨w, ds', x4, x5, x6, rfl, rfl, hl, hw⟩
      obtain ⟨hi, rfl⟩ := rng_get hx
      obtain ⟨u, ds3, y5, y6, hu, hb⟩ := word_body (n := n) (few := few) (ds := ds') (x5 := x5) (x6 := x6) hc (by omega) hl (by omega) hw
      refine ⟨_, rfl, ?_⟩
      simp only [List.set_cons_succ, List.set_cons_zero, hb, NxP_nx]
      refine ⟨w ++ [u], ds3, _, _, _, rfl, rfl, by simp; omega, fun x hx => ?_⟩
      rcases List.mem_append.mp hx with hx | hx
      · exact hw x hx
      · rw [List.mem_singleton] at hx; subst hx; exact hu)
  rw [List.length_map, List.length_map, List.length_range] at hl
  refine ⟨w, ds', ⟨hw, by omega⟩, ?_⟩
  refine fnM_rt rfl (a := .cell st.length) (st' := st.set c (li ds') ++ [li w]) ?_ (fin_draw (Nat.le_refl _) (get_app_len (by simp)))
  show B__law_word [some (.cell c), some (.int n), none, none, none, none, none] (st.set c (li ds)) = _
  have er : mRng1 (aCons (eBin (mulOp false) (eCall M__law_take (aCons (eVar 0) (aCons (eC (.int 21)) aNil))) (eCB (one1 intA) (aCons (eBin gtOp (eVar 1) (eC (.int 1))) aNil))) aNil) [some (.cell c), some (.int n), some (.cell st.length), some (.int few), none, none, none] (st.set c (li ds1) ++ [li []]) = .ok (((List.range q).map fun i => ((i : Nat) : Int)).map A.int, none) (st.set c (li ds2) ++ [li []]) := by
    refine rng1' (by omega) ?_
    simp only [sSeq_ap, sAsg_ap, sEx_ap, sRet_ap, sRetN_ap, sNil_ap, sIf_ap, sFor_ap, sSub_ap, sRaise_ap, mkWhat_ap, eVar_ap, eC_ap, eBin_ap, eUn_ap, eTup_ap, eLst_ap, eCB_ap, eCall_ap, eM_ap, eIf_ap, eAndV_ap, eOrV_ap, eNotV_ap, eChain_ap, eSl_ap, oNone_ap, oSome_ap, eXf_ap, aNil_ap, aCons_ap, tOf_ap, tTru_ap, tAndM_ap, tOrM_ap, tNotM_ap, tYesM_ap, asB_bl, truA_b, Res.bind_ok, Res.bind_exc, Res.toS_ok, Res.toS_exc, Res.of_some, SRes.bind_nx, SRes.bind_rt, SRes.bind_exc, SRes.bind_ct, SRes.bind_bk, gN_ap, List.getElem?_cons_zero, List.getElem?_cons_succ, List.set_cons_zero, List.set_cons_succ, one1_ap, two2_ap, newL_f, newL_t, addOp_ii, subOp_ii, negOp_i, ltOp_ii, leOp_ii, gtOp_ii, geOp_ii, eqOp_ii, neOp_ii, eqOp_ss, neOp_ss, intA_i, intA_b, maxA_ii, minA_ii, lenA_lst, lenA_tup, lenA_slst, listA_lst, listA_tup, listA_slst, tupleA_lst, tupleA_tup, List.length_map, List.length_cons, List.length_nil, Bool.not_true, Bool.not_false, Bool.false_eq_true, if_true, if_false, Nat.zero_add, Nat.reduceAdd, t2, hm]
  have l0 : (0 : Nat) ≤ sizeLine := by omega
  have hnil : ([] : List A) = ([] : List Int).map A.int := rfl
  simp only [B__law_word, sSeq_ap, sAsg_ap, sEx_ap, sRet_ap, sRetN_ap, sNil_ap, sIf_ap, sFor_ap, sSub_ap, sRaise_ap, mkWhat_ap, eVar_ap, eC_ap, eBin_ap, eUn_ap, eTup_ap, eLst_ap, eCB_ap, eCall_ap, eM_ap, eIf_ap, eAndV_ap, eOrV_ap, eNotV_ap, eChain_ap, eSl_ap, oNone_ap, oSome_ap, eXf_ap, aNil_ap, aCons_ap, tOf_ap, tTru_ap, tAndM_ap, tOrM_ap, tNotM_ap, tYesM_ap, asB_bl, truA_b, Res.bind_ok, Res.bind_exc, Res.toS_ok, Res.toS_exc, Res.of_some, SRes.bind_nx, SRes.bind_rt, SRes.bind_exc, SRes.bind_ct, SRes.bind_bk, gN_ap, List.getElem?_cons_zero, List.getElem?_cons_succ, List.set_cons_zero, List.set_cons_succ, one1_ap, two2_ap, newL_f, newL_t, addOp_ii, subOp_ii, negOp_i, ltOp_ii, leOp_ii, gtOp_ii, geOp_ii, eqOp_ii, neOp_ii, eqOp_ss, neOp_ss, intA_i, intA_b, maxA_ii, minA_ii, lenA_lst, lenA_tup, lenA_slst, listA_lst, listA_tup, listA_slst, tupleA_lst, tupleA_tup, List.length_map, List.length_cons, List.length_nil, Bool.not_true, Bool.not_false, Bool.false_eq_true, if_true, if_false, Nat.zero_add, Nat.reduceAdd, l0, l2', List.length_set]
  simp only [li, List.map_nil] at t1 er h1 ⊢
  simp only [sSeq_ap, sAsg_ap, sEx_ap, sRet_ap, sRetN_ap, sNil_ap, sIf_ap, sFor_ap, sSub_ap, sRaise_ap, mkWhat_ap, eVar_ap, eC_ap, eBin_ap, eUn_ap, eTup_ap, eLst_ap, eCB_ap, eCall_ap, eM_ap, eIf_ap, eAndV_ap, eOrV_ap, eNotV_ap, eChain_ap, eSl_ap, oNone_ap, oSome_ap, eXf_ap, aNil_ap, aCons_ap, tOf_ap, tTru_ap, tAndM_ap, tOrM_ap, tNotM_ap, tYesM_ap, asB_bl, truA_b, Res.bind_ok, Res.bind_exc, Res.toS_ok, Res.toS_exc, Res.of_some, SRes.bind_nx, SRes.bind_rt, SRes.bind_exc, SRes.bind_ct, SRes.bind_bk, gN_ap, List.getElem?_cons_zero, List.getElem?_cons_succ, List.set_cons_zero, List.set_cons_succ, one1_ap, two2_ap, newL_f, newL_t, addOp_ii, subOp_ii, negOp_i, ltOp_ii, leOp_ii, gtOp_ii, geOp_ii, eqOp_ii, neOp_ii, eqOp_ss, neOp_ss, intA_i, intA_b, maxA_ii, minA_ii, lenA_lst, lenA_tup, lenA_slst, listA_lst, listA_tup, listA_slst, tupleA_lst, tupleA_tup, List.length_map, List.length_cons, List.length_nil, Bool.not_true, Bool.not_false, Bool.false_eq_true, if_true, if_false, Nat.zero_add, Nat.reduceAdd, t1, l2', e1, er, h1]
end Gk05

set_option Elab.async false
set_option linter.all false
set_option maxRecDepth 100000
set_option maxHeartbeats 4000000
namespace Gk05
open PySem PySem.Spec L2 SL
open PyProof.Rows hiding St
theorem bel_str {n : Nat} {x : Str} : (A.str x).bel n = true := by simp [A.bel]
theorem stp_bel {n : Nat} {s : Stp} : s.a.bel n = true := by cases s <;> simp [Stp.a, A.bel, belowL]
theorem dstep_sp {st : Store} {c : Nat} {ds : List Int} {n : Int} {w : List Int} (hc : c < st.length) (hw : w.length < 1000) : ∃ s ds', M__law_step [.cell c, .int n, lI w] (st.set c (li ds)) = .ok (Stp.a s) (st.set c (li ds')) := by
  have hz := sz
  have l2' : (2 : Nat) ≤ sizeLine := by omega
  have l3' : (3 : Nat) ≤ sizeLine := by omega
  have l4' : (4 : Nat) ≤ sizeLine := by omega
  have l8' : (8 : Nat) ≤ sizeLine := by omega
  obtain ⟨d1, ds1, p1, p2, t1⟩ := tk0 (ds := ds) (n := 8) hc (by omega)
  obtain ⟨d2, ds2, p3, p4, t2⟩ := tk0 (ds := ds1) (n := (w.length : Int) + 3) hc (by omega)
  obtain ⟨k, hk, e1⟩ : ∃ k : Str, (k = "create" ∨ k = "cancel" ∨ k = "swap" ∨ k = "turn") ∧ ∀ s, ixOp (.lst [.str "create", .str "cancel", .str "cancel", .str "swap", .str "swap", .str "turn", .str "turn", .str "turn"]) (.int d1) s = some (.str k, s) := by
    rcases (by omega : d1 = 0 ∨ d1 = 1 ∨ d1 = 2 ∨ d1 = 3 ∨ d1 = 4 ∨ d1 = 5 ∨ d1 = 6 ∨ d1 = 7) with rfl | rfl | rfl | rfl | rfl | rfl | rfl | rfl
    · exact ⟨_, .inl rfl, fun s => ixs (by omega) rfl⟩
    · exact ⟨_, .inr (.inl rfl), fun s => ixs (by omega) rfl⟩
    · exact ⟨_, .inr (.inl rfl), fun s => ixs (by omega) rfl⟩
    · exact ⟨_, .inr (.inr (.inl rfl)), fun s => ixs (by omega) rfl⟩
    · exact ⟨_, .inr (.inr (.inl rfl)), fun s => ixs (by omega) rfl⟩
    · exact ⟨_, .inr (.inr (.inr rfl)), fun s => ixs (by omega) rfl⟩
    · exact ⟨_, .inr (.inr (.inr rfl)), fun s => ixs (by omega) rfl⟩
    · exact ⟨_, .inr (.inr (.inr rfl)), fun s => ixs (by omega) rfl⟩
  have fin : ∀ (s : Stp) (ds' : List Int), B__law_step [some (.cell c), some (.int n), some (lI w), none, none, none] (st.set c (li ds)) = .rt s.a (st.set c (li ds')) → M__law_step [.cell c, .int n, lI w] (st.set c (li ds)) = .ok s.a (st.set c (li ds')) := fun s ds' hb =>
    fnM_rt rfl hb (fin_draw0 stp_bel (by cases s <;> (intro c h; cases h)))
  rcases hk with rfl | hk
  · obtain ⟨d3, ds3, p5, p6, t3⟩ := tk0 (ds := ds2) (n := 8) hc (by omega)
    obtain ⟨d4, ds4, p7, p8, t4⟩ := tk0 (ds := ds3) (n := 4) hc (by omega)
    obtain ⟨d5, ds5, p9, p10, t5⟩ := tk0 (ds := ds4) (n := 2) hc (by omega)
    obtain ⟨v, e2⟩ : ∃ v : Int, ∀ s, ixOp (.lst [.int (1 + d3), .int 0, .int n, .int (if n - 1 > 1 then n - 1 else 1)]) (.int d4) s = some (.int v, s) := by
      rcases (by omega : d4 = 0 ∨ d4 = 1 ∨ d4 = 2 ∨ d4 = 3) with rfl | rfl | rfl | rfl
      · exact ⟨_, fun s => ixs (by omega) rfl⟩
      · exact ⟨_, fun s => ixs (by omega) rfl⟩
      · exact ⟨_, fun s => ixs (by omega) rfl⟩
      · exact ⟨_, fun s => ixs (by omega) rfl⟩
    obtain ⟨u, e3⟩ : ∃ u : Int, ∀ s, ixOp (.lst [.int v, .int (-v)]) (.int d5) s = some (.int u, s) := by
      rcases (by omega : d5 = 0 ∨ d5 = 1) with rfl | rfl
      · exact ⟨_, fun s => ixs (by omega) rfl⟩
      · exact ⟨_, fun s => ixs (by omega) rfl⟩
    refine ⟨.cr (d2 - 1) u, ds5, fin _ _ ?_⟩
    simp only [B__law_step, sSeq_ap, sAsg_ap, sEx_ap, sRet_ap, sRetN_ap, sNil_ap, sIf_ap, sFor_ap, sSub_ap, sRaise_ap, mkWhat_ap, eVar_ap, eC_ap, eBin_ap, eUn_ap, eTup_ap, eLst_ap, eCB_ap, eCall_ap, eM_ap, eIf_ap, eAndV_ap, eOrV_ap, eNotV_ap, eChain_ap, eSl_ap, oNone_ap, oSome_ap, eXf_ap, aNil_ap, aCons_ap, tOf_ap, tTru_ap, tAndM_ap, tOrM_ap, tNotM_ap, tYesM_ap, asB_bl, truA_b, Res.bind_ok, Res.bind_exc, Res.toS_ok, Res.toS_exc, Res.of_some, SRes.bind_nx, SRes.bind_rt, SRes.bind_exc, SRes.bind_ct, SRes.bind_bk, gN_ap, List.getElem?_cons_zero, List.getElem?_cons_succ, List.set_cons_zero, List.set_cons_succ, one1_ap, two2_ap, newL_f, newL_t, addOp_ii, subOp_ii, negOp_i, ltOp_ii, leOp_ii, gtOp_ii, geOp_ii, eqOp_ii, neOp_ii, eqOp_ss, neOp_ss, intA_i, intA_b, maxA_ii, minA_ii, lenA_lst, lenA_tup, lenA_slst, listA_lst, listA_tup, listA_slst, tupleA_lst, tupleA_tup, List.length_map, List.length_cons, List.length_nil, Bool.not_true, Bool.not_false, Bool.false_eq_true, if_true, if_false, Nat.zero_add, Nat.reduceAdd, t1, t2, t3, t4, t5, l2', l3', l4', l8', e1, e2, e3, decide_true]
    rfl
  · have hd : decide (k = "create") = false := by rcases hk with rfl | rfl | rfl <;> decide
    have hs : ∃ s : Stp, s.a = .tup [.str k, .int (d2 - 1)] := by
      rcases hk with rfl | rfl | rfl
      · exact ⟨.ca (d2 - 1), rfl⟩
      · exact ⟨.sw (d2 - 1), rfl⟩
      · exact ⟨.tu (d2 - 1), rfl⟩
    obtain ⟨s, hs⟩ := hs
    refine ⟨s, ds2, fin _ _ ?_⟩
    rw [hs]
    simp only [B__law_step, sSeq_ap, sAsg_ap, sEx_ap, sRet_ap, sRetN_ap, sNil_ap, sIf_ap, sFor_ap, sSub_ap, sRaise_ap, mkWhat_ap, eVar_ap, eC_ap, eBin_ap, eUn_ap, eTup_ap, eLst_ap, eCB_ap, eCall_ap, eM_ap, eIf_ap, eAndV_ap, eOrV_ap, eNotV_ap, eChain_ap, eSl_ap, oNone_ap, oSome_ap, eXf_ap, aNil_ap, aCons_ap, tOf_ap, tTru_ap, tAndM_ap, tOrM_ap, tNotM_ap, tYesM_ap, asB_bl, truA_b, Res.bind_ok, Res.bind_exc, Res.toS_ok, Res.toS_exc, Res.of_some, SRes.bind_nx, SRes.bind_rt, SRes.bind_exc, SRes.bind_ct, SRes.bind_bk, gN_ap, List.getElem?_cons_zero, List.getElem?_cons_succ, List.set_cons_zero, List.set_cons_succ, one1_ap, two2_ap, newL_f, newL_t, addOp_ii, subOp_ii, negOp_i, ltOp_ii, leOp_ii, gtOp_ii, geOp_ii, eqOp_ii, neOp_ii, eqOp_ss, neOp_ss, intA_i, intA_b, maxA_ii, minA_ii, lenA_lst, lenA_tup, lenA_slst, listA_lst, listA_tup, listA_slst, tupleA_lst, tupleA_tup, List.length_map, List.length_cons, List.length_nil, Bool.not_true, Bool.not_false, Bool.false_eq_true, if_true, if_false, Nat.zero_add, Nat.reduceAdd, t1, t2, l2', l8', e1, hd]
theorem dstep_wrong {st : Store} {c : Nat} {ds : List Int} {w : List Int} (hc : c < st.length) (hw : w.length < 1000) : ∃ o ds', M__law_wrong_end [.cell c, lI w] (st.set c (li ds)) = .ok (lI o) (st.set c (li ds')) := by
  have hz := sz
  have l1' : (1 : Nat) ≤ sizeLine := by omega
  obtain ⟨d1, ds1, p1, p2, t1⟩ := tk0 (ds := ds) (n := (w.length : Int) + 1) hc (by omega)
  obtain ⟨d2, ds2, p3, p4, t2⟩ := tk0 (ds := ds1) (n := 4) hc (by omega)
  have fin : ∀ (o : List Int) (ds' : List Int), B__law_wrong_end [some (.cell c), some (lI w), none, none] (st.set c (li ds)) = .rt (lI o) (st.set c (li ds')) → ∃ o ds', M__law_wrong_end [.cell c, lI w] (st.set c (li ds)) = .ok (lI o) (st.set c (li ds')) := fun o ds' hb =>
    ⟨o, ds', fnM_rt rfl hb (fin_draw0 bel_lI (by intro c h; cases h))⟩
  have s1 := fun st => @slt st w d1 (by omega) (by omega)
  have s2 := fun st => @sld st w d1 (by omega) (by omega)
  have q1 := fun st x => @addI_l st (w.take d1.toNat) [x] (by simp; omega)
  have q2 := fun st x => @addI_l st (w.take d1.toNat ++ [x]) (w.drop d1.toNat) (by simp; omega)
  by_cases h0 : d2 = 0
  · refine fin (w.take d1.toNat ++ [1] ++ w.drop d1.toNat) ds2 ?_
    simp only [List.map_cons, List.map_nil] at q1
    simp only [B__law_wrong_end, sSeq_ap, sAsg_ap, sEx_ap, sRet_ap, sRetN_ap, sNil_ap, sIf_ap, sFor_ap, sSub_ap, sRaise_ap, mkWhat_ap, eVar_ap, eC_ap, eBin_ap, eUn_ap, eTup_ap, eLst_ap, eCB_ap, eCall_ap, eM_ap, eIf_ap, eAndV_ap, eOrV_ap, eNotV_ap, eChain_ap, eSl_ap, oNone_ap, oSome_ap, eXf_ap, aNil_ap, aCons_ap, tOf_ap, tTru_ap, tAndM_ap, tOrM_ap, tNotM_ap, tYesM_ap, asB_bl, truA_b, Res.bind_ok, Res.bind_exc, Res.toS_ok, Res.toS_exc, Res.of_some, SRes.bind_nx, SRes.bind_rt, SRes.bind_exc, SRes.bind_ct, SRes.bind_bk, gN_ap, List.getElem?_cons_zero, List.getElem?_cons_succ, List.set_cons_zero, List.set_cons_succ, one1_ap, two2_ap, newL_f, newL_t, addOp_ii, subOp_ii, negOp_i, ltOp_ii, leOp_ii, gtOp_ii, geOp_ii, eqOp_ii, neOp_ii, eqOp_ss, neOp_ss, intA_i, intA_b, maxA_ii, minA_ii, lenA_lst, lenA_tup, lenA_slst, listA_lst, listA_tup, listA_slst, tupleA_lst, tupleA_tup, List.length_map, List.length_cons, List.length_nil, Bool.not_true, Bool.not_false, Bool.false_eq_true, if_true, if_false, Nat.zero_add, Nat.reduceAdd, t1, t2, decide_eq_true h0, s1, s2, l1', q1, q2]
  by_cases h1 : d2 = 1
  · by_cases h2 : (w.length : Int) > 0
    · by_cases h3 : d1 < (w.length : Int)
      · have s3 := fun st => @sld st w (d1 + 1) (by omega) (by omega)
        have q3 := fun st => @addI_l st (w.take d1.toNat) (w.drop (d1 + 1).toNat) (by simp; omega)
        refine fin (w.take d1.toNat ++ w.drop (d1 + 1).toNat) ds2 ?_
        simp only [B__law_wrong_end, sSeq_ap, sAsg_ap, sEx_ap, sRet_ap, sRetN_ap, sNil_ap, sIf_ap, sFor_ap, sSub_ap, sRaise_ap, mkWhat_ap, eVar_ap, eC_ap, eBin_ap, eUn_ap, eTup_ap, eLst_ap, eCB_ap, eCall_ap, eM_ap, eIf_ap, eAndV_ap, eOrV_ap, eNotV_ap, eChain_ap, eSl_ap, oNone_ap, oSome_ap, eXf_ap, aNil_ap, aCons_ap, tOf_ap, tTru_ap, tAndM_ap, tOrM_ap, tNotM_ap, tYesM_ap, asB_bl, truA_b, Res.bind_ok, Res.bind_exc, Res.toS_ok, Res.toS_exc, Res.of_some, SRes.bind_nx, SRes.bind_rt, SRes.bind_exc, SRes.bind_ct, SRes.bind_bk, gN_ap, List.getElem?_cons_zero, List.getElem?_cons_succ, List.set_cons_zero, List.set_cons_succ, one1_ap, two2_ap, newL_f, newL_t, addOp_ii, subOp_ii, negOp_i, ltOp_ii, leOp_ii, gtOp_ii, geOp_ii, eqOp_ii, neOp_ii, eqOp_ss, neOp_ss, intA_i, intA_b, maxA_ii, minA_ii, lenA_lst, lenA_tup, lenA_slst, listA_lst, listA_tup, listA_slst, tupleA_lst, tupleA_tup, List.length_map, List.length_cons, List.length_nil, Bool.not_true, Bool.not_false, Bool.false_eq_true, if_true, if_false, Nat.zero_add, Nat.reduceAdd, t1, t2, decide_eq_false h0, decide_eq_true h1, decide_eq_true h2, decide_eq_true h3, s1, s3, q3]
      · have s3 := fun st => @sld st w 1 (by omega) (by omega)
        refine fin (w.drop (1 : Int).toNat) ds2 ?_
        simp only [B__law_wrong_end, sSeq_ap, sAsg_ap, sEx_ap, sRet_ap, sRetN_ap, sNil_ap, sIf_ap, sFor_ap, sSub_ap, sRaise_ap, mkWhat_ap, eVar_ap, eC_ap, eBin_ap, eUn_ap, eTup_ap, eLst_ap, eCB_ap, eCall_ap, eM_ap, eIf_ap, eAndV_ap, eOrV_ap, eNotV_ap, eChain_ap, eSl_ap, oNone_ap, oSome_ap, eXf_ap, aNil_ap, aCons_ap, tOf_ap, tTru_ap, tAndM_ap, tOrM_ap, tNotM_ap, tYesM_ap, asB_bl, truA_b, Res.bind_ok, Res.bind_exc, Res.toS_ok, Res.toS_exc, Res.of_some, SRes.bind_nx, SRes.bind_rt, SRes.bind_exc, SRes.bind_ct, SRes.bind_bk, gN_ap, List.getElem?_cons_zero, List.getElem?_cons_succ, List.set_cons_zero, List.set_cons_succ, one1_ap, two2_ap, newL_f, newL_t, addOp_ii, subOp_ii, negOp_i, ltOp_ii, leOp_ii, gtOp_ii, geOp_ii, eqOp_ii, neOp_ii, eqOp_ss, neOp_ss, intA_i, intA_b, maxA_ii, minA_ii, lenA_lst, lenA_tup, lenA_slst, listA_lst, listA_tup, listA_slst, tupleA_lst, tupleA_tup, List.length_map, List.length_cons, List.length_nil, Bool.not_true, Bool.not_false, Bool.false_eq_true, if_true, if_false, Nat.zero_add, Nat.reduceAdd, t1, t2, decide_eq_false h0, decide_eq_true h1, decide_eq_true h2, decide_eq_false h3, s3]
    · have h4 : ¬ d2 = 2 := by omega
      refine fin w ds2 ?_
      simp only [B__law_wrong_end, sSeq_ap, sAsg_ap, sEx_ap, sRet_ap, sRetN_ap, sNil_ap, sIf_ap, sFor_ap, sSub_ap, sRaise_ap, mkWhat_ap, eVar_ap, eC_ap, eBin_ap, eUn_ap, eTup_ap, eLst_ap, eCB_ap, eCall_ap, eM_ap, eIf_ap, eAndV_ap, eOrV_ap, eNotV_ap, eChain_ap, eSl_ap, oNone_ap, oSome_ap, eXf_ap, aNil_ap, aCons_ap, tOf_ap, tTru_ap, tAndM_ap, tOrM_ap, tNotM_ap, tYesM_ap, asB_bl, truA_b, Res.bind_ok, Res.bind_exc, Res.toS_ok, Res.toS_exc, Res.of_some, SRes.bind_nx, SRes.bind_rt, SRes.bind_exc, SRes.bind_ct, SRes.bind_bk, gN_ap, List.getElem?_cons_zero, List.getElem?_cons_succ, List.set_cons_zero, List.set_cons_succ, one1_ap, two2_ap, newL_f, newL_t, addOp_ii, subOp_ii, negOp_i, ltOp_ii, leOp_ii, gtOp_ii, geOp_ii, eqOp_ii, neOp_ii, eqOp_ss, neOp_ss, intA_i, intA_b, maxA_ii, minA_ii, lenA_lst, lenA_tup, lenA_slst, listA_lst, listA_tup, listA_slst, tupleA_lst, tupleA_tup, List.length_map, List.length_cons, List.length_nil, Bool.not_true, Bool.not_false, Bool.false_eq_true, if_true, if_false, Nat.zero_add, Nat.reduceAdd, t1, t2, decide_eq_false h0, decide_eq_true h1, decide_eq_false h2, decide_eq_false h4]
  by_cases h4 : d2 = 2
  · by_cases h3 : d1 < (w.length : Int)
    · have s3 := fun st => @sld st w (d1 + 1) (by omega) (by omega)
      have i1 := fun st => @ixg st w d1 (by omega) (by omega)
      have q3 := fun st x => @addI_l st (w.take d1.toNat ++ [x]) (w.drop (d1 + 1).toNat) (by simp; omega)
      refine fin (w.take d1.toNat ++ [-(g0 w d1)] ++ w.drop (d1 + 1).toNat) ds2 ?_
      simp only [List.map_cons, List.map_nil] at q1
      simp only [B__law_wrong_end, sSeq_ap, sAsg_ap, sEx_ap, sRet_ap, sRetN_ap, sNil_ap, sIf_ap, sFor_ap, sSub_ap, sRaise_ap, mkWhat_ap, eVar_ap, eC_ap, eBin_ap, eUn_ap, eTup_ap, eLst_ap, eCB_ap, eCall_ap, eM_ap, eIf_ap, eAndV_ap, eOrV_ap, eNotV_ap, eChain_ap, eSl_ap, oNone_ap, oSome_ap, eXf_ap, aNil_ap, aCons_ap, tOf_ap, tTru_ap, tAndM_ap, tOrM_ap, tNotM_ap, tYesM_ap, asB_bl, truA_b, Res.bind_ok, Res.bind_exc, Res.toS_ok, Res.toS_exc, Res.of_some, SRes.bind_nx, SRes.bind_rt, SRes.bind_exc, SRes.bind_ct, SRes.bind_bk, gN_ap, List.getElem?_cons_zero, List.getElem?_cons_succ, List.set_cons_zero, List.set_cons_succ, one1_ap, two2_ap, newL_f, newL_t, addOp_ii, subOp_ii, negOp_i, ltOp_ii, leOp_ii, gtOp_ii, geOp_ii, eqOp_ii, neOp_ii, eqOp_ss, neOp_ss, intA_i, intA_b, maxA_ii, minA_ii, lenA_lst, lenA_tup, lenA_slst, listA_lst, listA_tup, listA_slst, tupleA_lst, tupleA_tup, List.length_map, List.length_cons, List.length_nil, Bool.not_true, Bool.not_false, Bool.false_eq_true, if_true, if_false, Nat.zero_add, Nat.reduceAdd, t1, t2, decide_eq_false h0, decide_eq_false h1, decide_eq_true h4, decide_eq_true h3, s1, s3, i1, l1', q1, q3]
    · refine fin w ds2 ?_
      simp only [B__law_wrong_end, sSeq_ap, sAsg_ap, sEx_ap, sRet_ap, sRetN_ap, sNil_ap, sIf_ap, sFor_ap, sSub_ap, sRaise_ap, mkWhat_ap, eVar_ap, eC_ap, eBin_ap, eUn_ap, eTup_ap, eLst_ap, eCB_ap, eCall_ap, eM_ap, eIf_ap, eAndV_ap, eOrV_ap, eNotV_ap, eChain_ap, eSl_ap, oNone_ap, oSome_ap, eXf_ap, aNil_ap, aCons_ap, tOf_ap, tTru_ap, tAndM_ap, tOrM_ap, tNotM_ap, tYesM_ap, asB_bl, truA_b, Res.bind_ok, Res.bind_exc, Res.toS_ok, Res.toS_exc, Res.of_some, SRes.bind_nx, SRes.bind_rt, SRes.bind_exc, SRes.bind_ct, SRes.bind_bk, gN_ap, List.getElem?_cons_zero, List.getElem?_cons_succ, List.set_cons_zero, List.set_cons_succ, one1_ap, two2_ap, newL_f, newL_t, addOp_ii, subOp_ii, negOp_i, ltOp_ii, leOp_ii, gtOp_ii, geOp_ii, eqOp_ii, neOp_ii, eqOp_ss, neOp_ss, intA_i, intA_b, maxA_ii, minA_ii, lenA_lst, lenA_tup, lenA_slst, listA_lst, listA_tup, listA_slst, tupleA_lst, tupleA_tup, List.length_map, List.length_cons, List.length_nil, Bool.not_true, Bool.not_false, Bool.false_eq_true, if_true, if_false, Nat.zero_add, Nat.reduceAdd, t1, t2, decide_eq_false h0, decide_eq_false h1, decide_eq_true h4, decide_eq_false h3]
  · refine fin w ds2 ?_
    simp only [B__law_wrong_end, sSeq_ap, sAsg_ap, sEx_ap, sRet_ap, sRetN_ap, sNil_ap, sIf_ap, sFor_ap, sSub_ap, sRaise_ap, mkWhat_ap, eVar_ap, eC_ap, eBin_ap, eUn_ap, eTup_ap, eLst_ap, eCB_ap, eCall_ap, eM_ap, eIf_ap, eAndV_ap, eOrV_ap, eNotV_ap, eChain_ap, eSl_ap, oNone_ap, oSome_ap, eXf_ap, aNil_ap, aCons_ap, tOf_ap, tTru_ap, tAndM_ap, tOrM_ap, tNotM_ap, tYesM_ap, asB_bl, truA_b, Res.bind_ok, Res.bind_exc, Res.toS_ok, Res.toS_exc, Res.of_some, SRes.bind_nx, SRes.bind_rt, SRes.bind_exc, SRes.bind_ct, SRes.bind_bk, gN_ap, List.getElem?_cons_zero, List.getElem?_cons_succ, List.set_cons_zero, List.set_cons_succ, one1_ap, two2_ap, newL_f, newL_t, addOp_ii, subOp_ii, negOp_i, ltOp_ii, leOp_ii, gtOp_ii, geOp_ii, eqOp_ii, neOp_ii, eqOp_ss, neOp_ss, intA_i, intA_b, maxA_ii, minA_ii, lenA_lst, lenA_tup, lenA_slst, listA_lst, listA_tup, listA_slst, tupleA_lst, tupleA_tup, List.length_map, List.length_cons, List.length_nil, Bool.not_true, Bool.not_false, Bool.false_eq_true, if_true, if_false, Nat.zero_add, Nat.reduceAdd, t1, t2, decide_eq_false h0, decide_eq_false h1, decide_eq_false h4]
/-! plain of texts and bools -/
theorem plain_str {st : Store} {k : Nat} {x : Str} : M__law_plain_ (k + 1) [.str x] st = .ok (.lst [.bl true, .str x]) st := by
  have hz := sz
  have hb : B__law_plain (M__law_plain_ k) [some (.str x), none] st = .rt (.lst [.bl true, .str x]) st := by
    have h1 : isiTys "str" [.ty "tuple", .ty "list"] = some false := by decide
    have h2 : isiTys "str" [.ty "int", .ty "str"] = some true := by decide
    have h3 : isiB (.str x) (.ty "bool") st = some (.bl false, st) := by simp only [isiB, isiA, tyName]; rw [show kitB "str" "bool" = some false by decide]; rfl
    have h4 : isiB (.str x) (.ty "str") st = some (.bl true, st) := by simp only [isiB, isiA, tyName]; rw [show kitB "str" "str" = some true by decide]; rfl
    have h5 : isNOp false (.str x) .non st = some (.bl false, st) := rfl
    simp [B__law_plain, tyName, h1, h2, h3, h4, h5, hz]
  exact fnM_rt rfl hb (fin_pure0 (by simp [A.bel, belowL]) (by intro c h; cases h))
def blS (b : Bool) : Str := if b then "True" else "False"
theorem plain_bl {st : Store} {k : Nat} {b : Bool} : M__law_plain_ (k + 1) [.bl b] st = .ok (.str (blS b)) st := by
  have hz := sz
  have hb : B__law_plain (M__law_plain_ k) [some (.bl b), none] st = .rt (.str (blS b)) st := by
    have h1 : isiTys "bool" [.ty "tuple", .ty "list"] = some false := by decide
    have h3 : isiB (.bl b) (.ty "bool") st = some (.bl true, st) := by simp only [isiB, isiA, tyName]; rw [show kitB "bool" "bool" = some true by decide]; rfl
    have h5 : isNOp false (.bl b) .non st = some (.bl false, st) := rfl
    have h6 : isNOp true (.bl b) .non st = some (.bl true, st) := rfl
    have h7 : isNOp false (.bl b) (.bl true) st = some (.bl (decide (b = true)), st) := rfl
    have i1 := @ixs st 1 [.str "None", .str "False", .str "True"] _ (by omega) rfl
    have i2 := @ixs st 2 [.str "None", .str "False", .str "True"] _ (by omega) rfl
    cases b
    · simp [B__law_plain, tyName, h1, h3, h5, h6, h7, hz, i1, blS]
    · simp [B__law_plain, tyName, h1, h3, h5, h6, h7, hz, i2, blS]
  exact fnM_rt rfl hb (fin_pure0 (by simp [A.bel]) (by intro c h; cases h))
theorem plain_b1 {st : Store} {b : Bool} : ∃ r, M__law_plain [.lst [.bl b]] st = .ok r st ∧ eqOp r r st = some (.bl true, st) := by
  refine ⟨_, plain_seq (k := 5) (a := .lst [.bl b]) (xs := [.bl b]) (fun _ => .str (blS b)) true (.inr ⟨rfl, rfl⟩) (by simp) (fun x hx => bel_str) (fun x hx => ?_), eqOp_same (dt_lst fun x hx => ?_)⟩
  · rw [List.mem_singleton] at hx; subst hx; exact plain_bl
  · simp only [List.map_cons, List.map_nil, List.mem_cons, List.not_mem_nil, or_false] at hx
    rcases hx with rfl | rfl
    · exact dt_bl
    · cases b
      · exact dt_str (by simp only [PyData.canLay0]; decide +kernel)
      · exact dt_str (by simp only [PyData.canLay0]; decide +kernel)
theorem stp_k {s : Stp} : s.k = "create" ∨ s.k = "cancel" ∨ s.k = "swap" ∨ s.k = "turn" := by cases s <;> simp [Stp.k]
theorem plain_told {st : Store} {o : Option (List Int)} {s : Stp} (ho : ∀ l, o = some l → l.length < 10000) : ∃ r, M__law_plain [toldA o s.k] st = .ok r st ∧ neOp r r st = some (.bl false, st) := by
  cases o with
  | some l =>
    refine ⟨_, plain_lI (k := 4) (ho l rfl), neOp_same (dt_lst fun x hx => ?_)⟩
    rw [List.mem_cons] at hx
    rcases hx with rfl | hx
    · exact dt_bl
    · obtain ⟨y, hy, rfl⟩ := List.mem_map.mp hx; obtain ⟨i, _, rfl⟩ := List.mem_map.mp hy; exact plI_dt
  | none =>
    refine ⟨_, plain_seq (k := 5) (a := .tup [.str "illegal", .str s.k]) (xs := [.str "illegal", .str s.k]) (fun a => .lst [.bl true, a]) false (.inl ⟨rfl, rfl⟩) (by simp) (fun x hx => ?_) (fun x hx => ?_), neOp_same (dt_lst fun x hx => ?_)⟩
    · simp only [List.mem_cons, List.not_mem_nil, or_false] at hx
      rcases hx with rfl | rfl <;> simp [A.bel, belowL]
    · simp only [List.mem_cons, List.not_mem_nil, or_false] at hx
      rcases hx with rfl | rfl <;> exact plain_str
    · simp only [List.map_cons, List.map_nil, List.mem_cons, List.not_mem_nil, or_false] at hx
      have hstr : ∀ y : Str, (y = "illegal" ∨ y = s.k) → Dt st 49 (.lst [.bl true, .str y]) := fun y hy => dt_lst fun x hx => by
        simp only [List.mem_cons, List.not_mem_nil, or_false] at hx
        rcases hx with rfl | rfl
        · exact dt_bl
        · refine dt_str ?_
          rcases hy with rfl | rfl
          · simp only [PyData.canLay0]; decide +kernel
          · rcases @stp_k s with h | h | h | h <;> (rw [h]; simp only [PyData.canLay0]; decide +kernel)
      rcases hx with rfl | rfl | rfl
      · exact dt_bl
      · exact hstr _ (.inl rfl)
      · exact hstr _ (.inr rfl)
end Gk05

set_option Elab.async false
set_option linter.all false
set_option maxRecDepth 100000
set_option maxHeartbeats 4000000
namespace Gk05
open PySem PySem.Spec L2 SL
open PyProof.Rows hiding St
abbrev ls (S : List Stp) : C := .lst (S.map Stp.a)
section
variable {ns : List Int} {n : Int} {w : List Int}
theorem k_ix {st : Store} {s : Stp} : ixOp s.a (.int 0) st = some (.str s.k, st) := by
  cases s <;> exact tupix (by omega) rfl
theorem turn1 (hn1 : 1 ≤ n) (hn8 : n ≤ 8) (hw : WdL n 20 w) {ds : List Int} {x4 x10 x11 x12 x13 : Option A} :
    ∃ ds' y10 y11 y12 y13, L1_law [some (.slst (ns.map A.int)), some (.cell 0), some (.int n), some (lI w), x4, none, none, none, none, none, x10, x11, x12, x13, none] [li ds]
      = .nx [some (.slst (ns.map A.int)), some (.cell 0), some (.int n), some (lI w), x4, none, none, none, none, none, y10, y11, y12, y13, none] [li ds'] := by
  have hz := sz
  have l2' : (2 : Nat) ≤ sizeLine := by omega
  obtain ⟨s, ds', h1⟩ := dstep_sp (st := [li ds]) (c := 0) (ds := ds) (n := n) (w := w) (by simp) (by have := hw.few; omega)
  simp only [List.set_cons_zero] at h1
  have h2 := @made_sp [li ds'] n w s (hw.wd (by omega))
  have h3 := @told_sp [li ds'] n w s (hw.wd (by omega))
  have hl : ∀ l, mk n w s = some l → l.length < 10000 := fun l e => by have := (mk_wd (by omega) hw e).few; omega
  obtain ⟨r, h4, h5⟩ := @plain_told [li ds'] (mk n w s) s hl
  refine ⟨ds', some s.a, some (optA (mk n w s)), some (toldA (mk n w s) s.k), some (lI w), ?_⟩
  have k0 := @k_ix [li ds'] s
  cases e : mk n w s with
  | some l =>
    rw [e] at h2 h3 h4
    simp only [optA, toldA] at h2 h3 h4 ⊢
    simp only [L1_law, sSeq_ap, sAsg_ap, sEx_ap, sRet_ap, sRetN_ap, sNil_ap, sIf_ap, sFor_ap, sSub_ap, sRaise_ap, mkWhat_ap, eVar_ap, eC_ap, eBin_ap, eUn_ap, eTup_ap, eLst_ap, eCB_ap, eCall_ap, eM_ap, eIf_ap, eAndV_ap, eOrV_ap, eNotV_ap, eChain_ap, eSl_ap, oNone_ap, oSome_ap, eXf_ap, aNil_ap, aCons_ap, tOf_ap, tTru_ap, tAndM_ap, tOrM_ap, tNotM_ap, tYesM_ap, asB_bl, truA_b, Res.bind_ok, Res.bind_exc, Res.toS_ok, Res.toS_exc, Res.of_some, SRes.bind_nx, SRes.bind_rt, SRes.bind_exc, SRes.bind_ct, SRes.bind_bk, gN_ap, List.getElem?_cons_zero, List.getElem?_cons_succ, List.set_cons_zero, List.set_cons_succ, one1_ap, two2_ap, newL_f, newL_t, addOp_ii, subOp_ii, negOp_i, ltOp_ii, leOp_ii, gtOp_ii, geOp_ii, eqOp_ii, neOp_ii, eqOp_ss, neOp_ss, intA_i, intA_b, maxA_ii, minA_ii, lenA_lst, lenA_tup, lenA_slst, listA_lst, listA_tup, listA_slst, tupleA_lst, tupleA_tup, List.length_map, List.length_cons, List.length_nil, Bool.not_true, Bool.not_false, Bool.false_eq_true, if_true, if_false, Nat.zero_add, Nat.reduceAdd, h1, h2, isN_l, h3, h4, h5, neOp_lI, decide_true]
  | none =>
    rw [e] at h2 h3 h4
    simp only [optA, toldA] at h2 h3 h4 ⊢
    simp only [L1_law, sSeq_ap, sAsg_ap, sEx_ap, sRet_ap, sRetN_ap, sNil_ap, sIf_ap, sFor_ap, sSub_ap, sRaise_ap, mkWhat_ap, eVar_ap, eC_ap, eBin_ap, eUn_ap, eTup_ap, eLst_ap, eCB_ap, eCall_ap, eM_ap, eIf_ap, eAndV_ap, eOrV_ap, eNotV_ap, eChain_ap, eSl_ap, oNone_ap, oSome_ap, eXf_ap, aNil_ap, aCons_ap, tOf_ap, tTru_ap, tAndM_ap, tOrM_ap, tNotM_ap, tYesM_ap, asB_bl, truA_b, Res.bind_ok, Res.bind_exc, Res.toS_ok, Res.toS_exc, Res.of_some, SRes.bind_nx, SRes.bind_rt, SRes.bind_exc, SRes.bind_ct, SRes.bind_bk, gN_ap, List.getElem?_cons_zero, List.getElem?_cons_succ, List.set_cons_zero, List.set_cons_succ, one1_ap, two2_ap, newL_f, newL_t, addOp_ii, subOp_ii, negOp_i, ltOp_ii, leOp_ii, gtOp_ii, geOp_ii, eqOp_ii, neOp_ii, eqOp_ss, neOp_ss, intA_i, intA_b, maxA_ii, minA_ii, lenA_lst, lenA_tup, lenA_slst, listA_lst, listA_tup, listA_slst, tupleA_lst, tupleA_tup, List.length_map, List.length_cons, List.length_nil, Bool.not_true, Bool.not_false, Bool.false_eq_true, if_true, if_false, Nat.zero_add, Nat.reduceAdd, h1, h2, isN_n, k0, l2', h3, h4, h5, neOp_lI, decide_true]
/-- the inner loop: eight tries -/
theorem turn2 {v : List Int} {x4 x7 x11 : Option A} {L : Nat} (hv : WdL n L v) (hL : L < 1000) {ds : List Int} {S : List Stp} {s : Stp} {x14 x8 x9 x12 x13 : Option A} :
    ∃ ds' s' y14, forL none (((List.range 8).map fun (j : Nat) => (j : Int)).map A.int) (gN 14) L2_law (((List.range 8).map fun (j : Nat) => (j : Int)).map A.int) [some (.slst (ns.map A.int)), some (.cell 0), some (.int n), some (lI w), x4, some (.cell 1), some (lI v), x7, x8, x9, some (Stp.a s), x11, x12, x13, x14] [li ds, ls S]
      = .nx [some (.slst (ns.map A.int)), some (.cell 0), some (.int n), some (lI w), x4, some (.cell 1), some (lI v), x7, x8, x9, some (Stp.a s'), x11, x12, x13, y14] [li ds', ls S] := by
  obtain ⟨e, s0, h1, ds', s', y14, rfl, rfl⟩ := for_inv (all := ((List.range 8).map fun (j : Nat) => (j : Int)).map A.int) (g := gN 14) (body := L2_law) (xs := ((List.range 8).map fun (j : Nat) => (j : Int)).map A.int)
    (fun i e st => ∃ ds' s' y14, e = [some (.slst (ns.map A.int)), some (.cell 0), some (.int n), some (lI w), x4, some (.cell 1), some (lI v), x7, x8, x9, some (Stp.a s'), x11, x12, x13, y14] ∧ st = [li ds', ls S])
    (env := [some (.slst (ns.map A.int)), some (.cell 0), some (.int n), some (lI w), x4, some (.cell 1), some (lI v), x7, x8, x9, some (Stp.a s), x11, x12, x13, x14]) (st := [li ds, ls S]) ⟨ds, s, x14, rfl, rfl⟩ (by
      rintro i a e st hx ⟨ds, s, y14, rfl, rfl⟩
      obtain ⟨s', ds', h1⟩ := dstep_sp (st := [li ds, ls S]) (c := 0) (ds := ds) (n := n) (w := v) (by simp) (by have := hv.few; omega)
      simp only [List.set_cons_zero] at h1
      have h2 := @made_sp [li ds, ls S] n v s (hv.wd hL)
      refine ⟨_, rfl, ?_⟩
      cases e : mk n v s with
      | some l =>
        rw [e] at h2
        simp only [optA] at h2
        simp only [L2_law, sSeq_ap, sAsg_ap, sEx_ap, sRet_ap, sRetN_ap, sNil_ap, sIf_ap, sFor_ap, sSub_ap, sRaise_ap, mkWhat_ap, eVar_ap, eC_ap, eBin_ap, eUn_ap, eTup_ap, eLst_ap, eCB_ap, eCall_ap, eM_ap, eIf_ap, eAndV_ap, eOrV_ap, eNotV_ap, eChain_ap, eSl_ap, oNone_ap, oSome_ap, eXf_ap, aNil_ap, aCons_ap, tOf_ap, tTru_ap, tAndM_ap, tOrM_ap, tNotM_ap, tYesM_ap, asB_bl, truA_b, Res.bind_ok, Res.bind_exc, Res.toS_ok, Res.toS_exc, Res.of_some, SRes.bind_nx, SRes.bind_rt, SRes.bind_exc, SRes.bind_ct, SRes.bind_bk, gN_ap, List.getElem?_cons_zero, List.getElem?_cons_succ, List.set_cons_zero, List.set_cons_succ, one1_ap, two2_ap, newL_f, newL_t, addOp_ii, subOp_ii, negOp_i, ltOp_ii, leOp_ii, gtOp_ii, geOp_ii, eqOp_ii, neOp_ii, eqOp_ss, neOp_ss, intA_i, intA_b, maxA_ii, minA_ii, lenA_lst, lenA_tup, lenA_slst, listA_lst, listA_tup, listA_slst, tupleA_lst, tupleA_tup, List.length_map, List.length_cons, List.length_nil, Bool.not_true, Bool.not_false, Bool.false_eq_true, if_true, if_false, Nat.zero_add, Nat.reduceAdd, h2, isN_l, NxP_nx]
        exact ⟨ds, s, _, rfl, rfl⟩
      | none =>
        rw [e] at h2
        simp only [optA] at h2
        simp only [L2_law, sSeq_ap, sAsg_ap, sEx_ap, sRet_ap, sRetN_ap, sNil_ap, sIf_ap, sFor_ap, sSub_ap, sRaise_ap, mkWhat_ap, eVar_ap, eC_ap, eBin_ap, eUn_ap, eTup_ap, eLst_ap, eCB_ap, eCall_ap, eM_ap, eIf_ap, eAndV_ap, eOrV_ap, eNotV_ap, eChain_ap, eSl_ap, oNone_ap, oSome_ap, eXf_ap, aNil_ap, aCons_ap, tOf_ap, tTru_ap, tAndM_ap, tOrM_ap, tNotM_ap, tYesM_ap, asB_bl, truA_b, Res.bind_ok, Res.bind_exc, Res.toS_ok, Res.toS_exc, Res.of_some, SRes.bind_nx, SRes.bind_rt, SRes.bind_exc, SRes.bind_ct, SRes.bind_bk, gN_ap, List.getElem?_cons_zero, List.getElem?_cons_succ, List.set_cons_zero, List.set_cons_succ, one1_ap, two2_ap, newL_f, newL_t, addOp_ii, subOp_ii, negOp_i, ltOp_ii, leOp_ii, gtOp_ii, geOp_ii, eqOp_ii, neOp_ii, eqOp_ss, neOp_ss, intA_i, intA_b, maxA_ii, minA_ii, lenA_lst, lenA_tup, lenA_slst, listA_lst, listA_tup, listA_slst, tupleA_lst, tupleA_tup, List.length_map, List.length_cons, List.length_nil, Bool.not_true, Bool.not_false, Bool.false_eq_true, if_true, if_false, Nat.zero_add, Nat.reduceAdd, h2, isN_n, h1, NxP_nx]
        exact ⟨ds', s', _, rfl, rfl⟩)
  exact ⟨ds', s', y14, h1⟩
def okR (n : Int) (w : List Int) (S : List Stp) (v : List Int) (r : Bool) : Prop := run n w S = if r then some v else none
theorem turn3 (hn1 : 1 ≤ n) (hn8 : n ≤ 8) {v : List Int} {r : Bool} {L : Nat} (hv : WdL n L v) (hL : L < 1000) {ds : List Int} {S : List Stp} (hS : S.length < 1000) (hr : okR n w S v r) {x4 x8 x9 x10 x11 x12 x13 x14 : Option A} :
    ∃ ds' S' v' r' y10 y11 y14, L3_law [some (.slst (ns.map A.int)), some (.cell 0), some (.int n), some (lI w), x4, some (.cell 1), some (lI v), some (.bl r), x8, x9, x10, x11, x12, x13, x14] [li ds, ls S]
      = .nx [some (.slst (ns.map A.int)), some (.cell 0), some (.int n), some (lI w), x4, some (.cell 1), some (lI v'), some (.bl r'), x8, x9, y10, y11, x12, x13, y14] [li ds', ls S'] ∧ WdL n (L + 2) v' ∧ S'.length ≤ S.length + 1 ∧ okR n w S' v' r' := by
  have hz := sz
  obtain ⟨s, ds1, h1⟩ := dstep_sp (st := [li ds, ls S]) (c := 0) (ds := ds) (n := n) (w := v) (by simp) (by have := hv.few; omega)
  simp only [List.set_cons_zero] at h1
  obtain ⟨ds2, s2, y14, h2⟩ := @turn2 ns n w v x4 (some (.bl r)) x11 L hv hL ds1 S s x14 x8 x9 x12 x13
  have h3 := @made_sp [li ds2, ls S] n v s2 (hv.wd hL)
  obtain ⟨d, ds3, p1, p2, t1⟩ := tk0 (st := [li ds2, ls S]) (c := 0) (ds := ds2) (n := 20) (by simp) (by omega)
  simp only [List.set_cons_zero] at t1
  have er : mRng1 (aCons (eC (.int 8)) aNil) [some (.slst (ns.map A.int)), some (.cell 0), some (.int n), some (lI w), x4, some (.cell 1), some (lI v), some (.bl r), x8, x9, some (Stp.a s), x11, x12, x13, x14] [li ds1, ls S] = .ok (((List.range 8).map fun (j : Nat) => (j : Int)).map A.int, none) [li ds1, ls S] := rng1 (by omega) (by simp)
  have ty := fun ds => @tyVA_cell [li ds, ls S] _ 1 rfl
  have ap := fun ds => @appendM_c [li ds, ls S] (S.map Stp.a) 1 s2.a rfl (by rw [List.length_map]; omega)
  have hsn : ∀ ds, ([li ds, ls S] : Store).set 1 (.lst (S.map Stp.a ++ [s2.a])) = [li ds, ls (S ++ [s2])] := fun ds => by simp [ls]
  simp only [hsn] at ap
  cases e : mk n v s2 with
  | some l =>
    rw [e] at h3
    simp only [optA] at h3
    refine ⟨ds2, S ++ [s2], l, r, some s2.a, some (lI l), y14, ?_, mk_wd (by omega) hv e, by simp, ?_⟩
    · simp only [L3_law, sSeq_ap, sAsg_ap, sEx_ap, sRet_ap, sRetN_ap, sNil_ap, sIf_ap, sFor_ap, sSub_ap, sRaise_ap, mkWhat_ap, eVar_ap, eC_ap, eBin_ap, eUn_ap, eTup_ap, eLst_ap, eCB_ap, eCall_ap, eM_ap, eIf_ap, eAndV_ap, eOrV_ap, eNotV_ap, eChain_ap, eSl_ap, oNone_ap, oSome_ap, eXf_ap, aNil_ap, aCons_ap, tOf_ap, tTru_ap, tAndM_ap, tOrM_ap, tNotM_ap, tYesM_ap, asB_bl, truA_b, Res.bind_ok, Res.bind_exc, Res.toS_ok, Res.toS_exc, Res.of_some, SRes.bind_nx, SRes.bind_rt, SRes.bind_exc, SRes.bind_ct, SRes.bind_bk, gN_ap, List.getElem?_cons_zero, List.getElem?_cons_succ, List.set_cons_zero, List.set_cons_succ, one1_ap, two2_ap, newL_f, newL_t, addOp_ii, subOp_ii, negOp_i, ltOp_ii, leOp_ii, gtOp_ii, geOp_ii, eqOp_ii, neOp_ii, eqOp_ss, neOp_ss, intA_i, intA_b, maxA_ii, minA_ii, lenA_lst, lenA_tup, lenA_slst, listA_lst, listA_tup, listA_slst, tupleA_lst, tupleA_tup, List.length_map, List.length_cons, List.length_nil, Bool.not_true, Bool.not_false, Bool.false_eq_true, if_true, if_false, Nat.zero_add, Nat.reduceAdd, h1, er, h2, h3, notN_l, ty, ap]
    · unfold okR at hr ⊢
      rw [run_snoc, hr]
      cases r
      · rfl
      · exact e
  | none =>
    rw [e] at h3
    simp only [optA] at h3
    by_cases hd : d = 0
    · refine ⟨ds3, S ++ [s2], v, false, some s2.a, some .non, y14, ?_, hv.mono (by omega), by simp, ?_⟩
      · simp only [L3_law, sSeq_ap, sAsg_ap, sEx_ap, sRet_ap, sRetN_ap, sNil_ap, sIf_ap, sFor_ap, sSub_ap, sRaise_ap, mkWhat_ap, eVar_ap, eC_ap, eBin_ap, eUn_ap, eTup_ap, eLst_ap, eCB_ap, eCall_ap, eM_ap, eIf_ap, eAndV_ap, eOrV_ap, eNotV_ap, eChain_ap, eSl_ap, oNone_ap, oSome_ap, eXf_ap, aNil_ap, aCons_ap, tOf_ap, tTru_ap, tAndM_ap, tOrM_ap, tNotM_ap, tYesM_ap, asB_bl, truA_b, Res.bind_ok, Res.bind_exc, Res.toS_ok, Res.toS_exc, Res.of_some, SRes.bind_nx, SRes.bind_rt, SRes.bind_exc, SRes.bind_ct, SRes.bind_bk, gN_ap, List.getElem?_cons_zero, List.getElem?_cons_succ, List.set_cons_zero, List.set_cons_succ, one1_ap, two2_ap, newL_f, newL_t, addOp_ii, subOp_ii, negOp_i, ltOp_ii, leOp_ii, gtOp_ii, geOp_ii, eqOp_ii, neOp_ii, eqOp_ss, neOp_ss, intA_i, intA_b, maxA_ii, minA_ii, lenA_lst, lenA_tup, lenA_slst, listA_lst, listA_tup, listA_slst, tupleA_lst, tupleA_tup, List.length_map, List.length_cons, List.length_nil, Bool.not_true, Bool.not_false, Bool.false_eq_true, if_true, if_false, Nat.zero_add, Nat.reduceAdd, h1, er, h2, h3, notN_n, t1, decide_eq_true hd, ty, ap]
      · unfold okR at hr ⊢
        rw [run_snoc, hr]
        cases r
        · rfl
        · exact e
    · refine ⟨ds3, S, v, r, some s2.a, some .non, y14, ?_, hv.mono (by omega), by simp, hr⟩
      simp only [L3_law, sSeq_ap, sAsg_ap, sEx_ap, sRet_ap, sRetN_ap, sNil_ap, sIf_ap, sFor_ap, sSub_ap, sRaise_ap, mkWhat_ap, eVar_ap, eC_ap, eBin_ap, eUn_ap, eTup_ap, eLst_ap, eCB_ap, eCall_ap, eM_ap, eIf_ap, eAndV_ap, eOrV_ap, eNotV_ap, eChain_ap, eSl_ap, oNone_ap, oSome_ap, eXf_ap, aNil_ap, aCons_ap, tOf_ap, tTru_ap, tAndM_ap, tOrM_ap, tNotM_ap, tYesM_ap, asB_bl, truA_b, Res.bind_ok, Res.bind_exc, Res.toS_ok, Res.toS_exc, Res.of_some, SRes.bind_nx, SRes.bind_rt, SRes.bind_exc, SRes.bind_ct, SRes.bind_bk, gN_ap, List.getElem?_cons_zero, List.getElem?_cons_succ, List.set_cons_zero, List.set_cons_succ, one1_ap, two2_ap, newL_f, newL_t, addOp_ii, subOp_ii, negOp_i, ltOp_ii, leOp_ii, gtOp_ii, geOp_ii, eqOp_ii, neOp_ii, eqOp_ss, neOp_ss, intA_i, intA_b, maxA_ii, minA_ii, lenA_lst, lenA_tup, lenA_slst, listA_lst, listA_tup, listA_slst, tupleA_lst, tupleA_tup, List.length_map, List.length_cons, List.length_nil, Bool.not_true, Bool.not_false, Bool.false_eq_true, if_true, if_false, Nat.zero_add, Nat.reduceAdd, h1, er, h2, h3, notN_n, t1, decide_eq_false hd]
end
theorem hlaw : ∀ ns : List Int, ns.length ≤ 63 → ∃ st, M_law [.slst (ns.map A.int)] [] = .ok (.bl true) st := by
  intro ns hns
  have hz := sz
  have l0 : (0 : Nat) ≤ sizeLine := by omega
  have l1' : (1 : Nat) ≤ sizeLine := by omega
  obtain ⟨ds0, -, hd⟩ := deck_spec hns 40 14 (by omega) (by omega)
  have hd : M__law_deck [.slst (ns.map A.int), .int 40, .int 14] [] = .ok (.cell 0) [li ds0] := hd
  obtain ⟨d1, ds1, p1, p2, t1⟩ := tk0 (st := [li ds0]) (c := 0) (ds := ds0) (n := 8) (by simp) (by omega)
  simp only [List.set_cons_zero] at t1
  generalize hn : 1 + d1 = n at *
  have hn1 : 1 ≤ n := by omega
  have hn8 : n ≤ 8 := by omega
  obtain ⟨w, ds2, hw, t2⟩ := word_sp (st := [li ds1]) (c := 0) (ds := ds1) (n := n) (by simp) hn1 hn8
  simp only [List.set_cons_zero] at t2
  obtain ⟨e, s, h1, ds3, x4, x10, x11, x12, x13, rfl, rfl⟩ := for_inv (all := ((List.range 12).map fun (j : Nat) => (j : Int)).map A.int) (g := gN 4) (body := L1_law) (xs := ((List.range 12).map fun (j : Nat) => (j : Int)).map A.int)
    (fun i e s => ∃ ds x4 x10 x11 x12 x13, e = [some (.slst (ns.map A.int)), some (.cell 0), some (.int n), some (lI w), x4, none, none, none, none, none, x10, x11, x12, x13, none] ∧ s = [li ds])
    (env := [some (.slst (ns.map A.int)), some (.cell 0), some (.int n), some (lI w), none, none, none, none, none, none, none, none, none, none, none]) (st := [li ds2]) ⟨ds2, _, _, _, _, _, rfl, rfl⟩ (by
      rintro i a e s hx ⟨ds, x4, x10, x11, x12, x13, rfl, rfl⟩
      obtain ⟨ds', y10, y11, y12, y13, h⟩ := turn1 (ns := ns) hn1 hn8 hw (ds := ds) (x4 := some a) (x10 := x10) (x11 := x11) (x12 := x12) (x13 := x13)
      refine ⟨_, rfl, ?_⟩
      simp only [List.set_cons_succ, List.set_cons_zero, h, NxP_nx]
      exact ⟨ds', _, _, _, _, _, rfl, rfl⟩)
  obtain ⟨d4, ds4, p3, p4, t4⟩ := tk0 (st := [li ds3, ls []]) (c := 0) (ds := ds3) (n := 13) (by simp) (by omega)
  simp only [List.set_cons_zero] at t4
  obtain ⟨e, s, h2, ds5, S, v, r, y4, y10, y11, y14, rfl, rfl, hv, hS, hr⟩ := for_inv (all := ((List.range d4.toNat).map fun (j : Nat) => (j : Int)).map A.int) (g := gN 4) (body := L3_law) (xs := ((List.range d4.toNat).map fun (j : Nat) => (j : Int)).map A.int)
    (fun i e s => ∃ ds S v r x4 x10 x11 x14, e = [some (.slst (ns.map A.int)), some (.cell 0), some (.int n), some (lI w), x4, some (.cell 1), some (lI v), some (.bl r), none, none, x10, x11, x12, x13, x14] ∧ s = [li ds, ls S] ∧ WdL n (20 + 2 * i) v ∧ (i ≤ 13 → S.length ≤ i) ∧ okR n w S v r)
    (env := [some (.slst (ns.map A.int)), some (.cell 0), some (.int n), some (lI w), x4, some (.cell 1), some (lI w), some (.bl true), none, none, x10, x11, x12, x13, none]) (st := [li ds4, ls []]) ⟨ds4, [], w, true, _, _, _, _, rfl, rfl, hw, by simp, rfl⟩ (by
      rintro i a e s hx ⟨ds, S, v, r, x4, x10, x11, x14, rfl, rfl, hv, hS, hr⟩
      obtain ⟨hi, rfl⟩ := rng_get hx
      have hS' := hS (by omega)
      obtain ⟨ds', S', v', r', y10, y11, y14, h, hv', hl', hr'⟩ := turn3 (ns := ns) hn1 hn8 hv (by omega) (ds := ds) (S := S) (by omega) hr (x4 := some (.int (i : Int))) (x8 := none) (x9 := none) (x10 := x10) (x11 := x11) (x12 := x12) (x13 := x13) (x14 := x14)
      refine ⟨_, rfl, ?_⟩
      simp only [List.set_cons_succ, List.set_cons_zero, h, NxP_nx]
      exact ⟨ds', S', v', r', _, _, _, _, rfl, rfl, hv'.mono (by omega), fun _ => by omega, hr'⟩)
  rw [List.length_map, List.length_map, List.length_range] at hv hS
  have hS' := hS (by omega)
  obtain ⟨d6, ds6, p5, p6, t6⟩ := tk0 (st := [li ds5, ls S]) (c := 0) (ds := ds5) (n := 3) (by simp) (by omega)
  simp only [List.set_cons_zero] at t6
  obtain ⟨o, ds7, t7⟩ := dstep_wrong (st := [li ds6, ls S]) (c := 0) (ds := ds6) (w := v) (by simp) (by have := hv.few; omega)
  simp only [List.set_cons_zero] at t7
  have er1 : mRng1 (aCons (eC (.int 12)) aNil) [some (.slst (ns.map A.int)), some (.cell 0), some (.int n), some (lI w), none, none, none, none, none, none, none, none, none, none, none] [li ds2] = .ok (((List.range 12).map fun (j : Nat) => (j : Int)).map A.int, none) [li ds2] := rng1 (by omega) (by simp)
  have er2 : mRng1 (aCons (eCall M__law_take (aCons (eVar 1) (aCons (eC (.int 13)) aNil))) aNil) [some (.slst (ns.map A.int)), some (.cell 0), some (.int n), some (lI w), x4, some (.cell 1), some (lI w), some (.bl true), none, none, x10, x11, x12, x13, none] [li ds3, ls []] = .ok (((List.range d4.toNat).map fun (j : Nat) => (j : Int)).map A.int, none) [li ds4, ls []] := by
    refine rng1' (by omega) ?_
    simp only [sSeq_ap, sAsg_ap, sEx_ap, sRet_ap, sRetN_ap, sNil_ap, sIf_ap, sFor_ap, sSub_ap, sRaise_ap, mkWhat_ap, eVar_ap, eC_ap, eBin_ap, eUn_ap, eTup_ap, eLst_ap, eCB_ap, eCall_ap, eM_ap, eIf_ap, eAndV_ap, eOrV_ap, eNotV_ap, eChain_ap, eSl_ap, oNone_ap, oSome_ap, eXf_ap, aNil_ap, aCons_ap, tOf_ap, tTru_ap, tAndM_ap, tOrM_ap, tNotM_ap, tYesM_ap, asB_bl, truA_b, Res.bind_ok, Res.bind_exc, Res.toS_ok, Res.toS_exc, Res.of_some, SRes.bind_nx, SRes.bind_rt, SRes.bind_exc, SRes.bind_ct, SRes.bind_bk, gN_ap, List.getElem?_cons_zero, List.getElem?_cons_succ, List.set_cons_zero, List.set_cons_succ, one1_ap, two2_ap, newL_f, newL_t, addOp_ii, subOp_ii, negOp_i, ltOp_ii, leOp_ii, gtOp_ii, geOp_ii, eqOp_ii, neOp_ii, eqOp_ss, neOp_ss, intA_i, intA_b, maxA_ii, minA_ii, lenA_lst, lenA_tup, lenA_slst, listA_lst, listA_tup, listA_slst, tupleA_lst, tupleA_tup, List.length_map, List.length_cons, List.length_nil, Bool.not_true, Bool.not_false, Bool.false_eq_true, if_true, if_false, Nat.zero_add, Nat.reduceAdd, t4]
    rw [show ((d4.toNat : Nat) : Int) = d4 by omega]
  have fin : ∀ ds8 : List Int, B_law [some (.slst (ns.map A.int)), none, none, none, none, none, none, none, none, none, none, none, none, none, none] [] = .rt (.bl true) [li ds8, ls S] → ∃ st, M_law [.slst (ns.map A.int)] [] = .ok (.bl true) st := fun ds8 hb =>
    ⟨[], fnM_rt rfl hb (finA_pure (st := []) (l := [li ds8, ls S]) (by simp [A.bel]) (by intro c h; cases h))⟩
  have ens : [li ds3] ++ [C.lst []] = [li ds3, ls []] := rfl
  have lc := fun ds => @listA_cell [li ds, ls S] (S.map Stp.a) false 1 rfl
  have judge : ∀ ds o : List Int, M_judge_derivation [.int n, lI w, .lst (S.map Stp.a), lI o] [li ds, ls S] = .ok (.bl (r && decide (o = v))) [li ds, ls S] := fun ds o => by
    have h := @judge_sp n (by omega) [li ds, ls S] S 20 w o hw (by omega)
    rw [show run n w S = _ from hr] at h
    cases r
    · exact h
    · rw [h]
      show Res.ok (A.bl (decide (v = o))) _ = Res.ok (A.bl (true && decide (o = v))) _
      rw [Bool.true_and, decide_eq_decide.mpr (@eq_comm _ v o)]
  have ifE : ∀ (o : List Int) (st : Store), (if r = true then Res.of (eqOp (lI o) (lI v) st) else Res.ok (A.bl false) st) = Res.ok (.bl (r && decide (o = v))) st := fun o st => by
    cases r
    · rfl
    · rw [if_pos rfl, eqOp_lI]; rfl
  by_cases h6 : d6 = 0
  · refine fin ds7 ?_
    obtain ⟨q, f1, f3⟩ := @plain_b1 [li ds7, ls S] (r && decide (o = v))
    simp only [B_law, sSeq_ap, sAsg_ap, sEx_ap, sRet_ap, sRetN_ap, sNil_ap, sIf_ap, sFor_ap, sSub_ap, sRaise_ap, mkWhat_ap, eVar_ap, eC_ap, eBin_ap, eUn_ap, eTup_ap, eLst_ap, eCB_ap, eCall_ap, eM_ap, eIf_ap, eAndV_ap, eOrV_ap, eNotV_ap, eChain_ap, eSl_ap, oNone_ap, oSome_ap, eXf_ap, aNil_ap, aCons_ap, tOf_ap, tTru_ap, tAndM_ap, tOrM_ap, tNotM_ap, tYesM_ap, asB_bl, truA_b, Res.bind_ok, Res.bind_exc, Res.toS_ok, Res.toS_exc, Res.of_some, SRes.bind_nx, SRes.bind_rt, SRes.bind_exc, SRes.bind_ct, SRes.bind_bk, gN_ap, List.getElem?_cons_zero, List.getElem?_cons_succ, List.set_cons_zero, List.set_cons_succ, one1_ap, two2_ap, newL_f, newL_t, addOp_ii, subOp_ii, negOp_i, ltOp_ii, leOp_ii, gtOp_ii, geOp_ii, eqOp_ii, neOp_ii, eqOp_ss, neOp_ss, intA_i, intA_b, maxA_ii, minA_ii, lenA_lst, lenA_tup, lenA_slst, listA_lst, listA_tup, listA_slst, tupleA_lst, tupleA_tup, List.length_map, List.length_cons, List.length_nil, Bool.not_true, Bool.not_false, Bool.false_eq_true, if_true, if_false, Nat.zero_add, Nat.reduceAdd, hd, t1, hn, t2, er1, h1, l0, ens, List.length_singleton, er2, h2, t6, decide_eq_true h6, t7, lc, judge, l1', f1, ifE, f3]
  · refine fin ds6 ?_
    obtain ⟨q, f1, f3⟩ := @plain_b1 [li ds6, ls S] (r && decide True)
    simp only [B_law, sSeq_ap, sAsg_ap, sEx_ap, sRet_ap, sRetN_ap, sNil_ap, sIf_ap, sFor_ap, sSub_ap, sRaise_ap, mkWhat_ap, eVar_ap, eC_ap, eBin_ap, eUn_ap, eTup_ap, eLst_ap, eCB_ap, eCall_ap, eM_ap, eIf_ap, eAndV_ap, eOrV_ap, eNotV_ap, eChain_ap, eSl_ap, oNone_ap, oSome_ap, eXf_ap, aNil_ap, aCons_ap, tOf_ap, tTru_ap, tAndM_ap, tOrM_ap, tNotM_ap, tYesM_ap, asB_bl, truA_b, Res.bind_ok, Res.bind_exc, Res.toS_ok, Res.toS_exc, Res.of_some, SRes.bind_nx, SRes.bind_rt, SRes.bind_exc, SRes.bind_ct, SRes.bind_bk, gN_ap, List.getElem?_cons_zero, List.getElem?_cons_succ, List.set_cons_zero, List.set_cons_succ, one1_ap, two2_ap, newL_f, newL_t, addOp_ii, subOp_ii, negOp_i, ltOp_ii, leOp_ii, gtOp_ii, geOp_ii, eqOp_ii, neOp_ii, eqOp_ss, neOp_ss, intA_i, intA_b, maxA_ii, minA_ii, lenA_lst, lenA_tup, lenA_slst, listA_lst, listA_tup, listA_slst, tupleA_lst, tupleA_tup, List.length_map, List.length_cons, List.length_nil, Bool.not_true, Bool.not_false, Bool.false_eq_true, if_true, if_false, Nat.zero_add, Nat.reduceAdd, hd, t1, hn, t2, er1, h1, l0, ens, List.length_singleton, er2, h2, t6, decide_eq_false h6, t7, lc, judge, l1', f1, ifE, f3]
end Gk05

set_option Elab.async false
set_option linter.all false
set_option maxRecDepth 100000
set_option maxHeartbeats 0
namespace Gk05
open PySem PySem.Spec L2 SL
open PyProof.Rows hiding St
def d__law_deck : He.DefD := ⟨("_law_deck", none), "_law_deck", "_law_deck", defArgs s__law_deck, defBody s__law_deck, defScope s__law_deck, [], []⟩
def d__law_take : He.DefD := ⟨("_law_take", none), "_law_take", "_law_take", defArgs s__law_take, defBody s__law_take, defScope s__law_take, [], []⟩
def d__law_word : He.DefD := ⟨("_law_word", none), "_law_word", "_law_word", defArgs s__law_word, defBody s__law_word, defScope s__law_word, [], []⟩
def d__law_step : He.DefD := ⟨("_law_step", none), "_law_step", "_law_step", defArgs s__law_step, defBody s__law_step, defScope s__law_step, [], []⟩
def d__law_made : He.DefD := ⟨("_law_made", none), "_law_made", "_law_made", defArgs s__law_made, defBody s__law_made, defScope s__law_made, [], []⟩
def d_created : He.DefD := ⟨("created", none), "created", "created", defArgs s_created, defBody s_created, defScope s_created, [], []⟩
def d_replaced : He.DefD := ⟨("replaced", none), "replaced", "replaced", defArgs s_replaced, defBody s_replaced, defScope s_replaced, [], []⟩
def d_make_step : He.DefD := ⟨("make_step", none), "make_step", "make_step", defArgs s_make_step, defBody s_make_step, defScope s_make_step, [], []⟩
def d__law_told : He.DefD := ⟨("_law_told", none), "_law_told", "_law_told", defArgs s__law_told, defBody s__law_told, defScope s__law_told, [], []⟩
def d__law_plain : He.DefD := ⟨("_law_plain", none), "_law_plain", "_law_plain", defArgs s__law_plain, defBody s__law_plain, defScope s__law_plain, [], []⟩
def d__law_wrong_end : He.DefD := ⟨("_law_wrong_end", none), "_law_wrong_end", "_law_wrong_end", defArgs s__law_wrong_end, defBody s__law_wrong_end, defScope s__law_wrong_end, [], []⟩
def d_judge_derivation : He.DefD := ⟨("judge_derivation", none), "judge_derivation", "judge_derivation", defArgs s_judge_derivation, defBody s_judge_derivation, defScope s_judge_derivation, [], []⟩
def d_law : He.DefD := ⟨("law", none), "law", "law", defArgs s_law, defBody s_law, defScope s_law, [], []⟩
def d_IllegalMove : He.DefD := ⟨("IllegalMove", some "__init__"), "__init__", "IllegalMove.__init__", defArgs (meth s_IllegalMove 0), defBody (meth s_IllegalMove 0), defScope (meth s_IllegalMove 0), [], []⟩
def fnl : List He.DefD := [d__law_deck, d__law_take, d__law_word, d__law_step, d__law_made, d_created, d_replaced, d_make_step, d__law_told, d__law_plain, d__law_wrong_end, d_judge_derivation, d_law, d_IllegalMove]
def fbl : List Fb := [.oex "IllegalMove", .ini "IllegalMove", .kbase "KnotError", .xf "IllegalMove", .vals "SIZES" [("cancel", .int 2), ("swap", .int 2), ("turn", .int 3)]]
def tbl : List He.Tab := [(fun K => He.ga K "SIZES", ["cancel", "swap", "turn"])]
def fal : List He.Fa := [.free "abs", .free "bool", .free "int", .free "isinstance", .free "len", .free "list", .free "max", .free "min", .free "range", .free "str", .free "tuple", .glo "_law_deck", .glo "_law_take", .glo "_law_word", .glo "_law_step", .glo "_law_made", .glo "created", .glo "replaced", .glo "make_step", .glo "_law_told", .glo "_law_plain", .glo "_law_wrong_end", .glo "judge_derivation", .glo "law", .glo "KnotError", .glo "IllegalMove", .glo "SIZES", .noat "IllegalMove" "what", .exm "IllegalMove" "IllegalMove" true]
abbrev R : PySem.W.OpenRow := PySem.W.OpenLaw.row PySem.Challenge.rw_knotwork_k05_steps_of_words
abbrev hk : PySem.W.Hook := hookS 5 fal fnl tbl fbl
def ob (s : PySem.W.SharedT) : AlS := obsS 5 fal fnl tbl fbl (HandSHeadRun.getT s)
theorem ob_eq (s : PySem.W.SharedT) : ob s = hk.obs s.abs := obsS_eq (HandSHeadRun.getT_eq s)
def loose : List Str := ["created", "replaced", "make_step", "judge_derivation", "_law_deck", "_law_take", "_law_plain", "_law_word", "_law_step", "_law_made", "_law_told", "_law_wrong_end", "KnotError", "IllegalMove", "SIZES"]
theorem runH (w : World) : HandSHeadRun.RunEq R (PySem.W.view R.prog [18]) hk ob 4160 loose w :=
  PySem.W.byRow2 "special-get-raises" (P := fun w => HandSHeadRun.RunEq R (PySem.W.view R.prog [18]) hk ob 4160 loose w) (fun w => by
    intro os
    kernel_rfl) (fun w => by
    intro os
    kernel_rfl) w
theorem facts {P : Program} {w : World} {K : PySem.W.Frag} {h : Heap} {mg : Str → Option Value} {f : Addr} (X : K.In h) (G : h.Ns mainGlobals mg) (hfa : mg ("law" : Str) = some (.ref f)) (c : SaysS fal fnl tbl fbl w K) :
    ∃ fd : FuncData, (∀ (s : Shared) (v : Value), BindsTo s fd ⟨[v], []⟩ [("script", v)]) ∧ ∀ base : Heap, K.In base → base.Ns mainGlobals mg → FnOk P w K mg base CX0 7 f fd ["script"] (fun vs H Q _ => spM K 1 M_law vs H Q E0) := by
  have T : Txt w K mg := {
    b_abs := He.free_ok X G (c.fact 0 (f := .free "abs") rfl),
    b_bool := He.free_ok X G (c.fact 1 (f := .free "bool") rfl),
    b_int := He.free_ok X G (c.fact 2 (f := .free "int") rfl),
    b_isinstance := He.free_ok X G (c.fact 3 (f := .free "isinstance") rfl),
    b_len := He.free_ok X G (c.fact 4 (f := .free "len") rfl),
    b_list := He.free_ok X G (c.fact 5 (f := .free "list") rfl),
    b_max := He.free_ok X G (c.fact 6 (f := .free "max") rfl),
    b_min := He.free_ok X G (c.fact 7 (f := .free "min") rfl),
    b_range := He.free_ok X G (c.fact 8 (f := .free "range") rfl),
    b_str := He.free_ok X G (c.fact 9 (f := .free "str") rfl),
    b_tuple := He.free_ok X G (c.fact 10 (f := .free "tuple") rfl),
    g__law_deck := He.glo_ok X G (c.fact 11 (f := .glo "_law_deck") rfl),
    g__law_take := He.glo_ok X G (c.fact 12 (f := .glo "_law_take") rfl),
    g__law_word := He.glo_ok X G (c.fact 13 (f := .glo "_law_word") rfl),
    g__law_step := He.glo_ok X G (c.fact 14 (f := .glo "_law_step") rfl),
    g__law_made := He.glo_ok X G (c.fact 15 (f := .glo "_law_made") rfl),
    g_created := He.glo_ok X G (c.fact 16 (f := .glo "created") rfl),
    g_replaced := He.glo_ok X G (c.fact 17 (f := .glo "replaced") rfl),
    g_make_step := He.glo_ok X G (c.fact 18 (f := .glo "make_step") rfl),
    g__law_told := He.glo_ok X G (c.fact 19 (f := .glo "_law_told") rfl),
    g__law_plain := He.glo_ok X G (c.fact 20 (f := .glo "_law_plain") rfl),
    g__law_wrong_end := He.glo_ok X G (c.fact 21 (f := .glo "_law_wrong_end") rfl),
    g_judge_derivation := He.glo_ok X G (c.fact 22 (f := .glo "judge_derivation") rfl),
    g_law := He.glo_ok X G (c.fact 23 (f := .glo "law") rfl),
    g_KnotError := He.glo_ok X G (c.fact 24 (f := .glo "KnotError") rfl),
    g_IllegalMove := He.glo_ok X G (c.fact 25 (f := .glo "IllegalMove") rfl),
    g_SIZES := He.glo_ok X G (c.fact 26 (f := .glo "SIZES") rfl),
    xm_IllegalMove := by
      intro p hp
      simp only [List.mem_cons, List.not_mem_nil, or_false] at hp
      subst hp
      · exact He.exm_ok (c.fact 28 (f := .exm "IllegalMove" "IllegalMove" true) rfl),
    xf := by
      intro p hp
      simp only [List.mem_cons, List.not_mem_nil, or_false] at hp
      subst hp
      · exact ⟨xf_ok (c.fbs 3 (f := .xf "IllegalMove") rfl), He.noat_ok (c.fact 27 (f := .noat "IllegalMove" "what") rfl)⟩,
    wd_SIZES := (fun ⟨_, _, D⟩ => wdct_of D (vals_ok (c.fbs 4 rfl))) (c.t.tab 0 (t := (fun K => He.ga K "SIZES", _)) rfl)
  }
  obtain ⟨fd__law_deck, D__law_deck⟩ := c.def_ 0 (d := d__law_deck) rfl
  obtain ⟨fd__law_take, D__law_take⟩ := c.def_ 1 (d := d__law_take) rfl
  obtain ⟨fd__law_word, D__law_word⟩ := c.def_ 2 (d := d__law_word) rfl
  obtain ⟨fd__law_step, D__law_step⟩ := c.def_ 3 (d := d__law_step) rfl
  obtain ⟨fd__law_made, D__law_made⟩ := c.def_ 4 (d := d__law_made) rfl
  obtain ⟨fd_created, D_created⟩ := c.def_ 5 (d := d_created) rfl
  obtain ⟨fd_replaced, D_replaced⟩ := c.def_ 6 (d := d_replaced) rfl
  obtain ⟨fd_make_step, D_make_step⟩ := c.def_ 7 (d := d_make_step) rfl
  obtain ⟨fd__law_told, D__law_told⟩ := c.def_ 8 (d := d__law_told) rfl
  obtain ⟨fd__law_plain, D__law_plain⟩ := c.def_ 9 (d := d__law_plain) rfl
  obtain ⟨fd__law_wrong_end, D__law_wrong_end⟩ := c.def_ 10 (d := d__law_wrong_end) rfl
  obtain ⟨fd_judge_derivation, D_judge_derivation⟩ := c.def_ 11 (d := d_judge_derivation) rfl
  obtain ⟨fd_law, D_law⟩ := c.def_ 12 (d := d_law) rfl
  obtain ⟨fd_IllegalMove, D_IllegalMove⟩ := c.def_ 13 (d := d_IllegalMove) rfl
  have e := hfa.symm.trans T.g_law
  cases e
  have b := FunD.bindsA (ps := ["script"]) D_law fun _ _ _ _ _ _ us hl => match us, hl with | [_], _ => rfl
  refine ⟨fd_law, fun s v => b s [v] rfl, fun base _ _ => ?_⟩
  have X_IllegalMove : KExc P w K mg base (He.ga K "IllegalMove") := kexc_of (B := He.ga K "KnotError") (bn := "KnotError") (lit := "illegal move: ") D_IllegalMove ⟨rfl, rfl, rfl, by decide +kernel, rfl, by decide +kernel, by decide +kernel⟩ (D_IllegalMove.bindsN fun _ _ _ _ _ _ us hl => match us, hl with | [_, _], _ => rfl) (oex_ok (c.fbs 0 (f := .oex "IllegalMove") rfl)) (He.noat_ok (c.fact 27 (f := .noat "IllegalMove" "what") rfl)) (ini_ok (c.fbs 1 (f := .ini "IllegalMove") rfl)).1 (ini_ok (c.fbs 1 (f := .ini "IllegalMove") rfl)).2 (kbase_ok (c.fbs 2 (f := .kbase "KnotError") rfl)) T.g_KnotError rfl (.inl rfl) (.inl rfl) (by decide) (by decide)
  have F__law_deck := ok__law_deck (P := P) (w := w) (base := base) T  D__law_deck
  have F__law_take := ok__law_take (P := P) (w := w) (base := base) T  D__law_take
  have F__law_word := ok__law_word (P := P) (w := w) (base := base) T F__law_take D__law_word
  have F__law_step := ok__law_step (P := P) (w := w) (base := base) T F__law_take D__law_step
  have F__law_made := ok__law_made (P := P) (w := w) (base := base) T  D__law_made
  have F_created := ok_created (P := P) (w := w) (base := base) T X_IllegalMove D_created
  have F_replaced := ok_replaced (P := P) (w := w) (base := base) T  D_replaced
  have F_make_step := ok_make_step (P := P) (w := w) (base := base) T F_created F_replaced X_IllegalMove D_make_step
  have F__law_told := ok__law_told (P := P) (w := w) (base := base) T F_make_step D__law_told
  have F__law_plain := ok__law_plain (P := P) (w := w) (base := base) T  D__law_plain
  have F__law_wrong_end := ok__law_wrong_end (P := P) (w := w) (base := base) T F__law_take D__law_wrong_end
  have F_judge_derivation := ok_judge_derivation (P := P) (w := w) (base := base) T F_make_step D_judge_derivation
  exact ok_law T F__law_deck F__law_take F__law_word F__law_step F__law_made F__law_told F__law_plain F__law_wrong_end F_judge_derivation D_law
theorem holds_of (hlaw : ∀ ns : List Int, ns.length ≤ 63 → ∃ st, M_law [.slst (ns.map A.int)] [] = .ok (.bl true) st) : PySem.Challenge.rw_knotwork_k05_steps_of_words.Holds := by
  open PySem.W PySem.Calls in
  w_on; o_law
  refine HandSHeadRun.head_any (r := PySem.W.OpenLaw.row PySem.Challenge.rw_knotwork_k05_steps_of_words) (q := PySem.W.view (PySem.W.OpenLaw.row PySem.Challenge.rw_knotwork_k05_steps_of_words).prog [18]) (H := hk) (ob := ob) (M := 4160) (loose := loose) (d := HandSHeadRun.topDef (PySem.W.OpenLaw.row PySem.Challenge.rw_knotwork_k05_steps_of_words).prog 18) (kwd := []) ob_eq
    (by kernel_rfl) (fun s => by kernel_rfl) runH (by kernel_rfl) (by kernel_rfl) (by kernel_rfl) (by rfl) (by first | assumption | decide +kernel) (by decide +kernel) ⟨rfl, rfl, rfl, rfl, rfl, by decide +kernel⟩ ?hw ?hc
  case hw => w_witness2
  case hc =>
    refine L2.walk_ofE (l := PySem.Challenge.rw_knotwork_k05_steps_of_words) (n := 63) (k := 7) (x := "script") (CX := L2.CX0) rfl (by decide) (by kernel_rfl) ⟨rfl, by decide, by decide⟩ ?F (fun _ _ _ _ z => z)
    intro w mg fa h Y G hmg0
    obtain ⟨K, KX, c⟩ := Y
    have hmg : mg ("law" : PySem.Str) = some (.ref fa) := by
      have e : (HandSHeadRun.topDef (PySem.W.OpenLaw.row PySem.Challenge.rw_knotwork_k05_steps_of_words).prog 18).name = ("law" : PySem.Str) := by kernel_rfl
      rw [← e]
      exact hmg0
    obtain ⟨fd, hb, hF⟩ := facts (P := (PySem.Challenge.rw_knotwork_k05_steps_of_words).prog) (w := w) KX G hmg c
    exact ⟨K, fd, fun vs H Q _ => spM K 1 M_law vs H Q E0, KX, hb, fun H a ns hl _ hS => law_sp hS (hlaw ns hl), hF⟩
end Gk05


theorem PySem.Challenge.cw_knotwork_k05_steps_of_words_holds : PySem.Challenge.rw_knotwork_k05_steps_of_words.Holds := by
  exact Gk05.holds_of Gk05.hlaw
