import PyProof.Rows.All
import HandS.ForMost
import HandS.ForExc
import HandS.Defaults
import HandS.HeadHook1
import HandS.HeadHook2
import HandS.Flow
import HandS.Wide
import HandS.Style
import HandS.IsInst
import HandS.Conv
import HandS.HeadEnd
import HandS.Head0
import HandS.Head1
import HandS.Head2
import HandS.ExcInit
import HandS.TryOnly
import HandS.TryMany
import HandS.ExcField
import HandS.HeadHook3
import HandS.Gcd
import PySem.Challenge.RW_knotwork_k07_whole_free_images
import Wide.All
import OpenK.AllK
import Wide.FinOn
set_option Elab.async false
set_option linter.all false
set_option maxRecDepth 100000
set_option maxHeartbeats 4000000
/-! SLa: values with owned cells, their standing for the layer's heap, results. -/
namespace SL
open PySem PySem.Spec PyProof.Rows L2

/-- a value: data, or a cell of the store -/
inductive A where
  | non | bl (b : Bool) | int (i : Int) | str (s : Str) | ty (n : String) | glo (x : Str)
  | lst (xs : List A) | slst (xs : List A) | tup (xs : List A) | cell (n : Nat)
  | obj (c : Str) (ns : List Str) (vs : List A)
  | dct (ks : List Key) (vs : List A)
  | xcp (a : Nat) (d : Option Nat) (c : Str) (ns : List Str) (vs : List A)
  deriving Inhabited

mutual
inductive Rep (K : PySem.W.Frag) (F : Hp) (μ : List Addr) : A → V → Prop
  | non : Rep K F μ .non .non
  | bl (b : Bool) : Rep K F μ (.bl b) (.bl b)
  | int (i : Int) : Rep K F μ (.int i) (.int i)
  | str (s : Str) : Rep K F μ (.str s) (.str s)
  | ty (n : String) : Rep K F μ (.ty n) (.ty n)
  | glo (x : Str) : Rep K F μ (.glo x) (.ref (He.ga K x))
  | lst {xs : List A} {a : Addr} {vs : List V} : F a = some (.lst vs) → Reps K F μ xs vs → Rep K F μ (.lst xs) (.ref a)
  | slst {xs : List A} {a : Addr} {vs : List V} : SqL K F a vs → Reps K F μ xs vs → Rep K F μ (.slst xs) (.ref a)
  | tup {xs : List A} {a : Addr} {vs : List V} : SqT K F a vs → Reps K F μ xs vs → Rep K F μ (.tup xs) (.ref a)
  | cell {n : Nat} {a : Addr} : μ[n]? = some a → Rep K F μ (.cell n) (.ref a)
  | obj {c : Str} {ns : List Str} {xs : List A} {a dx : Addr} {fs : List (Str × V)} : F a = some (.ins (He.ga K c) dx fs) → F dx = some (.own a) →
      fs.map (·.1) = ns → Reps K F μ xs (fs.map (·.2)) → Rep K F μ (.obj c ns xs) (.ref a)
  | dct {ks : List Key} {xs : List A} {a : Addr} {kvs : List (Key × V)} : F a = some (.dK kvs) → kvs.map (·.1) = ks → Reps K F μ xs (kvs.map (·.2)) → Rep K F μ (.dct ks xs) (.ref a)
  | xcp0 {a : Addr} {c : Str} : Rep K F μ (.xcp a none c [] []) (.ref a)
  | xcpD {a dd : Addr} {c : Str} {ns : List Str} {xs : List A} {fs : List (Str × V)} : F dd = some (.xd fs) → fs.map (·.1) = ns → Reps K F μ xs (fs.map (·.2)) → Rep K F μ (.xcp a (some dd) c ns xs) (.ref a)
inductive Reps (K : PySem.W.Frag) (F : Hp) (μ : List Addr) : List A → List V → Prop
  | nil : Reps K F μ [] []
  | cons {a : A} {v : V} {as : List A} {vs : List V} : Rep K F μ a v → Reps K F μ as vs → Reps K F μ (a :: as) (v :: vs)
end

/-- the known grows -/
structure Ext (F F' : Hp) (μ μ' : List Addr) : Prop where
  f : ∀ a o, F a = some o → F' a = some o
  m : ∀ (n : Nat) (a : Addr), μ[n]? = some a → μ'[n]? = some a
theorem Ext.refl {F : Hp} {μ : List Addr} : Ext F F μ μ := ⟨fun _ _ h => h, fun _ _ h => h⟩
theorem Ext.trans {F F1 F2 : Hp} {μ μ1 μ2 : List Addr} (a : Ext F F1 μ μ1) (b : Ext F1 F2 μ1 μ2) : Ext F F2 μ μ2 := ⟨fun x o h => b.f x o (a.f x o h), fun x o h => b.m x o (a.m x o h)⟩

theorem Rd.mono {H H' : Hp} {a : Addr} {u : HO} (e : ∀ a o, H a = some o → H' a = some o) (h : Rd H a u) : Rd H' a u := by
  rcases h with h | ⟨o, h⟩
  · exact .inl (e _ _ h)
  · exact .inr ⟨o, e _ _ h⟩
theorem SqL.mono {K : PySem.W.Frag} {H H' : Hp} {a : Addr} {xs : List V} (e : ∀ a o, H a = some o → H' a = some o) (h : SqL K H a xs) : SqL K H' a xs := by
  rcases h with h | h
  · exact .inl (Rd.mono e h)
  · exact .inr h
theorem SqT.mono {K : PySem.W.Frag} {H H' : Hp} {a : Addr} {xs : List V} (e : ∀ a o, H a = some o → H' a = some o) (h : SqT K H a xs) : SqT K H' a xs := by
  rcases h with h | h
  · exact .inl (Rd.mono e h)
  · exact .inr h

section
variable {K : PySem.W.Frag} {F F' : Hp} {μ μ' : List Addr}
mutual
theorem Rep.mono (e : Ext F F' μ μ') : ∀ {a : A} {v : V}, Rep K F μ a v → Rep K F' μ' a v
  | _, _, .non => .non
  | _, _, .bl b => .bl b
  | _, _, .int i => .int i
  | _, _, .str s => .str s
  | _, _, .ty n => .ty n
  | _, _, .glo x => .glo x
  | _, _, .lst s r => .lst (e.f _ _ s) (Reps.mono e r)
  | _, _, .slst s r => .slst (SqL.mono e.f s) (Reps.mono e r)
  | _, _, .tup s r => .tup (SqT.mono e.f s) (Reps.mono e r)
  | _, _, .cell h => .cell (e.m _ _ h)
  | _, _, .obj h1 h2 h3 r => .obj (e.f _ _ h1) (e.f _ _ h2) h3 (Reps.mono e r)
  | _, _, .dct h1 h3 r => .dct (e.f _ _ h1) h3 (Reps.mono e r)
  | _, _, .xcp0 => .xcp0
  | _, _, .xcpD h1 h3 r => .xcpD (e.f _ _ h1) h3 (Reps.mono e r)
theorem Reps.mono (e : Ext F F' μ μ') : ∀ {as : List A} {vs : List V}, Reps K F μ as vs → Reps K F' μ' as vs
  | _, _, .nil => .nil
  | _, _, .cons h t => .cons (Rep.mono e h) (Reps.mono e t)
end
theorem Reps.length : ∀ {as : List A} {vs : List V}, Reps K F μ as vs → as.length = vs.length
  | _, _, .nil => rfl
  | _, _, .cons _ t => by rw [List.length_cons, List.length_cons, Reps.length t]
theorem Reps.get : ∀ {as : List A} {vs : List V} {i : Nat} {a : A}, Reps K F μ as vs → as[i]? = some a → ∃ v, vs[i]? = some v ∧ Rep K F μ a v
  | _, _, _, _, .nil, e => by simp at e
  | _, _, 0, _, .cons r _, e => by simp at e; subst e; exact ⟨_, rfl, r⟩
  | _, _, i + 1, a, .cons _ t, e => by
    obtain ⟨v, h1, h2⟩ := Reps.get (i := i) (a := a) t (by simpa using e)
    exact ⟨v, by simpa using h1, h2⟩
theorem Reps.getV : ∀ {as : List A} {vs : List V} {i : Nat} {v : V}, Reps K F μ as vs → vs[i]? = some v → ∃ a, as[i]? = some a ∧ Rep K F μ a v
  | _, _, _, _, .nil, e => by simp at e
  | _, _, 0, _, .cons r _, e => by simp at e; subst e; exact ⟨_, rfl, r⟩
  | _, _, i + 1, v, .cons _ t, e => by
    obtain ⟨a, h1, h2⟩ := Reps.getV (i := i) (v := v) t (by simpa using e)
    exact ⟨a, by simpa using h1, h2⟩
theorem Reps.append : ∀ {as bs : List A} {vs ws : List V}, Reps K F μ as vs → Reps K F μ bs ws → Reps K F μ (as ++ bs) (vs ++ ws)
  | _, _, _, _, .nil, s => s
  | _, _, _, _, .cons r t, s => .cons r (Reps.append t s)
theorem Reps.set {a : A} {v : V} (r : Rep K F μ a v) : ∀ {as : List A} {vs : List V} (i : Nat), Reps K F μ as vs → Reps K F μ (as.set i a) (vs.set i v)
  | _, _, _, .nil => .nil
  | _, _, 0, .cons _ t => .cons r t
  | _, _, i + 1, .cons q t => .cons q (Reps.set r i t)
theorem Reps.take : ∀ {as : List A} {vs : List V} (n : Nat), Reps K F μ as vs → Reps K F μ (as.take n) (vs.take n)
  | _, _, 0, _ => .nil
  | _, _, _ + 1, .nil => .nil
  | _, _, n + 1, .cons r t => .cons r (Reps.take n t)
theorem Reps.drop : ∀ {as : List A} {vs : List V} (n : Nat), Reps K F μ as vs → Reps K F μ (as.drop n) (vs.drop n)
  | _, _, 0, r => r
  | _, _, _ + 1, .nil => .nil
  | _, _, n + 1, .cons _ t => Reps.drop n t
theorem Reps.eraseIdx : ∀ {as : List A} {vs : List V} (n : Nat), Reps K F μ as vs → Reps K F μ (as.eraseIdx n) (vs.eraseIdx n)
  | _, _, _, .nil => .nil
  | _, _, 0, .cons _ t => t
  | _, _, n + 1, .cons r t => .cons r (Reps.eraseIdx n t)
theorem Reps.reverse : ∀ {as : List A} {vs : List V}, Reps K F μ as vs → Reps K F μ as.reverse vs.reverse
  | _, _, .nil => .nil
  | _, _, .cons r t => by rw [List.reverse_cons, List.reverse_cons]; exact Reps.append (Reps.reverse t) (.cons r .nil)
theorem Reps.dropLast {as : List A} {vs : List V} (r : Reps K F μ as vs) : Reps K F μ as.dropLast vs.dropLast := by
  rw [List.dropLast_eq_take, List.dropLast_eq_take, r.length]; exact r.take _
theorem Reps.rep {as : List A} {vs : List V} (r : Reps K F μ as vs) : ∀ k : Nat, Reps K F μ (List.replicate k as).flatten (List.replicate k vs).flatten
  | 0 => .nil
  | k + 1 => by
    rw [List.replicate_succ, List.replicate_succ, List.flatten_cons, List.flatten_cons]
    exact Reps.append r (Reps.rep r k)
theorem Reps.ints : ∀ (ns : List Int), Reps K F μ (ns.map A.int) (ns.map V.int)
  | [] => .nil
  | n :: ns => .cons (.int n) (Reps.ints ns)
theorem Reps.intsV : ∀ {ns : List Int} {vs : List V}, Reps K F μ (ns.map A.int) vs → vs = ns.map V.int
  | [], _, .nil => rfl
  | n :: ns, _, .cons r t => by cases r; rw [Reps.intsV t]; rfl
theorem Reps.one {a : A} {vs : List V} (r : Reps K F μ [a] vs) : ∃ v, vs = [v] ∧ Rep K F μ a v := by
  cases r with
  | cons r t => cases t; exact ⟨_, rfl, r⟩
theorem Reps.two {a b : A} {vs : List V} (r : Reps K F μ [a, b] vs) : ∃ v w, vs = [v, w] ∧ Rep K F μ a v ∧ Rep K F μ b w := by
  cases r with
  | cons r t =>
    obtain ⟨w, rfl, q⟩ := t.one
    exact ⟨_, _, rfl, r, q⟩
end

/-- what a cell holds -/
inductive C where
  | lst (xs : List A)
  | dct (ks : List Key) (vs : List A)
  | obj (c : Str) (ns : List Str) (vs : List A)
  | dead
  deriving Inhabited
abbrev Store := List C
def CRep (K : PySem.W.Frag) (F : Hp) (μ : List Addr) (H : Hp) : C → Addr → Prop
  | .lst xs, a => ∃ vs, H a = some (.lst vs) ∧ Reps K F μ xs vs
  | .dct ks xs, a => ∃ kvs : List (Key × V), H a = some (.dK kvs) ∧ kvs.map (·.1) = ks ∧ Reps K F μ xs (kvs.map (·.2))
  | .obj c ns xs, a => ∃ (dx : Addr) (fs : List (Str × V)), H a = some (.ins (He.ga K c) dx fs) ∧ H dx = some (.own a) ∧ fs.map (·.1) = ns ∧ Reps K F μ xs (fs.map (·.2))
  | .dead, _ => True
/-- what a live cell's object may be -/
def isCellO : HO → Bool
  | .lst _ => true
  | .dK _ => true
  | .ins _ _ _ => true
  | _ => false
theorem CRep.o {K : PySem.W.Frag} {F : Hp} {μ : List Addr} {H : Hp} {c : C} {a : Addr} (h : CRep K F μ H c a) (l : c ≠ .dead) : ∃ o, H a = some o ∧ isCellO o = true := by
  cases c with
  | lst xs => obtain ⟨_, h, _⟩ := h; exact ⟨_, h, rfl⟩
  | dct ks xs => obtain ⟨_, h, _⟩ := h; exact ⟨_, h, rfl⟩
  | obj c ns xs => obtain ⟨_, _, h, _⟩ := h; exact ⟨_, h, rfl⟩
  | dead => exact absurd rfl l
/-- the cells' places, apart from the known -/
structure Good (K : PySem.W.Frag) (Z F : Hp) (μ : List Addr) (st : Store) (H : Hp) : Prop where
  zub : ∀ a o, Z a = some o → H a = some o
  zf : ∀ a o, Z a = some o → F a = none
  zc : ∀ a o, Z a = some o → isCellO o = true
  sub : ∀ a o, F a = some o → H a = some o
  len : μ.length = st.length
  cell : ∀ (i : Nat) (c : C), st[i]? = some c → c ≠ .dead → ∃ a, μ[i]? = some a ∧ (F a = none ∧ Z a = none) ∧ CRep K F μ H c a
  inj : ∀ (i j : Nat) (a : Addr) (c d : C), st[i]? = some c → c ≠ .dead → st[j]? = some d → d ≠ .dead → μ[i]? = some a → μ[j]? = some a → i = j

section
variable {K : PySem.W.Frag} {Z F F' : Hp} {μ μ' : List Addr} {st : Store} {H H' : Hp} {p : Addr} {o : HO} {c : C}
theorem CRep.mono (h : CRep K F μ H c p) (e : Ext F F' μ μ') (k : ∀ a o, H a = some o → H' a = some o) : CRep K F' μ' H' c p := by
  cases c with
  | lst xs => obtain ⟨vs, h, r⟩ := h; exact ⟨vs, k _ _ h, r.mono e⟩
  | dct ks xs => obtain ⟨kvs, h, q, r⟩ := h; exact ⟨kvs, k _ _ h, q, r.mono e⟩
  | obj c ns xs => obtain ⟨dx, fs, h, h2, q, r⟩ := h; exact ⟨dx, fs, k _ _ h, k _ _ h2, q, r.mono e⟩
  | dead => trivial
theorem ext_push : Ext F F μ (μ ++ [p]) := ⟨fun _ _ h => h, fun n a h => by
  obtain ⟨hl, _⟩ := List.getElem?_eq_some_iff.mp h
  rw [List.getElem?_append_left hl]; exact h⟩
theorem sub_upd (h : H p = none) : ∀ a o', H a = some o' → upd H p o a = some o' := fun a o' e => by rw [upd_ne (ne_of_none e h)]; exact e
theorem Good.nof (g : Good K Z F μ st H) (h : H p = none) : F p = none := by
  cases e : F p with
  | none => rfl
  | some o => rw [g.sub _ _ e] at h; cases h
theorem Good.noz (g : Good K Z F μ st H) (h : H p = none) : Z p = none := by
  cases e : Z p with
  | none => rfl
  | some o => rw [g.zub _ _ e] at h; cases h
/-- a new known object -/
theorem Good.known (g : Good K Z F μ st H) (h : H p = none) : Good K Z (upd F p o) μ st (upd H p o) ∧ Ext F (upd F p o) μ μ := by
  have e : Ext F (upd F p o) μ μ := ⟨sub_upd (g.nof h), fun _ _ h => h⟩
  refine ⟨{ zub := fun a o' q => sub_upd h _ _ (g.zub _ _ q), zf := fun a o' q => ?_, zc := g.zc, sub := fun a o' q => ?_, len := g.len, cell := fun i c hi hc => ?_, inj := g.inj }, e⟩
  · rw [upd_ne (ne_of_none (g.zub _ _ q) h)]; exact g.zf _ _ q
  · by_cases ha : a = p
    · subst ha; rw [upd_same] at q ⊢; exact q
    · rw [upd_ne ha] at q ⊢; exact g.sub _ _ q
  · obtain ⟨a, h1, h2, h3⟩ := g.cell i c hi hc
    obtain ⟨o2, ho, _⟩ := h3.o hc
    refine ⟨a, h1, ⟨?_, h2.2⟩, h3.mono e (sub_upd h)⟩
    rw [upd_ne (ne_of_none ho h)]; exact h2.1
/-- a new cell -/
theorem Good.push (g : Good K Z F μ st H) (h : H p = none) (hc : CRep K F μ (upd H p o) c p) : Good K Z F (μ ++ [p]) (st ++ [c]) (upd H p o) ∧ Ext F F μ (μ ++ [p]) := by
  refine ⟨{ zub := fun a o' q => sub_upd h _ _ (g.zub _ _ q), zf := g.zf, zc := g.zc, sub := fun a o' q => sub_upd h _ _ (g.sub _ _ q), len := by rw [List.length_append, List.length_append, g.len]; rfl, cell := fun i d hi hd => ?_, inj := fun i j a d d' hi hd hj hd' ei ej => ?_ }, ext_push⟩
  · by_cases hl : i < st.length
    · rw [List.getElem?_append_left hl] at hi
      obtain ⟨a, h1, h2, h3⟩ := g.cell i d hi hd
      exact ⟨a, ext_push.m (F := F) (F' := F) i a h1, h2, h3.mono ext_push (sub_upd h)⟩
    · rw [List.getElem?_append_right (by omega)] at hi
      have e0 : i - st.length = 0 := by
        cases e : i - st.length with
        | zero => rfl
        | succ n => rw [e] at hi; simp at hi
      rw [e0] at hi
      simp at hi
      subst hi
      have ei : i = st.length := by omega
      subst ei
      refine ⟨p, ?_, ⟨g.nof h, g.noz h⟩, hc.mono ext_push fun _ _ q => q⟩
      rw [← g.len, List.getElem?_append_right (Nat.le_refl _), Nat.sub_self]; rfl
  · have key : ∀ (i : Nat) (d : C), (st ++ [c])[i]? = some d → d ≠ .dead → (μ ++ [p])[i]? = some a → (i < st.length ∧ st[i]? = some d ∧ μ[i]? = some a ∧ a ≠ p) ∨ (i = st.length ∧ a = p) := by
      intro i d hi hd ei
      by_cases hl : i < st.length
      · rw [List.getElem?_append_left hl] at hi
        rw [List.getElem?_append_left (by rw [g.len]; exact hl)] at ei
        obtain ⟨a', h1, _, h3⟩ := g.cell i d hi hd
        obtain ⟨o2, ho, _⟩ := h3.o hd
        rw [ei] at h1; cases h1
        exact .inl ⟨hl, hi, ei, ne_of_none ho h⟩
      · have hi' : i < (st ++ [c]).length := (List.getElem?_eq_some_iff.mp hi).1
        rw [List.length_append] at hi'
        have e : i = st.length := by simp at hi'; omega
        subst e
        rw [← g.len, List.getElem?_append_right (Nat.le_refl _), Nat.sub_self] at ei
        simp at ei
        exact .inr ⟨rfl, ei.symm⟩
    rcases key i d hi hd ei with ⟨l1, a1, b1, n1⟩ | ⟨l1, n1⟩ <;> rcases key j d' hj hd' ej with ⟨l2, a2, b2, n2⟩ | ⟨l2, n2⟩
    · exact g.inj i j a d d' a1 hd a2 hd' b1 b2
    · exact absurd n2 n1
    · exact absurd n1 n2
    · omega
theorem get_set {α : Type} {l : List α} {i j : Nat} {x y : α} (h : (l.set i x)[j]? = some y) : (j = i ∧ y = x) ∨ (j ≠ i ∧ l[j]? = some y) := by
  by_cases e : j = i
  · subst e
    have hl : j < (l.set j x).length := (List.getElem?_eq_some_iff.mp h).1
    rw [List.length_set] at hl
    rw [List.getElem?_set_self hl] at h
    exact .inl ⟨rfl, (Option.some.inj h).symm⟩
  · rw [List.getElem?_set_ne (fun q => e q.symm)] at h
    exact .inr ⟨e, h⟩
/-- a cell is written -/
theorem Good.write {i : Nat} {d : C} (g : Good K Z F μ st H) (hi : st[i]? = some d) (hd : d ≠ .dead) (ha : μ[i]? = some p) (hc : CRep K F μ (upd H p o) c p) : Good K Z F μ (st.set i c) (upd H p o) := by
  obtain ⟨p', e1, ⟨hF, hZ⟩, hr⟩ := g.cell i d hi hd
  rw [ha] at e1; cases e1
  obtain ⟨o2, ho, hco⟩ := hr.o hd
  refine { zub := fun a o' q => ?_, zf := g.zf, zc := g.zc, sub := fun a o' q => ?_, len := by rw [List.length_set]; exact g.len, cell := fun j c' hj hc' => ?_, inj := fun j k a c1 c2 h1 n1 h2 n2 m1 m2 => ?_ }
  · rw [upd_ne]
    · exact g.zub _ _ q
    · intro e; subst e; rw [hZ] at q; cases q
  · rw [upd_ne]
    · exact g.sub _ _ q
    · intro e; subst e; rw [hF] at q; cases q
  · rcases get_set hj with ⟨rfl, rfl⟩ | ⟨hji, hj'⟩
    · exact ⟨p, ha, ⟨hF, hZ⟩, hc⟩
    · obtain ⟨a, h1, h2, h3⟩ := g.cell j c' hj' hc'
      have hap : a ≠ p := fun e => hji (g.inj j i a c' d hj' hc' hi hd h1 (e ▸ ha))
      refine ⟨a, h1, h2, ?_⟩
      cases c' with
      | lst xs => obtain ⟨vs, h, r⟩ := h3; exact ⟨vs, by rw [upd_ne hap]; exact h, r⟩
      | dct ks xs => obtain ⟨kvs, h, q, r⟩ := h3; exact ⟨kvs, by rw [upd_ne hap]; exact h, q, r⟩
      | obj c ns xs =>
        obtain ⟨dx, fs, h, h2, q, r⟩ := h3
        refine ⟨dx, fs, by rw [upd_ne hap]; exact h, ?_, q, r⟩
        rw [upd_ne]
        · exact h2
        · intro e; subst e; rw [ho] at h2; cases h2; cases hco
      | dead => trivial
  · have live : ∀ (j : Nat) (c1 : C), (st.set i c)[j]? = some c1 → c1 ≠ .dead → ∃ c', st[j]? = some c' ∧ c' ≠ .dead := by
      intro j c1 h1 n1
      rcases get_set h1 with ⟨rfl, _⟩ | ⟨_, h⟩
      · exact ⟨d, hi, hd⟩
      · exact ⟨c1, h, n1⟩
    obtain ⟨x1, y1, z1⟩ := live j c1 h1 n1
    obtain ⟨x2, y2, z2⟩ := live k c2 h2 n2
    exact g.inj j k a x1 x2 y1 z1 y2 z2 m1 m2
theorem Good.kill {i : Nat} (g : Good K Z F μ st H) : Good K Z F μ (st.set i .dead) H := by
  refine { zub := g.zub, zf := g.zf, zc := g.zc, sub := g.sub, len := by rw [List.length_set]; exact g.len, cell := fun j c' hj hc' => ?_, inj := fun j k a c1 c2 h1 n1 h2 n2 m1 m2 => ?_ }
  · rcases get_set hj with ⟨rfl, rfl⟩ | ⟨_, h⟩
    · exact absurd rfl hc'
    · exact g.cell j c' h hc'
  · rcases get_set h1 with ⟨rfl, rfl⟩ | ⟨_, h1⟩
    · exact absurd rfl n1
    · rcases get_set h2 with ⟨rfl, rfl⟩ | ⟨_, h2⟩
      · exact absurd rfl n2
      · exact g.inj j k a c1 c2 h1 n1 h2 n2 m1 m2
/-- a cell's object becomes known -/
theorem Good.know {i : Nat} {d : C} (g : Good K Z F μ st H) (hi : st[i]? = some d) (hd : d ≠ .dead) (ha : μ[i]? = some p) (ho : H p = some o) :
    Good K Z (upd F p o) μ (st.set i .dead) H ∧ Ext F (upd F p o) μ μ := by
  obtain ⟨p', e1, ⟨hF, hZ⟩, _⟩ := g.cell i d hi hd
  rw [ha] at e1; cases e1
  have e : Ext F (upd F p o) μ μ := ⟨sub_upd hF, fun _ _ h => h⟩
  have gk := g.kill (i := i)
  refine ⟨{ zub := g.zub, zf := fun a o' q => ?_, zc := g.zc, sub := fun a o' q => ?_, len := gk.len, cell := fun j c' hj hc' => ?_, inj := gk.inj }, e⟩
  · rw [upd_ne (ne_of_none q hZ)]; exact g.zf _ _ q
  · by_cases hap : a = p
    · subst hap; rw [upd_same] at q; cases q; exact ho
    · rw [upd_ne hap] at q; exact g.sub _ _ q
  · rcases get_set hj with ⟨rfl, rfl⟩ | ⟨hji, hj'⟩
    · exact absurd rfl hc'
    · obtain ⟨a, h1, h2, h3⟩ := g.cell j c' hj' hc'
      have hap : a ≠ p := fun e => hji (g.inj j i a c' d hj' hc' hi hd h1 (e ▸ ha))
      exact ⟨a, h1, ⟨by rw [upd_ne hap]; exact h2.1, h2.2⟩, h3.mono e fun _ _ q => q⟩
/-- more known of objects that are no cells' -/
theorem Good.knowO {q : Addr} {u : HO} (g : Good K Z F μ st H) (hq : H q = some u) (hu : isCellO u = false) (hz : Z q = none) (hn : F q = none ∨ F q = some u) : Good K Z (upd F q u) μ st H ∧ Ext F (upd F q u) μ μ := by
  have e : Ext F (upd F q u) μ μ := ⟨fun a o h => by
    by_cases ha : a = q
    · subst ha
      rcases hn with hn | hn
      · rw [hn] at h; cases h
      · rw [hn] at h; cases h; exact upd_same
    · rw [upd_ne ha]; exact h, fun _ _ h => h⟩
  refine ⟨{ zub := g.zub, zf := fun a o' x => ?_, zc := g.zc, sub := fun a o' h => ?_, len := g.len, cell := fun j c' hj hc' => ?_, inj := g.inj }, e⟩
  · rw [upd_ne (ne_of_none x hz)]; exact g.zf _ _ x
  · by_cases hap : a = q
    · subst hap; rw [upd_same] at h; cases h; exact hq
    · rw [upd_ne hap] at h; exact g.sub _ _ h
  · obtain ⟨a, h1, h2, h3⟩ := g.cell j c' hj hc'
    obtain ⟨o2, ho2, hco⟩ := h3.o hc'
    have : a ≠ q := by intro e; subst e; rw [ho2] at hq; cases hq; rw [hu] at hco; cases hco
    exact ⟨a, h1, ⟨by rw [upd_ne this]; exact h2.1, h2.2⟩, h3.mono e fun _ _ q => q⟩
/-! what stands apart: Z -/
/-- a new object that nobody's value names -/
theorem Good.apart (g : Good K Z F μ st H) (h : H p = none) (ho : isCellO o = true) : Good K (upd Z p o) F μ st (upd H p o) := by
  refine { zub := fun a o' q => ?_, zf := fun a o' q => ?_, zc := fun a o' q => by { by_cases ha : a = p; · { subst ha; rw [upd_same] at q; cases q; exact ho }; · { rw [upd_ne ha] at q; exact g.zc _ _ q } }, sub := fun a o' q => sub_upd h _ _ (g.sub _ _ q), len := g.len, cell := fun i c hi hc => ?_, inj := g.inj }
  · by_cases ha : a = p
    · subst ha; rw [upd_same] at q ⊢; exact q
    · rw [upd_ne ha] at q ⊢; exact g.zub _ _ q
  · by_cases ha : a = p
    · subst ha; exact g.nof h
    · rw [upd_ne ha] at q; exact g.zf _ _ q
  · obtain ⟨a, h1, h2, h3⟩ := g.cell i c hi hc
    obtain ⟨o2, ho, _⟩ := h3.o hc
    exact ⟨a, h1, ⟨h2.1, by rw [upd_ne (ne_of_none ho h)]; exact h2.2⟩, h3.mono Ext.refl (sub_upd h)⟩
/-- it is written -/
theorem Good.zset {u : HO} (g : Good K (upd Z p o) F μ st H) (hz : isCellO o = true) (hu : isCellO u = true) : Good K (upd Z p u) F μ st (upd H p u) := by
  have hp : H p = some o := g.zub _ _ upd_same
  refine { zub := fun a o' q => ?_, zf := fun a o' q => ?_, zc := fun a o' q => by { by_cases ha : a = p; · { subst ha; rw [upd_same] at q; cases q; exact hu }; · { rw [upd_ne ha] at q; exact g.zc _ _ (by rw [upd_ne ha]; exact q) } }, sub := fun a o' q => ?_, len := g.len, cell := fun i c hi hc => ?_, inj := g.inj }
  · by_cases ha : a = p
    · subst ha; rw [upd_same] at q ⊢; exact q
    · rw [upd_ne ha] at q ⊢; exact g.zub _ _ (by rw [upd_ne ha]; exact q)
  · by_cases ha : a = p
    · subst ha; exact g.zf _ _ upd_same
    · rw [upd_ne ha] at q; exact g.zf _ _ (by rw [upd_ne ha]; exact q)
  · have ha : a ≠ p := by intro e; subst e; rw [g.zf _ _ upd_same] at q; cases q
    rw [upd_ne ha]; exact g.sub _ _ q
  · obtain ⟨a, h1, h2, h3⟩ := g.cell i c hi hc
    have ha : a ≠ p := by intro e; subst e; rw [upd_same] at h2; cases h2.2
    refine ⟨a, h1, ⟨h2.1, by have := h2.2; rw [upd_ne ha] at this ⊢; exact this⟩, ?_⟩
    cases c with
    | lst xs => obtain ⟨vs, h, r⟩ := h3; exact ⟨vs, by rw [upd_ne ha]; exact h, r⟩
    | dct ks xs => obtain ⟨kvs, h, q, r⟩ := h3; exact ⟨kvs, by rw [upd_ne ha]; exact h, q, r⟩
    | obj c ns xs =>
      obtain ⟨dx, fs, h, h4, q, r⟩ := h3
      refine ⟨dx, fs, by rw [upd_ne ha]; exact h, ?_, q, r⟩
      rw [upd_ne]
      · exact h4
      · intro e; subst e; rw [hp] at h4; cases h4; cases hz
    | dead => trivial
/-- it becomes known -/
theorem Good.zknown (g : Good K (upd Z p o) F μ st H) (hz : Z p = none) : Good K Z (upd F p o) μ st H ∧ Ext F (upd F p o) μ μ := by
  have hp : H p = some o := g.zub _ _ upd_same
  have hF : F p = none := g.zf _ _ upd_same
  have e : Ext F (upd F p o) μ μ := ⟨sub_upd hF, fun _ _ h => h⟩
  refine ⟨{ zub := fun a o' q => g.zub _ _ (sub_upd hz _ _ q), zf := fun a o' q => ?_, zc := fun a o' q => g.zc _ _ (sub_upd hz _ _ q), sub := fun a o' q => ?_, len := g.len, cell := fun i c hi hc => ?_, inj := g.inj }, e⟩
  · rw [upd_ne (ne_of_none q hz)]; exact g.zf _ _ (sub_upd hz _ _ q)
  · by_cases ha : a = p
    · subst ha; rw [upd_same] at q; cases q; exact hp
    · rw [upd_ne ha] at q; exact g.sub _ _ q
  · obtain ⟨a, h1, h2, h3⟩ := g.cell i c hi hc
    have ha : a ≠ p := by intro e; subst e; rw [upd_same] at h2; cases h2.2
    exact ⟨a, h1, ⟨by rw [upd_ne ha]; exact h2.1, by have := h2.2; rw [upd_ne ha] at this; exact this⟩, h3.mono e fun _ _ q => q⟩
/-- it becomes a cell -/
theorem Good.zpush (g : Good K (upd Z p o) F μ st H) (hz : Z p = none) (hc : CRep K F μ H c p) : Good K Z F (μ ++ [p]) (st ++ [c]) H ∧ Ext F F μ (μ ++ [p]) := by
  have hF : F p = none := g.zf _ _ upd_same
  refine ⟨{ zub := fun a o' q => g.zub _ _ (sub_upd hz _ _ q), zf := fun a o' q => g.zf _ _ (sub_upd hz _ _ q), zc := fun a o' q => g.zc _ _ (sub_upd hz _ _ q), sub := g.sub, len := by rw [List.length_append, List.length_append, g.len]; rfl, cell := fun i d hi hd => ?_, inj := fun i j a d d' hi hd hj hd' ei ej => ?_ }, ext_push⟩
  · by_cases hl : i < st.length
    · rw [List.getElem?_append_left hl] at hi
      obtain ⟨a, h1, h2, h3⟩ := g.cell i d hi hd
      have ha : a ≠ p := by intro e; subst e; rw [upd_same] at h2; cases h2.2
      exact ⟨a, ext_push.m (F := F) (F' := F) i a h1, ⟨h2.1, by have := h2.2; rw [upd_ne ha] at this; exact this⟩, h3.mono ext_push fun _ _ q => q⟩
    · have hi' : i < (st ++ [c]).length := (List.getElem?_eq_some_iff.mp hi).1
      rw [List.length_append] at hi'
      have e : i = st.length := by simp at hi'; omega
      subst e
      rw [List.getElem?_append_right (Nat.le_refl _), Nat.sub_self] at hi
      simp at hi
      subst hi
      refine ⟨p, ?_, ⟨hF, hz⟩, hc.mono ext_push fun _ _ q => q⟩
      rw [← g.len, List.getElem?_append_right (Nat.le_refl _), Nat.sub_self]; rfl
  · have key : ∀ (i : Nat) (d : C), (st ++ [c])[i]? = some d → d ≠ .dead → (μ ++ [p])[i]? = some a → (i < st.length ∧ st[i]? = some d ∧ μ[i]? = some a ∧ a ≠ p) ∨ (i = st.length ∧ a = p) := by
      intro i d hi hd ei
      by_cases hl : i < st.length
      · rw [List.getElem?_append_left hl] at hi
        rw [List.getElem?_append_left (by rw [g.len]; exact hl)] at ei
        obtain ⟨a', h1, h2, h3⟩ := g.cell i d hi hd
        rw [ei] at h1; cases h1
        exact .inl ⟨hl, hi, ei, by intro e; subst e; rw [upd_same] at h2; cases h2.2⟩
      · have hi' : i < (st ++ [c]).length := (List.getElem?_eq_some_iff.mp hi).1
        rw [List.length_append] at hi'
        have e : i = st.length := by simp at hi'; omega
        subst e
        rw [← g.len, List.getElem?_append_right (Nat.le_refl _), Nat.sub_self] at ei
        simp at ei
        exact .inr ⟨rfl, ei.symm⟩
    rcases key i d hi hd ei with ⟨l1, a1, b1, n1⟩ | ⟨l1, n1⟩ <;> rcases key j d' hj hd' ej with ⟨l2, a2, b2, n2⟩ | ⟨l2, n2⟩
    · exact g.inj i j a d d' a1 hd a2 hd' b1 b2
    · exact absurd n2 n1
    · exact absurd n1 n2
    · omega
end

/-! ### results -/
/-- an exception: its class, what its own dict holds -/
structure Exc where
  c : Str
  ns : List Str
  vs : List A
inductive Res (α : Type) where
  | ok (a : α) (st : Store)
  | exc (e : Exc) (st : Store)
  | stuck
def Res.bind {α β : Type} (r : Res α) (f : α → Store → Res β) : Res β := match r with
  | .ok a st => f a st
  | .exc e st => .exc e st
  | .stuck => .stuck
def Res.post {α : Type} (r : Res α) (P : α → Store → Prop) (E : Exc → Store → Prop) : Prop := match r with
  | .ok a st => P a st
  | .exc e st => E e st
  | .stuck => False
@[simp] theorem Res.bind_ok {α β : Type} {a : α} {st : Store} {f : α → Store → Res β} : (Res.ok a st).bind f = f a st := (rfl)
@[simp] theorem Res.bind_exc {α β : Type} {e : Exc} {st : Store} {f : α → Store → Res β} : (Res.exc e st : Res α).bind f = .exc e st := (rfl)
@[simp] theorem Res.bind_stuck {α β : Type} {f : α → Store → Res β} : (Res.stuck : Res α).bind f = .stuck := (rfl)
theorem Res.post_bind {α β : Type} {r : Res α} {f : α → Store → Res β} {P : β → Store → Prop} {E : Exc → Store → Prop} : (r.bind f).post P E ↔ r.post (fun a st => (f a st).post P E) E := by
  cases r <;> exact Iff.rfl
theorem Res.post_mono {α : Type} {r : Res α} {P P' : α → Store → Prop} {E E' : Exc → Store → Prop} (h : r.post P E) (hP : ∀ a st, P a st → P' a st) (hE : ∀ e st, E e st → E' e st) : r.post P' E' := by
  cases r with
  | ok a st => exact hP _ _ h
  | exc e st => exact hE _ _ h
  | stuck => exact h
/-- a step that may be stuck, and raises nothing -/
def Res.of {α : Type} : Option (α × Store) → Res α
  | some (a, st) => .ok a st
  | none => .stuck
@[simp] theorem Res.of_some {α : Type} {p : α × Store} : Res.of (some p) = .ok p.1 p.2 := (rfl)
@[simp] theorem Res.of_none {α : Type} : (Res.of none : Res α) = .stuck := (rfl)
theorem Res.post_of {α : Type} {x : Option (α × Store)} {P : α → Store → Prop} {E : Exc → Store → Prop} (h : (Res.of x).post P E) : ∃ a st, x = some (a, st) ∧ P a st := by
  cases x with
  | none => exact h.elim
  | some p => exact ⟨p.1, p.2, rfl, h⟩
inductive SRes where
  | nx (env : List (Option A)) (st : Store)
  | rt (a : A) (st : Store)
  | bk (env : List (Option A)) (st : Store)
  | ct (env : List (Option A)) (st : Store)
  | exc (e : Exc) (env : List (Option A)) (st : Store)
  | stuck
abbrev AEnv := List (Option A)
structure SPost where
  nx : AEnv → Store → Prop
  rt : A → Store → Prop
  bk : AEnv → Store → Prop
  ct : AEnv → Store → Prop
  ex : Exc → AEnv → Store → Prop
def SRes.post (r : SRes) (P : SPost) : Prop := match r with
  | .nx env st => P.nx env st
  | .rt a st => P.rt a st
  | .bk env st => P.bk env st
  | .ct env st => P.ct env st
  | .exc e env st => P.ex e env st
  | .stuck => False
theorem SRes.post_mono {r : SRes} {P P' : SPost} (h : r.post P) (h1 : ∀ e s, P.nx e s → P'.nx e s) (h2 : ∀ a s, P.rt a s → P'.rt a s) (h3 : ∀ e s, P.bk e s → P'.bk e s) (h4 : ∀ e s, P.ct e s → P'.ct e s)
    (h5 : ∀ x e s, P.ex x e s → P'.ex x e s) : r.post P' := by
  cases r with
  | nx e s => exact h1 _ _ h
  | rt a s => exact h2 _ _ h
  | bk e s => exact h3 _ _ h
  | ct e s => exact h4 _ _ h
  | exc x e s => exact h5 _ _ _ h
  | stuck => exact h
/-- an expression's value goes on into a statement's end -/
def Res.toS {α : Type} (r : Res α) (env : AEnv) (f : α → Store → SRes) : SRes := match r with
  | .ok a st => f a st
  | .exc e st => .exc e env st
  | .stuck => .stuck
@[simp] theorem Res.toS_ok {α : Type} {a : α} {st : Store} {env : AEnv} {f : α → Store → SRes} : (Res.ok a st).toS env f = f a st := (rfl)
@[simp] theorem Res.toS_exc {α : Type} {e : Exc} {st : Store} {env : AEnv} {f : α → Store → SRes} : (Res.exc e st : Res α).toS env f = .exc e env st := (rfl)
@[simp] theorem Res.toS_stuck {α : Type} {env : AEnv} {f : α → Store → SRes} : (Res.stuck : Res α).toS env f = .stuck := (rfl)
theorem Res.post_toS {α : Type} {r : Res α} {env : AEnv} {f : α → Store → SRes} {P : SPost} : (r.toS env f).post P ↔ r.post (fun a st => (f a st).post P) (fun e st => P.ex e env st) := by
  cases r <;> exact Iff.rfl
/-- one statement, then more -/
def SRes.bind (r : SRes) (f : AEnv → Store → SRes) : SRes := match r with
  | .nx env st => f env st
  | r => r
@[simp] theorem SRes.bind_nx {e : AEnv} {s : Store} {f : AEnv → Store → SRes} : (SRes.nx e s).bind f = f e s := (rfl)
@[simp] theorem SRes.bind_rt {a : A} {s : Store} {f : AEnv → Store → SRes} : (SRes.rt a s).bind f = .rt a s := (rfl)
@[simp] theorem SRes.bind_bk {e : AEnv} {s : Store} {f : AEnv → Store → SRes} : (SRes.bk e s).bind f = .bk e s := (rfl)
@[simp] theorem SRes.bind_ct {e : AEnv} {s : Store} {f : AEnv → Store → SRes} : (SRes.ct e s).bind f = .ct e s := (rfl)
@[simp] theorem SRes.bind_exc {x : Exc} {e : AEnv} {s : Store} {f : AEnv → Store → SRes} : (SRes.exc x e s).bind f = .exc x e s := (rfl)
@[simp] theorem SRes.bind_stuck {f : AEnv → Store → SRes} : (SRes.stuck).bind f = .stuck := (rfl)
theorem SRes.post_bind {r : SRes} {f : AEnv → Store → SRes} {P : SPost} : (r.bind f).post P ↔ r.post { P with nx := fun e s => (f e s).post P } := by
  cases r <;> exact Iff.rfl
end SL

set_option Elab.async false
set_option linter.all false
set_option maxRecDepth 100000
set_option maxHeartbeats 4000000
/-! SLb: what a reading does, by a plain function of the values; expressions. -/
namespace SL
open PySem PySem.Spec L2
open PyProof.Rows hiding St
abbrev Rel (α β : Type) := PySem.W.Frag → Hp → List Addr → α → β → Prop
def Kont {α β : Type} (K : PySem.W.Frag) (Z : Hp) (R : Rel α β) (F : Hp) (μ : List Addr) (Q : β → Hp → Prop) : α → Store → Prop :=
  fun a st' => ∀ F' μ' H' b, Ext F F' μ μ' → Good K Z F' μ' st' H' → R K F' μ' a b → Q b H'
def RepB : Rel Bool Bool := fun _ _ _ a b => a = b
/-- how an exception lies -/
def XRep (K : PySem.W.Frag) (F : Hp) (μ : List Addr) (e : Exc) (d : Option Addr) : Prop :=
  (d = none ∧ e.ns = [] ∧ e.vs = []) ∨ ∃ (dd : Addr) (fs : List (Str × V)), d = some dd ∧ F dd = some (.xd fs) ∧ fs.map (·.1) = e.ns ∧ Reps K F μ e.vs (fs.map (·.2))
def KX (K : PySem.W.Frag) (Z F : Hp) (μ : List Addr) (σ : St) (W : WX) : Exc → Store → Prop :=
  fun e st' => ∀ F' μ' H' d, Ext F F' μ μ' → Good K Z F' μ' st' H' → XRep K F' μ' e d → W (.ref (He.ga K e.c)) d σ H'
structure REnv (K : PySem.W.Frag) (F : Hp) (μ : List Addr) (env : AEnv) (σ : St) : Prop where
  len : env.length = σ.length
  at_ : ∀ (i : Nat) (a : A), env[i]? = some (some a) → ∃ v, σ[i]? = some (some v) ∧ Rep K F μ a v
def Sim {α β : Type} (K : PySem.W.Frag) (R : Rel α β) (W : WX) (t : St → Hp → (β → Hp → Prop) → Prop) (m : AEnv → Store → Res α) : Prop :=
  ∀ (Z F : Hp) (μ : List Addr) (st : Store) (env : AEnv) (σ : St) (H : Hp) (Q : β → Hp → Prop), Good K Z F μ st H → REnv K F μ env σ → (m env st).post (Kont K Z R F μ Q) (KX K Z F μ σ W) → t σ H Q
/-- what stands still in a def (or a comprehension's block): its text, its names, the room for calls -/
structure G where
  P : Program
  w : World
  K : PySem.W.Frag
  mg : Str → Option Value
  base : Heap
  N : List Str
  sc : Scope
  k : Nat
  calm : Bool
  st : Bool
  hx : Option (Addr × Str × Option Addr)
structure CtxOk (Γ : G) (X : Cx) : Prop where
  prog : X.prog = Γ.P
  w : X.w = Γ.w
  K : X.K = Γ.K
  mg : X.mg = Γ.mg
  base : X.base = Γ.base
  N : X.N = Γ.N
  sc : X.env.scope = Γ.sc
  calm : Γ.calm = true → X.calm = true
  room : Γ.calm = true → Room Γ.k X.A
  units : X.A.units + 64 < cLine
  stk : Γ.st = true → X.stack = X.env :: X.outer ∧ X.env.frame = some X.env.locals
  hx : ∀ a c d, Γ.hx = some (a, c, d) → ∃ (X' : Cx) (oe : Obj) (pn : List (Addr × Obj)), X = X'.suite a ((a, oe) :: pn) ∧ Zc (.ref (He.ga Γ.K c)) d oe ∧ ∃ vs, oe.data = .fields vs
  nd : X.N.Nodup
  own : PassesOwn (model X.prog X.w) X.A X.env X.xe
structure SE (Γ : G) (e : Expr) (m : AEnv → Store → Res A) : Prop where
  run : ∀ W : WX, ∃ t : TE, Sim Γ.K Rep W t m ∧ ∀ X, CtxOk Γ X → Takes X W → PE X e t
structure ST (Γ : G) (e : Expr) (m : AEnv → Store → Res Bool) : Prop where
  run : ∀ W : WX, ∃ t : TT, Sim Γ.K RepB W t m ∧ ∀ X, CtxOk Γ X → Takes X W → PT X e t
structure SWt (Γ : G) (e : Expr) (m : AEnv → Store → Res Bool) : Prop where
  run : ∀ W : WX, ∃ t : TT, Sim Γ.K RepB W t m ∧ ∀ X, CtxOk Γ X → Takes X W → PW X e t
structure SA (Γ : G) (es : List Expr) (m : AEnv → Store → Res (List A)) : Prop where
  run : ∀ W : WX, ∃ t : TA, Sim Γ.K Reps W t m ∧ ∀ X, CtxOk Γ X → Takes X W → PA X es t

section
variable {K : PySem.W.Frag} {Z F F' : Hp} {μ μ' : List Addr} {σ : St} {W : WX}
theorem REnv.mono {env : AEnv} (r : REnv K F μ env σ) (e : Ext F F' μ μ') : REnv K F' μ' env σ := ⟨r.len, fun i a h => by
  obtain ⟨v, h1, h2⟩ := r.at_ i a h
  exact ⟨v, h1, h2.mono e⟩⟩
theorem REnv.set {env : AEnv} {a : A} {v : V} (r : REnv K F μ env σ) (i : Nat) (h : Rep K F μ a v) : REnv K F μ (env.set i (some a)) (σ.set i (some v)) := by
  refine ⟨by rw [List.length_set, List.length_set]; exact r.len, fun j b hj => ?_⟩
  rcases get_set hj with ⟨rfl, e⟩ | ⟨hji, hj⟩
  · cases e
    have hl : j < env.length := by have := (List.getElem?_eq_some_iff.mp hj).1; rw [List.length_set] at this; exact this
    exact ⟨v, by rw [List.getElem?_set_self (by rw [← r.len]; exact hl)], h⟩
  · obtain ⟨w, h1, h2⟩ := r.at_ j b hj
    exact ⟨w, by rw [List.getElem?_set_ne (fun q => hji q.symm)]; exact h1, h2⟩
theorem REnv.unset {env : AEnv} (r : REnv K F μ env σ) (i : Nat) : REnv K F μ (env.set i none) (σ.set i none) := by
  refine ⟨by rw [List.length_set, List.length_set]; exact r.len, fun j b hj => ?_⟩
  rcases get_set hj with ⟨rfl, e⟩ | ⟨hji, hj⟩
  · cases e
  · obtain ⟨w, h1, h2⟩ := r.at_ j b hj
    exact ⟨w, by rw [List.getElem?_set_ne (fun q => hji q.symm)]; exact h1, h2⟩
theorem Kont.ext {α β : Type} {R : Rel α β} {Q : β → Hp → Prop} {a : α} {st : Store} (e : Ext F F' μ μ') (h : Kont K Z R F μ Q a st) : Kont K Z R F' μ' Q a st :=
  fun F2 μ2 H2 b e2 g r => h F2 μ2 H2 b (e.trans e2) g r
theorem KX.ext {e : Exc} {st : Store} (x : Ext F F' μ μ') (h : KX K Z F μ σ W e st) : KX K Z F' μ' σ W e st :=
  fun F2 μ2 H2 d e2 g r => h F2 μ2 H2 d (x.trans e2) g r
theorem post_ext {α β : Type} {R : Rel α β} {Q : β → Hp → Prop} {r : Res α} (e : Ext F F' μ μ') (h : r.post (Kont K Z R F μ Q) (KX K Z F μ σ W)) : r.post (Kont K Z R F' μ' Q) (KX K Z F' μ' σ W) :=
  Res.post_mono h (fun _ _ q => q.ext e) (fun _ _ q => q.ext e)
/-- the value that is there goes on -/
theorem Kont.now {α β : Type} {R : Rel α β} {Q : β → Hp → Prop} {a : α} {b : β} {st : Store} {H : Hp} (h : Kont K Z R F μ Q a st) (g : Good K Z F μ st H) (r : R K F μ a b) : Q b H := h F μ H b Ext.refl g r
/-- one reading, then another -/
theorem Sim.bind {α β α' β' : Type} {R : Rel α β} {R' : Rel α' β'} {t : St → Hp → (β → Hp → Prop) → Prop} {m : AEnv → Store → Res α} {m' : α → AEnv → Store → Res α'} {k : β → St → Hp → (β' → Hp → Prop) → Prop} (h : Sim K R W t m)
    (h' : ∀ (Z F : Hp) (μ : List Addr) (st : Store) (env : AEnv) (σ : St) (H : Hp) (Q : β' → Hp → Prop) (a : α) (b : β), Good K Z F μ st H → REnv K F μ env σ → R K F μ a b → (m' a env st).post (Kont K Z R' F μ Q) (KX K Z F μ σ W) → k b σ H Q) :
    Sim K R' W (fun σ H Q => t σ H fun b H1 => k b σ H1 Q) (fun env st => (m env st).bind fun a st1 => m' a env st1) := by
  intro Z F μ st env σ H Q g re hp
  rw [Res.post_bind] at hp
  refine h Z F μ st env σ H _ g re (Res.post_mono hp (fun a st1 q => ?_) fun _ _ q => q)
  intro F1 μ1 H1 b e1 g1 r1
  exact h' Z F1 μ1 st1 env σ H1 Q a b g1 (re.mono e1) r1 (post_ext e1 q)
end

/-! ### operations on values -/
abbrev Op1 := A → Store → Option (A × Store)
abbrev Op2 := A → A → Store → Option (A × Store)
abbrev OpN := List A → Store → Option (A × Store)
def SimV1 (K : PySem.W.Frag) (r : V → Hp → VK → Prop) (op : Op1) : Prop := ∀ (Z F : Hp) (μ : List Addr) (st st' : Store) (H : Hp) (a c : A) (x : V) (Q : VK), Good K Z F μ st H → Rep K F μ a x → op a st = some (c, st') → Kont K Z Rep F μ Q c st' → r x H Q
def SimV2 (K : PySem.W.Frag) (r : R2) (op : Op2) : Prop := ∀ (Z F : Hp) (μ : List Addr) (st st' : Store) (H : Hp) (a b c : A) (x y : V) (Q : VK), Good K Z F μ st H → Rep K F μ a x → Rep K F μ b y → op a b st = some (c, st') → Kont K Z Rep F μ Q c st' → r x y H Q
def SimVN (K : PySem.W.Frag) (r : List V → Hp → VK → Prop) (op : OpN) : Prop := ∀ (Z F : Hp) (μ : List Addr) (st st' : Store) (H : Hp) (as : List A) (c : A) (xs : List V) (Q : VK), Good K Z F μ st H → Reps K F μ as xs → op as st = some (c, st') → Kont K Z Rep F μ Q c st' → r xs H Q
def SimMt (K : PySem.W.Frag) (T : String) (r : V → List V → Hp → VK → Prop) (op : A → OpN) : Prop := ∀ (Z F : Hp) (μ : List Addr) (st st' : Store) (H : Hp) (a : A) (as : List A) (c : A) (x : V) (xs : List V) (Q : VK), Good K Z F μ st H → Rep K F μ a x → Reps K F μ as xs → op a as st = some (c, st') → Kont K Z Rep F μ Q c st' → tyV K T x H ∧ r x xs H Q
theorem SimV2.or {K : PySem.W.Frag} {r r' : R2} {op op' : Op2} (h : SimV2 K r op) (h' : SimV2 K r' op') : SimV2 K (fun x y H Q => r x y H Q ∨ r' x y H Q) (fun a b st => (op a b st).or (op' a b st)) := by
  intro Z F μ st st' H a b c x y Q g ra rb e k
  cases e1 : op a b st with
  | none => simp only [e1, Option.none_or] at e; exact .inr (h' Z F μ st st' H a b c x y Q g ra rb e k)
  | some p => simp only [e1, Option.some_or] at e; cases e; exact .inl (h Z F μ st st' H a b c x y Q g ra rb e1 k)
/-- a list made new: a cell, or known at once -/
def newL (mk : Bool) (xs : List A) (st : Store) : A × Store := if mk then (.cell st.length, st ++ [.lst xs]) else (.lst xs, st)
theorem newL_ok {K : PySem.W.Frag} {F : Hp} {μ : List Addr} {st : Store} {H : Hp} {mk : Bool} {xs : List A} {vs : List V} {Q : VK} {p : Addr} (g : Good K Z F μ st H) (hp : H p = none) (r : Reps K F μ xs vs)
    (k : Kont K Z Rep F μ Q (newL mk xs st).1 (newL mk xs st).2) : Q (.ref p) (upd H p (.lst vs)) := by
  cases mk with
  | true =>
    obtain ⟨g', e⟩ := g.push (p := p) (o := .lst vs) (c := .lst xs) hp ⟨vs, upd_same, r⟩
    exact k _ _ _ _ e g' (.cell (by rw [← g.len, List.getElem?_append_right (Nat.le_refl _), Nat.sub_self]; rfl))
  | false =>
    obtain ⟨g', e⟩ := g.known (p := p) (o := .lst vs) hp
    exact k _ _ _ _ e g' (.lst upd_same (r.mono e))
theorem newT_ok {K : PySem.W.Frag} {F : Hp} {μ : List Addr} {st : Store} {H : Hp} {xs : List A} {vs : List V} {Q : VK} {p : Addr} (g : Good K Z F μ st H) (hp : H p = none) (r : Reps K F μ xs vs)
    (k : Kont K Z Rep F μ Q (.tup xs) st) : Q (.ref p) (upd H p (.tup vs)) := by
  obtain ⟨g', e⟩ := g.known (p := p) (o := .tup vs) hp
  exact k _ _ _ _ e g' (.tup (SqT.of upd_same) (r.mono e))
/-- lists that stand tracked -/
def lstH : A → Store → Option (List A)
  | .lst xs, _ => some xs
  | .cell n, st => match st[n]? with
    | some (.lst xs) => some xs
    | _ => none
  | _, _ => none
theorem lstH_ok {K : PySem.W.Frag} {F : Hp} {μ : List Addr} {st : Store} {H : Hp} {a : A} {xs : List A} {v : V} (g : Good K Z F μ st H) (r : Rep K F μ a v) (h : lstH a st = some xs) : ∃ p vs, v = .ref p ∧ H p = some (.lst vs) ∧ Reps K F μ xs vs := by
  cases a with
  | lst ys =>
    cases h
    cases r with
    | lst h1 r => exact ⟨_, _, rfl, g.sub _ _ h1, r⟩
  | cell n =>
    cases r with
    | cell h1 =>
      have h : (match st[n]? with | some (.lst xs) => some xs | _ => none) = some xs := h
      cases e : st[n]? with
      | none => rw [e] at h; cases h
      | some c =>
        rw [e] at h
        cases c with
        | lst ys =>
          cases h
          obtain ⟨a, h2, h3, vs, h4, h5⟩ := g.cell n _ e (by intro z; cases z)
          rw [h1] at h2; cases h2
          exact ⟨_, vs, rfl, h4, h5⟩
        | _ => cases h
  | _ => cases h
/-- any list that is read -/
def lstR : A → Store → Option (List A)
  | .slst xs, _ => some xs
  | a, st => lstH a st
theorem lstR_ok {K : PySem.W.Frag} {F : Hp} {μ : List Addr} {st : Store} {H : Hp} {a : A} {xs : List A} {v : V} (g : Good K Z F μ st H) (r : Rep K F μ a v) (h : lstR a st = some xs) : ∃ p vs, v = .ref p ∧ SqL K H p vs ∧ Reps K F μ xs vs := by
  have key : lstH a st = some xs → ∃ p vs, v = .ref p ∧ SqL K H p vs ∧ Reps K F μ xs vs := fun h => by
    obtain ⟨p, vs, e, h1, h2⟩ := lstH_ok g r h
    exact ⟨p, vs, e, SqL.of h1, h2⟩
  cases a with
  | slst ys =>
    cases h
    cases r with
    | slst h1 r => exact ⟨_, _, rfl, SqL.mono g.sub h1, r⟩
  | _ => exact key h
/-- a tuple's items -/
def tupR : A → Option (List A)
  | .tup xs => some xs
  | _ => none
theorem tupR_ok {K : PySem.W.Frag} {F : Hp} {μ : List Addr} {st : Store} {H : Hp} {a : A} {xs : List A} {v : V} (g : Good K Z F μ st H) (r : Rep K F μ a v) (h : tupR a = some xs) : ∃ p vs, v = .ref p ∧ SqT K H p vs ∧ Reps K F μ xs vs := by
  cases a with
  | tup ys =>
    cases h
    cases r with
    | tup h1 r => exact ⟨_, _, rfl, SqT.mono g.sub h1, r⟩
  | _ => cases h
/-- a list or a tuple that is read -/
def seqR (a : A) (st : Store) : Option (List A) := (tupR a).or (lstR a st)
theorem seqR_ok {K : PySem.W.Frag} {F : Hp} {μ : List Addr} {st : Store} {H : Hp} {a : A} {xs : List A} {v : V} (g : Good K Z F μ st H) (r : Rep K F μ a v) (h : seqR a st = some xs) : ∃ p vs, v = .ref p ∧ (SqL K H p vs ∨ SqT K H p vs) ∧ Reps K F μ xs vs := by
  unfold seqR at h
  cases e : tupR a with
  | some ys =>
    rw [e] at h; cases h
    obtain ⟨p, vs, e, h1, h2⟩ := tupR_ok g r e
    exact ⟨p, vs, e, .inr h1, h2⟩
  | none =>
    rw [e] at h
    obtain ⟨p, vs, e, h1, h2⟩ := lstR_ok g r h
    exact ⟨p, vs, e, .inl h1, h2⟩

/-! ### arithmetic -/
section
variable {K : PySem.W.Frag}
theorem Kont.same {F : Hp} {μ : List Addr} {st : Store} {H : Hp} {Q : VK} {a : A} {v : V} (k : Kont K Z Rep F μ Q a st) (g : Good K Z F μ st H) (r : Rep K F μ a v) : Q v H := k.now g r
def iiOp (p : Int → Int → Option A) : Op2 := fun a b st => match a, b with
  | .int i, .int j => (p i j).map fun c => (c, st)
  | _, _ => none
theorem sim_ii {C : Int → Int → Prop} {g : Int → Int → V} {p : Int → Int → Option A} (h : ∀ i j c, p i j = some c → C i j ∧ ∀ F μ, Rep K F μ c (g i j)) : SimV2 K (rI C g) (iiOp p) := by
  intro Z F μ st st' H a b c x y Q gd ra rb e k
  cases a with
  | int i =>
    cases b with
    | int j =>
      cases ra; cases rb
      have e : (p i j).map (fun c => (c, st)) = some (c, st') := e
      cases q : p i j with
      | none => rw [q] at e; cases e
      | some c' =>
        rw [q] at e; cases e
        obtain ⟨h1, h2⟩ := h i j _ q
        exact ⟨i, j, rfl, rfl, h1, k.same gd (h2 _ _)⟩
    | _ => cases e
  | _ => cases e
theorem sim_ii0 {g : Int → Int → V} {p : Int → Int → A} (h : ∀ i j F μ, Rep K F μ (p i j) (g i j)) : SimV2 K (rI0 g) (iiOp fun i j => some (p i j)) := by
  intro Z F μ st st' H a b c x y Q gd ra rb e k
  cases a with
  | int i =>
    cases b with
    | int j => cases ra; cases rb; cases e; exact ⟨i, j, rfl, rfl, k.same gd (h _ _ _ _)⟩
    | _ => cases e
  | _ => cases e
def gd (c : Prop) [Decidable c] (a : A) : Option A := if c then some a else none
@[simp] theorem gd_true {c : Prop} [Decidable c] {a : A} (h : c) : gd c a = some a := if_pos h
theorem gd_some {c : Prop} [Decidable c] {a b : A} (h : gd c a = some b) : c ∧ b = a := by
  unfold gd at h
  split at h
  · cases h; exact ⟨by assumption, rfl⟩
  · cases h
instance (i j : Int) : Decidable (CMulW i j) := by unfold CMulW; infer_instance
instance (i j : Int) : Decidable (CDivN i j) := by unfold CDivN; infer_instance
instance (i j : Int) : Decidable (CDivW i j) := by unfold CDivW; infer_instance
instance (i j : Int) : Decidable (CPow i j) := by unfold CPow; infer_instance
/-! + -/
def addI : Op2 := iiOp fun i j => some (.int (i + j))
def addS : Op2 := fun a b st => match a, b with
  | .str x, .str y => (gd (x.length + y.length ≤ sizeLine) (.str (x ++ y))).map fun c => (c, st)
  | _, _ => none
def addL (mk : Bool) : Op2 := fun a b st => match lstH a st, lstH b st with
  | some xs, some ys => if xs.length + ys.length ≤ sizeLine then some (newL mk (xs ++ ys) st) else none
  | _, _ => none
def addT : Op2 := fun a b st => match a, b with
  | .tup xs, .tup ys => if xs ≠ [] ∧ xs.length + ys.length ≤ sizeLine then some (.tup (xs ++ ys), st) else none
  | _, _ => none
theorem sim_addI : SimV2 K (rI0 fun i j => .int (i + j)) addI := sim_ii0 fun i j _ _ => .int _
theorem sim_addS : SimV2 K (fun x y H Q => ∃ i j, x = .str i ∧ y = .str j ∧ i.length + j.length ≤ sizeLine ∧ Q (.str (i ++ j)) H) addS := by
  intro Z F μ st st' H a b c x y Q g ra rb e k
  cases a with
  | str i =>
    cases b with
    | str j =>
      cases ra; cases rb
      have e : (gd (i.length + j.length ≤ sizeLine) (.str (i ++ j))).map (fun c => (c, st)) = some (c, st') := e
      cases q : gd (i.length + j.length ≤ sizeLine) (.str (i ++ j)) with
      | none => rw [q] at e; cases e
      | some c' =>
        rw [q] at e; cases e
        obtain ⟨h1, rfl⟩ := gd_some q
        exact ⟨i, j, rfl, rfl, h1, k.same g (.str _)⟩
    | _ => cases e
  | _ => cases e
theorem sim_addL {mk : Bool} : SimV2 K rCat (addL mk) := by
  intro Z F μ st st' H a b c x y Q g ra rb e k
  unfold addL at e
  cases ea : lstH a st with
  | none => rw [ea] at e; cases e
  | some xs =>
    cases eb : lstH b st with
    | none => rw [ea, eb] at e; cases e
    | some ys =>
      rw [ea, eb] at e
      obtain ⟨p, vs, rfl, h1, r1⟩ := lstH_ok g ra ea
      obtain ⟨q, ws, rfl, h2, r2⟩ := lstH_ok g rb eb
      have e : (if xs.length + ys.length ≤ sizeLine then some (newL mk (xs ++ ys) st) else none) = some (c, st') := e
      by_cases hl : xs.length + ys.length ≤ sizeLine
      · rw [if_pos hl] at e
        have e1 : newL mk (xs ++ ys) st = (c, st') := Option.some.inj e
        refine ⟨p, q, vs, ws, rfl, rfl, h1, h2, by rw [← r1.length, ← r2.length]; exact hl, fun l hl => ?_⟩
        exact newL_ok (mk := mk) g hl (r1.append r2) (by rw [e1]; exact k)
      · rw [if_neg hl] at e; cases e
theorem sim_addT : SimV2 K (rCatT K) addT := by
  intro Z F μ st st' H a b c x y Q g ra rb e k
  cases a with
  | tup xs =>
    cases b with
    | tup ys =>
      have e : (if xs ≠ [] ∧ xs.length + ys.length ≤ sizeLine then some (A.tup (xs ++ ys), st) else none) = some (c, st') := e
      by_cases hl : xs ≠ [] ∧ xs.length + ys.length ≤ sizeLine
      · rw [if_pos hl] at e; cases e
        obtain ⟨p, vs, rfl, h1, r1⟩ := tupR_ok g ra rfl
        obtain ⟨q, ws, rfl, h2, r2⟩ := tupR_ok g rb rfl
        refine ⟨p, q, vs, ws, rfl, rfl, h1, h2, fun z => hl.1 (List.length_eq_zero_iff.mp (by rw [r1.length, z]; rfl)), by rw [← r1.length, ← r2.length]; exact hl.2, fun z => ?_, fun _ l hp => newT_ok g hp (r1.append r2) k⟩
        have ey : ys = [] := List.length_eq_zero_iff.mp (by rw [r2.length, z]; rfl)
        subst ey
        rw [List.append_nil] at k
        exact k.same g ra
      · rw [if_neg hl] at e; cases e
    | _ => cases e
  | _ => cases e
def rAddA (K : PySem.W.Frag) : R2 := fun x y H Q => (rI0 fun i j => .int (i + j)) x y H Q ∨ (∃ i j, x = .str i ∧ y = .str j ∧ i.length + j.length ≤ sizeLine ∧ Q (.str (i ++ j)) H) ∨ rCat x y H Q ∨ rCatT K x y H Q
def addOp (mk : Bool) : Op2 := fun a b st => (addI a b st).or ((addS a b st).or ((addL mk a b st).or (addT a b st)))
theorem sim_add {mk : Bool} : SimV2 K (rAddA K) (addOp mk) := SimV2.or sim_addI (SimV2.or sim_addS (SimV2.or sim_addL sim_addT))
theorem op_addA {X : Cx} : OpR X (binaryOp .Add) (rAddA X.K) := op_add.or (op_add_str.or (op_cat.or op_catT))
/-! - * // % ** -/
def subOp : Op2 := iiOp fun i j => some (.int (i - j))
theorem sim_sub : SimV2 K (rI0 fun i j => .int (i - j)) subOp := sim_ii0 fun i j _ _ => .int _
def mulI : Op2 := iiOp fun i j => gd (CMulW i j) (.int (i * j))
theorem sim_mulI : SimV2 K (rI CMulW fun i j => .int (i * j)) mulI := sim_ii fun i j c h => by
  obtain ⟨h1, rfl⟩ := gd_some h
  exact ⟨h1, fun _ _ => .int _⟩
def mulL (mk : Bool) : Op2 := fun a b st => match lstH a st, b with
  | some xs, .int k => if -(2 ^ 63) ≤ k ∧ k < 2 ^ 63 ∧ xs.length * k.toNat ≤ sizeLine then some (newL mk (List.replicate k.toNat xs).flatten st) else none
  | _, _ => none
theorem sim_mulL {mk : Bool} : SimV2 K rRep (mulL mk) := by
  intro Z F μ st st' H a b c x y Q g ra rb e k
  unfold mulL at e
  cases ea : lstH a st with
  | none => rw [ea] at e; cases e
  | some xs =>
    rw [ea] at e
    cases b with
    | int n =>
      cases rb
      obtain ⟨p, vs, rfl, h1, r1⟩ := lstH_ok g ra ea
      have e : (if -(2 ^ 63) ≤ n ∧ n < 2 ^ 63 ∧ xs.length * n.toNat ≤ sizeLine then some (newL mk (List.replicate n.toNat xs).flatten st) else none) = some (c, st') := e
      by_cases hl : -(2 ^ 63) ≤ n ∧ n < 2 ^ 63 ∧ xs.length * n.toNat ≤ sizeLine
      · rw [if_pos hl] at e
        have e1 : newL mk (List.replicate n.toNat xs).flatten st = (c, st') := Option.some.inj e
        refine ⟨p, n, vs, rfl, rfl, h1, hl.1, hl.2.1, by rw [← r1.length]; exact hl.2.2, fun l hl => ?_⟩
        exact newL_ok (mk := mk) g hl (r1.rep _) (by rw [e1]; exact k)
      · rw [if_neg hl] at e; cases e
    | _ => cases e
def rMulA : R2 := fun x y H Q => (rI CMulW fun i j => .int (i * j)) x y H Q ∨ rRep x y H Q
def mulOp (mk : Bool) : Op2 := fun a b st => (mulI a b st).or (mulL mk a b st)
theorem sim_mul {mk : Bool} : SimV2 K rMulA (mulOp mk) := SimV2.or sim_mulI sim_mulL
theorem op_mulA {X : Cx} : OpR X (binaryOp .Mult) rMulA := op_mulW.or op_rep
def fdivN : Op2 := iiOp fun i j => gd (CDivN i j) (.int (i.fdiv j))
/-- // by a divisor of either sign, of less than nine thousand bits -/
def CDivL (_ j : Int) : Prop := j ≠ 0 ∧ j.natAbs.log2 < 9000
instance (i j : Int) : Decidable (CDivL i j) := by unfold CDivL; infer_instance
theorem op_fdivL {X : Cx} : OpR X (binaryOp .FloorDiv) (rI CDivL fun i j => .int (i.fdiv j)) := opI fun _ _ _ _ _ _ _ hc q => floordiv_int hc.1 q (.inl (PyProof.noPylong_of_log2 hc.2))
def fdivW : Op2 := iiOp fun i j => gd (CDivL i j) (.int (i.fdiv j))
theorem sim_fdivN : SimV2 K (rI CDivN fun i j => .int (i.fdiv j)) fdivN := sim_ii fun i j c h => by
  obtain ⟨h1, rfl⟩ := gd_some h
  exact ⟨h1, fun _ _ => .int _⟩
theorem sim_fdivW : SimV2 K (rI CDivL fun i j => .int (i.fdiv j)) fdivW := sim_ii fun i j c h => by
  obtain ⟨h1, rfl⟩ := gd_some h
  exact ⟨h1, fun _ _ => .int _⟩
def rFdivA : R2 := fun x y H Q => (rI CDivN fun i j => .int (i.fdiv j)) x y H Q ∨ (rI CDivL fun i j => .int (i.fdiv j)) x y H Q
def fdivOp : Op2 := fun a b st => (fdivN a b st).or (fdivW a b st)
theorem sim_fdiv : SimV2 K rFdivA fdivOp := SimV2.or sim_fdivN sim_fdivW
theorem op_fdivA {X : Cx} : OpR X (binaryOp .FloorDiv) rFdivA := op_fdivN.or op_fdivL
def modOp : Op2 := iiOp fun i j => gd (j ≠ 0) (.int (i.fmod j))
theorem sim_mod : SimV2 K (rI (fun _ j => j ≠ 0) fun i j => .int (i.fmod j)) modOp := sim_ii fun i j c h => by
  obtain ⟨h1, rfl⟩ := gd_some h
  exact ⟨h1, fun _ _ => .int _⟩
def powOp : Op2 := iiOp fun i j => gd (CPow i j) (.int (i ^ j.toNat))
theorem sim_pow : SimV2 K (rI CPow fun i j => .int (i ^ j.toNat)) powOp := sim_ii fun i j c h => by
  obtain ⟨h1, rfl⟩ := gd_some h
  exact ⟨h1, fun _ _ => .int _⟩
/-! comparisons -/
def ltOp : Op2 := iiOp fun i j => some (.bl (decide (i < j)))
def leOp : Op2 := iiOp fun i j => some (.bl (decide (i ≤ j)))
def gtOp : Op2 := iiOp fun i j => some (.bl (decide (j < i)))
def geOp : Op2 := iiOp fun i j => some (.bl (decide (j ≤ i)))
theorem sim_lt : SimV2 K (rI0 fun i j => .bl (decide (i < j))) ltOp := sim_ii0 fun i j _ _ => .bl _
theorem sim_le : SimV2 K (rI0 fun i j => .bl (decide (i ≤ j))) leOp := sim_ii0 fun i j _ _ => .bl _
theorem sim_gt : SimV2 K (rI0 fun i j => .bl (decide (j < i))) gtOp := sim_ii0 fun i j _ _ => .bl _
theorem sim_ge : SimV2 K (rI0 fun i j => .bl (decide (j ≤ i))) geOp := sim_ii0 fun i j _ _ => .bl _
/-- all, or nothing -/
def optAll {α β : Type} (f : α → Option β) : List α → Option (List β)
  | [] => some []
  | x :: xs => match f x, optAll f xs with
    | some y, some ys => some (y :: ys)
    | _, _ => none
/-- plain data -/
def toD (st : Store) : Nat → A → Option PyData
  | _, .non => some .none
  | _, .bl b => some (.bool b)
  | _, .int i => some (.int i)
  | _, .str s => some (.str s)
  | n + 1, .lst xs => (optAll (toD st n) xs).map .list
  | n + 1, .slst xs => (optAll (toD st n) xs).map .list
  | n + 1, .tup xs => (optAll (toD st n) xs).map .tuple
  | n + 1, .cell c => match st[c]? with
    | some (.lst xs) => (optAll (toD st n) xs).map .list
    | _ => none
  | _, _ => none
theorem optAll_dp {F : Hp} {μ : List Addr} {H : Hp} {f : A → Option PyData} (h : ∀ a d v, f a = some d → Rep K F μ a v → Dp K H v d) : ∀ {xs : List A} {ds : List PyData} {vs : List V}, optAll f xs = some ds → Reps K F μ xs vs → DpAll K H vs ds
  | [], _, _, e, r => by cases e; cases r; exact .nil
  | x :: xs, ds, _, e, .cons r t => by
    unfold optAll at e
    cases e1 : f x with
    | none => rw [e1] at e; cases e
    | some y =>
      cases e2 : optAll f xs with
      | none => rw [e1, e2] at e; cases e
      | some ys =>
        rw [e1, e2] at e; cases e
        exact .cons (h _ _ _ e1 r) (optAll_dp h e2 t)
theorem toD_ok {F : Hp} {μ : List Addr} {st : Store} {H : Hp} (g : Good K Z F μ st H) : ∀ (n : Nat) (a : A) (d : PyData) (v : V), toD st n a = some d → Rep K F μ a v → Dp K H v d := by
  intro n
  induction n with
  | zero =>
    intro a d v e r
    cases a with
    | non => cases e; cases r; exact .non
    | bl b => cases e; cases r; exact .bl b
    | int i => cases e; cases r; exact .int i
    | str s => cases e; cases r; exact .str s
    | _ => cases e
  | succ n ih =>
    intro a d v e r
    have lists : ∀ xs : List A, (optAll (toD st n) xs).map PyData.list = some d → (∃ p vs, v = .ref p ∧ SqL K H p vs ∧ Reps K F μ xs vs) → Dp K H v d := by
      rintro xs e ⟨p, vs, rfl, h1, h2⟩
      cases e1 : optAll (toD st n) xs with
      | none => rw [e1] at e; cases e
      | some ds => rw [e1] at e; cases e; exact .lst h1 (optAll_dp ih e1 h2)
    cases a with
    | non => cases e; cases r; exact .non
    | bl b => cases e; cases r; exact .bl b
    | int i => cases e; cases r; exact .int i
    | str s => cases e; cases r; exact .str s
    | lst xs => exact lists xs e (lstR_ok g r rfl)
    | slst xs => exact lists xs e (lstR_ok g r rfl)
    | tup xs =>
      obtain ⟨p, vs, rfl, h1, h2⟩ := tupR_ok g r rfl
      have e : (optAll (toD st n) xs).map PyData.tuple = some d := e
      cases e1 : optAll (toD st n) xs with
      | none => rw [e1] at e; cases e
      | some ds => rw [e1] at e; cases e; exact .tup h1 (optAll_dp ih e1 h2)
    | cell c =>
      have e : (match st[c]? with | some (.lst xs) => (optAll (toD st n) xs).map .list | _ => none) = some d := e
      cases e1 : st[c]? with
      | none => rw [e1] at e; cases e
      | some cc =>
        cases cc with
        | lst xs => rw [e1] at e; exact lists xs e (lstR_ok g r (by simp only [lstR, lstH, e1]))
        | _ => rw [e1] at e; cases e
    | _ => cases e
/-- == of data -/
def eqD (neg : Bool) : Op2 := fun a b st => match toD st 50 a, toD st 50 b with
  | some d, some e => if SeqAt.shaped d = true ∧ SeqAt.shaped e = true then some (.bl (if neg then !PyData.eqv d e else PyData.eqv d e), st) else none
  | _, _ => none
theorem eqD_ok {neg : Bool} {F : Hp} {μ : List Addr} {st st' : Store} {H : Hp} {a b c : A} {x y : V} (g : Good K Z F μ st H) (ra : Rep K F μ a x) (rb : Rep K F μ b y) (e : eqD neg a b st = some (c, st')) :
    ∃ d e, Dp K H x d ∧ Dp K H y e ∧ SeqAt.shaped d = true ∧ SeqAt.shaped e = true ∧ c = .bl (if neg then !PyData.eqv d e else PyData.eqv d e) ∧ st' = st := by
  unfold eqD at e
  cases e1 : toD st 50 a with
  | none => rw [e1] at e; cases e
  | some d =>
    cases e2 : toD st 50 b with
    | none => rw [e1, e2] at e; cases e
    | some d' =>
      rw [e1, e2] at e
      have e : (if SeqAt.shaped d = true ∧ SeqAt.shaped d' = true then some (A.bl (if neg then !PyData.eqv d d' else PyData.eqv d d'), st) else none) = some (c, st') := e
      by_cases hs : SeqAt.shaped d = true ∧ SeqAt.shaped d' = true
      · rw [if_pos hs] at e; cases e
        exact ⟨d, d', toD_ok g _ _ _ _ e1 ra, toD_ok g _ _ _ _ e2 rb, hs.1, hs.2, rfl, rfl⟩
      · rw [if_neg hs] at e; cases e
theorem sim_eqD : SimV2 K (rEqD K) (eqD false) := by
  intro Z F μ st st' H a b c x y Q g ra rb e k
  obtain ⟨d, e', h1, h2, h3, h4, rfl, rfl⟩ := eqD_ok g ra rb e
  exact ⟨d, e', h1, h2, h3, h4, k.same g (.bl _)⟩
theorem sim_neD : SimV2 K (rNeD K) (eqD true) := by
  intro Z F μ st st' H a b c x y Q g ra rb e k
  obtain ⟨d, e', h1, h2, h3, h4, rfl, rfl⟩ := eqD_ok g ra rb e
  exact ⟨d, e', h1, h2, h3, h4, k.same g (.bl _)⟩
/-- scalars -/
def eqSc (neg : Bool) : Op2 := fun a b st => match a, b with
  | .int i, .int j => some (.bl (if neg then !decide (i = j) else decide (i = j)), st)
  | .str i, .str j => some (.bl (if neg then !decide (i = j) else decide (i = j)), st)
  | .bl i, .bl j => some (.bl (if neg then !decide (i = j) else decide (i = j)), st)
  | _, _ => none
theorem dV_int {i j : Int} : decide (V.int i = V.int j) = decide (i = j) := by by_cases h : i = j <;> simp [h]
theorem dV_str {i j : Str} : decide (V.str i = V.str j) = decide (i = j) := by by_cases h : i = j <;> simp [h]
theorem dV_bl {i j : Bool} : decide (V.bl i = V.bl j) = decide (i = j) := by by_cases h : i = j <;> simp [h]
theorem sim_eqSc : SimV2 K rEq (eqSc false) := by
  intro Z F μ st st' H a b c x y Q g ra rb e k
  cases a <;> cases b <;> first
    | cases e; done
    | (cases ra; cases rb; cases e; refine ⟨rfl, ?_⟩; first | rw [dV_int] | rw [dV_str] | rw [dV_bl]
       exact k.same g (.bl _))
theorem sim_neSc : SimV2 K rNe (eqSc true) := by
  intro Z F μ st st' H a b c x y Q g ra rb e k
  cases a <;> cases b <;> first
    | cases e; done
    | (cases ra; cases rb; cases e; refine ⟨rfl, ?_⟩; first | rw [dV_int] | rw [dV_str] | rw [dV_bl]
       exact k.same g (.bl _))
def eqOp : Op2 := fun a b st => (eqSc false a b st).or (eqD false a b st)
def neOp : Op2 := fun a b st => (eqSc true a b st).or (eqD true a b st)
def rEqA (K : PySem.W.Frag) : R2 := fun x y H Q => rEq x y H Q ∨ rEqD K x y H Q
def rNeA (K : PySem.W.Frag) : R2 := fun x y H Q => rNe x y H Q ∨ rNeD K x y H Q
theorem sim_eq : SimV2 K (rEqA K) eqOp := SimV2.or sim_eqSc sim_eqD
theorem sim_ne : SimV2 K (rNeA K) neOp := SimV2.or sim_neSc sim_neD
/-! is, in -/
/-- x is None -/
def isN0 (neg : Bool) : Op2 := fun a b st => match b with
  | .non => (match a with
    | .non => some (.bl (!neg), st)
    | .cell _ => none
    | _ => some (.bl neg, st))
  | _ => none
/-- x is True, of a bool x -/
def isB0 (neg : Bool) : Op2 := fun a b st => match a, b with
  | .bl x, .bl y => some (.bl (if neg then !decide (x = y) else decide (x = y)), st)
  | _, _ => none
def isNOp (neg : Bool) : Op2 := fun a b st => (isN0 neg a b st).or (isB0 neg a b st)
theorem isN_ok {neg : Bool} {F : Hp} {μ : List Addr} {st st' : Store} {a b c : A} {x y : V} (ra : Rep K F μ a x) (rb : Rep K F μ b y) (e : isN0 neg a b st = some (c, st')) :
    y = .non ∧ c = .bl (if neg then !decide (x = .non) else decide (x = .non)) ∧ st' = st := by
  cases b with
  | non =>
    cases rb
    refine ⟨rfl, ?_⟩
    cases a <;> cases ra <;> cases e <;> cases neg <;> simp
  | _ => cases e
theorem isB_ok {neg : Bool} {F : Hp} {μ : List Addr} {st st' : Store} {a b c : A} {x y : V} (ra : Rep K F μ a x) (rb : Rep K F μ b y) (e : isB0 neg a b st = some (c, st')) :
    ∃ p q : Bool, x = .bl p ∧ y = .bl q ∧ c = .bl (if neg then !decide (p = q) else decide (p = q)) ∧ st' = st := by
  cases a <;> cases b <;> first | (cases e; done) | (cases ra; cases rb; cases e; exact ⟨_, _, rfl, rfl, rfl, rfl⟩)
def rIsA : R2 := fun x y H Q => (y = .non ∧ Q (.bl (decide (x = .non))) H) ∨ rIsB x y H Q
def rNotA : R2 := fun x y H Q => (y = .non ∧ Q (.bl (!decide (x = .non))) H) ∨ rNotB x y H Q
theorem sim_isN : SimV2 K rIsA (isNOp false) := SimV2.or (r := fun x y H Q => y = .non ∧ Q (.bl (decide (x = .non))) H) (fun Z F μ st st' H a b c x y Q g ra rb e k => by
  obtain ⟨h1, rfl, rfl⟩ := isN_ok ra rb e
  exact ⟨h1, k.same g (.bl _)⟩) (fun Z F μ st st' H a b c x y Q g ra rb e k => by
  obtain ⟨p, q, rfl, rfl, rfl, rfl⟩ := isB_ok ra rb e
  exact ⟨p, q, rfl, rfl, k.same g (.bl _)⟩)
theorem sim_notN : SimV2 K rNotA (isNOp true) := SimV2.or (r := fun x y H Q => y = .non ∧ Q (.bl (!decide (x = .non))) H) (fun Z F μ st st' H a b c x y Q g ra rb e k => by
  obtain ⟨h1, rfl, rfl⟩ := isN_ok ra rb e
  exact ⟨h1, k.same g (.bl _)⟩) (fun Z F μ st st' H a b c x y Q g ra rb e k => by
  obtain ⟨p, q, rfl, rfl, rfl, rfl⟩ := isB_ok ra rb e
  exact ⟨p, q, rfl, rfl, k.same g (.bl _)⟩)
/-! truth -/
def truA (st : Store) : A → Option Bool
  | .non => some false
  | .bl b => some b
  | .int i => some (i != 0)
  | .str y => if y.length ≤ sizeLine then some ((y.length : Int) != 0) else none
  | .dct ks _ => some (!ks.isEmpty)
  | .cell n => match st[n]? with
    | some (.lst xs) => some (!xs.isEmpty)
    | some (.dct ks _) => some (!ks.isEmpty)
    | _ => none
  | a => (seqR a st).map fun xs => !xs.isEmpty
theorem isEmpty_len {α β : Type} {xs : List α} {ys : List β} (h : xs.length = ys.length) : xs.isEmpty = ys.isEmpty := by
  cases xs <;> cases ys <;> simp_all
theorem seq_tru {F : Hp} {μ : List Addr} {st : Store} {H : Hp} {a : A} {x : V} {b : Bool} (g : Good K Z F μ st H) (r : Rep K F μ a x) (h : (seqR a st).map (fun xs => !xs.isEmpty) = some b) : TruV K x H b := by
  cases e : seqR a st with
  | none => rw [e] at h; cases h
  | some xs =>
    rw [e] at h; cases h
    obtain ⟨p, vs, rfl, h1, r1⟩ := seqR_ok g r e
    rcases h1 with h1 | h1
    · exact .inl ⟨vs, h1, congrArg (fun b => !b) (isEmpty_len r1.length)⟩
    · exact .inr (.inl ⟨vs, h1, congrArg (fun b => !b) (isEmpty_len r1.length)⟩)
theorem tru_of {F : Hp} {μ : List Addr} {st : Store} {H : Hp} {a : A} {x : V} {b : Bool} (g : Good K Z F μ st H) (r : Rep K F μ a x) (h : truA st a = some b) : TruV K x H b := by
  cases a with
  | non => cases h; cases r; rfl
  | bl b => cases h; cases r; rfl
  | int i => cases h; cases r; rfl
  | str y =>
    cases r
    have h : (if y.length ≤ sizeLine then some ((y.length : Int) != 0) else none) = some b := h
    by_cases hl : y.length ≤ sizeLine
    · rw [if_pos hl] at h; cases h; exact ⟨hl, rfl⟩
    · rw [if_neg hl] at h; cases h
  | dct ks vs =>
    cases h
    cases r with
    | dct h1 h2 r =>
      rename_i kvs
      exact .inr (.inr ⟨_, g.sub _ _ h1, by rw [isEmpty_len (α := Key) (β := Key × V) (by rw [← h2, List.length_map])]⟩)
  | xcp a d c ns vs => cases h
  | cell n =>
    have h : (match st[n]? with | some (.lst xs) => some (!xs.isEmpty) | some (.dct ks _) => some (!ks.isEmpty) | _ => none) = some b := h
    cases e : st[n]? with
    | none => rw [e] at h; cases h
    | some c =>
      rw [e] at h
      cases c with
      | lst xs =>
        refine seq_tru (a := .cell n) g r ?_
        have : seqR (.cell n) st = some xs := by simp [seqR, tupR, lstR, lstH, e]
        rw [this]; exact h
      | dct ks vs =>
        cases h
        cases r with
        | cell h1 =>
          obtain ⟨a, h2, _, kvs, h4, h5, _⟩ := g.cell n _ e (by intro z; cases z)
          rw [h1] at h2; cases h2
          exact .inr (.inr ⟨kvs, h4, by rw [isEmpty_len (α := Key) (β := Key × V) (by rw [← h5, List.length_map])]⟩)
      | _ => cases h
  | lst xs => exact seq_tru g r h
  | slst xs => exact seq_tru g r h
  | tup xs => exact seq_tru g r h
  | ty n => cases h
  | glo x => cases h
  | obj c ns vs => cases h
end
end SL

set_option Elab.async false
set_option linter.all false
set_option maxRecDepth 100000
set_option maxHeartbeats 4000000
/-! SLc: expressions, calls, a def. -/
namespace SL
open PySem PySem.Spec L2
open PyProof.Rows hiding St

section
variable {Γ : G} {X : Cx}
theorem CtxOk.vis (h : CtxOk Γ X) {x : Str} (v : Vis Γ.sc x) : Vis X.env.scope x := by rw [h.sc]; exact v
theorem CtxOk.gl (h : CtxOk Γ X) {x : Str} (v : Γ.sc.names.lookup x = some .globalImplicit) : Gl X x := by unfold Gl Env.kindOf; rw [h.sc]; exact v
theorem CtxOk.mgn (h : CtxOk Γ X) {x : Str} {o : Option Value} (v : Γ.mg x = o) : X.mg x = o := by rw [h.mg]; exact v
theorem CtxOk.name (h : CtxOk Γ X) {x : Str} {i : Nat} (v : Γ.N[i]? = some x) : X.N[i]? = some x := by rw [h.N]; exact v
end

/-! ### names, constants -/
def eVar (i : Nat) : AEnv → Store → Res A := fun env st => match env[i]? with
  | some (some a) => .ok a st
  | _ => .stuck
def eC (a : A) : AEnv → Store → Res A := fun _ st => .ok a st
section
variable {Γ : G}
theorem sim_var {K : PySem.W.Frag} {W : WX} {i : Nat} : Sim K Rep W (tVar i) (eVar i) := by
  intro Z F μ st env σ H Q g re h
  unfold eVar at h
  cases e : env[i]? with
  | none => rw [e] at h; exact h.elim
  | some o =>
    cases o with
    | none => rw [e] at h; exact h.elim
    | some a =>
      rw [e] at h
      obtain ⟨v, h1, h2⟩ := re.at_ i a e
      exact ⟨v, h1, Kont.now h g h2⟩
theorem s_var {i : Nat} {x : Str} {pos : Pos} (hN : Γ.N[i]? = some x) (hv : Vis Γ.sc x) (hd : (x == ("__debug__" : Str)) = false := by decide) (hcd : (x == ("__classdict__" : Str)) = false := by decide) : SE Γ (.Name x pos) (eVar i) :=
  ⟨fun W => ⟨_, sim_var, fun X c _ => pe_var (c.name hN) (c.vis hv) hd hcd⟩⟩
theorem sim_c {K : PySem.W.Frag} {W : WX} {a : A} {v : V} (h : ∀ F μ, Rep K F μ a v) : Sim K Rep W (tC v) (eC a) := fun Z F μ st env σ H Q g re q => Kont.now (show Kont K Z Rep F μ Q a st from q) g (h _ _)
theorem s_int {i : Int} {j pos} : SE Γ (.Constant (.int i) j pos) (eC (.int i)) := ⟨fun W => ⟨_, sim_c fun _ _ => .int i, fun X c _ => pe_int⟩⟩
theorem s_bl {i : Bool} {j pos} : SE Γ (.Constant (.bool i) j pos) (eC (.bl i)) := ⟨fun W => ⟨_, sim_c fun _ _ => .bl i, fun X c _ => pe_bl⟩⟩
theorem s_str {i : Str} {j pos} : SE Γ (.Constant (.str i) j pos) (eC (.str i)) := ⟨fun W => ⟨_, sim_c fun _ _ => .str i, fun X c _ => pe_str⟩⟩
theorem s_non {j pos} : SE Γ (.Constant .none j pos) (eC .non) := ⟨fun W => ⟨_, sim_c fun _ _ => .non, fun X c _ => pe_non⟩⟩
/-- a def or class of the module as a value -/
theorem s_glo {x : Str} {pos : Pos} (hg : Γ.sc.names.lookup x = some .globalImplicit) (hm : Γ.mg x = some (.ref (He.ga Γ.K x))) (hd : (x == ("__debug__" : Str)) = false := by decide) : SE Γ (.Name x pos) (eC (.glo x)) :=
  ⟨fun W => ⟨_, sim_c fun _ _ => .glo x, fun X c _ => pe_glob (c.gl hg) (c.mgn hm) rfl hd⟩⟩
/-- a module's int -/
theorem s_gint {x : Str} {i : Int} {pos : Pos} (hg : Γ.sc.names.lookup x = some .globalImplicit) (hm : ∃ t, Γ.mg x = some (.int i t)) (hd : (x == ("__debug__" : Str)) = false := by decide) : SE Γ (.Name x pos) (eC (.int i)) :=
  let ⟨_, hm⟩ := hm
  ⟨fun W => ⟨_, sim_c fun _ _ => .int i, fun X c _ => pe_glob (c.gl hg) (c.mgn hm) ⟨_, rfl⟩ hd⟩⟩
/-- a builtin type as a value -/
theorem s_ty {x : Str} {n : String} {pos : Pos} (hg : Γ.sc.names.lookup x = some .globalImplicit) (hm : Γ.mg x = none) (hv : bootBuiltins x = some (.type n)) (hn : x ≠ "__name__" := by decide) (hd : (x == ("__debug__" : Str)) = false := by decide) : SE Γ (.Name x pos) (eC (.ty n)) :=
  ⟨fun W => ⟨_, sim_c fun _ _ => .ty n, fun X c _ => pe_bltn (c.gl hg) (c.mgn hm) hv rfl hn hd⟩⟩

/-! ### operators -/
def eBin (op : Op2) (ma mb : AEnv → Store → Res A) : AEnv → Store → Res A := fun env st => (ma env st).bind fun a st1 => (mb env st1).bind fun b st2 => Res.of (op a b st2)
def eUn (op : Op1) (ma : AEnv → Store → Res A) : AEnv → Store → Res A := fun env st => (ma env st).bind fun a st1 => Res.of (op a st1)
theorem sim_bin {K : PySem.W.Frag} {W : WX} {r : R2} {op : Op2} {ta tb : TE} {ma mb : AEnv → Store → Res A} (h : SimV2 K r op) (ha : Sim K Rep W ta ma) (hb : Sim K Rep W tb mb) : Sim K Rep W (tOp r ta tb) (eBin op ma mb) :=
  Sim.bind (k := fun x σ H Q => tb σ H fun y H2 => r x y H2 Q) (m' := fun a env st1 => (mb env st1).bind fun b st2 => Res.of (op a b st2)) ha fun Z F μ st env σ H Q a x g re ra hp => by
    rw [Res.post_bind] at hp
    refine hb Z F μ st env σ H _ g re (Res.post_mono hp (fun b st2 q => ?_) fun _ _ q => q)
    intro F1 μ1 H1 y e1 g1 rb
    obtain ⟨c, st3, e, k⟩ := Res.post_of q
    exact h Z F1 μ1 st2 st3 H1 a b c x y Q g1 (ra.mono e1) rb e (k.ext e1)
theorem sim_un {K : PySem.W.Frag} {W : WX} {r : V → Hp → VK → Prop} {op : Op1} {ta : TE} {ma : AEnv → Store → Res A} (h : SimV1 K r op) (ha : Sim K Rep W ta ma) : Sim K Rep W (tUn r ta) (eUn op ma) :=
  Sim.bind (k := fun x σ H Q => r x H Q) (m' := fun a env st1 => Res.of (op a st1)) ha fun Z F μ st env σ H Q a x g re ra hp => by
    obtain ⟨c, st3, e, k⟩ := Res.post_of hp
    exact h Z F μ st st3 H a c x Q g ra e k
variable {a b e : Expr} {ma mb mc : AEnv → Store → Res A} {pos : Pos}
theorem s_bin {o : Operator} {r : PySem.W.Frag → R2} {op : Op2} (ho : ∀ X : Cx, OpR X (binaryOp o) (r X.K)) (hs : SimV2 Γ.K (r Γ.K) op) (ha : SE Γ a ma) (hb : SE Γ b mb) : SE Γ (.BinOp a o b pos) (eBin op ma mb) :=
  ⟨fun W => by
    obtain ⟨ta, sa, pa⟩ := ha.run W
    obtain ⟨tb, sb, pb⟩ := hb.run W
    refine ⟨_, sim_bin hs sa sb, fun X c t => ?_⟩
    rw [← c.K]
    exact pe_op (ho X) (pa X c t) (pb X c t)⟩
theorem s_add {mk : Bool} (ha : SE Γ a ma) (hb : SE Γ b mb) : SE Γ (.BinOp a .Add b pos) (eBin (addOp mk) ma mb) := s_bin (fun _ => op_addA) sim_add ha hb
theorem s_sub (ha : SE Γ a ma) (hb : SE Γ b mb) : SE Γ (.BinOp a .Sub b pos) (eBin subOp ma mb) := s_bin (r := fun _ => _) (fun _ => op_sub) sim_sub ha hb
theorem s_mul {mk : Bool} (ha : SE Γ a ma) (hb : SE Γ b mb) : SE Γ (.BinOp a .Mult b pos) (eBin (mulOp mk) ma mb) := s_bin (r := fun _ => _) (fun _ => op_mulA) sim_mul ha hb
theorem s_fdiv (ha : SE Γ a ma) (hb : SE Γ b mb) : SE Γ (.BinOp a .FloorDiv b pos) (eBin fdivOp ma mb) := s_bin (r := fun _ => _) (fun _ => op_fdivA) sim_fdiv ha hb
theorem s_mod (ha : SE Γ a ma) (hb : SE Γ b mb) : SE Γ (.BinOp a .Mod b pos) (eBin modOp ma mb) := s_bin (r := fun _ => _) (fun _ => op_modN) sim_mod ha hb
theorem s_pow (ha : SE Γ a ma) (hb : SE Γ b mb) : SE Γ (.BinOp a .Pow b pos) (eBin powOp ma mb) := s_bin (r := fun _ => _) (fun _ => op_pow) sim_pow ha hb
def negOp : Op1 := fun a st => match a with
  | .int i => some (.int (-i), st)
  | _ => none
theorem sim_neg {K : PySem.W.Frag} : SimV1 K (rU fun i => .int (-i)) negOp := by
  intro Z F μ st st' H a c x Q g ra e k
  cases a with
  | int i => cases ra; cases e; exact ⟨i, rfl, k.same g (.int _)⟩
  | _ => cases e
theorem s_neg (ha : SE Γ a ma) : SE Γ (.UnaryOp .USub a pos) (eUn negOp ma) :=
  ⟨fun W => by
    obtain ⟨ta, sa, pa⟩ := ha.run W
    exact ⟨_, sim_un sim_neg sa, fun X c t => pe_un un_neg (pa X c t)⟩⟩

/-! ### comparisons, tests -/
def asB (a : A) (st : Store) : Res Bool := match a with
  | .bl b => .ok b st
  | _ => .stuck
def tOf (m : AEnv → Store → Res A) : AEnv → Store → Res Bool := fun env st => (m env st).bind asB
theorem sim_test {K : PySem.W.Frag} {W : WX} {t : TE} {m : AEnv → Store → Res A} (h : Sim K Rep W t m) : Sim K RepB W (tTest t) (tOf m) :=
  Sim.bind (R' := RepB) (k := fun x σ H Q => ∃ k, x = V.bl k ∧ Q k H) (m' := fun a env st1 => asB a st1) h fun Z F μ st env σ H Q a x g re ra hp => by
    cases a with
    | bl b => cases ra; exact ⟨b, rfl, Kont.now (show Kont K Z RepB F μ Q b st from hp) g rfl⟩
    | _ => exact hp.elim
theorem s_cmp {o : CmpOp} {r : PySem.W.Frag → R2} {op : Op2} (ho : ∀ X : Cx, CtxOk Γ X → OpR X (compareOp o) (r X.K)) (hs : SimV2 Γ.K (r Γ.K) op) (ha : SE Γ a ma) (hb : SE Γ b mb) (hm : behindInMarks o b = false) : SE Γ (.Compare a [o] [b] pos) (eBin op ma mb) :=
  ⟨fun W => by
    obtain ⟨ta, sa, pa⟩ := ha.run W
    obtain ⟨tb, sb, pb⟩ := hb.run W
    refine ⟨_, sim_bin hs sa sb, fun X c t => ?_⟩
    rw [← c.K]
    exact pe_cmpR (ho X c) (pa X c t) (pb X c t) hm⟩
theorem t_cmp {o : CmpOp} {r : PySem.W.Frag → R2} {op : Op2} (ho : ∀ X : Cx, CtxOk Γ X → OpR X (compareOp o) (r X.K)) (hs : SimV2 Γ.K (r Γ.K) op) (ha : SE Γ a ma) (hb : SE Γ b mb) (hm : behindInMarks o b = false) : ST Γ (.Compare a [o] [b] pos) (tOf (eBin op ma mb)) :=
  ⟨fun W => by
    obtain ⟨ta, sa, pa⟩ := ha.run W
    obtain ⟨tb, sb, pb⟩ := hb.run W
    refine ⟨_, sim_test (sim_bin hs sa sb), fun X c t => ?_⟩
    rw [← c.K]
    exact pt_cmpR (ho X c) (pa X c t) (pb X c t) hm⟩
/-- an operator of comparison, with its plain function -/
structure Cop (o : CmpOp) (op : Op2) : Prop where
  ex : ∃ r : PySem.W.Frag → R2, (∀ (Γ : G) (X : Cx), CtxOk Γ X → OpR X (compareOp o) (r X.K)) ∧ ∀ K, SimV2 K (r K) op
  nm : ∀ b, o = .In ∨ o = .NotIn ∨ behindInMarks o b = false
theorem c_eq : Cop .Eq eqOp := ⟨⟨rEqA, fun Γ X c => op_eq.or (op_eqD c.units), fun _ => sim_eq⟩, fun b => .inr (.inr (nomark b))⟩
theorem c_ne : Cop .NotEq neOp := ⟨⟨rNeA, fun Γ X c => op_ne.or (op_neD c.units), fun _ => sim_ne⟩, fun b => .inr (.inr (nomark b))⟩
theorem c_lt : Cop .Lt ltOp := ⟨⟨fun _ => _, fun Γ X c => op_lt, fun _ => sim_lt⟩, fun b => .inr (.inr (nomark b))⟩
theorem c_le : Cop .LtE leOp := ⟨⟨fun _ => _, fun Γ X c => op_le, fun _ => sim_le⟩, fun b => .inr (.inr (nomark b))⟩
theorem c_gt : Cop .Gt gtOp := ⟨⟨fun _ => _, fun Γ X c => op_gt, fun _ => sim_gt⟩, fun b => .inr (.inr (nomark b))⟩
theorem c_ge : Cop .GtE geOp := ⟨⟨fun _ => _, fun Γ X c => op_ge, fun _ => sim_ge⟩, fun b => .inr (.inr (nomark b))⟩
theorem c_isN : Cop .Is (isNOp false) := ⟨⟨fun _ => rIsA, fun Γ X c => op_isN.or op_isBl, fun _ => sim_isN⟩, fun b => .inr (.inr (nomark b))⟩
theorem c_notN : Cop .IsNot (isNOp true) := ⟨⟨fun _ => rNotA, fun Γ X c => op_notN.or op_notBl, fun _ => sim_notN⟩, fun b => .inr (.inr (nomark b))⟩
theorem s_c {o : CmpOp} {op : Op2} (h : Cop o op) (ha : SE Γ a ma) (hb : SE Γ b mb) (hm : behindInMarks o b = false := by first | exact nomark _ | rfl) : SE Γ (.Compare a [o] [b] pos) (eBin op ma mb) :=
  let ⟨_, h1, h2⟩ := h.ex
  s_cmp (fun X c => h1 Γ X c) (h2 _) ha hb hm
theorem t_c {o : CmpOp} {op : Op2} (h : Cop o op) (ha : SE Γ a ma) (hb : SE Γ b mb) (hm : behindInMarks o b = false := by first | exact nomark _ | rfl) : ST Γ (.Compare a [o] [b] pos) (tOf (eBin op ma mb)) :=
  let ⟨_, h1, h2⟩ := h.ex
  t_cmp (fun X c => h1 Γ X c) (h2 _) ha hb hm
/-- a op1 b op2 c -/
def eChain (o o' : Op2) (ma mb mc : AEnv → Store → Res A) : AEnv → Store → Res A := fun env st => (ma env st).bind fun a st1 => (mb env st1).bind fun b st2 => (Res.of (o a b st2)).bind fun z st3 => (asB z st3).bind fun k st4 =>
  if k then (mc env st4).bind fun c st5 => Res.of (o' b c st5) else .ok (.bl false) st4
theorem sim_chain {K : PySem.W.Frag} {W : WX} {r r' : R2} {o o' : Op2} {ta tb tc : TE} (h : SimV2 K r o) (h' : SimV2 K r' o') (ha : Sim K Rep W ta ma) (hb : Sim K Rep W tb mb) (hc : Sim K Rep W tc mc) : Sim K Rep W (tChain r r' ta tb tc) (eChain o o' ma mb mc) := by
  intro Z F μ st env σ H Q g re hp
  unfold eChain at hp
  rw [Res.post_bind] at hp
  refine ha Z F μ st env σ H _ g re (Res.post_mono hp (fun a st1 q => ?_) fun _ _ q => q)
  intro F1 μ1 H1 x e1 g1 ra
  rw [Res.post_bind] at q
  refine hb Z F1 μ1 st1 env σ H1 _ g1 (re.mono e1) (Res.post_mono q (fun b st2 q => ?_) fun _ _ q => q.ext e1)
  intro F2 μ2 H2 y e2 g2 rb
  rw [Res.post_bind] at q
  obtain ⟨z, st3, e, q⟩ := Res.post_of q
  refine h Z F2 μ2 st2 st3 H2 a b z x y _ g2 (ra.mono e2) rb e ?_
  intro F3 μ3 H3 v e3 g3 rz
  cases z with
  | bl k =>
    cases rz
    refine ⟨k, rfl, ?_⟩
    cases k with
    | true =>
      rw [if_pos rfl]
      have q : ((mc env st3).bind fun c st5 => Res.of (o' b c st5)).post (Kont K Z Rep F μ Q) (KX K Z F μ σ W) := q
      rw [Res.post_bind] at q
      have e13 := e1.trans (e2.trans e3)
      refine hc Z F3 μ3 st3 env σ H3 _ g3 (re.mono e13) (Res.post_mono q (fun c st4 q => ?_) fun _ _ q => q.ext e13)
      intro F4 μ4 H4 w' e4 g4 rc
      obtain ⟨d, st5, e', k⟩ := Res.post_of q
      exact h' Z F4 μ4 st4 st5 H4 b c d y w' Q g4 (rb.mono (e3.trans e4)) rc e' (k.ext (e13.trans e4))
    | false =>
      rw [if_neg Bool.false_ne_true]
      exact Kont.now ((show Kont K Z Rep F μ Q (.bl false) st3 from q).ext (e1.trans (e2.trans e3))) g3 (.bl _)
  | _ => exact q.elim
theorem s_chain {o o' : CmpOp} {op op' : Op2} {c : Expr} (h : Cop o op) (h' : Cop o' op') (ha : SE Γ a ma) (hb : SE Γ b mb) (hc : SE Γ c mc) (hm : lastMarks [o, o'] [b, c] = false := by with_unfolding_all rfl) : SE Γ (.Compare a [o, o'] [b, c] pos) (eChain op op' ma mb mc) :=
  ⟨fun W => by
    obtain ⟨r, h1, h2⟩ := h.ex
    obtain ⟨r', h1', h2'⟩ := h'.ex
    obtain ⟨ta, sa, pa⟩ := ha.run W
    obtain ⟨tb, sb, pb⟩ := hb.run W
    obtain ⟨tc, sc, pc⟩ := hc.run W
    refine ⟨_, sim_chain (h2 _) (h2' _) sa sb sc, fun X c t => ?_⟩
    rw [← c.K]
    exact pe_chain (h1 Γ X c) (h1' Γ X c) (pa X c t) (pb X c t) (pc X c t) hm⟩
theorem t_chain {o o' : CmpOp} {op op' : Op2} {c : Expr} (h : Cop o op) (h' : Cop o' op') (ha : SE Γ a ma) (hb : SE Γ b mb) (hc : SE Γ c mc) (hm : lastMarks [o, o'] [b, c] = false := by with_unfolding_all rfl) : ST Γ (.Compare a [o, o'] [b, c] pos) (tOf (eChain op op' ma mb mc)) :=
  ⟨fun W => by
    obtain ⟨r, h1, h2⟩ := h.ex
    obtain ⟨r', h1', h2'⟩ := h'.ex
    obtain ⟨ta, sa, pa⟩ := ha.run W
    obtain ⟨tb, sb, pb⟩ := hb.run W
    obtain ⟨tc, sc, pc⟩ := hc.run W
    refine ⟨_, sim_test (sim_chain (h2 _) (h2' _) sa sb sc), fun X c t => ?_⟩
    rw [← c.K]
    exact pt_chain (h1 Γ X c) (h1' Γ X c) (pa X c t) (pb X c t) (pc X c t) hm⟩
/-- any value's truth -/
def tTru (m : AEnv → Store → Res A) : AEnv → Store → Res Bool := fun env st => (m env st).bind fun a st1 => match truA st1 a with
  | some b => .ok b st1
  | none => .stuck
theorem t_tru (ha : SE Γ a ma) (he : ∀ env whole, isTrue a env whole = (do let v ← whole; standAt a.pos; holding [v] (truthy v)) := by intro _ _; rfl) : ST Γ a (tTru ma) :=
  ⟨fun W => by
    obtain ⟨ta, sa, pa⟩ := ha.run W
    refine ⟨fun σ H Q => ta σ H fun x H' => ∃ k, TruV Γ.K x H' k ∧ Q k H', ?_, fun X c t => ?_⟩
    · refine Sim.bind (k := fun x σ H Q => ∃ k, TruV Γ.K x H k ∧ Q k H) (m' := fun a env st1 => match truA st1 a with | some b => .ok b st1 | none => .stuck) sa fun Z F μ st env σ H Q a x g re ra hp => ?_
      cases e : truA st a with
      | none => rw [e] at hp; exact hp.elim
      | some b => rw [e] at hp; exact ⟨b, tru_of g ra e, Kont.now (show Kont Γ.K Z RepB F μ Q b st from hp) g rfl⟩
    · rw [← c.K]
      exact pt_truth (pa X c t) (he X.env)⟩
variable {p q : AEnv → Store → Res Bool} {rest : List Expr}
def tAndM (p q : AEnv → Store → Res Bool) : AEnv → Store → Res Bool := fun env st => (p env st).bind fun c st1 => if c then q env st1 else .ok false st1
def tOrM (p q : AEnv → Store → Res Bool) : AEnv → Store → Res Bool := fun env st => (p env st).bind fun c st1 => if c then .ok true st1 else q env st1
def tNotM (p : AEnv → Store → Res Bool) : AEnv → Store → Res Bool := fun env st => (p env st).bind fun c st1 => .ok (!c) st1
theorem sim_and {K : PySem.W.Frag} {W : WX} {t u : TT} (h : Sim K RepB W t p) (h' : Sim K RepB W u q) : Sim K RepB W (tAnd t u) (tAndM p q) :=
  Sim.bind (k := fun c σ H Q => if c = true then u σ H Q else Q false H) (m' := fun c env st1 => if c then q env st1 else .ok false st1) h fun Z F μ st env σ H Q a x g re ra hp => by
    cases (ra : a = x)
    cases a with
    | true => rw [if_pos rfl]; exact h' Z F μ st env σ H Q g re hp
    | false => rw [if_neg Bool.false_ne_true]; exact Kont.now (show Kont K Z RepB F μ Q false st from hp) g rfl
theorem sim_or {K : PySem.W.Frag} {W : WX} {t u : TT} (h : Sim K RepB W t p) (h' : Sim K RepB W u q) : Sim K RepB W (tOr t u) (tOrM p q) :=
  Sim.bind (k := fun c σ H Q => if c = true then Q true H else u σ H Q) (m' := fun c env st1 => if c then .ok true st1 else q env st1) h fun Z F μ st env σ H Q a x g re ra hp => by
    cases (ra : a = x)
    cases a with
    | true => rw [if_pos rfl]; exact Kont.now (show Kont K Z RepB F μ Q true st from hp) g rfl
    | false => rw [if_neg Bool.false_ne_true]; exact h' Z F μ st env σ H Q g re hp
theorem sim_not {K : PySem.W.Frag} {W : WX} {t : TT} (h : Sim K RepB W t p) : Sim K RepB W (tNot t) (tNotM p) :=
  Sim.bind (k := fun c σ H Q => Q (!c) H) (m' := fun c env st1 => .ok (!c) st1) h fun Z F μ st env σ H Q a x g re ra hp => by
    cases (ra : a = x)
    exact Kont.now (show Kont K Z RepB F μ Q (!a) st from hp) g rfl
theorem w_and1 (ha : ST Γ a p) : SWt Γ (.BoolOp .And [a] pos) p := ⟨fun W => let ⟨t, s, h⟩ := ha.run W; ⟨t, s, fun X c k => pw_and1 (h X c k)⟩⟩
theorem w_or1 (ha : ST Γ a p) : SWt Γ (.BoolOp .Or [a] pos) p := ⟨fun W => let ⟨t, s, h⟩ := ha.run W; ⟨t, s, fun X c k => pw_or1 (h X c k)⟩⟩
theorem w_and (ha : ST Γ a p) (hb : SWt Γ (.BoolOp .And (b :: rest) pos) q) : SWt Γ (.BoolOp .And (a :: b :: rest) pos) (tAndM p q) :=
  ⟨fun W => let ⟨t, s, h⟩ := ha.run W; let ⟨t', s', h'⟩ := hb.run W; ⟨_, sim_and s s', fun X c k => pw_and (h X c k) (h' X c k)⟩⟩
theorem w_or (ha : ST Γ a p) (hb : SWt Γ (.BoolOp .Or (b :: rest) pos) q) : SWt Γ (.BoolOp .Or (a :: b :: rest) pos) (tOrM p q) :=
  ⟨fun W => let ⟨t, s, h⟩ := ha.run W; let ⟨t', s', h'⟩ := hb.run W; ⟨_, sim_or s s', fun X c k => pw_or (h X c k) (h' X c k)⟩⟩
theorem t_w (h : SWt Γ e p) : ST Γ e p := ⟨fun W => let ⟨t, s, h⟩ := h.run W; ⟨t, s, fun X c k => (h X c k).pt⟩⟩
theorem t_not (h : ST Γ a p) : ST Γ (.UnaryOp .Not a pos) (tNotM p) := ⟨fun W => let ⟨t, s, h⟩ := h.run W; ⟨_, sim_not s, fun X c k => pt_not (h X c k)⟩⟩
/-- and, or as values: True and False alone -/
def eAndV (ma mb : AEnv → Store → Res A) : AEnv → Store → Res A := fun env st => (ma env st).bind fun a st1 => (asB a st1).bind fun c st2 => if c then mb env st2 else .ok (.bl false) st2
def eOrV (ma mb : AEnv → Store → Res A) : AEnv → Store → Res A := fun env st => (ma env st).bind fun a st1 => (asB a st1).bind fun c st2 => if c then .ok (.bl true) st2 else mb env st2
def eNotV (ma : AEnv → Store → Res A) : AEnv → Store → Res A := fun env st => (ma env st).bind fun a st1 => (asB a st1).bind fun c st2 => .ok (.bl (!c)) st2
theorem sim_andV {K : PySem.W.Frag} {W : WX} {t u : TE} (h : Sim K Rep W t ma) (h' : Sim K Rep W u mb) : Sim K Rep W (tAndV t u) (eAndV ma mb) :=
  Sim.bind (R' := Rep) (k := fun x σ H Q => ∃ c, x = V.bl c ∧ if c = true then u σ H Q else Q (V.bl false) H) (m' := fun a env st1 => (asB a st1).bind fun c st2 => if c then mb env st2 else .ok (A.bl false) st2) h fun Z F μ st env σ H Q a x g re ra hp => by
    cases a with
    | bl b =>
      cases ra
      refine ⟨b, rfl, ?_⟩
      cases b with
      | true => rw [if_pos rfl]; exact h' Z F μ st env σ H Q g re hp
      | false => rw [if_neg Bool.false_ne_true]; exact Kont.now (show Kont K Z Rep F μ Q (.bl false) st from hp) g (.bl _)
    | _ => exact hp.elim
theorem sim_orV {K : PySem.W.Frag} {W : WX} {t u : TE} (h : Sim K Rep W t ma) (h' : Sim K Rep W u mb) : Sim K Rep W (tOrV t u) (eOrV ma mb) :=
  Sim.bind (R' := Rep) (k := fun x σ H Q => ∃ c, x = V.bl c ∧ if c = true then Q (V.bl true) H else u σ H Q) (m' := fun a env st1 => (asB a st1).bind fun c st2 => if c then .ok (A.bl true) st2 else mb env st2) h fun Z F μ st env σ H Q a x g re ra hp => by
    cases a with
    | bl b =>
      cases ra
      refine ⟨b, rfl, ?_⟩
      cases b with
      | true => rw [if_pos rfl]; exact Kont.now (show Kont K Z Rep F μ Q (.bl true) st from hp) g (.bl _)
      | false => rw [if_neg Bool.false_ne_true]; exact h' Z F μ st env σ H Q g re hp
    | _ => exact hp.elim
theorem sim_notV {K : PySem.W.Frag} {W : WX} {t : TE} (h : Sim K Rep W t ma) : Sim K Rep W (tNotV t) (eNotV ma) :=
  Sim.bind (R' := Rep) (k := fun x σ H Q => ∃ c, x = V.bl c ∧ Q (V.bl (!c)) H) (m' := fun a env st1 => (asB a st1).bind fun c st2 => .ok (A.bl (!c)) st2) h fun Z F μ st env σ H Q a x g re ra hp => by
    cases a with
    | bl b => cases ra; exact ⟨b, rfl, Kont.now (show Kont K Z Rep F μ Q (.bl (!b)) st from hp) g (.bl _)⟩
    | _ => exact hp.elim
theorem s_one {o} (h : SE Γ a ma) : SE Γ (.BoolOp o [a] pos) ma := ⟨fun W => let ⟨t, s, h⟩ := h.run W; ⟨t, s, fun X c k => pe_one (h X c k)⟩⟩
theorem s_and (ha : SE Γ a ma) (hb : SE Γ (.BoolOp .And (b :: rest) pos) mb) : SE Γ (.BoolOp .And (a :: b :: rest) pos) (eAndV ma mb) :=
  ⟨fun W => let ⟨t, s, h⟩ := ha.run W; let ⟨t', s', h'⟩ := hb.run W; ⟨_, sim_andV s s', fun X c k => pe_and (h X c k) (h' X c k)⟩⟩
theorem s_or (ha : SE Γ a ma) (hb : SE Γ (.BoolOp .Or (b :: rest) pos) mb) : SE Γ (.BoolOp .Or (a :: b :: rest) pos) (eOrV ma mb) :=
  ⟨fun W => let ⟨t, s, h⟩ := ha.run W; let ⟨t', s', h'⟩ := hb.run W; ⟨_, sim_orV s s', fun X c k => pe_or (h X c k) (h' X c k)⟩⟩
theorem s_not (ha : SE Γ a ma) : SE Γ (.UnaryOp .Not a pos) (eNotV ma) := ⟨fun W => let ⟨t, s, h⟩ := ha.run W; ⟨_, sim_notV s, fun X c k => pe_not (h X c k)⟩⟩
def eIf (p : AEnv → Store → Res Bool) (ma mb : AEnv → Store → Res A) : AEnv → Store → Res A := fun env st => (p env st).bind fun c st1 => if c then ma env st1 else mb env st1
theorem s_if {c : Expr} (hc : ST Γ c p) (ha : SE Γ a ma) (hb : SE Γ b mb) : SE Γ (.IfExp c a b pos) (eIf p ma mb) :=
  ⟨fun W => by
    obtain ⟨tc, sc, pc⟩ := hc.run W
    obtain ⟨ta, sa, pa⟩ := ha.run W
    obtain ⟨tb, sb, pb⟩ := hb.run W
    refine ⟨tIf tc ta tb, ?_, fun X c t => pe_ifExp (pc X c t) (pa X c t) (pb X c t)⟩
    refine Sim.bind (k := fun c σ H Q => if c = true then ta σ H Q else tb σ H Q) (m' := fun c env st1 => if c then ma env st1 else mb env st1) sc fun Z F μ st env σ H Q a x g re ra hp => ?_
    cases (ra : a = x)
    cases a with
    | true => rw [if_pos rfl]; exact sa Z F μ st env σ H Q g re hp
    | false => rw [if_neg Bool.false_ne_true]; exact sb Z F μ st env σ H Q g re hp⟩

/-! ### arguments, displays -/
def aNil : AEnv → Store → Res (List A) := fun _ st => .ok [] st
def aCons (m : AEnv → Store → Res A) (ms : AEnv → Store → Res (List A)) : AEnv → Store → Res (List A) := fun env st => (m env st).bind fun a st1 => (ms env st1).bind fun as st2 => .ok (a :: as) st2
variable {es : List Expr} {ms : AEnv → Store → Res (List A)}
theorem a_nil : SA Γ [] aNil := ⟨fun W => ⟨tNil, fun Z F μ st env σ H Q g re h => Kont.now (show Kont Γ.K Z Reps F μ Q [] st from h) g .nil, fun X c t => pa_nil⟩⟩
theorem a_cons (ha : SE Γ e ma) (hr : SA Γ es ms) (hs : ∀ env, starEach (e :: es) env = (false, eval e env) :: starEach es env := by intro _; rfl) : SA Γ (e :: es) (aCons ma ms) :=
  ⟨fun W => by
    obtain ⟨ta, sa, pa⟩ := ha.run W
    obtain ⟨tr, sr, pr⟩ := hr.run W
    refine ⟨tCons ta tr, ?_, fun X c t => pa_cons (pa X c t) (pr X c t) (hs _)⟩
    refine Sim.bind (R' := Reps) (k := fun x σ H Q => tr σ H fun xs H2 => Q (x :: xs) H2) (m' := fun a env st1 => (ms env st1).bind fun as st2 => .ok (a :: as) st2) sa fun Z F μ st env σ H Q a x g re ra hp => ?_
    rw [Res.post_bind] at hp
    refine sr Z F μ st env σ H _ g re (Res.post_mono hp (fun as st2 q => ?_) fun _ _ q => q)
    intro F1 μ1 H1 xs e1 g1 rs
    exact Kont.now ((show Kont Γ.K Z Reps F μ Q (a :: as) st2 from q).ext e1) g1 (.cons (ra.mono e1) rs)⟩
def eTup (ms : AEnv → Store → Res (List A)) : AEnv → Store → Res A := fun env st => (ms env st).bind fun xs st1 => if xs.length ≤ sizeLine then .ok (.tup xs) st1 else .stuck
def eLst (mk : Bool) (ms : AEnv → Store → Res (List A)) : AEnv → Store → Res A := fun env st => (ms env st).bind fun xs st1 => if xs.length ≤ sizeLine then .ok (newL mk xs st1).1 (newL mk xs st1).2 else .stuck
theorem s_tup {k} (h : SA Γ es ms) : SE Γ (.Tuple es k pos) (eTup ms) :=
  ⟨fun W => by
    obtain ⟨ta, sa, pa⟩ := h.run W
    refine ⟨tTup ta, ?_, fun X c t => pe_tup (pa X c t)⟩
    refine Sim.bind (R' := Rep) (k := fun xs σ H Q => xs.length ≤ sizeLine ∧ ∀ p, H p = none → Q (V.ref p) (upd H p (HO.tup xs))) (m' := fun xs env st1 => if xs.length ≤ sizeLine then .ok (A.tup xs) st1 else .stuck) sa fun Z F μ st env σ H Q a x g re ra hp => ?_
    by_cases hl : a.length ≤ sizeLine
    · rw [if_pos hl] at hp
      exact ⟨by rw [← ra.length]; exact hl, fun p hp' => newT_ok g hp' ra hp⟩
    · rw [if_neg hl] at hp; exact hp.elim⟩
theorem s_lst {mk : Bool} (h : SA Γ es ms) : SE Γ (.List es pos) (eLst mk ms) :=
  ⟨fun W => by
    obtain ⟨ta, sa, pa⟩ := h.run W
    refine ⟨tLst ta, ?_, fun X c t => pe_lst (pa X c t)⟩
    refine Sim.bind (R' := Rep) (k := fun xs σ H Q => xs.length ≤ sizeLine ∧ ∀ p, H p = none → Q (V.ref p) (upd H p (HO.lst xs))) (m' := fun xs env st1 => if xs.length ≤ sizeLine then .ok (newL mk xs st1).1 (newL mk xs st1).2 else .stuck) sa fun Z F μ st env σ H Q a x g re ra hp => ?_
    by_cases hl : a.length ≤ sizeLine
    · rw [if_pos hl] at hp
      exact ⟨by rw [← ra.length]; exact hl, fun p hp' => newL_ok (mk := mk) g hp' ra hp⟩
    · rw [if_neg hl] at hp; exact hp.elim⟩

/-! ### subscripts, slices -/
def ixL : Op2 := fun a b st => match seqR a st, b with
  | some xs, .int i => (atI xs i).map fun c => (c, st)
  | _, _ => none
def ixS : Op2 := fun a b st => match a, b with
  | .str z, .int i => if z.length ≤ sizeLine then (atI z.cps.toList i).map fun c => (.str ⟨#[c]⟩, st) else none
  | _, _ => none
def ixOp : Op2 := fun a b st => (ixL a b st).or (ixS a b st)
theorem atI_reps {K : PySem.W.Frag} {F : Hp} {μ : List Addr} {xs : List A} {vs : List V} {i : Int} {c : A} (r : Reps K F μ xs vs) (h : atI xs i = some c) : ∃ v, atI vs i = some v ∧ Rep K F μ c v := by
  unfold atI at h ⊢
  rw [← r.length]
  cases e : ixN xs.length i with
  | none => rw [e] at h; cases h
  | some j =>
    rw [e] at h
    obtain ⟨v, h1, h2⟩ := r.get (i := j) (a := c) h
    exact ⟨v, h1, h2⟩
theorem sim_ixL {K : PySem.W.Frag} : SimV2 K (fun x y H Q => rIxL K x y H Q ∨ rIxT K x y H Q) ixL := by
  intro Z F μ st st' H a b c x y Q g ra rb e k
  unfold ixL at e
  cases e1 : seqR a st with
  | none => rw [e1] at e; cases e
  | some xs =>
    rw [e1] at e
    cases b with
    | int i =>
      cases rb
      have e : (atI xs i).map (fun c => (c, st)) = some (c, st') := e
      cases e2 : atI xs i with
      | none => rw [e2] at e; cases e
      | some d =>
        rw [e2] at e; cases e
        obtain ⟨p, vs, rfl, h1, r1⟩ := seqR_ok g ra e1
        obtain ⟨v, h2, h3⟩ := atI_reps r1 e2
        rcases h1 with h1 | h1
        · exact .inl ⟨p, vs, i, v, rfl, rfl, h1, h2, k.same g h3⟩
        · exact .inr ⟨p, vs, i, v, rfl, rfl, h1, h2, k.same g h3⟩
    | _ => cases e
theorem sim_ixS {K : PySem.W.Frag} : SimV2 K rIxS ixS := by
  intro Z F μ st st' H a b c x y Q g ra rb e k
  cases a with
  | str z =>
    cases b with
    | int i =>
      cases ra; cases rb
      have e : (if z.length ≤ sizeLine then (atI z.cps.toList i).map (fun c => (A.str ⟨#[c]⟩, st)) else none) = some (c, st') := e
      by_cases hl : z.length ≤ sizeLine
      · rw [if_pos hl] at e
        cases e2 : atI z.cps.toList i with
        | none => rw [e2] at e; cases e
        | some d =>
          rw [e2] at e; cases e
          exact ⟨z, i, d, rfl, rfl, hl, e2, k.same g (.str _)⟩
      · rw [if_neg hl] at e; cases e
    | _ => cases e
  | _ => cases e
theorem sim_ix {K : PySem.W.Frag} : SimV2 K (fun x y H Q => (rIxL K x y H Q ∨ rIxT K x y H Q) ∨ rIxS x y H Q) ixOp := SimV2.or sim_ixL sim_ixS
theorem s_ix (ha : SE Γ a ma) (hb : SE Γ b mb) (hs : PlainIx b := by intro _ _; rfl) : SE Γ (.Subscript a b pos) (eBin ixOp ma mb) :=
  ⟨fun W => by
    obtain ⟨ta, sa, pa⟩ := ha.run W
    obtain ⟨tb, sb, pb⟩ := hb.run W
    refine ⟨_, sim_bin sim_ix sa sb, fun X c t => ?_⟩
    rw [← c.K]
    exact pe_ix ((ix_list.or ix_tup).or ix_str) (pa X c t) (pb X c t) hs⟩
/-- a slice's part -/
structure SO (Γ : G) (e : Option Expr) (m : AEnv → Store → Res (Option Int)) : Prop where
  run : ∀ W : WX, ∃ t : TO, Sim Γ.K (fun _ _ _ (a b : Option Int) => a = b) W t m ∧ ∀ X, CtxOk Γ X → Takes X W → PO X e t
def oNone : AEnv → Store → Res (Option Int) := fun _ st => .ok none st
def oSome (m : AEnv → Store → Res A) : AEnv → Store → Res (Option Int) := fun env st => (m env st).bind fun a st1 => match a with
  | .int i => .ok (some i) st1
  | _ => .stuck
theorem o_none : SO Γ none oNone := ⟨fun W => ⟨tNoPart, fun Z F μ st env σ H Q g re h => Kont.now (show Kont Γ.K Z (fun _ _ _ (a b : Option Int) => a = b) F μ Q none st from h) g rfl, fun X c t => po_none⟩⟩
theorem o_some (h : SE Γ e ma) : SO Γ (some e) (oSome ma) :=
  ⟨fun W => by
    obtain ⟨ta, sa, pa⟩ := h.run W
    refine ⟨tPart ta, ?_, fun X c t => po_some (pa X c t)⟩
    refine Sim.bind (R' := fun _ _ _ (a b : Option Int) => a = b) (k := fun x σ H Q => ∃ i, x = V.int i ∧ Q (some i) H) (m' := fun a env st1 => match a with | .int i => .ok (some i) st1 | _ => .stuck) sa fun Z F μ st env σ H Q a x g re ra hp => ?_
    cases a with
    | int i => cases ra; exact ⟨i, rfl, Kont.now (show Kont Γ.K Z (fun _ _ _ (a b : Option Int) => a = b) F μ Q (some i) st from hp) g rfl⟩
    | _ => exact hp.elim⟩
def cutA (xs : List A) (lo hi : Option Int) : List A := (xs.drop (HT.sIx xs.length 0 lo)).take (HT.sIx xs.length xs.length hi - HT.sIx xs.length 0 lo)
theorem cutA_reps {K : PySem.W.Frag} {F : Hp} {μ : List Addr} {xs : List A} {vs : List V} (r : Reps K F μ xs vs) (lo hi : Option Int) : Reps K F μ (cutA xs lo hi) (cutV vs lo hi) := by
  unfold cutA cutV
  rw [r.length]
  exact (r.drop _).take _
/-- x[lo:hi] -/
def slOp (mk : Bool) (a : A) (lo hi : Option Int) (st : Store) : Option (A × Store) := match a with
  | .tup xs => if HT.sIx xs.length 0 lo = 0 ∧ HT.sIx xs.length xs.length hi = xs.length then none else some (.tup (cutA xs lo hi), st)
  | .str z => if z.length ≤ sizeLine then some (.str (cutS z lo hi), st) else none
  | a => (lstR a st).map fun xs => newL mk (cutA xs lo hi) st
theorem SlR_K {X : Cx} {K : PySem.W.Frag} (h : X.K = K) : True := trivial
def rSlA (K : PySem.W.Frag) : V → Option Int → Option Int → Hp → VK → Prop := fun x lo hi H Q => rSlT K x lo hi H Q ∨ (∃ z, x = .str z ∧ z.length ≤ sizeLine ∧ Q (.str (cutS z lo hi)) H) ∨ rSlL K x lo hi H Q
theorem sim_sl {K : PySem.W.Frag} {mk : Bool} {F : Hp} {μ : List Addr} {st st' : Store} {H : Hp} {a c : A} {x : V} {lo hi : Option Int} {Q : VK} (g : Good K Z F μ st H) (ra : Rep K F μ a x) (e : slOp mk a lo hi st = some (c, st')) (k : Kont K Z Rep F μ Q c st') :
    rSlA K x lo hi H Q := by
  have lists : (lstR a st).map (fun xs => newL mk (cutA xs lo hi) st) = some (c, st') → rSlA K x lo hi H Q := fun e => by
    cases e1 : lstR a st with
    | none => rw [e1] at e; cases e
    | some xs =>
      rw [e1] at e
      have e : newL mk (cutA xs lo hi) st = (c, st') := Option.some.inj e
      obtain ⟨p, vs, rfl, h1, r1⟩ := lstR_ok g ra e1
      exact .inr (.inr ⟨p, vs, rfl, h1, fun l hl => newL_ok (mk := mk) g hl (cutA_reps r1 lo hi) (by rw [e]; exact k)⟩)
  cases a with
  | tup xs =>
    have e : (if HT.sIx xs.length 0 lo = 0 ∧ HT.sIx xs.length xs.length hi = xs.length then none else some (A.tup (cutA xs lo hi), st)) = some (c, st') := e
    by_cases hw : HT.sIx xs.length 0 lo = 0 ∧ HT.sIx xs.length xs.length hi = xs.length
    · rw [if_pos hw] at e; cases e
    · rw [if_neg hw] at e; cases e
      obtain ⟨p, vs, rfl, h1, r1⟩ := tupR_ok g ra rfl
      exact .inl ⟨p, vs, rfl, h1, by rw [← r1.length]; exact hw, fun l hl => newT_ok g hl (cutA_reps r1 lo hi) k⟩
  | str z =>
    cases ra
    have e : (if z.length ≤ sizeLine then some (A.str (cutS z lo hi), st) else none) = some (c, st') := e
    by_cases hl : z.length ≤ sizeLine
    · rw [if_pos hl] at e; cases e; exact .inr (.inl ⟨z, rfl, hl, k.same g (.str _)⟩)
    · rw [if_neg hl] at e; cases e
  | _ => exact lists e
end
end SL

set_option Elab.async false
set_option linter.all false
set_option maxRecDepth 100000
set_option maxHeartbeats 4000000
/-! SLd: slices, calls of built-ins, methods. -/
namespace SL
open PySem PySem.Spec L2
open PyProof.Rows hiding St
section
variable {Γ : G} {a b e : Expr} {es : List Expr} {ma mb mc : AEnv → Store → Res A} {ms : AEnv → Store → Res (List A)} {pos p2 p apos cpos : Pos}
def eSl (mk : Bool) (ma : AEnv → Store → Res A) (ml mh : AEnv → Store → Res (Option Int)) : AEnv → Store → Res A := fun env st => (ma env st).bind fun a st1 => (ml env st1).bind fun lo st2 => (mh env st2).bind fun hi st3 => Res.of (slOp mk a lo hi st3)
theorem s_sl {mk : Bool} {lo hi : Option Expr} {ml mh : AEnv → Store → Res (Option Int)} (ha : SE Γ a ma) (hl : SO Γ lo ml) (hh : SO Γ hi mh) : SE Γ (.Subscript a (.Slice lo hi none p2) pos) (eSl mk ma ml mh) :=
  ⟨fun W => by
    obtain ⟨ta, sa, pa⟩ := ha.run W
    obtain ⟨tl, sl, pl⟩ := hl.run W
    obtain ⟨th, sh, ph⟩ := hh.run W
    refine ⟨tSl (rSlA Γ.K) ta tl th, ?_, fun X c t => ?_⟩
    · intro Z F μ st env σ H Q g re hp
      unfold eSl at hp
      rw [Res.post_bind] at hp
      refine sa Z F μ st env σ H _ g re (Res.post_mono hp (fun a st1 q => ?_) fun _ _ q => q)
      intro F1 μ1 H1 x e1 g1 ra
      rw [Res.post_bind] at q
      refine sl Z F1 μ1 st1 env σ H1 _ g1 (re.mono e1) (Res.post_mono q (fun l st2 q => ?_) fun _ _ q => q.ext e1)
      intro F2 μ2 H2 l' e2 g2 rl
      cases rl
      rw [Res.post_bind] at q
      refine sh Z F2 μ2 st2 env σ H2 _ g2 (re.mono (e1.trans e2)) (Res.post_mono q (fun h st3 q => ?_) fun _ _ q => q.ext (e1.trans e2))
      intro F3 μ3 H3 h' e3 g3 rh
      cases rh
      obtain ⟨c, st4, e, k⟩ := Res.post_of q
      exact sim_sl (mk := mk) g3 (ra.mono (e2.trans e3)) e (k.ext (e1.trans (e2.trans e3)))
    · rw [← c.K]
      exact pe_slice (sl_tup.or (sl_str.or sl_list)) (pa X c t) (pl X c t) (ph X c t)⟩

/-! ### calls of built-ins -/
def eCB (op : OpN) (ms : AEnv → Store → Res (List A)) : AEnv → Store → Res A := fun env st => (ms env st).bind fun xs st1 => Res.of (op xs st1)
theorem sim_cb {K : PySem.W.Frag} {W : WX} {r : List V → Hp → VK → Prop} {op : OpN} {t : TA} (h : SimVN K r op) (ha : Sim K Reps W t ms) : Sim K Rep W (tCB r t) (eCB op ms) :=
  Sim.bind (k := fun xs σ H Q => r xs H Q) (m' := fun xs env st1 => Res.of (op xs st1)) ha fun Z F μ st env σ H Q a x g re ra hp => by
    obtain ⟨c, st3, e, k⟩ := Res.post_of hp
    exact h Z F μ st st3 H a c x Q g ra e k
/-- a built-in with its plain function -/
structure Cb (f : Value) (op : OpN) : Prop where
  ex : ∃ r : PySem.W.Frag → List V → Hp → VK → Prop, (∀ (Γ : G) (X : Cx), CtxOk Γ X → Γ.calm = true → CallR X f (r X.K)) ∧ ∀ K, SimVN K (r K) op
theorem Cb.or {f : Value} {op op' : OpN} (h : Cb f op) (h' : Cb f op') : Cb f (fun xs st => (op xs st).or (op' xs st)) := by
  obtain ⟨r, h1, h2⟩ := h.ex
  obtain ⟨r', h1', h2'⟩ := h'.ex
  refine ⟨⟨fun K xs H Q => r K xs H Q ∨ r' K xs H Q, fun Γ X c cm => (h1 Γ X c cm).or (h1' Γ X c cm), fun K Z F μ st st' H as c xs Q g ra e k => ?_⟩⟩
  cases e1 : op as st with
  | none => simp only [e1, Option.none_or] at e; exact .inr (h2' K Z F μ st st' H as c xs Q g ra e k)
  | some p => simp only [e1, Option.some_or] at e; cases e; exact .inl (h2 K Z F μ st st' H as c xs Q g ra e1 k)
theorem s_cb {x : Str} {id : String} {op : OpN} (h : Cb (.builtin id) op) (hg : Γ.sc.names.lookup x = some .globalImplicit) (hm : Γ.mg x = none) (hv : bootBuiltins x = some (.builtin id)) (ha : SA Γ (e :: es) ms)
    (hn : x ≠ "__name__" := by decide) (hdb : (x == ("__debug__" : Str)) = false := by decide)
    (he : ∀ env, starEach (e :: es) env = (false, eval e env) :: starEach es env := by intro _; rfl) (hpl : ∀ env, (backTo pos (starEach es env)).any (·.1) = false := by intro _; rfl) (cm : Γ.calm = true := by rfl) : SE Γ (.Call (.Name x p) (e :: es) [] pos) (eCB op ms) :=
  ⟨fun W => by
    obtain ⟨r, h1, h2⟩ := h.ex
    obtain ⟨ta, sa, pa⟩ := ha.run W
    refine ⟨_, sim_cb (h2 _) sa, fun X c t => ?_⟩
    rw [← c.K]
    exact pe_callB (h1 Γ X c cm) (c.gl hg) (c.mgn hm) hv (pa X c t) hn hdb (he _) (hpl _)⟩
theorem s_cty {x : Str} {T : String} {op : OpN} (h : Cb (.type T) op) (hg : Γ.sc.names.lookup x = some .globalImplicit) (hm : Γ.mg x = none) (hv : bootBuiltins x = some (.type T)) (ha : SA Γ (e :: es) ms)
    (hn : x ≠ "__name__" := by decide) (hdb : (x == ("__debug__" : Str)) = false := by decide)
    (he : ∀ env, starEach (e :: es) env = (false, eval e env) :: starEach es env := by intro _; rfl) (hpl : ∀ env, (backTo pos (starEach es env)).any (·.1) = false := by intro _; rfl) (cm : Γ.calm = true := by rfl) : SE Γ (.Call (.Name x p) (e :: es) [] pos) (eCB op ms) :=
  ⟨fun W => by
    obtain ⟨r, h1, h2⟩ := h.ex
    obtain ⟨ta, sa, pa⟩ := ha.run W
    refine ⟨_, sim_cb (h2 _) sa, fun X c t => ?_⟩
    rw [← c.K]
    exact pe_callTy (h1 Γ X c cm) (c.gl hg) (c.mgn hm) hv (pa X c t) hn hdb (he _) (hpl _)⟩
/-- of one argument -/
def one1 (op : Op1) : OpN := fun xs st => match xs with
  | [a] => op a st
  | _ => none
def two2 (op : Op2) : OpN := fun xs st => match xs with
  | [a, b] => op a b st
  | _ => none
theorem cb1 {f : Value} {r : PySem.W.Frag → List V → Hp → VK → Prop} {op : Op1} (h : ∀ (Γ : G) (X : Cx), CtxOk Γ X → Γ.calm = true → CallR X f (r X.K))
    (h' : ∀ (K : PySem.W.Frag) (Z F : Hp) (μ : List Addr) (st st' : Store) (H : Hp) (a c : A) (x : V) (Q : VK), Good K Z F μ st H → Rep K F μ a x → op a st = some (c, st') → Kont K Z Rep F μ Q c st' → r K [x] H Q) : Cb f (one1 op) :=
  ⟨⟨r, h, fun K Z F μ st st' H as c xs Q g ra e k => by
    cases as with
    | nil => cases e
    | cons a as =>
      cases as with
      | nil =>
        obtain ⟨x, rfl, ra1⟩ := ra.one
        exact h' K Z F μ st st' H a c x Q g ra1 e k
      | cons b as => cases e⟩⟩
theorem cb2 {f : Value} {r : PySem.W.Frag → List V → Hp → VK → Prop} {op : Op2} (h : ∀ (Γ : G) (X : Cx), CtxOk Γ X → Γ.calm = true → CallR X f (r X.K))
    (h' : ∀ (K : PySem.W.Frag) (Z F : Hp) (μ : List Addr) (st st' : Store) (H : Hp) (a b c : A) (x y : V) (Q : VK), Good K Z F μ st H → Rep K F μ a x → Rep K F μ b y → op a b st = some (c, st') → Kont K Z Rep F μ Q c st' → r K [x, y] H Q) : Cb f (two2 op) :=
  ⟨⟨r, h, fun K Z F μ st st' H as c xs Q g ra e k => by
    cases as with
    | nil => cases e
    | cons a as =>
      cases as with
      | nil => cases e
      | cons b as =>
        cases as with
        | nil =>
          obtain ⟨x, y, rfl, ra1, rb1⟩ := ra.two
          exact h' K Z F μ st st' H a b c x y Q g ra1 rb1 e k
        | cons b as => cases e⟩⟩
/-! len -/
def lenA : Op1 := fun a st => match a with
  | .str y => if y.length ≤ sizeLine then some (.int y.length, st) else none
  | a => (seqR a st).map fun xs => (.int xs.length, st)
theorem cb_len : Cb (.builtin "len") (one1 lenA) := cb1 (r := fun K xs H Q => ∃ x n, xs = [x] ∧ LenV K x H n ∧ Q (.int n) H) (fun _ _ _ _ => call_len) fun K Z F μ st st' H a c x Q g ra e k => by
  have seq_len : (seqR a st).map (fun xs => (A.int xs.length, st)) = some (c, st') → ∃ x' n, [x] = [x'] ∧ LenV K x' H n ∧ Q (.int n) H := fun e => by
    cases e1 : seqR a st with
    | none => rw [e1] at e; cases e
    | some xs =>
      rw [e1] at e; cases e
      obtain ⟨p, vs, rfl, h1, r1⟩ := seqR_ok g ra e1
      refine ⟨_, xs.length, rfl, ?_, k.same g (.int _)⟩
      rcases h1 with h1 | h1
      · exact .inl ⟨vs, h1, r1.length⟩
      · exact .inr ⟨vs, h1, r1.length⟩
  cases a with
  | str y =>
    cases ra
    have e : (if y.length ≤ sizeLine then some (A.int y.length, st) else none) = some (c, st') := e
    by_cases hl : y.length ≤ sizeLine
    · rw [if_pos hl] at e; cases e; exact ⟨V.str y, y.length, rfl, (show y.length ≤ sizeLine ∧ y.length = y.length from ⟨hl, rfl⟩), k.same g (.int _)⟩
    · rw [if_neg hl] at e; cases e
  | _ => exact seq_len e
/-! list(x), tuple(x) -/
def listA (mk : Bool) : Op1 := fun a st => (seqR a st).map fun ys => newL mk ys st
theorem cb_list {mk : Bool} : Cb (.type "list") (one1 (listA mk)) := cb1 (r := fun K xs H Q => ∃ p ys, xs = [.ref p] ∧ (SqL K H p ys ∨ SqT K H p ys) ∧ ∀ l, H l = none → Q (.ref l) (upd H l (.lst ys))) (fun _ _ _ _ => call_list_of) fun K Z F μ st st' H a c x Q g ra e k => by
  have e : (seqR a st).map (fun ys => newL mk ys st) = some (c, st') := e
  cases e1 : seqR a st with
  | none => rw [e1] at e; cases e
  | some ys =>
    rw [e1] at e
    have e : newL mk ys st = (c, st') := Option.some.inj e
    obtain ⟨p, vs, rfl, h1, r1⟩ := seqR_ok g ra e1
    exact ⟨p, vs, rfl, h1, fun l hl => newL_ok (mk := mk) g hl r1 (by rw [e]; exact k)⟩
def tupleA : Op1 := fun a st => match a with
  | .tup ys => some (.tup ys, st)
  | a => (lstR a st).map fun ys => (.tup ys, st)
theorem cb_tuple : Cb (.type "tuple") (one1 tupleA) := cb1 (r := fun K xs H Q => ∃ p ys, xs = [.ref p] ∧ ((SqL K H p ys ∧ ∀ l, H l = none → Q (.ref l) (upd H l (.tup ys))) ∨ (SqT K H p ys ∧ Q (.ref p) H))) (fun _ _ _ _ => call_tuple_of) fun K Z F μ st st' H a c x Q g ra e k => by
  have lists : (lstR a st).map (fun ys => (A.tup ys, st)) = some (c, st') → ∃ p ys, [x] = [V.ref p] ∧ ((SqL K H p ys ∧ ∀ l, H l = none → Q (.ref l) (upd H l (.tup ys))) ∨ (SqT K H p ys ∧ Q (.ref p) H)) := fun e => by
    cases e1 : lstR a st with
    | none => rw [e1] at e; cases e
    | some ys =>
      rw [e1] at e; cases e
      obtain ⟨p, vs, rfl, h1, r1⟩ := lstR_ok g ra e1
      exact ⟨p, vs, rfl, .inl ⟨h1, fun l hl => newT_ok g hl r1 k⟩⟩
  cases a with
  | tup ys =>
    cases e
    obtain ⟨p, vs, rfl, h1, r1⟩ := tupR_ok g ra rfl
    exact ⟨p, vs, rfl, .inr ⟨h1, k.same g ra⟩⟩
  | _ => exact lists e
/-! int, abs, bool, sum -/
def intA : Op1 := fun a st => match a with
  | .int i => some (.int i, st)
  | .bl k => some (.int (if k then 1 else 0), st)
  | _ => none
theorem cb_int : Cb (.type "int") (one1 intA) := cb1 (r := fun _ xs H Q => (∃ i, xs = [.int i] ∧ Q (.int i) H) ∨ ∃ k, xs = [.bl k] ∧ Q (.int (if k then 1 else 0)) H) (fun _ _ _ _ => call_int1) fun K Z F μ st st' H a c x Q g ra e k => by
  cases a with
  | int i => cases ra; cases e; exact .inl ⟨i, rfl, k.same g (.int _)⟩
  | bl b => cases ra; cases e; exact .inr ⟨b, rfl, k.same g (.int _)⟩
  | _ => cases e
def absA : Op1 := fun a st => match a with
  | .int i => some (.int (if i < 0 then -i else i), st)
  | _ => none
theorem cb_abs : Cb (.builtin "abs") (one1 absA) := cb1 (r := fun _ xs H Q => ∃ i, xs = [.int i] ∧ Q (.int (if i < 0 then -i else i)) H) (fun _ _ _ _ => call_abs) fun K Z F μ st st' H a c x Q g ra e k => by
  cases a with
  | int i => cases ra; cases e; exact ⟨i, rfl, k.same g (.int _)⟩
  | _ => cases e
/-- the ints of a list of ints -/
def intsA : List A → Option (List Int) := optAll fun a => match a with
  | .int i => some i
  | _ => none
theorem intsA_ok {xs : List A} {ns : List Int} (h : intsA xs = some ns) : xs = ns.map A.int := by
  unfold intsA at h
  induction xs generalizing ns with
  | nil => cases h; rfl
  | cons x xs ih =>
    unfold optAll at h
    cases x with
    | int i =>
      cases e : optAll (fun a : A => match a with | .int i => some i | _ => none) xs with
      | none => rw [e] at h; cases h
      | some ms => rw [e] at h; cases h; rw [ih e]; rfl
    | _ => cases h
@[simp] theorem intsA_map (ns : List Int) : intsA (ns.map A.int) = some ns := by
  unfold intsA
  induction ns with
  | nil => rfl
  | cons n ns ih => rw [List.map_cons]; unfold optAll; rw [ih]
def sumA : Op1 := fun a st => match lstR a st with
  | some xs => (intsA xs).map fun ns => (.int ns.sum, st)
  | none => none
theorem cb_sum : Cb (.builtin "sum") (one1 sumA) := cb1 (r := rSum) (fun _ _ c cm => cr_sum (c.calm cm)) fun K Z F μ st st' H a c x Q g ra e k => by
  unfold sumA at e
  cases e1 : lstR a st with
  | none => rw [e1] at e; cases e
  | some xs =>
    rw [e1] at e
    have e : (intsA xs).map (fun ns => (A.int ns.sum, st)) = some (c, st') := e
    cases e2 : intsA xs with
    | none => rw [e2] at e; cases e
    | some ns =>
      rw [e2] at e; cases e
      obtain ⟨p, vs, rfl, h1, r1⟩ := lstR_ok g ra e1
      rw [intsA_ok e2] at r1
      rw [r1.intsV] at h1
      exact ⟨p, ns, rfl, h1, k.same g (.int _)⟩
/-! isinstance of built-in types -/
/-- the name of a value's type -/
def tyName : A → Store → Option String
  | .non, _ => some "NoneType"
  | .bl _, _ => some "bool"
  | .int _, _ => some "int"
  | .str _, _ => some "str"
  | .lst _, _ => some "list"
  | .slst _, _ => some "list"
  | .tup _, _ => some "tuple"
  | .dct _ _, _ => some "dict"
  | .cell n, st => match st[n]? with
    | some (.lst _) => some "list"
    | some (.dct _ _) => some "dict"
    | _ => none
  | _, _ => none
theorem sqL_ty {K : PySem.W.Frag} {H : Hp} {p : Addr} {vs : List V} (h : SqL K H p vs) : TyX K H (.ref p) (.type "list") := by
  rcases h with (h | ⟨o, h⟩) | ⟨o, its, n, h1, h2, _⟩
  · exact .base (.lst h)
  · exact .base (.frz h)
  · exact .kList h1 h2
theorem sqT_ty {K : PySem.W.Frag} {H : Hp} {p : Addr} {vs : List V} (h : SqT K H p vs) : TyX K H (.ref p) (.type "tuple") := by
  rcases h with (h | ⟨o, h⟩) | ⟨o, its, n, h1, h2, _⟩
  · exact .base (.tup h)
  · exact .fTuple h
  · exact .kTuple h1 h2
theorem tyName_ok {K : PySem.W.Frag} {F : Hp} {μ : List Addr} {st : Store} {H : Hp} {a : A} {x : V} {n : String} (g : Good K Z F μ st H) (r : Rep K F μ a x) (h : tyName a st = some n) : TyX K H x (.type n) := by
  cases a with
  | non => cases h; cases r; exact .base .non
  | bl b => cases h; cases r; exact .base (.bl b)
  | int i => cases h; cases r; exact .base (.int i)
  | str s => cases h; cases r; exact .base (.str s)
  | lst xs => cases h; cases r with | lst h1 _ => exact .base (.lst (g.sub _ _ h1))
  | slst xs => cases h; cases r with | slst h1 _ => exact sqL_ty (SqL.mono g.sub h1)
  | tup xs => cases h; cases r with | tup h1 _ => exact sqT_ty (SqT.mono g.sub h1)
  | dct ks xs => cases h; cases r with | dct h1 _ _ => exact .base (.dK (g.sub _ _ h1))
  | cell m =>
    have h : (match st[m]? with | some (.lst _) => some "list" | some (.dct _ _) => some "dict" | _ => none) = some n := h
    cases e : st[m]? with
    | none => rw [e] at h; cases h
    | some c =>
      rw [e] at h
      cases r with
      | cell h1 =>
        cases c with
        | lst xs =>
          cases h
          obtain ⟨a, h2, _, vs, h4, _⟩ := g.cell m _ e (by intro z; cases z)
          rw [h1] at h2; cases h2
          exact .base (.lst h4)
        | dct ks xs =>
          cases h
          obtain ⟨a, h2, _, vs, h4, _⟩ := g.cell m _ e (by intro z; cases z)
          rw [h1] at h2; cases h2
          exact .base (.dK h4)
        | _ => cases h
  | _ => cases h
/-- one of these classes -/
def isiTys (n : String) : List A → Option Bool
  | [] => some false
  | .ty m :: cs => match kitB n m, isiTys n cs with
    | some b, some r => some (b || r)
    | _, _ => none
  | _ :: _ => none
theorem isiTys_ok {K : PySem.W.Frag} {F : Hp} {μ : List Addr} {n : String} : ∀ {cs : List A} {vs : List V} {b : Bool}, isiTys n cs = some b → Reps K F μ cs vs → ∃ us : List Value, Paired ClsV vs us ∧ PySem.W.kitAny K (.type n) us = some b
  | [], _, _, e, .nil => by cases e; exact ⟨[], .nil, kitAny_nil⟩
  | c :: cs, _, b, e, .cons r t => by
    cases c with
    | ty m =>
      cases r
      have e : (match kitB n m, isiTys n cs with | some b, some r => some (b || r) | _, _ => none) = some b := e
      cases e1 : kitB n m with
      | none => rw [e1] at e; cases e
      | some x =>
        cases e2 : isiTys n cs with
        | none => rw [e1, e2] at e; cases e
        | some y =>
          rw [e1, e2] at e; cases e
          obtain ⟨us, h1, h2⟩ := isiTys_ok e2 t
          refine ⟨_, .cons (.ty m) h1, kitAny_cons (kit_ty e1) (r := x || y) (fun hb => ?_) (fun hb => ?_)⟩
          · subst hb; exact h2
          · subst hb; rfl
    | _ => cases e
def isiA : Op2 := fun a c st => match tyName a st, c with
  | some n, .ty m => (kitB n m).map fun b => (.bl b, st)
  | some n, .tup cs => (isiTys n cs).map fun b => (.bl b, st)
  | _, _ => none
theorem SqT.tracked {K : PySem.W.Frag} {H : Hp} {a : Addr} {xs : List V} (h : SqT K H a xs) : True := trivial
def rIsiA (K : PySem.W.Frag) : List V → Hp → VK → Prop := fun xs H Q => rIsi K xs H Q ∨ rIsiT K xs H Q
def isiB : Op2 := fun a c st => match c with
    | .ty _ => isiA a c st
    | _ => none
theorem cb_isi : Cb (.builtin "isinstance") (two2 isiB) := cb2 (r := rIsi) (fun _ _ _ _ => call_isi) fun K Z F μ st st' H a b c x y Q g ra rb e k => by
  cases b with
  | ty m =>
    cases rb
    have e : isiA a (.ty m) st = some (c, st') := e
    unfold isiA at e
    cases e1 : tyName a st with
    | none => rw [e1] at e; cases e
    | some n =>
      rw [e1] at e
      have e : (kitB n m).map (fun b => (A.bl b, st)) = some (c, st') := e
      cases e2 : kitB n m with
      | none => rw [e2] at e; cases e
      | some b =>
        rw [e2] at e; cases e
        exact ⟨x, _, _, _, b, rfl, .ty m, tyName_ok g ra e1, kit_ty e2, k.same g (.bl _)⟩
  | _ => cases e
end
end SL

set_option Elab.async false
set_option linter.all false
set_option maxRecDepth 100000
set_option maxHeartbeats 4000000
/-! SLe: methods of built-in types; calls of defs; statements. -/
namespace SL
open PySem PySem.Spec L2
open PyProof.Rows hiding St
section
variable {Γ : G} {a b e o : Expr} {es : List Expr} {ma mb mc mo : AEnv → Store → Res A} {ms : AEnv → Store → Res (List A)} {pos p2 p apos cpos : Pos}
/-! isinstance(x, (T1, T2)) -/
def eIsiT (ma : AEnv → Store → Res A) (ms : AEnv → Store → Res (List A)) : AEnv → Store → Res A := fun env st => (ma env st).bind fun a st1 => (ms env st1).bind fun cs st2 =>
  if cs.length ≤ sizeLine then Res.of ((tyName a st2).bind fun n => (isiTys n cs).map fun b => (.bl b, st2)) else .stuck
theorem s_isiT {k : Nat} {pt : Pos} (ha : SE Γ e ma) (hc : SA Γ es ms) (hg : Γ.sc.names.lookup ("isinstance" : Str) = some .globalImplicit) (hm : Γ.mg "isinstance" = none)
    (he : ∀ env, starEach [e, .Tuple es k pt] env = (false, eval e env) :: starEach [.Tuple es k pt] env := by intro _; rfl) : SE Γ (.Call (.Name "isinstance" p) [e, .Tuple es k pt] [] pos) (eIsiT ma ms) :=
  ⟨fun W => by
    obtain ⟨ta, sa, pa⟩ := ha.run W
    obtain ⟨tc, sc, pc⟩ := hc.run W
    refine ⟨tCB (rIsiT Γ.K) (tCons ta (tCons (tTup tc) tNil)), ?_, fun X c t => ?_⟩
    · intro Z F μ st env σ H Q g re hp
      unfold eIsiT at hp
      rw [Res.post_bind] at hp
      refine sa Z F μ st env σ H _ g re (Res.post_mono hp (fun a st1 q => ?_) fun _ _ q => q)
      intro F1 μ1 H1 x e1 g1 ra
      rw [Res.post_bind] at q
      refine sc Z F1 μ1 st1 env σ H1 _ g1 (re.mono e1) (Res.post_mono q (fun cs st2 q => ?_) fun _ _ q => q.ext e1)
      intro F2 μ2 H2 xs e2 g2 rs
      by_cases hl : cs.length ≤ sizeLine
      · rw [if_pos hl] at q
        refine ⟨by rw [← rs.length]; exact hl, fun p hp => ?_⟩
        obtain ⟨c, st3, e, k⟩ := Res.post_of q
        cases en : tyName a st2 with
        | none => rw [en] at e; cases e
        | some n =>
          rw [en] at e
          have e : (isiTys n cs).map (fun b => (A.bl b, st2)) = some (c, st3) := e
          cases eb : isiTys n cs with
          | none => rw [eb] at e; cases e
          | some b =>
            rw [eb] at e; cases e
            obtain ⟨g3, e3⟩ := g2.known (p := p) (o := .tup xs) hp
            obtain ⟨us, h1, h2⟩ := isiTys_ok eb rs
            have ra3 := ra.mono (e2.trans e3)
            exact ⟨x, p, xs, _, us, b, rfl, upd_same, h1, tyName_ok g3 ra3 en, h2, Kont.now (k.ext (e1.trans (e2.trans e3))) g3 (.bl _)⟩
      · rw [if_neg hl] at q; exact q.elim
    · rw [← c.K]
      exact pe_callB call_isiT (c.gl hg) (c.mgn hm) PyProof.Rows.boot_isinstance (pa_cons (pa X c t) (pa_cons (pe_tup (pc X c t)) pa_nil) (he _)) (he := he _)⟩

/-! ### methods -/
def tyVA (T : String) (a : A) (st : Store) : Bool := match T, a with
  | "str", .str _ => true
  | "list", a => (lstR a st).isSome
  | "dict", .dct _ _ => true
  | "dict", .cell n => (match st[n]? with
    | some (.dct _ _) => true
    | _ => false)
  | _, _ => false
theorem tyVA_ok {K : PySem.W.Frag} {F : Hp} {μ : List Addr} {st : Store} {H : Hp} {T : String} {a : A} {x : V} (g : Good K Z F μ st H) (r : Rep K F μ a x) (h : tyVA T a st = true) : tyV K T x H := by
  unfold tyVA at h
  split at h
  · cases r; rfl
  · cases e : lstR a st with
    | none => rw [e] at h; cases h
    | some xs =>
      obtain ⟨p, vs, rfl, h1, _⟩ := lstR_ok g r e
      exact .inl ⟨rfl, vs, h1⟩
  · cases r with
    | dct h1 _ _ => exact .inr (.inr (.inl ⟨rfl, .inl ⟨_, g.sub _ _ h1⟩⟩))
  · rename_i n
    cases r with
    | cell h1 =>
      cases e : st[n]? with
      | none => rw [e] at h; cases h
      | some c =>
        cases c with
        | dct ks xs =>
          obtain ⟨a, h2, _, vs, h4, _⟩ := g.cell _ _ e (by intro z; cases z)
          rw [h1] at h2; cases h2
          exact .inr (.inr (.inl ⟨rfl, .inl ⟨_, h4⟩⟩))
        | _ => rw [e] at h; cases h
  · cases h
/-- a method with its plain function -/
structure Cm (T id : String) (op : A → OpN) : Prop where
  ex : ∃ r : PySem.W.Frag → V → List V → Hp → VK → Prop, (∀ (Γ : G) (X : Cx), CtxOk Γ X → MtR X id (r X.K)) ∧
    ∀ (K : PySem.W.Frag) (Z F : Hp) (μ : List Addr) (st st' : Store) (H : Hp) (a : A) (as : List A) (c : A) (x : V) (xs : List V) (Q : VK), Good K Z F μ st H → Rep K F μ a x → Reps K F μ as xs → op a as st = some (c, st') → Kont K Z Rep F μ Q c st' → r K x xs H Q
def eM (T : String) (op : A → OpN) (mo : AEnv → Store → Res A) (ms : AEnv → Store → Res (List A)) : AEnv → Store → Res A := fun env st => (mo env st).bind fun a st1 => if tyVA T a st1 then (ms env st1).bind fun as st2 => Res.of (op a as st2) else .stuck
theorem sim_m {K : PySem.W.Frag} {W : WX} {T : String} {r : V → List V → Hp → VK → Prop} {op : A → OpN} {to : TE} {t : TA}
    (h : ∀ (Z F : Hp) (μ : List Addr) (st st' : Store) (H : Hp) (a : A) (as : List A) (c : A) (x : V) (xs : List V) (Q : VK), Good K Z F μ st H → Rep K F μ a x → Reps K F μ as xs → op a as st = some (c, st') → Kont K Z Rep F μ Q c st' → r x xs H Q)
    (ho : Sim K Rep W to mo) (ha : Sim K Reps W t ms) : Sim K Rep W (tBM K T r to t) (eM T op mo ms) := by
  intro Z F μ st env σ H Q g re hp
  unfold eM at hp
  rw [Res.post_bind] at hp
  refine ho Z F μ st env σ H _ g re (Res.post_mono hp (fun a st1 q => ?_) fun _ _ q => q)
  intro F1 μ1 H1 x e1 g1 ra
  by_cases ty : tyVA T a st1 = true
  · rw [if_pos ty] at q
    refine ⟨tyVA_ok g1 ra ty, ?_⟩
    rw [Res.post_bind] at q
    refine ha Z F1 μ1 st1 env σ H1 _ g1 (re.mono e1) (Res.post_mono q (fun as st2 q => ?_) fun _ _ q => q.ext e1)
    intro F2 μ2 H2 xs e2 g2 rs
    obtain ⟨c, st3, e, k⟩ := Res.post_of q
    exact h Z F2 μ2 st2 st3 H2 a as c x xs Q g2 (ra.mono e2) rs e (k.ext (e1.trans e2))
  · rw [if_neg ty] at q; exact q.elim
theorem s_m {T id : String} {name : Str} {op : A → OpN} (pa : PlainAttrs T) (slot : Slot T name id) (hty : typeOf (.builtin id) = pure (.type "method_descriptor")) (hm : Cm T id op) (ho : SE Γ o mo) (ha : SA Γ (e :: es) ms)
    (hbase : ∀ env, attributeBase o name env (eval o env) = eval o env := by intro _; rfl)
    (hfew : ∀ env, ((backTo cpos (starEach (e :: es) env)).all (fun x => !x.1) && (backToKw cpos (keywordEach [] env)).all (fun x => x.1.isSome)
      && decide ((e :: es).length + ([] : List Keyword).length + (if ([] : List Keyword).isEmpty then 0 else 1) < 30)) = true := by intro _; rfl)
    (hline : (apos.endLine == cpos.line) = true := by rfl) (hs : ∀ env, starEach (e :: es) env = (false, eval e env) :: starEach es env := by intro _; rfl) (hplain : ∀ env, (backTo cpos (starEach es env)).any (·.1) = false := by intro _; rfl) :
    SE Γ (.Call (.Attribute o name apos) (e :: es) [] cpos) (eM T op mo ms) :=
  ⟨fun W => by
    obtain ⟨r, h1, h2⟩ := hm.ex
    obtain ⟨to, so, po⟩ := ho.run W
    obtain ⟨ta, sa, pa'⟩ := ha.run W
    refine ⟨_, sim_m (T := T) (h2 _) so sa, fun X c t => ?_⟩
    rw [← c.K]
    exact pe_bm pa slot hty (h1 Γ X c) (po X c t) (pa' X c t) (hbase _) (hfew _) hline (hs _) (hplain _)⟩
theorem s_m0 {T id : String} {name : Str} {op : A → OpN} (pa : PlainAttrs T) (slot : Slot T name id) (hty : typeOf (.builtin id) = pure (.type "method_descriptor")) (hm : Cm T id op) (ho : SE Γ o mo)
    (hbase : ∀ env, attributeBase o name env (eval o env) = eval o env := by intro _; rfl) (hline : (apos.endLine == cpos.line) = true := by rfl) :
    SE Γ (.Call (.Attribute o name apos) [] [] cpos) (eM T op mo aNil) :=
  ⟨fun W => by
    obtain ⟨r, h1, h2⟩ := hm.ex
    obtain ⟨to, so, po⟩ := ho.run W
    refine ⟨tBM Γ.K T (r Γ.K) to tNil, sim_m (T := T) (h2 _) so (fun Z F μ st env σ H Q g re h => Kont.now (show Kont Γ.K Z Reps F μ Q [] st from h) g .nil), fun X c t => ?_⟩
    rw [← c.K]
    exact pe_bm0 pa slot hty (h1 Γ X c) (po X c t) (hbase _) hline⟩
/-- a list's cell is written by a method -/
def cellL (a : A) (st : Store) : Option (Nat × List A) := match a with
  | .cell n => (match st[n]? with
    | some (.lst xs) => some (n, xs)
    | _ => none)
  | _ => none
theorem cellL_ok {K : PySem.W.Frag} {F : Hp} {μ : List Addr} {st : Store} {H : Hp} {a : A} {n : Nat} {xs : List A} {v : V} (g : Good K Z F μ st H) (r : Rep K F μ a v) (h : cellL a st = some (n, xs)) :
    ∃ p vs, v = .ref p ∧ H p = some (.lst vs) ∧ Reps K F μ xs vs ∧ ∀ ys ws, Reps K F μ ys ws → Good K Z F μ (st.set n (.lst ys)) (upd H p (.lst ws)) := by
  cases a with
  | cell m =>
    cases r with
    | cell h1 =>
      have h : (match st[m]? with | some (.lst xs) => some (m, xs) | _ => none) = some (n, xs) := h
      cases e : st[m]? with
      | none => rw [e] at h; cases h
      | some c =>
        rw [e] at h
        cases c with
        | lst ys =>
          cases h
          obtain ⟨a, h2, h3, vs, h4, h5⟩ := g.cell n _ e (by intro z; cases z)
          rw [h1] at h2; cases h2
          exact ⟨_, vs, rfl, h4, h5, fun ys ws r => g.write (o := .lst ws) e (by intro z; cases z) h1 ⟨ws, upd_same, r⟩⟩
        | _ => cases h
  | _ => cases h
def appendM : A → OpN := fun a as st => match cellL a st, as with
  | some (n, xs), [y] => if xs.length < sizeLine then some (.non, st.set n (.lst (xs ++ [y]))) else none
  | _, _ => none
theorem m_append : Cm "list" "list.append" appendM := ⟨⟨fun _ => rAppend, fun _ _ _ => mt_append, fun K Z F μ st st' H a as c x xs Q g ra rs e k => by
  unfold appendM at e
  cases e1 : cellL a st with
  | none => rw [e1] at e; cases e
  | some p =>
    obtain ⟨n, ys⟩ := p
    rw [e1] at e
    cases as with
    | nil => cases e
    | cons y as =>
      cases as with
      | cons z as => cases e
      | nil =>
        obtain ⟨v, rfl, ry⟩ := rs.one
        obtain ⟨p, vs, rfl, h1, r1, hw⟩ := cellL_ok g ra e1
        have e : (if ys.length < sizeLine then some (A.non, st.set n (.lst (ys ++ [y]))) else none) = some (c, st') := e
        by_cases hl : ys.length < sizeLine
        · rw [if_pos hl] at e; cases e
          exact ⟨p, vs, v, rfl, rfl, h1, by rw [← r1.length]; exact hl, k.now (hw _ _ (r1.append (.cons ry .nil))) .non⟩
        · rw [if_neg hl] at e; cases e⟩⟩
def popM : A → OpN := fun a as st => match cellL a st, as with
  | some (n, xs), [] => (xs[xs.length - 1]?).map fun y => (y, st.set n (.lst xs.dropLast))
  | some (n, xs), [.int i] => if -(2 ^ 63) ≤ i ∧ i < 2 ^ 63 then (seqIndex? i xs.length).bind fun k => (xs[k]?).map fun y => (y, st.set n (.lst (xs.eraseIdx k))) else none
  | _, _ => none
theorem m_pop : Cm "list" "list.pop" popM := ⟨⟨fun _ x xs H Q => rPop x xs H Q ∨ rPopAt x xs H Q, fun _ _ _ => MtR.or mt_pop mt_popAt, fun K Z F μ st st' H a as c x xs Q g ra rs e k => by
  unfold popM at e
  cases e1 : cellL a st with
  | none => rw [e1] at e; cases e
  | some p =>
    obtain ⟨n, ys⟩ := p
    rw [e1] at e
    obtain ⟨p, vs, rfl, h1, r1, hw⟩ := cellL_ok g ra e1
    cases as with
    | nil =>
      cases rs
      have e : (ys[ys.length - 1]?).map (fun y => (y, st.set n (.lst ys.dropLast))) = some (c, st') := e
      cases e2 : ys[ys.length - 1]? with
      | none => rw [e2] at e; cases e
      | some y =>
        rw [e2] at e; cases e
        obtain ⟨v, h2, h3⟩ := r1.get e2
        exact .inl ⟨p, vs, v, rfl, rfl, h1, by rw [← r1.length]; exact h2, k.now (hw _ _ r1.dropLast) h3⟩
    | cons i as =>
      cases as with
      | cons z as => cases i <;> cases e
      | nil =>
        cases i with
        | int i =>
          obtain ⟨v, rfl, ry⟩ := rs.one
          cases ry
          have e : (if -(2 ^ 63) ≤ i ∧ i < 2 ^ 63 then (seqIndex? i ys.length).bind (fun k => (ys[k]?).map fun y => (y, st.set n (.lst (ys.eraseIdx k)))) else none) = some (c, st') := e
          by_cases hl : -(2 ^ 63) ≤ i ∧ i < 2 ^ 63
          · rw [if_pos hl] at e
            cases e2 : seqIndex? i ys.length with
            | none => rw [e2] at e; cases e
            | some j =>
              rw [e2] at e
              have e : (ys[j]?).map (fun y => (y, st.set n (.lst (ys.eraseIdx j)))) = some (c, st') := e
              cases e3 : ys[j]? with
              | none => rw [e3] at e; cases e
              | some y =>
                rw [e3] at e; cases e
                obtain ⟨v, h2, h3⟩ := r1.get e3
                exact .inr ⟨p, vs, i, j, v, rfl, rfl, h1, hl.1, hl.2, by rw [← r1.length]; exact e2, h2, k.now (hw _ _ (r1.eraseIdx j)) h3⟩
          · rw [if_neg hl] at e; cases e
        | _ => cases e⟩⟩
def reverseM : A → OpN := fun a as st => match cellL a st, as with
  | some (n, xs), [] => some (.non, st.set n (.lst xs.reverse))
  | _, _ => none
theorem m_reverse : Cm "list" "list.reverse" reverseM := ⟨⟨fun _ => rReverse, fun _ _ _ => mt_reverse, fun K Z F μ st st' H a as c x xs Q g ra rs e k => by
  unfold reverseM at e
  cases e1 : cellL a st with
  | none => rw [e1] at e; cases e
  | some p =>
    obtain ⟨n, ys⟩ := p
    rw [e1] at e
    cases as with
    | cons y as => cases e
    | nil =>
      cases rs; cases e
      obtain ⟨p, vs, rfl, h1, r1, hw⟩ := cellL_ok g ra e1
      exact ⟨p, vs, rfl, rfl, h1, k.now (hw _ _ r1.reverse) .non⟩⟩⟩
def clearM : A → OpN := fun a as st => match cellL a st, as with
  | some (n, xs), [] => some (.non, st.set n (.lst []))
  | _, _ => none
theorem m_clear : Cm "list" "list.clear" clearM := ⟨⟨fun _ => rClear, fun _ _ _ => mt_clear, fun K Z F μ st st' H a as c x xs Q g ra rs e k => by
  unfold clearM at e
  cases e1 : cellL a st with
  | none => rw [e1] at e; cases e
  | some p =>
    obtain ⟨n, ys⟩ := p
    rw [e1] at e
    cases as with
    | cons y as => cases e
    | nil =>
      cases rs; cases e
      obtain ⟨p, vs, rfl, h1, r1, hw⟩ := cellL_ok g ra e1
      exact ⟨p, vs, rfl, rfl, h1, k.now (hw _ _ .nil) .non⟩⟩⟩

/-! ### calls of defs -/
/-- a def's promise: what the plain function tells -/
def spM (K : PySem.W.Frag) (n : Nat) (M : List A → Store → Res A) : Sp := fun vs H Q E => vs.length = n ∧ ∃ Z F μ st as, Good K Z F μ st H ∧ Reps K F μ as vs ∧
  (M as st).post (Kont K Z Rep F μ Q) (fun e st' => ∀ F' μ' H' d, Ext F F' μ μ' → Good K Z F' μ' st' H' → XRep K F' μ' e d → E (.ref (He.ga K e.c)) d H')
/-- a def of the module, what it does -/
structure FnS (P : Program) (w : World) (K : PySem.W.Frag) (mg : Str → Option Value) (base : Heap) (k : Nat) (f : Addr) (ps : List Str) (M : List A → Store → Res A) : Prop where
  ex : ∃ fd, FnOk P w K mg base (L2.CX P w) k f fd ps (spM K ps.length M) ∧ Binds K fd ps []
  kp : PySem.W.keepIn K (.ref f) = true
  ar : ∀ as st, as.length ≠ ps.length → M as st = .stuck
def eCall (M : List A → Store → Res A) (ms : AEnv → Store → Res (List A)) : AEnv → Store → Res A := fun env st => (ms env st).bind fun as st1 => M as st1
theorem sim_call {K : PySem.W.Frag} {W : WX} {n : Nat} {M : List A → Store → Res A} {t : TA} (ar : ∀ as st, as.length ≠ n → M as st = .stuck) (ha : Sim K Reps W t ms) : Sim K Rep W (tCallS (spM K n M) (WE W) t) (eCall M ms) :=
  Sim.bind (k := fun vs σ H Q => spM K n M vs H Q (WE W σ)) (m' := fun as env st1 => M as st1) ha fun Z F μ st env σ H Q a x g re ra hp => by
    refine ⟨?_, Z, F, μ, st, a, g, ra, hp⟩
    rw [← ra.length]
    by_cases h : a.length = n
    · exact h
    · rw [ar a st h] at hp; exact hp.elim
theorem s_call {j : Nat} {x : Str} {ps : List Str} {M : List A → Store → Res A} (F : FnS Γ.P Γ.w Γ.K Γ.mg Γ.base j (He.ga Γ.K x) ps M) (hj : j ≤ Γ.k) (hg : Γ.sc.names.lookup x = some .globalImplicit) (hm : Γ.mg x = some (.ref (He.ga Γ.K x)))
    (ha : SA Γ (e :: es) ms) (hdb : (x == ("__debug__" : Str)) = false := by decide) (he : ∀ env, starEach (e :: es) env = (false, eval e env) :: starEach es env := by intro _; rfl)
    (hpl : ∀ env, (backTo pos (starEach es env)).any (·.1) = false := by intro _; rfl) (cm : Γ.calm = true := by rfl) : SE Γ (.Call (.Name x p) (e :: es) [] pos) (eCall M ms) :=
  ⟨fun W => by
    obtain ⟨fd, h1, h2⟩ := F.ex
    obtain ⟨ta, sa, pa⟩ := ha.run W
    refine ⟨_, sim_call F.ar sa, fun X c t => ?_⟩
    have h1' : FnOk X.prog X.w X.K X.mg X.base (L2.CX X.prog X.w) j (He.ga Γ.K x) fd ps (spM Γ.K ps.length M) := by
      rw [c.prog, c.w, c.K, c.mg, c.base]; exact h1
    exact pe_callS h1' ((c.room cm).mono hj) (c.gl hg) (c.mgn hm) (by rw [c.K]; exact F.kp) (by rw [c.K]; exact h2) (fun σ => passAt t σ) (pa X c t) hdb (he _) (hpl _)⟩
end
end SL

set_option Elab.async false
set_option linter.all false
set_option maxRecDepth 100000
set_option maxHeartbeats 4000000
/-! SLf: what loops walk; targets; statements. -/
namespace SL
open PySem PySem.Spec L2
open PyProof.Rows hiding St
/-! ### what is walked -/
abbrev Src := Option (Nat × List A)
def srcOk (src : Src) (_ : List A) (st : Store) : Prop := match src with
  | none => True
  | some c => st[c.1]? = some (.lst c.2)
@[simp] theorem srcOk_none (xs : List A) (st : Store) : srcOk none xs st = True := (rfl)
@[simp] theorem srcOk_some (c : Nat) (ys xs : List A) (st : Store) : srcOk (some (c, ys)) xs st = (st[c]? = some (.lst ys)) := (rfl)
def ItOk (K : PySem.W.Frag) (Z F : Hp) (μ : List Addr) (xs : List A) (src : Src) (J : It) : Prop := ∀ (Z' : Hp) (i : Nat) (F' : Hp) (μ' : List Addr) (st' : Store) (H' : Hp), Ext F F' μ μ' → Good K Z' F' μ' st' H' → srcOk src xs st' →
  (∀ x, xs[i]? = some x → J.go i H' ∧ ∀ v H2, J.yld i H' v H2 → ∃ F2, Ext F' F2 μ' μ' ∧ Good K Z' F2 μ' st' H2 ∧ Rep K F2 μ' x v) ∧ (xs.length ≤ i → J.stop i H')
theorem ItOk.ext {K : PySem.W.Frag} {Z F F1 : Hp} {μ μ1 : List Addr} {xs : List A} {src : Src} {J : It} (h : ItOk K Z F μ xs src J) (e : Ext F F1 μ μ1) : ItOk K Z F1 μ1 xs src J := fun Z' i F' μ' st' H' e' => h Z' i F' μ' st' H' (e.trans e')
abbrev MI := AEnv → Store → Res (List A × Src)
def SimI (K : PySem.W.Frag) (W : WX) (wi : TI) (m : MI) : Prop := ∀ (Z F : Hp) (μ : List Addr) (st : Store) (env : AEnv) (σ : St) (H : Hp) (R : It → Hp → Prop), Good K Z F μ st H → REnv K F μ env σ →
  (m env st).post (fun p st' => ∀ F' μ' H', Ext F F' μ μ' → Good K Z F' μ' st' H' → ∀ J, ItOk K Z F' μ' p.1 p.2 J → R J H') (KX K Z F μ σ W) → wi σ H R
structure SI (Γ : G) (tg iter : Expr) (m : MI) : Prop where
  run : ∀ W : WX, ∃ wi : TI, SimI Γ.K W wi m ∧ ∀ X, CtxOk Γ X → Takes X W → PI X tg iter wi
theorem pi_or {X : Cx} {tg iter : Expr} {w1 w2 : TI} (h1 : PI X tg iter w1) (h2 : PI X tg iter w2) : PI X tg iter (fun σ H R => w1 σ H R ∨ w2 σ H R) :=
  ⟨fun pins s σ H R I h => h.elim (h1.run pins s σ H R I) (h2.run pins s σ H R I)⟩
def srcOf (a : A) (xs : List A) : Src := match a with
  | .cell n => some (n, xs)
  | _ => none
def isCell : A → Bool
  | .cell _ => true
  | _ => false
/-- a list or a tuple -/
def mSeq (m : AEnv → Store → Res A) : MI := fun env st => (m env st).bind fun a st1 => match seqR a st1 with
  | some xs => .ok (xs, srcOf a xs) st1
  | none => .stuck
/-- what is read of a list later -/
theorem lstR_later {K : PySem.W.Frag} {Z Z' F F' : Hp} {μ μ' : List Addr} {st st' : Store} {H H' : Hp} {a : A} {xs all : List A} {p : Addr} (g : Good K Z F μ st H) (r : Rep K F μ a (.ref p)) (h : lstR a st = some xs) (e : Ext F F' μ μ') (g' : Good K Z' F' μ' st' H')
    (s : srcOk (srcOf a xs) all st') : ∃ vs, SqL K H' p vs ∧ Reps K F' μ' xs vs := by
  have fin : ∀ st'', Good K Z' F' μ' st'' H' → lstR a st'' = some xs → ∃ vs, SqL K H' p vs ∧ Reps K F' μ' xs vs := fun st'' g'' h'' => by
    obtain ⟨q, vs, e1, h1, h2⟩ := lstR_ok g'' (r.mono e) h''
    cases e1
    exact ⟨vs, h1, h2⟩
  cases a with
  | lst ys => exact fin st' g' h
  | slst ys => exact fin st' g' h
  | cell n => exact fin st' g' (by have s : st'[n]? = some (.lst xs) := s; simp [lstR, lstH, s])
  | _ => cases h
section
variable {Γ : G} {e e2 : Expr} {tg : Expr} {m m2 : AEnv → Store → Res A} {p pos : Pos}
theorem itl_ok {K : PySem.W.Frag} {Z F : Hp} {μ : List Addr} {st : Store} {H : Hp} {a : A} {xs : List A} {p : Addr} (g : Good K Z F μ st H) (r : Rep K F μ a (.ref p)) (h : lstR a st = some xs) : ItOk K Z F μ xs (srcOf a xs) (Itl K p) := by
  intro Z' i F' μ' st' H' e g' s
  obtain ⟨vs, h1, h2⟩ := lstR_later g r h e g' s
  refine ⟨fun x hx => ?_, fun hl => ⟨vs, h1, by rw [← h2.length]; exact hl⟩⟩
  obtain ⟨v, hv, rv⟩ := h2.get hx
  refine ⟨⟨vs, v, h1, hv⟩, fun w H2 y => ?_⟩
  obtain ⟨rfl, y⟩ := y
  have := y vs h1
  rw [hv] at this; cases this
  exact ⟨F', Ext.refl, g', rv⟩
theorem itt_ok {K : PySem.W.Frag} {Z F : Hp} {μ : List Addr} {st : Store} {H : Hp} {a : A} {xs : List A} {p : Addr} (g : Good K Z F μ st H) (r : Rep K F μ a (.ref p)) (h : tupR a = some xs) : ItOk K Z F μ xs none (Itt K p) := by
  intro Z' i F' μ' st' H' e g' s
  obtain ⟨q, vs, e1, h1, h2⟩ := tupR_ok g' (r.mono e) h
  cases e1
  refine ⟨fun x hx => ?_, fun hl => ⟨vs, h1, by rw [← h2.length]; exact hl⟩⟩
  obtain ⟨v, hv, rv⟩ := h2.get hx
  refine ⟨⟨vs, v, h1, hv⟩, fun w H2 y => ?_⟩
  obtain ⟨rfl, y⟩ := y
  have := y vs h1
  rw [hv] at this; cases this
  exact ⟨F', Ext.refl, g', rv⟩
theorem i_seq (h : SE Γ e m) : SI Γ tg e (mSeq m) :=
  ⟨fun W => by
    obtain ⟨t, s, ph⟩ := h.run W
    refine ⟨fun σ H R => iList Γ.K t σ H R ∨ iTup Γ.K t σ H R, ?_, fun X c k => ?_⟩
    · intro Z F μ st env σ H R g re hp
      unfold mSeq at hp
      rw [Res.post_bind] at hp
      have left : ((m env st).post (fun a st1 => ∀ xs, lstR a st1 = some xs → seqR a st1 = some xs → (match seqR a st1 with | some xs => Res.ok (xs, srcOf a xs) st1 | none => .stuck).post (fun p st' => ∀ F' μ' H', Ext F F' μ μ' → Good Γ.K Z F' μ' st' H' → ∀ J, ItOk Γ.K Z F' μ' p.1 p.2 J → R J H') (KX Γ.K Z F μ σ W)) (KX Γ.K Z F μ σ W)) → (∀ a st1, m env st = .ok a st1 → ∃ xs, lstR a st1 = some xs ∧ seqR a st1 = some xs) → iList Γ.K t σ H R := by
        intro hq hl
        refine s Z F μ st env σ H _ g re ?_
        cases em : m env st with
        | stuck => rw [em] at hq; exact hq.elim
        | exc x st1 => rw [em] at hq; exact hq
        | ok a st1 =>
          rw [em] at hq
          obtain ⟨xs, h1, h2⟩ := hl a st1 em
          have q := hq xs h1 h2
          rw [h2] at q
          intro F1 μ1 H1 x e1 g1 ra
          obtain ⟨p, vs, rfl, h3, h4⟩ := lstR_ok g1 ra h1
          exact ⟨p, rfl, ⟨vs, h3⟩, q F1 μ1 H1 e1 g1 _ (itl_ok g1 ra h1)⟩
      have right : (∀ a st1, m env st = .ok a st1 → ∃ xs, tupR a = some xs) → (∃ a st1, m env st = .ok a st1) → iTup Γ.K t σ H R := by
        rintro hl ⟨a, st1, em⟩
        refine s Z F μ st env σ H _ g re ?_
        rw [em] at hp ⊢
        obtain ⟨xs, h1⟩ := hl a st1 em
        have h2 : seqR a st1 = some xs := by unfold seqR; rw [h1]; rfl
        have q : (match seqR a st1 with | some xs => Res.ok (xs, srcOf a xs) st1 | none => .stuck).post (fun p st' => ∀ F' μ' H', Ext F F' μ μ' → Good Γ.K Z F' μ' st' H' → ∀ J, ItOk Γ.K Z F' μ' p.1 p.2 J → R J H') (KX Γ.K Z F μ σ W) := hp
        rw [h2] at q
        intro F1 μ1 H1 x e1 g1 ra
        obtain ⟨p, vs, rfl, h3, h4⟩ := tupR_ok g1 ra h1
        have hs : srcOf a xs = none := by cases a <;> first | rfl | cases h1
        refine ⟨p, rfl, ⟨vs, h3⟩, q F1 μ1 H1 e1 g1 _ ?_⟩
        show ItOk Γ.K Z F1 μ1 xs (srcOf a xs) _
        rw [hs]
        exact itt_ok g1 ra h1
      cases em : m env st with
      | stuck => rw [em] at hp; exact hp.elim
      | exc x st1 =>
        refine .inl (left ?_ fun a st1 z => by rw [em] at z; cases z)
        rw [em] at hp ⊢; exact hp
      | ok a st1 =>
        cases et : tupR a with
        | some xs => exact .inr (right (fun a' st' z => by rw [em] at z; cases z; exact ⟨xs, et⟩) ⟨a, st1, em⟩)
        | none =>
          refine .inl (left ?_ fun a' st' z => ?_)
          · rw [em] at hp ⊢; intro xs h1 h2; exact hp
          · rw [em] at z; cases z
            rw [em] at hp
            have q : (match seqR a st1 with | some xs => Res.ok (xs, srcOf a xs) st1 | none => .stuck).post (fun p st' => ∀ F' μ' H', Ext F F' μ μ' → Good Γ.K Z F' μ' st' H' → ∀ J, ItOk Γ.K Z F' μ' p.1 p.2 J → R J H') (KX Γ.K Z F μ σ W) := hp
            cases eq : seqR a st1 with
            | none => rw [eq] at q; exact q.elim
            | some xs =>
              refine ⟨xs, ?_, rfl⟩
              unfold seqR at eq; rw [et] at eq; exact eq
    · rw [← c.K]
      exact pi_or (pi_list (ph X c k)) (pi_tup (ph X c k))⟩
/-- the ints from lo, below hi -/
def rgA (lo hi : Int) : List A := (List.range (hi - lo).toNat).map fun i => .int (lo + (i : Nat))
theorem rgA_get {lo hi : Int} {i : Nat} {x : A} (h : (rgA lo hi)[i]? = some x) : i < (hi - lo).toNat ∧ x = .int (lo + (i : Nat)) := by
  unfold rgA at h
  rw [List.getElem?_map] at h
  by_cases hi' : i < (hi - lo).toNat
  · rw [List.getElem?_range hi'] at h; cases h; exact ⟨hi', rfl⟩
  · rw [List.getElem?_eq_none (by rw [List.length_range]; omega)] at h; cases h
theorem rgA_length {lo hi : Int} : (rgA lo hi).length = (hi - lo).toNat := by unfold rgA; rw [List.length_map, List.length_range]
theorem itr_ok {K : PySem.W.Frag} {Z F : Hp} {μ : List Addr} {lo hi : Int} : ItOk K Z F μ (rgA lo hi) none (Itr lo (hi - lo).toNat) := by
  intro Z' i F' μ' st' H' e g' s
  refine ⟨fun x hx => ?_, fun hl => by rw [rgA_length] at hl; exact hl⟩
  obtain ⟨h1, rfl⟩ := rgA_get hx
  refine ⟨h1, fun v H2 y => ?_⟩
  obtain ⟨rfl, rfl⟩ := y
  exact ⟨F', Ext.refl, g', .int _⟩
def mRng1 (ms : AEnv → Store → Res (List A)) : MI := fun env st => (ms env st).bind fun as st1 => match as with
  | [.int j] => if -(2 ^ 62) ≤ j ∧ j < 2 ^ 62 then .ok (rgA 0 j, none) st1 else .stuck
  | _ => .stuck
def mRng2 (ms : AEnv → Store → Res (List A)) : MI := fun env st => (ms env st).bind fun as st1 => match as with
  | [.int i, .int j] => if -(2 ^ 62) ≤ i ∧ i < 2 ^ 62 ∧ -(2 ^ 62) ≤ j ∧ j < 2 ^ 62 then .ok (rgA i j, none) st1 else .stuck
  | _ => .stuck
variable {ms : AEnv → Store → Res (List A)}
theorem i_rng1 (hg : Γ.sc.names.lookup ("range" : Str) = some .globalImplicit) (hm : Γ.mg "range" = none) (ha : SA Γ [e] ms) (hs : ∀ env, starEach [e] env = [(false, eval e env)] := by intro _; rfl) : SI Γ tg (.Call (.Name "range" p) [e] [] pos) (mRng1 ms) :=
  ⟨fun W => by
    obtain ⟨t, s, ph⟩ := ha.run W
    refine ⟨iRng1 t, ?_, fun X c k => pi_range1 (c.gl hg) (c.mgn hm) (ph X c k) (hs _)⟩
    intro Z F μ st env σ H R g re hp
    unfold mRng1 at hp
    rw [Res.post_bind] at hp
    refine s Z F μ st env σ H _ g re (Res.post_mono hp (fun as st1 q => ?_) fun _ _ q => q)
    intro F1 μ1 H1 xs e1 g1 ra
    split at q
    · rename_i j
      split at q
      · rename_i hb
        obtain ⟨v, rfl, rv⟩ := ra.one
        cases rv
        exact ⟨j, rfl, hb.1, hb.2, by have := q F1 μ1 H1 e1 g1 (Itr 0 (j - 0).toNat) itr_ok; rw [Int.sub_zero] at this; exact this⟩
      · exact q.elim
    · exact q.elim⟩
theorem i_rng2 (hg : Γ.sc.names.lookup ("range" : Str) = some .globalImplicit) (hm : Γ.mg "range" = none) (ha : SA Γ [e, e2] ms) (hs : ∀ env, starEach [e, e2] env = [(false, eval e env), (false, eval e2 env)] := by intro _; rfl)
    (hs2 : ∀ env, starEach [e2] env = [(false, eval e2 env)] := by intro _; rfl) : SI Γ tg (.Call (.Name "range" p) [e, e2] [] pos) (mRng2 ms) :=
  ⟨fun W => by
    obtain ⟨t, s, ph⟩ := ha.run W
    refine ⟨iRng2 t, ?_, fun X c k => pi_range2 (c.gl hg) (c.mgn hm) (ph X c k) (hs _) (hs2 _)⟩
    intro Z F μ st env σ H R g re hp
    unfold mRng2 at hp
    rw [Res.post_bind] at hp
    refine s Z F μ st env σ H _ g re (Res.post_mono hp (fun as st1 q => ?_) fun _ _ q => q)
    intro F1 μ1 H1 xs e1 g1 ra
    split at q
    · rename_i i j
      split at q
      · rename_i hb
        obtain ⟨v, w, rfl, rv, rw'⟩ := ra.two
        cases rv; cases rw'
        exact ⟨i, j, rfl, hb, q F1 μ1 H1 e1 g1 (Itr i (j - i).toNat) itr_ok⟩
      · exact q.elim
    · exact q.elim⟩
/-- reversed(xs), enumerate(xs), zip(xs, ys) of lists -/
def mRev (ms : AEnv → Store → Res (List A)) : MI := fun env st => (ms env st).bind fun as st1 => match as with
  | [a] => (match lstR a st1 with
    | some xs => .ok (xs.reverse, srcOf a xs) st1
    | none => .stuck)
  | _ => .stuck
def enA : Nat → List A → List A
  | _, [] => []
  | i, x :: xs => .tup [.int i, x] :: enA (i + 1) xs
theorem enA_get : ∀ (xs : List A) (j i : Nat), (enA j xs)[i]? = (xs[i]?).map fun x => A.tup [.int ((j + i : Nat) : Int), x]
  | [], j, i => by simp [enA]
  | x :: xs, j, 0 => by simp [enA]
  | x :: xs, j, i + 1 => by
    rw [enA, List.getElem?_cons_succ, enA_get xs (j + 1) i, List.getElem?_cons_succ]
    congr 1
    funext y
    rw [show j + 1 + i = j + (i + 1) by omega]
theorem enA_length : ∀ (xs : List A) (j : Nat), (enA j xs).length = xs.length
  | [], _ => rfl
  | x :: xs, j => by rw [enA, List.length_cons, List.length_cons, enA_length xs]
def mEnum (ms : AEnv → Store → Res (List A)) : MI := fun env st => (ms env st).bind fun as st1 => match as with
  | [a] => (match lstR a st1 with
    | some xs => .ok (enA 0 xs, srcOf a xs) st1
    | none => .stuck)
  | _ => .stuck
def zpA (xs ys : List A) : List A := (xs.zip ys).map fun p => .tup [p.1, p.2]
def mZip (ms : AEnv → Store → Res (List A)) : MI := fun env st => (ms env st).bind fun as st1 => match as with
  | [a, b] => (match isCell a, isCell b with
    | false, false => (match lstR a st1, lstR b st1 with
      | some xs, some ys => .ok (zpA xs ys, none) st1
      | _, _ => .stuck)
    | _, _ => .stuck)
  | _ => .stuck
theorem i_rev (hg : Γ.sc.names.lookup ("reversed" : Str) = some .globalImplicit) (hm : Γ.mg "reversed" = none) (ha : SA Γ [e] ms) (hs : ∀ env, starEach [e] env = [(false, eval e env)] := by intro _; rfl) : SI Γ tg (.Call (.Name "reversed" p) [e] [] pos) (mRev ms) :=
  ⟨fun W => by
    obtain ⟨t, s, ph⟩ := ha.run W
    refine ⟨iRev Γ.K t, ?_, fun X c k => by rw [← c.K]; exact pi_reversed (c.gl hg) (c.mgn hm) (ph X c k) (hs _)⟩
    intro Z F μ st env σ H R g re hp
    unfold mRev at hp
    rw [Res.post_bind] at hp
    refine s Z F μ st env σ H _ g re (Res.post_mono hp (fun as st1 q => ?_) fun _ _ q => q)
    intro F1 μ1 H1 xs e1 g1 ra
    split at q
    · rename_i a
      obtain ⟨v, rfl, rv⟩ := ra.one
      · split at q
        · rename_i ys hy
          obtain ⟨p, vs, rfl, h1, r1⟩ := lstR_ok g1 rv hy
          refine ⟨p, vs, rfl, h1, q F1 μ1 H1 e1 g1 _ ?_⟩
          intro Z' i F' μ' st' H' e' g' s'
          obtain ⟨ws, h2, r2⟩ := lstR_later g1 rv hy e' g' s'
          have hlen : vs.length = ys.length := r1.length.symm
          refine ⟨fun x hx => ?_, fun hl => by rw [hlen]; rw [List.length_reverse] at hl; exact hl⟩
          have hi : i < ys.length := by have := (List.getElem?_eq_some_iff.mp hx).1; rw [List.length_reverse] at this; exact this
          rw [List.getElem?_reverse hi] at hx
          obtain ⟨v, hv, rv'⟩ := r2.get hx
          refine ⟨⟨by omega, ws, v, h2, by rw [hlen]; exact hv⟩, fun w H2 y => ?_⟩
          obtain ⟨rfl, y⟩ := y
          have := y ws h2
          rw [hlen, hv] at this; cases this
          exact ⟨F', Ext.refl, g', rv'⟩
        · exact q.elim
    · exact q.elim⟩
theorem i_enum {elts : List Expr} {kk : Nat} {tpos : Pos} (hg : Γ.sc.names.lookup ("enumerate" : Str) = some .globalImplicit) (hm : Γ.mg "enumerate" = none) (ha : SA Γ [e] ms) (hs : ∀ env, starEach [e] env = [(false, eval e env)] := by intro _; rfl) :
    SI Γ (.Tuple elts kk tpos) (.Call (.Name "enumerate" p) [e] [] pos) (mEnum ms) :=
  ⟨fun W => by
    obtain ⟨t, s, ph⟩ := ha.run W
    refine ⟨iEnum Γ.K t, ?_, fun X c k => by rw [← c.K]; exact pi_enum (c.gl hg) (c.mgn hm) (ph X c k) (hs _)⟩
    intro Z F μ st env σ H R g re hp
    unfold mEnum at hp
    rw [Res.post_bind] at hp
    refine s Z F μ st env σ H _ g re (Res.post_mono hp (fun as st1 q => ?_) fun _ _ q => q)
    intro F1 μ1 H1 xs e1 g1 ra
    split at q
    · rename_i a
      obtain ⟨v, rfl, rv⟩ := ra.one
      · split at q
        · rename_i ys hy
          obtain ⟨p, vs, rfl, h1, r1⟩ := lstR_ok g1 rv hy
          refine ⟨p, vs, rfl, h1, q F1 μ1 H1 e1 g1 _ ?_⟩
          intro Z' i F' μ' st' H' e' g' s'
          obtain ⟨ws, h2, r2⟩ := lstR_later g1 rv hy e' g' s'
          refine ⟨fun x hx => ?_, fun hl => ⟨ws, h2, by rw [enA_length] at hl; rw [← r2.length]; exact hl⟩⟩
          rw [enA_get] at hx
          cases hy' : ys[i]? with
          | none => rw [hy'] at hx; cases hx
          | some y =>
            rw [hy'] at hx; cases hx
            obtain ⟨v, hv, rv'⟩ := r2.get hy'
            refine ⟨⟨ws, v, h2, hv⟩, fun w H2 z => ?_⟩
            obtain ⟨T, x, rfl, hT, rfl, z⟩ := z
            have := z ws h2
            rw [hv] at this; cases this
            obtain ⟨g2, e2⟩ := g'.known (p := T) (o := .tup [.int (i : Nat), v]) hT
            exact ⟨_, e2, g2, .tup (SqT.of upd_same) (.cons (by rw [Nat.zero_add]; exact .int _) (.cons (rv'.mono e2) .nil))⟩
        · exact q.elim
    · exact q.elim⟩
theorem nsrc {a : A} {xs : List A} (h : isCell a = false) : srcOf a xs = none := by cases a <;> first | rfl | cases h
theorem i_zip {elts : List Expr} {kk : Nat} {tpos : Pos} (hg : Γ.sc.names.lookup ("zip" : Str) = some .globalImplicit) (hm : Γ.mg "zip" = none) (ha : SA Γ [e, e2] ms) (hs : ∀ env, starEach [e, e2] env = (false, eval e env) :: starEach [e2] env := by intro _; rfl)
    (hpl : ∀ env, (backTo pos (starEach [e2] env)).any (·.1) = false := by intro _; rfl) : SI Γ (.Tuple elts kk tpos) (.Call (.Name "zip" p) [e, e2] [] pos) (mZip ms) :=
  ⟨fun W => by
    obtain ⟨t, s, ph⟩ := ha.run W
    refine ⟨iZip Γ.K t, ?_, fun X c k => by rw [← c.K]; exact pi_zip (c.gl hg) (c.mgn hm) (ph X c k) (hs _) (hpl _)⟩
    intro Z F μ st env σ H R g re hp
    unfold mZip at hp
    rw [Res.post_bind] at hp
    refine s Z F μ st env σ H _ g re (Res.post_mono hp (fun as st1 q => ?_) fun _ _ q => q)
    intro F1 μ1 H1 xs e1 g1 ra
    split at q
    · rename_i a b
      obtain ⟨v, w, rfl, rv, rw'⟩ := ra.two
      split at q
      · rename_i ha' hb'
        split at q
        · rename_i xs ys hx hy
          obtain ⟨p1, vs, rfl, h1, r1⟩ := lstR_ok g1 rv hx
          obtain ⟨p2, ws, rfl, h2, r2⟩ := lstR_ok g1 rw' hy
          refine ⟨p1, p2, vs, ws, rfl, h1, h2, q F1 μ1 H1 e1 g1 _ ?_⟩
          intro Z' i F' μ' st' H' e' g' s'
          obtain ⟨vs', k1, t1⟩ := lstR_later (all := xs) g1 rv hx e' g' (by rw [nsrc ha']; trivial)
          obtain ⟨ws', k2, t2⟩ := lstR_later (all := ys) g1 rw' hy e' g' (by rw [nsrc hb']; trivial)
          refine ⟨fun x hx' => ?_, fun hl => ⟨vs', ws', k1, k2, ?_⟩⟩
          · unfold zpA at hx'
            rw [List.getElem?_map] at hx'
            cases hz : (xs.zip ys)[i]? with
            | none => rw [hz] at hx'; cases hx'
            | some pr =>
              rw [hz] at hx'; cases hx'
              rw [List.getElem?_zip_eq_some] at hz
              obtain ⟨v1, hv1, rv1⟩ := t1.get hz.1
              obtain ⟨v2, hv2, rv2⟩ := t2.get hz.2
              refine ⟨⟨vs', ws', v1, v2, k1, k2, hv1, hv2⟩, fun u H2 z => ?_⟩
              obtain ⟨T, x, y, rfl, hT, rfl, z1, z2⟩ := z
              have q1 := z1 vs' k1
              have q2 := z2 ws' k2
              rw [hv1] at q1; cases q1
              rw [hv2] at q2; cases q2
              obtain ⟨g2, e2⟩ := g'.known (p := T) (o := .tup [v1, v2]) hT
              exact ⟨_, e2, g2, .tup (SqT.of upd_same) (.cons (rv1.mono e2) (.cons (rv2.mono e2) .nil))⟩
          · unfold zpA at hl
            rw [List.length_map, List.length_zip] at hl
            have := t1.length; have := t2.length
            omega
        · exact q.elim
      · exact q.elim
    · exact q.elim⟩
end
end SL

set_option Elab.async false
set_option linter.all false
set_option maxRecDepth 100000
set_option maxHeartbeats 4000000
/-! SLg: targets, statements, comprehensions, a def. -/
namespace SL
open PySem PySem.Spec L2
open PyProof.Rows hiding St
/-! ### targets -/
abbrev MG := A → AEnv → Option AEnv
/-- the slots differ at most at own -/
structure Diff (own : List Nat) (σ σ' : St) : Prop where
  len : σ'.length = σ.length
  at_ : ∀ i, i ∉ own → σ'[i]? = σ[i]?
theorem Diff.refl {own : List Nat} {σ : St} : Diff own σ σ := ⟨rfl, fun _ _ => rfl⟩
theorem Diff.trans {o1 o2 : List Nat} {σ σ1 σ2 : St} (a : Diff o1 σ σ1) (b : Diff o2 σ1 σ2) : Diff (o1 ++ o2) σ σ2 := ⟨b.len.trans a.len, fun i h => by
  rw [List.mem_append, not_or] at h
  exact (b.at_ i h.2).trans (a.at_ i h.1)⟩
theorem wipe_at (σ : St) : ∀ (vs : List Nat) (i : Nat), (wipe σ vs)[i]? = if i ∈ vs ∧ i < σ.length then some none else σ[i]?
  | [], i => by simp [wipe]
  | v :: vs, i => by
    unfold wipe
    rw [List.getElem?_set, wipe_length, wipe_at σ vs i]
    by_cases h : v = i
    · subst h
      by_cases hl : v < σ.length <;> simp [hl]
    · have h' : i ≠ v := fun q => h q.symm
      simp [h, h']
theorem Diff.wipe {own vs : List Nat} {σ σ' : St} (d : Diff own σ σ') (h : ∀ i ∈ own, i ∈ vs) : L2.wipe σ' vs = L2.wipe σ vs := by
  apply List.ext_getElem?
  intro i
  rw [wipe_at, wipe_at, d.len]
  by_cases hi : i ∈ vs
  · by_cases hl : i < σ.length
    · simp [hi, hl]
    · simp [hi, hl]
      rw [d.len]; omega
  · simp [hi]
    exact d.at_ i fun q => hi (h i q)
def SimG (K : PySem.W.Frag) (t : TG) (g : MG) (own : List Nat) : Prop := ∀ (Z F : Hp) (μ : List Addr) (st : Store) (env env' : AEnv) (σ : St) (H : Hp) (v : V) (a : A) (Q : St → Hp → Prop), Good K Z F μ st H → REnv K F μ env σ → Rep K F μ a v → g a env = some env' →
  (∀ σ', REnv K F μ env' σ' → Diff own σ σ' → Q σ' H) → t v σ H Q
structure SG (Γ : G) (fo : Str → Bool) (tg : Expr) (g : MG) (own : List Nat) : Prop where
  run : ∃ t : TG, SimG Γ.K t g own ∧ ∀ X, CtxOk Γ X → (∀ x, fo x = true → X.fn x = true) → PG X tg t
structure SGs (Γ : G) (fo : Str → Bool) (tgs : List Expr) (g : List A → AEnv → Option AEnv) (own : List Nat) : Prop where
  run : ∃ t : TGs, (∀ (Z F : Hp) (μ : List Addr) (st : Store) (env env' : AEnv) (σ : St) (H : Hp) (vs : List V) (as : List A) (Q : St → Hp → Prop), Good Γ.K Z F μ st H → REnv Γ.K F μ env σ → Reps Γ.K F μ as vs → g as env = some env' →
    (∀ σ', REnv Γ.K F μ env' σ' → Diff own σ σ' → Q σ' H) → t vs σ H Q) ∧ ∀ X, CtxOk Γ X → (∀ x, fo x = true → X.fn x = true) → PGs X tgs t
def gN (i : Nat) : MG := fun a env => some (env.set i (some a))
def gsNil : List A → AEnv → Option AEnv := fun as env => match as with
  | [] => some env
  | _ => none
def gsCons (g : MG) (gs : List A → AEnv → Option AEnv) : List A → AEnv → Option AEnv := fun as env => match as with
  | a :: as => (g a env).bind fun env1 => gs as env1
  | _ => none
def gT (n : Nat) (gs : List A → AEnv → Option AEnv) : MG := fun a env => match tupR a with
  | some xs => if xs.length = n then gs xs env else none
  | none => none
section
variable {Γ : G} {fo : Str → Bool} {own own' : List Nat} {pos : Pos} {e : Expr} {es : List Expr} {g : MG} {gs : List A → AEnv → Option AEnv}
theorem g_name {i : Nat} {x : Str} (hi : Γ.N[i]? = some x) (hx : Loc Γ.sc x) (hf : fo x = true ∨ Γ.sc.names.lookup x = some .local := by first | exact .inl rfl | exact .inr rfl) : SG Γ fo (.Name x pos) (gN i) [i] :=
  ⟨gName i, fun Z F μ st env env' σ H v a Q g re ra e k => by cases e; exact k _ (re.set i ra) ⟨by rw [List.length_set], fun j hj => by rw [List.getElem?_set_ne (fun q => hj (by simp [q]))]⟩, fun X c hfo => pg_name c.nd (c.name hi) (by rw [c.sc]; exact hx) (hf.imp (hfo x) fun h => by rw [c.sc]; exact h)⟩
theorem gs_nil : SGs Γ fo [] gsNil [] := by
  refine ⟨gNil, fun Z F μ st env env' σ H vs as Q g re ra e k => ?_, fun X c hfo => pgs_nil⟩
  cases as with
  | nil => cases ra; cases e; exact ⟨rfl, k _ re Diff.refl⟩
  | cons a as => cases e
theorem gs_cons (h : SG Γ fo e g own) (hs : SGs Γ fo es gs own') (ha : ∀ env, (assignEach (e :: es) env).map (·.2) = assign e env :: (assignEach es env).map (·.2) := by intro _; rfl) : SGs Γ fo (e :: es) (gsCons g gs) (own ++ own') := by
  obtain ⟨t, h1, h2⟩ := h.run
  obtain ⟨ts, h3, h4⟩ := hs.run
  refine ⟨gCons t ts, fun Z F μ st env env' σ H vs as Q gd re ra e' k => ?_, fun X c hfo => pgs_cons (h2 X c hfo) (h4 X c hfo) (ha _)⟩
  cases as with
  | nil => cases e'
  | cons a as =>
    cases ra with
    | cons r rs =>
      have e' : (g a env).bind (fun env1 => gs as env1) = some env' := e'
      cases e1 : g a env with
      | none => rw [e1] at e'; cases e'
      | some env1 =>
        rw [e1] at e'
        exact ⟨_, _, rfl, h1 Z F μ st env env1 σ H _ a _ gd re r e1 fun σ' re' d => h3 Z F μ st env1 env' σ' H _ as Q gd re' rs e' fun σ2 re2 d2 => k σ2 re2 (d.trans d2)⟩
theorem g_tup {k n : Nat} (hs : SGs Γ fo es gs own) (hn : ∀ env, (assignEach es env).length = n := by intro _; rfl) (hst : ∀ env, (assignEach es env).findIdx? (·.1) = none := by intro _; rfl) (cm : Γ.calm = true := by rfl) : SG Γ fo (.Tuple es k pos) (gT n gs) own := by
  obtain ⟨ts, h3, h4⟩ := hs.run
  refine ⟨gTup Γ.K n ts, fun Z F μ st env env' σ H v a Q gd re ra e' k => ?_, fun X c hfo => by rw [← c.K]; exact pg_tup (c.calm cm) (h4 X c hfo) (hn _) (hst _)⟩
  unfold gT at e'
  cases e1 : tupR a with
  | none => rw [e1] at e'; cases e'
  | some xs =>
    rw [e1] at e'
    have e' : (if xs.length = n then gs xs env else none) = some env' := e'
    by_cases hl : xs.length = n
    · rw [if_pos hl] at e'
      obtain ⟨p, vs, rfl, h5, h6⟩ := tupR_ok gd ra e1
      exact ⟨p, vs, rfl, h5, by rw [← h6.length]; exact hl, h3 Z F μ st env env' σ H vs xs Q gd re h6 e' k⟩
    · rw [if_neg hl] at e'; cases e'
end

/-! ### statements -/
def KN (K : PySem.W.Frag) (Z F : Hp) (μ : List Addr) (P : St → Hp → Prop) : AEnv → Store → Prop := fun env' st' => ∀ F' μ' H' σ', Ext F F' μ μ' → Good K Z F' μ' st' H' → REnv K F' μ' env' σ' → P σ' H'
def KXS (K : PySem.W.Frag) (Z F : Hp) (μ : List Addr) (W : WX) : Exc → AEnv → Store → Prop := fun e env' st' => ∀ F' μ' H' σ' d, Ext F F' μ μ' → Good K Z F' μ' st' H' → REnv K F' μ' env' σ' → XRep K F' μ' e d → W (.ref (He.ga K e.c)) d σ' H'
def KS (K : PySem.W.Frag) (Z F : Hp) (μ : List Addr) (D : Ends) (W : WX) : SPost := ⟨KN K Z F μ D.nx, Kont K Z Rep F μ D.rt, KN K Z F μ D.bk, KN K Z F μ D.ct, KXS K Z F μ W⟩
abbrev MS := AEnv → Store → SRes
def SimS (K : PySem.W.Frag) (W : WX) (t : TS) (m : MS) : Prop := ∀ (Z F : Hp) (μ : List Addr) (st : Store) (env : AEnv) (σ : St) (H : Hp) (D : Ends), Good K Z F μ st H → REnv K F μ env σ → (m env st).post (KS K Z F μ D W) → t D σ H
structure SS (Γ : G) (fo : Str → Bool) (s : Stmt) (m : MS) : Prop where
  run : ∀ W : WX, ∃ t : TS, SimS Γ.K W t m ∧ ∀ X, CtxOk Γ X → (∀ x, fo x = true → X.fn x = true) → Takes X W → PS X s t
structure SB (Γ : G) (fo : Str → Bool) (ss : List Stmt) (m : MS) : Prop where
  run : ∀ W : WX, ∃ t : TS, SimS Γ.K W t m ∧ ∀ X, CtxOk Γ X → (∀ x, fo x = true → X.fn x = true) → Takes X W → PSs X ss t
section
variable {K : PySem.W.Frag} {Z F F' : Hp} {μ μ' : List Addr} {W : WX} {D : Ends}
theorem KN.ext {P : St → Hp → Prop} {env : AEnv} {st : Store} (e : Ext F F' μ μ') (h : KN K Z F μ P env st) : KN K Z F' μ' P env st := fun F2 μ2 H2 σ2 e2 g r => h F2 μ2 H2 σ2 (e.trans e2) g r
theorem KXS.ext {x : Exc} {env : AEnv} {st : Store} (e : Ext F F' μ μ') (h : KXS K Z F μ W x env st) : KXS K Z F' μ' W x env st := fun F2 μ2 H2 σ2 d e2 g r => h F2 μ2 H2 σ2 d (e.trans e2) g r
theorem KS.ext {r : SRes} (e : Ext F F' μ μ') (h : r.post (KS K Z F μ D W)) : r.post (KS K Z F' μ' D W) :=
  SRes.post_mono h (fun _ _ q => KN.ext e q) (fun _ _ q => Kont.ext e q) (fun _ _ q => KN.ext e q) (fun _ _ q => KN.ext e q) (fun _ _ _ q => KXS.ext e q)
theorem KN.now {P : St → Hp → Prop} {env : AEnv} {st : Store} {σ : St} {H : Hp} (h : KN K Z F μ P env st) (g : Good K Z F μ st H) (r : REnv K F μ env σ) : P σ H := h F μ H σ Ext.refl g r
/-- an expression, then the rest of its statement -/
theorem SimS.of {α β : Type} {R : Rel α β} {t : St → Hp → (β → Hp → Prop) → Prop} {m : AEnv → Store → Res α} {f : α → AEnv → Store → SRes} {k : β → TS} (h : Sim K R W t m)
    (h' : ∀ (Z F : Hp) (μ : List Addr) (st : Store) (env : AEnv) (σ : St) (H : Hp) (D : Ends) (a : α) (b : β), Good K Z F μ st H → REnv K F μ env σ → R K F μ a b → (f a env st).post (KS K Z F μ D W) → k b D σ H) :
    SimS K W (fun D σ H => t σ H fun b H1 => k b D σ H1) (fun env st => (m env st).toS env fun a st1 => f a env st1) := by
  intro Z F μ st env σ H D g re hp
  rw [Res.post_toS] at hp
  refine h Z F μ st env σ H _ g re (Res.post_mono hp (fun a st1 q => ?_) fun x st1 q => ?_)
  · intro F1 μ1 H1 b e1 g1 r1
    exact h' Z F1 μ1 st1 env σ H1 D a b g1 (re.mono e1) r1 (KS.ext e1 q)
  · intro F1 μ1 H1 d e1 g1 x1
    exact q F1 μ1 H1 σ d e1 g1 (re.mono e1) x1
end
def sNil : MS := fun env st => .nx env st
def sSeq (a b : MS) : MS := fun env st => (a env st).bind b
def sAsg (g : MG) (m : AEnv → Store → Res A) : MS := fun env st => (m env st).toS env fun a st1 => match g a env with
  | some env1 => .nx env1 st1
  | none => .stuck
def sEx (m : AEnv → Store → Res A) : MS := fun env st => (m env st).toS env fun _ st1 => .nx env st1
def sRet (m : AEnv → Store → Res A) : MS := fun env st => (m env st).toS env fun a st1 => .rt a st1
def sRetN : MS := fun _ st => .rt .non st
def sIf (p : AEnv → Store → Res Bool) (a b : MS) : MS := fun env st => (p env st).toS env fun c st1 => if c then a env st1 else b env st1
def sBk : MS := fun env st => .bk env st
def sCt : MS := fun env st => .ct env st
section
variable {Γ : G} {fo : Str → Bool} {pos : Pos} {e : Expr} {s : Stmt} {ss : List Stmt} {m : AEnv → Store → Res A} {ma mb : MS}
theorem b_nil : SB Γ fo [] sNil := ⟨fun W => ⟨tNext, fun Z F μ st env σ H D g re h => KN.now h g re, fun X c hf t => pss_nil⟩⟩
theorem b_one (h : SS Γ fo s ma) : SB Γ fo [s] ma := ⟨fun W => let ⟨t, h1, h2⟩ := h.run W; ⟨t, h1, fun X c hf k => pss_one (h2 X c hf k)⟩⟩
theorem sim_seq {K : PySem.W.Frag} {W : WX} {t u : TS} (h1 : SimS K W t ma) (h2 : SimS K W u mb) : SimS K W (tSeq t u) (sSeq ma mb) := by
  intro Z F μ st env σ H D g re hp
  unfold sSeq at hp
  rw [SRes.post_bind] at hp
  refine h1 Z F μ st env σ H _ g re (SRes.post_mono hp (fun env1 st1 q => ?_) (fun _ _ q => q) (fun _ _ q => q) (fun _ _ q => q) (fun _ _ _ q => q))
  intro F1 μ1 H1 σ1 e1 g1 re1
  exact h2 Z F1 μ1 st1 env1 σ1 H1 D g1 re1 (KS.ext e1 q)
theorem b_cons (h : SS Γ fo s ma) (hs : SB Γ fo ss mb) : SB Γ fo (s :: ss) (sSeq ma mb) :=
  ⟨fun W => let ⟨t, h1, h2⟩ := h.run W; let ⟨u, h3, h4⟩ := hs.run W; ⟨_, sim_seq h1 h3, fun X c hf k => pss_cons (h2 X c hf k) (h4 X c hf k)⟩⟩
theorem st_pass : SS Γ fo (.Pass pos) sNil := ⟨fun W => ⟨tNext, fun Z F μ st env σ H D g re h => KN.now h g re, fun X c hf t => ps_pass⟩⟩
theorem st_break : SS Γ fo (.Break pos) sBk := ⟨fun W => ⟨tBreak, fun Z F μ st env σ H D g re h => KN.now h g re, fun X c hf t => ps_break⟩⟩
theorem st_cont : SS Γ fo (.Continue pos) sCt := ⟨fun W => ⟨tCont, fun Z F μ st env σ H D g re h => KN.now h g re, fun X c hf t => ps_continue⟩⟩
theorem st_ex (h : SE Γ e m) (hs : ∀ env, swapsWith e none pos.line env = pure false := by intro _; rfl) : SS Γ fo (.Expr e pos) (sEx m) :=
  ⟨fun W => let ⟨t, h1, h2⟩ := h.run W; ⟨tDrop t, SimS.of (k := fun b D σ H => D.nx σ H) (f := fun a env st1 => .nx env st1) h1 (fun Z F μ st env σ H D a b g re r q => KN.now q g re), fun X c hf k => ps_expr (h2 X c k) (hs _)⟩⟩
theorem st_ret (h : SE Γ e m) : SS Γ fo (.Return (some e) pos) (sRet m) :=
  ⟨fun W => let ⟨t, h1, h2⟩ := h.run W; ⟨tRet t, SimS.of (k := fun b D σ H => D.rt b H) (f := fun a env st1 => .rt a st1) h1 (fun Z F μ st env σ H D a b g re r q => Kont.now q g r), fun X c hf k => ps_ret (h2 X c k)⟩⟩
theorem st_retN : SS Γ fo (.Return none pos) sRetN := ⟨fun W => ⟨tRetN, fun Z F μ st env σ H D g re h => Kont.now (R := Rep) (a := A.non) (b := V.non) (Q := D.rt) h g .non, fun X c hf t => ps_retN⟩⟩
theorem st_if {c : Expr} {p : AEnv → Store → Res Bool} {ssb : List Stmt} (hc : ST Γ c p) (ha : SB Γ fo ss ma) (hb : SB Γ fo ssb mb) : SS Γ fo (.If c ss ssb pos) (sIf p ma mb) :=
  ⟨fun W => by
    obtain ⟨tc, h1, h2⟩ := hc.run W
    obtain ⟨ta, h3, h4⟩ := ha.run W
    obtain ⟨tb, h5, h6⟩ := hb.run W
    refine ⟨tIfS tc ta tb, SimS.of (k := fun b D σ H => if b = true then ta D σ H else tb D σ H) (f := fun (c : Bool) env st1 => if c then ma env st1 else mb env st1) h1 (fun Z F μ st env σ H D a b g re r q => ?_), fun X c hf k => ps_if (h2 X c k) (h4 X c hf k) (h6 X c hf k)⟩
    cases (r : a = b)
    cases a with
    | true => rw [if_pos rfl]; exact h3 Z F μ st env σ H D g re q
    | false => rw [if_neg Bool.false_ne_true]; exact h5 Z F μ st env σ H D g re q⟩
theorem sim_asg {K : PySem.W.Frag} {W : WX} {t : TE} {tg : TG} {g : MG} {own : List Nat} (h : Sim K Rep W t m) (hg : SimG K tg g own) : SimS K W (tAsg t tg) (sAsg g m) :=
  SimS.of (k := fun b D σ H => tg b σ H D.nx) (f := fun a env st1 => match g a env with | some env1 => .nx env1 st1 | none => .stuck) h (fun Z F μ st env σ H D a b gd re r q => by
    cases e1 : g a env with
    | none => rw [e1] at q; exact q.elim
    | some env1 =>
      rw [e1] at q
      exact hg Z F μ st env env1 σ H b a D.nx gd re r e1 fun σ' re' _ => KN.now q gd re')
theorem sim_gN {K : PySem.W.Frag} (i : Nat) : SimG K (gName i) (gN i) [i] := fun Z F μ st env env' σ H v a Q g re ra e k => by cases e; exact k _ (re.set i ra) ⟨by rw [List.length_set], fun j hj => by rw [List.getElem?_set_ne (fun q => hj (by simp [q]))]⟩
/-- x = e -/
theorem st_set {i : Nat} {x : Str} {pos' : Pos} (hi : Γ.N[i]? = some x) (hx : Loc Γ.sc x) (h : SE Γ e m) (hs : ∀ X : Cx, CtxOk Γ X → swapsWith e (some (.Name x pos')) pos.line X.env = pure false := by intro _ _; rfl)
    (hf : fo x = true ∨ Γ.sc.names.lookup x = some .local := by first | exact .inl rfl | exact .inr rfl) : SS Γ fo (.Assign [.Name x pos'] e pos) (sAsg (gN i) m) :=
  ⟨fun W => let ⟨t, h1, h2⟩ := h.run W
   ⟨_, sim_asg h1 (tg := gName i) (sim_gN i),
    fun X c hfo k => ps_set c.nd (c.name hi) (by rw [c.sc]; exact hx) (h2 X c k) (hs X c) (hf.imp (hfo x) fun h => by rw [c.sc]; exact h)⟩⟩
/-- a, b = e -/
theorem st_asg {tg : Expr} {g : MG} {own : List Nat} (h : SE Γ e m) (hg : SG Γ fo tg g own) (hs : ∀ env, swapsWithSole [tg] e pos.line env = pure false := by intro _; rfl) (hw : ∀ env, swappedStores [tg] e env = pure none := by intro _; rfl)
    (ha : ∀ env, (assignEach [tg] env).map (·.2) = [assign tg env] := by intro _; rfl) : SS Γ fo (.Assign [tg] e pos) (sAsg g m) :=
  ⟨fun W => by
    obtain ⟨t, h1, h2⟩ := h.run W
    obtain ⟨u, h3, h4⟩ := hg.run
    exact ⟨_, sim_asg h1 h3, fun X c hf k => ps_asg (h2 X c k) (h4 X c hf) (hs _) (hw _) (ha _)⟩⟩
/-- a, b = e1, e2 -/
def sPar (i j : Nat) (ms : AEnv → Store → Res (List A)) : MS := fun env st => (ms env st).toS env fun as st1 => match as with
  | [a, b] => .nx ((env.set i (some a)).set j (some b)) st1
  | _ => .stuck
theorem st_par {i j : Nat} {x y : Str} {a b : Expr} {ms : AEnv → Store → Res (List A)} {px py pt : Pos} {kt k2 pt2} (hi : Γ.N[i]? = some x) (hj : Γ.N[j]? = some y) (hij : i ≠ j) (hx : Γ.sc.names.lookup x = some .local) (hy : Γ.sc.names.lookup y = some .local) (h : SA Γ [a, b] ms)
    (hw : ∀ X : Cx, CtxOk Γ X → swappedStores [.Tuple [.Name x px, .Name y py] kt pt] (.Tuple [a, b] k2 pt2) X.env = pure (some [x, y]))
    (hs : ∀ env, swapsWithSole [.Tuple [.Name x px, .Name y py] kt pt] (.Tuple [a, b] k2 pt2) pos.line env = pure false := by intro _; rfl) (cm : Γ.calm = true := by rfl) :
    SS Γ fo (.Assign [.Tuple [.Name x px, .Name y py] kt pt] (.Tuple [a, b] k2 pt2) pos) (sPar i j ms) :=
  ⟨fun W => by
    obtain ⟨t, h1, h2⟩ := h.run W
    refine ⟨tPar i j t, SimS.of (k := fun (vs : List V) D σ H => ∃ v w, vs = [v, w] ∧ D.nx ((σ.set i (some v)).set j (some w)) H) (f := fun (as : List A) env st1 => match as with | [a, b] => .nx ((env.set i (some a)).set j (some b)) st1 | _ => .stuck) h1 (fun Z F μ st env σ H D as vs g re r q => ?_),
      fun X c hf k => ps_par (c.calm cm) c.nd (c.name hi) (c.name hj) hij (by rw [c.sc]; exact hx) (by rw [c.sc]; exact hy) (h2 X c k) (hw X c) (hs _)⟩
    split at q
    · obtain ⟨v, w, rfl, r1, r2⟩ := r.two
      exact ⟨v, w, rfl, KN.now q g ((re.set i r1).set j r2)⟩
    · exact q.elim⟩
/-! xs[i] = e -/
def setL : A → A → A → Store → Option Store := fun o i v st => match cellL o st, i with
  | some (n, xs), .int k => (ixN xs.length k).map fun j => st.set n (.lst (xs.set j v))
  | _, _ => none
/-- a store by values -/
structure Cset (op : A → A → A → Store → Option Store) : Prop where
  ex : ∃ r : PySem.W.Frag → TSet, (∀ (Γ : G) (X : Cx), CtxOk Γ X → PSet X (r X.K)) ∧ ∀ (K : PySem.W.Frag) (Z F : Hp) (μ : List Addr) (st st' : Store) (H : Hp) (o i a : A) (x y v : V) (Q : Hp → Prop), Good K Z F μ st H → Rep K F μ o x → Rep K F μ i y → Rep K F μ a v → op o i a st = some st' →
    (∀ F' H', Ext F F' μ μ → Good K Z F' μ st' H' → Q H') → r K x y v H Q
theorem cset_list : Cset setL := ⟨⟨fun _ => rSetL, fun _ _ _ => set_list, fun K Z F μ st st' H o i a x y v Q g ro ri ra e k => by
  unfold setL at e
  cases e1 : cellL o st with
  | none => rw [e1] at e; cases e
  | some p =>
    obtain ⟨n, xs⟩ := p
    rw [e1] at e
    cases i with
    | int j =>
      cases ri
      have e : (ixN xs.length j).map (fun l => st.set n (.lst (xs.set l a))) = some st' := e
      cases e2 : ixN xs.length j with
      | none => rw [e2] at e; cases e
      | some l =>
        rw [e2] at e; cases e
        obtain ⟨p, vs, rfl, h1, r1, hw⟩ := cellL_ok g ro e1
        exact ⟨p, vs, j, l, rfl, rfl, h1, by rw [← r1.length]; exact e2, k _ _ Ext.refl (hw _ _ (Reps.set ra l r1))⟩
    | _ => cases e⟩⟩
def sSub (op : A → A → A → Store → Option Store) (mv mo mi : AEnv → Store → Res A) : MS := fun env st => (mv env st).toS env fun v st1 => (mo env st1).toS env fun o st2 => (mi env st2).toS env fun i st3 => match op o i v st3 with
  | some st4 => .nx env st4
  | none => .stuck
theorem st_sub {op : A → A → A → Store → Option Store} {o i : Expr} {mo mi : AEnv → Store → Res A} {sp : Pos} (hop : Cset op) (h : SE Γ e m) (ho : SE Γ o mo) (hi : SE Γ i mi)
    (hass : ∀ env v, assign (.Subscript o i sp) env v = (do
      let ov ← holding [v] (eval o env)
      let iv ← holding [v, ov] (eval i env)
      standAt sp
      holding [v, ov, iv] (setItem ov iv v)
      release [v, ov, iv] []) := by intro _ _; rfl)
    (hs : ∀ env, swapsWithSole [.Subscript o i sp] e pos.line env = pure false := by intro _; rfl) (hw : ∀ env, swappedStores [.Subscript o i sp] e env = pure none := by intro _; rfl)
    (ha : ∀ env, (assignEach [.Subscript o i sp] env).map (·.2) = [assign (.Subscript o i sp) env] := by intro _; rfl) : SS Γ fo (.Assign [.Subscript o i sp] e pos) (sSub op m mo mi) :=
  ⟨fun W => by
    obtain ⟨r, h1, h2⟩ := hop.ex
    obtain ⟨t, s1, p1⟩ := h.run W
    obtain ⟨t2, s2, p2⟩ := ho.run W
    obtain ⟨t3, s3, p3⟩ := hi.run W
    refine ⟨tAsg t (gSub t2 t3 (r Γ.K)), ?_, fun X c hf k => ?_⟩
    · intro Z F μ st env σ H D g re hp
      unfold sSub at hp
      rw [Res.post_toS] at hp
      refine s1 Z F μ st env σ H _ g re (Res.post_mono hp (fun v st1 q => ?_) fun x st1 q F1 μ1 H1 d e1 g1 x1 => q F1 μ1 H1 σ d e1 g1 (re.mono e1) x1)
      intro F1 μ1 H1 vv e1 g1 rv
      rw [Res.post_toS] at q
      refine s2 Z F1 μ1 st1 env σ H1 _ g1 (re.mono e1) (Res.post_mono q (fun o st2 q => ?_) fun x st2 q F2 μ2 H2 d e2 g2 x1 => q F2 μ2 H2 σ d (e1.trans e2) g2 (re.mono (e1.trans e2)) x1)
      intro F2 μ2 H2 ov e2 g2 ro
      rw [Res.post_toS] at q
      refine s3 Z F2 μ2 st2 env σ H2 _ g2 (re.mono (e1.trans e2)) (Res.post_mono q (fun i st3 q => ?_) fun x st3 q F3 μ3 H3 d e3 g3 x1 => q F3 μ3 H3 σ d (e1.trans (e2.trans e3)) g3 (re.mono (e1.trans (e2.trans e3))) x1)
      intro F3 μ3 H3 iv e3 g3 ri
      cases eo : op o i v st3 with
      | none => rw [eo] at q; exact q.elim
      | some st4 =>
        rw [eo] at q
        have e13 := e1.trans (e2.trans e3)
        refine h2 Γ.K Z F3 μ3 st3 st4 H3 o i v ov iv vv _ g3 (ro.mono e3) ri (rv.mono (e2.trans e3)) eo fun F4 H4 e4 g4 => ?_
        exact KN.now ((show KN Γ.K Z F μ D.nx env st4 from q).ext (e13.trans e4)) g4 (re.mono (e13.trans e4))
    · rw [← c.K]
      exact ps_asg (p1 X c k) (pg_sub (p2 X c k) (p3 X c k) (h1 Γ X c) (hass _)) (hs _) (hw _) (ha _)⟩
/-! x op= e -/
def sAug (i : Nat) (op : Op2) (m : AEnv → Store → Res A) : MS := fun env st => match env[i]? with
  | some (some a) => (m env st).toS env fun b st1 => match op a b st1 with
    | some (c, st2) => .nx (env.set i (some c)) st2
    | none => .stuck
  | _ => .stuck
/-- an in-place operator with its plain function -/
structure Cip (o : Operator) (op : Op2) : Prop where
  ex : ∃ r : PySem.W.Frag → R2, (∀ X : Cx, OpR X (inplaceOp o) (r X.K)) ∧ ∀ K, SimV2 K (r K) op
theorem ip_addI : Cip .Add addI := ⟨⟨fun _ => _, fun _ => iop_add, fun _ => sim_addI⟩⟩
theorem ip_subI : Cip .Sub subOp := ⟨⟨fun _ => _, fun _ => iop_sub, fun _ => sim_sub⟩⟩
theorem ip_addS : Cip .Add addS := ⟨⟨fun _ => _, fun _ => iop_add_str, fun _ => sim_addS⟩⟩
theorem st_aug {i : Nat} {x : Str} {o : Operator} {op : Op2} {pos' : Pos} (ho : Cip o op) (hi : Γ.N[i]? = some x) (hx : Loc Γ.sc x) (h : SE Γ e m) (hf : fo x = true ∨ Γ.sc.names.lookup x = some .local := by first | exact .inl rfl | exact .inr rfl) :
    SS Γ fo (.AugAssign (.Name x pos') o e pos) (sAug i op m) :=
  ⟨fun W => by
    obtain ⟨r, h1, h2⟩ := ho.ex
    obtain ⟨t, s, p⟩ := h.run W
    refine ⟨tAug i t (fun x y H Q => r Γ.K x y H Q), ?_, fun X c hfo k => ?_⟩
    · intro Z F μ st env σ H D g re hp
      unfold sAug at hp
      cases e1 : env[i]? with
      | none => rw [e1] at hp; exact hp.elim
      | some oa =>
        cases oa with
        | none => rw [e1] at hp; exact hp.elim
        | some a =>
          rw [e1] at hp
          obtain ⟨v, hv, rv⟩ := re.at_ i a e1
          refine ⟨v, hv, ?_⟩
          have hp : ((m env st).toS env fun b st1 => match op a b st1 with | some (c, st2) => .nx (env.set i (some c)) st2 | none => .stuck).post (KS Γ.K Z F μ D W) := hp
          rw [Res.post_toS] at hp
          refine s Z F μ st env σ H _ g re (Res.post_mono hp (fun b st1 q => ?_) fun x st1 q F1 μ1 H1 d e1 g1 x1 => q F1 μ1 H1 σ d e1 g1 (re.mono e1) x1)
          intro F1 μ1 H1 y e2 g1 ry
          cases eo : op a b st1 with
          | none => rw [eo] at q; exact q.elim
          | some pr =>
            obtain ⟨c, st2⟩ := pr
            rw [eo] at q
            refine h2 Γ.K Z F1 μ1 st1 st2 H1 a b c v y _ g1 (rv.mono e2) ry eo ?_
            intro F2 μ2 H2 z e3 g2 rz
            exact KN.now ((show KN Γ.K Z F μ D.nx (env.set i (some c)) st2 from q).ext (e2.trans e3)) g2 ((re.mono (e2.trans e3)).set i rz)
    · have hip : PIp X o (fun x y H Q => r Γ.K x y H Q) := by
        intro pins s σ H x y v u Q I rx ry q
        have := h1 X
        rw [c.K] at this
        exact this pins s σ H x y v u Q I rx ry q
      exact ps_aug c.nd (c.name hi) (by rw [c.sc]; exact hx) (p X c k) hip (hf.imp (hfo x) fun h => by rw [c.sc]; exact h)⟩

/-! ### loops -/
open Classical in
noncomputable def forL (src : Src) (all : List A) (g : MG) (body : MS) : List A → AEnv → Store → SRes
  | [], env, st => if srcOk src all st then .nx env st else .stuck
  | x :: xs, env, st => if srcOk src all st then (match g x env with
    | some env1 => (match body env1 st with
      | .nx e s => forL src all g body xs e s
      | .ct e s => forL src all g body xs e s
      | .bk e s => .nx e s
      | r => r)
    | none => .stuck) else .stuck
noncomputable def sFor (mi : MI) (g : MG) (body : MS) : MS := fun env st => (mi env st).toS env fun p st1 => forL p.2 p.1 g body p.1 env st1
theorem sim_for {K : PySem.W.Frag} {W : WX} {wi : TI} {tg : TG} {tb : TS} {mi : MI} {g : MG} {own : List Nat} {body : MS} (hi : SimI K W wi mi) (hg : SimG K tg g own) (hb : SimS K W tb body) : SimS K W (tFor wi tg tb) (sFor mi g body) := by
  intro Z F μ st env σ H D gd re hp
  unfold sFor at hp
  rw [Res.post_toS] at hp
  refine hi Z F μ st env σ H _ gd re (Res.post_mono hp (fun p st1 q => ?_) fun x st1 q F1 μ1 H1 d e1 g1 x1 => q F1 μ1 H1 σ d e1 g1 (re.mono e1) x1)
  obtain ⟨xs, src⟩ := p
  intro F1 μ1 H1 e1 g1 J hJ
  refine ⟨fun i m σ' H' => m = xs.length - i ∧ i ≤ xs.length ∧ ∃ F' μ' env' st', Ext F1 F' μ1 μ' ∧ Good K Z F' μ' st' H' ∧ REnv K F' μ' env' σ' ∧ (forL src xs g body (xs.drop i) env' st').post (KS K Z F' μ' D W), ⟨xs.length, ?_⟩, ?_⟩
  · exact ⟨rfl, Nat.zero_le _, F1, μ1, env, st1, Ext.refl, g1, re.mono e1, KS.ext e1 q⟩
  · rintro i m σ' H' ⟨rfl, hil, F', μ', env', st', e2, g2, re2, hp2⟩
    have chk : srcOk src xs st' := by
      cases ed : xs.drop i with
      | nil =>
        rw [ed] at hp2
        by_cases h : srcOk src xs st'
        · exact h
        · rw [forL, if_neg h] at hp2; exact hp2.elim
      | cons y ys =>
        rw [ed] at hp2
        by_cases h : srcOk src xs st'
        · exact h
        · rw [forL, if_neg h] at hp2; exact hp2.elim
    obtain ⟨j1, j2⟩ := hJ Z i F' μ' st' H' e2 g2 chk
    by_cases hl : i < xs.length
    · refine .inr ?_
      have ed : xs.drop i = xs[i] :: xs.drop (i + 1) := List.drop_eq_getElem_cons hl
      rw [ed, forL, if_pos chk] at hp2
      obtain ⟨hgo, hy⟩ := j1 xs[i] (List.getElem?_eq_getElem hl)
      cases eg : g xs[i] env' with
      | none => rw [eg] at hp2; exact hp2.elim
      | some env1 =>
        rw [eg] at hp2
        dsimp only at hp2
        let N : St → Hp → Prop := fun σ'' H'' => ∃ F' μ' env' st', Ext F1 F' μ1 μ' ∧ Good K Z F' μ' st' H'' ∧ REnv K F' μ' env' σ'' ∧ (forL src xs g body (xs.drop (i + 1)) env' st').post (KS K Z F' μ' D W)
        refine ⟨hgo, N, ?_, ?_⟩
        · rintro σ'' H'' ⟨F3, μ3, env3, st3, e3, g3, re3, hp3⟩
          exact ⟨xs.length - (i + 1), by omega, rfl, hl, F3, μ3, env3, st3, e3, g3, re3, hp3⟩
        · intro x H2 yd
          obtain ⟨F2, e3, g3, rx⟩ := hy x H2 yd
          refine hg Z F2 μ' st' env' env1 σ' H2 x xs[i] _ g3 (re2.mono e3) rx eg fun σ3 re3 _ => ?_
          refine hb Z F2 μ' st' env1 σ3 H2 _ g3 re3 ?_
          have hp3 := KS.ext e3 hp2
          cases eb : body env1 st' with
          | nx ee ss =>
            rw [eb] at hp3
            intro F4 μ4 H4 σ4 e4 g4 re4
            exact ⟨F4, μ4, ee, ss, e2.trans (e3.trans e4), g4, re4, KS.ext e4 hp3⟩
          | ct ee ss =>
            rw [eb] at hp3
            intro F4 μ4 H4 σ4 e4 g4 re4
            exact ⟨F4, μ4, ee, ss, e2.trans (e3.trans e4), g4, re4, KS.ext e4 hp3⟩
          | bk ee ss => rw [eb] at hp3; exact hp3
          | rt a ss => rw [eb] at hp3; exact hp3
          | exc x ee ss => rw [eb] at hp3; exact hp3
          | stuck => rw [eb] at hp3; exact hp3.elim
    · have hil' : i = xs.length := by omega
      subst hil'
      refine .inl ⟨j2 (Nat.le_refl _), ?_⟩
      rw [List.drop_length, forL, if_pos chk] at hp2
      exact KN.now (show KN K Z F' μ' D.nx env' st' from hp2) g2 re2
theorem st_for {tg iter : Expr} {mi : MI} {g : MG} {own : List Nat} (hi : SI Γ tg iter mi) (hg : SG Γ fo tg g own) (hb : SB Γ fo ss ma) (hs : ∀ env x, foldedSetIterable iter env x = pure x := by intro _ _; rfl) (cm : Γ.calm = true := by rfl) : SS Γ fo (.For tg iter ss [] pos) (sFor mi g ma) :=
  ⟨fun W => by
    obtain ⟨wi, h1, h2⟩ := hi.run W
    obtain ⟨u, h3, h4⟩ := hg.run
    obtain ⟨tb, h5, h6⟩ := hb.run W
    exact ⟨_, sim_for h1 h3 h5, fun X c hf k => ps_for c.own (c.calm cm) (h2 X c k) (h4 X c hf) (h6 X c hf k) (hs _)⟩⟩
/-- while, at most so many turns -/
def whL (p : AEnv → Store → Res Bool) (body : MS) : Nat → AEnv → Store → SRes
  | 0, _, _ => .stuck
  | n + 1, env, st => (p env st).toS env fun c st1 => if c then (match body env st1 with
    | .nx e s => whL p body n e s
    | .ct e s => whL p body n e s
    | .bk e s => .nx e s
    | r => r) else .nx env st1
/-- more turns than any while takes -/
def fuelW : Nat := 2 ^ 64
def sWhile (p : AEnv → Store → Res Bool) (body : MS) : MS := fun env st => whL p body fuelW env st
theorem sim_while {K : PySem.W.Frag} {W : WX} {tc : TT} {tb : TS} {p : AEnv → Store → Res Bool} {body : MS} (hc : Sim K RepB W tc p) (hb : SimS K W tb body) : SimS K W (tWhile tc tb) (sWhile p body) := by
  intro Z F μ st env σ H D gd re hp
  refine ⟨fun m σ' H' => ∃ F' μ' env' st', Ext F F' μ μ' ∧ Good K Z F' μ' st' H' ∧ REnv K F' μ' env' σ' ∧ (whL p body m env' st').post (KS K Z F' μ' D W), ⟨fuelW, F, μ, env, st, Ext.refl, gd, re, hp⟩, ?_⟩
  rintro m σ' H' ⟨F', μ', env', st', e2, g2, re2, hp2⟩
  cases m with
  | zero => exact hp2.elim
  | succ n =>
    rw [whL, Res.post_toS] at hp2
    refine hc Z F' μ' st' env' σ' H' _ g2 re2 (Res.post_mono hp2 (fun c st1 q => ?_) fun x st1 q F1 μ1 H1 d e1 g1 x1 => q F1 μ1 H1 σ' d e1 g1 (re2.mono e1) x1)
    intro F3 μ3 H3 b e3 g3 rb
    cases (rb : c = b)
    cases c with
    | false => rw [if_neg Bool.false_ne_true]; exact KN.now ((show KN K Z F' μ' D.nx env' st1 from q).ext e3) g3 (re2.mono e3)
    | true =>
      rw [if_pos rfl]
      refine ⟨fun σ'' H'' => ∃ F' μ' env' st', Ext F F' μ μ' ∧ Good K Z F' μ' st' H'' ∧ REnv K F' μ' env' σ'' ∧ (whL p body n env' st').post (KS K Z F' μ' D W), fun σ'' H'' h => ⟨n, Nat.lt_succ_self _, h⟩, ?_⟩
      refine hb Z F3 μ3 st1 env' σ' H3 _ g3 (re2.mono e3) ?_
      have hp3 := KS.ext e3 (show (match body env' st1 with | .nx e s => whL p body n e s | .ct e s => whL p body n e s | .bk e s => SRes.nx e s | r => r).post (KS K Z F' μ' D W) from q)
      cases eb : body env' st1 with
      | nx ee ss =>
        rw [eb] at hp3
        intro F4 μ4 H4 σ4 e4 g4 re4
        exact ⟨F4, μ4, ee, ss, e2.trans (e3.trans e4), g4, re4, KS.ext e4 hp3⟩
      | ct ee ss =>
        rw [eb] at hp3
        intro F4 μ4 H4 σ4 e4 g4 re4
        exact ⟨F4, μ4, ee, ss, e2.trans (e3.trans e4), g4, re4, KS.ext e4 hp3⟩
      | bk ee ss => rw [eb] at hp3; exact hp3
      | rt a ss => rw [eb] at hp3; exact hp3
      | exc x ee ss => rw [eb] at hp3; exact hp3
      | stuck => rw [eb] at hp3; exact hp3.elim
theorem st_while {c : Expr} {p : AEnv → Store → Res Bool} (hc : ST Γ c p) (hb : SB Γ fo ss ma) : SS Γ fo (.While c ss [] pos) (sWhile p ma) :=
  ⟨fun W => by
    obtain ⟨tc, h1, h2⟩ := hc.run W
    obtain ⟨tb, h5, h6⟩ := hb.run W
    exact ⟨_, sim_while h1 h5, fun X c hf k => ps_while c.own (h2 X c k) (h6 X c hf k)⟩⟩
end
end SL

set_option Elab.async false
set_option linter.all false
set_option maxRecDepth 100000
set_option maxHeartbeats 4000000
/-! SLh: comprehensions; lists of a range; what a def's body is worth. -/
namespace SL
open PySem PySem.Spec L2
open PyProof.Rows hiding St
/-- the place of a comprehension's block -/
def G.blk (Γ : G) (scope : Scope) : G := { Γ with sc := relS scope Γ.sc, st := false, hx := none }
def blkFo (scope : Scope) : Str → Bool := fun x => scope.names.lookup x == some .cell
theorem CtxOk.blk {Γ : G} {X : Cx} (c : CtxOk Γ X) (scope : Scope) (s : Shared) (H : Hp) (C : Addr) (cl : List (Str × Addr)) (fp : List Addr) : CtxOk (Γ.blk scope) (X.blk s H scope (compEnvC scope cl C X.env) fp) where
  prog := c.prog
  w := c.w
  K := c.K
  mg := c.mg
  base := c.base
  N := c.N
  sc := by
    show relabel scope X.env = relS scope Γ.sc
    unfold relabel relS Env.kindOf
    rw [c.sc]
  calm := c.calm
  room := c.room
  units := c.units
  stk := fun z => Bool.noConfusion z
  hx := fun _ _ _ z => nomatch z
  nd := c.nd
  own := PassesOwn.never
def noX {α : Type} (r : Res α) : Res α := match r with
  | .exc _ _ => .stuck
  | r => r
@[simp] theorem noX_ok {α : Type} {a : α} {st : Store} : noX (.ok a st) = .ok a st := (rfl)
theorem noX_post {α : Type} {r : Res α} {P : α → Store → Prop} {E E' : Exc → Store → Prop} (h : (noX r).post P E) : r.post P E' := by
  cases r with
  | ok a st => exact h
  | exc e st => exact h.elim
  | stuck => exact h
def wipeA (env : AEnv) : List Nat → AEnv
  | [] => env
  | v :: vs => (wipeA env vs).set v none
theorem REnv.wipe {K : PySem.W.Frag} {F : Hp} {μ : List Addr} {env : AEnv} {σ : St} (r : REnv K F μ env σ) : ∀ vs : List Nat, REnv K F μ (wipeA env vs) (L2.wipe σ vs)
  | [] => r
  | v :: vs => (r.wipe vs).unset v
theorem wipe_wipe (σ : St) (vs : List Nat) : wipe (wipe σ vs) vs = wipe σ vs := by
  apply List.ext_getElem?
  intro i
  rw [wipe_at, wipe_at, wipe_length]
  by_cases h : i ∈ vs ∧ i < σ.length
  · rw [if_pos h, if_pos h]
  · rw [if_neg h]
open Classical in
noncomputable def lcL (src : Src) (all : List A) (g : MG) (mt : AEnv → Store → Res Bool) (me : AEnv → Store → Res A) (env0 : AEnv) : List A → List A → Store → Res (List A)
  | [], acc, st => if srcOk src all st then .ok acc st else .stuck
  | x :: xs, acc, st => if srcOk src all st then (match g x env0 with
    | none => .stuck
    | some env1 => (noX (mt env1 st)).bind fun b st1 => if b then (noX (me env1 st1)).bind fun y st2 => if acc.length < sizeLine then lcL src all g mt me env0 xs (acc ++ [y]) st2 else .stuck
      else lcL src all g mt me env0 xs acc st1) else .stuck
noncomputable def eLc (mk : Bool) (mi : MI) (g : MG) (own : List Nat) (mt : AEnv → Store → Res Bool) (me : AEnv → Store → Res A) : AEnv → Store → Res A := fun env st => (mi env st).bind fun p st1 =>
  (lcL p.2 p.1 g mt me (wipeA env own) p.1 [] st1).bind fun acc st2 => .ok (newL mk acc st2).1 (newL mk acc st2).2
abbrev W0 : WX := fun _ _ _ _ => False
theorem sim_lc {K : PySem.W.Frag} {W : WX} {mk : Bool} {wi : TI} {tg : TG} {tt : TT} {te : TE} {mi : MI} {g : MG} {own gown : List Nat} {mt : AEnv → Store → Res Bool} {me : AEnv → Store → Res A} (hi : SimI K W wi mi) (hg : SimG K tg g gown) (hsub : ∀ i ∈ gown, i ∈ own)
    (ht : Sim K RepB W0 tt mt) (he : Sim K Rep W0 te me) : Sim K Rep W (tLc wi tg tt te own) (eLc mk mi g own mt me) := by
  intro Z F μ st env σ H Q gd re hp
  unfold eLc at hp
  rw [Res.post_bind] at hp
  refine hi Z F μ st env σ H _ gd re (Res.post_mono hp (fun p st1 q => ?_) fun _ _ q => q)
  obtain ⟨xs, src⟩ := p
  intro F1 μ1 H1 e1 g1 J hJ D hD
  have hZ : Z D = none := g1.noz hD
  rw [Res.post_bind] at q
  refine ⟨fun i m H' => m = xs.length - i ∧ i ≤ xs.length ∧ ∃ F' μ' st' acc vs, Ext F1 F' μ1 μ' ∧ Good K (upd Z D (.lst vs)) F' μ' st' H' ∧ Reps K F' μ' acc vs ∧
    (lcL src xs g mt me (wipeA env own) (xs.drop i) acc st').post (fun acc' st'' => Kont K Z Rep F' μ' Q (newL mk acc' st'').1 (newL mk acc' st'').2) (fun _ _ => True), ⟨xs.length, ?_⟩, ?_⟩
  · refine ⟨rfl, Nat.zero_le _, F1, μ1, st1, [], [], Ext.refl, g1.apart hD rfl, .nil, ?_⟩
    exact Res.post_mono q (fun acc st2 q => Kont.ext e1 q) fun _ _ _ => trivial
  · rintro i m H' ⟨rfl, hil, F', μ', st', acc, vs, e2, g2, ra, hp2⟩
    have chk : srcOk src xs st' := by
      cases ed : xs.drop i with
      | nil =>
        rw [ed] at hp2
        by_cases h : srcOk src xs st'
        · exact h
        · rw [lcL, if_neg h] at hp2; exact hp2.elim
      | cons y ys =>
        rw [ed] at hp2
        by_cases h : srcOk src xs st'
        · exact h
        · rw [lcL, if_neg h] at hp2; exact hp2.elim
    obtain ⟨j1, j2⟩ := hJ _ i F' μ' st' H' e2 g2 chk
    have re2 : REnv K F' μ' (wipeA env own) (wipe σ own) := (re.mono (e1.trans e2)).wipe own
    by_cases hl : i < xs.length
    · refine .inr ?_
      have ed : xs.drop i = xs[i] :: xs.drop (i + 1) := List.drop_eq_getElem_cons hl
      rw [ed, lcL, if_pos chk] at hp2
      obtain ⟨hgo, hy⟩ := j1 xs[i] (List.getElem?_eq_getElem hl)
      cases eg : g xs[i] (wipeA env own) with
      | none => rw [eg] at hp2; exact hp2.elim
      | some env1 =>
        rw [eg] at hp2
        dsimp only at hp2
        let Nx : Hp → Prop := fun H'' => ∃ F' μ' st' acc vs, Ext F1 F' μ1 μ' ∧ Good K (upd Z D (.lst vs)) F' μ' st' H'' ∧ Reps K F' μ' acc vs ∧
          (lcL src xs g mt me (wipeA env own) (xs.drop (i + 1)) acc st').post (fun acc' st'' => Kont K Z Rep F' μ' Q (newL mk acc' st'').1 (newL mk acc' st'').2) (fun _ _ => True)
        refine ⟨hgo, Nx, fun H'' h => ⟨xs.length - (i + 1), by omega, rfl, hl, h⟩, ?_⟩
        intro x H2 yd
        obtain ⟨F2, e3, g3, rx⟩ := hy x H2 yd
        refine hg _ F2 μ' st' _ env1 _ H2 x xs[i] _ g3 (re2.mono e3) rx eg fun σ3 re3 df => ⟨?_, ?_⟩
        · rw [df.wipe hsub, wipe_wipe]
        · rw [Res.post_bind] at hp2
          refine ht _ F2 μ' st' env1 σ3 H2 _ g3 re3 (Res.post_mono (noX_post (E' := fun _ _ => False) hp2) (fun b st2 q => ?_) fun _ _ z => z.elim)
          intro F4 μ4 H4 b' e4 g4 rb
          cases (rb : b = b')
          cases b with
          | false =>
            rw [if_neg Bool.false_ne_true]
            refine ⟨F4, μ4, st2, acc, vs, e2.trans (e3.trans e4), g4, ra.mono (e3.trans e4), ?_⟩
            exact Res.post_mono (show (lcL src xs g mt me (wipeA env own) (xs.drop (i + 1)) acc st2).post _ _ from q) (fun a s q => Kont.ext (e3.trans e4) q) fun _ _ _ => trivial
          | true =>
            rw [if_pos rfl]
            have q : ((noX (me env1 st2)).bind fun y st3 => if acc.length < sizeLine then lcL src xs g mt me (wipeA env own) (xs.drop (i + 1)) (acc ++ [y]) st3 else .stuck).post (fun acc' st'' => Kont K Z Rep F' μ' Q (newL mk acc' st'').1 (newL mk acc' st'').2) (fun _ _ => True) := q
            rw [Res.post_bind] at q
            refine he _ F4 μ4 st2 env1 σ3 H4 _ g4 (re3.mono e4) (Res.post_mono (noX_post (E' := fun _ _ => False) q) (fun y st3 q => ?_) fun _ _ z => z.elim)
            intro F5 μ5 H5 v e5 g5 rv
            by_cases hacc : acc.length < sizeLine
            · rw [if_pos hacc] at q
              refine ⟨vs, g5.zub _ _ upd_same, by rw [← ra.length]; exact hacc, ?_⟩
              have e35 := e3.trans (e4.trans e5)
              refine ⟨F5, μ5, st3, acc ++ [y], vs ++ [v], e2.trans e35, g5.zset rfl rfl, (ra.mono e35).append (.cons rv .nil), ?_⟩
              exact Res.post_mono q (fun a s q => Kont.ext e35 q) fun _ _ _ => trivial
            · rw [if_neg hacc] at q; exact q.elim
    · have hil' : i = xs.length := by omega
      subst hil'
      refine .inl ⟨j2 (Nat.le_refl _), ?_⟩
      rw [List.drop_length, lcL, if_pos chk] at hp2
      have k : Kont K Z Rep F' μ' Q (newL mk acc st').1 (newL mk acc st').2 := hp2
      cases mk with
      | false =>
        obtain ⟨g3, e3⟩ := g2.zknown hZ
        exact (k.ext e3).now g3 (.lst upd_same (ra.mono e3))
      | true =>
        obtain ⟨g3, e3⟩ := g2.zpush (c := .lst acc) hZ ⟨vs, g2.zub _ _ upd_same, ra⟩
        exact (k.ext e3).now g3 (.cell (by rw [← g2.len, List.getElem?_append_right (Nat.le_refl _), Nat.sub_self]; rfl))
/-- a clause's tests -/
structure STs (Γ : G) (ifs : List Expr) (m : AEnv → Store → Res Bool) : Prop where
  run : ∀ W : WX, ∃ t : TT, Sim Γ.K RepB W t m ∧ ∀ X, CtxOk Γ X → Takes X W → PTs X ifs t
def tYesM : AEnv → Store → Res Bool := fun _ st => .ok true st
section
variable {Γ : G} {fo : Str → Bool} {elt tg iter : Expr} {ifs : List Expr} {scope : Scope} {pos spos py p : Pos} {mi : MI} {g : MG} {own : List (Str × Nat)} {gown : List Nat} {mt : AEnv → Store → Res Bool} {me : AEnv → Store → Res A}
theorem ts_nil : STs Γ [] tYesM := ⟨fun W => ⟨tYes, fun Z F μ st env σ H Q g re h => Kont.now (show Kont Γ.K Z RepB F μ Q true st from h) g rfl, fun X c t => pts_nil⟩⟩
theorem ts_one {c : Expr} (h : ST Γ c mt) : STs Γ [c] mt := ⟨fun W => let ⟨t, h1, h2⟩ := h.run W; ⟨t, h1, fun X c k => pts_one (h2 X c k)⟩⟩
theorem s_lc {mk : Bool} (hi : SI Γ tg iter mi) (ok : blkC Γ.N Γ.sc scope own = true) (hg : SG (Γ.blk scope) (blkFo scope) tg g gown) (hsub : ∀ i ∈ gown, i ∈ own.map (·.2)) (ht : STs (Γ.blk scope) ifs mt) (he : SE (Γ.blk scope) elt me)
    (hs : ∀ env x, foldedSetIterable iter env x = pure x := by intro _ _; rfl) (cm : Γ.calm = true := by rfl) : SE Γ (.ListComp elt [⟨tg, iter, ifs, 0⟩] scope pos) (eLc mk mi g (own.map (·.2)) mt me) :=
  ⟨fun W => by
    obtain ⟨wi, h1, h2⟩ := hi.run W
    obtain ⟨u, h3, h4⟩ := hg.run
    obtain ⟨tt, h5, h6⟩ := ht.run W0
    obtain ⟨te, h7, h8⟩ := he.run W0
    refine ⟨_, sim_lc (mk := mk) h1 h3 hsub h5 h7, fun X c k => ?_⟩
    exact pe_lc (c.calm cm) c.nd (h2 X c k) (by rw [c.N, c.sc]; exact blkOk_by ok) (fun s H C cl fp => h4 _ (c.blk scope s H C cl fp) fun x h => h) (fun s H C cl fp => h6 _ (c.blk scope s H C cl fp) takes0) (fun s H C cl fp => h8 _ (c.blk scope s H C cl fp) takes0) (hs _)⟩
theorem st_setLc {mk : Bool} {i : Nat} {y : Str} (hy : Γ.N[i]? = some y) (hyl : Γ.sc.names.lookup y = some .local) (hk : Γ.sc.kind = .function) (hl : (py.line == pos.line) = true) (hn : (scope.names.any fun (n, k) => n == y && (k == .local || k == .cell)) = false)
    (hi : SI Γ tg iter mi) (ok : blkC Γ.N Γ.sc scope own = true) (hg : SG (Γ.blk scope) (blkFo scope) tg g gown) (hsub : ∀ i ∈ gown, i ∈ own.map (·.2)) (ht : STs (Γ.blk scope) ifs mt) (he : SE (Γ.blk scope) elt me)
    (hs : ∀ env x, foldedSetIterable iter env x = pure x := by intro _ _; rfl) (cm : Γ.calm = true := by rfl) : SS Γ fo (.Assign [.Name y py] (.ListComp elt [⟨tg, iter, ifs, 0⟩] scope pos) spos) (sAsg (gN i) (eLc mk mi g (own.map (·.2)) mt me)) :=
  ⟨fun W => by
    obtain ⟨wi, h1, h2⟩ := hi.run W
    obtain ⟨u, h3, h4⟩ := hg.run
    obtain ⟨tt, h5, h6⟩ := ht.run W0
    obtain ⟨te, h7, h8⟩ := he.run W0
    refine ⟨_, sim_asg (sim_lc (mk := mk) h1 h3 hsub h5 h7) (sim_gN i), fun X c hfo k => ?_⟩
    exact ps_setLc (c.calm cm) c.nd (c.name hy) (by rw [c.sc]; exact hyl) (sw_true (by rw [c.sc]; exact hk) (by rw [c.sc]; exact hyl) hl hn) (h2 X c k) (by rw [c.N, c.sc]; exact blkOk_by ok) (fun s H C cl fp => h4 _ (c.blk scope s H C cl fp) fun x h => h) (fun s H C cl fp => h6 _ (c.blk scope s H C cl fp) takes0) (fun s H C cl fp => h8 _ (c.blk scope s H C cl fp) takes0) (hs _)⟩
/-- where the target is captured by some block: an ordinary store -/
theorem sw_cell {X : Cx} (c : CtxOk Γ X) {y : Str} {gs : List Comprehension} {l : Nat} (hy : Γ.sc.names.lookup y = some .cell) : swapsWith (.ListComp elt gs scope pos) (some (.Name y py)) l X.env = pure false := by
  have e : (X.env.kindOf y == some NameKind.local) = false := by unfold Env.kindOf; rw [c.sc, hy]; rfl
  show (pure (X.env.blockKind == .function && X.env.kindOf y == some .local && py.line == pos.line && !(scope.names.any fun (n, k) => n == y && (k == .local || k == .cell))) : Sem Bool) = pure false
  rw [e, Bool.and_false, Bool.false_and, Bool.false_and]
/-! list(range(..)), tuple(range(..)) -/
def rgPair : List A → Option (Int × Int)
  | [.int j] => some ((0 : Int), j)
  | [.int i, .int j] => some (i, j)
  | _ => none
def eRg (mk : Option Bool) (ms : AEnv → Store → Res (List A)) : AEnv → Store → Res A := fun env st => (ms env st).bind fun as st1 =>
  match rgPair as with
  | some (i, j) => if -(2 ^ 62) ≤ i ∧ i < 2 ^ 62 ∧ -(2 ^ 62) ≤ j ∧ j < 2 ^ 62 ∧ (j - i).toNat ≤ 2 ^ 24 then (match mk with
    | some mk => .ok (newL mk (rgA i j) st1).1 (newL mk (rgA i j) st1).2
    | none => .ok (.tup (rgA i j)) st1) else .stuck
  | none => .stuck
theorem rgA_reps {K : PySem.W.Frag} {F : Hp} {μ : List Addr} (i j : Int) : Reps K F μ (rgA i j) (rgV i j) := by
  unfold rgA rgV
  generalize List.range (j - i).toNat = l
  induction l with
  | nil => exact .nil
  | cons n l ih => exact .cons (.int _) ih
/-- the two ends of a range -/
structure SR (Γ : G) (e : Expr) (ms : AEnv → Store → Res (List A)) : Prop where
  run : ∀ W : WX, ∃ t : St → Hp → (Int → Int → Hp → Prop) → Prop, (∀ (Z F : Hp) (μ : List Addr) (st : Store) (env : AEnv) (σ : St) (H : Hp) (Q : Int → Int → Hp → Prop), Good Γ.K Z F μ st H → REnv Γ.K F μ env σ →
    (ms env st).post (fun as st1 => ∀ F' μ' H', Ext F F' μ μ' → Good Γ.K Z F' μ' st1 H' → ∃ i j, rgPair as = some (i, j) ∧ Q i j H') (KX Γ.K Z F μ σ W) → t σ H Q) ∧
    ∀ X, CtxOk Γ X → Takes X W → PRg X e t
theorem r_1 {a : Expr} {ma : AEnv → Store → Res A} (hg : Γ.sc.names.lookup ("range" : Str) = some .globalImplicit) (hm : Γ.mg "range" = none) (ha : SE Γ a ma) (hs : ∀ env, starEach [a] env = (false, eval a env) :: starEach [] env := by intro _; rfl) :
    SR Γ (.Call (.Name "range" p) [a] [] pos) (aCons ma aNil) :=
  ⟨fun W => by
    obtain ⟨t, h1, h2⟩ := ha.run W
    refine ⟨tRg1 t, fun Z F μ st env σ H Q g re hp => ?_, fun X c k => prg_1 (c.gl hg) (c.mgn hm) (h2 X c k) (hs _)⟩
    unfold aCons aNil at hp
    rw [Res.post_bind] at hp
    refine h1 Z F μ st env σ H _ g re (Res.post_mono hp (fun a st1 q => ?_) fun _ _ q => q)
    intro F1 μ1 H1 x e1 g1 ra
    obtain ⟨i, j, e, k⟩ := q F1 μ1 H1 e1 g1
    cases a with
    | int n => cases ra; cases e; exact ⟨_, rfl, k⟩
    | _ => cases e⟩
theorem r_2 {a b : Expr} {ma mb : AEnv → Store → Res A} (hg : Γ.sc.names.lookup ("range" : Str) = some .globalImplicit) (hm : Γ.mg "range" = none) (ha : SE Γ a ma) (hb : SE Γ b mb) (hs : ∀ env, starEach [a, b] env = (false, eval a env) :: starEach [b] env := by intro _; rfl)
    (hs2 : ∀ env, starEach [b] env = (false, eval b env) :: starEach [] env := by intro _; rfl) (hp : ∀ env, (backTo pos (starEach [b] env)).any (·.1) = false := by intro _; rfl) :
    SR Γ (.Call (.Name "range" p) [a, b] [] pos) (aCons ma (aCons mb aNil)) :=
  ⟨fun W => by
    obtain ⟨t, h1, h2⟩ := ha.run W
    obtain ⟨u, h3, h4⟩ := hb.run W
    refine ⟨tRg2 t u, fun Z F μ st env σ H Q g re hp => ?_, fun X c k => prg_2 (c.gl hg) (c.mgn hm) (h2 X c k) (h4 X c k) (hs _) (hs2 _) (hp _)⟩
    unfold aCons aNil at hp
    rw [Res.post_bind] at hp
    refine h1 Z F μ st env σ H _ g re (Res.post_mono hp (fun a st1 q => ?_) fun _ _ q => q)
    intro F1 μ1 H1 x e1 g1 ra
    simp only [Res.post_bind] at q
    refine h3 Z F1 μ1 st1 env σ H1 _ g1 (re.mono e1) (Res.post_mono q (fun b st2 q => ?_) fun _ _ q => q.ext e1)
    intro F2 μ2 H2 y e2 g2 rb
    obtain ⟨i, j, e, k⟩ := q F2 μ2 H2 (e1.trans e2) g2
    cases a with
    | int n =>
      cases b with
      | int m => cases ra; cases rb; cases e; exact ⟨_, _, rfl, rfl, k⟩
      | _ => cases e
    | _ => cases b <;> cases e⟩
variable {e : Expr} {ms : AEnv → Store → Res (List A)}
theorem sim_rg {W : WX} {mk : Option Bool} {t : St → Hp → (Int → Int → Hp → Prop) → Prop} (h : ∀ (Z F : Hp) (μ : List Addr) (st : Store) (env : AEnv) (σ : St) (H : Hp) (Q : Int → Int → Hp → Prop), Good Γ.K Z F μ st H → REnv Γ.K F μ env σ →
    (ms env st).post (fun as st1 => ∀ F' μ' H', Ext F F' μ μ' → Good Γ.K Z F' μ' st1 H' → ∃ i j, rgPair as = some (i, j) ∧ Q i j H') (KX Γ.K Z F μ σ W) → t σ H Q) :
    Sim Γ.K Rep W (match mk with | some _ => tLstRg t | none => tTupRg t) (eRg mk ms) := by
  intro Z F μ st env σ H Q g re hp
  unfold eRg at hp
  rw [Res.post_bind] at hp
  have key : (ms env st).post (fun as st1 => ∀ F' μ' H', Ext F F' μ μ' → Good Γ.K Z F' μ' st1 H' → ∃ i j, rgPair as = some (i, j) ∧
      (RgOk i j ∧ ∀ q, H' q = none → Q (.ref q) (upd H' q (match mk with | some _ => .lst (rgV i j) | none => .tup (rgV i j))))) (KX Γ.K Z F μ σ W) := by
    refine Res.post_mono hp (fun as st1 q => ?_) fun _ _ q => q
    intro F1 μ1 H1 e1 g1
    split at q
    · rename_i i j hr
      split at q
      · rename_i hb
        refine ⟨i, j, hr, hb, fun p hp' => ?_⟩
        cases mk with
        | some mk =>
          have q : Kont Γ.K Z Rep F μ Q (newL mk (rgA i j) st1).1 (newL mk (rgA i j) st1).2 := q
          exact newL_ok (mk := mk) g1 hp' (rgA_reps i j) (q.ext e1)
        | none =>
          have q : Kont Γ.K Z Rep F μ Q (.tup (rgA i j)) st1 := q
          exact newT_ok g1 hp' (rgA_reps i j) (q.ext e1)
      · exact q.elim
    · exact q.elim
  cases mk with
  | some mk => exact h Z F μ st env σ H _ g re key
  | none => exact h Z F μ st env σ H _ g re key
theorem s_listRg {mk : Bool} (hg : Γ.sc.names.lookup ("list" : Str) = some .globalImplicit) (hm : Γ.mg "list" = none) (h : SR Γ e ms) (na : ∀ env, starEach [e] env = (false, eval e env) :: starEach [] env := by intro _; rfl) (cm : Γ.calm = true := by rfl) : SE Γ (.Call (.Name "list" p) [e] [] pos) (eRg (some mk) ms) :=
  ⟨fun W => let ⟨t, h1, h2⟩ := h.run W; ⟨tLstRg t, sim_rg (mk := some mk) h1, fun X c k => pe_listRg (c.calm cm) (c.gl hg) (c.mgn hm) (h2 X c k) (na _)⟩⟩
theorem s_tupRg (hg : Γ.sc.names.lookup ("tuple" : Str) = some .globalImplicit) (hm : Γ.mg "tuple" = none) (h : SR Γ e ms) (na : ∀ env, starEach [e] env = (false, eval e env) :: starEach [] env := by intro _; rfl) (cm : Γ.calm = true := by rfl) : SE Γ (.Call (.Name "tuple" p) [e] [] pos) (eRg none ms) :=
  ⟨fun W => let ⟨t, h1, h2⟩ := h.run W; ⟨tTupRg t, sim_rg (mk := none) h1, fun X c k => pe_tupRg (c.calm cm) (c.gl hg) (c.mgn hm) (h2 X c k) (na _)⟩⟩
end
end SL

set_option Elab.async false
set_option linter.all false
set_option maxRecDepth 100000
set_option maxHeartbeats 4000000
/-! SLi: what a def is worth: its cells go, or become data; the law's end. -/
namespace SL
open PySem PySem.Spec L2
open PyProof.Rows hiding St
mutual
def A.bel (n : Nat) : A → Bool
  | .cell c => decide (c < n)
  | .lst xs => belowL n xs
  | .slst xs => belowL n xs
  | .tup xs => belowL n xs
  | .obj _ _ vs => belowL n vs
  | .dct _ vs => belowL n vs
  | .xcp _ _ _ _ vs => belowL n vs
  | .non => true
  | .bl _ => true
  | .int _ => true
  | .str _ => true
  | .ty _ => true
  | .glo _ => true
def belowL (n : Nat) : List A → Bool
  | [] => true
  | x :: xs => x.bel n && belowL n xs
end
def C.bel (n : Nat) : C → Bool
  | .lst xs => belowL n xs
  | .dct _ vs => belowL n vs
  | .obj _ _ vs => belowL n vs
  | .dead => true
section
variable {K : PySem.W.Frag} {Z F : Hp} {μ : List Addr}
theorem take_get {α : Type} {l : List α} {n i : Nat} (h : i < n) : (l.take n)[i]? = l[i]? := by rw [List.getElem?_take]; simp [h]
mutual
theorem Rep.cut {n : Nat} : ∀ {a : A} {v : V}, Rep K F μ a v → a.bel n = true → Rep K F (μ.take n) a v
  | _, _, .non, _ => .non
  | _, _, .bl b, _ => .bl b
  | _, _, .int i, _ => .int i
  | _, _, .str s, _ => .str s
  | _, _, .ty n, _ => .ty n
  | _, _, .glo x, _ => .glo x
  | _, _, .lst s r, h => .lst s (Reps.cut r (by simpa [A.bel] using h))
  | _, _, .slst s r, h => .slst s (Reps.cut r (by simpa [A.bel] using h))
  | _, _, .tup s r, h => .tup s (Reps.cut r (by simpa [A.bel] using h))
  | _, _, .cell e, h => .cell (by rw [take_get (by simpa [A.bel] using h)]; exact e)
  | _, _, .obj h1 h2 h3 r, h => .obj h1 h2 h3 (Reps.cut r (by simpa [A.bel] using h))
  | _, _, .dct h1 h3 r, h => .dct h1 h3 (Reps.cut r (by simpa [A.bel] using h))
  | _, _, .xcp0, _ => .xcp0
  | _, _, .xcpD h1 h3 r, h => .xcpD h1 h3 (Reps.cut r (by simpa [A.bel] using h))
theorem Reps.cut {n : Nat} : ∀ {as : List A} {vs : List V}, Reps K F μ as vs → belowL n as = true → Reps K F (μ.take n) as vs
  | _, _, .nil, _ => .nil
  | _, _, .cons r t, h => by
    rw [belowL, Bool.and_eq_true] at h
    exact .cons (Rep.cut r h.1) (Reps.cut t h.2)
end
mutual
theorem Rep.bel : ∀ {a : A} {v : V}, Rep K F μ a v → a.bel μ.length = true
  | _, _, .non => by simp [A.bel]
  | _, _, .bl b => by simp [A.bel]
  | _, _, .int i => by simp [A.bel]
  | _, _, .str s => by simp [A.bel]
  | _, _, .ty n => by simp [A.bel]
  | _, _, .glo x => by simp [A.bel]
  | _, _, .lst s r => by simp only [A.bel]; exact Reps.bel r
  | _, _, .slst s r => by simp only [A.bel]; exact Reps.bel r
  | _, _, .tup s r => by simp only [A.bel]; exact Reps.bel r
  | _, _, .cell e => by simp only [A.bel, decide_eq_true_eq]; exact (List.getElem?_eq_some_iff.mp e).1
  | _, _, .obj h1 h2 h3 r => by simp only [A.bel]; exact Reps.bel r
  | _, _, .dct h1 h3 r => by simp only [A.bel]; exact Reps.bel r
  | _, _, .xcp0 => by simp [A.bel, belowL]
  | _, _, .xcpD h1 h3 r => by simp only [A.bel]; exact Reps.bel r
theorem Reps.bel : ∀ {as : List A} {vs : List V}, Reps K F μ as vs → belowL μ.length as = true
  | _, _, .nil => by simp [belowL]
  | _, _, .cons r t => by rw [belowL, Rep.bel r, Reps.bel t]; rfl
end
theorem CRep.cut {n : Nat} {H : Hp} {c : C} {a : Addr} (h : CRep K F μ H c a) (b : c.bel n = true) : CRep K F (μ.take n) H c a := by
  cases c with
  | lst xs => obtain ⟨vs, h, r⟩ := h; exact ⟨vs, h, r.cut b⟩
  | dct ks xs => obtain ⟨kvs, h, q, r⟩ := h; exact ⟨kvs, h, q, r.cut b⟩
  | obj c ns xs => obtain ⟨dx, fs, h, h2, q, r⟩ := h; exact ⟨dx, fs, h, h2, q, r.cut b⟩
  | dead => trivial
theorem CRep.bel {H : Hp} {c : C} {a : Addr} (h : CRep K F μ H c a) : c.bel μ.length = true := by
  cases c with
  | lst xs => obtain ⟨vs, h, r⟩ := h; exact r.bel
  | dct ks xs => obtain ⟨kvs, h, q, r⟩ := h; exact r.bel
  | obj c ns xs => obtain ⟨dx, fs, h, h2, q, r⟩ := h; exact r.bel
  | dead => rfl
/-- the cells of the caller stand as they stood, or hold nothing of the callee's -/
def okS (n : Nat) (st0 st : Store) : Prop := ∀ i, i < n → st[i]? = st0[i]? ∨ ∃ c, st[i]? = some c ∧ c.bel n = true
theorem Good.trunc {st : Store} {H : Hp} {n : Nat} (g : Good K Z F μ st H) (h : ∀ i c, i < n → st[i]? = some c → c ≠ .dead → c.bel n = true) : Good K Z F (μ.take n) (st.take n) H := by
  refine { zub := g.zub, zf := g.zf, zc := g.zc, sub := g.sub, len := by rw [List.length_take, List.length_take, g.len], cell := fun i c hi hc => ?_, inj := fun i j a c d h1 n1 h2 n2 m1 m2 => ?_ }
  · have hin : i < n := by have := (List.getElem?_eq_some_iff.mp hi).1; rw [List.length_take] at this; omega
    rw [take_get hin] at hi
    obtain ⟨a, h1, h2, h3⟩ := g.cell i c hi hc
    exact ⟨a, by rw [take_get hin]; exact h1, h2, h3.cut (h i c hin hi hc)⟩
  · have hin : i < n := by have := (List.getElem?_eq_some_iff.mp h1).1; rw [List.length_take] at this; omega
    have hjn : j < n := by have := (List.getElem?_eq_some_iff.mp h2).1; rw [List.length_take] at this; omega
    rw [take_get hin] at h1 m1
    rw [take_get hjn] at h2 m2
    exact g.inj i j a c d h1 n1 h2 n2 m1 m2
end

/-! ### cells become data -/
def frzL (f : A → Store → Option (A × Store)) : List A → Store → Option (List A × Store)
  | [], st => some ([], st)
  | x :: xs, st => match f x st with
    | some (y, st1) => (match frzL f xs st1 with
      | some (ys, st2) => some (y :: ys, st2)
      | none => none)
    | none => none
def frzA (n : Nat) : Nat → A → Store → Option (A × Store)
  | 0, a, st => if a.bel n = true then some (a, st) else none
  | k + 1, a, st => if a.bel n = true then some (a, st) else match a with
    | .cell c => (match st[c]? with
      | some (.lst xs) => (frzL (frzA n k) xs (st.set c .dead)).map fun p => (.lst p.1, p.2)
      | some (.dct ks xs) => (frzL (frzA n k) xs (st.set c .dead)).map fun p => (.dct ks p.1, p.2)
      | some (.obj cn ns xs) => (frzL (frzA n k) xs (st.set c .dead)).map fun p => (.obj cn ns p.1, p.2)
      | _ => none)
    | .lst xs => (frzL (frzA n k) xs st).map fun p => (.lst p.1, p.2)
    | .tup xs => (frzL (frzA n k) xs st).map fun p => (.tup p.1, p.2)
    | .obj cn ns xs => (frzL (frzA n k) xs st).map fun p => (.obj cn ns p.1, p.2)
    | _ => none
section
variable {K : PySem.W.Frag} {Z : Hp} {μ : List Addr}
theorem frzL_ok {f : A → Store → Option (A × Store)} {H : Hp} (h : ∀ (F : Hp) (st st' : Store) (a b : A) (v : V), Good K Z F μ st H → Rep K F μ a v → f a st = some (b, st') → ∃ F', Ext F F' μ μ ∧ Good K Z F' μ st' H ∧ Rep K F' μ b v) :
    ∀ (xs : List A) (F : Hp) (st st' : Store) (ys : List A) (vs : List V), Good K Z F μ st H → Reps K F μ xs vs → frzL f xs st = some (ys, st') → ∃ F', Ext F F' μ μ ∧ Good K Z F' μ st' H ∧ Reps K F' μ ys vs
  | [], F, st, st', ys, vs, g, r, e => by cases e; cases r; exact ⟨F, Ext.refl, g, .nil⟩
  | x :: xs, F, st, st', ys, _, g, .cons r t, e => by
    unfold frzL at e
    cases e1 : f x st with
    | none => rw [e1] at e; cases e
    | some p =>
      obtain ⟨y, st1⟩ := p
      rw [e1] at e
      dsimp only at e
      cases e2 : frzL f xs st1 with
      | none => rw [e2] at e; cases e
      | some q =>
        obtain ⟨zs, st2⟩ := q
        rw [e2] at e; cases e
        obtain ⟨F1, x1, g1, r1⟩ := h F st st1 x y _ g r e1
        obtain ⟨F2, x2, g2, r2⟩ := frzL_ok h xs F1 st1 _ zs _ g1 (t.mono x1) e2
        exact ⟨F2, x1.trans x2, g2, .cons (r1.mono x2) r2⟩
theorem frzA_ok {H : Hp} {n : Nat} : ∀ (k : Nat) (F : Hp) (st st' : Store) (a b : A) (v : V), Good K Z F μ st H → Rep K F μ a v → frzA n k a st = some (b, st') → ∃ F', Ext F F' μ μ ∧ Good K Z F' μ st' H ∧ Rep K F' μ b v := by
  intro k
  induction k with
  | zero =>
    intro F st st' a b v g r e
    unfold frzA at e
    split at e
    · cases e; exact ⟨F, Ext.refl, g, r⟩
    · cases e
  | succ k ih =>
    intro F st st' a b v g r e
    unfold frzA at e
    split at e
    · cases e; exact ⟨F, Ext.refl, g, r⟩
    · cases a with
      | cell c =>
        dsimp only at e
        cases r with
        | cell hc =>
          rename_i ad
          cases ec : st[c]? with
          | none => rw [ec] at e; cases e
          | some cc =>
            rw [ec] at e
            cases cc with
            | lst xs =>
              dsimp only at e
              obtain ⟨a2, m2, _, vs, h4, h5⟩ := g.cell c _ ec (by intro z; cases z)
              rw [hc] at m2; cases m2
              obtain ⟨g1, x1⟩ := g.know (o := .lst vs) ec (by intro z; cases z) hc h4
              cases el : frzL (frzA n k) xs (st.set c .dead) with
              | none => rw [el] at e; cases e
              | some p =>
                rw [el] at e; cases e
                obtain ⟨F2, x2, g2, r2⟩ := frzL_ok ih xs _ _ p.2 p.1 vs g1 (h5.mono x1) el
                exact ⟨F2, x1.trans x2, g2, .lst (x2.f _ _ upd_same) r2⟩
            | dct ks xs =>
              dsimp only at e
              obtain ⟨a2, m2, _, kvs, h4, h6, h5⟩ := g.cell c _ ec (by intro z; cases z)
              rw [hc] at m2; cases m2
              obtain ⟨g1, x1⟩ := g.know (o := .dK kvs) ec (by intro z; cases z) hc h4
              cases el : frzL (frzA n k) xs (st.set c .dead) with
              | none => rw [el] at e; cases e
              | some p =>
                rw [el] at e; cases e
                obtain ⟨F2, x2, g2, r2⟩ := frzL_ok ih xs _ _ p.2 p.1 _ g1 (h5.mono x1) el
                exact ⟨F2, x1.trans x2, g2, .dct (x2.f _ _ upd_same) h6 r2⟩
            | obj cn ns xs =>
              dsimp only at e
              obtain ⟨a2, m2, ⟨hF, hZ⟩, dx, fs, h4, h7, h6, h5⟩ := g.cell c _ ec (by intro z; cases z)
              rw [hc] at m2; cases m2
              obtain ⟨g1, x1⟩ := g.know (o := .ins (He.ga K cn) dx fs) ec (by intro z; cases z) hc h4
              have hzd : Z dx = none := by
                cases ez : Z dx with
                | none => rfl
                | some u =>
                  have c1 := g.zc _ _ ez
                  have c2 := g.zub _ _ ez
                  rw [h7] at c2; cases c2; cases c1
              have hfd : upd F ad (.ins (He.ga K cn) dx fs) dx = none ∨ upd F ad (.ins (He.ga K cn) dx fs) dx = some (.own ad) := by
                cases ef : upd F ad (.ins (He.ga K cn) dx fs) dx with
                | none => exact .inl rfl
                | some u => have := g1.sub _ _ ef; rw [h7] at this; exact .inr this.symm
              obtain ⟨g2, x2⟩ := g1.knowO (q := dx) (u := .own ad) h7 rfl hzd hfd
              cases el : frzL (frzA n k) xs (st.set c .dead) with
              | none => rw [el] at e; cases e
              | some p =>
                rw [el] at e; cases e
                obtain ⟨F2, x3, g3, r2⟩ := frzL_ok ih xs _ _ p.2 p.1 _ g2 (h5.mono (x1.trans x2)) el
                exact ⟨F2, x1.trans (x2.trans x3), g3, .obj ((x2.trans x3).f _ _ upd_same) (x3.f _ _ upd_same) h6 r2⟩
            | dead => cases e
      | lst xs =>
        dsimp only at e
        cases r with
        | lst h1 h2 =>
          cases el : frzL (frzA n k) xs st with
          | none => rw [el] at e; cases e
          | some p =>
            rw [el] at e; cases e
            obtain ⟨F2, x2, g2, r2⟩ := frzL_ok ih xs _ _ p.2 p.1 _ g h2 el
            exact ⟨F2, x2, g2, .lst (x2.f _ _ h1) r2⟩
      | tup xs =>
        dsimp only at e
        cases r with
        | tup h1 h2 =>
          cases el : frzL (frzA n k) xs st with
          | none => rw [el] at e; cases e
          | some p =>
            rw [el] at e; cases e
            obtain ⟨F2, x2, g2, r2⟩ := frzL_ok ih xs _ _ p.2 p.1 _ g h2 el
            exact ⟨F2, x2, g2, .tup (SqT.mono x2.f h1) r2⟩
      | obj cn ns xs =>
        dsimp only at e
        cases r with
        | obj h1 h3 h4 h2 =>
          cases el : frzL (frzA n k) xs st with
          | none => rw [el] at e; cases e
          | some p =>
            rw [el] at e; cases e
            obtain ⟨F2, x2, g2, r2⟩ := frzL_ok ih xs _ _ p.2 p.1 _ g h2 el
            exact ⟨F2, x2, g2, .obj (x2.f _ _ h1) (x2.f _ _ h3) h4 r2⟩
      | _ => cases e
end
end SL

set_option Elab.async false
set_option linter.all false
set_option maxRecDepth 100000
set_option maxHeartbeats 4000000
/-! SLj: a def by its body; the law. -/
namespace SL
open PySem PySem.Spec L2
open PyProof.Rows hiding St
def C.live : C → Bool
  | .dead => false
  | _ => true
theorem C.live_ne {c : C} (h : c.live = true) : c ≠ .dead := by intro e; subst e; cases h
noncomputable instance (n : Nat) (st0 st : Store) : Decidable (okS n st0 st) := Classical.propDecidable _
/-- a def hands back a value: what is the def's own becomes data (rc: or one new cell stays) -/
noncomputable def finA (rc : Bool) (n : Nat) (st0 : Store) (a : A) (st : Store) : Res A :=
  match rc, a with
  | true, .cell c => if n ≤ c then (match st[c]? with
    | some cc => if cc.live = true ∧ cc.bel n = true ∧ okS n st0 st then .ok (.cell n) (st.take n ++ [cc]) else .stuck
    | none => .stuck) else .stuck
  | _, a => match frzA n 8 a st with
    | some (b, st1) => if b.bel n = true ∧ okS n st0 st1 then .ok b (st1.take n) else .stuck
    | none => .stuck
noncomputable def fin (rc : Bool) (n : Nat) (st0 : Store) (r : SRes) : Res A := match r with
  | .nx _ st => finA false n st0 .non st
  | .rt a st => finA rc n st0 a st
  | .exc e _ st => if belowL n e.vs = true ∧ okS n st0 st then .exc e (st.take n) else .stuck
  | _ => .stuck
noncomputable def fnM (rc : Bool) (np ns : Nat) (body : MS) : List A → Store → Res A := fun as st =>
  if as.length = np then fin rc st.length st (body (as.map some ++ List.replicate (ns - np) none) st) else .stuck
section
variable {K : PySem.W.Frag} {Z F F' : Hp} {μ μ' : List Addr} {st0 st : Store} {H H' : Hp}
theorem okS_bel (g0 : Good K Z F μ st0 H) (ok : okS st0.length st0 st) : ∀ i c, i < st0.length → st[i]? = some c → c ≠ .dead → c.bel st0.length = true := by
  intro i c hi hc hd
  rcases ok i hi with h | ⟨c', h, hb⟩
  · rw [h] at hc
    obtain ⟨a, _, _, h3⟩ := g0.cell i c hc hd
    rw [← g0.len]
    exact h3.bel
  · rw [h] at hc; cases hc; exact hb
theorem pre_take (e : Ext F F' μ μ') : μ'.take μ.length = μ := by
  apply List.ext_getElem?
  intro i
  by_cases h : i < μ.length
  · rw [take_get h]
    exact (e.m i _ (List.getElem?_eq_getElem h)).trans (List.getElem?_eq_getElem h).symm
  · rw [List.getElem?_eq_none (by rw [List.length_take]; omega), List.getElem?_eq_none (by omega)]
theorem good_le (e : Ext F F' μ μ') (g0 : Good K Z F μ st0 H) (g : Good K Z F' μ' st H') : st0.length ≤ st.length := by
  rw [← g0.len, ← g.len]
  by_cases h : μ.length ≤ μ'.length
  · exact h
  · have hl : μ'.length < μ.length := by omega
    have := e.m μ'.length _ (List.getElem?_eq_getElem hl)
    rw [List.getElem?_eq_none (Nat.le_refl _)] at this
    cases this
theorem finA_ok {rc : Bool} {a : A} {v : V} {Q : VK} {E : Exc → Store → Prop} (g0 : Good K Z F μ st0 H) (e : Ext F F' μ μ') (g : Good K Z F' μ' st H') (r : Rep K F' μ' a v) (h : (finA rc st0.length st0 a st).post (Kont K Z Rep F μ Q) E) : Q v H' := by
  have gen : (match frzA st0.length 8 a st with | some (b, st1) => if b.bel st0.length = true ∧ okS st0.length st0 st1 then Res.ok b (st1.take st0.length) else .stuck | none => .stuck : Res A).post (Kont K Z Rep F μ Q) E → Q v H' := by
    intro h
    cases ef : frzA st0.length 8 a st with
    | none => rw [ef] at h; exact h.elim
    | some p =>
      obtain ⟨b, st1⟩ := p
      rw [ef] at h
      dsimp only at h
      split at h
      · rename_i hb
        obtain ⟨F2, x2, g2, r2⟩ := frzA_ok 8 F' st st1 a b v g r ef
        have k : Kont K Z Rep F μ Q b (st1.take st0.length) := h
        have hm := pre_take e
        have g3 := g2.trunc (okS_bel g0 hb.2)
        rw [← g0.len, hm] at g3
        have r3 := r2.cut hb.1
        rw [← g0.len, hm] at r3
        rw [← g0.len] at k
        exact k F2 μ H' v ⟨fun a o q => x2.f _ _ (e.f _ _ q), fun _ _ q => q⟩ g3 r3
      · exact h.elim
  unfold finA at h
  split at h
  · rename_i c
    split at h
    · rename_i hn
      split at h
      · rename_i cc hcc
        split at h
        · rename_i hb
          have hb1 := C.live_ne hb.1
          have k : Kont K Z Rep F μ Q (.cell st0.length) (st.take st0.length ++ [cc]) := h
          obtain ⟨a2, m2, ⟨hF2, hZ2⟩, hr2⟩ := g.cell c cc hcc hb1
          cases r with
          | cell hc =>
            rw [hc] at m2; cases m2
            have hm := pre_take e
            have g3 := g.trunc (okS_bel g0 hb.2.2)
            rw [← g0.len, hm] at g3
            have hr3 := hr2.cut hb.2.1
            rw [← g0.len, hm] at hr3
            obtain ⟨o, ho, hco⟩ := hr2.o hb1
            -- the cell laid anew behind the caller's
            have hlen : (st.take st0.length).length = st0.length := by rw [List.length_take]; have := good_le e g0 g; omega
            have g4 : Good K Z F' (μ ++ [a2]) (st.take st0.length ++ [cc]) H' := by
              rw [← g0.len] at hlen ⊢
              refine { zub := g3.zub, zf := g3.zf, zc := g3.zc, sub := g3.sub, len := by rw [List.length_append, List.length_append, hlen]; rfl, cell := fun i d hi hd => ?_, inj := fun i j a d d' hi hd hj hd' ei ej => ?_ }
              · by_cases hl : i < (st.take μ.length).length
                · rw [List.getElem?_append_left hl] at hi
                  obtain ⟨b, h1, h2, h3⟩ := g3.cell i d hi hd
                  exact ⟨b, ext_push.m (F := F') (F' := F') i b h1, h2, h3.mono ext_push fun _ _ q => q⟩
                · have hi' := (List.getElem?_eq_some_iff.mp hi).1
                  rw [List.length_append] at hi'
                  have ei : i = (st.take μ.length).length := by simp at hi' hl ⊢; omega
                  subst ei
                  rw [List.getElem?_append_right (Nat.le_refl _), Nat.sub_self] at hi
                  simp at hi; subst hi
                  refine ⟨_, ?_, ⟨hF2, hZ2⟩, hr3.mono ext_push fun _ _ q => q⟩
                  rw [hlen, List.getElem?_append_right (Nat.le_refl _), Nat.sub_self]; rfl
              · have key : ∀ (i : Nat) (d : C), (st.take μ.length ++ [cc])[i]? = some d → d ≠ .dead → ∀ b, (μ ++ [a2])[i]? = some b → (i < μ.length ∧ st[i]? = some d ∧ μ'[i]? = some b) ∨ (i = μ.length ∧ μ'[c]? = some b) := by
                  intro i d hi hd b hb'
                  by_cases hl : i < μ.length
                  · rw [List.getElem?_append_left (by rw [hlen]; exact hl), take_get hl] at hi
                    rw [List.getElem?_append_left hl] at hb'
                    exact .inl ⟨hl, hi, e.m _ _ hb'⟩
                  · have hi' := (List.getElem?_eq_some_iff.mp hi).1
                    rw [List.length_append, hlen] at hi'
                    have ei : i = μ.length := by simp at hi'; omega
                    subst ei
                    rw [List.getElem?_append_right (Nat.le_refl _), Nat.sub_self] at hb'
                    simp at hb'; subst hb'
                    exact .inr ⟨rfl, hc⟩
                have hn' : μ.length ≤ c := by rw [g0.len]; exact hn
                rcases key i d hi hd _ ei with ⟨l1, a1, b1⟩ | ⟨l1, b1⟩ <;> rcases key j d' hj hd' _ ej with ⟨l2, a2, b2⟩ | ⟨l2, b2⟩
                · exact g.inj i j a d d' a1 hd a2 hd' b1 b2
                · have := g.inj i c a d cc a1 hd hcc hb1 b1 b2; omega
                · have := g.inj j c a d' cc a2 hd' hcc hb1 b2 b1; omega
                · omega
            exact k F' (μ ++ [a2]) H' _ ⟨e.f, fun i b q => ext_push.m (F := F') (F' := F') i b q⟩ g4 (.cell (by rw [← g0.len, List.getElem?_append_right (Nat.le_refl _), Nat.sub_self]; rfl))
        · exact h.elim
      · exact h.elim
    · exact h.elim
  · exact gen h
end
section
variable {P : Program} {w : World} {K : PySem.W.Frag} {mg : Str → Option Value} {base : Heap}
theorem start_env {F : Hp} {μ : List Addr} {as : List A} {vs : List V} (r : Reps K F μ as vs) (N : List Str) : REnv K F μ (as.map some ++ List.replicate (N.length - as.length) none) (L2.start N vs) := by
  unfold L2.start
  rw [r.length]
  refine ⟨by simp [r.length], fun i a h => ?_⟩
  by_cases hl : i < as.length
  · rw [List.getElem?_append_left (by rw [List.length_map]; exact hl), List.getElem?_map] at h
    cases e : as[i]? with
    | none => rw [e] at h; cases h
    | some b =>
      rw [e] at h; cases h
      obtain ⟨v, h1, h2⟩ := r.get e
      exact ⟨v, by rw [List.getElem?_append_left (by rw [List.length_map, ← r.length]; exact hl), List.getElem?_map, h1]; rfl, h2⟩
  · rw [List.getElem?_append_right (by rw [List.length_map]; omega)] at h
    rw [List.getElem?_replicate] at h
    split at h <;> cases h
/-- the reading of a body, from the def's plain function -/
theorem body_ok {rc : Bool} {N : List Str} {np : Nat} {m : MS} {t : TS} {W : WX} {E : XK} (hW : ∀ cls d σ H, E cls d H → W cls d σ H) (h : SimS K W t m) {vs : List V} {H : Hp} {Q : VK}
    (hs : spM K np (fnM rc np N.length m) vs H Q E) : t { nx := fun _ H' => Q .non H', rt := Q } (L2.start N vs) H := by
  obtain ⟨hl, Z, F, μ, st, as, g, r, hp⟩ := hs
  have hal : as.length = np := by rw [r.length]; exact hl
  unfold fnM at hp
  rw [if_pos hal] at hp
  rw [← hal] at hp
  refine h Z F μ st _ (L2.start N vs) H _ g (start_env r N) ?_
  generalize m (as.map some ++ List.replicate (N.length - as.length) none) st = rr at hp ⊢
  cases rr with
  | nx env st' =>
    intro F' μ' H' σ' e g' re
    exact finA_ok (rc := false) (a := .non) (v := .non) g e g' .non hp
  | rt a st' =>
    intro F' μ' H' v e g' ra
    exact finA_ok g e g' ra hp
  | bk env st' => exact hp.elim
  | ct env st' => exact hp.elim
  | stuck => exact hp.elim
  | exc x env st' =>
    intro F' μ' H' σ' d e g' re xr
    have hp : (if belowL st.length x.vs = true ∧ okS st.length st st' then Res.exc x (st'.take st.length) else .stuck : Res A).post (Kont K Z Rep F μ Q) (fun e st' => ∀ F' μ' H' d, Ext F F' μ μ' → Good K Z F' μ' st' H' → XRep K F' μ' e d → E (.ref (He.ga K e.c)) d H') := hp
    split at hp
    · rename_i hb
      apply hW
      have hm := pre_take e
      have g3 := g'.trunc (okS_bel g hb.2)
      rw [← g.len, hm] at g3
      refine (show ∀ F' μ' H' d, Ext F F' μ μ' → Good K Z F' μ' (st'.take st.length) H' → XRep K F' μ' x d → E (.ref (He.ga K x.c)) d H' from hp) F' μ H' d ⟨e.f, fun _ _ q => q⟩ (by rw [← g.len]; exact g3) ?_
      rcases xr with xr | ⟨dd, fs, h1, h2, h3, h4⟩
      · exact .inl xr
      · refine .inr ⟨dd, fs, h1, h2, h3, ?_⟩
        have := h4.cut hb.1
        rw [← g.len, hm] at this
        exact this
    · exact hp.elim
/-- THE RULE for a def -/
theorem fnS_of {rc : Bool} {x qual : Str} {params : Arguments} {body : List Stmt} {scope : Scope} {f : Addr} {fd : FuncData} {N ps : List Str} {k : Nat} {m : MS} (F : FunD K x qual params body scope [] [] f fd) (S : FnScope N ps scope)
    (hB : Binds K fd ps []) (h : SB ⟨P, w, K, mg, base, N, scope, k, true, true, none⟩ (fun _ => true) body m) : FnS P w K mg base (k + 1) f ps (fnM rc ps.length N.length m) where
  ex := by
    refine ⟨fd, F.ok S (fun vs H Q E hs => hs.1) (fun cdv A outer s H vs Q E hr hs => ?_), hB⟩
    obtain ⟨t, h1, h2⟩ := h.run (fun cls d _ H => E cls d H)
    refine ⟨t, h2 _ ?_ (fun _ _ => rfl) (takes_of rfl rfl rfl rfl), body_ok (fun _ _ _ _ z => z) h1 hs⟩
    exact { prog := rfl, w := rfl, K := rfl, mg := rfl, base := rfl, N := rfl, sc := rfl, calm := fun _ => rfl, room := fun _ => hr, units := hr.units, stk := fun _ => ⟨rfl, rfl⟩, hx := (fun _ _ _ z => nomatch z), nd := S.nd, own := passes_of rfl }
  kp := F.kp
  ar := fun as st hne => by unfold fnM; rw [if_neg hne]
/-- a def that isn't called so deep -/
theorem fnS_zero {fd : FuncData} {f : Addr} {ps : List Str} (hB : Binds K fd ps []) (kp : PySem.W.keepIn K (.ref f) = true) (k : Nat) : FnS P w K mg base k f ps (fun _ _ => .stuck) where
  ex := ⟨fd, ⟨fun vs H Q E hs => hs.1, fun A outer s H args us vs Q E _ _ _ _ hs => by obtain ⟨_, _, _, _, _, _, _, _, z⟩ := hs; exact z.elim⟩, hB⟩
  kp := kp
  ar := fun _ _ _ => rfl
/-- the law -/
theorem law_of {x qual : Str} {params : Arguments} {body : List Stmt} {scope : Scope} {f : Addr} {fd : FuncData} {N ps : List Str} {k : Nat} {m : MS} (F : FunD K x qual params body scope [] [] f fd) (S : FnScope N ps scope)
    (h : SB ⟨P, w, K, mg, base, N, scope, k, true, true, none⟩ (fun _ => true) body m) : FnOk P w K mg base CX0 (k + 1) f fd ps (fun vs H Q _ => spM K ps.length (fnM false ps.length N.length m) vs H Q E0) := by
  refine F.ok S (fun vs H Q E hs => hs.1) (fun cdv A outer s H vs Q E hr hs => ?_)
  obtain ⟨t, h1, h2⟩ := h.run W0
  refine ⟨t, PSs.nox (h2 _ ?_ (fun _ _ => rfl) takes0), body_ok (fun _ _ _ _ z => z) h1 hs⟩
  exact { prog := rfl, w := rfl, K := rfl, mg := rfl, base := rfl, N := rfl, sc := rfl, calm := fun _ => rfl, room := fun _ => hr, units := hr.units, stk := fun _ => ⟨rfl, rfl⟩, hx := (fun _ _ _ z => nomatch z), nd := S.nd, own := PassesOwn.never }
/-- the law at a script, from its plain function -/
theorem law_sp {M : List A → Store → Res A} {H : Hp} {a : Addr} {ns : List Int} (hS : SqL K H a (ns.map V.int)) (h : ∃ st, M [.slst (ns.map A.int)] [] = .ok (.bl true) st) : spM K 1 M [.ref a] H (fun v _ => v = .bl true) E0 := by
  obtain ⟨st, h⟩ := h
  refine ⟨rfl, fun _ => none, H, [], [], [.slst (ns.map A.int)], ?_, .cons (.slst hS (Reps.ints ns)) .nil, ?_⟩
  · exact { zub := fun _ _ q => (by cases q), zf := fun _ _ q => (by cases q), zc := fun _ _ q => (by cases q), sub := fun _ _ q => q, len := rfl, cell := fun i c q => (by simp at q), inj := fun i j a c d q => (by simp at q) }
  · rw [h]
    intro F' μ' H' b e g r
    cases r; rfl
end
end SL

set_option Elab.async false
set_option linter.all false
set_option maxRecDepth 100000
set_option maxHeartbeats 4000000
/-! SLk: two stores at once. -/
namespace SL
open PySem PySem.Spec L2
open PyProof.Rows hiding St
section
variable {Γ : G} {fo : Str → Bool} {pos : Pos} {a b : Expr}
theorem sw_sub2 {o1 i1 o2 i2 : Expr} {p1 p2 pt pv : Pos} {k kv : Nat} (env : Env) : swappedStores [.Tuple [.Subscript o1 i1 p1, .Subscript o2 i2 p2] k pt] (.Tuple [a, b] kv pv) env = pure none := by
  simp only [swappedStores]
  by_cases h : (env.blockKind != ScopeKind.function) = true
  · simp [h]
  · simp [h]
def sSub2 (op : A → A → A → Store → Option Store) (ms : AEnv → Store → Res (List A)) (mo1 mi1 mo2 mi2 : AEnv → Store → Res A) : MS := fun env st => (ms env st).toS env fun as st1 => match as with
  | [v, w] => (mo1 env st1).toS env fun o1 st2 => (mi1 env st2).toS env fun i1 st3 => match op o1 i1 v st3 with
    | some st4 => (mo2 env st4).toS env fun o2 st5 => (mi2 env st5).toS env fun i2 st6 => match op o2 i2 w st6 with
      | some st7 => .nx env st7
      | none => .stuck
    | none => .stuck
  | _ => .stuck
def SubAss (o i : Expr) (sp : Pos) : Prop := ∀ env v, assign (.Subscript o i sp) env v = (do
      let ov ← holding [v] (eval o env)
      let iv ← holding [v, ov] (eval i env)
      standAt sp
      holding [v, ov, iv] (setItem ov iv v)
      release [v, ov, iv] [])
theorem st_sub2 {op : A → A → A → Store → Option Store} {o1 i1 o2 i2 : Expr} {ms : AEnv → Store → Res (List A)} {mo1 mi1 mo2 mi2 : AEnv → Store → Res A} {p1 p2 pt pv : Pos} {k kv : Nat} (hop : Cset op) (h : SA Γ [a, b] ms) (ho1 : SE Γ o1 mo1) (hi1 : SE Γ i1 mi1) (ho2 : SE Γ o2 mo2) (hi2 : SE Γ i2 mi2)
    (ha1 : SubAss o1 i1 p1 := by intro _ _; rfl) (ha2 : SubAss o2 i2 p2 := by intro _ _; rfl) (cm : Γ.calm = true := by rfl) :
    SS Γ fo (.Assign [.Tuple [.Subscript o1 i1 p1, .Subscript o2 i2 p2] k pt] (.Tuple [a, b] kv pv) pos) (sSub2 op ms mo1 mi1 mo2 mi2) :=
  ⟨fun W => by
    obtain ⟨r, h1, h2⟩ := hop.ex
    obtain ⟨t, s0, p0⟩ := h.run W
    obtain ⟨t1, s1, q1⟩ := ho1.run W
    obtain ⟨t2, s2, q2⟩ := hi1.run W
    obtain ⟨t3, s3, q3⟩ := ho2.run W
    obtain ⟨t4, s4, q4⟩ := hi2.run W
    refine ⟨tAsg (tTup t) (gTup Γ.K 2 (gCons (gSub t1 t2 (r Γ.K)) (gCons (gSub t3 t4 (r Γ.K)) gNil))), ?_, fun X c hf kk => ?_⟩
    · intro Z F μ st env σ H D g re hp
      unfold sSub2 at hp
      rw [Res.post_toS] at hp
      refine s0 Z F μ st env σ H _ g re (Res.post_mono hp (fun as st1 q => ?_) fun x st1 q F1 μ1 H1 d e1 g1 x1 => q F1 μ1 H1 σ d e1 g1 (re.mono e1) x1)
      intro F1 μ1 H1 vs e1 g1 rs
      split at q
      · rename_i v w
        obtain ⟨vv, wv, rfl, rv, rw'⟩ := rs.two
        refine ⟨by show 2 ≤ sizeLine; rw [sizeLine_eq]; decide, fun p hp => ⟨p, [vv, wv], rfl, SqT.of upd_same, rfl, ?_⟩⟩
        obtain ⟨g1', e1'⟩ := g1.known (p := p) (o := .tup [vv, wv]) hp
        have e01 := e1.trans e1'
        refine ⟨vv, [wv], rfl, ?_⟩
        rw [Res.post_toS] at q
        refine s1 Z _ μ1 st1 env σ _ _ g1' (re.mono e01) (Res.post_mono q (fun o1 st2 q => ?_) fun x st2 q F2 μ2 H2 d e2 g2 x1 => q F2 μ2 H2 σ d (e01.trans e2) g2 (re.mono (e01.trans e2)) x1)
        intro F2 μ2 H2 ov e2 g2 ro
        have e02 := e01.trans e2
        rw [Res.post_toS] at q
        refine s2 Z F2 μ2 st2 env σ H2 _ g2 (re.mono e02) (Res.post_mono q (fun i1 st3 q => ?_) fun x st3 q F3 μ3 H3 d e3 g3 x1 => q F3 μ3 H3 σ d (e02.trans e3) g3 (re.mono (e02.trans e3)) x1)
        intro F3 μ3 H3 iv e3 g3 ri
        have e03 := e02.trans e3
        cases eo : op o1 i1 v st3 with
        | none => rw [eo] at q; exact q.elim
        | some st4 =>
          rw [eo] at q
          dsimp only at q
          refine h2 Γ.K Z F3 μ3 st3 st4 H3 o1 i1 v ov iv vv _ g3 (ro.mono e3) ri (rv.mono (e1'.trans (e2.trans e3))) eo fun F4 H4 e4 g4 => ?_
          have e04 := e03.trans e4
          refine ⟨wv, [], rfl, ?_⟩
          rw [Res.post_toS] at q
          refine s3 Z F4 μ3 st4 env σ H4 _ g4 (re.mono e04) (Res.post_mono q (fun o2 st5 q => ?_) fun x st5 q F5 μ5 H5 d e5 g5 x1 => q F5 μ5 H5 σ d (e04.trans e5) g5 (re.mono (e04.trans e5)) x1)
          intro F5 μ5 H5 ov2 e5 g5 ro2
          have e05 := e04.trans e5
          rw [Res.post_toS] at q
          refine s4 Z F5 μ5 st5 env σ H5 _ g5 (re.mono e05) (Res.post_mono q (fun i2 st6 q => ?_) fun x st6 q F6 μ6 H6 d e6 g6 x1 => q F6 μ6 H6 σ d (e05.trans e6) g6 (re.mono (e05.trans e6)) x1)
          intro F6 μ6 H6 iv2 e6 g6 ri2
          have e06 := e05.trans e6
          cases eo2 : op o2 i2 w st6 with
          | none => rw [eo2] at q; exact q.elim
          | some st7 =>
            rw [eo2] at q
            refine h2 Γ.K Z F6 μ6 st6 st7 H6 o2 i2 w ov2 iv2 wv _ g6 (ro2.mono e6) ri2 (rw'.mono (e1'.trans (e2.trans (e3.trans (e4.trans (e5.trans e6)))))) eo2 fun F7 H7 e7 g7 => ?_
            exact ⟨rfl, KN.now ((show KN Γ.K Z F μ D.nx env st7 from q).ext (e06.trans e7)) g7 (re.mono (e06.trans e7))⟩
      · exact q.elim
    · rw [← c.K]
      exact ps_asg (pe_tup (p0 X c kk)) (pg_tup (c.calm cm) (pgs_cons (pg_sub (q1 X c kk) (q2 X c kk) (h1 Γ X c) (ha1 _)) (pgs_cons (pg_sub (q3 X c kk) (q4 X c kk) (h1 Γ X c) (ha2 _)) pgs_nil))) (hs := by rfl) (hw := sw_sub2 _) (h1 := by rfl)⟩
end
end SL

set_option Elab.async false
set_option linter.all false
set_option maxRecDepth 100000
set_option maxHeartbeats 4000000
/-! SLm: words for the plain functions. -/
namespace SL
open PySem PySem.Spec L2
open PyProof.Rows hiding St
section
variable {i j : Nat} {env : AEnv} {st : Store} {a b : A} {ma mb mc : AEnv → Store → Res A} {ms : AEnv → Store → Res (List A)} {p q : AEnv → Store → Res Bool}
@[simp] theorem eVar_ap : eVar i env st = match env[i]? with | some (some a) => .ok a st | _ => .stuck := (rfl)
@[simp] theorem eC_ap : eC a env st = .ok a st := (rfl)
@[simp] theorem eBin_ap {op : Op2} : eBin op ma mb env st = (ma env st).bind fun a st1 => (mb env st1).bind fun b st2 => Res.of (op a b st2) := (rfl)
@[simp] theorem eUn_ap {op : Op1} : eUn op ma env st = (ma env st).bind fun a st1 => Res.of (op a st1) := (rfl)
@[simp] theorem aNil_ap : aNil env st = .ok [] st := (rfl)
@[simp] theorem aCons_ap : aCons ma ms env st = (ma env st).bind fun a st1 => (ms env st1).bind fun as st2 => .ok (a :: as) st2 := (rfl)
@[simp] theorem eTup_ap : eTup ms env st = (ms env st).bind fun xs st1 => if xs.length ≤ sizeLine then .ok (.tup xs) st1 else .stuck := (rfl)
@[simp] theorem eLst_ap {mk : Bool} : eLst mk ms env st = (ms env st).bind fun xs st1 => if xs.length ≤ sizeLine then .ok (newL mk xs st1).1 (newL mk xs st1).2 else .stuck := (rfl)
@[simp] theorem newL_t {xs : List A} : newL true xs st = (.cell st.length, st ++ [.lst xs]) := (rfl)
@[simp] theorem newL_f {xs : List A} : newL false xs st = (.lst xs, st) := (rfl)
@[simp] theorem eCB_ap {op : OpN} : eCB op ms env st = (ms env st).bind fun xs st1 => Res.of (op xs st1) := (rfl)
@[simp] theorem one1_ap {op : Op1} : one1 op [a] st = op a st := (rfl)
@[simp] theorem two2_ap {op : Op2} : two2 op [a, b] st = op a b st := (rfl)
@[simp] theorem eCall_ap {M : List A → Store → Res A} : eCall M ms env st = (ms env st).bind fun as st1 => M as st1 := (rfl)
@[simp] theorem eM_ap {T : String} {op : A → OpN} : eM T op ma ms env st = (ma env st).bind fun a st1 => if tyVA T a st1 then (ms env st1).bind fun as st2 => Res.of (op a as st2) else .stuck := (rfl)
@[simp] theorem tOf_ap : tOf ma env st = (ma env st).bind asB := (rfl)
@[simp] theorem asB_bl {k : Bool} : asB (.bl k) st = .ok k st := (rfl)
@[simp] theorem tTru_ap : tTru ma env st = (ma env st).bind fun a st1 => match truA st1 a with | some b => .ok b st1 | none => .stuck := (rfl)
@[simp] theorem tAndM_ap : tAndM p q env st = (p env st).bind fun c st1 => if c then q env st1 else .ok false st1 := (rfl)
@[simp] theorem tOrM_ap : tOrM p q env st = (p env st).bind fun c st1 => if c then .ok true st1 else q env st1 := (rfl)
@[simp] theorem tNotM_ap : tNotM p env st = (p env st).bind fun c st1 => .ok (!c) st1 := (rfl)
@[simp] theorem tYesM_ap : tYesM env st = .ok true st := (rfl)
@[simp] theorem eAndV_ap : eAndV ma mb env st = (ma env st).bind fun a st1 => (asB a st1).bind fun c st2 => if c then mb env st2 else .ok (.bl false) st2 := (rfl)
@[simp] theorem eOrV_ap : eOrV ma mb env st = (ma env st).bind fun a st1 => (asB a st1).bind fun c st2 => if c then .ok (.bl true) st2 else mb env st2 := (rfl)
@[simp] theorem eNotV_ap : eNotV ma env st = (ma env st).bind fun a st1 => (asB a st1).bind fun c st2 => .ok (.bl (!c)) st2 := (rfl)
@[simp] theorem eIf_ap : eIf p ma mb env st = (p env st).bind fun c st1 => if c then ma env st1 else mb env st1 := (rfl)
@[simp] theorem eSl_ap {mk : Bool} {ml mh : AEnv → Store → Res (Option Int)} : eSl mk ma ml mh env st = (ma env st).bind fun a st1 => (ml env st1).bind fun lo st2 => (mh env st2).bind fun hi st3 => Res.of (slOp mk a lo hi st3) := (rfl)
@[simp] theorem oNone_ap : oNone env st = .ok none st := (rfl)
@[simp] theorem oSome_ap : oSome ma env st = (ma env st).bind fun a st1 => match a with | .int i => .ok (some i) st1 | _ => .stuck := (rfl)
@[simp] theorem eIsiT_ap : eIsiT ma ms env st = (ma env st).bind fun a st1 => (ms env st1).bind fun cs st2 =>
  if cs.length ≤ sizeLine then Res.of ((tyName a st2).bind fun n => (isiTys n cs).map fun b => (.bl b, st2)) else .stuck := (rfl)
@[simp] theorem mSeq_ap : mSeq ma env st = (ma env st).bind fun a st1 => match seqR a st1 with | some xs => .ok (xs, srcOf a xs) st1 | none => .stuck := (rfl)
@[simp] theorem eLc_ap {mk : Bool} {mi : MI} {g : MG} {own : List Nat} : eLc mk mi g own p ma env st = (mi env st).bind fun r st1 =>
  (lcL r.2 r.1 g p ma (wipeA env own) r.1 [] st1).bind fun acc st2 => .ok (newL mk acc st2).1 (newL mk acc st2).2 := (rfl)
@[simp] theorem gN_ap : gN i a env = some (env.set i (some a)) := (rfl)
@[simp] theorem wipeA_nil : wipeA env [] = env := (rfl)
@[simp] theorem wipeA_cons {vs : List Nat} : wipeA env (i :: vs) = (wipeA env vs).set i none := (rfl)
variable {x y : MS} {g : MG}
@[simp] theorem sNil_ap : sNil env st = .nx env st := (rfl)
@[simp] theorem sSeq_ap : sSeq x y env st = (x env st).bind y := (rfl)
@[simp] theorem sAsg_ap : sAsg g ma env st = (ma env st).toS env fun a st1 => match g a env with | some env1 => .nx env1 st1 | none => .stuck := (rfl)
@[simp] theorem sEx_ap : sEx ma env st = (ma env st).toS env fun _ st1 => .nx env st1 := (rfl)
@[simp] theorem sRet_ap : sRet ma env st = (ma env st).toS env fun a st1 => .rt a st1 := (rfl)
@[simp] theorem sRetN_ap : sRetN env st = .rt .non st := (rfl)
@[simp] theorem sIf_ap : sIf p x y env st = (p env st).toS env fun c st1 => if c then x env st1 else y env st1 := (rfl)
@[simp] theorem sBk_ap : sBk env st = .bk env st := (rfl)
@[simp] theorem sCt_ap : sCt env st = .ct env st := (rfl)
@[simp] theorem sFor_ap {mi : MI} : sFor mi g x env st = (mi env st).toS env fun r st1 => forL r.2 r.1 g x r.1 env st1 := (rfl)
@[simp] theorem sAug_ap {op : Op2} : sAug i op ma env st = match env[i]? with
  | some (some a) => (ma env st).toS env fun b st1 => match op a b st1 with
    | some (c, st2) => .nx (env.set i (some c)) st2
    | none => .stuck
  | _ => .stuck := (rfl)
@[simp] theorem sSub_ap {op : A → A → A → Store → Option Store} : sSub op ma mb mc env st = (ma env st).toS env fun v st1 => (mb env st1).toS env fun o st2 => (mc env st2).toS env fun i st3 => match op o i v st3 with
  | some st4 => .nx env st4
  | none => .stuck := (rfl)
@[simp] theorem sSub2_ap {op : A → A → A → Store → Option Store} {mo1 mi1 mo2 mi2 : AEnv → Store → Res A} : sSub2 op ms mo1 mi1 mo2 mi2 env st = (ms env st).toS env fun as st1 => match as with
  | [v, w] => (mo1 env st1).toS env fun o1 st2 => (mi1 env st2).toS env fun i1 st3 => match op o1 i1 v st3 with
    | some st4 => (mo2 env st4).toS env fun o2 st5 => (mi2 env st5).toS env fun i2 st6 => match op o2 i2 w st6 with
      | some st7 => .nx env st7
      | none => .stuck
    | none => .stuck
  | _ => .stuck := (rfl)
@[simp] theorem sPar_ap : sPar i j ms env st = (ms env st).toS env fun as st1 => match as with
  | [a, b] => .nx ((env.set i (some a)).set j (some b)) st1
  | _ => .stuck := (rfl)
/-! operations upon what they fit -/
@[simp] theorem addOp_ii {mk : Bool} {m n : Int} : addOp mk (.int m) (.int n) st = some (.int (m + n), st) := (rfl)
@[simp] theorem subOp_ii {m n : Int} : subOp (.int m) (.int n) st = some (.int (m - n), st) := (rfl)
@[simp] theorem addI_ii {m n : Int} : addI (.int m) (.int n) st = some (.int (m + n), st) := (rfl)
@[simp] theorem negOp_i {m : Int} : negOp (.int m) st = some (.int (-m), st) := (rfl)
theorem mulOp_ii {mk : Bool} {m n : Int} (h : CMulW m n) : mulOp mk (.int m) (.int n) st = some (.int (m * n), st) := by
  simp [mulOp, mulI, iiOp, gd, h]
theorem modOp_ii {m n : Int} (h : n ≠ 0) : modOp (.int m) (.int n) st = some (.int (m.fmod n), st) := by
  simp [modOp, iiOp, gd, h]
theorem fdivOp_ii {m n : Int} (h : CDivN m n) : fdivOp (.int m) (.int n) st = some (.int (m.fdiv n), st) := by
  simp [fdivOp, fdivN, iiOp, gd, h]
theorem fdivOp_L {m n : Int} (h : n ≠ 0) (h2 : n.natAbs.log2 < 9000) : fdivOp (.int m) (.int n) st = some (.int (m.fdiv n), st) := by
  by_cases c : CDivN m n
  · exact fdivOp_ii c
  · have c2 : CDivL m n := ⟨h, h2⟩
    simp [fdivOp, fdivN, fdivW, iiOp, gd, c, c2]
theorem powOp_ii {m n : Int} (h : CPow m n) : powOp (.int m) (.int n) st = some (.int (m ^ n.toNat), st) := by
  simp [powOp, iiOp, gd, h]
@[simp] theorem ltOp_ii {m n : Int} : ltOp (.int m) (.int n) st = some (.bl (decide (m < n)), st) := (rfl)
@[simp] theorem leOp_ii {m n : Int} : leOp (.int m) (.int n) st = some (.bl (decide (m ≤ n)), st) := (rfl)
@[simp] theorem gtOp_ii {m n : Int} : gtOp (.int m) (.int n) st = some (.bl (decide (n < m)), st) := (rfl)
@[simp] theorem geOp_ii {m n : Int} : geOp (.int m) (.int n) st = some (.bl (decide (n ≤ m)), st) := (rfl)
@[simp] theorem eqOp_ii {m n : Int} : eqOp (.int m) (.int n) st = some (.bl (decide (m = n)), st) := (rfl)
@[simp] theorem neOp_ii {m n : Int} : neOp (.int m) (.int n) st = some (.bl (!decide (m = n)), st) := (rfl)
@[simp] theorem eqOp_ss {m n : Str} : eqOp (.str m) (.str n) st = some (.bl (decide (m = n)), st) := (rfl)
@[simp] theorem neOp_ss {m n : Str} : neOp (.str m) (.str n) st = some (.bl (!decide (m = n)), st) := (rfl)
@[simp] theorem absA_i {m : Int} : absA (.int m) st = some (.int (if m < 0 then -m else m), st) := (rfl)
@[simp] theorem intA_i {m : Int} : intA (.int m) st = some (.int m, st) := (rfl)
@[simp] theorem intA_b {k : Bool} : intA (.bl k) st = some (.int (if k then 1 else 0), st) := (rfl)
@[simp] theorem truA_b {k : Bool} : truA st (.bl k) = some k := (rfl)
@[simp] theorem truA_i {m : Int} : truA st (.int m) = some (m != 0) := (rfl)
variable {xs ys : List A}
@[simp] theorem seqR_lst : seqR (.lst xs) st = some xs := (rfl)
@[simp] theorem seqR_slst : seqR (.slst xs) st = some xs := (rfl)
@[simp] theorem seqR_tup : seqR (.tup xs) st = some xs := (rfl)
theorem seqR_cell {c : Nat} (h : st[c]? = some (.lst xs)) : seqR (.cell c) st = some xs := by simp [seqR, tupR, lstR, lstH, h]
@[simp] theorem srcOf_lst {ys : List A} : srcOf (.lst xs) ys = none := (rfl)
@[simp] theorem srcOf_slst {ys : List A} : srcOf (.slst xs) ys = none := (rfl)
@[simp] theorem srcOf_tup {ys : List A} : srcOf (.tup xs) ys = none := (rfl)
@[simp] theorem truA_lst : truA st (.lst xs) = some (!xs.isEmpty) := (rfl)
@[simp] theorem truA_tup : truA st (.tup xs) = some (!xs.isEmpty) := (rfl)
@[simp] theorem lenA_lst : lenA (.lst xs) st = some (.int xs.length, st) := (rfl)
@[simp] theorem lenA_slst : lenA (.slst xs) st = some (.int xs.length, st) := (rfl)
@[simp] theorem lenA_tup : lenA (.tup xs) st = some (.int xs.length, st) := (rfl)
theorem lenA_cell {c : Nat} (h : st[c]? = some (.lst xs)) : lenA (.cell c) st = some (.int xs.length, st) := by simp [lenA, seqR_cell h]
@[simp] theorem listA_lst {mk : Bool} : listA mk (.lst xs) st = some (newL mk xs st) := (rfl)
@[simp] theorem listA_tup {mk : Bool} : listA mk (.tup xs) st = some (newL mk xs st) := (rfl)
@[simp] theorem listA_slst {mk : Bool} : listA mk (.slst xs) st = some (newL mk xs st) := (rfl)
theorem listA_cell {mk : Bool} {c : Nat} (h : st[c]? = some (.lst xs)) : listA mk (.cell c) st = some (newL mk xs st) := by simp [listA, seqR_cell h]
@[simp] theorem tupleA_lst : tupleA (.lst xs) st = some (.tup xs, st) := (rfl)
@[simp] theorem tupleA_tup : tupleA (.tup xs) st = some (.tup xs, st) := (rfl)
theorem tupleA_cell {c : Nat} (h : st[c]? = some (.lst xs)) : tupleA (.cell c) st = some (.tup xs, st) := by simp [tupleA, lstR, lstH, h]
theorem ixOp_at {a : A} {k : Int} {v : A} (h : seqR a st = some xs) (h2 : atI xs k = some v) : ixOp a (.int k) st = some (v, st) := by simp [ixOp, ixL, h, h2]
theorem atI_of {α : Type} {l : List α} {k : Int} {v : α} (h0 : 0 ≤ k) (h : l[k.toNat]? = some v) : atI l k = some v := by
  have : ((k.toNat : Nat) : Int) = k := Int.toNat_of_nonneg h0
  rw [← this]
  exact atI_nat h
/-! cells -/
@[simp] theorem get_app_len {c : C} {l : List C} {n : Nat} (h : n = st.length) : (st ++ c :: l)[n]? = some c := by subst h; simp
theorem cellL_ok' {c : Nat} (h : st[c]? = some (.lst xs)) : cellL (.cell c) st = some (c, xs) := by simp [cellL, h]
theorem tyVA_cell {c : Nat} (h : st[c]? = some (.lst xs)) : tyVA "list" (.cell c) st = true := by simp [tyVA, lstR, lstH, h]
theorem appendM_c {c : Nat} {v : A} (h : st[c]? = some (.lst xs)) (hl : xs.length < sizeLine) : appendM (.cell c) [v] st = some (.non, st.set c (.lst (xs ++ [v]))) := by simp [appendM, cellL_ok' h, hl]
theorem popM_c {c : Nat} {v : A} (h : st[c]? = some (.lst (xs ++ [v]))) : popM (.cell c) [] st = some (v, st.set c (.lst xs)) := by simp [popM, cellL_ok' h]
theorem popM_at {c : Nat} {k : Int} {v : A} (h : st[c]? = some (.lst xs)) (h0 : 0 ≤ k) (h1 : k < 2 ^ 63) (hv : xs[k.toNat]? = some v) : popM (.cell c) [.int k] st = some (v, st.set c (.lst (xs.eraseIdx k.toNat))) := by
  have hl : k.toNat < xs.length := (List.getElem?_eq_some_iff.mp hv).1
  have hi : seqIndex? k xs.length = some k.toNat := by
    unfold seqIndex?
    have h2 : ¬ k < 0 := by omega
    have h3 : k < xs.length := by omega
    simp [h2, h3, h0]
  simp only [popM, cellL_ok' h]
  rw [if_pos ⟨by omega, h1⟩, hi]
  simp [hv]
theorem reverseM_c {c : Nat} (h : st[c]? = some (.lst xs)) : reverseM (.cell c) [] st = some (.non, st.set c (.lst xs.reverse)) := by simp [reverseM, cellL_ok' h]
theorem setL_c {c : Nat} {k : Int} {v : A} (h : st[c]? = some (.lst xs)) (h0 : 0 ≤ k) (h1 : k < xs.length) : setL (.cell c) (.int k) v st = some (st.set c (.lst (xs.set k.toNat v))) := by
  simp [setL, cellL_ok' h, ixN, h0, h1]
/-! ranges -/
theorem mRng1_ap {m : Int} (h : (ms env st) = .ok [.int m] st) (h1 : -(2 ^ 62) ≤ m) (h2 : m < 2 ^ 62) : mRng1 ms env st = .ok (rgA 0 m, none) st := by
  simp only [mRng1, h, Res.bind_ok]; rw [if_pos ⟨h1, h2⟩]
theorem mRng2_ap {m n : Int} (h : (ms env st) = .ok [.int m, .int n] st) (h1 : -(2 ^ 62) ≤ m) (h2 : m < 2 ^ 62) (h3 : -(2 ^ 62) ≤ n) (h4 : n < 2 ^ 62) : mRng2 ms env st = .ok (rgA m n, none) st := by
  simp only [mRng2, h, Res.bind_ok]; rw [if_pos ⟨h1, h2, h3, h4⟩]
theorem rgA_nat (n : Nat) : rgA 0 (n : Int) = (List.range n).map fun i => A.int ((i : Nat) : Int) := by
  unfold rgA
  simp
theorem rgA_ints (n : Nat) : rgA 0 (n : Int) = ((List.range n).map fun i => ((i : Nat) : Int)).map A.int := by
  rw [rgA_nat, List.map_map]; rfl
/-! a def's end -/
theorem okS_same {st : Store} : okS st.length st st := fun _ _ => .inl rfl
theorem okS_app {l : List C} : okS st.length st (st ++ l) := fun i hi => .inl (List.getElem?_append_left hi)
theorem okS_set {c : Nat} {k : C} {l : List C} (h : k.bel st.length = true) : okS st.length st (st.set c k ++ l) := fun i hi => by
  rw [List.getElem?_append_left (by rw [List.length_set]; exact hi)]
  by_cases e : c = i
  · subst e; exact .inr ⟨k, by rw [List.getElem?_set_self hi], h⟩
  · exact .inl (List.getElem?_set_ne e)
@[simp] theorem bel_ints (n : Nat) (l : List Int) : belowL n (l.map A.int) = true := by
  induction l with
  | nil => rfl
  | cons x l ih => rw [List.map_cons, belowL, ih]; simp [A.bel]
/-- a value without cells goes out, nothing else changed -/
theorem finA_pure {rc : Bool} {a : A} {l : List C} (h : a.bel st.length = true) (hc : ∀ c, a ≠ .cell c) : finA rc st.length st a (st ++ l) = .ok a st := by
  have gen : (match frzA st.length 8 a (st ++ l) with | some (b, st1) => if b.bel st.length = true ∧ okS st.length st st1 then Res.ok b (st1.take st.length) else .stuck | none => .stuck : Res A) = .ok a st := by
    have e : frzA st.length 8 a (st ++ l) = some (a, st ++ l) := by unfold frzA; rw [if_pos h]
    rw [e]
    dsimp only
    rw [if_pos ⟨h, okS_app⟩]
    simp
  cases rc with
  | false => exact gen
  | true =>
    cases a with
    | cell c => exact absurd rfl (hc c)
    | _ => exact gen
/-- the same where the caller's cell c was written -/
theorem finA_set {rc : Bool} {a : A} {l : List C} {c : Nat} {k : C} (h : a.bel st.length = true) (hc : ∀ c, a ≠ .cell c) (hk : k.bel st.length = true) : finA rc st.length st a (st.set c k ++ l) = .ok a (st.set c k) := by
  have gen : (match frzA st.length 8 a (st.set c k ++ l) with | some (b, st1) => if b.bel st.length = true ∧ okS st.length st st1 then Res.ok b (st1.take st.length) else .stuck | none => .stuck : Res A) = .ok a (st.set c k) := by
    have e : frzA st.length 8 a (st.set c k ++ l) = some (a, st.set c k ++ l) := by unfold frzA; rw [if_pos h]
    rw [e]
    dsimp only
    rw [if_pos ⟨h, okS_set hk⟩]
    congr 1
    have : st.length = (st.set c k).length := by simp
    rw [this, List.take_left]
  cases rc with
  | false => exact gen
  | true =>
    cases a with
    | cell c => exact absurd rfl (hc c)
    | _ => exact gen
/-- a new list goes out as data -/
theorem finA_lst {l : List C} {n : Nat} {zs : List A} (hn : st.length ≤ n) (h : (st ++ l)[n]? = some (.lst zs)) (hb : belowL st.length zs = true) : finA false st.length st (.cell n) (st ++ l) = .ok (.lst zs) st := by
  have hnb : A.bel st.length (.cell n) = false := by simp [A.bel]; omega
  have e2 : ∀ (k : Nat) (ys : List A) (s : Store), belowL st.length ys = true → frzL (frzA st.length k) ys s = some (ys, s) := by
    intro k ys
    induction ys with
    | nil => intro s _; rfl
    | cons y ys ih =>
      intro s hb
      rw [belowL, Bool.and_eq_true] at hb
      unfold frzL
      have e : frzA st.length k y s = some (y, s) := by cases k <;> (unfold frzA; rw [if_pos hb.1])
      rw [e]
      dsimp only
      rw [ih s hb.2]
  have e : frzA st.length 8 (.cell n) (st ++ l) = some (.lst zs, (st ++ l).set n .dead) := by
    unfold frzA
    rw [if_neg (by rw [hnb]; decide)]
    dsimp only
    rw [h]
    dsimp only
    rw [e2 _ _ _ hb]
    rfl
  unfold finA
  dsimp only
  rw [e]
  dsimp only
  have hs : (st ++ l).set n .dead = st ++ l.set (n - st.length) .dead := by rw [List.set_append_right _ _ hn]
  rw [hs, if_pos ⟨by simp only [A.bel]; exact hb, okS_app⟩]
  simp
end
/-! ### loops -/
/-- by an invariant over the turns; the end is told by P -/
theorem forL_post {src : Src} {all : List A} {g : MG} {body : MS} {P : SPost} (I : Nat → AEnv → Store → Prop) (hsrc : ∀ i e s, I i e s → srcOk src all s) : ∀ (xs : List A) (k : Nat) (env : AEnv) (st : Store), I k env st →
    (∀ i x e s, xs[i]? = some x → I (k + i) e s → ∃ e1, g x e = some e1 ∧ (body e1 s).post { nx := I (k + i + 1), ct := I (k + i + 1), bk := P.nx, rt := P.rt, ex := P.ex }) →
    (∀ e s, I (k + xs.length) e s → P.nx e s) → (forL src all g body xs env st).post P
  | [], k, env, st, h0, hs, hd => by
    rw [forL, if_pos (hsrc _ _ _ h0)]
    exact hd _ _ h0
  | x :: xs, k, env, st, h0, hs, hd => by
    rw [forL, if_pos (hsrc _ _ _ h0)]
    obtain ⟨e1, h1, h2⟩ := hs 0 x env st rfl h0
    rw [h1]
    dsimp only
    have ih := forL_post (g := g) (body := body) (P := P) I hsrc xs (k + 1)
    have hs' : ∀ i y e s, xs[i]? = some y → I (k + 1 + i) e s → ∃ e1, g y e = some e1 ∧ (body e1 s).post { nx := I (k + 1 + i + 1), ct := I (k + 1 + i + 1), bk := P.nx, rt := P.rt, ex := P.ex } := fun i y e s hy hi => by
      have := hs (i + 1) y e s (by rw [List.getElem?_cons_succ]; exact hy) (by rw [show k + (i + 1) = k + 1 + i by omega]; exact hi)
      rw [show k + (i + 1) + 1 = k + 1 + i + 1 by omega] at this
      exact this
    have hd' : ∀ e s, I (k + 1 + xs.length) e s → P.nx e s := fun e s h => hd e s (by rw [List.length_cons, show k + (xs.length + 1) = k + 1 + xs.length by omega]; exact h)
    cases eb : body e1 st with
    | nx e s => rw [eb] at h2; exact ih e s h2 hs' hd'
    | ct e s => rw [eb] at h2; exact ih e s h2 hs' hd'
    | bk e s => rw [eb] at h2; exact h2
    | rt a s => rw [eb] at h2; exact h2
    | exc x e s => rw [eb] at h2; exact h2
    | stuck => rw [eb] at h2; exact h2.elim
/-- a loop that runs through -/
theorem forL_inv {all : List A} {g : MG} {body : MS} {xs : List A} {env : AEnv} {st : Store} (I : Nat → AEnv → Store → Prop) (h0 : I 0 env st)
    (hs : ∀ i x e s, xs[i]? = some x → I i e s → ∃ e1, g x e = some e1 ∧ ∃ e2 s2, (body e1 s = .nx e2 s2 ∨ body e1 s = .ct e2 s2) ∧ I (i + 1) e2 s2) : ∃ e s, forL none all g body xs env st = .nx e s ∧ I xs.length e s := by
  have h := forL_post (src := none) (all := all) (g := g) (body := body) (P := ⟨fun e s => I xs.length e s, fun _ _ => False, fun _ _ => False, fun _ _ => False, fun _ _ _ => False⟩) I (fun _ _ _ _ => trivial) xs 0 env st h0
    (fun i x e s hx hi => by
      rw [Nat.zero_add] at hi ⊢
      obtain ⟨e1, h1, e2, s2, h2, h3⟩ := hs i x e s hx hi
      refine ⟨e1, h1, ?_⟩
      rcases h2 with h2 | h2 <;> rw [h2] <;> exact h3)
    (fun e s h => by rw [Nat.zero_add] at h; exact h)
  cases e : forL none all g body xs env st with
  | nx e' s => rw [e] at h; exact ⟨e', s, rfl, h⟩
  | ct e' s => rw [e] at h; exact h.elim
  | bk e' s => rw [e] at h; exact h.elim
  | rt a s => rw [e] at h; exact h.elim
  | exc x e' s => rw [e] at h; exact h.elim
  | stuck => rw [e] at h; exact h.elim
/-- a comprehension that maps -/
theorem lcL_map {all : List A} {g : MG} {me : AEnv → Store → Res A} {mt : AEnv → Store → Res Bool} {env0 : AEnv} {st : Store} (t : A → Bool) (f : A → A) : ∀ (xs acc : List A), (∀ x ∈ xs, ∃ e1, g x env0 = some e1 ∧ mt e1 st = .ok (t x) st ∧ (t x = true → me e1 st = .ok (f x) st)) →
    acc.length + xs.length ≤ sizeLine → lcL none all g mt me env0 xs acc st = .ok (acc ++ (xs.filter t).map f) st
  | [], acc, _, _ => by rw [lcL, if_pos (show srcOk none all st from trivial)]; simp
  | x :: xs, acc, h, hl => by
    rw [lcL, if_pos (show srcOk none all st from trivial)]
    obtain ⟨e1, h1, h2, h3⟩ := h x (by simp)
    rw [h1]
    dsimp only
    rw [h2]
    simp only [noX_ok, Res.bind_ok]
    rw [List.length_cons] at hl
    cases ht : t x with
    | true =>
      rw [if_pos rfl, h3 ht]
      simp only [noX_ok, Res.bind_ok]
      rw [if_pos (by omega), lcL_map t f xs (acc ++ [f x]) (fun y hy => h y (by simp [hy])) (by simp; omega)]
      simp [ht]
    | false =>
      rw [if_neg Bool.false_ne_true, lcL_map t f xs acc (fun y hy => h y (by simp [hy])) (by omega)]
      simp [ht]
/-- a while, by a measure -/
theorem whL_inv {p : AEnv → Store → Res Bool} {body : MS} {P : SPost} (I : Nat → AEnv → Store → Prop)
    (hs : ∀ m e s, I m e s → ∃ c, p e s = .ok c s ∧ (c = true → ∃ n, m = n + 1 ∧ (body e s).post { nx := I n, ct := I n, bk := P.nx, rt := P.rt, ex := P.ex }) ∧ (c = false → P.nx e s)) : ∀ (k m : Nat) (env : AEnv) (st : Store), m < k → I m env st → (whL p body k env st).post P
  | 0, m, _, _, h, _ => absurd h (Nat.not_lt_zero _)
  | k + 1, m, env, st, h, h0 => by
    rw [whL]
    obtain ⟨c, h1, h2, h3⟩ := hs m env st h0
    rw [h1]
    simp only [Res.toS_ok]
    cases c with
    | false => rw [if_neg Bool.false_ne_true]; exact h3 rfl
    | true =>
      rw [if_pos rfl]
      obtain ⟨n, rfl, h4⟩ := h2 rfl
      cases eb : body env st with
      | nx e s => rw [eb] at h4; exact whL_inv I hs k n e s (by omega) h4
      | ct e s => rw [eb] at h4; exact whL_inv I hs k n e s (by omega) h4
      | bk e s => rw [eb] at h4; exact h4
      | rt a s => rw [eb] at h4; exact h4
      | exc x e s => rw [eb] at h4; exact h4
      | stuck => rw [eb] at h4; exact h4.elim
end SL
namespace SL
open PySem PySem.Spec L2
open PyProof.Rows hiding St
/-- it goes on to the next turn -/
def NxP (r : SRes) (P : AEnv → Store → Prop) : Prop := match r with
  | .nx e s => P e s
  | .ct e s => P e s
  | _ => False
@[simp] theorem NxP_nx {e : AEnv} {s : Store} {P : AEnv → Store → Prop} : NxP (.nx e s) P = P e s := (rfl)
@[simp] theorem NxP_ct {e : AEnv} {s : Store} {P : AEnv → Store → Prop} : NxP (.ct e s) P = P e s := (rfl)
theorem NxP.of {r : SRes} {P : AEnv → Store → Prop} (h : NxP r P) : ∃ e s, (r = .nx e s ∨ r = .ct e s) ∧ P e s := by
  cases r with
  | nx e s => exact ⟨e, s, .inl rfl, h⟩
  | ct e s => exact ⟨e, s, .inr rfl, h⟩
  | _ => exact h.elim
/-- a loop that runs through -/
theorem for_inv {all : List A} {g : MG} {body : MS} {xs : List A} {env : AEnv} {st : Store} (I : Nat → AEnv → Store → Prop) (h0 : I 0 env st)
    (hs : ∀ i x e s, xs[i]? = some x → I i e s → ∃ e1, g x e = some e1 ∧ NxP (body e1 s) (I (i + 1))) : ∃ e s, forL none all g body xs env st = .nx e s ∧ I xs.length e s :=
  forL_inv I h0 fun i x e s hx hi => by
    obtain ⟨e1, h1, h2⟩ := hs i x e s hx hi
    obtain ⟨e2, s2, h3, h4⟩ := h2.of
    exact ⟨e1, h1, e2, s2, h3, h4⟩
end SL
namespace SL
open PySem PySem.Spec L2
open PyProof.Rows hiding St
/-- one new cell goes out -/
theorem finA_cell {st : Store} {l : List C} {n : Nat} {c : C} (hn : st.length ≤ n) (h : (st ++ l)[n]? = some c) (hl : c.live = true) (hb : c.bel st.length = true) : finA true st.length st (.cell n) (st ++ l) = .ok (.cell st.length) (st ++ [c]) := by
  unfold finA
  dsimp only
  rw [if_pos hn, h]
  dsimp only
  rw [if_pos ⟨hl, hb, okS_app⟩]
  simp
/-- a def's call, by its body -/
theorem fnM_rt {rc : Bool} {np ns : Nat} {body : MS} {as : List A} {st st' : Store} {a b : A} {s : Store} (hl : as.length = np) (hb : body (as.map some ++ List.replicate (ns - np) none) st = .rt a st') (hf : finA rc st.length st a st' = .ok b s) : fnM rc np ns body as st = .ok b s := by
  unfold fnM
  rw [if_pos hl, hb]
  exact hf
theorem fnM_nx {rc : Bool} {np ns : Nat} {body : MS} {as : List A} {st st' : Store} {e : AEnv} {b : A} {s : Store} (hl : as.length = np) (hb : body (as.map some ++ List.replicate (ns - np) none) st = .nx e st') (hf : finA false st.length st .non st' = .ok b s) : fnM rc np ns body as st = .ok b s := by
  unfold fnM
  rw [if_pos hl, hb]
  exact hf
end SL

set_option Elab.async false
set_option linter.all false
set_option maxRecDepth 100000
set_option maxHeartbeats 4000000
/-! SLn: lists of numbers; equal data. -/
namespace SL
open PySem PySem.Spec L2
open PyProof.Rows hiding St
abbrev ti (l : List Int) : A := .tup (l.map A.int)
abbrev lI (l : List Int) : A := .lst (l.map A.int)
theorem rgA_intsG (a b : Int) : rgA a b = ((List.range (b - a).toNat).map fun i => a + ((i : Nat) : Int)).map A.int := by
  unfold rgA; rw [List.map_map]; rfl
theorem get_getD {l : List Int} {k : Nat} (h : k < l.length) : (l.map A.int)[k]? = some (.int (l.getD k 0)) := by
  rw [List.getElem?_map, List.getElem?_eq_getElem h, List.getD_eq_getElem?_getD, List.getElem?_eq_getElem h]; rfl
theorem ix_ints {st : Store} {a : A} {l : List Int} {k : Int} (h : seqR a st = some (l.map A.int)) (h0 : 0 ≤ k) (h1 : k < l.length) : ixOp a (.int k) st = some (.int (l.getD k.toNat 0), st) :=
  ixOp_at h (atI_of h0 (get_getD (by omega)))
theorem ix_ti {st : Store} {l : List Int} {k : Int} (h0 : 0 ≤ k) (h1 : k < l.length) : ixOp (.tup (l.map A.int)) (.int k) st = some (.int (l.getD k.toNat 0), st) := ix_ints rfl h0 h1
theorem ix_lI {st : Store} {l : List Int} {k : Int} (h0 : 0 ≤ k) (h1 : k < l.length) : ixOp (.lst (l.map A.int)) (.int k) st = some (.int (l.getD k.toNat 0), st) := ix_ints rfl h0 h1
theorem ix_li {st : Store} {c : Nat} {l : List Int} {k : Int} (h : st[c]? = some (.lst (l.map A.int))) (h0 : 0 ≤ k) (h1 : k < l.length) : ixOp (.cell c) (.int k) st = some (.int (l.getD k.toNat 0), st) := ix_ints (seqR_cell h) h0 h1
theorem appendM_li {st : Store} {c : Nat} {l : List Int} {v : Int} (h : st[c]? = some (.lst (l.map A.int))) (hl : l.length < sizeLine) : appendM (.cell c) [.int v] st = some (.non, st.set c (.lst ((l ++ [v]).map A.int))) := by
  rw [appendM_c h (by simpa using hl)]; simp
theorem setL_li {st : Store} {c : Nat} {l : List Int} {k v : Int} (h : st[c]? = some (.lst (l.map A.int))) (h0 : 0 ≤ k) (h1 : k < l.length) : setL (.cell c) (.int k) (.int v) st = some (st.set c (.lst ((l.set k.toNat v).map A.int))) := by
  rw [setL_c h h0 (by simpa using h1)]; simp
theorem eraseIdx_mapA : ∀ (l : List Int) (k : Nat), (l.map A.int).eraseIdx k = (l.eraseIdx k).map A.int
  | [], _ => by simp
  | x :: l, 0 => by simp
  | x :: l, k + 1 => by simp [eraseIdx_mapA l k]
theorem popM_li {st : Store} {c : Nat} {k : Int} {l : List Int} (h : st[c]? = some (.lst (l.map A.int))) (h0 : 0 ≤ k) (h1 : k < l.length) (h2 : l.length < 2 ^ 62) : popM (.cell c) [.int k] st = some (.int (l.getD k.toNat 0), st.set c (.lst ((l.eraseIdx k.toNat).map A.int))) := by
  rw [popM_at h h0 (by omega) (get_getD (l := l) (by omega)), eraseIdx_mapA]
/-! data without cells -/
theorem belowL_all {n : Nat} : ∀ {xs : List A}, (∀ x ∈ xs, x.bel n = true) → belowL n xs = true
  | [], _ => by simp [belowL]
  | x :: xs, h => by rw [belowL, h x (by simp), belowL_all fun y hy => h y (by simp [hy])]; rfl
theorem bel_int {n : Nat} {i : Int} : (A.int i).bel n = true := by simp [A.bel]
theorem bel_tup {n : Nat} {xs : List A} (h : ∀ x ∈ xs, x.bel n = true) : (A.tup xs).bel n = true := by simp only [A.bel]; exact belowL_all h
theorem bel_lst {n : Nat} {xs : List A} (h : ∀ x ∈ xs, x.bel n = true) : (A.lst xs).bel n = true := by simp only [A.bel]; exact belowL_all h
theorem bel_ti {n : Nat} {l : List Int} : (A.tup (l.map A.int)).bel n = true := by simp only [A.bel]; exact bel_ints n l
theorem bel_lI {n : Nat} {l : List Int} : (A.lst (l.map A.int)).bel n = true := by simp only [A.bel]; exact bel_ints n l
theorem fin_ti {rc : Bool} {st : Store} {l : List C} {p : List Int} : finA rc st.length st (ti p) (st ++ l) = .ok (ti p) st := finA_pure bel_ti (by intro c h; cases h)
theorem fin_ti0 {rc : Bool} {st : Store} {p : List Int} : finA rc st.length st (ti p) st = .ok (ti p) st := by
  have := fin_ti (rc := rc) (st := st) (l := []) (p := p); simpa using this
theorem fin_lI {rc : Bool} {st : Store} {l : List C} {p : List Int} : finA rc st.length st (lI p) (st ++ l) = .ok (lI p) st := finA_pure bel_lI (by intro c h; cases h)
theorem fin_lI0 {rc : Bool} {st : Store} {p : List Int} : finA rc st.length st (lI p) st = .ok (lI p) st := by
  have := fin_lI (rc := rc) (st := st) (l := []) (p := p); simpa using this
theorem fin_pure0 {rc : Bool} {st : Store} {a : A} (h : a.bel st.length = true) (hc : ∀ c, a ≠ .cell c) : finA rc st.length st a st = .ok a st := by
  have := finA_pure (rc := rc) (st := st) (l := []) h hc; simpa using this
theorem fin_int0 {rc : Bool} {st : Store} {i : Int} : finA rc st.length st (.int i) st = .ok (.int i) st := fin_pure0 bel_int (by intro c h; cases h)
theorem fin_bl0 {rc : Bool} {st : Store} {i : Bool} : finA rc st.length st (.bl i) st = .ok (.bl i) st := fin_pure0 (by simp [A.bel]) (by intro c h; cases h)
theorem fin_lIc {st : Store} {l : List C} {n : Nat} {zs : List Int} (hn : st.length ≤ n) (h : (st ++ l)[n]? = some (.lst (zs.map A.int))) : finA false st.length st (.cell n) (st ++ l) = .ok (lI zs) st := finA_lst hn h (bel_ints _ _)
/-! equal data -/
/-- data, at most so deep -/
def Dt (st : Store) (n : Nat) (a : A) : Prop := ∃ d, toD st n a = some d ∧ d.canLay0 = true ∧ d.depth ≤ n + 1
theorem dt_int {st : Store} {n : Nat} {i : Int} : Dt st n (.int i) := ⟨.int i, by cases n <;> rfl, rfl, by simp [PyData.depth]⟩
theorem dt_bl {st : Store} {n : Nat} {i : Bool} : Dt st n (.bl i) := ⟨.bool i, by cases n <;> rfl, rfl, by simp [PyData.depth]⟩
theorem dt_non {st : Store} {n : Nat} : Dt st n .non := ⟨.none, by cases n <;> rfl, rfl, by simp [PyData.depth]⟩
theorem dt_str {st : Store} {n : Nat} {x : Str} (h : PyData.canLay0 (.str x) = true) : Dt st n (.str x) := ⟨.str x, by cases n <;> rfl, h, by simp [PyData.depth]⟩
theorem dt_all {st : Store} {n : Nat} : ∀ {xs : List A}, (∀ x ∈ xs, Dt st n x) → ∃ ds, optAll (toD st n) xs = some ds ∧ PyData.canLayAll0 ds = true ∧ PyData.depthAll ds ≤ n + 1
  | [], _ => ⟨[], rfl, rfl, by simp [PyData.depthAll]⟩
  | x :: xs, h => by
    obtain ⟨d, h1, h2, h3⟩ := h x (by simp)
    obtain ⟨ds, h4, h5, h6⟩ := dt_all (xs := xs) fun y hy => h y (by simp [hy])
    exact ⟨d :: ds, by rw [optAll, h1, h4], by simp [PyData.canLayAll0, h2, h5], by simp only [PyData.depthAll]; omega⟩
theorem dt_lst {st : Store} {n : Nat} {xs : List A} (h : ∀ x ∈ xs, Dt st n x) : Dt st (n + 1) (.lst xs) := by
  obtain ⟨ds, h4, h5, h6⟩ := dt_all h
  exact ⟨.list ds, by rw [toD, h4]; rfl, by simpa [PyData.canLay0] using h5, by simp only [PyData.depth]; omega⟩
theorem dt_tup {st : Store} {n : Nat} {xs : List A} (h : ∀ x ∈ xs, Dt st n x) : Dt st (n + 1) (.tup xs) := by
  obtain ⟨ds, h4, h5, h6⟩ := dt_all h
  exact ⟨.tuple ds, by rw [toD, h4]; rfl, by simpa [PyData.canLay0] using h5, by simp only [PyData.depth]; omega⟩
theorem neOp_same {st : Store} {a : A} (h : Dt st 50 a) : neOp a a st = some (.bl false, st) := by
  obtain ⟨d, h1, h2, h3⟩ := h
  have hs : SeqAt.shaped d = true := by
    show (d.canLay0 && decide (d.depth ≤ 64)) = true
    rw [h2, decide_eq_true (by omega)]; rfl
  have e : eqD true a a st = some (.bl false, st) := by
    have hr : PyData.eqv d d = true := by first | exact PySem.SeqAt.eqv_refl d h2 | exact PySem.eqv_refl d h2 | exact PyProof.P3.eqv_refl d h2
    unfold eqD; rw [h1]; dsimp only; rw [if_pos ⟨hs, hs⟩, hr]; rfl
  unfold neOp
  rw [e]
  cases a <;> simp [eqSc]
theorem eqOp_same {st : Store} {a : A} (h : Dt st 50 a) : eqOp a a st = some (.bl true, st) := by
  obtain ⟨d, h1, h2, h3⟩ := h
  have hs : SeqAt.shaped d = true := by
    show (d.canLay0 && decide (d.depth ≤ 64)) = true
    rw [h2, decide_eq_true (by omega)]; rfl
  have e : eqD false a a st = some (.bl true, st) := by
    have hr : PyData.eqv d d = true := by first | exact PySem.SeqAt.eqv_refl d h2 | exact PySem.eqv_refl d h2 | exact PyProof.P3.eqv_refl d h2
    unfold eqD; rw [h1]; dsimp only; rw [if_pos ⟨hs, hs⟩, hr]; rfl
  unfold eqOp
  rw [e]
  cases a <;> simp [eqSc]
theorem dt_ti {st : Store} {n : Nat} {l : List Int} : Dt st (n + 1) (.tup (l.map A.int)) := dt_tup fun x hx => by
  obtain ⟨i, _, rfl⟩ := List.mem_map.mp hx; exact dt_int
theorem dt_lI {st : Store} {n : Nat} {l : List Int} : Dt st (n + 1) (.lst (l.map A.int)) := dt_lst fun x hx => by
  obtain ⟨i, _, rfl⟩ := List.mem_map.mp hx; exact dt_int
theorem neOp_ti {st : Store} {l : List Int} : neOp (.tup (l.map A.int)) (.tup (l.map A.int)) st = some (.bl false, st) := neOp_same dt_ti
theorem filT {α : Type} : ∀ l : List α, l.filter (fun _ => true) = l
  | [] => rfl
  | x :: l => by rw [List.filter_cons, filT l]; rfl
/-- a comprehension over numbers that maps and keeps the store -/
theorem eLc_ints {mi : MI} {i : Nat} {own : List Nat} {p : AEnv → Store → Res Bool} {ma : AEnv → Store → Res A} {env : AEnv} {st : Store} {mk : Bool} {xs : List Int} (t : Int → Bool) (f : Int → Int) (hmi : mi env st = .ok (xs.map A.int, none) st) (hl : xs.length ≤ sizeLine)
    (h : ∀ x ∈ xs, p ((wipeA env own).set i (some (.int x))) st = .ok (t x) st ∧ (t x = true → ma ((wipeA env own).set i (some (.int x))) st = .ok (.int (f x)) st)) :
    eLc mk mi (gN i) own p ma env st = .ok (newL mk (((xs.filter t).map f).map A.int) st).1 (newL mk (((xs.filter t).map f).map A.int) st).2 := by
  rw [eLc_ap, hmi]
  simp only [Res.bind_ok]
  have := lcL_map (all := xs.map A.int) (g := gN i) (me := ma) (mt := p) (env0 := wipeA env own) (st := st) (fun a => match a with | .int x => t x | _ => false) (fun a => match a with | .int x => .int (f x) | a => a) (xs.map A.int) [] (fun a ha => by
    obtain ⟨x, hx, rfl⟩ := List.mem_map.mp ha
    obtain ⟨h1, h2⟩ := h x hx
    exact ⟨_, rfl, h1, h2⟩) (by simpa using hl)
  rw [this]
  simp only [Res.bind_ok, List.nil_append, List.filter_map, List.map_map]
  rfl
end SL

set_option Elab.async false
set_option linter.all false
set_option maxRecDepth 100000
set_option maxHeartbeats 4000000
/-! SLp: own exceptions: raised, caught. -/
namespace SL
open PySem PySem.Spec L2
open PyProof.Rows hiding St
/-! ### an expression that makes an exception -/
structure SMk (Γ : G) (e : Expr) (m : AEnv → Store → Res Exc) : Prop where
  run : ∀ W : WX, ∃ t : L2.St → Hp → XK → Prop, (∀ (Z F : Hp) (μ : List Addr) (st : Store) (env : AEnv) (σ : L2.St) (H : Hp) (Q : XK), Good Γ.K Z F μ st H → REnv Γ.K F μ env σ →
      (m env st).post (fun x st1 => ∀ F' μ' H' d, Ext F F' μ μ' → Good Γ.K Z F' μ' st1 H' → XRep Γ.K F' μ' x d → Q (.ref (He.ga Γ.K x.c)) d H') (KX Γ.K Z F μ σ W) → t σ H Q) ∧
    ∀ X, CtxOk Γ X → Takes X W → PMk X e t
def sRaise (m : AEnv → Store → Res Exc) : MS := fun env st => (m env st).toS env fun x st1 => .exc x env st1
theorem st_raise {Γ : G} {fo : Str → Bool} {e : Expr} {m : AEnv → Store → Res Exc} {pos : Pos} (h : SMk Γ e m) (cm : Γ.calm = true := by rfl) : SS Γ fo (.Raise (some e) none pos) (sRaise m) :=
  ⟨fun W => by
    obtain ⟨t, h1, h2⟩ := h.run W
    refine ⟨fun _ σ H => t σ H fun cls d H' => W cls d σ H', fun Z F μ st env σ H D g re hp => ?_, fun X c hf k => ps_raise (c.calm cm) k (h2 X c k)⟩
    unfold sRaise at hp
    rw [Res.post_toS] at hp
    refine h1 Z F μ st env σ H _ g re (Res.post_mono hp (fun x st1 q => ?_) fun x st1 q => ?_)
    · intro F' μ' H' d e' g' xr
      exact (show KXS Γ.K Z F μ W x env st1 from q) F' μ' H' σ d e' g' (re.mono e') xr
    · intro F' μ' H' d e' g' xr
      exact (show KXS Γ.K Z F μ W x env st1 from q) F' μ' H' σ d e' g' (re.mono e') xr⟩
/-! ### a class over KnotError, its __init__: Base.__init__(self, lit + what); self.what = what -/
/-- what the written part says of the base class -/
structure KBase (K : PySem.W.Frag) (B : Addr) : Prop where
  ga : PySem.W.specialIn K (.ref B) "__getattribute__" = some (some (.builtin "type.__getattribute__"))
  ty : PySem.W.typeIn K (.ref B) = some (.type "type")
  rd : PySem.W.readsIn K B (.type "type") = true
  fi : PySem.W.findCls K (.ref B) (.type "type") "__init__" = some (.val (.builtin "ValueError.__init__"))
def kBaseB (K : PySem.W.Frag) (B : Addr) : Bool := decide (PySem.W.specialIn K (.ref B) "__getattribute__" = some (some (.builtin "type.__getattribute__"))) && (decide (PySem.W.typeIn K (.ref B) = some (.type "type")) && (PySem.W.readsIn K B (.type "type") && (match PySem.W.findCls K (.ref B) (.type "type") "__init__" with
  | some (.val (.builtin x)) => decide (x = "ValueError.__init__")
  | _ => false)))
theorem kBaseB_ok {K : PySem.W.Frag} {B : Addr} (h : kBaseB K B = true) : KBase K B := by
  unfold kBaseB at h
  obtain ⟨h1, h⟩ := Bool.and_eq_true_iff.mp h
  obtain ⟨h2, h⟩ := Bool.and_eq_true_iff.mp h
  obtain ⟨h3, h4⟩ := Bool.and_eq_true_iff.mp h
  refine ⟨of_decide_eq_true h1, of_decide_eq_true h2, h3, ?_⟩
  split at h4
  · rename_i x e
    rw [e, of_decide_eq_true h4]
  · cases h4
section
variable {X : Cx} {e : Expr} {es : List Expr} {ta : TA} {B : Addr} {x : Str} {p1 p2 pos : Pos}
/-- Base.__init__(self, ..), Base an own class over ValueError -/
theorem pe_kinit {pl : Sem Bool} (hg : Gl X x) (hm : X.mg x = some (.ref B)) (kb : KBase X.K B) (ha : PA X (e :: es) ta) (hdb : (x == ("__debug__" : Str)) = false := by decide)
    (hc : eval (.Call (.Attribute (.Name x p1) "__init__" p2) (e :: es) [] pos) X.env = (do
      let ov ← eval (.Name x p1) X.env
      standAt p2.atName
      let (f, first) ← holding [ov] (getMethod ov "__init__" pl)
      callWith pos f first (backTo pos (starEach (e :: es) X.env)) (backToKw pos (keywordEach [] X.env))) := by rfl)
    (he : starEach (e :: es) X.env = (false, eval e X.env) :: starEach es X.env := by rfl) (hpl : (backTo pos (starEach es X.env)).any (·.1) = false := by rfl) :
    PE X (.Call (.Attribute (.Name x p1) "__init__" p2) (e :: es) [] pos) (tVeI X.K ta) := by
  refine ⟨fun pins s σ H Q I h => PySem.W.methodCall_KW (ld_glob I hg hm ?_ hdb) hc⟩
  obtain ⟨m, fr⟩ := I.fr
  refine PySem.W.method_of_cls fr I.ok.mod.kin kb.ga (PySem.W.cls_val fr I.ok.mod.kin kb.ty kb.rd kb.fi (by decide +kernel) ?_)
  refine PyProof.Rows.callWith_method1 (thn (ha.run pos pins _ σ H _ (I.tok _) h) fun us s1 hh => ?_) he hpl
  obtain ⟨vs, H1, I1, r1, a, C, ws, ev, hl, T, ea, q⟩ := hh
  subst ev
  cases r1 with
  | @cons _ u0 _ ur ra rw' =>
    obtain rfl : u0 = Value.ref a := ra
    refine oinit_ok T I1 ea ?_ fun s' J => ⟨.non, H1, J, rfl, q⟩
    have := Paired.length rw'
    rw [sizeLine_eq]
    omega
end
/-- the promise of such an __init__ -/
def spW (K : PySem.W.Frag) (C : Addr) : Sp := fun vs H Q _ => ∃ (a : Addr) (s : Str), vs = [.ref a, .str s] ∧ s.length < 1000 ∧ H a = some (exo a C none) ∧
  ∀ dx, H dx = none → dx ≠ a → Q .non (upd (upd H dx (exd dx [("what", .str s)])) a (exo a C (some dx)))
/-- such a class -/
structure KExc (P : Program) (w : World) (K : PySem.W.Frag) (mg : Str → Option Value) (base : Heap) (C : Addr) : Prop where
  oex : OexC K C
  nw : PySem.W.findIn K (.ref C) "what" = some none
  fi : ∃ fI fd, PySem.W.findIn K (.ref C) "__init__" = some (some (.ref fI)) ∧ PySem.W.typeIn K (.ref fI) = some (.type "function") ∧ FnOk P w K mg base (L2.CX P w) 1 fI fd ["self", "what"] (spW K C) ∧ Binds K fd ["self", "what"] []
abbrev kinitBody (bn lit : Str) (p1 p2 p3 p4 p5 p6 p7 p8 p9 p10 p11 p12 : Pos) (j : Nat) : List Stmt :=
  [.Expr (.Call (.Attribute (.Name bn p1) "__init__" p2) [.Name "self" p3, .BinOp (.Constant (.str lit) j p4) .Add (.Name "what" p5) p6] [] p7) p8,
   .Assign [.Attribute (.Name "self" p9) "what" p10] (.Name "what" p11) p12]
theorem kexc_of {P : Program} {w : World} {K : PySem.W.Frag} {mg : Str → Option Value} {base : Heap} {C B fI : Addr} {fd : FuncData} {qual bn lit : Str} {params : Arguments} {scope : Scope} {p1 p2 p3 p4 p5 p6 p7 p8 p9 p10 p11 p12 : Pos} {j : Nat} {pl : Env → Sem Bool}
    (F : FunD K "__init__" qual params (kinitBody bn lit p1 p2 p3 p4 p5 p6 p7 p8 p9 p10 p11 p12 j) scope [] [] fI fd) (S : FnScope ["self", "what"] ["self", "what"] scope) (hB : Binds K fd ["self", "what"] [])
    (oex : OexC K C) (nw : PySem.W.findIn K (.ref C) "what" = some none) (fi : PySem.W.findIn K (.ref C) "__init__" = some (some (.ref fI))) (ft : PySem.W.typeIn K (.ref fI) = some (.type "function"))
    (kb : KBase K B) (hm : mg bn = some (.ref B)) (hg : scope.names.lookup bn = some .globalImplicit) (vs : Vis scope "self") (vw : Vis scope "what") (hlit : lit.length < 1000)
    (hdb : (bn == ("__debug__" : Str)) = false)
    (hc : ∀ env, eval (.Call (.Attribute (.Name bn p1) "__init__" p2) [.Name "self" p3, .BinOp (.Constant (.str lit) j p4) .Add (.Name "what" p5) p6] [] p7) env = (do
      let ov ← eval (.Name bn p1) env
      standAt p2.atName
      let (f, first) ← holding [ov] (getMethod ov "__init__" (pl env))
      callWith p7 f first (backTo p7 (starEach [.Name "self" p3, .BinOp (.Constant (.str lit) j p4) .Add (.Name "what" p5) p6] env)) (backToKw p7 (keywordEach [] env))) := by intro _; rfl) : KExc P w K mg base C where
  oex := oex
  nw := nw
  fi := by
    refine ⟨fI, fd, fi, ft, F.ok S (fun vs H Q E hs => ?_) (fun cdv A outer s H vs' Q E hr hs => ?_), hB⟩
    · obtain ⟨a, s, rfl, _⟩ := hs; rfl
    · obtain ⟨a, s, rfl, hsl, ha, hq⟩ := hs
      refine ⟨_, pss_cons (ps_expr (pe_kinit (pl := pl _) hg hm kb (pa_cons (pv 0 rfl vs) (pa_cons (pe_op op_add_str pe_str (pv 1 rfl vw)) pa_nil)) hdb (hc _))) (pss_one (ps_ost (pv 0 rfl vs) (pv 1 rfl vw))), ?_⟩
      refine ⟨.ref a, rfl, .str s, rfl, lit, s, rfl, rfl, by rw [sizeLine_eq]; omega, a, C, [.str (lit ++ s)], rfl, by simp, oex, ha, .str s, rfl, .ref a, rfl, a, C, rfl, oex, nw, .inl ⟨ha, hq⟩⟩
section
variable {Γ : G} {e : Expr} {es : List Expr} {m : AEnv → Store → Res A} {pos p : Pos}
/-- C(what) -/
def mkWhat (c : Str) (m : AEnv → Store → Res A) : AEnv → Store → Res Exc := fun env st => (m env st).bind fun a st1 => match a with
  | .str s => if s.length < 1000 then .ok ⟨c, ["what"], [.str s]⟩ st1 else .stuck
  | _ => .stuck
theorem mk_what {x : Str} (ke : KExc Γ.P Γ.w Γ.K Γ.mg Γ.base (He.ga Γ.K x)) (hg : Γ.sc.names.lookup x = some .globalImplicit) (hm : Γ.mg x = some (.ref (He.ga Γ.K x))) (ha : SE Γ e m) (hk : 2 ≤ Γ.k) (hdb : (x == ("__debug__" : Str)) = false := by decide)
    (he : ∀ env, starEach [e] env = (false, eval e env) :: starEach [] env := by intro _; rfl) (hpl : ∀ env, (backTo pos (starEach [] env)).any (·.1) = false := by intro _; rfl) (cm : Γ.calm = true := by rfl) :
    SMk Γ (.Call (.Name x p) [e] [] pos) (mkWhat x m) :=
  ⟨fun W => by
    obtain ⟨t, h1, h2⟩ := ha.run W
    obtain ⟨fI, fd, f1, f2, f3, f4⟩ := ke.fi
    refine ⟨tMkO (He.ga Γ.K x) (spW Γ.K (He.ga Γ.K x)) [] (tCons t tNil), fun Z F μ st env σ H Q g re hp => ?_, fun X c tk => ?_⟩
    · unfold mkWhat at hp
      rw [Res.post_bind] at hp
      refine h1 Z F μ st env σ H _ g re (Res.post_mono hp (fun a st1 q => ?_) fun _ _ q => q)
      intro F1 μ1 H1 v e1 g1 ra
      cases a with
      | str s =>
        cases ra
        dsimp only at q
        by_cases hl : s.length < 1000
        · rw [if_pos hl] at q
          refine ⟨by simp, fun a hna => ⟨a, s, rfl, hl, upd_same, fun dx hdx hda => ?_⟩⟩
          refine ⟨rfl, dx, [("what", .str s)], upd_same, ?_, ?_, ?_⟩
          · rw [upd_ne hda, upd_same]
          · rw [upd_ne hda] at hdx; exact hdx
          · have hd1 : H1 dx = none := by rw [upd_ne hda] at hdx; exact hdx
            have eq : upd (del (upd (upd (upd H1 a (exo a (He.ga Γ.K x) none)) dx (exd dx [("what", .str s)])) a (exo a (He.ga Γ.K x) (some dx))) a) dx (.xd [("what", .str s)]) = upd H1 dx (.xd [("what", .str s)]) := by
              funext b
              by_cases hb : b = dx
              · subst hb; rw [upd_same, upd_same]
              · rw [upd_ne hb, upd_ne hb]
                by_cases hb2 : b = a
                · subst hb2; rw [del_same, hna]
                · rw [del_ne hb2, upd_ne hb2, upd_ne hb, upd_ne hb2]
            rw [eq]
            obtain ⟨g2, e2⟩ := g1.known (p := dx) (o := .xd [("what", .str s)]) hd1
            exact (show ∀ F' μ' H' d, Ext F F' μ μ' → Good Γ.K Z F' μ' st1 H' → XRep Γ.K F' μ' ⟨x, ["what"], [.str s]⟩ d → Q (.ref (He.ga Γ.K x)) d H' from q) _ μ1 _ (some dx) (e1.trans e2) g2 (.inr ⟨dx, [("what", .str s)], rfl, upd_same, rfl, .cons (.str s) .nil⟩)
        · rw [if_neg hl] at q; exact q.elim
      | _ => exact q.elim
    · have hr := c.room cm
      have f3' : FnOk X.prog X.w X.K X.mg X.base (L2.CX X.prog X.w) 1 fI fd ["self", "what"] (spW Γ.K (He.ga Γ.K x)) := by rw [c.prog, c.w, c.K, c.mg, c.base]; exact f3
      exact pmk_oex (C := He.ga Γ.K x) (fI := fI) (k := 1) (fd := fd) (ps := ["self", "what"]) (ds := []) (dvs := []) (by rw [c.K]; exact ke.oex) (by rw [c.K]; exact f1) (by rw [c.K]; exact f2) f3' (hr.mono hk) (by rw [c.K]; exact f4) .nil (fun _ _ _ _ _ _ _ z => by obtain ⟨_, _, _, _, _, _, _, _, _, _, _, _, _, z⟩ := z) (c.gl hg) (by rw [c.mg]; exact hm) (pa_cons (h2 X c tk) pa_nil (he _)) hdb (he _) (hpl _)⟩
end
end SL

set_option Elab.async false
set_option linter.all false
set_option maxRecDepth 100000
set_option maxHeartbeats 4000000
/-! SLq: try, except; what a caught exception holds. -/
namespace SL
open PySem PySem.Spec L2
open PyProof.Rows hiding St
/-- within an except suite: the exception at a, its class c, its dict d -/
def G.hot (Γ : G) (a : Addr) (c : Str) (d : Option Addr) : G := { Γ with calm := false, st := false, hx := some (a, c, d) }
theorem CtxOk.hot {Γ : G} {X : Cx} (k : CtxOk Γ X) {a : Addr} {c : Str} {d : Option Addr} {oe : Obj} {pn : List (Addr × Obj)} (hz : Zc (.ref (He.ga Γ.K c)) d oe) (hf : ∃ vs, oe.data = .fields vs) : CtxOk (Γ.hot a c d) (X.suite a ((a, oe) :: pn)) where
  prog := k.prog
  w := k.w
  K := k.K
  mg := k.mg
  base := k.base
  N := k.N
  sc := k.sc
  calm := fun z => Bool.noConfusion z
  room := fun z => Bool.noConfusion z
  units := k.units
  stk := fun z => Bool.noConfusion z
  hx := fun a' c' d' z => by
    have z' : some (a, c, d) = some (a', c', d') := z
    cases z'
    exact ⟨X, oe, pn, rfl, hz, hf⟩
  nd := k.nd
  own := PassesOwn.never
theorem CtxOk.tr {Γ : G} {X : Cx} (k : CtxOk Γ X) {pn : List (Addr × Obj)} {xe : Value → Shared → Prop} (ho : PassesOwn (model X.prog X.w) X.A X.env xe) (hx : Γ.hx = none) : CtxOk Γ (X.tr pn xe) where
  prog := k.prog
  w := k.w
  K := k.K
  mg := k.mg
  base := k.base
  N := k.N
  sc := k.sc
  calm := k.calm
  room := k.room
  units := k.units
  stk := k.stk
  hx := fun a' c' d' z => by rw [hx] at z; cases z
  nd := k.nd
  own := ho
/-- e.f of the exception in hand -/
def eXf (cs : List Str) (f : Str) (a0 : Addr) (c0 : Str) (d0 : Option Addr) (m : AEnv → Store → Res A) : AEnv → Store → Res A := fun env st => (m env st).bind fun v st1 => match v with
  | .xcp a d c ns vs => if a = a0 ∧ c = c0 ∧ d = d0 ∧ c ∈ cs then (match (ns.zip vs).lookup f with
    | some x => .ok x st1
    | none => .stuck) else .stuck
  | _ => .stuck
theorem lookup_reps {K : PySem.W.Frag} {F : Hp} {μ : List Addr} {f : Str} : ∀ {fs : List (Str × V)} {ns : List Str} {xs : List A} {x : A}, fs.map (·.1) = ns → Reps K F μ xs (fs.map (·.2)) → (ns.zip xs).lookup f = some x → ∃ v, fs.lookup f = some v ∧ Rep K F μ x v
  | [], ns, xs, x, h1, h2, h3 => by subst h1; simp at h3
  | (g, w) :: fs, ns, xs, x, h1, h2, h3 => by
    subst h1
    cases h2 with
    | @cons y _ ys _ r t =>
      rw [List.map_cons, List.zip_cons_cons, List.lookup_cons] at h3
      rw [List.lookup_cons]
      cases e : (f == g) with
      | true => rw [e] at h3; cases h3; exact ⟨w, rfl, r⟩
      | false => rw [e] at h3; exact lookup_reps rfl t h3
theorem s_xf {Γ : G} {e : Expr} {n : Str} {pos : Pos} {m : AEnv → Store → Res A} {a0 : Addr} {c0 : Str} {d0 : Option Addr} (cs : List Str) (h : SE (Γ.hot a0 c0 d0) e m) (hcs : ∀ c ∈ cs, XfC Γ.K (He.ga Γ.K c) ∧ PySem.W.findIn Γ.K (.ref (He.ga Γ.K c)) n = some none)
    (hb : ∀ env, attributeBase e n env (eval e env) = eval e env := by intro _; rfl) : SE (Γ.hot a0 c0 d0) (.Attribute e n pos) (eXf cs n a0 c0 d0 m) :=
  ⟨fun W => by
    obtain ⟨t, h1, h2⟩ := h.run W
    refine ⟨fun σ H Q => c0 ∈ cs ∧ tXf a0 (.ref (He.ga Γ.K c0)) d0 (He.ga Γ.K c0) n t σ H Q ∨ c0 ∉ cs ∧ t σ H (fun _ _ => False), fun Z F μ st env σ H Q g re hp => ?_, fun X k tk => ?_⟩
    · by_cases hc : c0 ∈ cs
      · refine .inl ⟨hc, ?_⟩
        unfold eXf at hp
        rw [Res.post_bind] at hp
        refine h1 Z F μ st env σ H _ g re (Res.post_mono hp (fun v st1 q => ?_) fun _ _ q => q)
        intro F1 μ1 H1 b e1 g1 rb
        cases v with
        | xcp a d c ns vs =>
          dsimp only at q
          by_cases hh : a = a0 ∧ c = c0 ∧ d = d0 ∧ c ∈ cs
          · rw [if_pos hh] at q
            obtain ⟨rfl, rfl, rfl, _⟩ := hh
            cases rb with
            | xcp0 => simp at q; exact q.elim
            | xcpD r1 r2 r3 =>
              rename_i dd fs
              cases el : (ns.zip vs).lookup n with
              | none => rw [el] at q; exact q.elim
              | some x =>
                rw [el] at q
                obtain ⟨w, hw, rw'⟩ := lookup_reps r2 r3 el
                exact ⟨rfl, rfl, dd, fs, w, rfl, g1.sub _ _ r1, hw, (show Kont Γ.K Z Rep F μ Q x st1 from q) F1 μ1 H1 w e1 g1 rw'⟩
          · rw [if_neg hh] at q; exact q.elim
        | _ => exact q.elim
      · refine .inr ⟨hc, ?_⟩
        unfold eXf at hp
        rw [Res.post_bind] at hp
        refine h1 Z F μ st env σ H _ g re (Res.post_mono hp (fun v st1 q => ?_) fun _ _ q => q)
        cases v with
        | xcp a d c ns vs =>
          dsimp only at q
          rw [if_neg (show ¬ (a = a0 ∧ c = c0 ∧ d = d0 ∧ c ∈ cs) from fun z => hc (z.2.1 ▸ z.2.2.2))] at q
          exact q.elim
        | _ => exact q.elim
    · obtain ⟨X', oe, pn, rfl, hz, hf⟩ := k.hx a0 c0 d0 rfl
      refine ⟨fun pins s σ H Q I hh => ?_⟩
      rcases hh with ⟨hc, hh⟩ | hh
      · have kK : (X'.suite a0 ((a0, oe) :: pn)).K = Γ.K := k.K
        have T := hcs c0 hc
        exact (pe_xf (X := X') (a := a0) (C := He.ga Γ.K c0) (by rw [show X'.K = Γ.K from kK]; exact T.1) (by rw [show X'.K = Γ.K from kK]; exact T.2) hz hf (h2 _ k tk) (hb _)).run pins s σ H Q I hh
      · exact attr_of (hb _) (thn ((h2 _ k tk).run pins s σ H _ I hh.2) fun u s1 z => by obtain ⟨_, _, _, _, z⟩ := z; exact z.elim)⟩
/-! ### try: body, except C as n: suite -/
def clr (i : Nat) (r : SRes) : SRes := match r with
  | .nx e s => .nx (e.set i none) s
  | .bk e s => .bk (e.set i none) s
  | .ct e s => .ct (e.set i none) s
  | .rt a s => .rt a s
  | .exc _ _ _ => .stuck
  | .stuck => .stuck
def noXS (r : SRes) : SRes := match r with
  | .exc _ _ _ => .stuck
  | r => r
/-- tbl: the classes that may come, whether the clause takes them; the suite is run with any exception of that class and these fields in slot i -/
noncomputable def sTryAs (tbl : List (Str × Bool)) (i : Nat) (body : MS) (ms : Addr → Str → Option Addr → MS) : MS := open Classical in fun env st => match body env st with
  | .exc x e s => (match tbl.lookup x.c with
    | some true => if ∀ a d, clr i (ms a x.c d (e.set i (some (.xcp a d x.c x.ns x.vs))) s) = clr i (ms 0 x.c none (e.set i (some (.xcp 0 none x.c x.ns x.vs))) s) then clr i (ms 0 x.c none (e.set i (some (.xcp 0 none x.c x.ns x.vs))) s) else .stuck
    | some false => .exc x e s
    | none => .stuck)
  | r => r
noncomputable def sTryNo (tbl : List (Str × Bool)) (body : MS) (ms : Addr → Str → Option Addr → MS) : MS := open Classical in fun env st => match body env st with
  | .exc x e s => (match tbl.lookup x.c with
    | some true => if ∀ a d, noXS (ms a x.c d e s) = noXS (ms 0 x.c none e s) then noXS (ms 0 x.c none e s) else .stuck
    | some false => .exc x e s
    | none => .stuck)
  | r => r
theorem lookup_mem' {α β : Type} [BEq α] [LawfulBEq α] {x : α} {y : β} : ∀ {l : List (α × β)}, l.lookup x = some y → (x, y) ∈ l
  | [], h => by cases h
  | (a, b) :: l, h => by
    rw [List.lookup_cons] at h
    cases e : (x == a) with
    | true => rw [e] at h; cases h; rw [eq_of_beq e]; exact List.mem_cons_self
    | false => rw [e] at h; exact List.mem_cons_of_mem _ (lookup_mem' h)
theorem XRep.xcp {K : PySem.W.Frag} {F : Hp} {μ : List Addr} {x : Exc} {d : Option Addr} (h : XRep K F μ x d) (a : Addr) : Rep K F μ (.xcp a d x.c x.ns x.vs) (.ref a) := by
  rcases h with ⟨rfl, h1, h2⟩ | ⟨dd, fs, rfl, h1, h2, h3⟩
  · rw [h1, h2]; exact .xcp0
  · exact .xcpD h1 h2 h3
theorem REnv.unset' {K : PySem.W.Frag} {F : Hp} {μ : List Addr} {env : AEnv} {σ : L2.St} (r : REnv K F μ env σ) (i : Nat) : REnv K F μ (env.set i none) (σ.set i none) := by
  refine ⟨by rw [List.length_set, List.length_set]; exact r.len, fun j b hj => ?_⟩
  by_cases e : i = j
  · subst e
    by_cases hl : i < env.length
    · rw [List.getElem?_set_self hl] at hj; cases hj
    · rw [List.getElem?_eq_none (by rw [List.length_set]; omega)] at hj; cases hj
  · rw [List.getElem?_set_ne e] at hj ⊢
    exact r.at_ j b hj
section
variable {Γ : G} {fo : Str → Bool} {x n : Str} {i : Nat} {body suite : List Stmt} {b₀ : Stmt} {np pos pos' : Pos} {m : MS} {ms : Addr → Str → Option Addr → MS} {tbl : List (Str × Bool)}
theorem st_tryAs (hi : Γ.N[i]? = some n) (hl : Γ.sc.names.lookup n = some .local) (hg : Γ.sc.names.lookup x = some .globalImplicit) (hm : Γ.mg x = some (.ref (He.ga Γ.K x))) (hdb : (x == ("__debug__" : Str)) = false)
    (htb : ∀ p ∈ tbl, PySem.W.exmOne Γ.K (.ref (He.ga Γ.K p.1)) (.ref (He.ga Γ.K x)) = some p.2) (hb : SB Γ fo body m) (hsu : ∀ a c d, SB (Γ.hot a c d) fo (b₀ :: suite) (ms a c d)) (hst : Γ.st = true := by rfl) (hhx : Γ.hx = none := by rfl) :
    SS Γ fo (.Try body [.ExceptHandler (some (.Name x np)) (some n) (b₀ :: suite) pos'] [] [] pos) (sTryAs tbl i m ms) :=
  ⟨fun W => by
    classical
    let ts : Addr → Value → Option Addr → TS := fun a cls d D σ H => ∃ c, cls = .ref (He.ga Γ.K c) ∧ Classical.choose ((hsu a c d).run W0) D σ H
    have hts : ∀ a c d, SimS Γ.K W0 (Classical.choose ((hsu a c d).run W0)) (ms a c d) ∧ ∀ X, CtxOk (Γ.hot a c d) X → (∀ x, fo x = true → X.fn x = true) → Takes X W0 → PSs X (b₀ :: suite) (Classical.choose ((hsu a c d).run W0)) := fun a c d => Classical.choose_spec ((hsu a c d).run W0)
    let tb : WX → TS := fun W => Classical.choose (hb.run W)
    have htbs : ∀ W, SimS Γ.K W (tb W) m ∧ ∀ X, CtxOk Γ X → (∀ x, fo x = true → X.fn x = true) → Takes X W → PSs X body (tb W) := fun W => Classical.choose_spec (hb.run W)
    refine ⟨fun D σ H => tb (wAs Γ.K (.ref (He.ga Γ.K x)) i ts W D) D σ H, fun Z F μ st env σ H D g re hp => ?_, fun X c hf k => ?_⟩
    · refine (htbs _).1 Z F μ st env σ H D g re ?_
      unfold sTryAs at hp
      generalize m env st = r at hp ⊢
      cases r with
      | nx e s => exact hp
      | rt a s => exact hp
      | bk e s => exact hp
      | ct e s => exact hp
      | stuck => exact hp
      | exc y e s =>
        intro F' μ' H' σ' d e' g' re' xr
        dsimp only at hp
        cases hlk : tbl.lookup y.c with
        | none => rw [hlk] at hp; exact hp.elim
        | some b =>
          rw [hlk] at hp
          refine ⟨b, htb _ (lookup_mem' hlk), fun hbt a hna => ?_, fun hbf => ?_⟩
          · subst hbt
            dsimp only at hp
            split at hp
            · rename_i hall
              rw [← hall a d] at hp
              refine ⟨y.c, rfl, (hts a y.c d).1 Z F' μ' s _ _ H' _ g' (re'.set i (xr.xcp a)) ?_⟩
              have hp2 := KS.ext e' hp
              generalize ms a y.c d (e.set i (some (.xcp a d y.c y.ns y.vs))) s = r2 at hp2 ⊢
              cases r2 with
              | nx e2 s2 =>
                intro F3 μ3 H3 σ3 e3 g3 re3
                exact (show KN Γ.K Z F' μ' D.nx (e2.set i none) s2 from hp2) F3 μ3 H3 _ e3 g3 (re3.unset' i)
              | rt a s2 => exact hp2
              | bk e2 s2 =>
                intro F3 μ3 H3 σ3 e3 g3 re3
                exact (show KN Γ.K Z F' μ' D.bk (e2.set i none) s2 from hp2) F3 μ3 H3 _ e3 g3 (re3.unset' i)
              | ct e2 s2 =>
                intro F3 μ3 H3 σ3 e3 g3 re3
                exact (show KN Γ.K Z F' μ' D.ct (e2.set i none) s2 from hp2) F3 μ3 H3 _ e3 g3 (re3.unset' i)
              | exc _ _ _ => exact hp2.elim
              | stuck => exact hp2.elim
            · exact hp.elim
          · subst hbf
            exact (show KXS Γ.K Z F μ W y e s from hp) F' μ' H' σ' d e' g' re' xr
    · obtain ⟨k1, k2⟩ := c.stk hst
      have hK := c.K
      rw [← hK]
      refine ps_try_as (i := i) k1 k2 c.nd (c.name hi) (by unfold Env.kindOf; rw [c.sc]; exact hl) ⟨c.gl hg, hdb, .inl (by rw [c.mg, hK]; exact hm)⟩ k (fun W' pn xe tk ho => (htbs W').2 _ (c.tr ho hhx) hf tk) (fun a oe cls d pn hz hfl => ⟨fun pins s σ H D I hh => ?_⟩)
      obtain ⟨c', rfl, hh⟩ := hh
      exact ((hts a c' d).2 _ (c.hot hz hfl) hf takes0).run pins s σ H D I hh⟩
theorem st_tryNo (hg : Γ.sc.names.lookup x = some .globalImplicit) (hm : Γ.mg x = some (.ref (He.ga Γ.K x))) (hdb : (x == ("__debug__" : Str)) = false)
    (htb : ∀ p ∈ tbl, PySem.W.exmOne Γ.K (.ref (He.ga Γ.K p.1)) (.ref (He.ga Γ.K x)) = some p.2) (hb : SB Γ fo body m) (hsu : ∀ a c d, SB (Γ.hot a c d) fo (b₀ :: suite) (ms a c d)) (hst : Γ.st = true := by rfl) (hhx : Γ.hx = none := by rfl) :
    SS Γ fo (.Try body [.ExceptHandler (some (.Name x np)) none (b₀ :: suite) pos'] [] [] pos) (sTryNo tbl m ms) :=
  ⟨fun W => by
    classical
    let ts : Addr → Value → Option Addr → TS := fun a cls d D σ H => ∃ c, cls = .ref (He.ga Γ.K c) ∧ Classical.choose ((hsu a c d).run W0) D σ H
    have hts : ∀ a c d, SimS Γ.K W0 (Classical.choose ((hsu a c d).run W0)) (ms a c d) ∧ ∀ X, CtxOk (Γ.hot a c d) X → (∀ x, fo x = true → X.fn x = true) → Takes X W0 → PSs X (b₀ :: suite) (Classical.choose ((hsu a c d).run W0)) := fun a c d => Classical.choose_spec ((hsu a c d).run W0)
    let tb : WX → TS := fun W => Classical.choose (hb.run W)
    have htbs : ∀ W, SimS Γ.K W (tb W) m ∧ ∀ X, CtxOk Γ X → (∀ x, fo x = true → X.fn x = true) → Takes X W → PSs X body (tb W) := fun W => Classical.choose_spec (hb.run W)
    refine ⟨fun D σ H => tb (wOnly Γ.K (.ref (He.ga Γ.K x)) ts W D) D σ H, fun Z F μ st env σ H D g re hp => ?_, fun X c hf k => ?_⟩
    · refine (htbs _).1 Z F μ st env σ H D g re ?_
      unfold sTryNo at hp
      generalize m env st = r at hp ⊢
      cases r with
      | nx e s => exact hp
      | rt a s => exact hp
      | bk e s => exact hp
      | ct e s => exact hp
      | stuck => exact hp
      | exc y e s =>
        intro F' μ' H' σ' d e' g' re' xr
        dsimp only at hp
        cases hlk : tbl.lookup y.c with
        | none => rw [hlk] at hp; exact hp.elim
        | some b =>
          rw [hlk] at hp
          refine ⟨b, htb _ (lookup_mem' hlk), fun hbt a hna => ?_, fun hbf => ?_⟩
          · subst hbt
            dsimp only at hp
            split at hp
            · rename_i hall
              rw [← hall a d] at hp
              refine ⟨y.c, rfl, (hts a y.c d).1 Z F' μ' s _ _ H' _ g' re' ?_⟩
              have hp2 := KS.ext e' hp
              generalize ms a y.c d e s = r2 at hp2 ⊢
              cases r2 with
              | exc _ _ _ => exact hp2.elim
              | _ => exact hp2
            · exact hp.elim
          · subst hbf
            exact (show KXS Γ.K Z F μ W y e s from hp) F' μ' H' σ' d e' g' re' xr
    · obtain ⟨k1, k2⟩ := c.stk hst
      have hK := c.K
      rw [← hK]
      refine ps_try_only k1 k2 ⟨c.gl hg, hdb, .inl (by rw [c.mg, hK]; exact hm)⟩ k (fun W' pn xe tk ho => (htbs W').2 _ (c.tr ho hhx) hf tk) (fun a oe cls d pn hz hfl => ⟨fun pins s σ H D I hh => ?_⟩)
      obtain ⟨c', rfl, hh⟩ := hh
      exact ((hts a c' d).2 _ (c.hot hz hfl) hf takes0).run pins s σ H D I hh⟩
end
end SL

set_option Elab.async false
set_option linter.all false
set_option maxRecDepth 100000
set_option maxHeartbeats 4000000
/-! SLr: the head's facts of own exceptions and classes, by a hook with one more Bool. -/
namespace SL
open PySem PySem.Spec L2
open PyProof.Rows hiding St
open He (ga ma)
inductive Fb where
  | oex (x : Str)
  | kbase (x : Str)
  | xf (x : Str)
  | ini (x : Str)
  | vals (x : Str) (kvs : List (Str × He.Dv))
  | bfn (x : Str) (id : String)
def oexB (K : PySem.W.Frag) (C : Addr) : Bool := match K.lookup C with
  | some ⟨.type T, _, .cls cd, sl⟩ => (match cd.mro, sl.toList with
    | .ref C' :: bm, [_, _, _, _, some (.builtin n), _] => decide (T = "type") && (decide (C' = C) && (decide (n = "ValueError.__new__") && (cd.hasDict && (!cd.hasDel && PySem.HandSPX.refsVE bm))))
    | _, _ => false)
  | _ => false
def Fb.ok (K : PySem.W.Frag) : Fb → Bool
  | .oex x => oexB K (ga K x) && (He.eqO (PySem.W.findIn K (.ref (ga K x)) "__setattr__") (some (some (.builtin "object.__setattr__"))) && (decide (PySem.W.subIn K (.ref (ga K x)) (.type "BaseException") = some true) && (decide (PySem.W.typeIn K (.ref (ga K x)) = some (.type "type")) && PySem.W.keepIn K (.ref (ga K x)))))
  | .kbase x => kBaseB K (ga K x)
  | .xf x => xfB K (ga K x)
  | .ini x => He.eqO (PySem.W.findIn K (.ref (ga K x)) "__init__") (some (some (.ref (ma K (ga K x) "__init__")))) && decide (PySem.W.typeIn K (.ref (ma K (ga K x) "__init__")) = some (.type "function"))
  | .vals x kvs => He.valsB K (ga K x) kvs
  | .bfn x id => He.eqO (PySem.W.nsIn K mainGlobals x) (some (some (.builtin id)))
theorem and2 {a b : Bool} (h : (a && b) = true) : a = true ∧ b = true := Bool.and_eq_true_iff.mp h
theorem oexB_ok {K : PySem.W.Frag} {C : Addr} (h : oexB K C = true) : ∃ nm q N bs bm sn sub ab col dd k0 k1 k2 k3 k5, K.lookup C = some (excClassObj nm q C N bs bm true sn sub ab col dd k0 k1 k2 k3 k5 "ValueError.__new__") ∧ PySem.HandSPX.refsVE bm = true := by
  unfold oexB at h
  split at h
  · rename_i T dd cd sl e
    obtain ⟨nm, bs, mro, ns, qn, hd, sn, sb, ab, col, dl⟩ := cd
    dsimp only at h
    split at h
    · rename_i C' bm k0 k1 k2 k3 n k5 e2
      obtain ⟨h1, h⟩ := and2 h
      obtain ⟨h2, h⟩ := and2 h
      obtain ⟨h3, h⟩ := and2 h
      obtain ⟨h4, h⟩ := and2 h
      obtain ⟨h5, h6⟩ := and2 h
      have h4 : hd = true := h4
      have h5 : dl = false := by simpa using h5
      have e3 := of_decide_eq_true h1
      have e4 := of_decide_eq_true h2
      have e5 := of_decide_eq_true h3
      subst e3 e4 e5 h4 h5
      refine ⟨nm, qn, ns, bs, bm, sn, sb, ab, col, dd, k0, k1, k2, k3, k5, ?_, h6⟩
      rw [e]
      have : sl = #[k0, k1, k2, k3, some (.builtin "ValueError.__new__"), k5] := by
        apply Array.toList_inj.mp
        rw [e2]
      rw [this]
    · cases h
  · cases h
theorem oex_ok {K : PySem.W.Frag} {x : Str} (h : (Fb.oex x).ok K = true) : OexC K (ga K x) := by
  obtain ⟨h1, h⟩ := and2 h
  obtain ⟨h2, h⟩ := and2 h
  obtain ⟨h3, h⟩ := and2 h
  obtain ⟨h4, h5⟩ := and2 h
  exact ⟨oexB_ok h1, He.eqO_ok h2, of_decide_eq_true h3, of_decide_eq_true h4, h5⟩
theorem kbase_ok {K : PySem.W.Frag} {x : Str} (h : (Fb.kbase x).ok K = true) : KBase K (ga K x) := kBaseB_ok h
theorem xf_ok {K : PySem.W.Frag} {x : Str} (h : (Fb.xf x).ok K = true) : XfC K (ga K x) := xfB_ok h
theorem ini_ok {K : PySem.W.Frag} {x : Str} (h : (Fb.ini x).ok K = true) : PySem.W.findIn K (.ref (ga K x)) "__init__" = some (some (.ref (ma K (ga K x) "__init__"))) ∧ PySem.W.typeIn K (.ref (ma K (ga K x) "__init__")) = some (.type "function") := by
  obtain ⟨h1, h2⟩ := and2 h
  exact ⟨He.eqO_ok h1, of_decide_eq_true h2⟩
theorem vals_ok {K : PySem.W.Frag} {x : Str} {kvs : List (Str × He.Dv)} (h : (Fb.vals x kvs).ok K = true) : He.valsB K (ga K x) kvs = true := h
theorem bfn_ok {K : PySem.W.Frag} {h : Heap} {mg : Str → Option Value} (X : K.In h) (G : h.Ns mainGlobals mg) {x : Str} {id : String} (c : (Fb.bfn x id).ok K = true) : mg x = some (.builtin id) := PySem.W.mg_of X G (He.eqO_ok c)
/-! ### the hook -/
abbrev AlS : Type := He.AlT × Bool
def obsS (n : Nat) (fa : List He.Fa) (fn : List He.DefD) (ts : List He.Tab) (fb : List Fb) (g : Addr → Option Obj) : AlS := (He.obsT fa fn ts (He.frG g (cStatics :: He.asD g n)), fb.all fun f => f.ok (He.frG g (cStatics :: He.asD g n)))
structure SaysS (fa : List He.Fa) (fn : List He.DefD) (ts : List He.Tab) (fb : List Fb) (w : World) (K : PySem.W.Frag) : Prop where
  t : He.SaysT fa fn ts w K
  b : (fb.all fun f => f.ok K) = true
section
variable {fa : List He.Fa} {fn : List He.DefD} {ts : List He.Tab} {fb : List Fb} {w : World} {K : PySem.W.Frag}
theorem SaysS.fbs (c : SaysS fa fn ts fb w K) (i : Nat) {f : Fb} (h : fb[i]? = some f := by rfl) : f.ok K = true :=
  List.all_eq_true.mp c.b f (List.mem_of_getElem? h)
theorem SaysS.fact (c : SaysS fa fn ts fb w K) (i : Nat) {f : He.Fa} (h : fa[i]? = some f := by rfl) : f.ok K = true := c.t.d.fact i h
theorem SaysS.def_ (c : SaysS fa fn ts fb w K) (i : Nat) {d : He.DefD} (h : fn[i]? = some d := by rfl) : ∃ fd, FunD K d.name d.qual d.params d.body d.scope (d.dvs K) (d.kws K) (He.fAd K d.at_) fd := c.t.d.def_ i h
end
def hookS (n : Nat) (fa : List He.Fa) (fn : List He.DefD) (ts : List He.Tab) (fb : List Fb) : PySem.W.Hook where
  α := AlS
  obs := fun s => obsS n fa fn ts fb s.heap.get?
  val := fun w => (He.valT fn ts w, true)
  says := fun w h => ∃ K : PySem.W.Frag, K.In h ∧ SaysS fa fn ts fb w K
  of := fun _ _ e => ⟨_, He.frG_in, ⟨congrArg (fun z : AlS => z.1) e, congrArg (fun z : AlS => z.2) e⟩⟩
  keeps := fun _ _ _ z k => let ⟨K, hK, c⟩ := z; ⟨K, PySem.W.Frag.In.keeps hK k, c⟩
theorem obsS_eq {n : Nat} {fa : List He.Fa} {fn : List He.DefD} {ts : List He.Tab} {fb : List Fb} {g : Addr → Option Obj} {s : Shared} (h : ∀ a, g a = s.heap.get? a) : obsS n fa fn ts fb g = (hookS n fa fn ts fb).obs s := by
  have e : g = s.heap.get? := funext h
  rw [e] <;> rfl
/-! ### the text of a class -/
def clsBody (s : Stmt) : List Stmt := match s with
  | .ClassDef _ _ _ b _ _ _ _ _ _ _ => b
  | _ => []
def meth (s : Stmt) (i : Nat) : Stmt := (clsBody s).getD i (.Pass ⟨0, 0, 0, 0⟩)
/-! ### a dict of the module, its keys texts, its values numbers -/
def wixOp (d : Str) (tbl : List (Str × Int)) : Op2 := fun a b st => match a, b with
  | .glo x, .str z => if x = d then (tbl.lookup z).map fun i => (.int i, st) else none
  | _, _ => none
/-- what the written part says of it -/
def WDct (K : PySem.W.Frag) (w : World) (d : Str) (tbl : List (Str × Int)) : Prop := ∀ p ∈ tbl, KDct K w (He.ga K d) p.1 (.int p.2)
theorem wdct_of {K : PySem.W.Frag} {w : World} {d : Str} {tbl : List (Str × Int)} {es : Array DictEntry} {n : Nat} (D : KDict K w (He.ga K d) es n) (h : He.valsB K (He.ga K d) (tbl.map fun p => (p.1, .int p.2)) = true) : WDct K w d tbl := by
  intro p hp
  obtain ⟨u, h1, h2⟩ := He.valsB_ok h (List.mem_map.mpr ⟨p, hp, rfl⟩)
  exact ⟨es, n, u, D.at_, D.lit, h1, h2⟩
theorem s_wix {Γ : G} {a b : Expr} {ma mb : AEnv → Store → Res A} {pos : Pos} {d : Str} {tbl : List (Str × Int)} (h : WDct Γ.K Γ.w d tbl) (ha : SE Γ a ma) (hb : SE Γ b mb) (hs : PlainIx b := by intro _ _; rfl) : SE Γ (.Subscript a b pos) (eBin (wixOp d tbl) ma mb) :=
  ⟨fun W => by
    obtain ⟨ta, sa, pa⟩ := ha.run W
    obtain ⟨tb, sb, pb⟩ := hb.run W
    have sw : SimV2 Γ.K (rIxD Γ.K Γ.w) (wixOp d tbl) := by
      intro Z F μ st st' H a b c x y Q g ra rb e k
      cases a with
      | glo z =>
        cases b with
        | str z' =>
          cases ra; cases rb
          have e : (if z = d then (tbl.lookup z').map (fun i => (A.int i, st)) else none) = some (c, st') := e
          by_cases hz : z = d
          · rw [if_pos hz] at e
            cases el : tbl.lookup z' with
            | none => rw [el] at e; cases e
            | some i =>
              rw [el] at e; cases e
              subst hz
              exact ⟨_, z', _, rfl, rfl, h _ (lookup_mem' el), k.same g (.int _)⟩
          · rw [if_neg hz] at e; cases e
        | _ => cases e
      | _ => cases e
    refine ⟨_, sim_bin sw sa sb, fun X c t => ?_⟩
    rw [← c.K, ← c.w]
    exact pe_ix ix_kdict (pa X c t) (pb X c t) hs⟩
/-! max, min of two numbers -/
def maxA : Op2 := iiOp fun i j => some (.int (if j > i then j else i))
def minA : Op2 := iiOp fun i j => some (.int (if j < i then j else i))
theorem cb_max2 : Cb (.builtin "max") (two2 maxA) := cb2 (r := fun _ xs H Q => ∃ i j, xs = [.int i, .int j] ∧ Q (.int (if j > i then j else i)) H) (fun _ _ c cm => call_max2 (c.calm cm)) fun K Z F μ st st' H a b c x y Q g ra rb e k => by
  cases a with
  | int i =>
    cases b with
    | int j => cases ra; cases rb; cases e; exact ⟨i, j, rfl, k.same g (.int _)⟩
    | _ => cases e
  | _ => cases e
theorem cb_min2 : Cb (.builtin "min") (two2 minA) := cb2 (r := fun _ xs H Q => ∃ i j, xs = [.int i, .int j] ∧ Q (.int (if j < i then j else i)) H) (fun _ _ c cm => call_min2 (c.calm cm)) fun K Z F μ st st' H a b c x y Q g ra rb e k => by
  cases a with
  | int i =>
    cases b with
    | int j => cases ra; cases rb; cases e; exact ⟨i, j, rfl, k.same g (.int _)⟩
    | _ => cases e
  | _ => cases e
end SL

set_option Elab.async false
set_option linter.all false
set_option maxRecDepth 100000
set_option maxHeartbeats 4000000
/-! SLs: words for the plain functions: exceptions, slices, sums and equality of lists of numbers. -/
namespace SL
open PySem PySem.Spec L2
open PyProof.Rows hiding St
section
variable {env : AEnv} {st : Store} {xs ys : List A}
@[simp] theorem sRaise_ap {m : AEnv → Store → Res Exc} : sRaise m env st = (m env st).toS env fun x st1 => .exc x env st1 := (rfl)
@[simp] theorem mkWhat_ap {c : Str} {m : AEnv → Store → Res A} : mkWhat c m env st = (m env st).bind fun a st1 => match a with
  | .str s => if s.length < 1000 then .ok ⟨c, ["what"], [.str s]⟩ st1 else .stuck
  | _ => .stuck := (rfl)
theorem sTryNo_ok {tbl : List (Str × Bool)} {body : MS} {ms : Addr → Str → Option Addr → MS} {r : SRes} (h : body env st = r) (hr : ∀ x e s, r ≠ .exc x e s) : sTryNo tbl body ms env st = r := by
  unfold sTryNo; rw [h]; cases r <;> first | rfl | exact absurd rfl (hr _ _ _)
theorem sTryAs_ok {tbl : List (Str × Bool)} {i : Nat} {body : MS} {ms : Addr → Str → Option Addr → MS} {r : SRes} (h : body env st = r) (hr : ∀ x e s, r ≠ .exc x e s) : sTryAs tbl i body ms env st = r := by
  unfold sTryAs; rw [h]; cases r <;> first | rfl | exact absurd rfl (hr _ _ _)
theorem sTryNo_exc {tbl : List (Str × Bool)} {body : MS} {ms : Addr → Str → Option Addr → MS} {x : Exc} {e : AEnv} {s : Store} {r : SRes} (h : body env st = .exc x e s) (ht : tbl.lookup x.c = some true) (hm : ∀ a d, noXS (ms a x.c d e s) = r) : sTryNo tbl body ms env st = r := by
  unfold sTryNo; rw [h]; dsimp only; rw [ht]; dsimp only; rw [if_pos (fun a d => by rw [hm, hm]), hm]
theorem sTryAs_exc {tbl : List (Str × Bool)} {i : Nat} {body : MS} {ms : Addr → Str → Option Addr → MS} {x : Exc} {e : AEnv} {s : Store} {r : SRes} (h : body env st = .exc x e s) (ht : tbl.lookup x.c = some true) (hm : ∀ a d, clr i (ms a x.c d (e.set i (some (.xcp a d x.c x.ns x.vs))) s) = r) : sTryAs tbl i body ms env st = r := by
  unfold sTryAs; rw [h]; dsimp only; rw [ht]; dsimp only; rw [if_pos (fun a d => by rw [hm, hm]), hm]
@[simp] theorem eXf_ap {cs : List Str} {f : Str} {a0 : Addr} {c0 : Str} {d0 : Option Addr} {m : AEnv → Store → Res A} : eXf cs f a0 c0 d0 m env st = (m env st).bind fun v st1 => match v with
  | .xcp a d c ns vs => if a = a0 ∧ c = c0 ∧ d = d0 ∧ c ∈ cs then (match (ns.zip vs).lookup f with
    | some x => .ok x st1
    | none => .stuck) else .stuck
  | _ => .stuck := (rfl)
@[simp] theorem maxA_ii {i j : Int} : maxA (.int i) (.int j) st = some (.int (if j > i then j else i), st) := (rfl)
@[simp] theorem minA_ii {i j : Int} : minA (.int i) (.int j) st = some (.int (if j < i then j else i), st) := (rfl)
@[simp] theorem wixOp_ap {d z : Str} {tbl : List (Str × Int)} : wixOp d tbl (.glo d) (.str z) st = (tbl.lookup z).map fun i => (.int i, st) := by simp [wixOp]
/-! + and slices of lists -/
theorem addOp_l (h : xs.length + ys.length ≤ sizeLine) : addOp false (.lst xs) (.lst ys) st = some (.lst (xs ++ ys), st) := by
  have e : addL false (.lst xs) (.lst ys) st = some (.lst (xs ++ ys), st) := by
    simp only [addL, lstH]
    rw [if_pos h]; rfl
  simp [addOp, addI, addS, iiOp, e]
theorem sl_take {k : Int} (h0 : 0 ≤ k) (h1 : k ≤ xs.length) : slOp false (.lst xs) none (some k) st = some (.lst (xs.take k.toNat), st) := by
  have e : cutA xs none (some k) = xs.take k.toNat := by
    obtain ⟨n, rfl⟩ := Int.eq_ofNat_of_zero_le h0
    unfold cutA
    rw [HT.sIx_none, HT.sIx_nat, List.drop_zero, Nat.sub_zero, Nat.min_eq_left (by omega)]
    simp
  show (lstR (.lst xs) st).map (fun ys => newL false (cutA ys none (some k)) st) = _
  simp [lstR, lstH, e]
theorem sl_drop {k : Int} (h0 : 0 ≤ k) (h1 : k ≤ xs.length) : slOp false (.lst xs) (some k) none st = some (.lst (xs.drop k.toNat), st) := by
  have e : cutA xs (some k) none = xs.drop k.toNat := by
    obtain ⟨n, rfl⟩ := Int.eq_ofNat_of_zero_le h0
    unfold cutA
    rw [HT.sIx_none, HT.sIx_nat, Nat.min_eq_left (by omega)]
    rw [List.take_of_length_le (by rw [List.length_drop]; omega)]
    simp
  show (lstR (.lst xs) st).map (fun ys => newL false (cutA ys (some k) none) st) = _
  simp [lstR, lstH, e]
theorem sl_mid {k j : Int} (h0 : 0 ≤ k) (h1 : k ≤ j) (h2 : j ≤ xs.length) : slOp false (.lst xs) (some k) (some j) st = some (.lst ((xs.drop k.toNat).take (j - k).toNat), st) := by
  have e : cutA xs (some k) (some j) = (xs.drop k.toNat).take (j - k).toNat := by
    obtain ⟨n, rfl⟩ := Int.eq_ofNat_of_zero_le h0
    obtain ⟨m, rfl⟩ := Int.eq_ofNat_of_zero_le (Int.le_trans h0 h1)
    unfold cutA
    rw [HT.sIx_nat, HT.sIx_nat, Nat.min_eq_left (by omega), Nat.min_eq_left (by omega)]
    congr 1
    omega
  show (lstR (.lst xs) st).map (fun ys => newL false (cutA ys (some k) (some j)) st) = _
  simp [lstR, lstH, e]
end
/-! equality of lists of numbers -/
theorem toD_ints {st : Store} (n : Nat) : ∀ l : List Int, optAll (toD st n) (l.map A.int) = some (l.map PyData.int)
  | [] => rfl
  | x :: l => by
    have e : toD st n (.int x) = some (.int x) := by cases n <;> rfl
    rw [List.map_cons, optAll, e, toD_ints n l]; rfl
theorem eqv_ints : ∀ a b : List Int, PyData.eqvAll (a.map PyData.int) (b.map PyData.int) = decide (a = b)
  | [], [] => by simp [PyData.eqvAll]
  | [], _ :: _ => by simp [PyData.eqvAll]
  | _ :: _, [] => by simp [PyData.eqvAll]
  | x :: a, y :: b => by
    simp only [List.map_cons, PyData.eqvAll, eqv_ints a b, PyData.eqv]
    by_cases h : x = y
    · subst h; simp
    · simp [h]
theorem shaped_lI (a : List Int) : SeqAt.shaped (.list (a.map PyData.int)) = true := PySem.W.shaped_ints a
theorem eqOp_lI {st : Store} {a b : List Int} : eqOp (.lst (a.map A.int)) (.lst (b.map A.int)) st = some (.bl (decide (a = b)), st) := by
  have e : eqD false (.lst (a.map A.int)) (.lst (b.map A.int)) st = some (.bl (decide (a = b)), st) := by
    unfold eqD
    simp only [toD, toD_ints, Option.map_some]
    rw [if_pos ⟨shaped_lI a, shaped_lI b⟩, PyData.eqv, eqv_ints]; rfl
  simp [eqOp, eqSc, e]
theorem neOp_lI {st : Store} {a b : List Int} : neOp (.lst (a.map A.int)) (.lst (b.map A.int)) st = some (.bl (!decide (a = b)), st) := by
  have e : eqD true (.lst (a.map A.int)) (.lst (b.map A.int)) st = some (.bl (!decide (a = b)), st) := by
    unfold eqD
    simp only [toD, toD_ints, Option.map_some]
    rw [if_pos ⟨shaped_lI a, shaped_lI b⟩, PyData.eqv, eqv_ints]; rfl
  simp [neOp, eqSc, e]
end SL
namespace SL
open PySem PySem.Spec L2
open PyProof.Rows hiding St
/-- a def that raises -/
theorem fnM_exc {rc : Bool} {np ns : Nat} {body : MS} {as : List A} {st : Store} {l : List C} {x : Exc} {e : AEnv} (hl : as.length = np) (hb : body (as.map some ++ List.replicate (ns - np) none) st = .exc x e (st ++ l)) (hv : belowL st.length x.vs = true) : fnM rc np ns body as st = .exc x st := by
  unfold fnM
  rw [if_pos hl, hb]
  show (if belowL st.length x.vs = true ∧ okS st.length st (st ++ l) then Res.exc x ((st ++ l).take st.length) else .stuck : Res A) = _
  rw [if_pos ⟨hv, okS_app⟩, List.take_left]
theorem fnM_exc0 {rc : Bool} {np ns : Nat} {body : MS} {as : List A} {st : Store} {x : Exc} {e : AEnv} (hl : as.length = np) (hb : body (as.map some ++ List.replicate (ns - np) none) st = .exc x e st) (hv : belowL st.length x.vs = true) : fnM rc np ns body as st = .exc x st :=
  fnM_exc (l := []) hl (by rw [List.append_nil]; exact hb) hv
@[simp] theorem eChain_ap {op op' : Op2} {ma mb mc : AEnv → Store → Res A} {env : AEnv} {st : Store} : eChain op op' ma mb mc env st = (ma env st).bind fun a st1 => (mb env st1).bind fun b st2 => (Res.of (op a b st2)).bind fun v st3 => (asB v st3).bind fun k st4 => if k then (mc env st4).bind fun c st5 => Res.of (op' b c st5) else .ok (.bl false) st4 := (rfl)
end SL

set_option Elab.async false
set_option linter.all false
set_option maxRecDepth 100000
set_option maxHeartbeats 4000000
/-! SLt: own classes: attributes, methods, instances. -/
namespace SL
open PySem PySem.Spec L2
open PyProof.Rows hiding St
section
variable {X : Cx} {CX : CXT} {k : Nat} {f C : Addr} {fd : FuncData} {ps : List Str} {sp : Sp} {E : L2.St → XK} {x m : Str} {p pos apos : Pos} {e o : Expr} {es : List Expr} {ta : TE} {t : TA}
/-! ### the calls, the exceptions let out by the slots -/
def tMethE (C : Addr) (m : Str) (sp : Sp) (E : L2.St → XK) (ta : TE) (t : TA) : TE := fun σ H Q => ta σ H fun x H1 => ∃ a dx fs, x = .ref a ∧ H1 a = some (.ins C dx fs) ∧ fs.lookup m = none ∧ t σ H1 fun vs H2 => sp (x :: vs) H2 Q (E σ)
def tMakeE (C : Addr) (sp : Sp) (E : L2.St → XK) (t : TA) : TE := fun σ H Q => t σ H fun vs H1 => ∀ x dx, H1 x = none → H1 dx = none → dx ≠ x →
  sp (.ref x :: vs) (upd (upd H1 dx (.own x)) x (.ins C dx [])) (fun v H2 => v = .non ∧ Q (.ref x) H2) (E σ)
theorem pe_methE {pl : Sem Bool} (he : PE X o ta) (c : Cls X.K C) (hm : Meth X.K C m f) (F : FnOk X.prog X.w X.K X.mg X.base CX k f fd ps sp) (hr : Room k X.A) (hb : Binds X.K fd ps []) (hx : ∀ σ, PassesAt CX X σ (E σ)) (ha : PA X (e :: es) t)
    (hst : starEach (e :: es) X.env = (false, eval e X.env) :: starEach es X.env) (hpl : (backTo pos (starEach es X.env)).any (·.1) = false)
    (ht : eval (.Call (.Attribute o m apos) (e :: es) [] pos) X.env = (do
      let ov ← eval o X.env
      standAt apos.atName
      let (f, first) ← holding [ov] (getMethod ov m pl)
      callWith pos f first (backTo pos (starEach (e :: es) X.env)) (backToKw pos (keywordEach [] X.env)))) :
    PE X (.Call (.Attribute o m apos) (e :: es) [] pos) (tMethE C m sp E ta t) := by
  refine ⟨fun pins s σ H Q I h => ?_⟩
  refine PySem.W.methodCall_KW (pl := pl) (thn (he.run pins s σ H _ I h) fun u s1 ⟨x, H1, I1, rx, a, dx, fs, ex, ea, l, q⟩ => ?_) ht
  subst ex
  obtain rfl : u = Value.ref a := rx
  refine getmeth_ok I1 ea c hm l ?_
  refine PySem.W.callWith_K (first := [.ref a]) (h₀ := X.base) I.ok.mod.kin hm.kp (thn (ha.run pos pins s1 σ H1 _ I1 q) fun us s2 ⟨vs, H2, I2, r, q2⟩ => ⟨I2.kIn, ?_⟩) hst hpl
  exact run_fnS (us := .ref a :: us) (vs := .ref a :: vs) F hr hb (hx σ) I2 (.cons rfl r) q2
theorem pe_methE0 {pl : Sem Bool} (he : PE X o ta) (c : Cls X.K C) (hm : Meth X.K C m f) (F : FnOk X.prog X.w X.K X.mg X.base CX k f fd ps sp) (hr : Room k X.A) (hb : Binds X.K fd ps []) (hx : ∀ σ, PassesAt CX X σ (E σ))
    (ht : eval (.Call (.Attribute o m apos) [] [] pos) X.env = (do
      let ov ← eval o X.env
      standAt apos.atName
      let (f, first) ← holding [ov] (getMethod ov m pl)
      callWith pos f first (backTo pos (starEach [] X.env)) (backToKw pos (keywordEach [] X.env)))) :
    PE X (.Call (.Attribute o m apos) [] [] pos) (tMethE C m sp E ta tNil) := by
  refine ⟨fun pins s σ H Q I h => ?_⟩
  refine PySem.W.methodCall_KW (pl := pl) (thn (he.run pins s σ H _ I h) fun u s1 ⟨x, H1, I1, rx, a, dx, fs, ex, ea, l, q⟩ => ?_) ht
  subst ex
  obtain rfl : u = Value.ref a := rx
  refine getmeth_ok I1 ea c hm l ?_
  exact PySem.W.callWith_K0 (first := [.ref a]) I1.kIn hm.kp (run_fnS (us := [.ref a]) (vs := [.ref a]) F hr hb (hx σ) I1 (.cons rfl .nil) q)
theorem pe_makeE (M : Mk X.K C f) (F : FnOk X.prog X.w X.K X.mg X.base CX k f fd ps sp) (hr : Room (k + 1) X.A) (hg : Gl X x) (hm : X.mg x = some (.ref C)) (hb : Binds X.K fd ps []) (hx : ∀ σ, PassesAt CX X σ (E σ))
    (ha : PA X (e :: es) t) (hdb : (x == ("__debug__" : Str)) = false) (he : starEach (e :: es) X.env = (false, eval e X.env) :: starEach es X.env) (hpl : (backTo pos (starEach es X.env)).any (·.1) = false) :
    PE X (.Call (.Name x p) (e :: es) [] pos) (tMakeE C sp E t) := by
  refine ⟨fun pins s σ H Q I h => ?_⟩
  refine wpAny_Call_Name_kw (ld_glob I hg hm ?_ hdb)
  refine PySem.W.callWith_K (h₀ := X.base) I.ok.mod.kin M.kp (thn (ha.run pos pins s σ H _ I h) fun us s1 ⟨vs, H1, I1, r, q⟩ => ⟨I1.kIn, ?_⟩) he hpl
  have hq := q (s1.heap.objs.size + 1) s1.heap.objs.size (I1.hok.fresh (Nat.le_succ _)) (I1.hok.fresh (Nat.le_refl _)) (Nat.ne_of_lt (Nat.lt_succ_self _))
  have I2 := Inv.made (C := C) I1
  have r2 : Vals (V.ref (s1.heap.objs.size + 1) :: vs) (Value.ref (s1.heap.objs.size + 1) :: us) := .cons rfl r
  have hl : (Value.ref (s1.heap.objs.size + 1) :: us ++ []).length = ps.length := by
    rw [List.append_nil]
    have e := r2.length
    rw [F.len _ _ _ _ hq] at e
    exact e.symm
  have b := hb _ (Value.ref (s1.heap.objs.size + 1) :: us) I2.kIn hl
  rw [List.append_nil] at b
  refine wpAny_call (make_map (f := f) I1.kIn M.makes M.init (beq_iff_eq.mp M.fn) (codeAny_mono (F.run _ X.stack _ _ ⟨Value.ref (s1.heap.objs.size + 1) :: us, []⟩ (Value.ref (s1.heap.objs.size + 1) :: us) _ _ (E σ) (hr.make C us [])
    (I2.env0.make C us []) b r2 hq) fun r s' hq' => ?_))
  cases r with
  | error e => exact hx σ pins _ _ e s' I2 hq'
  | ok fl =>
    cases fl with
    | ret u =>
      obtain ⟨v, H', I3, rv, ev, q3⟩ := I2.after hq'
      subst ev
      exact ⟨rv, ⟨V.ref (s1.heap.objs.size + 1), H', I3, rfl, q3⟩⟩
    | next => exact False.elim hq'
    | brk => exact False.elim hq'
    | cont => exact False.elim hq'
end
/-! ### attributes -/
def insA (a : A) (st : Store) : Option (Str × List Str × List A) := match a with
  | .obj c ns xs => some (c, ns, xs)
  | .cell n => match st[n]? with
    | some (.obj c ns xs) => some (c, ns, xs)
    | _ => none
  | _ => none
theorem insA_ok {K : PySem.W.Frag} {Z F : Hp} {μ : List Addr} {st : Store} {H : Hp} {a : A} {c : Str} {ns : List Str} {xs : List A} {v : V} (g : Good K Z F μ st H) (r : Rep K F μ a v) (h : insA a st = some (c, ns, xs)) :
    ∃ (p dx : Addr) (fs : List (Str × V)), v = .ref p ∧ H p = some (.ins (He.ga K c) dx fs) ∧ fs.map (·.1) = ns ∧ Reps K F μ xs (fs.map (·.2)) := by
  cases a with
  | obj c ns xs =>
    cases h
    cases r with
    | obj h1 h2 h3 r => exact ⟨_, _, _, rfl, g.sub _ _ h1, h3, r⟩
  | cell n =>
    cases r with
    | cell hc =>
      cases e : st[n]? with
      | none => simp only [insA, e] at h; cases h
      | some cc =>
        simp only [insA, e] at h
        cases cc with
        | obj c ns xs =>
          cases h
          obtain ⟨a2, m2, _, dx, fs, h4, h7, h6, h5⟩ := g.cell n _ e (by intro z; cases z)
          rw [hc] at m2; cases m2
          exact ⟨_, _, _, rfl, h4, h6, h5⟩
        | _ => cases h
  | _ => cases h
def fldOp (cs : List Str) (f : Str) : Op1 := fun a st => match insA a st with
  | some (c, ns, xs) => if c ∈ cs then ((ns.zip xs).lookup f).map fun v => (v, st) else none
  | none => none
section
variable {Γ : G} {fo : Str → Bool} {e o a b : Expr} {es : List Expr} {m mo ma : AEnv → Store → Res A} {ms : AEnv → Store → Res (List A)} {pos apos p : Pos}
/-- e.f -/
theorem s_fld {f : Str} (cs : List Str) (h : SE Γ e m) (hcs : ∀ c ∈ cs, Cls Γ.K (He.ga Γ.K c) ∧ NoAttr Γ.K (He.ga Γ.K c) f)
    (hb : ∀ env, attributeBase e f env (eval e env) = eval e env := by intro _; rfl) : SE Γ (.Attribute e f pos) (eUn (fldOp cs f) m) :=
  ⟨fun W => by
    obtain ⟨t, s1, p1⟩ := h.run W
    refine ⟨tFld Γ.K t f, ?_, fun X c tk => by rw [← c.K]; exact pe_fld (p1 X c tk) (hb _)⟩
    refine Sim.bind (k := fun x σ H Q => ∃ a C dx fs v, x = .ref a ∧ H a = some (.ins C dx fs) ∧ Cls Γ.K C ∧ NoAttr Γ.K C f ∧ fs.lookup f = some v ∧ Q v H) (m' := fun a env st1 => Res.of (fldOp cs f a st1)) s1 fun Z F μ st env σ H Q a x g re ra hp => ?_
    obtain ⟨c, st3, e, k⟩ := Res.post_of hp
    unfold fldOp at e
    cases ei : insA a st with
    | none => rw [ei] at e; cases e
    | some q =>
      obtain ⟨cn, ns, xs⟩ := q
      rw [ei] at e
      dsimp only at e
      split at e
      · rename_i hc
        obtain ⟨p, dx, fs, rfl, h1, h2, h3⟩ := insA_ok g ra ei
        cases el : (ns.zip xs).lookup f with
        | none => rw [el] at e; cases e
        | some w =>
          rw [el] at e; cases e
          obtain ⟨v, hv, rv⟩ := lookup_reps h2 h3 el
          exact ⟨p, _, dx, fs, v, rfl, h1, (hcs _ hc).1, (hcs _ hc).2, hv, k.now g rv⟩
      · cases e⟩
/-! ### methods -/
/-- o.m(..), o an instance of the class c -/
def eMeth (c : Str) (mn : Str) (M : List A → Store → Res A) (mo : AEnv → Store → Res A) (ms : AEnv → Store → Res (List A)) : AEnv → Store → Res A := fun env st => (mo env st).bind fun a st1 => match insA a st1 with
  | some (c', ns, xs) => if c' = c ∧ (ns.zip xs).lookup mn = none ∧ ns.length = xs.length then (ms env st1).bind fun as st2 => M (a :: as) st2 else .stuck
  | none => .stuck
theorem lookup_none {K : PySem.W.Frag} {F : Hp} {μ : List Addr} {f : Str} : ∀ {fs : List (Str × V)} {ns : List Str} {xs : List A}, fs.map (·.1) = ns → Reps K F μ xs (fs.map (·.2)) → (ns.zip xs).lookup f = none → fs.lookup f = none
  | [], ns, xs, h1, h2, h3 => rfl
  | (g, w) :: fs, ns, xs, h1, h2, h3 => by
    subst h1
    cases h2 with
    | @cons y _ ys _ r t =>
      rw [List.map_cons, List.zip_cons_cons, List.lookup_cons] at h3
      rw [List.lookup_cons]
      cases e : (f == g) with
      | true => rw [e] at h3; cases h3
      | false => rw [e] at h3; exact lookup_none rfl t h3
theorem sim_meth {K : PySem.W.Frag} {W : WX} {c mn : Str} {n : Nat} {M : List A → Store → Res A} {ta : TE} {t : TA} (ar : ∀ as st, as.length ≠ n → M as st = .stuck) (ho : Sim K Rep W ta mo) (ha : Sim K Reps W t ms) : Sim K Rep W (tMethE (He.ga K c) mn (spM K n M) (WE W) ta t) (eMeth c mn M mo ms) := by
  intro Z F μ st env σ H Q g re hp
  unfold eMeth at hp
  rw [Res.post_bind] at hp
  refine ho Z F μ st env σ H _ g re (Res.post_mono hp (fun a st1 q => ?_) fun _ _ q => q)
  intro F1 μ1 H1 x e1 g1 ra
  cases ei : insA a st1 with
  | none => rw [ei] at q; exact q.elim
  | some z =>
    obtain ⟨c', ns, xs⟩ := z
    rw [ei] at q
    dsimp only at q
    split at q
    · rename_i hc
      obtain ⟨rfl, hl, _⟩ := hc
      obtain ⟨p, dx, fs, rfl, h1, h2, h3⟩ := insA_ok g1 ra ei
      refine ⟨p, dx, fs, rfl, h1, lookup_none h2 h3 hl, ?_⟩
      rw [Res.post_bind] at q
      refine ha Z F1 μ1 st1 env σ H1 _ g1 (re.mono e1) (Res.post_mono q (fun as st2 q => ?_) fun _ _ q => q.ext e1)
      intro F2 μ2 H2 vs e2 g2 rs
      have rr : Reps K F2 μ2 (a :: as) (.ref p :: vs) := .cons (ra.mono e2) rs
      refine ⟨?_, Z, F2, μ2, st2, a :: as, g2, rr, post_ext (e1.trans e2) q⟩
      rw [← rr.length]
      by_cases h : (a :: as).length = n
      · exact h
      · rw [ar _ _ h] at q; exact q.elim
    · exact q.elim
theorem s_meth {j : Nat} {c mn : Str} {fa : Addr} {ps : List Str} {M : List A → Store → Res A} {pl : Env → Sem Bool} (F : FnS Γ.P Γ.w Γ.K Γ.mg Γ.base j fa ps M) (hj : j ≤ Γ.k) (hc : Cls Γ.K (He.ga Γ.K c)) (hm : Meth Γ.K (He.ga Γ.K c) mn fa)
    (ho : SE Γ o mo) (ha : SA Γ (e :: es) ms) (he : ∀ env, starEach (e :: es) env = (false, eval e env) :: starEach es env := by intro _; rfl)
    (hpl : ∀ env, (backTo pos (starEach es env)).any (·.1) = false := by intro _; rfl)
    (ht : ∀ env, eval (.Call (.Attribute o mn apos) (e :: es) [] pos) env = (do
      let ov ← eval o env
      standAt apos.atName
      let (f, first) ← holding [ov] (getMethod ov mn (pl env))
      callWith pos f first (backTo pos (starEach (e :: es) env)) (backToKw pos (keywordEach [] env))) := by intro _; rfl)
    (cm : Γ.calm = true := by rfl) : SE Γ (.Call (.Attribute o mn apos) (e :: es) [] pos) (eMeth c mn M mo ms) :=
  ⟨fun W => by
    obtain ⟨fd, h1, h2⟩ := F.ex
    obtain ⟨to, so, po⟩ := ho.run W
    obtain ⟨ta, sa, pa⟩ := ha.run W
    refine ⟨_, sim_meth (c := c) F.ar so sa, fun X cx t => ?_⟩
    have h1' : FnOk X.prog X.w X.K X.mg X.base (L2.CX X.prog X.w) j fa fd ps (spM Γ.K ps.length M) := by
      rw [cx.prog, cx.w, cx.K, cx.mg, cx.base]; exact h1
    exact pe_methE (po X cx t) (by rw [cx.K]; exact hc) (by rw [cx.K]; exact hm) h1' ((cx.room cm).mono hj) (by rw [cx.K]; exact h2) (fun σ => passAt t σ) (pa X cx t) (he _) (hpl _) (ht _)⟩
theorem sim_aNil {K : PySem.W.Frag} {W : WX} : Sim K Reps W tNil aNil := fun Z F μ st env σ H Q g re hp => (show Kont K Z Reps F μ Q [] st from hp).now g .nil
theorem s_meth0 {j : Nat} {c mn : Str} {fa : Addr} {ps : List Str} {M : List A → Store → Res A} {pl : Env → Sem Bool} (F : FnS Γ.P Γ.w Γ.K Γ.mg Γ.base j fa ps M) (hj : j ≤ Γ.k) (hc : Cls Γ.K (He.ga Γ.K c)) (hm : Meth Γ.K (He.ga Γ.K c) mn fa)
    (ho : SE Γ o mo)
    (ht : ∀ env, eval (.Call (.Attribute o mn apos) [] [] pos) env = (do
      let ov ← eval o env
      standAt apos.atName
      let (f, first) ← holding [ov] (getMethod ov mn (pl env))
      callWith pos f first (backTo pos (starEach [] env)) (backToKw pos (keywordEach [] env))) := by intro _; rfl)
    (cm : Γ.calm = true := by rfl) : SE Γ (.Call (.Attribute o mn apos) [] [] pos) (eMeth c mn M mo aNil) :=
  ⟨fun W => by
    obtain ⟨fd, h1, h2⟩ := F.ex
    obtain ⟨to, so, po⟩ := ho.run W
    refine ⟨_, sim_meth (c := c) F.ar so sim_aNil, fun X cx t => ?_⟩
    have h1' : FnOk X.prog X.w X.K X.mg X.base (L2.CX X.prog X.w) j fa fd ps (spM Γ.K ps.length M) := by
      rw [cx.prog, cx.w, cx.K, cx.mg, cx.base]; exact h1
    exact pe_methE0 (po X cx t) (by rw [cx.K]; exact hc) (by rw [cx.K]; exact hm) h1' ((cx.room cm).mono hj) (by rw [cx.K]; exact h2) (fun σ => passAt t σ) (ht _)⟩
/-! ### C(..): an instance that stays as its __init__ left it -/
noncomputable def mkIns (c : Str) (M : List A → Store → Res A) : List A → Store → Res A := fun as st => match M (.cell st.length :: as) (st ++ [.obj c [] []]) with
  | .ok .non st2 => (match st2[st.length]? with
    | some (.obj c' ns xs) => if c' = c ∧ belowL st.length xs = true ∧ okS st.length st st2 then .ok (.obj c ns xs) (st2.take st.length) else .stuck
    | _ => .stuck)
  | .exc x st2 => if belowL st.length x.vs = true ∧ okS st.length st st2 then .exc x (st2.take st.length) else .stuck
  | _ => .stuck
noncomputable def eMake (c : Str) (M : List A → Store → Res A) (ms : AEnv → Store → Res (List A)) : AEnv → Store → Res A := fun env st => (ms env st).bind fun as st1 => mkIns c M as st1
theorem sim_make {K : PySem.W.Frag} {W : WX} {c : Str} {n : Nat} {M : List A → Store → Res A} {t : TA} (ar : ∀ as st, as.length ≠ n → M as st = .stuck) (ha : Sim K Reps W t ms) : Sim K Rep W (tMakeE (He.ga K c) (spM K n M) (WE W) t) (eMake c M ms) := by
  intro Z F μ st env σ H Q g re hp
  unfold eMake at hp
  rw [Res.post_bind] at hp
  refine ha Z F μ st env σ H _ g re (Res.post_mono hp (fun as st1 q => ?_) fun _ _ q => q)
  intro F1 μ1 H1 vs e1 g1 rs x dx hx hdx hne
  obtain ⟨g2, e2⟩ := g1.known (p := dx) (o := .own x) hdx
  have hx2 : upd H1 dx (.own x) x = none := by rw [upd_ne (fun z => hne z.symm)]; exact hx
  have hcr : CRep K (upd F1 dx (.own x)) μ1 (upd (upd H1 dx (.own x)) x (.ins (He.ga K c) dx [])) (.obj c [] []) x := ⟨dx, [], upd_same, by rw [upd_ne hne, upd_same], rfl, .nil⟩
  obtain ⟨g3, e3⟩ := g2.push (p := x) (o := .ins (He.ga K c) dx []) (c := .obj c [] []) hx2 hcr
  have hlen : μ1.length = st1.length := g1.len
  have hxn : (μ1 ++ [x])[st1.length]? = some x := by rw [← hlen, List.getElem?_append_right (Nat.le_refl _), Nat.sub_self]; rfl
  have rr : Reps K (upd F1 dx (.own x)) (μ1 ++ [x]) (.cell st1.length :: as) (.ref x :: vs) := .cons (.cell hxn) (rs.mono (e2.trans e3))
  have e13 : Ext F (upd F1 dx (.own x)) μ (μ1 ++ [x]) := e1.trans (e2.trans e3)
  have e03 : Ext F1 (upd F1 dx (.own x)) μ1 (μ1 ++ [x]) := e2.trans e3
  unfold mkIns at q
  refine ⟨?_, Z, _, _, _, _, g3, rr, ?_⟩
  · rw [← rr.length]
    by_cases h : (A.cell st1.length :: as).length = n
    · exact h
    · rw [ar _ _ h] at q; exact q.elim
  · generalize M (.cell st1.length :: as) (st1 ++ [.obj c [] []]) = r at q ⊢
    cases r with
    | stuck => exact q.elim
    | exc y st2 =>
      intro F' μ' H' d e' g' xr
      dsimp only at q
      split at q
      · rename_i hb
        have eA : Ext F1 F' μ1 μ' := e03.trans e'
        have hm := pre_take eA
        have gt := g'.trunc (okS_bel g1 hb.2)
        rw [← g1.len, hm] at gt
        refine (show KX K Z F μ σ W y (st2.take st1.length) from q) F' μ1 H' d (e1.trans ⟨eA.f, fun _ _ z => z⟩) (by rw [← g1.len]; exact gt) ?_
        rcases xr with xr | ⟨dd, fs, h1, h2, h3, h4⟩
        · exact .inl xr
        · refine .inr ⟨dd, fs, h1, h2, h3, ?_⟩
          have := h4.cut hb.1
          rw [← g1.len, hm] at this
          exact this
      · exact q.elim
    | ok b st2 =>
      intro F' μ' H' bv e' g' rb
      cases b with
      | non =>
        cases rb
        refine ⟨rfl, ?_⟩
        dsimp only at q
        cases ec : st2[st1.length]? with
        | none => rw [ec] at q; exact q.elim
        | some cc =>
          rw [ec] at q
          cases cc with
          | obj c' ns xs =>
            dsimp only at q
            split at q
            · rename_i hb
              obtain ⟨rfl, hbx, hok⟩ := hb
              have hx' : μ'[st1.length]? = some x := e'.m _ _ hxn
              have eA : Ext F1 F' μ1 μ' := e03.trans e'
              have hm := pre_take eA
              obtain ⟨a2, m2, ⟨hF, hZ⟩, dx', fs, h4, h7, h6, h5⟩ := g'.cell st1.length _ ec (by intro z; cases z)
              rw [hx'] at m2; cases m2
              obtain ⟨gk, xk⟩ := g'.know (o := .ins (He.ga K c') dx' fs) ec (by intro z; cases z) hx' h4
              have hzd : Z dx' = none := by
                cases ez : Z dx' with
                | none => rfl
                | some u =>
                  have c1 := g'.zc _ _ ez
                  have c2 := g'.zub _ _ ez
                  rw [h7] at c2; cases c2; cases c1
              have hfd : upd F' x (.ins (He.ga K c') dx' fs) dx' = none ∨ upd F' x (.ins (He.ga K c') dx' fs) dx' = some (.own x) := by
                cases ef : upd F' x (.ins (He.ga K c') dx' fs) dx' with
                | none => exact .inl rfl
                | some u => have := gk.sub _ _ ef; rw [h7] at this; exact .inr this.symm
              obtain ⟨gl, xl⟩ := gk.knowO (q := dx') (u := .own x) h7 rfl hzd hfd
              have hbel : ∀ i d, i < st1.length → (st2.set st1.length .dead)[i]? = some d → d ≠ .dead → d.bel st1.length = true := fun i d hi hd hn => by
                rw [List.getElem?_set_ne (by omega)] at hd
                exact okS_bel g1 hok i d hi hd hn
              have gt := gl.trunc hbel
              have hst : (st2.set st1.length .dead).take st1.length = st2.take st1.length := by rw [List.take_set_of_le (Nat.le_refl _)]
              rw [hst, ← g1.len, hm] at gt
              have hr := (h5.mono (xk.trans xl)).cut hbx
              rw [← g1.len, hm] at hr
              have eF : Ext F (upd (upd F' x (.ins (He.ga K c') dx' fs)) dx' (.own x)) μ μ1 := e1.trans ⟨fun a o h => xl.f _ _ (xk.f _ _ (eA.f a o h)), fun _ _ z => z⟩
              exact (show Kont K Z Rep F μ Q (.obj c' ns xs) (st2.take st1.length) from q) _ μ1 H' _ eF (by rw [← g1.len]; exact gt) (.obj (xl.f _ _ upd_same) upd_same h6 hr)
            · exact q.elim
          | _ => exact q.elim
      | _ => exact q.elim
theorem s_make {j : Nat} {x : Str} {fa : Addr} {ps : List Str} {M : List A → Store → Res A} (F : FnS Γ.P Γ.w Γ.K Γ.mg Γ.base j fa ps M) (hj : j + 1 ≤ Γ.k) (mk : Mk Γ.K (He.ga Γ.K x) fa) (hg : Γ.sc.names.lookup x = some .globalImplicit) (hm : Γ.mg x = some (.ref (He.ga Γ.K x)))
    (ha : SA Γ (e :: es) ms) (hdb : (x == ("__debug__" : Str)) = false := by decide) (he : ∀ env, starEach (e :: es) env = (false, eval e env) :: starEach es env := by intro _; rfl)
    (hpl : ∀ env, (backTo pos (starEach es env)).any (·.1) = false := by intro _; rfl) (cm : Γ.calm = true := by rfl) : SE Γ (.Call (.Name x p) (e :: es) [] pos) (eMake x M ms) :=
  ⟨fun W => by
    obtain ⟨fd, h1, h2⟩ := F.ex
    obtain ⟨ta, sa, pa⟩ := ha.run W
    refine ⟨_, sim_make (c := x) F.ar sa, fun X c t => ?_⟩
    have h1' : FnOk X.prog X.w X.K X.mg X.base (L2.CX X.prog X.w) j fa fd ps (spM Γ.K ps.length M) := by
      rw [c.prog, c.w, c.K, c.mg, c.base]; exact h1
    exact pe_makeE (C := He.ga Γ.K x) (by rw [c.K]; exact mk) h1' ((c.room cm).mono hj) (c.gl hg) (by rw [c.mg]; exact hm) (by rw [c.K]; exact h2) (fun σ => passAt t σ) (pa X c t) hdb (he _) (hpl _)⟩
/-! ### o.f = e, of an instance that is the def's own or the caller's cell -/
def putN (f : Str) (v : A) : List Str → List A → List Str × List A
  | [], _ => ([f], [v])
  | g :: ns, x :: xs => if g = f then (g :: ns, v :: xs) else (g :: (putN f v ns xs).1, x :: (putN f v ns xs).2)
  | g :: ns, [] => (g :: ns, [])
theorem putN_ok {K : PySem.W.Frag} {F : Hp} {μ : List Addr} {f : Str} {v : A} {w : V} (rv : Rep K F μ v w) : ∀ {fs : List (Str × V)} {ns : List Str} {xs : List A}, fs.map (·.1) = ns → Reps K F μ xs (fs.map (·.2)) → (putF f w fs).map (·.1) = (putN f v ns xs).1 ∧ Reps K F μ (putN f v ns xs).2 ((putF f w fs).map (·.2))
  | [], _, xs, h1, h2 => by
    subst h1; cases h2
    exact ⟨rfl, .cons rv .nil⟩
  | (g, z) :: fs, _, _, h1, h2 => by
    subst h1
    cases h2 with
    | @cons y _ ys _ r t =>
      rw [List.map_cons]
      by_cases e : g = f
      · simp only [putN, putF, if_pos e]
        exact ⟨rfl, .cons rv t⟩
      · simp only [putN, putF, if_neg e]
        obtain ⟨h3, h4⟩ := putN_ok rv (fs := fs) rfl t
        exact ⟨by rw [List.map_cons, h3], .cons r h4⟩
def fldSet (cs : List Str) (f : Str) (o v : A) (st : Store) : Option Store := match o with
  | .cell n => (match st[n]? with
    | some (.obj c ns xs) => if c ∈ cs ∧ xs.length < 1000 then some (st.set n (.obj c (putN f v ns xs).1 (putN f v ns xs).2)) else none
    | _ => none)
  | _ => none
def sFldM (cs : List Str) (f : Str) (m mo : AEnv → Store → Res A) : MS := fun env st => (m env st).toS env fun v st1 => (mo env st1).toS env fun o st2 => match fldSet cs f o v st2 with
  | some st3 => .nx env st3
  | none => .stuck
theorem st_fldA {f : Str} {pos' : Pos} (cs : List Str) (h : SE Γ e m) (ho : SE Γ o mo) (hcs : ∀ c ∈ cs, Cls Γ.K (He.ga Γ.K c) ∧ NoAttr Γ.K (He.ga Γ.K c) f)
    (hs : ∀ env, swapsWith e (some (.Attribute o f pos')) pos.line env = pure false := by intro _; rfl) : SS Γ fo (.Assign [.Attribute o f pos'] e pos) (sFldM cs f m mo) :=
  ⟨fun W => by
    obtain ⟨t, s1, p1⟩ := h.run W
    obtain ⟨t2, s2, p2⟩ := ho.run W
    refine ⟨sFld Γ.K t2 t f, ?_, fun X c hf k => by rw [← c.K]; exact ps_fld (p2 X c k) (p1 X c k) (hs _)⟩
    intro Z F μ st env σ H D g re hp
    unfold sFldM at hp
    rw [Res.post_toS] at hp
    refine s1 Z F μ st env σ H _ g re (Res.post_mono hp (fun v st1 q => ?_) fun x st1 q F1 μ1 H1 d e1 g1 x1 => q F1 μ1 H1 σ d e1 g1 (re.mono e1) x1)
    intro F1 μ1 H1 vv e1 g1 rv
    rw [Res.post_toS] at q
    refine s2 Z F1 μ1 st1 env σ H1 _ g1 (re.mono e1) (Res.post_mono q (fun o st2 q => ?_) fun x st2 q F2 μ2 H2 d e2 g2 x1 => q F2 μ2 H2 σ d (e1.trans e2) g2 (re.mono (e1.trans e2)) x1)
    intro F2 μ2 H2 ov e2 g2 ro
    unfold fldSet at q
    cases o with
    | cell n =>
      cases ro with
      | cell hn =>
        rename_i ad
        dsimp only at q
        cases ec : st2[n]? with
        | none => rw [ec] at q; exact q.elim
        | some cc =>
          rw [ec] at q
          cases cc with
          | obj c ns xs =>
            dsimp only at q
            by_cases hc : c ∈ cs ∧ xs.length < 1000
            · rw [if_pos hc] at q
              obtain ⟨a2, m2, _, dx, fs, h4, h7, h6, h5⟩ := g2.cell n _ ec (by intro z; cases z)
              rw [hn] at m2; cases m2
              obtain ⟨k1, k2⟩ := putN_ok (f := f) (rv.mono e2) h6 h5
              have hl : fs.length < 1000 := by have := h5.length; rw [List.length_map] at this; omega
              refine ⟨ad, He.ga Γ.K c, dx, fs, rfl, h4, (hcs c hc.1).1, (hcs c hc.1).2, hl, ?_⟩
              have hda : dx ≠ ad := fun z => by subst z; rw [h4] at h7; cases h7
              have gw := g2.write (c := .obj c (putN f v ns xs).1 (putN f v ns xs).2) (o := .ins (He.ga Γ.K c) dx (putF f vv fs)) ec (by intro z; cases z) hn ⟨dx, putF f vv fs, upd_same, by rw [upd_ne hda]; exact h7, k1, k2⟩
              exact KN.now ((show KN Γ.K Z F μ D.nx env _ from q).ext (e1.trans e2)) gw (re.mono (e1.trans e2))
            · rw [if_neg hc] at q; exact q.elim
          | _ => exact q.elim
    | _ => exact q.elim⟩
end
end SL

set_option Elab.async false
set_option linter.all false
set_option maxRecDepth 100000
set_option maxHeartbeats 4000000
/-! SLu: try with several clauses, each with a name or without; xs[::-1]; len within a suite. -/
namespace SL
open PySem PySem.Spec L2
open PyProof.Rows hiding St
/-! ### several clauses -/
abbrev Cls3 := Value × Option Nat × (Addr → Value → Option Addr → TS)
/-- the ends behind a suite: the name goes -/
def unE : Option Nat → Ends → Ends
  | none, D => D
  | some i, D => { nx := fun σ H => D.nx (σ.set i none) H, rt := D.rt, bk := fun σ H => D.bk (σ.set i none) H, ct := fun σ H => D.ct (σ.set i none) H }
def putE : Option Nat → Addr → L2.St → L2.St
  | none, _, σ => σ
  | some i, a, σ => σ.set i (some (.ref a))
def wCl (K : PySem.W.Frag) (Wo : WX) (D : Ends) : List Cls3 → WX
  | [] => Wo
  | (c, oi, ts) :: r => fun cls d σ H => ∃ b, PySem.W.exmOne K cls c = some b ∧ (b = true → ∀ a, H a = none → ts a cls d (unE oi D) (putE oi a σ) H) ∧ (b = false → wCl K Wo D r cls d σ H)
inductive HdN (X : Cx) : List ExceptHandler → List Cls3 → Prop
  | nil : HdN X [] []
  | as {x n : Str} {c : Value} {i : Nat} {ts : Addr → Value → Option Addr → TS} {b₀ : Stmt} {su : List Stmt} {np q : Pos} {hds : List ExceptHandler} {l : List Cls3} (hi : X.N[i]? = some n) (hln : X.env.kindOf n = some .local) (hc : Names X x c)
      (hsu : ∀ (a : Addr) (oe : Obj) (cls : Value) (d : Option Addr) (pn : List (Addr × Obj)), Zc cls d oe → (∃ vs, oe.data = .fields vs) → PSs (X.suite a ((a, oe) :: pn)) (b₀ :: su) (ts a cls d)) (r : HdN X hds l) :
      HdN X (.ExceptHandler (some (.Name x np)) (some n) (b₀ :: su) q :: hds) ((c, some i, ts) :: l)
  | no {x : Str} {c : Value} {ts : Addr → Value → Option Addr → TS} {b₀ : Stmt} {su : List Stmt} {np q : Pos} {hds : List ExceptHandler} {l : List Cls3} (hc : Names X x c)
      (hsu : ∀ (a : Addr) (oe : Obj) (cls : Value) (d : Option Addr) (pn : List (Addr × Obj)), Zc cls d oe → (∃ vs, oe.data = .fields vs) → PSs (X.suite a ((a, oe) :: pn)) (b₀ :: su) (ts a cls d)) (r : HdN X hds l) :
      HdN X (.ExceptHandler (some (.Name x np)) none (b₀ :: su) q :: hds) ((c, none, ts) :: l)
theorem ps_tryN {X : Cx} {body : List Stmt} {h₀ : ExceptHandler} {hds : List ExceptHandler} {l : List Cls3} {pos : Pos} {tb : WX → TS} {Wo : WX} (hs : X.stack = X.env :: X.outer) (hf : X.env.frame = some X.env.locals) (hN : X.N.Nodup) (tk : Takes X Wo)
    (hb : ∀ (W : WX) (pn : List (Addr × Obj)) (xe : Value → Shared → Prop), Takes (X.tr pn xe) W → PassesOwn (model X.prog X.w) X.A X.env xe → PSs (X.tr pn xe) body (tb W))
    (hh : HdN X (h₀ :: hds) l) : PS X (.Try body (h₀ :: hds) [] [] pos) (fun D σ H => tb (wCl X.K Wo D l) D σ H) := by
  refine ⟨fun pins s σ H D I hw => ?_⟩
  have ok := I.ok
  have fr : X.A.frames = some (X.env :: X.outer) := ok.frames.trans (congrArg some hs)
  refine wpAny_Try_except (wpAny_mono ((hb _ (X.pn ++ pins) (fun e s₁ => wpAny (model X.prog X.w) X.A (noteFrame e X.env) (fun _ s₂ => wpAny (model X.prog X.w) X.A (setFlight e none) (fun _ s₃ =>
    wpAny (model X.prog X.w) X.A (handleBy e X.env (h₀ :: hds)) (SP X pins D) X.xe s₃) X.xe s₂) X.xe s₁) (fun u s' z => ?_) PassesOwn.looking).run [] s σ H D (I.toTry _) hw) (fun f s1 z => ?_) (fun _ _ z => z))
  · obtain ⟨a, B, sI, pins', σ', H', cls, d, rfl, J0, nb, up, sky, na, os, ag, w⟩ := z
    have J := J0.ofTry ok
    rw [hs] at sky
    show wpAny (model X.prog X.w) X.A (noteFrame (.ref a) X.env) _ _ _
    refine Sky.land Zc.steady fr hf sky fun h3 fl3 up3 => ?_
    have J3 : Inv X pins σ' H' { s' with heap := h3 } := J.landed nb fl3.1 (up.trans up3) os ag
    obtain ⟨o3, vs3, e3, z3, d3⟩ := fl3.there
    have nfr : a ∉ frs (X.env :: X.outer) := fun hm => by
      obtain ⟨_, o', e', hnf⟩ := fl3.2.2.1.mem hm
      rw [e3] at e'; cases e'
      exact hnf _ d3
    have nL : a ≠ X.env.locals := fun z => nfr (List.mem_filterMap.mpr ⟨X.env, List.mem_cons_self, by rw [hf, z]⟩)
    have nF : a ∉ X.fs := fun hm => by
      obtain ⟨e, he, q⟩ := List.mem_filterMap.mp hm
      exact nfr (List.mem_filterMap.mpr ⟨e, List.mem_cons_of_mem _ he, q⟩)
    have S3 := J3.suite e3 d3 na nL nF
    have isA : PySem.W.Looks (model X.prog X.w) h3 (typeOf (.ref a)) cls := fun A Q E s k q => wpAny_typeOf_ref (k _ _ e3) (by rw [z3.1]; exact q)
    have named : ∀ {x : Str} {c : Value} {np : Pos} {Q E : Value → Shared → Prop}, Names X x c → Q c { s' with heap := h3 } → wpAny (model X.prog X.w) (X.A.mark (some (.ref a))) (eval (.Name x np) X.env) Q E { s' with heap := h3 } := fun {x c np Q E} hc q => by
      obtain ⟨hg, hd, hm | ⟨hm, hv, hn⟩⟩ := hc
      · exact ld_glob (X := X.suite a ((a, o3) :: (X.pn ++ pins))) S3 hg hm q hd
      · exact ld_blt (X := X.suite a ((a, o3) :: (X.pn ++ pins))) S3 hg hm hv q hn hd
    have go : ∀ {hds' : List ExceptHandler} {l' : List Cls3}, HdN X hds' l' → wCl X.K Wo D l' cls d σ' H' → wpAny (model X.prog X.w) X.A (handleBy (.ref a) X.env hds') (SP X pins D) X.xe { s' with heap := h3 } := by
      intro hds' l' hk
      induction hk with
      | nil =>
        intro w
        refine wpAny_handleBy_nil ?_
        obtain ⟨_, _, _, oe, vs, T, oT, ts', he, hz, hd, h1, _⟩ := id fl3
        unfold PySem.passOn
        refine wpAny_bind (wpAny_field he hd h1 ?_)
        rw [if_neg (show ¬ ((Value.ref T == Value.none) = true) by simp)]
        have fin : wpAny (model X.prog X.w) X.A (setFlight (.ref a) X.env.frame) (fun _ s4 => wpAny (model X.prog X.w) X.A (throw (.ref a) : Sem Flow) (SP X pins D) X.xe s4) X.xe { s' with heap := h3 } := by
          rw [hf]
          refine HandSPX.setFlight_upZ fl3 fun h4 hh4 up4 => wpAny_throw (tk _ _ ?_)
          rw [← hs] at hh4
          exact ⟨a, B, sI, pins, σ', H', cls, d, rfl, J, nb, (up.trans up3).trans up4, .inr (.inr hh4), na, os, ag, w⟩
        first | exact wpAny_bind (wpAny_pure (wpAny_bind fin)) | exact wpAny_bind fin
      | @as x n c i ts b₀ su np q hds2 l2 hi hln hc hsu r ih =>
        intro ⟨b, hb1, hy, hno⟩
        refine wpAny_handleBy_cons (codeAny_handlers_test ?_) (by intro q; cases q)
        refine named hc ((PySem.W.exm_one (M := model X.prog X.w) J3.kIn isA hb1).here ?_)
        cases b with
        | false => exact ih (hno rfl)
        | true =>
          refine codeAny_handlers_suite_as (HandSPX.lands_againZ fl3 fun h4 fl4 up4 => ?_)
          have J4 : Inv X pins σ' H' { s' with heap := h4 } := J.landed nb fl4.1 ((up.trans up3).trans up4) os ag
          obtain ⟨o4, vs4, e4, z4, d4⟩ := fl4.there
          refine store_ok (X := X.suite a ((a, o4) :: (X.pn ++ pins))) (v := .ref a) (J4.suite e4 d4 na nL nF) hN hi (.inl hln) rfl (fun s5 S5 => ?_) (.inr hln)
          refine wpAny_mono ((hsu a o4 cls d (X.pn ++ pins) z4 ⟨_, d4⟩).run [] s5 _ H' _ S5 (hy rfl a na)) (fun f s6 hsp => ?_) (fun _ _ z => z.elim)
          have gone : ∀ {σ6 : L2.St} {H6 : Hp} {Q : Shared → Prop}, Inv (X.suite a ((a, o4) :: (X.pn ++ pins))) [] σ6 H6 s6 → (∀ s7, Inv X pins (σ6.set i none) H6 s7 → Q s7) →
              wpAny (model X.prog X.w) X.A (do bindName X.env n .none; unbindBehindTheSuite X.env n q) (fun _ s7 => Q s7) X.xe s6 := fun {σ6 H6 Q} S6 hq => gone_ok (S6.unsuite ok) hN hi hln hq
          cases f with
          | ret u => exact let ⟨v6, σ6, H6, S6, r6, q6⟩ := hsp; gone S6 fun s7 J7 => ⟨_, _, _, J7, r6, q6⟩
          | next => exact let ⟨σ6, H6, S6, q6⟩ := hsp; gone S6 fun s7 J7 => ⟨_, _, J7, q6⟩
          | brk => exact let ⟨σ6, H6, S6, q6⟩ := hsp; gone S6 fun s7 J7 => ⟨_, _, J7, q6⟩
          | cont => exact let ⟨σ6, H6, S6, q6⟩ := hsp; gone S6 fun s7 J7 => ⟨_, _, J7, q6⟩
      | @no x c ts b₀ su np q hds2 l2 hc hsu r ih =>
        intro ⟨b, hb1, hy, hno⟩
        refine wpAny_handleBy_cons (codeAny_handlers_test ?_) (by intro q; cases q)
        refine named hc ((PySem.W.exm_one (M := model X.prog X.w) J3.kIn isA hb1).here ?_)
        cases b with
        | false => exact ih (hno rfl)
        | true =>
          refine codeAny_handlers_suite (HandSPX.lands_againZ fl3 fun h4 fl4 up4 => ?_)
          have J4 : Inv X pins σ' H' { s' with heap := h4 } := J.landed nb fl4.1 ((up.trans up3).trans up4) os ag
          obtain ⟨o4, vs4, e4, z4, d4⟩ := fl4.there
          have S4 := J4.suite e4 d4 na nL nF
          refine wpAny_mono ((hsu a o4 cls d (X.pn ++ pins) z4 ⟨_, d4⟩).run [] _ _ H' _ S4 (hy rfl a na)) (fun f s6 hsp => ?_) (fun _ _ z => z.elim)
          cases f with
          | ret u => exact let ⟨v6, σ6, H6, S6, r6, q6⟩ := hsp; ⟨_, _, _, S6.unsuite ok, r6, q6⟩
          | next => exact let ⟨σ6, H6, S6, q6⟩ := hsp; ⟨_, _, S6.unsuite ok, q6⟩
          | brk => exact let ⟨σ6, H6, S6, q6⟩ := hsp; ⟨_, _, S6.unsuite ok, q6⟩
          | cont => exact let ⟨σ6, H6, S6, q6⟩ := hsp; ⟨_, _, S6.unsuite ok, q6⟩
    exact go hh w
  · cases f with
    | ret u => exact let ⟨v, σ', H', J', r, q⟩ := z; ⟨v, σ', H', J'.ofTry ok, r, q⟩
    | next => exact let ⟨σ', H', J', q⟩ := z; wpAny_execs_nil ⟨σ', H', J'.ofTry ok, q⟩
    | brk => exact let ⟨σ', H', J', q⟩ := z; ⟨σ', H', J'.ofTry ok, q⟩
    | cont => exact let ⟨σ', H', J', q⟩ := z; ⟨σ', H', J'.ofTry ok, q⟩
abbrev Cl := List (Str × Bool) × Option Nat × (Addr → Str → Option Addr → MS)
/-- the first clause that takes it -/
noncomputable def pick : List Cl → Exc → AEnv → Store → SRes
  | [], x, e, s => .exc x e s
  | (tbl, oi, ms) :: r, x, e, s => open Classical in match tbl.lookup x.c with
    | some true => (match oi with
      | some i => if ∀ a d, clr i (ms a x.c d (e.set i (some (.xcp a d x.c x.ns x.vs))) s) = clr i (ms 0 x.c none (e.set i (some (.xcp 0 none x.c x.ns x.vs))) s) then clr i (ms 0 x.c none (e.set i (some (.xcp 0 none x.c x.ns x.vs))) s) else .stuck
      | none => if ∀ a d, noXS (ms a x.c d e s) = noXS (ms 0 x.c none e s) then noXS (ms 0 x.c none e s) else .stuck)
    | some false => pick r x e s
    | none => .stuck
noncomputable def sTryM (cl : List Cl) (body : MS) : MS := fun env st => match body env st with
  | .exc x e s => pick cl x e s
  | r => r
structure SCl (Γ : G) (fo : Str → Bool) (hds : List ExceptHandler) (cl : List Cl) : Prop where
  run : ∃ l : List Cls3, (∀ (W : WX) (D : Ends) (Z F : Hp) (μ : List Addr) (st : Store) (env : AEnv) (σ : L2.St) (H : Hp) (x : Exc) (d : Option Addr), Good Γ.K Z F μ st H → REnv Γ.K F μ env σ → XRep Γ.K F μ x d → (pick cl x env st).post (KS Γ.K Z F μ D W) → wCl Γ.K W D l (.ref (He.ga Γ.K x.c)) d σ H) ∧
    ∀ X, CtxOk Γ X → (∀ x, fo x = true → X.fn x = true) → HdN X hds l
section
variable {Γ : G} {fo : Str → Bool} {x n : Str} {i : Nat} {body suite : List Stmt} {b₀ : Stmt} {np pos pos' : Pos} {m : MS} {ms : Addr → Str → Option Addr → MS} {tbl : List (Str × Bool)} {hds : List ExceptHandler} {cl : List Cl}
theorem cl_nil : SCl Γ fo [] [] := ⟨[], fun W D Z F μ st env σ H x d g re xr hp => (show KXS Γ.K Z F μ W x env st from hp) F μ H σ d Ext.refl g re xr, fun X c hf => .nil⟩
theorem cl_as (hi : Γ.N[i]? = some n) (hl : Γ.sc.names.lookup n = some .local) (hg : Γ.sc.names.lookup x = some .globalImplicit) (hm : Γ.mg x = some (.ref (He.ga Γ.K x))) (hdb : (x == ("__debug__" : Str)) = false)
    (htb : ∀ p ∈ tbl, PySem.W.exmOne Γ.K (.ref (He.ga Γ.K p.1)) (.ref (He.ga Γ.K x)) = some p.2) (hsu : ∀ a c d, SB (Γ.hot a c d) fo (b₀ :: suite) (ms a c d)) (hr : SCl Γ fo hds cl) : SCl Γ fo (.ExceptHandler (some (.Name x np)) (some n) (b₀ :: suite) pos' :: hds) ((tbl, some i, ms) :: cl) := by
  classical
  obtain ⟨l, r1, r2⟩ := hr.run
  let ts : Addr → Value → Option Addr → TS := fun a cls d D σ H => ∃ c, cls = .ref (He.ga Γ.K c) ∧ Classical.choose ((hsu a c d).run W0) D σ H
  have hts : ∀ a c d, SimS Γ.K W0 (Classical.choose ((hsu a c d).run W0)) (ms a c d) ∧ ∀ X, CtxOk (Γ.hot a c d) X → (∀ x, fo x = true → X.fn x = true) → Takes X W0 → PSs X (b₀ :: suite) (Classical.choose ((hsu a c d).run W0)) := fun a c d => Classical.choose_spec ((hsu a c d).run W0)
  refine ⟨(.ref (He.ga Γ.K x), some i, ts) :: l, fun W D Z F μ st env σ H y d g re xr hp => ?_, fun X c hf => ?_⟩
  · unfold pick at hp
    cases hlk : tbl.lookup y.c with
    | none => rw [hlk] at hp; exact hp.elim
    | some b =>
      rw [hlk] at hp
      refine ⟨b, htb _ (lookup_mem' hlk), fun hbt a hna => ?_, fun hbf => ?_⟩
      · subst hbt
        dsimp only at hp
        split at hp
        · rename_i hall
          rw [← hall a d] at hp
          refine ⟨y.c, rfl, (hts a y.c d).1 Z F μ st _ _ H _ g (re.set i (xr.xcp a)) ?_⟩
          generalize ms a y.c d (env.set i (some (.xcp a d y.c y.ns y.vs))) st = r2 at hp ⊢
          cases r2 with
          | nx e2 s2 =>
            intro F3 μ3 H3 σ3 e3 g3 re3
            exact (show KN Γ.K Z F μ D.nx (e2.set i none) s2 from hp) F3 μ3 H3 _ e3 g3 (re3.unset' i)
          | rt a s2 => exact hp
          | bk e2 s2 =>
            intro F3 μ3 H3 σ3 e3 g3 re3
            exact (show KN Γ.K Z F μ D.bk (e2.set i none) s2 from hp) F3 μ3 H3 _ e3 g3 (re3.unset' i)
          | ct e2 s2 =>
            intro F3 μ3 H3 σ3 e3 g3 re3
            exact (show KN Γ.K Z F μ D.ct (e2.set i none) s2 from hp) F3 μ3 H3 _ e3 g3 (re3.unset' i)
          | exc _ _ _ => exact hp.elim
          | stuck => exact hp.elim
        · exact hp.elim
      · subst hbf
        exact r1 W D Z F μ st env σ H y d g re xr hp
  · refine .as (c.name hi) (by unfold Env.kindOf; rw [c.sc]; exact hl) ⟨c.gl hg, hdb, .inl (by rw [c.mg]; exact hm)⟩ (fun a oe cls d pn hz hfl => ⟨fun pins s σ H D I hh => ?_⟩) (r2 X c hf)
    obtain ⟨c', rfl, hh⟩ := hh
    exact ((hts a c' d).2 _ (c.hot hz hfl) hf takes0).run pins s σ H D I hh
theorem cl_no (hg : Γ.sc.names.lookup x = some .globalImplicit) (hm : Γ.mg x = some (.ref (He.ga Γ.K x))) (hdb : (x == ("__debug__" : Str)) = false)
    (htb : ∀ p ∈ tbl, PySem.W.exmOne Γ.K (.ref (He.ga Γ.K p.1)) (.ref (He.ga Γ.K x)) = some p.2) (hsu : ∀ a c d, SB (Γ.hot a c d) fo (b₀ :: suite) (ms a c d)) (hr : SCl Γ fo hds cl) : SCl Γ fo (.ExceptHandler (some (.Name x np)) none (b₀ :: suite) pos' :: hds) ((tbl, none, ms) :: cl) := by
  classical
  obtain ⟨l, r1, r2⟩ := hr.run
  let ts : Addr → Value → Option Addr → TS := fun a cls d D σ H => ∃ c, cls = .ref (He.ga Γ.K c) ∧ Classical.choose ((hsu a c d).run W0) D σ H
  have hts : ∀ a c d, SimS Γ.K W0 (Classical.choose ((hsu a c d).run W0)) (ms a c d) ∧ ∀ X, CtxOk (Γ.hot a c d) X → (∀ x, fo x = true → X.fn x = true) → Takes X W0 → PSs X (b₀ :: suite) (Classical.choose ((hsu a c d).run W0)) := fun a c d => Classical.choose_spec ((hsu a c d).run W0)
  refine ⟨(.ref (He.ga Γ.K x), none, ts) :: l, fun W D Z F μ st env σ H y d g re xr hp => ?_, fun X c hf => ?_⟩
  · unfold pick at hp
    cases hlk : tbl.lookup y.c with
    | none => rw [hlk] at hp; exact hp.elim
    | some b =>
      rw [hlk] at hp
      refine ⟨b, htb _ (lookup_mem' hlk), fun hbt a hna => ?_, fun hbf => ?_⟩
      · subst hbt
        dsimp only at hp
        split at hp
        · rename_i hall
          rw [← hall a d] at hp
          refine ⟨y.c, rfl, (hts a y.c d).1 Z F μ st _ _ H _ g re ?_⟩
          generalize ms a y.c d env st = r2 at hp ⊢
          cases r2 with
          | exc _ _ _ => exact hp.elim
          | _ => exact hp
        · exact hp.elim
      · subst hbf
        exact r1 W D Z F μ st env σ H y d g re xr hp
  · refine .no ⟨c.gl hg, hdb, .inl (by rw [c.mg]; exact hm)⟩ (fun a oe cls d pn hz hfl => ⟨fun pins s σ H D I hh => ?_⟩) (r2 X c hf)
    obtain ⟨c', rfl, hh⟩ := hh
    exact ((hts a c' d).2 _ (c.hot hz hfl) hf takes0).run pins s σ H D I hh
theorem st_tryM {h₀ : ExceptHandler} (hb : SB Γ fo body m) (hc : SCl Γ fo (h₀ :: hds) cl) (hst : Γ.st = true := by rfl) (hhx : Γ.hx = none := by rfl) : SS Γ fo (.Try body (h₀ :: hds) [] [] pos) (sTryM cl m) :=
  ⟨fun W => by
    classical
    obtain ⟨l, r1, r2⟩ := hc.run
    let tb : WX → TS := fun W => Classical.choose (hb.run W)
    have htbs : ∀ W, SimS Γ.K W (tb W) m ∧ ∀ X, CtxOk Γ X → (∀ x, fo x = true → X.fn x = true) → Takes X W → PSs X body (tb W) := fun W => Classical.choose_spec (hb.run W)
    refine ⟨fun D σ H => tb (wCl Γ.K W D l) D σ H, fun Z F μ st env σ H D g re hp => ?_, fun X c hf k => ?_⟩
    · refine (htbs _).1 Z F μ st env σ H D g re ?_
      unfold sTryM at hp
      generalize m env st = r at hp ⊢
      cases r with
      | exc y e s =>
        intro F' μ' H' σ' d e' g' re' xr
        exact r1 W D Z F' μ' s e σ' H' y d g' re' xr (KS.ext e' hp)
      | _ => exact hp
    · obtain ⟨k1, k2⟩ := c.stk hst
      have hK := c.K
      rw [← hK]
      exact ps_tryN k1 k2 c.nd k (fun W' pn xe tk ho => (htbs W').2 _ (c.tr ho hhx) hf tk) (r2 X c hf)⟩
end
/-! ### xs[::-1] -/
def revL (mk : Bool) : Op1 := fun a st => match lstR a st with
  | some xs => some (newL mk xs.reverse st)
  | none => none
theorem Reps.rev {K : PySem.W.Frag} {F : Hp} {μ : List Addr} : ∀ {xs : List A} {vs : List V}, Reps K F μ xs vs → Reps K F μ xs.reverse vs.reverse
  | _, _, .nil => .nil
  | _, _, .cons r t => by rw [List.reverse_cons, List.reverse_cons]; exact (Reps.rev t).append (.cons r .nil)
section
variable {Γ : G} {fo : Str → Bool} {e : Expr} {es : List Expr} {m : AEnv → Store → Res A} {ms : AEnv → Store → Res (List A)} {pos p p1 p2 p3 : Pos} {k : Nat}
theorem s_rev {mk : Bool} (h : SE Γ e m) : SE Γ (.Subscript e (.Slice none none (some (.UnaryOp .USub (.Constant (.int 1) k p1) p2)) p3) pos) (eUn (revL mk) m) :=
  ⟨fun W => by
    obtain ⟨t, s1, q1⟩ := h.run W
    refine ⟨tRevL Γ.K t, ?_, fun X c tk => by rw [← c.K]; exact pe_revL (q1 X c tk)⟩
    refine Sim.bind (k := fun (x : V) σ H (Q : VK) => ∃ a xs, x = .ref a ∧ SqL Γ.K H a xs ∧ ∀ p, H p = none → Q (.ref p) (upd H p (.lst xs.reverse))) (m' := fun a env st1 => Res.of (revL mk a st1)) s1 fun Z F μ st env σ H Q a x g re ra hp => ?_
    obtain ⟨c, st3, e, k⟩ := Res.post_of hp
    unfold revL at e
    cases el : lstR a st with
    | none => rw [el] at e; cases e
    | some xs =>
      rw [el] at e
      have e2 : newL mk xs.reverse st = (c, st3) := Option.some.inj e
      obtain ⟨p, vs, rfl, h1, r1⟩ := lstR_ok g ra el
      refine ⟨p, vs, rfl, h1, fun q hq => newL_ok (mk := mk) g hq r1.rev ?_⟩
      rw [e2]; exact k⟩
/-! ### len, anywhere -/
theorem s_lenH (hg : Γ.sc.names.lookup ("len" : Str) = some .globalImplicit) (hm : Γ.mg "len" = none) (ha : SA Γ (e :: es) ms)
    (he : ∀ env, starEach (e :: es) env = (false, eval e env) :: starEach es env := by intro _; rfl) (hpl : ∀ env, (backTo pos (starEach es env)).any (·.1) = false := by intro _; rfl) : SE Γ (.Call (.Name "len" p) (e :: es) [] pos) (eCB (one1 lenA) ms) :=
  ⟨fun W => by
    obtain ⟨ta, sa, pa⟩ := ha.run W
    refine ⟨_, sim_cb (K := Γ.K) (r := fun xs H Q => ∃ x n, xs = [x] ∧ LenV Γ.K x H n ∧ Q (.int n) H) (fun Z F μ st st' H as c xs Q g ra e k => ?_) sa, fun X c t => ?_⟩
    · obtain ⟨r, h1, h2⟩ := (cb_len.ex)
      cases as with
      | nil => cases e
      | cons a as =>
        cases as with
        | cons b as => cases e
        | nil =>
          obtain ⟨x, rfl, ra1⟩ := ra.one
          have seq_len : (seqR a st).map (fun xs => (A.int xs.length, st)) = some (c, st') → ∃ x' n, [x] = [x'] ∧ LenV Γ.K x' H n ∧ Q (.int n) H := fun e => by
            cases e1 : seqR a st with
            | none => rw [e1] at e; cases e
            | some xs =>
              rw [e1] at e; cases e
              obtain ⟨p, vs, rfl, h1, r1⟩ := seqR_ok g ra1 e1
              refine ⟨_, xs.length, rfl, ?_, k.same g (.int _)⟩
              rcases h1 with h1 | h1
              · exact .inl ⟨vs, h1, r1.length⟩
              · exact .inr ⟨vs, h1, r1.length⟩
          cases a with
          | str y =>
            cases ra1
            have e : (if y.length ≤ sizeLine then some (A.int y.length, st) else none) = some (c, st') := e
            by_cases hl : y.length ≤ sizeLine
            · rw [if_pos hl] at e; cases e; exact ⟨V.str y, y.length, rfl, (show y.length ≤ sizeLine ∧ y.length = y.length from ⟨hl, rfl⟩), k.same g (.int _)⟩
            · rw [if_neg hl] at e; cases e
          | _ => exact seq_len e
    · rw [← c.K]
      exact pe_callB call_len (c.gl hg) (c.mgn hm) PySem.boot_len (pa X c t) (by decide) (by decide) (he _) (hpl _)⟩
end
/-! ### how these are computed -/
section
variable {env : AEnv} {st : Store} {m mo : AEnv → Store → Res A} {ms : AEnv → Store → Res (List A)} {cs : List Str} {f c mn : Str} {M : List A → Store → Res A}
theorem eMeth_ap : eMeth c mn M mo ms env st = (mo env st).bind fun a st1 => match insA a st1 with
  | some (c', ns, xs) => if c' = c ∧ (ns.zip xs).lookup mn = none ∧ ns.length = xs.length then (ms env st1).bind fun as st2 => M (a :: as) st2 else .stuck
  | none => .stuck := (rfl)
theorem eMake_ap : eMake c M ms env st = (ms env st).bind fun as st1 => mkIns c M as st1 := (rfl)
theorem sFldM_ap : sFldM cs f m mo env st = (m env st).toS env fun v st1 => (mo env st1).toS env fun o st2 => match fldSet cs f o v st2 with
  | some st3 => .nx env st3
  | none => .stuck := (rfl)
theorem mkIns_ok {as : List A} {ns : List Str} {xs : List A} (h : M (.cell st.length :: as) (st ++ [.obj c [] []]) = .ok .non (st ++ [.obj c ns xs])) (hb : belowL st.length xs = true) : mkIns c M as st = .ok (.obj c ns xs) st := by
  unfold mkIns
  rw [h]
  simp only [List.getElem?_append_right (Nat.le_refl _), Nat.sub_self, List.getElem?_cons_zero]
  rw [if_pos ⟨trivial, hb, okS_app⟩, List.take_left]
theorem mkIns_exc {as : List A} {x : Exc} {d : C} (h : M (.cell st.length :: as) (st ++ [.obj c [] []]) = .exc x (st ++ [d])) (hb : belowL st.length x.vs = true) : mkIns c M as st = .exc x st := by
  unfold mkIns
  rw [h]
  simp only
  rw [if_pos ⟨hb, okS_app⟩, List.take_left]
end
end SL

set_option Elab.async false
set_option linter.all false
set_option maxRecDepth 100000
set_option maxHeartbeats 4000000
/-! SLv: math.gcd; helpers for loops, comprehensions, several clauses. -/
namespace SL
open PySem PySem.Spec L2
open PyProof.Rows hiding St
def gcdA : Op2 := fun a b st => match a, b with
  | .int i, .int j => some (.int ((Nat.gcd i.natAbs j.natAbs : Nat) : Int), st)
  | _, _ => none
@[simp] theorem gcdA_ii {i j : Int} {st : Store} : gcdA (.int i) (.int j) st = some (.int ((Nat.gcd i.natAbs j.natAbs : Nat) : Int), st) := (rfl)
theorem s_gcd {Γ : G} {x : Str} {e : Expr} {es : List Expr} {ms : AEnv → Store → Res (List A)} {p pos : Pos} (hg : Γ.sc.names.lookup x = some .globalImplicit) (hm : Γ.mg x = some (.builtin "math.gcd")) (ha : SA Γ (e :: es) ms) (hdb : (x == ("__debug__" : Str)) = false := by decide)
    (he : ∀ env, starEach (e :: es) env = (false, eval e env) :: starEach es env := by intro _; rfl) (hpl : ∀ env, (backTo pos (starEach es env)).any (·.1) = false := by intro _; rfl) : SE Γ (.Call (.Name x p) (e :: es) [] pos) (eCB (two2 gcdA) ms) :=
  ⟨fun W => by
    obtain ⟨ta, sa, pa⟩ := ha.run W
    refine ⟨_, sim_cb (K := Γ.K) (r := rGcd) (fun Z F μ st st' H as c xs Q g ra e k => ?_) sa, fun X c t => ?_⟩
    · cases as with
      | nil => cases e
      | cons a as =>
        cases as with
        | nil => cases e
        | cons b as =>
          cases as with
          | cons c as => cases e
          | nil =>
            obtain ⟨x, y, rfl, ra1, rb1⟩ := ra.two
            cases a with
            | int i =>
              cases b with
              | int j => cases ra1; cases rb1; cases e; exact ⟨i, j, rfl, k.same g (.int _)⟩
              | _ => cases e
            | _ => cases e
    · exact pe_callBfun cr_gcd (c.gl hg) (by rw [c.mg]; exact hm) (pa X c t) hdb (he _) (hpl _)⟩
end SL

set_option Elab.async false
set_option linter.all false
set_option maxRecDepth 100000
set_option maxHeartbeats 4000000
/-! SLw: a, b = e1, e2 of names. -/
namespace SL
open PySem PySem.Spec L2
open PyProof.Rows hiding St
def nostar : Expr → Bool
  | .Starred .. => false
  | _ => true
def fn? (sc : Scope) : Bool := !((if sc.kind.isAnnotationScope then ScopeKind.function else sc.kind) != .function)
def swB (sc : Scope) (x y : Str) (px py : Pos) (a b : Expr) : Bool := fn? sc && (sc.names.lookup x == some .local && (sc.names.lookup y == some .local && (py.line == px.line && (px.line == px.line && (([x, y] : List Str).eraseDups.length == 2 && (nostar a && (nostar b && (!([a, b].all (foldedForSure 8)) && !([a, b].all (constantsAlone 8))))))))))
def swN (a b : Expr) : Bool := nostar a && (nostar b && [a, b].all (foldedForSure 8))
theorem star_any {a b : Expr} (ha : nostar a = true) (hb : nostar b = true) : ([a, b].any fun | .Starred .. => true | _ => false) = false := by
  cases a <;> cases b <;> first | rfl | (cases ha; done) | (cases hb; done)
theorem sw_par {Γ : G} {X : Cx} (c : CtxOk Γ X) {x y : Str} {px py pt pt2 : Pos} {a b : Expr} {kt k2} (h : swB Γ.sc x y px py a b = true) : swappedStores [.Tuple [.Name x px, .Name y py] kt pt] (.Tuple [a, b] k2 pt2) X.env = pure (some [x, y]) := by
  unfold swB fn? at h
  simp only [Bool.and_eq_true, Bool.not_eq_true'] at h
  obtain ⟨h1, h2, h3, h4, h5, h6, h7, h8, h9, h10⟩ := h
  have hs := star_any h7 h8
  simp only [swappedStores, Env.blockKind, Env.kindOf, c.sc]
  rw [h1]
  simp only [List.length_cons, List.length_nil, List.head?_cons, Option.map_some, Option.getD_some, Expr.pos, List.filterMap_cons, List.filterMap_nil, h2, h3, h4, h5, Bool.and_self, if_true, h9, h10]
  simp only [Bool.or_false, bne_self_eq_false, Bool.not_true, beq_self_eq_true, Bool.true_or, Bool.false_or]
  rw [if_neg Bool.false_ne_true]
  split
  · rename_i z
    exact absurd (hs.symm.trans z) Bool.false_ne_true
  have h6' : (([x, y] : List Str).eraseDups.length != 0 + 1 + 1) = false := by
    rw [show (([x, y] : List Str).eraseDups.length) = 2 from eq_of_beq h6]; rfl
  rw [h6']
  rfl
theorem sw_none {env : Env} {x y : Str} {px py pt pt2 : Pos} {a b : Expr} {kt k2} (h : swN a b = true) : swappedStores [.Tuple [.Name x px, .Name y py] kt pt] (.Tuple [a, b] k2 pt2) env = pure none := by
  unfold swN at h
  simp only [Bool.and_eq_true] at h
  obtain ⟨h7, h8, h9⟩ := h
  have hs := star_any h7 h8
  simp only [swappedStores]
  split
  · rfl
  · split
    · rfl
    · split
      · rfl
      · first | rfl | (rw [h9]; rfl)
end SL

set_option Elab.async false
set_option linter.all false
set_option maxRecDepth 100000
set_option maxHeartbeats 4000000
/-! SLx: dicts with keys ints and texts: displays, get; list.extend; max and min of a list. -/
namespace SL
open PySem PySem.Spec L2
open PyProof.Rows hiding St
/-! ### keys, look up, put -/
def keyA : A → Option Key
  | .int i => some (.inl i)
  | .str x => some (.inr x)
  | _ => none
theorem keyA_ok {K : PySem.W.Frag} {F : Hp} {μ : List Addr} {a : A} {v : V} {k : Key} (r : Rep K F μ a v) (h : keyA a = some k) : v = kV k := by
  cases a <;> first | (cases h; cases r; rfl) | (cases h; done)
def lkA : List Key → List A → Key → Option A
  | k' :: ks, x :: xs, k => if k' = k then some x else lkA ks xs k
  | _, _, _ => none
theorem lkA_ok {K : PySem.W.Frag} {F : Hp} {μ : List Addr} {k : Key} : ∀ {kvs : List (Key × V)} {ks : List Key} {xs : List A}, kvs.map (·.1) = ks → Reps K F μ xs (kvs.map (·.2)) →
    (∀ x, lkA ks xs k = some x → ∃ v, valV kvs k = some v ∧ Rep K F μ x v) ∧ (lkA ks xs k = none → valV kvs k = none)
  | [], ks, xs, h, r => by
    subst h
    exact ⟨fun x e => by simp [lkA] at e, fun _ => rfl⟩
  | p :: kvs, ks, xs, h, r => by
    subst h
    cases r with
    | @cons a _ as _ ra rt =>
      have ih := lkA_ok (k := k) (kvs := kvs) rfl rt
      rw [List.map_cons]
      by_cases e : p.1 = k
      · refine ⟨fun x hx => ?_, fun hx => ?_⟩
        · simp only [lkA, if_pos e] at hx; cases hx; exact ⟨p.2, valV_pos e, ra⟩
        · simp only [lkA, if_pos e] at hx; cases hx
      · simp only [lkA, if_neg e]
        rw [valV_neg e]
        exact ih
def setK (k : Key) (v : A) : List Key → List A → List A
  | k' :: ks, x :: xs => (if k' = k then v else x) :: setK k v ks xs
  | _, xs => xs
def putA (k : Key) (v : A) (ks : List Key) (xs : List A) : List Key × List A := if (ks.any fun k' => decide (k' = k)) = true then (ks, setK k v ks xs) else (ks ++ [k], xs ++ [v])
theorem putA_ok {K : PySem.W.Frag} {F : Hp} {μ : List Addr} {k : Key} {v : A} {w : V} {kvs : List (Key × V)} {ks : List Key} {xs : List A} (rv : Rep K F μ v w) (h : kvs.map (·.1) = ks) (r : Reps K F μ xs (kvs.map (·.2))) :
    (putK kvs k w).map (·.1) = (putA k v ks xs).1 ∧ Reps K F μ (putA k v ks xs).2 ((putK kvs k w).map (·.2)) := by
  subst h
  unfold putK putA
  have hany : ((kvs.map (·.1)).any fun k' => decide (k' = k)) = kvs.any fun kv => decide (kv.1 = k) := by rw [List.any_map]; rfl
  rw [hany]
  by_cases hk : (kvs.any fun kv => decide (kv.1 = k)) = true
  · rw [if_pos hk, if_pos hk]
    have go : ∀ {kvs : List (Key × V)} {xs : List A}, Reps K F μ xs (kvs.map (·.2)) → (kvs.map fun kv => if kv.1 = k then (kv.1, w) else kv).map (·.1) = kvs.map (·.1) ∧ Reps K F μ (setK k v (kvs.map (·.1)) xs) ((kvs.map fun kv => if kv.1 = k then (kv.1, w) else kv).map (·.2)) := by
      intro kvs
      induction kvs with
      | nil => intro xs r; cases r; exact ⟨rfl, .nil⟩
      | cons p kvs ih =>
        intro xs r
        cases r with
        | cons ra rt =>
          obtain ⟨h1, h2⟩ := ih rt
          simp only [List.map_cons, setK]
          by_cases e : p.1 = k
          · rw [if_pos e, if_pos e]; exact ⟨by rw [h1], .cons rv h2⟩
          · rw [if_neg e, if_neg e]; exact ⟨by rw [h1], .cons ra h2⟩
    exact go r
  · rw [if_neg hk, if_neg hk]
    rw [List.map_append, List.map_append]
    exact ⟨rfl, r.append (.cons rv .nil)⟩
def mergeA (q : List Key × List A) (more : List (Key × A)) : List Key × List A := more.foldl (fun q p => putA p.1 p.2 q.1 q.2) q
/-- a dict that is there -/
def dctR : A → Store → Option (List Key × List A)
  | .dct ks xs, _ => some (ks, xs)
  | .cell n, st => match st[n]? with
    | some (.dct ks xs) => some (ks, xs)
    | _ => none
  | _, _ => none
theorem dctR_ok {K : PySem.W.Frag} {Z F : Hp} {μ : List Addr} {st : Store} {H : Hp} {a : A} {ks : List Key} {xs : List A} {v : V} (g : Good K Z F μ st H) (r : Rep K F μ a v) (h : dctR a st = some (ks, xs)) :
    ∃ p kvs, v = .ref p ∧ H p = some (.dK kvs) ∧ kvs.map (·.1) = ks ∧ Reps K F μ xs (kvs.map (·.2)) := by
  cases a with
  | dct ks' xs' =>
    cases h
    cases r with
    | dct h1 h2 h3 => exact ⟨_, _, rfl, g.sub _ _ h1, h2, h3⟩
  | cell m =>
    cases r with
    | cell h1 =>
      have h : (match st[m]? with | some (.dct ks xs) => some (ks, xs) | _ => none) = some (ks, xs) := h
      cases e : st[m]? with
      | none => rw [e] at h; cases h
      | some c =>
        rw [e] at h
        cases c with
        | dct ys zs =>
          cases h
          obtain ⟨a, h2, h3, vs, h4, h5, h6⟩ := g.cell m _ e (by intro z; cases z)
          rw [h1] at h2; cases h2
          exact ⟨_, vs, rfl, h4, h5, h6⟩
        | _ => cases h
  | _ => cases h
/-! ### d.get(k, z) -/
def getOp (d k z : A) (st : Store) : Option (A × Store) := match dctR d st, keyA k with
  | some (ks, xs), some kk => some ((lkA ks xs kk).getD z, st)
  | _, _ => none
def eGet2 (mo me mf : AEnv → Store → Res A) : AEnv → Store → Res A := fun env st => (mo env st).bind fun d st1 => if (dctR d st1).isSome then (me env st1).bind fun k st2 => (mf env st2).bind fun z st3 => Res.of (getOp d k z st3) else .stuck
theorem sim_get2 {K : PySem.W.Frag} {W : WX} {td ty tx : TE} {mo me mf : AEnv → Store → Res A} (hd : Sim K Rep W td mo) (hy : Sim K Rep W ty me) (hx : Sim K Rep W tx mf) : Sim K Rep W (tDGet2 td ty tx) (eGet2 mo me mf) := by
  intro Z F μ st env σ H Q g re hp
  unfold eGet2 at hp
  rw [Res.post_bind] at hp
  refine hd Z F μ st env σ H _ g re (Res.post_mono hp (fun d st1 q => ?_) fun _ _ q => q)
  intro F1 μ1 H1 x e1 g1 rd
  split at q
  · rename_i hs
    cases ed : dctR d st1 with
    | none => rw [ed] at hs; cases hs
    | some kx =>
      obtain ⟨ks, xs⟩ := kx
      obtain ⟨p, kvs, rfl, h1, _, _⟩ := dctR_ok g1 rd ed
      refine ⟨p, rfl, .inl ⟨kvs, .inl h1⟩, ?_⟩
      rw [Res.post_bind] at q
      refine hy Z F1 μ1 st1 env σ H1 _ g1 (re.mono e1) (Res.post_mono q (fun k st2 q => ?_) fun _ _ q => q.ext e1)
      intro F2 μ2 H2 y e2 g2 rk
      rw [Res.post_bind] at q
      refine hx Z F2 μ2 st2 env σ H2 _ g2 (re.mono (e1.trans e2)) (Res.post_mono q (fun z st3 q => ?_) fun _ _ q => q.ext (e1.trans e2))
      intro F3 μ3 H3 zv e3 g3 rz
      obtain ⟨c, st4, e, kk⟩ := Res.post_of q
      have e13 := e2.trans e3
      unfold getOp at e
      cases ed3 : dctR d st3 with
      | none => rw [ed3] at e; cases e
      | some kx3 =>
        obtain ⟨ks3, xs3⟩ := kx3
        rw [ed3] at e
        cases ek : keyA k with
        | none => rw [ek] at e; cases e
        | some key =>
          rw [ek] at e; cases e
          obtain ⟨p3, kvs3, ep, h31, h32, h33⟩ := dctR_ok g3 (rd.mono e13) ed3
          cases ep
          rw [keyA_ok (rk.mono e3) ek]
          refine ⟨_, DGet.k h31, ?_⟩
          obtain ⟨l1, l2⟩ := lkA_ok (k := key) h32 h33
          have K4 := kk.ext (e1.trans e13)
          cases el : lkA ks3 xs3 key with
          | none => rw [el] at K4; rw [l2 el]; exact K4.now g3 rz
          | some w =>
            rw [el] at K4
            obtain ⟨v, hv, rv⟩ := l1 _ el
            rw [hv]; exact K4.now g3 rv
  · exact q.elim
section
variable {Γ : G} {e f o : Expr} {mo me mf : AEnv → Store → Res A} {apos cpos pos : Pos}
theorem s_dget2 (ho : SE Γ o mo) (he : SE Γ e me) (hf : SE Γ f mf)
    (h1 : ∀ env, attributeBase o "get" env (eval o env) = eval o env := by intro _; rfl)
    (h2 : ∀ env, ((backTo cpos (starEach [e, f] env)).all (fun x => !x.1) && (backToKw cpos (keywordEach [] env)).all (fun x => x.1.isSome)
    && decide (([e, f] : List Expr).length + ([] : List Keyword).length + (if ([] : List Keyword).isEmpty then 0 else 1) < 30)) = true := by intro _; rfl)
    (h3 : (apos.endLine == cpos.line) = true := by rfl)
    (h4 : ∀ env, backTo cpos (starEach [e, f] env) = [(false, eval e env), (false, eval f env)] := by intro _; rfl) : SE Γ (.Call (.Attribute o "get" apos) [e, f] [] cpos) (eGet2 mo me mf) :=
  ⟨fun W => by
    obtain ⟨to, so, po⟩ := ho.run W
    obtain ⟨te, s_e, p_e⟩ := he.run W
    obtain ⟨tf, s_f, p_f⟩ := hf.run W
    exact ⟨_, sim_get2 so s_e s_f, fun X c t => pe_dget2 (Nat.lt_of_le_of_lt (by omega) c.units) (po X c t) (p_e X c t) (p_f X c t) ⟨h1 _, h2 _, h3, h4 _⟩⟩⟩
end
@[simp] theorem eGet2_ap {mo me mf : AEnv → Store → Res A} {env : AEnv} {st : Store} : eGet2 mo me mf env st = (mo env st).bind fun d st1 => if (dctR d st1).isSome then (me env st1).bind fun k st2 => (mf env st2).bind fun z st3 => Res.of (getOp d k z st3) else .stuck := (rfl)
/-! ### {k: v, ..} -/
abbrev MM := (AEnv → Store → Res A) × (AEnv → Store → Res A)
def mPairs : List MM → AEnv → Store → Res (List (A × A))
  | [], _, st => .ok [] st
  | (mk, mv) :: r, env, st => (mk env st).bind fun a st1 => (mv env st1).bind fun b st2 => (mPairs r env st2).bind fun ps st3 => .ok ((a, b) :: ps) st3
def RepP : Rel (List (A × A)) (List (V × V)) := fun K F μ ps vs => Reps K F μ (ps.map (·.1)) (vs.map (·.1)) ∧ Reps K F μ (ps.map (·.2)) (vs.map (·.2))
inductive SimPs (K : PySem.W.Frag) (W : WX) : List (TE × TE) → List MM → Prop
  | nil : SimPs K W [] []
  | cons {tk tv : TE} {mk mv : AEnv → Store → Res A} {ts : List (TE × TE)} {ms : List MM} : Sim K Rep W tk mk → Sim K Rep W tv mv → SimPs K W ts ms → SimPs K W ((tk, tv) :: ts) ((mk, mv) :: ms)
theorem sim_pairs {K : PySem.W.Frag} {W : WX} : ∀ {ts : List (TE × TE)} {ms : List MM}, SimPs K W ts ms → Sim K RepP W (tPairs ts) (mPairs ms)
  | _, _, .nil => fun Z F μ st env σ H Q g re hp => (show Kont K Z RepP F μ Q [] st from hp).now g ⟨.nil, .nil⟩
  | _, _, .cons h1 h2 h3 => by
    intro Z F μ st env σ H Q g re hp
    unfold mPairs at hp
    rw [Res.post_bind] at hp
    refine h1 Z F μ st env σ H _ g re (Res.post_mono hp (fun a st1 q => ?_) fun _ _ q => q)
    intro F1 μ1 H1 x e1 g1 ra
    rw [Res.post_bind] at q
    refine h2 Z F1 μ1 st1 env σ H1 _ g1 (re.mono e1) (Res.post_mono q (fun b st2 q => ?_) fun _ _ q => q.ext e1)
    intro F2 μ2 H2 y e2 g2 rb
    rw [Res.post_bind] at q
    refine sim_pairs h3 Z F2 μ2 st2 env σ H2 _ g2 (re.mono (e1.trans e2)) (Res.post_mono q (fun ps st3 q => ?_) fun _ _ q => q.ext (e1.trans e2))
    intro F3 μ3 H3 vs e3 g3 rp
    exact (show Kont K Z RepP F μ Q ((a, b) :: ps) st3 from q).ext (e1.trans (e2.trans e3)) |>.now g3 ⟨.cons (ra.mono (e2.trans e3)) rp.1, .cons (rb.mono e3) rp.2⟩
def keysA : List (A × A) → Option (List (Key × A)) := optAll fun p => (keyA p.1).map fun k => (k, p.2)
theorem keysA_ok {K : PySem.W.Frag} {F : Hp} {μ : List Addr} : ∀ {ps : List (A × A)} {vs : List (V × V)} {kas : List (Key × A)}, RepP K F μ ps vs → keysA ps = some kas →
    ∃ kvs : List (Key × V), vs = kvs.map (fun kv => (kV kv.1, kv.2)) ∧ kvs.map (·.1) = kas.map (·.1) ∧ Reps K F μ (kas.map (·.2)) (kvs.map (·.2)) ∧ kvs.length = ps.length
  | [], [], kas, _, h => by cases h; exact ⟨[], rfl, rfl, .nil, rfl⟩
  | [], _ :: _, _, r, _ => nomatch r.1
  | _ :: _, [], _, r, _ => nomatch r.1
  | p :: ps, v :: vs, kas, r, h => by
    obtain ⟨r1, r2⟩ := r
    cases r1 with
    | cons ra rt =>
      cases r2 with
      | cons rb rs =>
        unfold keysA optAll at h
        cases ek : keyA p.1 with
        | none => rw [ek] at h; cases h
        | some k =>
          rw [ek] at h
          have h : (match keysA ps with | some r => some ((k, p.2) :: r) | none => none) = some kas := by
            unfold keysA
            cases eo : optAll (fun p : A × A => (keyA p.1).map fun k => (k, p.2)) ps with
            | none => rw [eo] at h; simpa using h
            | some r => rw [eo] at h; simpa using h
          cases er : keysA ps with
          | none => rw [er] at h; cases h
          | some r =>
            rw [er] at h; cases h
            obtain ⟨kvs, h1, h2, h3, h4⟩ := keysA_ok ⟨rt, rs⟩ er
            refine ⟨(k, v.2) :: kvs, ?_, by simp [h2], .cons rb h3, by simp [h4]⟩
            rw [List.map_cons, ← h1, ← keyA_ok ra ek]
theorem mergeA_ok {K : PySem.W.Frag} {F : Hp} {μ : List Addr} : ∀ {more : List (Key × V)} {kas : List (Key × A)} {kvs : List (Key × V)} {ks : List Key} {xs : List A}, more.map (·.1) = kas.map (·.1) → Reps K F μ (kas.map (·.2)) (more.map (·.2)) →
    kvs.map (·.1) = ks → Reps K F μ xs (kvs.map (·.2)) → (mergeK kvs more).map (·.1) = (mergeA (ks, xs) kas).1 ∧ Reps K F μ (mergeA (ks, xs) kas).2 ((mergeK kvs more).map (·.2))
  | [], [], kvs, ks, xs, _, _, h1, h2 => ⟨h1, h2⟩
  | [], _ :: _, _, _, _, h, _, _, _ => by simp at h
  | _ :: _, [], _, _, _, h, _, _, _ => by simp at h
  | (pk, pv) :: more, (qk, qv) :: kas, kvs, ks, xs, h, r, h1, h2 => by
    simp only [List.map_cons, List.cons.injEq] at h
    obtain ⟨h0, h⟩ := h
    subst h0
    rw [List.map_cons, List.map_cons] at r
    cases r with
    | cons ra rt =>
      obtain ⟨a1, a2⟩ := putA_ok (k := pk) ra h1 h2
      exact mergeA_ok (kvs := putK kvs pk pv) (ks := (putA pk qv ks xs).1) (xs := (putA pk qv ks xs).2) h rt a1 a2
theorem Good.zforget {K : PySem.W.Frag} {Z F : Hp} {μ : List Addr} {st : Store} {H : Hp} {p : Addr} {o : HO} (g : Good K (upd Z p o) F μ st H) (hz : Z p = none) : Good K Z F μ st H :=
  { zub := fun a o' q => g.zub _ _ (sub_upd hz _ _ q), zf := fun a o' q => g.zf _ _ (sub_upd hz _ _ q), zc := fun a o' q => g.zc _ _ (sub_upd hz _ _ q), sub := g.sub, len := g.len, inj := g.inj, cell := fun i c hi hc => by
      obtain ⟨a, h1, h2, h3⟩ := g.cell i c hi hc
      have ha : a ≠ p := by intro e; subst e; rw [upd_same] at h2; cases h2.2
      exact ⟨a, h1, ⟨h2.1, by have := h2.2; rw [upd_ne ha] at this; exact this⟩, h3⟩ }
def eDisp (ms : List MM) : AEnv → Store → Res A := fun env st => (mPairs ms env st).bind fun ps st1 => match keysA ps with
  | some kas => if ps.length ≤ 15 then .ok (.dct (mergeA ([], []) kas).1 (mergeA ([], []) kas).2) st1 else .stuck
  | none => .stuck
theorem sim_disp {K : PySem.W.Frag} {W : WX} {ts : List (TE × TE)} {ms : List MM} (h : SimPs K W ts ms) : Sim K Rep W (tDisp ts) (eDisp ms) := by
  intro Z F μ st env σ H Q g re hp p hn
  unfold eDisp at hp
  rw [Res.post_bind] at hp
  have gz := g.apart (p := p) (o := .dK []) hn rfl
  have hz := g.noz hn
  refine sim_pairs h (upd Z p (.dK [])) F μ st env σ (upd H p (.dK [])) _ gz re (Res.post_mono hp (fun ps st1 q => ?_) fun x st1 q => ?_)
  · intro F1 μ1 H1 vs e1 g1 rp
    refine ⟨g1.zub _ _ upd_same, ?_⟩
    cases ek : keysA ps with
    | none => rw [ek] at q; exact q.elim
    | some kas =>
      rw [ek] at q
      dsimp only at q
      split at q
      · rename_i hl
        obtain ⟨kvs, h1, h2, h3, h4⟩ := keysA_ok rp ek
        refine ⟨kvs, h1, by rw [h4]; exact hl, ?_⟩
        obtain ⟨m1, m2⟩ := mergeA_ok (kvs := []) (ks := []) (xs := []) h2 h3 rfl .nil
        have g2 := g1.zset (u := .dK (mergeK [] kvs)) rfl rfl
        obtain ⟨g3, e3⟩ := g2.zknown hz
        exact (show Kont K Z Rep F μ Q _ st1 from q) _ _ _ _ (e1.trans e3) g3 (.dct upd_same m1 (m2.mono e3))
      · exact q.elim
  · intro F1 μ1 H1 d e1 g1 xr
    exact (show KX K Z F μ σ W x st1 from q) F1 μ1 H1 d e1 (g1.zforget hz) xr
structure SPs (Γ : G) (pos : Pos) (keys : List (Option Expr)) (values : List Expr) (ms : List MM) : Prop where
  run : ∀ W : WX, ∃ trs : List (TE × TE), SimPs Γ.K W trs ms ∧ ∀ X, CtxOk Γ X → Takes X W → PPs X pos keys values trs
section
variable {Γ : G} {pos : Pos} {k v : Expr} {ks : List (Option Expr)} {vs : List Expr} {mk mv : AEnv → Store → Res A} {ms : List MM}
theorem p_nil : SPs Γ pos [] [] [] := ⟨fun W => ⟨[], .nil, fun X c t => pps_nil⟩⟩
theorem p_cons (hk : SE Γ k mk) (hv : SE Γ v mv) (hr : SPs Γ pos ks vs ms) : SPs Γ pos (some k :: ks) (v :: vs) ((mk, mv) :: ms) :=
  ⟨fun W => by
    obtain ⟨tk, s1, p1⟩ := hk.run W
    obtain ⟨tv, s2, p2⟩ := hv.run W
    obtain ⟨ts, s3, p3⟩ := hr.run W
    exact ⟨(tk, tv) :: ts, .cons s1 s2 s3, fun X c t => pps_cons (p1 X c t) (p2 X c t) (p3 X c t)⟩⟩
theorem s_disp (h : SPs Γ pos ks vs ms) (hall : ks.all (·.isSome) = true := by rfl) (hl : ks.length = vs.length := by rfl) (h0 : ks ≠ [] := by intro h; cases h) (h15 : ks.length ≤ 15 := by simp) : SE Γ (.Dict ks vs pos) (eDisp ms) :=
  ⟨fun W => by
    obtain ⟨ts, s1, p1⟩ := h.run W
    exact ⟨_, sim_disp s1, fun X c t => pe_disp (p1 X c t) hall hl h0 h15⟩⟩
end
@[simp] theorem eDisp_ap {ms : List MM} {env : AEnv} {st : Store} : eDisp ms env st = (mPairs ms env st).bind fun ps st1 => match keysA ps with
  | some kas => if ps.length ≤ 15 then .ok (.dct (mergeA ([], []) kas).1 (mergeA ([], []) kas).2) st1 else .stuck
  | none => .stuck := (rfl)
@[simp] theorem mPairs_nil {env : AEnv} {st : Store} : mPairs [] env st = .ok [] st := (rfl)
@[simp] theorem mPairs_cons {mk mv : AEnv → Store → Res A} {r : List MM} {env : AEnv} {st : Store} : mPairs ((mk, mv) :: r) env st = (mk env st).bind fun a st1 => (mv env st1).bind fun b st2 => (mPairs r env st2).bind fun ps st3 => .ok ((a, b) :: ps) st3 := (rfl)
/-! ### xs.extend(ys) -/
def extendM : A → OpN := fun a as st => match cellL a st, as with
  | some (n, xs), [y] => (match lstH y st with
    | some ys => if xs.length + ys.length ≤ sizeLine then some (.non, st.set n (.lst (xs ++ ys))) else none
    | none => none)
  | _, _ => none
theorem m_extend : Cm "list" "list.extend" extendM := ⟨⟨fun _ => rExtend, fun _ _ _ => mt_extend, fun K Z F μ st st' H a as c x xs Q g ra rs e k => by
  unfold extendM at e
  cases e1 : cellL a st with
  | none => rw [e1] at e; cases e
  | some p =>
    obtain ⟨n, ys⟩ := p
    rw [e1] at e
    cases as with
    | nil => cases e
    | cons y as =>
      cases as with
      | cons z as => cases e
      | nil =>
        obtain ⟨v, rfl, ry⟩ := rs.one
        obtain ⟨p, vs, rfl, h1, r1, hw⟩ := cellL_ok g ra e1
        have e : (match lstH y st with | some zs => if ys.length + zs.length ≤ sizeLine then some (A.non, st.set n (.lst (ys ++ zs))) else none | none => none) = some (c, st') := e
        cases e2 : lstH y st with
        | none => rw [e2] at e; cases e
        | some zs =>
          rw [e2] at e
          have e : (if ys.length + zs.length ≤ sizeLine then some (A.non, st.set n (.lst (ys ++ zs))) else none) = some (c, st') := e
          obtain ⟨q, ws, rfl, h2, r2⟩ := lstH_ok g ry e2
          by_cases hl : ys.length + zs.length ≤ sizeLine
          · rw [if_pos hl] at e; cases e
            exact ⟨p, q, vs, ws, rfl, rfl, h1, h2, by rw [← r1.length, ← r2.length]; exact hl, k.now (hw _ _ (r1.append r2)) .non⟩
          · rw [if_neg hl] at e; cases e⟩⟩
/-! ### max(xs), min(xs) -/
def maxL : List Int → Int
  | [] => 0
  | [x] => x
  | x :: y :: r => if maxL (y :: r) > x then maxL (y :: r) else x
theorem maxL_mem : ∀ {l : List Int}, l ≠ [] → maxL l ∈ l
  | [], h => absurd rfl h
  | [x], _ => by simp [maxL]
  | x :: y :: r, _ => by
    unfold maxL
    split
    · exact List.mem_cons_of_mem _ (maxL_mem (by simp))
    · exact List.mem_cons_self
theorem maxL_ge : ∀ {l : List Int} {y : Int}, y ∈ l → y ≤ maxL l
  | [], _, h => absurd h (by simp)
  | [x], y, h => by simp at h; subst h; simp [maxL]
  | x :: z :: r, y, h => by
    unfold maxL
    rcases List.mem_cons.mp h with h | h
    · split <;> omega
    · have := maxL_ge h
      split <;> omega
def minL (l : List Int) : Int := - maxL (l.map fun x => -x)
theorem minL_mem {l : List Int} (h : l ≠ []) : minL l ∈ l := by
  have := maxL_mem (l := l.map fun x => -x) (by simpa using h)
  obtain ⟨y, h1, h2⟩ := List.mem_map.mp this
  unfold minL
  rw [← h2, Int.neg_neg]; exact h1
theorem minL_le {l : List Int} {y : Int} (h : y ∈ l) : minL l ≤ y := by
  have := maxL_ge (l := l.map fun x => -x) (y := -y) (List.mem_map.mpr ⟨y, h, rfl⟩)
  unfold minL
  omega
def listOp (f : List Int → Int) : Op1 := fun a st => match lstR a st with
  | some xs => (match intsA xs with
    | some [] => none
    | some ns => some (.int (f ns), st)
    | none => none)
  | none => none
theorem listOp_ok {K : PySem.W.Frag} {Z F : Hp} {μ : List Addr} {st st' : Store} {H : Hp} {a c : A} {x : V} {f : List Int → Int} (g : Good K Z F μ st H) (ra : Rep K F μ a x) (e : listOp f a st = some (c, st')) :
    ∃ p ns, x = .ref p ∧ SqL K H p (ns.map V.int) ∧ ns ≠ [] ∧ c = .int (f ns) ∧ st' = st := by
  unfold listOp at e
  cases e1 : lstR a st with
  | none => rw [e1] at e; cases e
  | some xs =>
    rw [e1] at e
    have e : (match intsA xs with | some [] => none | some ns => some (A.int (f ns), st) | none => none) = some (c, st') := e
    cases e2 : intsA xs with
    | none => rw [e2] at e; cases e
    | some ns =>
      obtain ⟨p, vs, rfl, h1, r1⟩ := lstR_ok g ra e1
      rw [intsA_ok e2] at r1
      rw [r1.intsV] at h1
      rw [e2] at e
      cases ns with
      | nil => cases e
      | cons n ns => cases e; exact ⟨p, _, rfl, h1, by simp, rfl, rfl⟩
theorem cb_max1 : Cb (.builtin "max") (one1 (listOp maxL)) := cb1 (r := rMax) (fun _ _ c cm => cr_max (c.calm cm)) fun K Z F μ st st' H a c x Q g ra e k => by
  obtain ⟨p, ns, rfl, h1, h2, rfl, rfl⟩ := listOp_ok g ra e
  refine ⟨p, ns, rfl, h1, List.length_pos_iff.mpr h2, fun m hm hle => ?_⟩
  have e : m = maxL ns := Int.le_antisymm (maxL_ge hm) (hle _ (maxL_mem h2))
  subst e; exact k.same g (.int _)
theorem cb_min1 : Cb (.builtin "min") (one1 (listOp minL)) := cb1 (r := rMin) (fun _ _ c cm => cr_min (c.calm cm)) fun K Z F μ st st' H a c x Q g ra e k => by
  obtain ⟨p, ns, rfl, h1, h2, rfl, rfl⟩ := listOp_ok g ra e
  refine ⟨p, ns, rfl, h1, List.length_pos_iff.mpr h2, fun m hm hle => ?_⟩
  have e : m = minL ns := Int.le_antisymm (hle _ (minL_mem h2)) (minL_le hm)
  subst e; exact k.same g (.int _)
end SL

set_option Elab.async false
set_option linter.all false
set_option maxRecDepth 100000
set_option maxHeartbeats 4000000
/-! printed by gen.py from the linked text: the defs' plain functions, and that each def keeps to its own -/
namespace Gk07
open PySem PySem.Spec L2 SL
open PyProof.Rows hiding St
def top (i : Nat) : Stmt := PySem.Challenge.pw_knotwork_k07_whole_free_images.main.body.getD i (.Pass ⟨0, 0, 0, 0⟩)

abbrev s__law_deck : Stmt := top 16
abbrev s__law_take : Stmt := top 17
abbrev s__law_word : Stmt := top 19
abbrev s__law_reduced : Stmt := top 26
abbrev s__law_image : Stmt := top 27
abbrev s__law_images : Stmt := top 28
abbrev s_Braid___init__ : Stmt := meth (top 14) 0
abbrev s_images_under : Stmt := top 8
abbrev s_reduced_word : Stmt := top 7
abbrev s_moved_word : Stmt := top 9
abbrev s_action : Stmt := top 10
abbrev s__law_told : Stmt := top 29
abbrev s__law_plain : Stmt := top 18
abbrev s__law_free_word : Stmt := top 34
abbrev s__law_left : Stmt := top 35
abbrev s__law_matrix_product : Stmt := top 22
abbrev s__law_matrices : Stmt := top 24
abbrev s__law_matrix_inverse : Stmt := top 23
abbrev s__law_tuple : Stmt := top 25
abbrev s__law_value : Stmt := top 30
abbrev s__law_centre : Stmt := top 31
abbrev s__law_ends : Stmt := top 32
abbrev s__law_right : Stmt := top 33
abbrev s__law_stepped : Stmt := top 20
abbrev s__law_scrambled : Stmt := top 21
abbrev s_law : Stmt := top 36
abbrev s_InvalidBraid : Stmt := top 3
abbrev s_TooMany : Stmt := top 4
noncomputable def L1__law_deck : MS :=
  (sSeq (sEx (eM "list" appendM (eVar 3) (aCons (eBin modOp (eCB (one1 intA) (aCons (eVar 7) aNil)) (eC (.int 1000003))) aNil)))
  (sAsg (gN 7) (eBin fdivOp (eVar 7) (eC (.int 1000003)))))
noncomputable def L2__law_deck : MS :=
  (sSeq (sAsg (gN 4) (eBin modOp (eCB (one1 intA) (aCons (eBin (addOp false) (eBin (addOp false) (eBin (mulOp false) (eVar 4) (eC (.int 69621))) (eVar 8)) (eC (.int 1))) aNil)) (eC (.int 2147483629))))
  (sEx (eM "list" appendM (eVar 3) (aCons (eBin modOp (eCB (one1 intA) (aCons (eBin fdivOp (eVar 4) (eC (.int 5))) aNil)) (eC (.int 1000003))) aNil))))
noncomputable def L3__law_deck : MS :=
  (sSeq (sAsg (gN 6) (eC (.int 0)))
  (sSeq (sIf (tOf (eBin ltOp (eVar 5) (eCB (one1 lenA) (aCons (eVar 0) aNil)))) (sAsg (gN 6) (eBin ixOp (eVar 0) (eVar 5))) sNil)
  (sSeq (sAsg (gN 7) (eCB (one1 absA) (aCons (eVar 6) aNil)))
  (sIf (tOf (eBin geOp (eVar 7) (eBin powOp (eC (.int 10)) (eC (.int 30))))) (sFor (mRng1 (aCons (eVar 2) aNil)) (gN 8) L1__law_deck) (sSeq (sAsg (gN 4) (eBin modOp (eCB (one1 intA) (aCons (eBin (addOp false) (eBin (addOp false) (eBin (addOp false) (eBin (mulOp false) (eVar 4) (eC (.int 48271))) (eBin (mulOp false) (eC (.int 2)) (eVar 7))) (eCB (one1 intA) (aCons (eBin ltOp (eVar 6) (eC (.int 0))) aNil))) (eVar 5)) aNil)) (eC (.int 2147483647))))
  (sFor (mRng1 (aCons (eVar 2) aNil)) (gN 8) L2__law_deck))))))
noncomputable def B__law_deck : MS :=
  (sSeq (sAsg (gN 3) (eLst true aNil))
  (sSeq (sAsg (gN 4) (eBin (addOp false) (eC (.int 7)) (eCB (one1 lenA) (aCons (eVar 0) aNil))))
  (sSeq (sFor (mRng1 (aCons (eVar 1) aNil)) (gN 5) L3__law_deck)
  (sSeq (sEx (eM "list" reverseM (eVar 3) aNil))
  (sRet (eVar 3))))))
noncomputable def M__law_deck : List A → Store → Res A := fnM true 3 9 B__law_deck
noncomputable def B__law_take : MS :=
  (sSeq (sIf (tOf (eBin eqOp (eCB (one1 lenA) (aCons (eVar 0) aNil)) (eC (.int 0)))) (sRet (eC (.int 0))) sNil)
  (sRet (eBin modOp (eCB (one1 intA) (aCons (eM "list" popM (eVar 0) aNil) aNil)) (eVar 1))))
noncomputable def M__law_take : List A → Store → Res A := fnM false 2 2 B__law_take
noncomputable def L1__law_word : MS :=
  (sSeq (sAsg (gN 5) (eBin (addOp false) (eC (.int 1)) (eCall M__law_take (aCons (eVar 0) (aCons (eBin subOp (eVar 1) (eC (.int 1))) aNil)))))
  (sEx (eM "list" appendM (eVar 3) (aCons (eBin ixOp (eLst false (aCons (eVar 5) (aCons (eUn negOp (eVar 5)) aNil))) (eCall M__law_take (aCons (eVar 0) (aCons (eC (.int 2)) aNil)))) aNil))))
noncomputable def B__law_word : MS :=
  (sSeq (sAsg (gN 3) (eLst true aNil))
  (sSeq (sFor (mRng1 (aCons (eBin (mulOp false) (eCall M__law_take (aCons (eVar 0) (aCons (eBin (addOp false) (eVar 2) (eC (.int 1))) aNil))) (eCB (one1 intA) (aCons (eBin gtOp (eVar 1) (eC (.int 1))) aNil))) aNil)) (gN 4) L1__law_word)
  (sRet (eVar 3))))
noncomputable def M__law_word : List A → Store → Res A := fnM false 3 6 B__law_word
noncomputable def L1__law_reduced : MS :=
  (sIf (tAndM (tOf (eBin gtOp (eCB (one1 lenA) (aCons (eVar 1) aNil)) (eC (.int 0)))) (tOf (eBin eqOp (eBin ixOp (eVar 1) (eUn negOp (eC (.int 1)))) (eUn negOp (eVar 2))))) (sEx (eM "list" popM (eVar 1) aNil)) (sEx (eM "list" appendM (eVar 1) (aCons (eVar 2) aNil))))
noncomputable def B__law_reduced : MS :=
  (sSeq (sAsg (gN 1) (eLst true aNil))
  (sSeq (sFor (mSeq (eVar 0)) (gN 2) L1__law_reduced)
  (sRet (eVar 1))))
noncomputable def M__law_reduced : List A → Store → Res A := fnM false 1 3 B__law_reduced
noncomputable def e1__law_image : AEnv → Store → Res A :=
  (eUn negOp (eVar 6))
noncomputable def L2__law_image : MS :=
  (sSeq (sAsg (gN 5) (eLst false (aCons (eCB (one1 absA) (aCons (eVar 4) aNil)) aNil)))
  (sSeq (sIf (tAndM (tOf (eBin gtOp (eVar 1) (eC (.int 0)))) (tOf (eBin eqOp (eCB (one1 absA) (aCons (eVar 4) aNil)) (eVar 2)))) (sAsg (gN 5) (eLst false (aCons (eVar 2) (aCons (eBin (addOp false) (eVar 2) (eC (.int 1))) (aCons (eUn negOp (eVar 2)) aNil))))) (sIf (tAndM (tOf (eBin gtOp (eVar 1) (eC (.int 0)))) (tOf (eBin eqOp (eCB (one1 absA) (aCons (eVar 4) aNil)) (eBin (addOp false) (eVar 2) (eC (.int 1)))))) (sAsg (gN 5) (eLst false (aCons (eVar 2) aNil))) (sIf (tOf (eBin eqOp (eCB (one1 absA) (aCons (eVar 4) aNil)) (eVar 2))) (sAsg (gN 5) (eLst false (aCons (eBin (addOp false) (eVar 2) (eC (.int 1))) aNil))) (sIf (tOf (eBin eqOp (eCB (one1 absA) (aCons (eVar 4) aNil)) (eBin (addOp false) (eVar 2) (eC (.int 1))))) (sAsg (gN 5) (eLst false (aCons (eBin subOp (eUn negOp (eVar 2)) (eC (.int 1))) (aCons (eVar 2) (aCons (eBin (addOp false) (eVar 2) (eC (.int 1))) aNil))))) sNil))))
  (sSeq (sIf (tOf (eBin ltOp (eVar 4) (eC (.int 0)))) (sAsg (gN 5) (eLc false (mSeq (eUn (revL false) (eVar 5))) (gN 6) [6] tYesM e1__law_image)) sNil)
  (sEx (eM "list" extendM (eVar 3) (aCons (eVar 5) aNil))))))
noncomputable def B__law_image : MS :=
  (sSeq (sAsg (gN 2) (eCB (one1 absA) (aCons (eVar 1) aNil)))
  (sSeq (sAsg (gN 3) (eLst true aNil))
  (sSeq (sFor (mSeq (eVar 0)) (gN 4) L2__law_image)
  (sRet (eCall M__law_reduced (aCons (eVar 3) aNil))))))
noncomputable def M__law_image : List A → Store → Res A := fnM false 2 7 B__law_image
noncomputable def e1__law_images : AEnv → Store → Res A :=
  (eLst false (aCons (eBin (addOp false) (eVar 6) (eC (.int 1))) aNil))
noncomputable def e2__law_images : AEnv → Store → Res A :=
  (eCall M__law_image (aCons (eVar 5) (aCons (eVar 4) aNil)))
noncomputable def L3__law_images : MS :=
  (sIf (tOf (eBin gtOp (eCB (one1 lenA) (aCons (eVar 5) aNil)) (eVar 2))) (sRet (eC .non)) sNil)
noncomputable def L4__law_images : MS :=
  (sSeq (sAsg (gN 3) (eLc false (mSeq (eVar 3)) (gN 5) [5] tYesM e2__law_images))
  (sFor (mSeq (eVar 3)) (gN 5) L3__law_images))
noncomputable def B__law_images : MS :=
  (sSeq (sAsg (gN 3) (eLc false (mRng1 (aCons (eVar 0) aNil)) (gN 6) [6] tYesM e1__law_images))
  (sSeq (sFor (mSeq (eVar 1)) (gN 4) L4__law_images)
  (sRet (eVar 3))))
noncomputable def M__law_images : List A → Store → Res A := fnM false 3 7 B__law_images
noncomputable def L1_Braid___init__ : MS :=
  (sIf (tOrM (tOf (eBin eqOp (eVar 3) (eC (.int 0)))) (tOf (eBin geOp (eCB (one1 absA) (aCons (eVar 3) aNil)) (eVar 1)))) (sRaise (mkWhat "InvalidBraid" (eC (.str "word")))) sNil)
noncomputable def B_Braid___init__ : MS :=
  (sSeq (sIf (tNotM (tOf (eChain leOp leOp (eC (.int 1)) (eVar 1) (eC (.int 8))))) (sRaise (mkWhat "InvalidBraid" (eC (.str "strands")))) sNil)
  (sSeq (sFor (mSeq (eVar 2)) (gN 3) L1_Braid___init__)
  (sSeq (sIf (tOf (eBin gtOp (eCB (one1 lenA) (aCons (eVar 2) aNil)) (eC (.int 2000)))) (sRaise (mkWhat "TooMany" (eC (.str "letters")))) sNil)
  (sSeq (sFldM ["Braid"] "strands" (eVar 1) (eVar 0))
  (sFldM ["Braid"] "word" (eCB (one1 (listA false)) (aCons (eVar 2) aNil)) (eVar 0))))))
noncomputable def M_Braid___init__ : List A → Store → Res A := fnM false 3 4 B_Braid___init__
noncomputable def B_images_under : MS :=
  (sSeq (sAsg (gN 1) (eCB (one1 absA) (aCons (eVar 0) aNil)))
  (sSeq (sIf (tOf (eBin gtOp (eVar 0) (eC (.int 0)))) (sRet (eDisp (((eVar 1), (eLst false (aCons (eVar 1) (aCons (eBin (addOp false) (eVar 1) (eC (.int 1))) (aCons (eUn negOp (eVar 1)) aNil))))) :: (((eBin (addOp false) (eVar 1) (eC (.int 1))), (eLst false (aCons (eVar 1) aNil))) :: [])))) sNil)
  (sRet (eDisp (((eVar 1), (eLst false (aCons (eBin (addOp false) (eVar 1) (eC (.int 1))) aNil))) :: (((eBin (addOp false) (eVar 1) (eC (.int 1))), (eLst false (aCons (eBin subOp (eUn negOp (eVar 1)) (eC (.int 1))) (aCons (eVar 1) (aCons (eBin (addOp false) (eVar 1) (eC (.int 1))) aNil))))) :: []))))))
noncomputable def M_images_under : List A → Store → Res A := fnM false 1 2 B_images_under
noncomputable def L1_reduced_word : MS :=
  (sIf (tAndM (tTru (eVar 1)) (tOf (eBin eqOp (eBin ixOp (eVar 1) (eUn negOp (eC (.int 1)))) (eUn negOp (eVar 2))))) (sEx (eM "list" popM (eVar 1) aNil)) (sEx (eM "list" appendM (eVar 1) (aCons (eVar 2) aNil))))
noncomputable def B_reduced_word : MS :=
  (sSeq (sAsg (gN 1) (eLst true aNil))
  (sSeq (sFor (mSeq (eVar 0)) (gN 2) L1_reduced_word)
  (sRet (eVar 1))))
noncomputable def M_reduced_word : List A → Store → Res A := fnM false 1 3 B_reduced_word
noncomputable def e1_moved_word : AEnv → Store → Res A :=
  (eUn negOp (eVar 6))
noncomputable def L2_moved_word : MS :=
  (sSeq (sAsg (gN 5) (eGet2 (eVar 2) (eCB (one1 absA) (aCons (eVar 4) aNil)) (eLst false (aCons (eCB (one1 absA) (aCons (eVar 4) aNil)) aNil))))
  (sSeq (sIf (tOf (eBin ltOp (eVar 4) (eC (.int 0)))) (sAsg (gN 5) (eLc false (mRev (aCons (eVar 5) aNil)) (gN 6) [6] tYesM e1_moved_word)) sNil)
  (sEx (eM "list" extendM (eVar 3) (aCons (eVar 5) aNil)))))
noncomputable def B_moved_word : MS :=
  (sSeq (sAsg (gN 2) (eCall M_images_under (aCons (eVar 1) aNil)))
  (sSeq (sAsg (gN 3) (eLst true aNil))
  (sSeq (sFor (mSeq (eVar 0)) (gN 4) L2_moved_word)
  (sRet (eCall M_reduced_word (aCons (eVar 3) aNil))))))
noncomputable def M_moved_word : List A → Store → Res A := fnM false 2 7 B_moved_word
noncomputable def e1_action : AEnv → Store → Res A :=
  (eLst false (aCons (eVar 3) aNil))
noncomputable def e2_action : AEnv → Store → Res A :=
  (eCall M_moved_word (aCons (eVar 4) (aCons (eVar 2) aNil)))
noncomputable def e3_action : AEnv → Store → Res A :=
  (eCB (one1 lenA) (aCons (eVar 4) aNil))
noncomputable def L4_action : MS :=
  (sSeq (sAsg (gN 1) (eLc false (mSeq (eVar 1)) (gN 4) [4] tYesM e2_action))
  (sIf (tOf (eBin gtOp (eCB (one1 (listOp maxL)) (aCons (eLc false (mSeq (eVar 1)) (gN 4) [4] tYesM e3_action) aNil)) (eC (.int 20000)))) (sRaise (mkWhat "TooMany" (eC (.str "letters")))) sNil))
noncomputable def B_action : MS :=
  (sSeq (sAsg (gN 1) (eLc false (mRng2 (aCons (eC (.int 1)) (aCons (eBin (addOp false) (eUn (fldOp ["Braid"] "strands") (eVar 0)) (eC (.int 1))) aNil))) (gN 3) [3] tYesM e1_action))
  (sSeq (sFor (mSeq (eUn (fldOp ["Braid"] "word") (eVar 0))) (gN 2) L4_action)
  (sRet (eVar 1))))
noncomputable def M_action : List A → Store → Res A := fnM false 1 5 B_action
noncomputable def Y1__law_told : MS :=
  (sRet (eCall M_action (aCons (eMake "Braid" M_Braid___init__ (aCons (eVar 0) (aCons (eCB (one1 (listA false)) (aCons (eVar 1) aNil)) aNil))) aNil)))
noncomputable def X2__law_told : Addr → Str → Option Addr → MS :=
  fun a c d => (sRet (eTup (aCons (eC (.str "too many")) (aCons (eXf ["InvalidBraid", "TooMany"] "what" a c d (eVar 2)) aNil))))
noncomputable def B__law_told : MS :=
  (sTryAs [("InvalidBraid", false), ("TooMany", true)] 2 Y1__law_told X2__law_told)
noncomputable def M__law_told : List A → Store → Res A := fnM false 2 3 B__law_told
noncomputable def e1__law_plain (self : List A → Store → Res A) : AEnv → Store → Res A :=
  (eCall self (aCons (eVar 1) aNil))
noncomputable def B__law_plain (self : List A → Store → Res A) : MS :=
  (sSeq (sIf (tTru (eIsiT (eVar 0) (aCons (eC (.ty "tuple")) (aCons (eC (.ty "list")) aNil)))) (sRet (eBin (addOp false) (eLst false (aCons (eCB (two2 isiB) (aCons (eVar 0) (aCons (eC (.ty "list")) aNil))) aNil)) (eLc false (mSeq (eVar 0)) (gN 1) [1] tYesM (e1__law_plain self)))) sNil)
  (sSeq (sIf (tOrM (tOf (eBin (isNOp false) (eVar 0) (eC .non))) (tTru (eCB (two2 isiB) (aCons (eVar 0) (aCons (eC (.ty "bool")) aNil))))) (sRet (eBin ixOp (eLst false (aCons (eC (.str "None")) (aCons (eC (.str "False")) (aCons (eC (.str "True")) aNil)))) (eBin (addOp false) (eCB (one1 intA) (aCons (eBin (isNOp true) (eVar 0) (eC .non)) aNil)) (eCB (one1 intA) (aCons (eBin (isNOp false) (eVar 0) (eC (.bl true))) aNil))))) sNil)
  (sSeq (sIf (tTru (eIsiT (eVar 0) (aCons (eC (.ty "int")) (aCons (eC (.ty "str")) aNil)))) (sRet (eLst false (aCons (eCB (two2 isiB) (aCons (eVar 0) (aCons (eC (.ty "str")) aNil))) (aCons (eVar 0) aNil)))) sNil)
  (sRet (eC (.str "another"))))))
noncomputable def M__law_plain_ : Nat → List A → Store → Res A
  | 0 => fun _ _ => .stuck
  | n + 1 => fnM false 1 2 (B__law_plain (M__law_plain_ n))
noncomputable def M__law_plain : List A → Store → Res A := M__law_plain_ 6
noncomputable def L1__law_free_word : MS :=
  (sSeq (sAsg (gN 3) (eBin (addOp false) (eC (.int 1)) (eCall M__law_take (aCons (eVar 0) (aCons (eC (.int 3)) aNil)))))
  (sSeq (sEx (eM "list" appendM (eVar 1) (aCons (eBin ixOp (eLst false (aCons (eVar 3) (aCons (eUn negOp (eVar 3)) aNil))) (eCall M__law_take (aCons (eVar 0) (aCons (eC (.int 2)) aNil)))) aNil)))
  (sIf (tAndM (tOf (eBin eqOp (eCall M__law_take (aCons (eVar 0) (aCons (eC (.int 3)) aNil))) (eC (.int 0)))) (tOf (eBin gtOp (eVar 2) (eC (.int 0))))) (sSub setL (eUn negOp (eBin ixOp (eVar 1) (eUn negOp (eC (.int 2))))) (eVar 1) (eUn negOp (eC (.int 1)))) sNil)))
noncomputable def B__law_free_word : MS :=
  (sSeq (sAsg (gN 1) (eLst true aNil))
  (sSeq (sFor (mRng1 (aCons (eCall M__law_take (aCons (eVar 0) (aCons (eC (.int 61)) aNil))) aNil)) (gN 2) L1__law_free_word)
  (sRet (eVar 1))))
noncomputable def M__law_free_word : List A → Store → Res A := fnM false 1 4 B__law_free_word
noncomputable def t1__law_left : AEnv → Store → Res Bool :=
  (tOf (eBin eqOp (eBin ixOp (eVar 1) (eVar 4)) (eUn negOp (eBin ixOp (eVar 1) (eBin subOp (eVar 4) (eC (.int 1)))))))
noncomputable def e2__law_left : AEnv → Store → Res A :=
  (eVar 4)
noncomputable def L3__law_left : MS :=
  (sSeq (sAsg (gN 3) (eLc false (mRng2 (aCons (eC (.int 1)) (aCons (eCB (one1 lenA) (aCons (eVar 1) aNil)) aNil))) (gN 4) [4] t1__law_left e2__law_left))
  (sIf (tOf (eBin gtOp (eCB (one1 lenA) (aCons (eVar 3) aNil)) (eC (.int 0)))) (sSeq (sAsg (gN 4) (eBin ixOp (eVar 3) (eUn negOp (eC (.int 1)))))
  (sAsg (gN 1) (eBin (addOp false) (eSl false (eVar 1) oNone (oSome (eBin subOp (eVar 4) (eC (.int 1))))) (eSl false (eVar 1) (oSome (eBin (addOp false) (eVar 4) (eC (.int 1)))) oNone)))) sNil))
noncomputable def B__law_left : MS :=
  (sSeq (sAsg (gN 1) (eCB (one1 (listA false)) (aCons (eVar 0) aNil)))
  (sSeq (sFor (mRng1 (aCons (eCB (one1 lenA) (aCons (eVar 0) aNil)) aNil)) (gN 2) L3__law_left)
  (sRet (eVar 1))))
noncomputable def M__law_left : List A → Store → Res A := fnM false 1 5 B__law_left
noncomputable def B__law_matrix_product : MS :=
  (sSeq (sAsg (gT 4 (gsCons (gN 3) (gsCons (gN 4) (gsCons (gN 5) (gsCons (gN 6) gsNil))))) (eVar 0))
  (sSeq (sAsg (gT 4 (gsCons (gN 7) (gsCons (gN 8) (gsCons (gN 9) (gsCons (gN 10) gsNil))))) (eVar 1))
  (sSeq (sAsg (gN 11) (eTup (aCons (eBin modOp (eCB (one1 intA) (aCons (eBin (addOp false) (eBin (mulOp false) (eVar 3) (eVar 7)) (eBin (mulOp false) (eVar 4) (eVar 9))) aNil)) (eVar 2)) (aCons (eBin modOp (eCB (one1 intA) (aCons (eBin (addOp false) (eBin (mulOp false) (eVar 3) (eVar 8)) (eBin (mulOp false) (eVar 4) (eVar 10))) aNil)) (eVar 2)) aNil))))
  (sRet (eTup (aCons (eBin ixOp (eVar 11) (eC (.int 0))) (aCons (eBin ixOp (eVar 11) (eC (.int 1))) (aCons (eBin modOp (eCB (one1 intA) (aCons (eBin (addOp false) (eBin (mulOp false) (eVar 5) (eVar 7)) (eBin (mulOp false) (eVar 6) (eVar 9))) aNil)) (eVar 2)) (aCons (eBin modOp (eCB (one1 intA) (aCons (eBin (addOp false) (eBin (mulOp false) (eVar 5) (eVar 8)) (eBin (mulOp false) (eVar 6) (eVar 10))) aNil)) (eVar 2)) aNil)))))))))
noncomputable def M__law_matrix_product : List A → Store → Res A := fnM false 3 12 B__law_matrix_product
noncomputable def L1__law_matrices : MS :=
  (sSeq (sAsg (gN 7) (eTup (aCons (eC (.int 1)) (aCons (eCall M__law_take (aCons (eVar 0) (aCons (eVar 2) aNil))) (aCons (eC (.int 0)) (aCons (eC (.int 1)) aNil))))))
  (sSeq (sAsg (gN 8) (eTup (aCons (eC (.int 1)) (aCons (eC (.int 0)) (aCons (eCall M__law_take (aCons (eVar 0) (aCons (eVar 2) aNil))) (aCons (eC (.int 1)) aNil))))))
  (sAsg (gN 5) (eCall M__law_matrix_product (aCons (eCall M__law_matrix_product (aCons (eVar 5) (aCons (eVar 7) (aCons (eVar 2) aNil)))) (aCons (eVar 8) (aCons (eVar 2) aNil)))))))
noncomputable def L2__law_matrices : MS :=
  (sSeq (sAsg (gN 5) (eTup (aCons (eC (.int 1)) (aCons (eC (.int 0)) (aCons (eC (.int 0)) (aCons (eC (.int 1)) aNil))))))
  (sSeq (sFor (mRng1 (aCons (eC (.int 3)) aNil)) (gN 6) L1__law_matrices)
  (sEx (eM "list" appendM (eVar 3) (aCons (eVar 5) aNil)))))
noncomputable def B__law_matrices : MS :=
  (sSeq (sAsg (gN 3) (eLst true aNil))
  (sSeq (sFor (mRng1 (aCons (eVar 1) aNil)) (gN 4) L2__law_matrices)
  (sRet (eVar 3))))
noncomputable def M__law_matrices : List A → Store → Res A := fnM false 3 9 B__law_matrices
noncomputable def B__law_matrix_inverse : MS :=
  (sSeq (sAsg (gT 4 (gsCons (gN 2) (gsCons (gN 3) (gsCons (gN 4) (gsCons (gN 5) gsNil))))) (eVar 0))
  (sRet (eTup (aCons (eVar 5) (aCons (eBin modOp (eCB (one1 intA) (aCons (eUn negOp (eVar 3)) aNil)) (eVar 1)) (aCons (eBin modOp (eCB (one1 intA) (aCons (eUn negOp (eVar 4)) aNil)) (eVar 1)) (aCons (eVar 2) aNil)))))))
noncomputable def M__law_matrix_inverse : List A → Store → Res A := fnM false 2 6 B__law_matrix_inverse
noncomputable def L1__law_tuple : MS :=
  (sSeq (sAsg (gN 5) (eCB (one1 absA) (aCons (eVar 4) aNil)))
  (sSeq (sAsg (gN 6) (eBin ixOp (eVar 3) (eBin subOp (eVar 5) (eC (.int 1)))))
  (sSeq (sAsg (gN 7) (eBin ixOp (eVar 3) (eVar 5)))
  (sIf (tOf (eBin gtOp (eVar 4) (eC (.int 0)))) (sSeq (sAsg (gN 8) (eCall M__law_matrix_product (aCons (eVar 6) (aCons (eVar 7) (aCons (eVar 2) aNil)))))
  (sSeq (sSub setL (eCall M__law_matrix_product (aCons (eVar 8) (aCons (eCall M__law_matrix_inverse (aCons (eVar 6) (aCons (eVar 2) aNil))) (aCons (eVar 2) aNil)))) (eVar 3) (eBin subOp (eVar 5) (eC (.int 1))))
  (sSub setL (eVar 6) (eVar 3) (eVar 5)))) (sSeq (sAsg (gN 8) (eCall M__law_matrix_product (aCons (eCall M__law_matrix_inverse (aCons (eVar 7) (aCons (eVar 2) aNil))) (aCons (eVar 6) (aCons (eVar 2) aNil)))))
  (sSeq (sSub setL (eVar 7) (eVar 3) (eBin subOp (eVar 5) (eC (.int 1))))
  (sSub setL (eCall M__law_matrix_product (aCons (eVar 8) (aCons (eVar 7) (aCons (eVar 2) aNil)))) (eVar 3) (eVar 5))))))))
noncomputable def B__law_tuple : MS :=
  (sSeq (sAsg (gN 3) (eCB (one1 (listA true)) (aCons (eVar 1) aNil)))
  (sSeq (sFor (mSeq (eUn (revL false) (eVar 0))) (gN 4) L1__law_tuple)
  (sRet (eVar 3))))
noncomputable def M__law_tuple : List A → Store → Res A := fnM false 3 9 B__law_tuple
noncomputable def L1__law_value : MS :=
  (sSeq (sAsg (gN 5) (eBin ixOp (eVar 1) (eBin subOp (eCB (one1 absA) (aCons (eVar 4) aNil)) (eC (.int 1)))))
  (sSeq (sIf (tOf (eBin ltOp (eVar 4) (eC (.int 0)))) (sAsg (gN 5) (eCall M__law_matrix_inverse (aCons (eVar 5) (aCons (eVar 2) aNil)))) sNil)
  (sAsg (gN 3) (eCall M__law_matrix_product (aCons (eVar 3) (aCons (eVar 5) (aCons (eVar 2) aNil)))))))
noncomputable def B__law_value : MS :=
  (sSeq (sAsg (gN 3) (eTup (aCons (eC (.int 1)) (aCons (eC (.int 0)) (aCons (eC (.int 0)) (aCons (eC (.int 1)) aNil))))))
  (sSeq (sFor (mSeq (eVar 0)) (gN 4) L1__law_value)
  (sRet (eVar 3))))
noncomputable def M__law_value : List A → Store → Res A := fnM false 3 6 B__law_value
noncomputable def L1__law_centre : MS :=
  (sIf (tAndM (tOf (eBin gtOp (eCB (one1 lenA) (aCons (eVar 1) aNil)) (eC (.int 1)))) (tOf (eBin eqOp (eBin ixOp (eVar 1) (eC (.int 0))) (eUn negOp (eBin ixOp (eVar 1) (eUn negOp (eC (.int 1)))))))) (sAsg (gN 1) (eSl false (eVar 1) (oSome (eC (.int 1))) (oSome (eUn negOp (eC (.int 1)))))) sNil)
noncomputable def B__law_centre : MS :=
  (sSeq (sAsg (gN 1) (eCB (one1 (listA false)) (aCons (eVar 0) aNil)))
  (sSeq (sFor (mRng1 (aCons (eCB (one1 lenA) (aCons (eVar 0) aNil)) aNil)) (gN 2) L1__law_centre)
  (sRet (eVar 1))))
noncomputable def M__law_centre : List A → Store → Res A := fnM false 1 3 B__law_centre
noncomputable def L1__law_ends : MS :=
  (sSeq (sAsg (gN 6) (eCB (one1 absA) (aCons (eVar 5) aNil)))
  (sIf (tOf (eBin eqOp (eVar 4) (eVar 6))) (sAsg (gN 4) (eBin subOp (eVar 6) (eC (.int 1)))) (sIf (tOf (eBin eqOp (eVar 4) (eBin subOp (eVar 6) (eC (.int 1))))) (sAsg (gN 4) (eVar 6)) sNil)))
noncomputable def L2__law_ends : MS :=
  (sSeq (sAsg (gN 4) (eVar 3))
  (sSeq (sFor (mSeq (eVar 1)) (gN 5) L1__law_ends)
  (sEx (eM "list" appendM (eVar 2) (aCons (eVar 4) aNil)))))
noncomputable def B__law_ends : MS :=
  (sSeq (sAsg (gN 2) (eLst true aNil))
  (sSeq (sFor (mRng1 (aCons (eVar 0) aNil)) (gN 3) L2__law_ends)
  (sRet (eVar 2))))
noncomputable def M__law_ends : List A → Store → Res A := fnM false 2 7 B__law_ends
noncomputable def t1__law_right : AEnv → Store → Res Bool :=
  (tOf (eBin eqOp (eBin ixOp (eBin ixOp (eVar 3) (eVar 9)) (eVar 11)) (eUn negOp (eBin ixOp (eBin ixOp (eVar 3) (eVar 9)) (eBin subOp (eVar 11) (eC (.int 1)))))))
noncomputable def e2__law_right : AEnv → Store → Res A :=
  (eVar 11)
noncomputable def L3__law_right : MS :=
  (sSeq (sIf (tOrM (tNotM (tTru (eCB (two2 isiB) (aCons (eBin ixOp (eVar 3) (eVar 9)) (aCons (eC (.ty "list")) aNil))))) (tOf (eBin neOp (eCall M__law_value (aCons (eBin ixOp (eVar 3) (eVar 9)) (aCons (eVar 5) (aCons (eVar 4) aNil)))) (eBin ixOp (eVar 6) (eVar 9))))) (sRet (eC (.bl false))) sNil)
  (sSeq (sIf (tOf (eBin gtOp (eCB (one1 lenA) (aCons (eLc false (mRng2 (aCons (eC (.int 1)) (aCons (eCB (one1 lenA) (aCons (eBin ixOp (eVar 3) (eVar 9)) aNil)) aNil))) (gN 11) [11] t1__law_right e2__law_right) aNil)) (eC (.int 0)))) (sRet (eC (.bl false))) sNil)
  (sSeq (sAsg (gN 7) (eBin (addOp false) (eVar 7) (eBin ixOp (eVar 3) (eVar 9))))
  (sEx (eM "list" appendM (eVar 8) (aCons (eCall M__law_centre (aCons (eBin ixOp (eVar 3) (eVar 9)) aNil)) aNil))))))
noncomputable def e4__law_right : AEnv → Store → Res A :=
  (eLst false (aCons (eBin (addOp false) (eVar 10) (eC (.int 1))) aNil))
noncomputable def B__law_right : MS :=
  (sSeq (sAsg (gN 4) (eBin ixOp (eLst false (aCons (eC (.int 101)) (aCons (eC (.int 10007)) (aCons (eC (.int 65537)) aNil)))) (eCall M__law_take (aCons (eVar 0) (aCons (eC (.int 3)) aNil)))))
  (sSeq (sAsg (gN 5) (eCall M__law_matrices (aCons (eVar 0) (aCons (eVar 1) (aCons (eVar 4) aNil)))))
  (sSeq (sAsg (gN 6) (eCall M__law_tuple (aCons (eVar 2) (aCons (eVar 5) (aCons (eVar 4) aNil)))))
  (sSeq (sAsg (gN 7) (eLst false aNil))
  (sSeq (sAsg (gN 8) (eLst true aNil))
  (sSeq (sIf (tOf (eBin neOp (eCB (one1 lenA) (aCons (eVar 3) aNil)) (eVar 1))) (sRet (eC (.bl false))) sNil)
  (sSeq (sFor (mRng1 (aCons (eVar 1) aNil)) (gN 9) L3__law_right)
  (sSeq (sIf (tOf (eBin neOp (eCall M__law_reduced (aCons (eVar 7) aNil)) (eRg (some false) (aCons (eC (.int 1)) (aCons (eBin (addOp false) (eVar 1) (eC (.int 1))) aNil))))) (sRet (eC (.bl false))) sNil)
  (sRet (eBin eqOp (eCall M__law_plain (aCons (eVar 8) aNil)) (eCall M__law_plain (aCons (eLc false (mSeq (eCall M__law_ends (aCons (eVar 1) (aCons (eVar 2) aNil)))) (gN 10) [10] tYesM e4__law_right) aNil))))))))))))
noncomputable def M__law_right : List A → Store → Res A := fnM false 4 12 B__law_right
noncomputable def B__law_stepped : MS :=
  (sSeq (sAsg (gN 3) (eCall M__law_take (aCons (eVar 0) (aCons (eC (.int 5)) aNil))))
  (sSeq (sAsg (gN 4) (eCall M__law_take (aCons (eVar 0) (aCons (eBin (addOp false) (eCB (one1 lenA) (aCons (eVar 2) aNil)) (eC (.int 1))) aNil))))
  (sSeq (sIf (tOf (eBin eqOp (eVar 1) (eC (.int 1)))) (sRet (eVar 2)) sNil)
  (sSeq (sIf (tOf (eBin ltOp (eVar 3) (eC (.int 2)))) (sSeq (sAsg (gN 6) (eBin (addOp false) (eC (.int 1)) (eCall M__law_take (aCons (eVar 0) (aCons (eBin subOp (eVar 1) (eC (.int 1))) aNil)))))
  (sSeq (sAsg (gN 6) (eBin ixOp (eLst false (aCons (eVar 6) (aCons (eUn negOp (eVar 6)) aNil))) (eCall M__law_take (aCons (eVar 0) (aCons (eC (.int 2)) aNil)))))
  (sRet (eBin (addOp false) (eBin (addOp false) (eSl false (eVar 2) oNone (oSome (eVar 4))) (eLst false (aCons (eVar 6) (aCons (eUn negOp (eVar 6)) aNil)))) (eSl false (eVar 2) (oSome (eVar 4)) oNone))))) sNil)
  (sSeq (sAsg (gN 5) (eSl false (eVar 2) (oSome (eVar 4)) (oSome (eBin (addOp false) (eVar 4) (eC (.int 3))))))
  (sSeq (sIf (tAndM (tOf (eBin eqOp (eVar 3) (eC (.int 2)))) (tAndM (tOf (eBin gtOp (eCB (one1 lenA) (aCons (eVar 5) aNil)) (eC (.int 1)))) (tOf (eBin eqOp (eBin ixOp (eVar 5) (eC (.int 0))) (eUn negOp (eBin ixOp (eVar 5) (eC (.int 1)))))))) (sRet (eBin (addOp false) (eSl false (eVar 2) oNone (oSome (eVar 4))) (eSl false (eVar 2) (oSome (eBin (addOp false) (eVar 4) (eC (.int 2)))) oNone))) sNil)
  (sSeq (sIf (tAndM (tOf (eBin gtOp (eCB (one1 lenA) (aCons (eVar 5) aNil)) (eC (.int 1)))) (tOf (eBin gtOp (eCB (one1 absA) (aCons (eBin subOp (eCB (one1 absA) (aCons (eBin ixOp (eVar 5) (eC (.int 0))) aNil)) (eCB (one1 absA) (aCons (eBin ixOp (eVar 5) (eC (.int 1))) aNil))) aNil)) (eC (.int 1))))) (sRet (eBin (addOp false) (eBin (addOp false) (eSl false (eVar 2) oNone (oSome (eVar 4))) (eLst false (aCons (eBin ixOp (eVar 5) (eC (.int 1))) (aCons (eBin ixOp (eVar 5) (eC (.int 0))) aNil)))) (eSl false (eVar 2) (oSome (eBin (addOp false) (eVar 4) (eC (.int 2)))) oNone))) sNil)
  (sSeq (sIf (tAndM (tOf (eBin eqOp (eCB (one1 lenA) (aCons (eVar 5) aNil)) (eC (.int 3)))) (tAndM (tOf (eBin eqOp (eBin ixOp (eVar 5) (eC (.int 0))) (eBin ixOp (eVar 5) (eC (.int 2))))) (tOf (eBin eqOp (eCB (one1 absA) (aCons (eBin subOp (eCB (one1 absA) (aCons (eBin ixOp (eVar 5) (eC (.int 0))) aNil)) (eCB (one1 absA) (aCons (eBin ixOp (eVar 5) (eC (.int 1))) aNil))) aNil)) (eC (.int 1)))))) (sIf (tOf (eBin eqOp (eBin gtOp (eBin ixOp (eVar 5) (eC (.int 0))) (eC (.int 0))) (eBin gtOp (eBin ixOp (eVar 5) (eC (.int 1))) (eC (.int 0))))) (sRet (eBin (addOp false) (eBin (addOp false) (eSl false (eVar 2) oNone (oSome (eVar 4))) (eLst false (aCons (eBin ixOp (eVar 5) (eC (.int 1))) (aCons (eBin ixOp (eVar 5) (eC (.int 0))) (aCons (eBin ixOp (eVar 5) (eC (.int 1))) aNil))))) (eSl false (eVar 2) (oSome (eBin (addOp false) (eVar 4) (eC (.int 3)))) oNone))) sNil) sNil)
  (sRet (eVar 2))))))))))
noncomputable def M__law_stepped : List A → Store → Res A := fnM false 3 7 B__law_stepped
noncomputable def L1__law_scrambled : MS :=
  (sAsg (gN 4) (eCall M__law_stepped (aCons (eVar 0) (aCons (eVar 1) (aCons (eVar 4) aNil)))))
noncomputable def B__law_scrambled : MS :=
  (sSeq (sAsg (gN 4) (eCB (one1 (listA false)) (aCons (eVar 2) aNil)))
  (sSeq (sFor (mRng1 (aCons (eVar 3) aNil)) (gN 5) L1__law_scrambled)
  (sRet (eVar 4))))
noncomputable def M__law_scrambled : List A → Store → Res A := fnM false 4 6 B__law_scrambled
noncomputable def e1_law : AEnv → Store → Res A :=
  (eUn negOp (eVar 11))
noncomputable def e2_law : AEnv → Store → Res A :=
  (eLst false (aCons (eBin (addOp false) (eVar 12) (eC (.int 1))) aNil))
noncomputable def B_law : MS :=
  (sSeq (sAsg (gN 1) (eCall M__law_deck (aCons (eVar 0) (aCons (eC (.int 50)) (aCons (eC (.int 14)) aNil)))))
  (sSeq (sAsg (gN 2) (eBin ixOp (eLst false (aCons (eBin (addOp false) (eC (.int 1)) (eCall M__law_take (aCons (eVar 1) (aCons (eC (.int 8)) aNil)))) (aCons (eBin (addOp false) (eC (.int 2)) (eCall M__law_take (aCons (eVar 1) (aCons (eC (.int 3)) aNil)))) aNil))) (eCall M__law_take (aCons (eVar 1) (aCons (eC (.int 2)) aNil)))))
  (sSeq (sAsg (gN 3) (eCall M__law_word (aCons (eVar 1) (aCons (eVar 2) (aCons (eBin ixOp (eLst false (aCons (eC (.int 5)) (aCons (eC (.int 8)) (aCons (eC (.int 11)) (aCons (eC (.int 14)) aNil))))) (eCall M__law_take (aCons (eVar 1) (aCons (eC (.int 4)) aNil)))) aNil)))))
  (sSeq (sIf (tOf (eBin eqOp (eCall M__law_take (aCons (eVar 1) (aCons (eC (.int 30)) aNil))) (eC (.int 0)))) (sSeq (sAsg (gN 3) (eBin (mulOp false) (eLst false (aCons (eC (.int 1)) (aCons (eUn negOp (eC (.int 2))) aNil))) (eBin (addOp false) (eC (.int 9)) (eCall M__law_take (aCons (eVar 1) (aCons (eC (.int 2)) aNil))))))
  (sSeq (sAsg (gN 10) (eCall M__law_images (aCons (eC (.int 3)) (aCons (eVar 3) (aCons (eC (.int 20000)) aNil)))))
  (sSeq (sAsg (gN 10) (eIf (tOf (eBin (isNOp false) (eVar 10) (eC .non))) (eTup (aCons (eC (.str "too many")) (aCons (eC (.str "letters")) aNil))) (eVar 10)))
  (sRet (eBin eqOp (eCall M__law_plain (aCons (eCall M__law_told (aCons (eC (.int 3)) (aCons (eVar 3) aNil))) aNil)) (eCall M__law_plain (aCons (eVar 10) aNil))))))) sNil)
  (sSeq (sAsg (gN 4) (eCall M__law_free_word (aCons (eVar 1) aNil)))
  (sSeq (sIf (tOf (eBin neOp (eCall M__law_plain (aCons (eCall M_reduced_word (aCons (eVar 4) aNil)) aNil)) (eCall M__law_plain (aCons (eCall M__law_left (aCons (eVar 4) aNil)) aNil)))) (sRet (eC (.bl false))) sNil)
  (sSeq (sAsg (gN 5) (eCall M__law_told (aCons (eVar 2) (aCons (eVar 3) aNil))))
  (sSeq (sAsg (gN 6) (eCall M__law_images (aCons (eVar 2) (aCons (eVar 3) (aCons (eC (.int 20000)) aNil)))))
  (sSeq (sIf (tOrM (tTru (eCB (two2 isiB) (aCons (eVar 5) (aCons (eC (.ty "tuple")) aNil)))) (tOf (eBin (isNOp false) (eVar 6) (eC .non)))) (sRet (eAndV (eBin (isNOp false) (eVar 6) (eC .non)) (eBin eqOp (eVar 5) (eTup (aCons (eC (.str "too many")) (aCons (eC (.str "letters")) aNil)))))) sNil)
  (sSeq (sIf (tNotM (tTru (eCall M__law_right (aCons (eVar 1) (aCons (eVar 2) (aCons (eVar 3) (aCons (eVar 5) aNil))))))) (sRet (eC (.bl false))) sNil)
  (sSeq (sAsg (gN 7) (eCall M__law_scrambled (aCons (eVar 1) (aCons (eVar 2) (aCons (eVar 3) (aCons (eCall M__law_take (aCons (eVar 1) (aCons (eC (.int 21)) aNil))) aNil))))))
  (sSeq (sAsg (gN 8) (eCall M__law_told (aCons (eVar 2) (aCons (eVar 7) aNil))))
  (sSeq (sIf (tAndM (tNotM (tTru (eCB (two2 isiB) (aCons (eVar 8) (aCons (eC (.ty "tuple")) aNil))))) (tOf (eBin neOp (eCall M__law_plain (aCons (eVar 8) aNil)) (eCall M__law_plain (aCons (eVar 5) aNil))))) (sRet (eC (.bl false))) sNil)
  (sSeq (sAsg (gN 9) (eCall M__law_told (aCons (eVar 2) (aCons (eBin (addOp false) (eVar 3) (eLc false (mSeq (eUn (revL false) (eVar 3))) (gN 11) [11] tYesM e1_law)) aNil))))
  (sRet (eBin eqOp (eCall M__law_plain (aCons (eVar 9) aNil)) (eCall M__law_plain (aCons (eLc false (mRng1 (aCons (eVar 2) aNil)) (gN 12) [12] tYesM e2_law) aNil))))))))))))))))))
noncomputable def M_law : List A → Store → Res A := fnM false 1 13 B_law
end Gk07

set_option Elab.async false
set_option linter.all false
set_option maxRecDepth 100000
set_option maxHeartbeats 4000000
namespace Gk07
open PySem PySem.Spec L2 SL
open PyProof.Rows hiding St
structure Txt (w : World) (K : PySem.W.Frag) (mg : Str → Option Value) : Prop where
  b_abs : mg "abs" = none
  b_bool : mg "bool" = none
  b_int : mg "int" = none
  b_isinstance : mg "isinstance" = none
  b_len : mg "len" = none
  b_list : mg "list" = none
  b_max : mg "max" = none
  b_range : mg "range" = none
  b_reversed : mg "reversed" = none
  b_str : mg "str" = none
  b_tuple : mg "tuple" = none
  g__law_deck : mg "_law_deck" = some (.ref (He.ga K "_law_deck"))
  g__law_take : mg "_law_take" = some (.ref (He.ga K "_law_take"))
  g__law_word : mg "_law_word" = some (.ref (He.ga K "_law_word"))
  g__law_reduced : mg "_law_reduced" = some (.ref (He.ga K "_law_reduced"))
  g__law_image : mg "_law_image" = some (.ref (He.ga K "_law_image"))
  g__law_images : mg "_law_images" = some (.ref (He.ga K "_law_images"))
  g_images_under : mg "images_under" = some (.ref (He.ga K "images_under"))
  g_reduced_word : mg "reduced_word" = some (.ref (He.ga K "reduced_word"))
  g_moved_word : mg "moved_word" = some (.ref (He.ga K "moved_word"))
  g_action : mg "action" = some (.ref (He.ga K "action"))
  g__law_told : mg "_law_told" = some (.ref (He.ga K "_law_told"))
  g__law_plain : mg "_law_plain" = some (.ref (He.ga K "_law_plain"))
  g__law_free_word : mg "_law_free_word" = some (.ref (He.ga K "_law_free_word"))
  g__law_left : mg "_law_left" = some (.ref (He.ga K "_law_left"))
  g__law_matrix_product : mg "_law_matrix_product" = some (.ref (He.ga K "_law_matrix_product"))
  g__law_matrices : mg "_law_matrices" = some (.ref (He.ga K "_law_matrices"))
  g__law_matrix_inverse : mg "_law_matrix_inverse" = some (.ref (He.ga K "_law_matrix_inverse"))
  g__law_tuple : mg "_law_tuple" = some (.ref (He.ga K "_law_tuple"))
  g__law_value : mg "_law_value" = some (.ref (He.ga K "_law_value"))
  g__law_centre : mg "_law_centre" = some (.ref (He.ga K "_law_centre"))
  g__law_ends : mg "_law_ends" = some (.ref (He.ga K "_law_ends"))
  g__law_right : mg "_law_right" = some (.ref (He.ga K "_law_right"))
  g__law_stepped : mg "_law_stepped" = some (.ref (He.ga K "_law_stepped"))
  g__law_scrambled : mg "_law_scrambled" = some (.ref (He.ga K "_law_scrambled"))
  g_law : mg "law" = some (.ref (He.ga K "law"))
  cl_Braid : Cls K (He.ga K "Braid")
  fl_strands : ∀ c ∈ (["Braid"] : List Str), Cls K (He.ga K c) ∧ NoAttr K (He.ga K c) "strands"
  fl_word : ∀ c ∈ (["Braid"] : List Str), Cls K (He.ga K c) ∧ NoAttr K (He.ga K c) "word"
  mk_Braid : Mk K (He.ga K "Braid") (He.ma K (He.ga K "Braid") "__init__")
  g_KnotError : mg "KnotError" = some (.ref (He.ga K "KnotError"))
  g_InvalidBraid : mg "InvalidBraid" = some (.ref (He.ga K "InvalidBraid"))
  g_TooMany : mg "TooMany" = some (.ref (He.ga K "TooMany"))
  g_Braid : mg "Braid" = some (.ref (He.ga K "Braid"))
  gi_MOST_LETTERS_action : ∃ t, mg "MOST_LETTERS_action" = some (.int 20000 t)
  gi_MOST_LETTERS_words : ∃ t, mg "MOST_LETTERS_words" = some (.int 2000 t)
  gi_MOST_STRANDS : ∃ t, mg "MOST_STRANDS" = some (.int 8 t)
  xm_TooMany : ∀ p ∈ ([("InvalidBraid", false), ("TooMany", true)] : List (Str × Bool)), PySem.W.exmOne K (.ref (He.ga K p.1)) (.ref (He.ga K "TooMany")) = some p.2
  xf : ∀ c ∈ (["InvalidBraid", "TooMany"] : List Str), XfC K (He.ga K c) ∧ PySem.W.findIn K (.ref (He.ga K c)) "what" = some none
section
variable {P : Program} {w : World} {K : PySem.W.Frag} {mg : Str → Option Value} {base : Heap}
theorem sc__law_deck : FnScope ["script", "cells", "each", "deck", "seed", "k", "cell", "rest", "at"] ["script", "cells", "each"] (defScope s__law_deck) := ⟨rfl, rfl, rfl, by decide +kernel, rfl, by decide +kernel, by decide +kernel⟩
theorem ok__law_deck (T : Txt w K mg)   {fd : FuncData} (F : FunD K "_law_deck" "_law_deck" (defArgs s__law_deck) (defBody s__law_deck) (defScope s__law_deck) [] [] (He.ga K "_law_deck") fd) : FnS P w K mg base 1 (He.ga K "_law_deck") ["script", "cells", "each"] M__law_deck :=
  fnS_of (rc := true) (N := ["script", "cells", "each", "deck", "seed", "k", "cell", "rest", "at"]) (ps := ["script", "cells", "each"]) (k := 0) (m := B__law_deck) F sc__law_deck (F.bindsN fun _ _ _ _ _ _ us hl => match us, hl with | [_, _, _], _ => rfl) (by
    refine b_cons ?_ ?_
    · refine st_set (i := 3) rfl (.inl rfl) ?_
      refine s_lst (mk := true) ?_
      exact a_nil 
    · refine b_cons ?_ ?_
      · refine st_set (i := 4) rfl (.inl rfl) ?_
        refine s_add (mk := false) ?_ ?_
        · exact s_int 
        · refine s_cb (cb_len) rfl T.b_len PySem.boot_len ?_
          refine a_cons ?_ ?_
          · exact s_var (i := 0) rfl (.inl rfl)
          · exact a_nil 
      · refine b_cons ?_ ?_
        · refine st_for (own := [5]) ?_ ?_ ?_
          · refine i_rng1 rfl T.b_range ?_
            refine a_cons ?_ ?_
            · exact s_var (i := 1) rfl (.inl rfl)
            · exact a_nil 
          · exact g_name (i := 5) rfl (.inl rfl)
          · refine b_cons ?_ ?_
            · refine st_set (i := 6) rfl (.inl rfl) ?_
              exact s_int 
            · refine b_cons ?_ ?_
              · refine st_if ?_ ?_ ?_
                · refine t_c c_lt ?_ ?_
                  · exact s_var (i := 5) rfl (.inl rfl)
                  · refine s_cb (cb_len) rfl T.b_len PySem.boot_len ?_
                    refine a_cons ?_ ?_
                    · exact s_var (i := 0) rfl (.inl rfl)
                    · exact a_nil 
                · refine b_one ?_
                  refine st_set (i := 6) rfl (.inl rfl) ?_
                  refine s_ix ?_ ?_
                  · exact s_var (i := 0) rfl (.inl rfl)
                  · exact s_var (i := 5) rfl (.inl rfl)
                · exact b_nil 
              · refine b_cons ?_ ?_
                · refine st_set (i := 7) rfl (.inl rfl) ?_
                  refine s_cb (cb_abs) rfl T.b_abs PyProof.Rows.boot_abs ?_
                  refine a_cons ?_ ?_
                  · exact s_var (i := 6) rfl (.inl rfl)
                  · exact a_nil 
                · refine b_one ?_
                  refine st_if ?_ ?_ ?_
                  · refine t_c c_ge ?_ ?_
                    · exact s_var (i := 7) rfl (.inl rfl)
                    · refine s_pow ?_ ?_
                      · exact s_int 
                      · exact s_int 
                  · refine b_one ?_
                    refine st_for (own := [8]) ?_ ?_ ?_
                    · refine i_rng1 rfl T.b_range ?_
                      refine a_cons ?_ ?_
                      · exact s_var (i := 2) rfl (.inl rfl)
                      · exact a_nil 
                    · exact g_name (i := 8) rfl (.inl rfl)
                    · refine b_cons ?_ ?_
                      · refine st_ex ?_
                        refine s_m PySem.F.plainAttrs_list PySem.F.slot_list_append PySem.F.type_list_append m_append ?_ ?_
                        · exact s_var (i := 3) rfl (.inl rfl)
                        · refine a_cons ?_ ?_
                          · refine s_mod ?_ ?_
                            · refine s_cty (cb_int) rfl T.b_int PyProof.Rows.boot_int ?_
                              refine a_cons ?_ ?_
                              · exact s_var (i := 7) rfl (.inl rfl)
                              · exact a_nil 
                            · exact s_int 
                          · exact a_nil 
                      · refine b_one ?_
                        refine st_set (i := 7) rfl (.inl rfl) ?_
                        refine s_fdiv ?_ ?_
                        · exact s_var (i := 7) rfl (.inl rfl)
                        · exact s_int 
                  · refine b_cons ?_ ?_
                    · refine st_set (i := 4) rfl (.inl rfl) ?_
                      refine s_mod ?_ ?_
                      · refine s_cty (cb_int) rfl T.b_int PyProof.Rows.boot_int ?_
                        refine a_cons ?_ ?_
                        · refine s_add (mk := false) ?_ ?_
                          · refine s_add (mk := false) ?_ ?_
                            · refine s_add (mk := false) ?_ ?_
                              · refine s_mul (mk := false) ?_ ?_
                                · exact s_var (i := 4) rfl (.inl rfl)
                                · exact s_int 
                              · refine s_mul (mk := false) ?_ ?_
                                · exact s_int 
                                · exact s_var (i := 7) rfl (.inl rfl)
                            · refine s_cty (cb_int) rfl T.b_int PyProof.Rows.boot_int ?_
                              refine a_cons ?_ ?_
                              · refine s_c c_lt ?_ ?_
                                · exact s_var (i := 6) rfl (.inl rfl)
                                · exact s_int 
                              · exact a_nil 
                          · exact s_var (i := 5) rfl (.inl rfl)
                        · exact a_nil 
                      · exact s_int 
                    · refine b_one ?_
                      refine st_for (own := [8]) ?_ ?_ ?_
                      · refine i_rng1 rfl T.b_range ?_
                        refine a_cons ?_ ?_
                        · exact s_var (i := 2) rfl (.inl rfl)
                        · exact a_nil 
                      · exact g_name (i := 8) rfl (.inl rfl)
                      · refine b_cons ?_ ?_
                        · refine st_set (i := 4) rfl (.inl rfl) ?_
                          refine s_mod ?_ ?_
                          · refine s_cty (cb_int) rfl T.b_int PyProof.Rows.boot_int ?_
                            refine a_cons ?_ ?_
                            · refine s_add (mk := false) ?_ ?_
                              · refine s_add (mk := false) ?_ ?_
                                · refine s_mul (mk := false) ?_ ?_
                                  · exact s_var (i := 4) rfl (.inl rfl)
                                  · exact s_int 
                                · exact s_var (i := 8) rfl (.inl rfl)
                              · exact s_int 
                            · exact a_nil 
                          · exact s_int 
                        · refine b_one ?_
                          refine st_ex ?_
                          refine s_m PySem.F.plainAttrs_list PySem.F.slot_list_append PySem.F.type_list_append m_append ?_ ?_
                          · exact s_var (i := 3) rfl (.inl rfl)
                          · refine a_cons ?_ ?_
                            · refine s_mod ?_ ?_
                              · refine s_cty (cb_int) rfl T.b_int PyProof.Rows.boot_int ?_
                                refine a_cons ?_ ?_
                                · refine s_fdiv ?_ ?_
                                  · exact s_var (i := 4) rfl (.inl rfl)
                                  · exact s_int 
                                · exact a_nil 
                              · exact s_int 
                            · exact a_nil 
        · refine b_cons ?_ ?_
          · refine st_ex ?_
            refine s_m0 PySem.F.plainAttrs_list PySem.F.slot_list_reverse PySem.F.type_list_reverse m_reverse ?_
            exact s_var (i := 3) rfl (.inl rfl)
          · refine b_one ?_
            refine st_ret ?_
            exact s_var (i := 3) rfl (.inl rfl)
    )
theorem sc__law_take : FnScope ["deck", "many"] ["deck", "many"] (defScope s__law_take) := ⟨rfl, rfl, rfl, by decide +kernel, rfl, by decide +kernel, by decide +kernel⟩
theorem ok__law_take (T : Txt w K mg)   {fd : FuncData} (F : FunD K "_law_take" "_law_take" (defArgs s__law_take) (defBody s__law_take) (defScope s__law_take) [] [] (He.ga K "_law_take") fd) : FnS P w K mg base 1 (He.ga K "_law_take") ["deck", "many"] M__law_take :=
  fnS_of (rc := false) (N := ["deck", "many"]) (ps := ["deck", "many"]) (k := 0) (m := B__law_take) F sc__law_take (F.bindsN fun _ _ _ _ _ _ us hl => match us, hl with | [_, _], _ => rfl) (by
    refine b_cons ?_ ?_
    · refine st_if ?_ ?_ ?_
      · refine t_c c_eq ?_ ?_
        · refine s_cb (cb_len) rfl T.b_len PySem.boot_len ?_
          refine a_cons ?_ ?_
          · exact s_var (i := 0) rfl (.inl rfl)
          · exact a_nil 
        · exact s_int 
      · refine b_one ?_
        refine st_ret ?_
        exact s_int 
      · exact b_nil 
    · refine b_one ?_
      refine st_ret ?_
      refine s_mod ?_ ?_
      · refine s_cty (cb_int) rfl T.b_int PyProof.Rows.boot_int ?_
        refine a_cons ?_ ?_
        · refine s_m0 PySem.F.plainAttrs_list PySem.F.slot_list_pop PySem.F.type_list_pop m_pop ?_
          exact s_var (i := 0) rfl (.inl rfl)
        · exact a_nil 
      · exact s_var (i := 1) rfl (.inl rfl)
    )
theorem sc__law_word : FnScope ["deck", "strands", "most", "word", "at", "letter"] ["deck", "strands", "most"] (defScope s__law_word) := ⟨rfl, rfl, rfl, by decide +kernel, rfl, by decide +kernel, by decide +kernel⟩
theorem ok__law_word (T : Txt w K mg) (F__law_take : FnS P w K mg base 1 (He.ga K "_law_take") ["deck", "many"] M__law_take)  {fd : FuncData} (F : FunD K "_law_word" "_law_word" (defArgs s__law_word) (defBody s__law_word) (defScope s__law_word) [] [] (He.ga K "_law_word") fd) : FnS P w K mg base 2 (He.ga K "_law_word") ["deck", "strands", "most"] M__law_word :=
  fnS_of (rc := false) (N := ["deck", "strands", "most", "word", "at", "letter"]) (ps := ["deck", "strands", "most"]) (k := 1) (m := B__law_word) F sc__law_word (F.bindsN fun _ _ _ _ _ _ us hl => match us, hl with | [_, _, _], _ => rfl) (by
    refine b_cons ?_ ?_
    · refine st_set (i := 3) rfl (.inl rfl) ?_
      refine s_lst (mk := true) ?_
      exact a_nil 
    · refine b_cons ?_ ?_
      · refine st_for (own := [4]) ?_ ?_ ?_
        · refine i_rng1 rfl T.b_range ?_
          refine a_cons ?_ ?_
          · refine s_mul (mk := false) ?_ ?_
            · refine s_call F__law_take (Nat.le_of_ble_eq_true rfl) rfl T.g__law_take ?_
              refine a_cons ?_ ?_
              · exact s_var (i := 0) rfl (.inl rfl)
              · refine a_cons ?_ ?_
                · refine s_add (mk := false) ?_ ?_
                  · exact s_var (i := 2) rfl (.inl rfl)
                  · exact s_int 
                · exact a_nil 
            · refine s_cty (cb_int) rfl T.b_int PyProof.Rows.boot_int ?_
              refine a_cons ?_ ?_
              · refine s_c c_gt ?_ ?_
                · exact s_var (i := 1) rfl (.inl rfl)
                · exact s_int 
              · exact a_nil 
          · exact a_nil 
        · exact g_name (i := 4) rfl (.inl rfl)
        · refine b_cons ?_ ?_
          · refine st_set (i := 5) rfl (.inl rfl) ?_
            refine s_add (mk := false) ?_ ?_
            · exact s_int 
            · refine s_call F__law_take (Nat.le_of_ble_eq_true rfl) rfl T.g__law_take ?_
              refine a_cons ?_ ?_
              · exact s_var (i := 0) rfl (.inl rfl)
              · refine a_cons ?_ ?_
                · refine s_sub ?_ ?_
                  · exact s_var (i := 1) rfl (.inl rfl)
                  · exact s_int 
                · exact a_nil 
          · refine b_one ?_
            refine st_ex ?_
            refine s_m PySem.F.plainAttrs_list PySem.F.slot_list_append PySem.F.type_list_append m_append ?_ ?_
            · exact s_var (i := 3) rfl (.inl rfl)
            · refine a_cons ?_ ?_
              · refine s_ix ?_ ?_
                · refine s_lst (mk := false) ?_
                  refine a_cons ?_ ?_
                  · exact s_var (i := 5) rfl (.inl rfl)
                  · refine a_cons ?_ ?_
                    · refine s_neg ?_
                      exact s_var (i := 5) rfl (.inl rfl)
                    · exact a_nil 
                · refine s_call F__law_take (Nat.le_of_ble_eq_true rfl) rfl T.g__law_take ?_
                  refine a_cons ?_ ?_
                  · exact s_var (i := 0) rfl (.inl rfl)
                  · refine a_cons ?_ ?_
                    · exact s_int 
                    · exact a_nil 
              · exact a_nil 
      · refine b_one ?_
        refine st_ret ?_
        exact s_var (i := 3) rfl (.inl rfl)
    )
theorem sc__law_reduced : FnScope ["word", "found", "letter"] ["word"] (defScope s__law_reduced) := ⟨rfl, rfl, rfl, by decide +kernel, rfl, by decide +kernel, by decide +kernel⟩
theorem ok__law_reduced (T : Txt w K mg)   {fd : FuncData} (F : FunD K "_law_reduced" "_law_reduced" (defArgs s__law_reduced) (defBody s__law_reduced) (defScope s__law_reduced) [] [] (He.ga K "_law_reduced") fd) : FnS P w K mg base 1 (He.ga K "_law_reduced") ["word"] M__law_reduced :=
  fnS_of (rc := false) (N := ["word", "found", "letter"]) (ps := ["word"]) (k := 0) (m := B__law_reduced) F sc__law_reduced (F.bindsN fun _ _ _ _ _ _ us hl => match us, hl with | [_], _ => rfl) (by
    refine b_cons ?_ ?_
    · refine st_set (i := 1) rfl (.inl rfl) ?_
      refine s_lst (mk := true) ?_
      exact a_nil 
    · refine b_cons ?_ ?_
      · refine st_for (own := [2]) ?_ ?_ ?_
        · refine i_seq ?_
          exact s_var (i := 0) rfl (.inl rfl)
        · exact g_name (i := 2) rfl (.inl rfl)
        · refine b_one ?_
          refine st_if ?_ ?_ ?_
          · refine t_w ?_
            refine w_and ?_ ?_
            · refine t_c c_gt ?_ ?_
              · refine s_cb (cb_len) rfl T.b_len PySem.boot_len ?_
                refine a_cons ?_ ?_
                · exact s_var (i := 1) rfl (.inl rfl)
                · exact a_nil 
              · exact s_int 
            · refine w_and1 ?_
              refine t_c c_eq ?_ ?_
              · refine s_ix ?_ ?_
                · exact s_var (i := 1) rfl (.inl rfl)
                · refine s_neg ?_
                  exact s_int 
              · refine s_neg ?_
                exact s_var (i := 2) rfl (.inl rfl)
          · refine b_one ?_
            refine st_ex ?_
            refine s_m0 PySem.F.plainAttrs_list PySem.F.slot_list_pop PySem.F.type_list_pop m_pop ?_
            exact s_var (i := 1) rfl (.inl rfl)
          · refine b_one ?_
            refine st_ex ?_
            refine s_m PySem.F.plainAttrs_list PySem.F.slot_list_append PySem.F.type_list_append m_append ?_ ?_
            · exact s_var (i := 1) rfl (.inl rfl)
            · refine a_cons ?_ ?_
              · exact s_var (i := 2) rfl (.inl rfl)
              · exact a_nil 
      · refine b_one ?_
        refine st_ret ?_
        exact s_var (i := 1) rfl (.inl rfl)
    )
theorem sc__law_image : FnScope ["word", "letter", "left", "found", "part", "image", "one"] ["word", "letter"] (defScope s__law_image) := ⟨rfl, rfl, rfl, by decide +kernel, rfl, by decide +kernel, by decide +kernel⟩
theorem ok__law_image (T : Txt w K mg) (F__law_reduced : FnS P w K mg base 1 (He.ga K "_law_reduced") ["word"] M__law_reduced)  {fd : FuncData} (F : FunD K "_law_image" "_law_image" (defArgs s__law_image) (defBody s__law_image) (defScope s__law_image) [] [] (He.ga K "_law_image") fd) : FnS P w K mg base 2 (He.ga K "_law_image") ["word", "letter"] M__law_image :=
  fnS_of (rc := false) (N := ["word", "letter", "left", "found", "part", "image", "one"]) (ps := ["word", "letter"]) (k := 1) (m := B__law_image) F sc__law_image (F.bindsN fun _ _ _ _ _ _ us hl => match us, hl with | [_, _], _ => rfl) (by
    refine b_cons ?_ ?_
    · refine st_set (i := 2) rfl (.inl rfl) ?_
      refine s_cb (cb_abs) rfl T.b_abs PyProof.Rows.boot_abs ?_
      refine a_cons ?_ ?_
      · exact s_var (i := 1) rfl (.inl rfl)
      · exact a_nil 
    · refine b_cons ?_ ?_
      · refine st_set (i := 3) rfl (.inl rfl) ?_
        refine s_lst (mk := true) ?_
        exact a_nil 
      · refine b_cons ?_ ?_
        · refine st_for (own := [4]) ?_ ?_ ?_
          · refine i_seq ?_
            exact s_var (i := 0) rfl (.inl rfl)
          · exact g_name (i := 4) rfl (.inl rfl)
          · refine b_cons ?_ ?_
            · refine st_set (i := 5) rfl (.inl rfl) ?_
              refine s_lst (mk := false) ?_
              refine a_cons ?_ ?_
              · refine s_cb (cb_abs) rfl T.b_abs PyProof.Rows.boot_abs ?_
                refine a_cons ?_ ?_
                · exact s_var (i := 4) rfl (.inl rfl)
                · exact a_nil 
              · exact a_nil 
            · refine b_cons ?_ ?_
              · refine st_if ?_ ?_ ?_
                · refine t_w ?_
                  refine w_and ?_ ?_
                  · refine t_c c_gt ?_ ?_
                    · exact s_var (i := 1) rfl (.inl rfl)
                    · exact s_int 
                  · refine w_and1 ?_
                    refine t_c c_eq ?_ ?_
                    · refine s_cb (cb_abs) rfl T.b_abs PyProof.Rows.boot_abs ?_
                      refine a_cons ?_ ?_
                      · exact s_var (i := 4) rfl (.inl rfl)
                      · exact a_nil 
                    · exact s_var (i := 2) rfl (.inl rfl)
                · refine b_one ?_
                  refine st_set (i := 5) rfl (.inl rfl) ?_
                  refine s_lst (mk := false) ?_
                  refine a_cons ?_ ?_
                  · exact s_var (i := 2) rfl (.inl rfl)
                  · refine a_cons ?_ ?_
                    · refine s_add (mk := false) ?_ ?_
                      · exact s_var (i := 2) rfl (.inl rfl)
                      · exact s_int 
                    · refine a_cons ?_ ?_
                      · refine s_neg ?_
                        exact s_var (i := 2) rfl (.inl rfl)
                      · exact a_nil 
                · refine b_one ?_
                  refine st_if ?_ ?_ ?_
                  · refine t_w ?_
                    refine w_and ?_ ?_
                    · refine t_c c_gt ?_ ?_
                      · exact s_var (i := 1) rfl (.inl rfl)
                      · exact s_int 
                    · refine w_and1 ?_
                      refine t_c c_eq ?_ ?_
                      · refine s_cb (cb_abs) rfl T.b_abs PyProof.Rows.boot_abs ?_
                        refine a_cons ?_ ?_
                        · exact s_var (i := 4) rfl (.inl rfl)
                        · exact a_nil 
                      · refine s_add (mk := false) ?_ ?_
                        · exact s_var (i := 2) rfl (.inl rfl)
                        · exact s_int 
                  · refine b_one ?_
                    refine st_set (i := 5) rfl (.inl rfl) ?_
                    refine s_lst (mk := false) ?_
                    refine a_cons ?_ ?_
                    · exact s_var (i := 2) rfl (.inl rfl)
                    · exact a_nil 
                  · refine b_one ?_
                    refine st_if ?_ ?_ ?_
                    · refine t_c c_eq ?_ ?_
                      · refine s_cb (cb_abs) rfl T.b_abs PyProof.Rows.boot_abs ?_
                        refine a_cons ?_ ?_
                        · exact s_var (i := 4) rfl (.inl rfl)
                        · exact a_nil 
                      · exact s_var (i := 2) rfl (.inl rfl)
                    · refine b_one ?_
                      refine st_set (i := 5) rfl (.inl rfl) ?_
                      refine s_lst (mk := false) ?_
                      refine a_cons ?_ ?_
                      · refine s_add (mk := false) ?_ ?_
                        · exact s_var (i := 2) rfl (.inl rfl)
                        · exact s_int 
                      · exact a_nil 
                    · refine b_one ?_
                      refine st_if ?_ ?_ ?_
                      · refine t_c c_eq ?_ ?_
                        · refine s_cb (cb_abs) rfl T.b_abs PyProof.Rows.boot_abs ?_
                          refine a_cons ?_ ?_
                          · exact s_var (i := 4) rfl (.inl rfl)
                          · exact a_nil 
                        · refine s_add (mk := false) ?_ ?_
                          · exact s_var (i := 2) rfl (.inl rfl)
                          · exact s_int 
                      · refine b_one ?_
                        refine st_set (i := 5) rfl (.inl rfl) ?_
                        refine s_lst (mk := false) ?_
                        refine a_cons ?_ ?_
                        · refine s_sub ?_ ?_
                          · refine s_neg ?_
                            exact s_var (i := 2) rfl (.inl rfl)
                          · exact s_int 
                        · refine a_cons ?_ ?_
                          · exact s_var (i := 2) rfl (.inl rfl)
                          · refine a_cons ?_ ?_
                            · refine s_add (mk := false) ?_ ?_
                              · exact s_var (i := 2) rfl (.inl rfl)
                              · exact s_int 
                            · exact a_nil 
                      · exact b_nil 
              · refine b_cons ?_ ?_
                · refine st_if ?_ ?_ ?_
                  · refine t_c c_lt ?_ ?_
                    · exact s_var (i := 4) rfl (.inl rfl)
                    · exact s_int 
                  · refine b_one ?_
                    refine st_setLc (mk := false) (i := 5) (own := [("one", 6)]) (gown := [6]) rfl rfl rfl rfl (by decide +kernel) ?_ (by kernel_rfl) ?_ (by decide) ?_ ?_
                    · refine i_seq ?_
                      refine s_rev (mk := false) ?_
                      exact s_var (i := 5) rfl (.inl rfl)
                    · exact g_name (i := 6) rfl (.inl rfl)
                    · exact ts_nil 
                    · refine s_neg ?_
                      exact s_var (i := 6) rfl (.inl rfl)
                  · exact b_nil 
                · refine b_one ?_
                  refine st_ex ?_
                  refine s_m PySem.F.plainAttrs_list PySem.F.slot_list_extend PySem.F.type_list_extend m_extend ?_ ?_
                  · exact s_var (i := 3) rfl (.inl rfl)
                  · refine a_cons ?_ ?_
                    · exact s_var (i := 5) rfl (.inl rfl)
                    · exact a_nil 
        · refine b_one ?_
          refine st_ret ?_
          refine s_call F__law_reduced (Nat.le_of_ble_eq_true rfl) rfl T.g__law_reduced ?_
          refine a_cons ?_ ?_
          · exact s_var (i := 3) rfl (.inl rfl)
          · exact a_nil 
    )
theorem sc__law_images : FnScope ["strands", "word", "most", "images", "letter", "image", "at"] ["strands", "word", "most"] (defScope s__law_images) := ⟨rfl, rfl, rfl, by decide +kernel, rfl, by decide +kernel, by decide +kernel⟩
theorem ok__law_images (T : Txt w K mg) (F__law_image : FnS P w K mg base 2 (He.ga K "_law_image") ["word", "letter"] M__law_image)  {fd : FuncData} (F : FunD K "_law_images" "_law_images" (defArgs s__law_images) (defBody s__law_images) (defScope s__law_images) [] [] (He.ga K "_law_images") fd) : FnS P w K mg base 3 (He.ga K "_law_images") ["strands", "word", "most"] M__law_images :=
  fnS_of (rc := false) (N := ["strands", "word", "most", "images", "letter", "image", "at"]) (ps := ["strands", "word", "most"]) (k := 2) (m := B__law_images) F sc__law_images (F.bindsN fun _ _ _ _ _ _ us hl => match us, hl with | [_, _, _], _ => rfl) (by
    refine b_cons ?_ ?_
    · refine st_setLc (mk := false) (i := 3) (own := [("at", 6)]) (gown := [6]) rfl rfl rfl rfl (by decide +kernel) ?_ (by kernel_rfl) ?_ (by decide) ?_ ?_
      · refine i_rng1 rfl T.b_range ?_
        refine a_cons ?_ ?_
        · exact s_var (i := 0) rfl (.inl rfl)
        · exact a_nil 
      · exact g_name (i := 6) rfl (.inl rfl)
      · exact ts_nil 
      · refine s_lst (mk := false) ?_
        refine a_cons ?_ ?_
        · refine s_add (mk := false) ?_ ?_
          · exact s_var (i := 6) rfl (.inl rfl)
          · exact s_int 
        · exact a_nil 
    · refine b_cons ?_ ?_
      · refine st_for (own := [4]) ?_ ?_ ?_
        · refine i_seq ?_
          exact s_var (i := 1) rfl (.inl rfl)
        · exact g_name (i := 4) rfl (.inr rfl)
        · refine b_cons ?_ ?_
          · refine st_setLc (mk := false) (i := 3) (own := [("image", 5)]) (gown := [5]) rfl rfl rfl rfl (by decide +kernel) ?_ (by kernel_rfl) ?_ (by decide) ?_ ?_
            · refine i_seq ?_
              exact s_var (i := 3) rfl (.inl rfl)
            · exact g_name (i := 5) rfl (.inl rfl)
            · exact ts_nil 
            · refine s_call F__law_image (Nat.le_of_ble_eq_true rfl) rfl T.g__law_image ?_
              refine a_cons ?_ ?_
              · exact s_var (i := 5) rfl (.inl rfl)
              · refine a_cons ?_ ?_
                · exact s_var (i := 4) rfl (.inr (.inl rfl))
                · exact a_nil 
          · refine b_one ?_
            refine st_for (own := [5]) ?_ ?_ ?_
            · refine i_seq ?_
              exact s_var (i := 3) rfl (.inl rfl)
            · exact g_name (i := 5) rfl (.inl rfl)
            · refine b_one ?_
              refine st_if ?_ ?_ ?_
              · refine t_c c_gt ?_ ?_
                · refine s_cb (cb_len) rfl T.b_len PySem.boot_len ?_
                  refine a_cons ?_ ?_
                  · exact s_var (i := 5) rfl (.inl rfl)
                  · exact a_nil 
                · exact s_var (i := 2) rfl (.inl rfl)
              · refine b_one ?_
                refine st_ret ?_
                exact s_non 
              · exact b_nil 
      · refine b_one ?_
        refine st_ret ?_
        exact s_var (i := 3) rfl (.inl rfl)
    )
theorem sc_Braid___init__ : FnScope ["self", "strands", "word", "letter"] ["self", "strands", "word"] (defScope s_Braid___init__) := ⟨rfl, rfl, rfl, by decide +kernel, rfl, by decide +kernel, by decide +kernel⟩
theorem ok_Braid___init__ (T : Txt w K mg)  (X_InvalidBraid : KExc P w K mg base (He.ga K "InvalidBraid")) (X_TooMany : KExc P w K mg base (He.ga K "TooMany")) {fd : FuncData} (F : FunD K "__init__" "Braid.__init__" (defArgs s_Braid___init__) (defBody s_Braid___init__) (defScope s_Braid___init__) [] [] (He.ma K (He.ga K "Braid") "__init__") fd) : FnS P w K mg base 3 (He.ma K (He.ga K "Braid") "__init__") ["self", "strands", "word"] M_Braid___init__ :=
  fnS_of (rc := false) (N := ["self", "strands", "word", "letter"]) (ps := ["self", "strands", "word"]) (k := 2) (m := B_Braid___init__) F sc_Braid___init__ (F.bindsN fun _ _ _ _ _ _ us hl => match us, hl with | [_, _, _], _ => rfl) (by
    refine b_cons ?_ ?_
    · refine st_if ?_ ?_ ?_
      · refine t_not ?_
        refine t_chain c_le c_le ?_ ?_ ?_
        · exact s_int 
        · exact s_var (i := 1) rfl (.inl rfl)
        · exact s_gint rfl T.gi_MOST_STRANDS
      · refine b_one ?_
        refine st_raise ?_
        refine mk_what X_InvalidBraid rfl T.g_InvalidBraid ?_ (Nat.le_of_ble_eq_true rfl)
        exact s_str 
      · exact b_nil 
    · refine b_cons ?_ ?_
      · refine st_for (own := [3]) ?_ ?_ ?_
        · refine i_seq ?_
          exact s_var (i := 2) rfl (.inl rfl)
        · exact g_name (i := 3) rfl (.inl rfl)
        · refine b_one ?_
          refine st_if ?_ ?_ ?_
          · refine t_w ?_
            refine w_or ?_ ?_
            · refine t_c c_eq ?_ ?_
              · exact s_var (i := 3) rfl (.inl rfl)
              · exact s_int 
            · refine w_or1 ?_
              refine t_c c_ge ?_ ?_
              · refine s_cb (cb_abs) rfl T.b_abs PyProof.Rows.boot_abs ?_
                refine a_cons ?_ ?_
                · exact s_var (i := 3) rfl (.inl rfl)
                · exact a_nil 
              · exact s_var (i := 1) rfl (.inl rfl)
          · refine b_one ?_
            refine st_raise ?_
            refine mk_what X_InvalidBraid rfl T.g_InvalidBraid ?_ (Nat.le_of_ble_eq_true rfl)
            exact s_str 
          · exact b_nil 
      · refine b_cons ?_ ?_
        · refine st_if ?_ ?_ ?_
          · refine t_c c_gt ?_ ?_
            · refine s_cb (cb_len) rfl T.b_len PySem.boot_len ?_
              refine a_cons ?_ ?_
              · exact s_var (i := 2) rfl (.inl rfl)
              · exact a_nil 
            · exact s_gint rfl T.gi_MOST_LETTERS_words
          · refine b_one ?_
            refine st_raise ?_
            refine mk_what X_TooMany rfl T.g_TooMany ?_ (Nat.le_of_ble_eq_true rfl)
            exact s_str 
          · exact b_nil 
        · refine b_cons ?_ ?_
          · refine st_fldA ["Braid"] ?_ ?_ T.fl_strands
            · exact s_var (i := 1) rfl (.inl rfl)
            · exact s_var (i := 0) rfl (.inl rfl)
          · refine b_one ?_
            refine st_fldA ["Braid"] ?_ ?_ T.fl_word
            · refine s_cty (cb_list (mk := false)) rfl T.b_list PyProof.Rows.boot_list ?_
              refine a_cons ?_ ?_
              · exact s_var (i := 2) rfl (.inl rfl)
              · exact a_nil 
            · exact s_var (i := 0) rfl (.inl rfl)
    )
theorem sc_images_under : FnScope ["letter", "left"] ["letter"] (defScope s_images_under) := ⟨rfl, rfl, rfl, by decide +kernel, rfl, by decide +kernel, by decide +kernel⟩
theorem ok_images_under (T : Txt w K mg)   {fd : FuncData} (F : FunD K "images_under" "images_under" (defArgs s_images_under) (defBody s_images_under) (defScope s_images_under) [] [] (He.ga K "images_under") fd) : FnS P w K mg base 1 (He.ga K "images_under") ["letter"] M_images_under :=
  fnS_of (rc := false) (N := ["letter", "left"]) (ps := ["letter"]) (k := 0) (m := B_images_under) F sc_images_under (F.bindsN fun _ _ _ _ _ _ us hl => match us, hl with | [_], _ => rfl) (by
    refine b_cons ?_ ?_
    · refine st_set (i := 1) rfl (.inl rfl) ?_
      refine s_cb (cb_abs) rfl T.b_abs PyProof.Rows.boot_abs ?_
      refine a_cons ?_ ?_
      · exact s_var (i := 0) rfl (.inl rfl)
      · exact a_nil 
    · refine b_cons ?_ ?_
      · refine st_if ?_ ?_ ?_
        · refine t_c c_gt ?_ ?_
          · exact s_var (i := 0) rfl (.inl rfl)
          · exact s_int 
        · refine b_one ?_
          refine st_ret ?_
          exact s_disp (p_cons (s_var (i := 1) rfl (.inl rfl)) (s_lst (mk := false) (a_cons (s_var (i := 1) rfl (.inl rfl)) (a_cons (s_add (mk := false) (s_var (i := 1) rfl (.inl rfl)) s_int) (a_cons (s_neg (s_var (i := 1) rfl (.inl rfl))) a_nil)))) (p_cons (s_add (mk := false) (s_var (i := 1) rfl (.inl rfl)) s_int) (s_lst (mk := false) (a_cons (s_var (i := 1) rfl (.inl rfl)) a_nil)) p_nil))
        · exact b_nil 
      · refine b_one ?_
        refine st_ret ?_
        exact s_disp (p_cons (s_var (i := 1) rfl (.inl rfl)) (s_lst (mk := false) (a_cons (s_add (mk := false) (s_var (i := 1) rfl (.inl rfl)) s_int) a_nil)) (p_cons (s_add (mk := false) (s_var (i := 1) rfl (.inl rfl)) s_int) (s_lst (mk := false) (a_cons (s_sub (s_neg (s_var (i := 1) rfl (.inl rfl))) s_int) (a_cons (s_var (i := 1) rfl (.inl rfl)) (a_cons (s_add (mk := false) (s_var (i := 1) rfl (.inl rfl)) s_int) a_nil)))) p_nil))
    )
theorem sc_reduced_word : FnScope ["word", "found", "letter"] ["word"] (defScope s_reduced_word) := ⟨rfl, rfl, rfl, by decide +kernel, rfl, by decide +kernel, by decide +kernel⟩
theorem ok_reduced_word (T : Txt w K mg)   {fd : FuncData} (F : FunD K "reduced_word" "reduced_word" (defArgs s_reduced_word) (defBody s_reduced_word) (defScope s_reduced_word) [] [] (He.ga K "reduced_word") fd) : FnS P w K mg base 1 (He.ga K "reduced_word") ["word"] M_reduced_word :=
  fnS_of (rc := false) (N := ["word", "found", "letter"]) (ps := ["word"]) (k := 0) (m := B_reduced_word) F sc_reduced_word (F.bindsN fun _ _ _ _ _ _ us hl => match us, hl with | [_], _ => rfl) (by
    refine b_cons ?_ ?_
    · refine st_set (i := 1) rfl (.inl rfl) ?_
      refine s_lst (mk := true) ?_
      exact a_nil 
    · refine b_cons ?_ ?_
      · refine st_for (own := [2]) ?_ ?_ ?_
        · refine i_seq ?_
          exact s_var (i := 0) rfl (.inl rfl)
        · exact g_name (i := 2) rfl (.inl rfl)
        · refine b_one ?_
          refine st_if ?_ ?_ ?_
          · refine t_w ?_
            refine w_and ?_ ?_
            · refine t_tru ?_
              exact s_var (i := 1) rfl (.inl rfl)
            · refine w_and1 ?_
              refine t_c c_eq ?_ ?_
              · refine s_ix ?_ ?_
                · exact s_var (i := 1) rfl (.inl rfl)
                · refine s_neg ?_
                  exact s_int 
              · refine s_neg ?_
                exact s_var (i := 2) rfl (.inl rfl)
          · refine b_one ?_
            refine st_ex ?_
            refine s_m0 PySem.F.plainAttrs_list PySem.F.slot_list_pop PySem.F.type_list_pop m_pop ?_
            exact s_var (i := 1) rfl (.inl rfl)
          · refine b_one ?_
            refine st_ex ?_
            refine s_m PySem.F.plainAttrs_list PySem.F.slot_list_append PySem.F.type_list_append m_append ?_ ?_
            · exact s_var (i := 1) rfl (.inl rfl)
            · refine a_cons ?_ ?_
              · exact s_var (i := 2) rfl (.inl rfl)
              · exact a_nil 
      · refine b_one ?_
        refine st_ret ?_
        exact s_var (i := 1) rfl (.inl rfl)
    )
theorem sc_moved_word : FnScope ["word", "letter", "images", "found", "part", "image", "one"] ["word", "letter"] (defScope s_moved_word) := ⟨rfl, rfl, rfl, by decide +kernel, rfl, by decide +kernel, by decide +kernel⟩
theorem ok_moved_word (T : Txt w K mg) (F_images_under : FnS P w K mg base 1 (He.ga K "images_under") ["letter"] M_images_under) (F_reduced_word : FnS P w K mg base 1 (He.ga K "reduced_word") ["word"] M_reduced_word)  {fd : FuncData} (F : FunD K "moved_word" "moved_word" (defArgs s_moved_word) (defBody s_moved_word) (defScope s_moved_word) [] [] (He.ga K "moved_word") fd) : FnS P w K mg base 2 (He.ga K "moved_word") ["word", "letter"] M_moved_word :=
  fnS_of (rc := false) (N := ["word", "letter", "images", "found", "part", "image", "one"]) (ps := ["word", "letter"]) (k := 1) (m := B_moved_word) F sc_moved_word (F.bindsN fun _ _ _ _ _ _ us hl => match us, hl with | [_, _], _ => rfl) (by
    refine b_cons ?_ ?_
    · refine st_set (i := 2) rfl (.inl rfl) ?_
      refine s_call F_images_under (Nat.le_of_ble_eq_true rfl) rfl T.g_images_under ?_
      refine a_cons ?_ ?_
      · exact s_var (i := 1) rfl (.inl rfl)
      · exact a_nil 
    · refine b_cons ?_ ?_
      · refine st_set (i := 3) rfl (.inl rfl) ?_
        refine s_lst (mk := true) ?_
        exact a_nil 
      · refine b_cons ?_ ?_
        · refine st_for (own := [4]) ?_ ?_ ?_
          · refine i_seq ?_
            exact s_var (i := 0) rfl (.inl rfl)
          · exact g_name (i := 4) rfl (.inl rfl)
          · refine b_cons ?_ ?_
            · refine st_set (i := 5) rfl (.inl rfl) ?_
              refine s_dget2 ?_ ?_ ?_
              · exact s_var (i := 2) rfl (.inl rfl)
              · refine s_cb (cb_abs) rfl T.b_abs PyProof.Rows.boot_abs ?_
                refine a_cons ?_ ?_
                · exact s_var (i := 4) rfl (.inl rfl)
                · exact a_nil 
              · refine s_lst (mk := false) ?_
                refine a_cons ?_ ?_
                · refine s_cb (cb_abs) rfl T.b_abs PyProof.Rows.boot_abs ?_
                  refine a_cons ?_ ?_
                  · exact s_var (i := 4) rfl (.inl rfl)
                  · exact a_nil 
                · exact a_nil 
            · refine b_cons ?_ ?_
              · refine st_if ?_ ?_ ?_
                · refine t_c c_lt ?_ ?_
                  · exact s_var (i := 4) rfl (.inl rfl)
                  · exact s_int 
                · refine b_one ?_
                  refine st_setLc (mk := false) (i := 5) (own := [("one", 6)]) (gown := [6]) rfl rfl rfl rfl (by decide +kernel) ?_ (by kernel_rfl) ?_ (by decide) ?_ ?_
                  · refine i_rev rfl T.b_reversed ?_
                    refine a_cons ?_ ?_
                    · exact s_var (i := 5) rfl (.inl rfl)
                    · exact a_nil 
                  · exact g_name (i := 6) rfl (.inl rfl)
                  · exact ts_nil 
                  · refine s_neg ?_
                    exact s_var (i := 6) rfl (.inl rfl)
                · exact b_nil 
              · refine b_one ?_
                refine st_ex ?_
                refine s_m PySem.F.plainAttrs_list PySem.F.slot_list_extend PySem.F.type_list_extend m_extend ?_ ?_
                · exact s_var (i := 3) rfl (.inl rfl)
                · refine a_cons ?_ ?_
                  · exact s_var (i := 5) rfl (.inl rfl)
                  · exact a_nil 
        · refine b_one ?_
          refine st_ret ?_
          refine s_call F_reduced_word (Nat.le_of_ble_eq_true rfl) rfl T.g_reduced_word ?_
          refine a_cons ?_ ?_
          · exact s_var (i := 3) rfl (.inl rfl)
          · exact a_nil 
    )
theorem sc_action : FnScope ["braid", "images", "letter", "number", "image"] ["braid"] (defScope s_action) := ⟨rfl, rfl, rfl, by decide +kernel, rfl, by decide +kernel, by decide +kernel⟩
theorem ok_action (T : Txt w K mg) (F_moved_word : FnS P w K mg base 2 (He.ga K "moved_word") ["word", "letter"] M_moved_word) (X_TooMany : KExc P w K mg base (He.ga K "TooMany")) {fd : FuncData} (F : FunD K "action" "action" (defArgs s_action) (defBody s_action) (defScope s_action) [] [] (He.ga K "action") fd) : FnS P w K mg base 3 (He.ga K "action") ["braid"] M_action :=
  fnS_of (rc := false) (N := ["braid", "images", "letter", "number", "image"]) (ps := ["braid"]) (k := 2) (m := B_action) F sc_action (F.bindsN fun _ _ _ _ _ _ us hl => match us, hl with | [_], _ => rfl) (by
    refine b_cons ?_ ?_
    · refine st_setLc (mk := false) (i := 1) (own := [("number", 3)]) (gown := [3]) rfl rfl rfl rfl (by decide +kernel) ?_ (by kernel_rfl) ?_ (by decide) ?_ ?_
      · refine i_rng2 rfl T.b_range ?_
        refine a_cons ?_ ?_
        · exact s_int 
        · refine a_cons ?_ ?_
          · refine s_add (mk := false) ?_ ?_
            · refine s_fld ["Braid"] ?_ T.fl_strands
              exact s_var (i := 0) rfl (.inl rfl)
            · exact s_int 
          · exact a_nil 
      · exact g_name (i := 3) rfl (.inl rfl)
      · exact ts_nil 
      · refine s_lst (mk := false) ?_
        refine a_cons ?_ ?_
        · exact s_var (i := 3) rfl (.inl rfl)
        · exact a_nil 
    · refine b_cons ?_ ?_
      · refine st_for (own := [2]) ?_ ?_ ?_
        · refine i_seq ?_
          refine s_fld ["Braid"] ?_ T.fl_word
          exact s_var (i := 0) rfl (.inl rfl)
        · exact g_name (i := 2) rfl (.inr rfl)
        · refine b_cons ?_ ?_
          · refine st_setLc (mk := false) (i := 1) (own := [("image", 4)]) (gown := [4]) rfl rfl rfl rfl (by decide +kernel) ?_ (by kernel_rfl) ?_ (by decide) ?_ ?_
            · refine i_seq ?_
              exact s_var (i := 1) rfl (.inl rfl)
            · exact g_name (i := 4) rfl (.inl rfl)
            · exact ts_nil 
            · refine s_call F_moved_word (Nat.le_of_ble_eq_true rfl) rfl T.g_moved_word ?_
              refine a_cons ?_ ?_
              · exact s_var (i := 4) rfl (.inl rfl)
              · refine a_cons ?_ ?_
                · exact s_var (i := 2) rfl (.inr (.inl rfl))
                · exact a_nil 
          · refine b_one ?_
            refine st_if ?_ ?_ ?_
            · refine t_c c_gt ?_ ?_
              · refine s_cb cb_max1 rfl T.b_max PyProof.Rows.boot_max ?_
                refine a_cons ?_ ?_
                · refine s_lc (mk := false) (own := [("image", 4)]) (gown := [4]) ?_ (by kernel_rfl) ?_ (by decide) ?_ ?_
                  · refine i_seq ?_
                    exact s_var (i := 1) rfl (.inl rfl)
                  · exact g_name (i := 4) rfl (.inl rfl)
                  · exact ts_nil 
                  · refine s_cb (cb_len) rfl T.b_len PySem.boot_len ?_
                    refine a_cons ?_ ?_
                    · exact s_var (i := 4) rfl (.inl rfl)
                    · exact a_nil 
                · exact a_nil 
              · exact s_gint rfl T.gi_MOST_LETTERS_action
            · refine b_one ?_
              refine st_raise ?_
              refine mk_what X_TooMany rfl T.g_TooMany ?_ (Nat.le_of_ble_eq_true rfl)
              exact s_str 
            · exact b_nil 
      · refine b_one ?_
        refine st_ret ?_
        exact s_var (i := 1) rfl (.inl rfl)
    )
theorem sc__law_told : FnScope ["strands", "word", "error"] ["strands", "word"] (defScope s__law_told) := ⟨rfl, rfl, rfl, by decide +kernel, rfl, by decide +kernel, by decide +kernel⟩
theorem ok__law_told (T : Txt w K mg) (F_Braid___init__ : FnS P w K mg base 3 (He.ma K (He.ga K "Braid") "__init__") ["self", "strands", "word"] M_Braid___init__) (F_action : FnS P w K mg base 3 (He.ga K "action") ["braid"] M_action)  {fd : FuncData} (F : FunD K "_law_told" "_law_told" (defArgs s__law_told) (defBody s__law_told) (defScope s__law_told) [] [] (He.ga K "_law_told") fd) : FnS P w K mg base 5 (He.ga K "_law_told") ["strands", "word"] M__law_told :=
  fnS_of (rc := false) (N := ["strands", "word", "error"]) (ps := ["strands", "word"]) (k := 4) (m := B__law_told) F sc__law_told (F.bindsN fun _ _ _ _ _ _ us hl => match us, hl with | [_, _], _ => rfl) (by
    refine b_one ?_
    refine st_tryAs (i := 2) (tbl := [("InvalidBraid", false), ("TooMany", true)]) rfl rfl rfl T.g_TooMany (by decide) T.xm_TooMany ?_ ?_
    · refine b_one ?_
      refine st_ret ?_
      refine s_call F_action (Nat.le_of_ble_eq_true rfl) rfl T.g_action ?_
      refine a_cons ?_ ?_
      · refine s_make F_Braid___init__ (Nat.le_of_ble_eq_true rfl) T.mk_Braid rfl T.g_Braid ?_
        refine a_cons ?_ ?_
        · exact s_var (i := 0) rfl (.inl rfl)
        · refine a_cons ?_ ?_
          · refine s_cty (cb_list (mk := false)) rfl T.b_list PyProof.Rows.boot_list ?_
            refine a_cons ?_ ?_
            · exact s_var (i := 1) rfl (.inl rfl)
            · exact a_nil 
          · exact a_nil 
      · exact a_nil 
    · intro a c d
      refine b_one ?_
      refine st_ret ?_
      refine s_tup ?_
      refine a_cons ?_ ?_
      · exact s_str 
      · refine a_cons ?_ ?_
        · refine s_xf ["InvalidBraid", "TooMany"] ?_ T.xf
          exact s_var (i := 2) rfl (.inl rfl)
        · exact a_nil 
    )
theorem sc__law_plain : FnScope ["value", "item"] ["value"] (defScope s__law_plain) := ⟨rfl, rfl, rfl, by decide +kernel, rfl, by decide +kernel, by decide +kernel⟩
theorem ok__law_plain_ (T : Txt w K mg)   {fd : FuncData} (F : FunD K "_law_plain" "_law_plain" (defArgs s__law_plain) (defBody s__law_plain) (defScope s__law_plain) [] [] (He.ga K "_law_plain") fd) : ∀ j : Nat, FnS P w K mg base (0 + j) (He.ga K "_law_plain") ["value"] (M__law_plain_ j)
  | 0 => fnS_zero (F.bindsN fun _ _ _ _ _ _ us hl => match us, hl with | [_], _ => rfl) F.kp _
  | j + 1 =>
    have F__law_plain := ok__law_plain_ T  F j
    fnS_of (rc := false) (N := ["value", "item"]) (ps := ["value"]) (k := 0 + j) (m := B__law_plain (M__law_plain_ j)) F sc__law_plain (F.bindsN fun _ _ _ _ _ _ us hl => match us, hl with | [_], _ => rfl) (by
      refine b_cons ?_ ?_
      · refine st_if ?_ ?_ ?_
        · refine t_tru ?_
          refine s_isiT ?_ ?_ rfl T.b_isinstance
          · exact s_var (i := 0) rfl (.inl rfl)
          · refine a_cons ?_ ?_
            · exact s_ty (n := "tuple") rfl T.b_tuple PyProof.Rows.boot_tuple
            · refine a_cons ?_ ?_
              · exact s_ty (n := "list") rfl T.b_list PyProof.Rows.boot_list
              · exact a_nil 
        · refine b_one ?_
          refine st_ret ?_
          refine s_add (mk := false) ?_ ?_
          · refine s_lst (mk := false) ?_
            refine a_cons ?_ ?_
            · refine s_cb cb_isi rfl T.b_isinstance PyProof.Rows.boot_isinstance ?_
              refine a_cons ?_ ?_
              · exact s_var (i := 0) rfl (.inl rfl)
              · refine a_cons ?_ ?_
                · exact s_ty (n := "list") rfl T.b_list PyProof.Rows.boot_list
                · exact a_nil 
            · exact a_nil 
          · refine s_lc (mk := false) (own := [("item", 1)]) (gown := [1]) ?_ (by kernel_rfl) ?_ (by decide) ?_ ?_
            · refine i_seq ?_
              exact s_var (i := 0) rfl (.inl rfl)
            · exact g_name (i := 1) rfl (.inl rfl)
            · exact ts_nil 
            · refine s_call F__law_plain (Nat.le_refl _) rfl T.g__law_plain ?_
              refine a_cons ?_ ?_
              · exact s_var (i := 1) rfl (.inl rfl)
              · exact a_nil 
        · exact b_nil 
      · refine b_cons ?_ ?_
        · refine st_if ?_ ?_ ?_
          · refine t_w ?_
            refine w_or ?_ ?_
            · refine t_c c_isN ?_ ?_
              · exact s_var (i := 0) rfl (.inl rfl)
              · exact s_non 
            · refine w_or1 ?_
              refine t_tru ?_
              refine s_cb cb_isi rfl T.b_isinstance PyProof.Rows.boot_isinstance ?_
              refine a_cons ?_ ?_
              · exact s_var (i := 0) rfl (.inl rfl)
              · refine a_cons ?_ ?_
                · exact s_ty (n := "bool") rfl T.b_bool PyProof.Rows.boot_bool
                · exact a_nil 
          · refine b_one ?_
            refine st_ret ?_
            refine s_ix ?_ ?_
            · refine s_lst (mk := false) ?_
              refine a_cons ?_ ?_
              · exact s_str 
              · refine a_cons ?_ ?_
                · exact s_str 
                · refine a_cons ?_ ?_
                  · exact s_str 
                  · exact a_nil 
            · refine s_add (mk := false) ?_ ?_
              · refine s_cty (cb_int) rfl T.b_int PyProof.Rows.boot_int ?_
                refine a_cons ?_ ?_
                · refine s_c c_notN ?_ ?_
                  · exact s_var (i := 0) rfl (.inl rfl)
                  · exact s_non 
                · exact a_nil 
              · refine s_cty (cb_int) rfl T.b_int PyProof.Rows.boot_int ?_
                refine a_cons ?_ ?_
                · refine s_c c_isN ?_ ?_
                  · exact s_var (i := 0) rfl (.inl rfl)
                  · exact s_bl 
                · exact a_nil 
          · exact b_nil 
        · refine b_cons ?_ ?_
          · refine st_if ?_ ?_ ?_
            · refine t_tru ?_
              refine s_isiT ?_ ?_ rfl T.b_isinstance
              · exact s_var (i := 0) rfl (.inl rfl)
              · refine a_cons ?_ ?_
                · exact s_ty (n := "int") rfl T.b_int PyProof.Rows.boot_int
                · refine a_cons ?_ ?_
                  · exact s_ty (n := "str") rfl T.b_str PyProof.Rows.boot_str
                  · exact a_nil 
            · refine b_one ?_
              refine st_ret ?_
              refine s_lst (mk := false) ?_
              refine a_cons ?_ ?_
              · refine s_cb cb_isi rfl T.b_isinstance PyProof.Rows.boot_isinstance ?_
                refine a_cons ?_ ?_
                · exact s_var (i := 0) rfl (.inl rfl)
                · refine a_cons ?_ ?_
                  · exact s_ty (n := "str") rfl T.b_str PyProof.Rows.boot_str
                  · exact a_nil 
              · refine a_cons ?_ ?_
                · exact s_var (i := 0) rfl (.inl rfl)
                · exact a_nil 
            · exact b_nil 
          · refine b_one ?_
            refine st_ret ?_
            exact s_str 
      )
theorem ok__law_plain (T : Txt w K mg)   {fd : FuncData} (F : FunD K "_law_plain" "_law_plain" (defArgs s__law_plain) (defBody s__law_plain) (defScope s__law_plain) [] [] (He.ga K "_law_plain") fd) : FnS P w K mg base 6 (He.ga K "_law_plain") ["value"] M__law_plain := ok__law_plain_ T  F 6
theorem sc__law_free_word : FnScope ["deck", "word", "at", "letter"] ["deck"] (defScope s__law_free_word) := ⟨rfl, rfl, rfl, by decide +kernel, rfl, by decide +kernel, by decide +kernel⟩
theorem ok__law_free_word (T : Txt w K mg) (F__law_take : FnS P w K mg base 1 (He.ga K "_law_take") ["deck", "many"] M__law_take)  {fd : FuncData} (F : FunD K "_law_free_word" "_law_free_word" (defArgs s__law_free_word) (defBody s__law_free_word) (defScope s__law_free_word) [] [] (He.ga K "_law_free_word") fd) : FnS P w K mg base 2 (He.ga K "_law_free_word") ["deck"] M__law_free_word :=
  fnS_of (rc := false) (N := ["deck", "word", "at", "letter"]) (ps := ["deck"]) (k := 1) (m := B__law_free_word) F sc__law_free_word (F.bindsN fun _ _ _ _ _ _ us hl => match us, hl with | [_], _ => rfl) (by
    refine b_cons ?_ ?_
    · refine st_set (i := 1) rfl (.inl rfl) ?_
      refine s_lst (mk := true) ?_
      exact a_nil 
    · refine b_cons ?_ ?_
      · refine st_for (own := [2]) ?_ ?_ ?_
        · refine i_rng1 rfl T.b_range ?_
          refine a_cons ?_ ?_
          · refine s_call F__law_take (Nat.le_of_ble_eq_true rfl) rfl T.g__law_take ?_
            refine a_cons ?_ ?_
            · exact s_var (i := 0) rfl (.inl rfl)
            · refine a_cons ?_ ?_
              · exact s_int 
              · exact a_nil 
          · exact a_nil 
        · exact g_name (i := 2) rfl (.inl rfl)
        · refine b_cons ?_ ?_
          · refine st_set (i := 3) rfl (.inl rfl) ?_
            refine s_add (mk := false) ?_ ?_
            · exact s_int 
            · refine s_call F__law_take (Nat.le_of_ble_eq_true rfl) rfl T.g__law_take ?_
              refine a_cons ?_ ?_
              · exact s_var (i := 0) rfl (.inl rfl)
              · refine a_cons ?_ ?_
                · exact s_int 
                · exact a_nil 
          · refine b_cons ?_ ?_
            · refine st_ex ?_
              refine s_m PySem.F.plainAttrs_list PySem.F.slot_list_append PySem.F.type_list_append m_append ?_ ?_
              · exact s_var (i := 1) rfl (.inl rfl)
              · refine a_cons ?_ ?_
                · refine s_ix ?_ ?_
                  · refine s_lst (mk := false) ?_
                    refine a_cons ?_ ?_
                    · exact s_var (i := 3) rfl (.inl rfl)
                    · refine a_cons ?_ ?_
                      · refine s_neg ?_
                        exact s_var (i := 3) rfl (.inl rfl)
                      · exact a_nil 
                  · refine s_call F__law_take (Nat.le_of_ble_eq_true rfl) rfl T.g__law_take ?_
                    refine a_cons ?_ ?_
                    · exact s_var (i := 0) rfl (.inl rfl)
                    · refine a_cons ?_ ?_
                      · exact s_int 
                      · exact a_nil 
                · exact a_nil 
            · refine b_one ?_
              refine st_if ?_ ?_ ?_
              · refine t_w ?_
                refine w_and ?_ ?_
                · refine t_c c_eq ?_ ?_
                  · refine s_call F__law_take (Nat.le_of_ble_eq_true rfl) rfl T.g__law_take ?_
                    refine a_cons ?_ ?_
                    · exact s_var (i := 0) rfl (.inl rfl)
                    · refine a_cons ?_ ?_
                      · exact s_int 
                      · exact a_nil 
                  · exact s_int 
                · refine w_and1 ?_
                  refine t_c c_gt ?_ ?_
                  · exact s_var (i := 2) rfl (.inl rfl)
                  · exact s_int 
              · refine b_one ?_
                refine st_sub cset_list ?_ ?_ ?_
                · refine s_neg ?_
                  refine s_ix ?_ ?_
                  · exact s_var (i := 1) rfl (.inl rfl)
                  · refine s_neg ?_
                    exact s_int 
                · exact s_var (i := 1) rfl (.inl rfl)
                · refine s_neg ?_
                  exact s_int 
              · exact b_nil 
      · refine b_one ?_
        refine st_ret ?_
        exact s_var (i := 1) rfl (.inl rfl)
    )
theorem sc__law_left : FnScope ["word", "found", "turn", "places", "at"] ["word"] (defScope s__law_left) := ⟨rfl, rfl, rfl, by decide +kernel, rfl, by decide +kernel, by decide +kernel⟩
theorem ok__law_left (T : Txt w K mg)   {fd : FuncData} (F : FunD K "_law_left" "_law_left" (defArgs s__law_left) (defBody s__law_left) (defScope s__law_left) [] [] (He.ga K "_law_left") fd) : FnS P w K mg base 1 (He.ga K "_law_left") ["word"] M__law_left :=
  fnS_of (rc := false) (N := ["word", "found", "turn", "places", "at"]) (ps := ["word"]) (k := 0) (m := B__law_left) F sc__law_left (F.bindsN fun _ _ _ _ _ _ us hl => match us, hl with | [_], _ => rfl) (by
    refine b_cons ?_ ?_
    · refine st_set (i := 1) rfl (.inr rfl) ?_
      refine s_cty (cb_list (mk := false)) rfl T.b_list PyProof.Rows.boot_list ?_
      refine a_cons ?_ ?_
      · exact s_var (i := 0) rfl (.inl rfl)
      · exact a_nil 
    · refine b_cons ?_ ?_
      · refine st_for (own := [2]) ?_ ?_ ?_
        · refine i_rng1 rfl T.b_range ?_
          refine a_cons ?_ ?_
          · refine s_cb (cb_len) rfl T.b_len PySem.boot_len ?_
            refine a_cons ?_ ?_
            · exact s_var (i := 0) rfl (.inl rfl)
            · exact a_nil 
          · exact a_nil 
        · exact g_name (i := 2) rfl (.inl rfl)
        · refine b_cons ?_ ?_
          · refine st_setLc (mk := false) (i := 3) (own := [("at", 4)]) (gown := [4]) rfl rfl rfl rfl (by decide +kernel) ?_ (by kernel_rfl) ?_ (by decide) ?_ ?_
            · refine i_rng2 rfl T.b_range ?_
              refine a_cons ?_ ?_
              · exact s_int 
              · refine a_cons ?_ ?_
                · refine s_cb (cb_len) rfl T.b_len PySem.boot_len ?_
                  refine a_cons ?_ ?_
                  · exact s_var (i := 1) rfl (.inr (.inl rfl))
                  · exact a_nil 
                · exact a_nil 
            · exact g_name (i := 4) rfl (.inl rfl)
            · refine ts_one ?_
              refine t_c c_eq ?_ ?_
              · refine s_ix ?_ ?_
                · exact s_var (i := 1) rfl (.inr (.inl rfl))
                · exact s_var (i := 4) rfl (.inl rfl)
              · refine s_neg ?_
                refine s_ix ?_ ?_
                · exact s_var (i := 1) rfl (.inr (.inl rfl))
                · refine s_sub ?_ ?_
                  · exact s_var (i := 4) rfl (.inl rfl)
                  · exact s_int 
            · exact s_var (i := 4) rfl (.inl rfl)
          · refine b_one ?_
            refine st_if ?_ ?_ ?_
            · refine t_c c_gt ?_ ?_
              · refine s_cb (cb_len) rfl T.b_len PySem.boot_len ?_
                refine a_cons ?_ ?_
                · exact s_var (i := 3) rfl (.inl rfl)
                · exact a_nil 
              · exact s_int 
            · refine b_cons ?_ ?_
              · refine st_set (i := 4) rfl (.inl rfl) ?_
                refine s_ix ?_ ?_
                · exact s_var (i := 3) rfl (.inl rfl)
                · refine s_neg ?_
                  exact s_int 
              · refine b_one ?_
                refine st_set (i := 1) rfl (.inr rfl) ?_
                refine s_add (mk := false) ?_ ?_
                · refine s_sl (mk := false) ?_ ?_ ?_
                  · exact s_var (i := 1) rfl (.inr (.inl rfl))
                  · exact o_none 
                  · refine o_some ?_
                    refine s_sub ?_ ?_
                    · exact s_var (i := 4) rfl (.inl rfl)
                    · exact s_int 
                · refine s_sl (mk := false) ?_ ?_ ?_
                  · exact s_var (i := 1) rfl (.inr (.inl rfl))
                  · refine o_some ?_
                    refine s_add (mk := false) ?_ ?_
                    · exact s_var (i := 4) rfl (.inl rfl)
                    · exact s_int 
                  · exact o_none 
            · exact b_nil 
      · refine b_one ?_
        refine st_ret ?_
        exact s_var (i := 1) rfl (.inr (.inl rfl))
    )
theorem sc__law_matrix_product : FnScope ["one", "other", "prime", "a", "b", "c", "d", "e", "f", "g", "h", "first"] ["one", "other", "prime"] (defScope s__law_matrix_product) := ⟨rfl, rfl, rfl, by decide +kernel, rfl, by decide +kernel, by decide +kernel⟩
theorem ok__law_matrix_product (T : Txt w K mg)   {fd : FuncData} (F : FunD K "_law_matrix_product" "_law_matrix_product" (defArgs s__law_matrix_product) (defBody s__law_matrix_product) (defScope s__law_matrix_product) [] [] (He.ga K "_law_matrix_product") fd) : FnS P w K mg base 1 (He.ga K "_law_matrix_product") ["one", "other", "prime"] M__law_matrix_product :=
  fnS_of (rc := false) (N := ["one", "other", "prime", "a", "b", "c", "d", "e", "f", "g", "h", "first"]) (ps := ["one", "other", "prime"]) (k := 0) (m := B__law_matrix_product) F sc__law_matrix_product (F.bindsN fun _ _ _ _ _ _ us hl => match us, hl with | [_, _, _], _ => rfl) (by
    refine b_cons ?_ ?_
    · refine st_asg (own := [3, 4, 5, 6]) ?_ ?_
      · exact s_var (i := 0) rfl (.inl rfl)
      · refine g_tup ?_
        refine gs_cons (own := [3]) (own' := [4, 5, 6]) ?_ ?_
        · exact g_name (i := 3) rfl (.inl rfl)
        · refine gs_cons (own := [4]) (own' := [5, 6]) ?_ ?_
          · exact g_name (i := 4) rfl (.inl rfl)
          · refine gs_cons (own := [5]) (own' := [6]) ?_ ?_
            · exact g_name (i := 5) rfl (.inl rfl)
            · refine gs_cons (own := [6]) (own' := []) ?_ ?_
              · exact g_name (i := 6) rfl (.inl rfl)
              · exact gs_nil 
    · refine b_cons ?_ ?_
      · refine st_asg (own := [7, 8, 9, 10]) ?_ ?_
        · exact s_var (i := 1) rfl (.inl rfl)
        · refine g_tup ?_
          refine gs_cons (own := [7]) (own' := [8, 9, 10]) ?_ ?_
          · exact g_name (i := 7) rfl (.inl rfl)
          · refine gs_cons (own := [8]) (own' := [9, 10]) ?_ ?_
            · exact g_name (i := 8) rfl (.inl rfl)
            · refine gs_cons (own := [9]) (own' := [10]) ?_ ?_
              · exact g_name (i := 9) rfl (.inl rfl)
              · refine gs_cons (own := [10]) (own' := []) ?_ ?_
                · exact g_name (i := 10) rfl (.inl rfl)
                · exact gs_nil 
      · refine b_cons ?_ ?_
        · refine st_set (i := 11) rfl (.inl rfl) ?_
          refine s_tup ?_
          refine a_cons ?_ ?_
          · refine s_mod ?_ ?_
            · refine s_cty (cb_int) rfl T.b_int PyProof.Rows.boot_int ?_
              refine a_cons ?_ ?_
              · refine s_add (mk := false) ?_ ?_
                · refine s_mul (mk := false) ?_ ?_
                  · exact s_var (i := 3) rfl (.inl rfl)
                  · exact s_var (i := 7) rfl (.inl rfl)
                · refine s_mul (mk := false) ?_ ?_
                  · exact s_var (i := 4) rfl (.inl rfl)
                  · exact s_var (i := 9) rfl (.inl rfl)
              · exact a_nil 
            · exact s_var (i := 2) rfl (.inl rfl)
          · refine a_cons ?_ ?_
            · refine s_mod ?_ ?_
              · refine s_cty (cb_int) rfl T.b_int PyProof.Rows.boot_int ?_
                refine a_cons ?_ ?_
                · refine s_add (mk := false) ?_ ?_
                  · refine s_mul (mk := false) ?_ ?_
                    · exact s_var (i := 3) rfl (.inl rfl)
                    · exact s_var (i := 8) rfl (.inl rfl)
                  · refine s_mul (mk := false) ?_ ?_
                    · exact s_var (i := 4) rfl (.inl rfl)
                    · exact s_var (i := 10) rfl (.inl rfl)
                · exact a_nil 
              · exact s_var (i := 2) rfl (.inl rfl)
            · exact a_nil 
        · refine b_one ?_
          refine st_ret ?_
          refine s_tup ?_
          refine a_cons ?_ ?_
          · refine s_ix ?_ ?_
            · exact s_var (i := 11) rfl (.inl rfl)
            · exact s_int 
          · refine a_cons ?_ ?_
            · refine s_ix ?_ ?_
              · exact s_var (i := 11) rfl (.inl rfl)
              · exact s_int 
            · refine a_cons ?_ ?_
              · refine s_mod ?_ ?_
                · refine s_cty (cb_int) rfl T.b_int PyProof.Rows.boot_int ?_
                  refine a_cons ?_ ?_
                  · refine s_add (mk := false) ?_ ?_
                    · refine s_mul (mk := false) ?_ ?_
                      · exact s_var (i := 5) rfl (.inl rfl)
                      · exact s_var (i := 7) rfl (.inl rfl)
                    · refine s_mul (mk := false) ?_ ?_
                      · exact s_var (i := 6) rfl (.inl rfl)
                      · exact s_var (i := 9) rfl (.inl rfl)
                  · exact a_nil 
                · exact s_var (i := 2) rfl (.inl rfl)
              · refine a_cons ?_ ?_
                · refine s_mod ?_ ?_
                  · refine s_cty (cb_int) rfl T.b_int PyProof.Rows.boot_int ?_
                    refine a_cons ?_ ?_
                    · refine s_add (mk := false) ?_ ?_
                      · refine s_mul (mk := false) ?_ ?_
                        · exact s_var (i := 5) rfl (.inl rfl)
                        · exact s_var (i := 8) rfl (.inl rfl)
                      · refine s_mul (mk := false) ?_ ?_
                        · exact s_var (i := 6) rfl (.inl rfl)
                        · exact s_var (i := 10) rfl (.inl rfl)
                    · exact a_nil 
                  · exact s_var (i := 2) rfl (.inl rfl)
                · exact a_nil 
    )
theorem sc__law_matrices : FnScope ["deck", "strands", "prime", "found", "at", "matrix", "turn", "up", "down"] ["deck", "strands", "prime"] (defScope s__law_matrices) := ⟨rfl, rfl, rfl, by decide +kernel, rfl, by decide +kernel, by decide +kernel⟩
theorem ok__law_matrices (T : Txt w K mg) (F__law_take : FnS P w K mg base 1 (He.ga K "_law_take") ["deck", "many"] M__law_take) (F__law_matrix_product : FnS P w K mg base 1 (He.ga K "_law_matrix_product") ["one", "other", "prime"] M__law_matrix_product)  {fd : FuncData} (F : FunD K "_law_matrices" "_law_matrices" (defArgs s__law_matrices) (defBody s__law_matrices) (defScope s__law_matrices) [] [] (He.ga K "_law_matrices") fd) : FnS P w K mg base 2 (He.ga K "_law_matrices") ["deck", "strands", "prime"] M__law_matrices :=
  fnS_of (rc := false) (N := ["deck", "strands", "prime", "found", "at", "matrix", "turn", "up", "down"]) (ps := ["deck", "strands", "prime"]) (k := 1) (m := B__law_matrices) F sc__law_matrices (F.bindsN fun _ _ _ _ _ _ us hl => match us, hl with | [_, _, _], _ => rfl) (by
    refine b_cons ?_ ?_
    · refine st_set (i := 3) rfl (.inl rfl) ?_
      refine s_lst (mk := true) ?_
      exact a_nil 
    · refine b_cons ?_ ?_
      · refine st_for (own := [4]) ?_ ?_ ?_
        · refine i_rng1 rfl T.b_range ?_
          refine a_cons ?_ ?_
          · exact s_var (i := 1) rfl (.inl rfl)
          · exact a_nil 
        · exact g_name (i := 4) rfl (.inl rfl)
        · refine b_cons ?_ ?_
          · refine st_set (i := 5) rfl (.inl rfl) ?_
            refine s_tup ?_
            refine a_cons ?_ ?_
            · exact s_int 
            · refine a_cons ?_ ?_
              · exact s_int 
              · refine a_cons ?_ ?_
                · exact s_int 
                · refine a_cons ?_ ?_
                  · exact s_int 
                  · exact a_nil 
          · refine b_cons ?_ ?_
            · refine st_for (own := [6]) ?_ ?_ ?_
              · refine i_rng1 rfl T.b_range ?_
                refine a_cons ?_ ?_
                · exact s_int 
                · exact a_nil 
              · exact g_name (i := 6) rfl (.inl rfl)
              · refine b_cons ?_ ?_
                · refine st_set (i := 7) rfl (.inl rfl) ?_
                  refine s_tup ?_
                  refine a_cons ?_ ?_
                  · exact s_int 
                  · refine a_cons ?_ ?_
                    · refine s_call F__law_take (Nat.le_of_ble_eq_true rfl) rfl T.g__law_take ?_
                      refine a_cons ?_ ?_
                      · exact s_var (i := 0) rfl (.inl rfl)
                      · refine a_cons ?_ ?_
                        · exact s_var (i := 2) rfl (.inl rfl)
                        · exact a_nil 
                    · refine a_cons ?_ ?_
                      · exact s_int 
                      · refine a_cons ?_ ?_
                        · exact s_int 
                        · exact a_nil 
                · refine b_cons ?_ ?_
                  · refine st_set (i := 8) rfl (.inl rfl) ?_
                    refine s_tup ?_
                    refine a_cons ?_ ?_
                    · exact s_int 
                    · refine a_cons ?_ ?_
                      · exact s_int 
                      · refine a_cons ?_ ?_
                        · refine s_call F__law_take (Nat.le_of_ble_eq_true rfl) rfl T.g__law_take ?_
                          refine a_cons ?_ ?_
                          · exact s_var (i := 0) rfl (.inl rfl)
                          · refine a_cons ?_ ?_
                            · exact s_var (i := 2) rfl (.inl rfl)
                            · exact a_nil 
                        · refine a_cons ?_ ?_
                          · exact s_int 
                          · exact a_nil 
                  · refine b_one ?_
                    refine st_set (i := 5) rfl (.inl rfl) ?_
                    refine s_call F__law_matrix_product (Nat.le_of_ble_eq_true rfl) rfl T.g__law_matrix_product ?_
                    refine a_cons ?_ ?_
                    · refine s_call F__law_matrix_product (Nat.le_of_ble_eq_true rfl) rfl T.g__law_matrix_product ?_
                      refine a_cons ?_ ?_
                      · exact s_var (i := 5) rfl (.inl rfl)
                      · refine a_cons ?_ ?_
                        · exact s_var (i := 7) rfl (.inl rfl)
                        · refine a_cons ?_ ?_
                          · exact s_var (i := 2) rfl (.inl rfl)
                          · exact a_nil 
                    · refine a_cons ?_ ?_
                      · exact s_var (i := 8) rfl (.inl rfl)
                      · refine a_cons ?_ ?_
                        · exact s_var (i := 2) rfl (.inl rfl)
                        · exact a_nil 
            · refine b_one ?_
              refine st_ex ?_
              refine s_m PySem.F.plainAttrs_list PySem.F.slot_list_append PySem.F.type_list_append m_append ?_ ?_
              · exact s_var (i := 3) rfl (.inl rfl)
              · refine a_cons ?_ ?_
                · exact s_var (i := 5) rfl (.inl rfl)
                · exact a_nil 
      · refine b_one ?_
        refine st_ret ?_
        exact s_var (i := 3) rfl (.inl rfl)
    )
theorem sc__law_matrix_inverse : FnScope ["one", "prime", "a", "b", "c", "d"] ["one", "prime"] (defScope s__law_matrix_inverse) := ⟨rfl, rfl, rfl, by decide +kernel, rfl, by decide +kernel, by decide +kernel⟩
theorem ok__law_matrix_inverse (T : Txt w K mg)   {fd : FuncData} (F : FunD K "_law_matrix_inverse" "_law_matrix_inverse" (defArgs s__law_matrix_inverse) (defBody s__law_matrix_inverse) (defScope s__law_matrix_inverse) [] [] (He.ga K "_law_matrix_inverse") fd) : FnS P w K mg base 1 (He.ga K "_law_matrix_inverse") ["one", "prime"] M__law_matrix_inverse :=
  fnS_of (rc := false) (N := ["one", "prime", "a", "b", "c", "d"]) (ps := ["one", "prime"]) (k := 0) (m := B__law_matrix_inverse) F sc__law_matrix_inverse (F.bindsN fun _ _ _ _ _ _ us hl => match us, hl with | [_, _], _ => rfl) (by
    refine b_cons ?_ ?_
    · refine st_asg (own := [2, 3, 4, 5]) ?_ ?_
      · exact s_var (i := 0) rfl (.inl rfl)
      · refine g_tup ?_
        refine gs_cons (own := [2]) (own' := [3, 4, 5]) ?_ ?_
        · exact g_name (i := 2) rfl (.inl rfl)
        · refine gs_cons (own := [3]) (own' := [4, 5]) ?_ ?_
          · exact g_name (i := 3) rfl (.inl rfl)
          · refine gs_cons (own := [4]) (own' := [5]) ?_ ?_
            · exact g_name (i := 4) rfl (.inl rfl)
            · refine gs_cons (own := [5]) (own' := []) ?_ ?_
              · exact g_name (i := 5) rfl (.inl rfl)
              · exact gs_nil 
    · refine b_one ?_
      refine st_ret ?_
      refine s_tup ?_
      refine a_cons ?_ ?_
      · exact s_var (i := 5) rfl (.inl rfl)
      · refine a_cons ?_ ?_
        · refine s_mod ?_ ?_
          · refine s_cty (cb_int) rfl T.b_int PyProof.Rows.boot_int ?_
            refine a_cons ?_ ?_
            · refine s_neg ?_
              exact s_var (i := 3) rfl (.inl rfl)
            · exact a_nil 
          · exact s_var (i := 1) rfl (.inl rfl)
        · refine a_cons ?_ ?_
          · refine s_mod ?_ ?_
            · refine s_cty (cb_int) rfl T.b_int PyProof.Rows.boot_int ?_
              refine a_cons ?_ ?_
              · refine s_neg ?_
                exact s_var (i := 4) rfl (.inl rfl)
              · exact a_nil 
            · exact s_var (i := 1) rfl (.inl rfl)
          · refine a_cons ?_ ?_
            · exact s_var (i := 2) rfl (.inl rfl)
            · exact a_nil 
    )
theorem sc__law_tuple : FnScope ["word", "matrices", "prime", "found", "letter", "right", "one", "other", "moved"] ["word", "matrices", "prime"] (defScope s__law_tuple) := ⟨rfl, rfl, rfl, by decide +kernel, rfl, by decide +kernel, by decide +kernel⟩
theorem ok__law_tuple (T : Txt w K mg) (F__law_matrix_product : FnS P w K mg base 1 (He.ga K "_law_matrix_product") ["one", "other", "prime"] M__law_matrix_product) (F__law_matrix_inverse : FnS P w K mg base 1 (He.ga K "_law_matrix_inverse") ["one", "prime"] M__law_matrix_inverse)  {fd : FuncData} (F : FunD K "_law_tuple" "_law_tuple" (defArgs s__law_tuple) (defBody s__law_tuple) (defScope s__law_tuple) [] [] (He.ga K "_law_tuple") fd) : FnS P w K mg base 2 (He.ga K "_law_tuple") ["word", "matrices", "prime"] M__law_tuple :=
  fnS_of (rc := false) (N := ["word", "matrices", "prime", "found", "letter", "right", "one", "other", "moved"]) (ps := ["word", "matrices", "prime"]) (k := 1) (m := B__law_tuple) F sc__law_tuple (F.bindsN fun _ _ _ _ _ _ us hl => match us, hl with | [_, _, _], _ => rfl) (by
    refine b_cons ?_ ?_
    · refine st_set (i := 3) rfl (.inl rfl) ?_
      refine s_cty (cb_list (mk := true)) rfl T.b_list PyProof.Rows.boot_list ?_
      refine a_cons ?_ ?_
      · exact s_var (i := 1) rfl (.inl rfl)
      · exact a_nil 
    · refine b_cons ?_ ?_
      · refine st_for (own := [4]) ?_ ?_ ?_
        · refine i_seq ?_
          refine s_rev (mk := false) ?_
          exact s_var (i := 0) rfl (.inl rfl)
        · exact g_name (i := 4) rfl (.inl rfl)
        · refine b_cons ?_ ?_
          · refine st_set (i := 5) rfl (.inl rfl) ?_
            refine s_cb (cb_abs) rfl T.b_abs PyProof.Rows.boot_abs ?_
            refine a_cons ?_ ?_
            · exact s_var (i := 4) rfl (.inl rfl)
            · exact a_nil 
          · refine b_cons ?_ ?_
            · refine st_set (i := 6) rfl (.inl rfl) ?_
              refine s_ix ?_ ?_
              · exact s_var (i := 3) rfl (.inl rfl)
              · refine s_sub ?_ ?_
                · exact s_var (i := 5) rfl (.inl rfl)
                · exact s_int 
            · refine b_cons ?_ ?_
              · refine st_set (i := 7) rfl (.inl rfl) ?_
                refine s_ix ?_ ?_
                · exact s_var (i := 3) rfl (.inl rfl)
                · exact s_var (i := 5) rfl (.inl rfl)
              · refine b_one ?_
                refine st_if ?_ ?_ ?_
                · refine t_c c_gt ?_ ?_
                  · exact s_var (i := 4) rfl (.inl rfl)
                  · exact s_int 
                · refine b_cons ?_ ?_
                  · refine st_set (i := 8) rfl (.inl rfl) ?_
                    refine s_call F__law_matrix_product (Nat.le_of_ble_eq_true rfl) rfl T.g__law_matrix_product ?_
                    refine a_cons ?_ ?_
                    · exact s_var (i := 6) rfl (.inl rfl)
                    · refine a_cons ?_ ?_
                      · exact s_var (i := 7) rfl (.inl rfl)
                      · refine a_cons ?_ ?_
                        · exact s_var (i := 2) rfl (.inl rfl)
                        · exact a_nil 
                  · refine b_cons ?_ ?_
                    · refine st_sub cset_list ?_ ?_ ?_
                      · refine s_call F__law_matrix_product (Nat.le_of_ble_eq_true rfl) rfl T.g__law_matrix_product ?_
                        refine a_cons ?_ ?_
                        · exact s_var (i := 8) rfl (.inl rfl)
                        · refine a_cons ?_ ?_
                          · refine s_call F__law_matrix_inverse (Nat.le_of_ble_eq_true rfl) rfl T.g__law_matrix_inverse ?_
                            refine a_cons ?_ ?_
                            · exact s_var (i := 6) rfl (.inl rfl)
                            · refine a_cons ?_ ?_
                              · exact s_var (i := 2) rfl (.inl rfl)
                              · exact a_nil 
                          · refine a_cons ?_ ?_
                            · exact s_var (i := 2) rfl (.inl rfl)
                            · exact a_nil 
                      · exact s_var (i := 3) rfl (.inl rfl)
                      · refine s_sub ?_ ?_
                        · exact s_var (i := 5) rfl (.inl rfl)
                        · exact s_int 
                    · refine b_one ?_
                      refine st_sub cset_list ?_ ?_ ?_
                      · exact s_var (i := 6) rfl (.inl rfl)
                      · exact s_var (i := 3) rfl (.inl rfl)
                      · exact s_var (i := 5) rfl (.inl rfl)
                · refine b_cons ?_ ?_
                  · refine st_set (i := 8) rfl (.inl rfl) ?_
                    refine s_call F__law_matrix_product (Nat.le_of_ble_eq_true rfl) rfl T.g__law_matrix_product ?_
                    refine a_cons ?_ ?_
                    · refine s_call F__law_matrix_inverse (Nat.le_of_ble_eq_true rfl) rfl T.g__law_matrix_inverse ?_
                      refine a_cons ?_ ?_
                      · exact s_var (i := 7) rfl (.inl rfl)
                      · refine a_cons ?_ ?_
                        · exact s_var (i := 2) rfl (.inl rfl)
                        · exact a_nil 
                    · refine a_cons ?_ ?_
                      · exact s_var (i := 6) rfl (.inl rfl)
                      · refine a_cons ?_ ?_
                        · exact s_var (i := 2) rfl (.inl rfl)
                        · exact a_nil 
                  · refine b_cons ?_ ?_
                    · refine st_sub cset_list ?_ ?_ ?_
                      · exact s_var (i := 7) rfl (.inl rfl)
                      · exact s_var (i := 3) rfl (.inl rfl)
                      · refine s_sub ?_ ?_
                        · exact s_var (i := 5) rfl (.inl rfl)
                        · exact s_int 
                    · refine b_one ?_
                      refine st_sub cset_list ?_ ?_ ?_
                      · refine s_call F__law_matrix_product (Nat.le_of_ble_eq_true rfl) rfl T.g__law_matrix_product ?_
                        refine a_cons ?_ ?_
                        · exact s_var (i := 8) rfl (.inl rfl)
                        · refine a_cons ?_ ?_
                          · exact s_var (i := 7) rfl (.inl rfl)
                          · refine a_cons ?_ ?_
                            · exact s_var (i := 2) rfl (.inl rfl)
                            · exact a_nil 
                      · exact s_var (i := 3) rfl (.inl rfl)
                      · exact s_var (i := 5) rfl (.inl rfl)
      · refine b_one ?_
        refine st_ret ?_
        exact s_var (i := 3) rfl (.inl rfl)
    )
theorem sc__law_value : FnScope ["word", "matrices", "prime", "found", "letter", "matrix"] ["word", "matrices", "prime"] (defScope s__law_value) := ⟨rfl, rfl, rfl, by decide +kernel, rfl, by decide +kernel, by decide +kernel⟩
theorem ok__law_value (T : Txt w K mg) (F__law_matrix_inverse : FnS P w K mg base 1 (He.ga K "_law_matrix_inverse") ["one", "prime"] M__law_matrix_inverse) (F__law_matrix_product : FnS P w K mg base 1 (He.ga K "_law_matrix_product") ["one", "other", "prime"] M__law_matrix_product)  {fd : FuncData} (F : FunD K "_law_value" "_law_value" (defArgs s__law_value) (defBody s__law_value) (defScope s__law_value) [] [] (He.ga K "_law_value") fd) : FnS P w K mg base 2 (He.ga K "_law_value") ["word", "matrices", "prime"] M__law_value :=
  fnS_of (rc := false) (N := ["word", "matrices", "prime", "found", "letter", "matrix"]) (ps := ["word", "matrices", "prime"]) (k := 1) (m := B__law_value) F sc__law_value (F.bindsN fun _ _ _ _ _ _ us hl => match us, hl with | [_, _, _], _ => rfl) (by
    refine b_cons ?_ ?_
    · refine st_set (i := 3) rfl (.inl rfl) ?_
      refine s_tup ?_
      refine a_cons ?_ ?_
      · exact s_int 
      · refine a_cons ?_ ?_
        · exact s_int 
        · refine a_cons ?_ ?_
          · exact s_int 
          · refine a_cons ?_ ?_
            · exact s_int 
            · exact a_nil 
    · refine b_cons ?_ ?_
      · refine st_for (own := [4]) ?_ ?_ ?_
        · refine i_seq ?_
          exact s_var (i := 0) rfl (.inl rfl)
        · exact g_name (i := 4) rfl (.inl rfl)
        · refine b_cons ?_ ?_
          · refine st_set (i := 5) rfl (.inl rfl) ?_
            refine s_ix ?_ ?_
            · exact s_var (i := 1) rfl (.inl rfl)
            · refine s_sub ?_ ?_
              · refine s_cb (cb_abs) rfl T.b_abs PyProof.Rows.boot_abs ?_
                refine a_cons ?_ ?_
                · exact s_var (i := 4) rfl (.inl rfl)
                · exact a_nil 
              · exact s_int 
          · refine b_cons ?_ ?_
            · refine st_if ?_ ?_ ?_
              · refine t_c c_lt ?_ ?_
                · exact s_var (i := 4) rfl (.inl rfl)
                · exact s_int 
              · refine b_one ?_
                refine st_set (i := 5) rfl (.inl rfl) ?_
                refine s_call F__law_matrix_inverse (Nat.le_of_ble_eq_true rfl) rfl T.g__law_matrix_inverse ?_
                refine a_cons ?_ ?_
                · exact s_var (i := 5) rfl (.inl rfl)
                · refine a_cons ?_ ?_
                  · exact s_var (i := 2) rfl (.inl rfl)
                  · exact a_nil 
              · exact b_nil 
            · refine b_one ?_
              refine st_set (i := 3) rfl (.inl rfl) ?_
              refine s_call F__law_matrix_product (Nat.le_of_ble_eq_true rfl) rfl T.g__law_matrix_product ?_
              refine a_cons ?_ ?_
              · exact s_var (i := 3) rfl (.inl rfl)
              · refine a_cons ?_ ?_
                · exact s_var (i := 5) rfl (.inl rfl)
                · refine a_cons ?_ ?_
                  · exact s_var (i := 2) rfl (.inl rfl)
                  · exact a_nil 
      · refine b_one ?_
        refine st_ret ?_
        exact s_var (i := 3) rfl (.inl rfl)
    )
theorem sc__law_centre : FnScope ["image", "found", "turn"] ["image"] (defScope s__law_centre) := ⟨rfl, rfl, rfl, by decide +kernel, rfl, by decide +kernel, by decide +kernel⟩
theorem ok__law_centre (T : Txt w K mg)   {fd : FuncData} (F : FunD K "_law_centre" "_law_centre" (defArgs s__law_centre) (defBody s__law_centre) (defScope s__law_centre) [] [] (He.ga K "_law_centre") fd) : FnS P w K mg base 1 (He.ga K "_law_centre") ["image"] M__law_centre :=
  fnS_of (rc := false) (N := ["image", "found", "turn"]) (ps := ["image"]) (k := 0) (m := B__law_centre) F sc__law_centre (F.bindsN fun _ _ _ _ _ _ us hl => match us, hl with | [_], _ => rfl) (by
    refine b_cons ?_ ?_
    · refine st_set (i := 1) rfl (.inl rfl) ?_
      refine s_cty (cb_list (mk := false)) rfl T.b_list PyProof.Rows.boot_list ?_
      refine a_cons ?_ ?_
      · exact s_var (i := 0) rfl (.inl rfl)
      · exact a_nil 
    · refine b_cons ?_ ?_
      · refine st_for (own := [2]) ?_ ?_ ?_
        · refine i_rng1 rfl T.b_range ?_
          refine a_cons ?_ ?_
          · refine s_cb (cb_len) rfl T.b_len PySem.boot_len ?_
            refine a_cons ?_ ?_
            · exact s_var (i := 0) rfl (.inl rfl)
            · exact a_nil 
          · exact a_nil 
        · exact g_name (i := 2) rfl (.inl rfl)
        · refine b_one ?_
          refine st_if ?_ ?_ ?_
          · refine t_w ?_
            refine w_and ?_ ?_
            · refine t_c c_gt ?_ ?_
              · refine s_cb (cb_len) rfl T.b_len PySem.boot_len ?_
                refine a_cons ?_ ?_
                · exact s_var (i := 1) rfl (.inl rfl)
                · exact a_nil 
              · exact s_int 
            · refine w_and1 ?_
              refine t_c c_eq ?_ ?_
              · refine s_ix ?_ ?_
                · exact s_var (i := 1) rfl (.inl rfl)
                · exact s_int 
              · refine s_neg ?_
                refine s_ix ?_ ?_
                · exact s_var (i := 1) rfl (.inl rfl)
                · refine s_neg ?_
                  exact s_int 
          · refine b_one ?_
            refine st_set (i := 1) rfl (.inl rfl) ?_
            refine s_sl (mk := false) ?_ ?_ ?_
            · exact s_var (i := 1) rfl (.inl rfl)
            · refine o_some ?_
              exact s_int 
            · refine o_some ?_
              refine s_neg ?_
              exact s_int 
          · exact b_nil 
      · refine b_one ?_
        refine st_ret ?_
        exact s_var (i := 1) rfl (.inl rfl)
    )
theorem sc__law_ends : FnScope ["strands", "word", "ends", "begin", "at", "letter", "right"] ["strands", "word"] (defScope s__law_ends) := ⟨rfl, rfl, rfl, by decide +kernel, rfl, by decide +kernel, by decide +kernel⟩
theorem ok__law_ends (T : Txt w K mg)   {fd : FuncData} (F : FunD K "_law_ends" "_law_ends" (defArgs s__law_ends) (defBody s__law_ends) (defScope s__law_ends) [] [] (He.ga K "_law_ends") fd) : FnS P w K mg base 1 (He.ga K "_law_ends") ["strands", "word"] M__law_ends :=
  fnS_of (rc := false) (N := ["strands", "word", "ends", "begin", "at", "letter", "right"]) (ps := ["strands", "word"]) (k := 0) (m := B__law_ends) F sc__law_ends (F.bindsN fun _ _ _ _ _ _ us hl => match us, hl with | [_, _], _ => rfl) (by
    refine b_cons ?_ ?_
    · refine st_set (i := 2) rfl (.inl rfl) ?_
      refine s_lst (mk := true) ?_
      exact a_nil 
    · refine b_cons ?_ ?_
      · refine st_for (own := [3]) ?_ ?_ ?_
        · refine i_rng1 rfl T.b_range ?_
          refine a_cons ?_ ?_
          · exact s_var (i := 0) rfl (.inl rfl)
          · exact a_nil 
        · exact g_name (i := 3) rfl (.inl rfl)
        · refine b_cons ?_ ?_
          · refine st_set (i := 4) rfl (.inl rfl) ?_
            exact s_var (i := 3) rfl (.inl rfl)
          · refine b_cons ?_ ?_
            · refine st_for (own := [5]) ?_ ?_ ?_
              · refine i_seq ?_
                exact s_var (i := 1) rfl (.inl rfl)
              · exact g_name (i := 5) rfl (.inl rfl)
              · refine b_cons ?_ ?_
                · refine st_set (i := 6) rfl (.inl rfl) ?_
                  refine s_cb (cb_abs) rfl T.b_abs PyProof.Rows.boot_abs ?_
                  refine a_cons ?_ ?_
                  · exact s_var (i := 5) rfl (.inl rfl)
                  · exact a_nil 
                · refine b_one ?_
                  refine st_if ?_ ?_ ?_
                  · refine t_c c_eq ?_ ?_
                    · exact s_var (i := 4) rfl (.inl rfl)
                    · exact s_var (i := 6) rfl (.inl rfl)
                  · refine b_one ?_
                    refine st_set (i := 4) rfl (.inl rfl) ?_
                    refine s_sub ?_ ?_
                    · exact s_var (i := 6) rfl (.inl rfl)
                    · exact s_int 
                  · refine b_one ?_
                    refine st_if ?_ ?_ ?_
                    · refine t_c c_eq ?_ ?_
                      · exact s_var (i := 4) rfl (.inl rfl)
                      · refine s_sub ?_ ?_
                        · exact s_var (i := 6) rfl (.inl rfl)
                        · exact s_int 
                    · refine b_one ?_
                      refine st_set (i := 4) rfl (.inl rfl) ?_
                      exact s_var (i := 6) rfl (.inl rfl)
                    · exact b_nil 
            · refine b_one ?_
              refine st_ex ?_
              refine s_m PySem.F.plainAttrs_list PySem.F.slot_list_append PySem.F.type_list_append m_append ?_ ?_
              · exact s_var (i := 2) rfl (.inl rfl)
              · refine a_cons ?_ ?_
                · exact s_var (i := 4) rfl (.inl rfl)
                · exact a_nil 
      · refine b_one ?_
        refine st_ret ?_
        exact s_var (i := 2) rfl (.inl rfl)
    )
theorem sc__law_right : FnScope ["deck", "strands", "word", "images", "prime", "matrices", "due", "product", "centres", "at", "end", "one"] ["deck", "strands", "word", "images"] (defScope s__law_right) := ⟨rfl, rfl, rfl, by decide +kernel, rfl, by decide +kernel, by decide +kernel⟩
theorem ok__law_right (T : Txt w K mg) (F__law_take : FnS P w K mg base 1 (He.ga K "_law_take") ["deck", "many"] M__law_take) (F__law_matrices : FnS P w K mg base 2 (He.ga K "_law_matrices") ["deck", "strands", "prime"] M__law_matrices) (F__law_tuple : FnS P w K mg base 2 (He.ga K "_law_tuple") ["word", "matrices", "prime"] M__law_tuple) (F__law_value : FnS P w K mg base 2 (He.ga K "_law_value") ["word", "matrices", "prime"] M__law_value) (F__law_centre : FnS P w K mg base 1 (He.ga K "_law_centre") ["image"] M__law_centre) (F__law_reduced : FnS P w K mg base 1 (He.ga K "_law_reduced") ["word"] M__law_reduced) (F__law_plain : FnS P w K mg base 6 (He.ga K "_law_plain") ["value"] M__law_plain) (F__law_ends : FnS P w K mg base 1 (He.ga K "_law_ends") ["strands", "word"] M__law_ends)  {fd : FuncData} (F : FunD K "_law_right" "_law_right" (defArgs s__law_right) (defBody s__law_right) (defScope s__law_right) [] [] (He.ga K "_law_right") fd) : FnS P w K mg base 7 (He.ga K "_law_right") ["deck", "strands", "word", "images"] M__law_right :=
  fnS_of (rc := false) (N := ["deck", "strands", "word", "images", "prime", "matrices", "due", "product", "centres", "at", "end", "one"]) (ps := ["deck", "strands", "word", "images"]) (k := 6) (m := B__law_right) F sc__law_right (F.bindsN fun _ _ _ _ _ _ us hl => match us, hl with | [_, _, _, _], _ => rfl) (by
    refine b_cons ?_ ?_
    · refine st_set (i := 4) rfl (.inl rfl) ?_
      refine s_ix ?_ ?_
      · refine s_lst (mk := false) ?_
        refine a_cons ?_ ?_
        · exact s_int 
        · refine a_cons ?_ ?_
          · exact s_int 
          · refine a_cons ?_ ?_
            · exact s_int 
            · exact a_nil 
      · refine s_call F__law_take (Nat.le_of_ble_eq_true rfl) rfl T.g__law_take ?_
        refine a_cons ?_ ?_
        · exact s_var (i := 0) rfl (.inl rfl)
        · refine a_cons ?_ ?_
          · exact s_int 
          · exact a_nil 
    · refine b_cons ?_ ?_
      · refine st_set (i := 5) rfl (.inl rfl) ?_
        refine s_call F__law_matrices (Nat.le_of_ble_eq_true rfl) rfl T.g__law_matrices ?_
        refine a_cons ?_ ?_
        · exact s_var (i := 0) rfl (.inl rfl)
        · refine a_cons ?_ ?_
          · exact s_var (i := 1) rfl (.inl rfl)
          · refine a_cons ?_ ?_
            · exact s_var (i := 4) rfl (.inl rfl)
            · exact a_nil 
      · refine b_cons ?_ ?_
        · refine st_set (i := 6) rfl (.inl rfl) ?_
          refine s_call F__law_tuple (Nat.le_of_ble_eq_true rfl) rfl T.g__law_tuple ?_
          refine a_cons ?_ ?_
          · exact s_var (i := 2) rfl (.inl rfl)
          · refine a_cons ?_ ?_
            · exact s_var (i := 5) rfl (.inl rfl)
            · refine a_cons ?_ ?_
              · exact s_var (i := 4) rfl (.inl rfl)
              · exact a_nil 
        · refine b_cons ?_ ?_
          · refine st_set (i := 7) rfl (.inl rfl) ?_
            refine s_lst (mk := false) ?_
            exact a_nil 
          · refine b_cons ?_ ?_
            · refine st_set (i := 8) rfl (.inl rfl) ?_
              refine s_lst (mk := true) ?_
              exact a_nil 
            · refine b_cons ?_ ?_
              · refine st_if ?_ ?_ ?_
                · refine t_c c_ne ?_ ?_
                  · refine s_cb (cb_len) rfl T.b_len PySem.boot_len ?_
                    refine a_cons ?_ ?_
                    · exact s_var (i := 3) rfl (.inr (.inl rfl))
                    · exact a_nil 
                  · exact s_var (i := 1) rfl (.inl rfl)
                · refine b_one ?_
                  refine st_ret ?_
                  exact s_bl 
                · exact b_nil 
              · refine b_cons ?_ ?_
                · refine st_for (own := [9]) ?_ ?_ ?_
                  · refine i_rng1 rfl T.b_range ?_
                    refine a_cons ?_ ?_
                    · exact s_var (i := 1) rfl (.inl rfl)
                    · exact a_nil 
                  · exact g_name (i := 9) rfl (.inr rfl)
                  · refine b_cons ?_ ?_
                    · refine st_if ?_ ?_ ?_
                      · refine t_w ?_
                        refine w_or ?_ ?_
                        · refine t_not ?_
                          refine t_tru ?_
                          refine s_cb cb_isi rfl T.b_isinstance PyProof.Rows.boot_isinstance ?_
                          refine a_cons ?_ ?_
                          · refine s_ix ?_ ?_
                            · exact s_var (i := 3) rfl (.inr (.inl rfl))
                            · exact s_var (i := 9) rfl (.inr (.inl rfl))
                          · refine a_cons ?_ ?_
                            · exact s_ty (n := "list") rfl T.b_list PyProof.Rows.boot_list
                            · exact a_nil 
                        · refine w_or1 ?_
                          refine t_c c_ne ?_ ?_
                          · refine s_call F__law_value (Nat.le_of_ble_eq_true rfl) rfl T.g__law_value ?_
                            refine a_cons ?_ ?_
                            · refine s_ix ?_ ?_
                              · exact s_var (i := 3) rfl (.inr (.inl rfl))
                              · exact s_var (i := 9) rfl (.inr (.inl rfl))
                            · refine a_cons ?_ ?_
                              · exact s_var (i := 5) rfl (.inl rfl)
                              · refine a_cons ?_ ?_
                                · exact s_var (i := 4) rfl (.inl rfl)
                                · exact a_nil 
                          · refine s_ix ?_ ?_
                            · exact s_var (i := 6) rfl (.inl rfl)
                            · exact s_var (i := 9) rfl (.inr (.inl rfl))
                      · refine b_one ?_
                        refine st_ret ?_
                        exact s_bl 
                      · exact b_nil 
                    · refine b_cons ?_ ?_
                      · refine st_if ?_ ?_ ?_
                        · refine t_c c_gt ?_ ?_
                          · refine s_cb (cb_len) rfl T.b_len PySem.boot_len ?_
                            refine a_cons ?_ ?_
                            · refine s_lc (mk := false) (own := [("one", 11)]) (gown := [11]) ?_ (by kernel_rfl) ?_ (by decide) ?_ ?_
                              · refine i_rng2 rfl T.b_range ?_
                                refine a_cons ?_ ?_
                                · exact s_int 
                                · refine a_cons ?_ ?_
                                  · refine s_cb (cb_len) rfl T.b_len PySem.boot_len ?_
                                    refine a_cons ?_ ?_
                                    · refine s_ix ?_ ?_
                                      · exact s_var (i := 3) rfl (.inr (.inl rfl))
                                      · exact s_var (i := 9) rfl (.inr (.inl rfl))
                                    · exact a_nil 
                                  · exact a_nil 
                              · exact g_name (i := 11) rfl (.inl rfl)
                              · refine ts_one ?_
                                refine t_c c_eq ?_ ?_
                                · refine s_ix ?_ ?_
                                  · refine s_ix ?_ ?_
                                    · exact s_var (i := 3) rfl (.inr (.inl rfl))
                                    · exact s_var (i := 9) rfl (.inr (.inl rfl))
                                  · exact s_var (i := 11) rfl (.inl rfl)
                                · refine s_neg ?_
                                  refine s_ix ?_ ?_
                                  · refine s_ix ?_ ?_
                                    · exact s_var (i := 3) rfl (.inr (.inl rfl))
                                    · exact s_var (i := 9) rfl (.inr (.inl rfl))
                                  · refine s_sub ?_ ?_
                                    · exact s_var (i := 11) rfl (.inl rfl)
                                    · exact s_int 
                              · exact s_var (i := 11) rfl (.inl rfl)
                            · exact a_nil 
                          · exact s_int 
                        · refine b_one ?_
                          refine st_ret ?_
                          exact s_bl 
                        · exact b_nil 
                      · refine b_cons ?_ ?_
                        · refine st_set (i := 7) rfl (.inl rfl) ?_
                          refine s_add (mk := false) ?_ ?_
                          · exact s_var (i := 7) rfl (.inl rfl)
                          · refine s_ix ?_ ?_
                            · exact s_var (i := 3) rfl (.inr (.inl rfl))
                            · exact s_var (i := 9) rfl (.inr (.inl rfl))
                        · refine b_one ?_
                          refine st_ex ?_
                          refine s_m PySem.F.plainAttrs_list PySem.F.slot_list_append PySem.F.type_list_append m_append ?_ ?_
                          · exact s_var (i := 8) rfl (.inl rfl)
                          · refine a_cons ?_ ?_
                            · refine s_call F__law_centre (Nat.le_of_ble_eq_true rfl) rfl T.g__law_centre ?_
                              refine a_cons ?_ ?_
                              · refine s_ix ?_ ?_
                                · exact s_var (i := 3) rfl (.inr (.inl rfl))
                                · exact s_var (i := 9) rfl (.inr (.inl rfl))
                              · exact a_nil 
                            · exact a_nil 
                · refine b_cons ?_ ?_
                  · refine st_if ?_ ?_ ?_
                    · refine t_c c_ne ?_ ?_
                      · refine s_call F__law_reduced (Nat.le_of_ble_eq_true rfl) rfl T.g__law_reduced ?_
                        refine a_cons ?_ ?_
                        · exact s_var (i := 7) rfl (.inl rfl)
                        · exact a_nil 
                      · refine s_listRg (mk := false) rfl T.b_list ?_
                        refine r_2 rfl T.b_range ?_ ?_
                        · exact s_int 
                        · refine s_add (mk := false) ?_ ?_
                          · exact s_var (i := 1) rfl (.inl rfl)
                          · exact s_int 
                    · refine b_one ?_
                      refine st_ret ?_
                      exact s_bl 
                    · exact b_nil 
                  · refine b_one ?_
                    refine st_ret ?_
                    refine s_c c_eq ?_ ?_
                    · refine s_call F__law_plain (Nat.le_of_ble_eq_true rfl) rfl T.g__law_plain ?_
                      refine a_cons ?_ ?_
                      · exact s_var (i := 8) rfl (.inl rfl)
                      · exact a_nil 
                    · refine s_call F__law_plain (Nat.le_of_ble_eq_true rfl) rfl T.g__law_plain ?_
                      refine a_cons ?_ ?_
                      · refine s_lc (mk := false) (own := [("end", 10)]) (gown := [10]) ?_ (by kernel_rfl) ?_ (by decide) ?_ ?_
                        · refine i_seq ?_
                          refine s_call F__law_ends (Nat.le_of_ble_eq_true rfl) rfl T.g__law_ends ?_
                          refine a_cons ?_ ?_
                          · exact s_var (i := 1) rfl (.inl rfl)
                          · refine a_cons ?_ ?_
                            · exact s_var (i := 2) rfl (.inl rfl)
                            · exact a_nil 
                        · exact g_name (i := 10) rfl (.inl rfl)
                        · exact ts_nil 
                        · refine s_lst (mk := false) ?_
                          refine a_cons ?_ ?_
                          · refine s_add (mk := false) ?_ ?_
                            · exact s_var (i := 10) rfl (.inl rfl)
                            · exact s_int 
                          · exact a_nil 
                      · exact a_nil 
    )
theorem sc__law_stepped : FnScope ["deck", "strands", "word", "way", "at", "part", "letter"] ["deck", "strands", "word"] (defScope s__law_stepped) := ⟨rfl, rfl, rfl, by decide +kernel, rfl, by decide +kernel, by decide +kernel⟩
theorem ok__law_stepped (T : Txt w K mg) (F__law_take : FnS P w K mg base 1 (He.ga K "_law_take") ["deck", "many"] M__law_take)  {fd : FuncData} (F : FunD K "_law_stepped" "_law_stepped" (defArgs s__law_stepped) (defBody s__law_stepped) (defScope s__law_stepped) [] [] (He.ga K "_law_stepped") fd) : FnS P w K mg base 2 (He.ga K "_law_stepped") ["deck", "strands", "word"] M__law_stepped :=
  fnS_of (rc := false) (N := ["deck", "strands", "word", "way", "at", "part", "letter"]) (ps := ["deck", "strands", "word"]) (k := 1) (m := B__law_stepped) F sc__law_stepped (F.bindsN fun _ _ _ _ _ _ us hl => match us, hl with | [_, _, _], _ => rfl) (by
    refine b_cons ?_ ?_
    · refine st_set (i := 3) rfl (.inl rfl) ?_
      refine s_call F__law_take (Nat.le_of_ble_eq_true rfl) rfl T.g__law_take ?_
      refine a_cons ?_ ?_
      · exact s_var (i := 0) rfl (.inl rfl)
      · refine a_cons ?_ ?_
        · exact s_int 
        · exact a_nil 
    · refine b_cons ?_ ?_
      · refine st_set (i := 4) rfl (.inl rfl) ?_
        refine s_call F__law_take (Nat.le_of_ble_eq_true rfl) rfl T.g__law_take ?_
        refine a_cons ?_ ?_
        · exact s_var (i := 0) rfl (.inl rfl)
        · refine a_cons ?_ ?_
          · refine s_add (mk := false) ?_ ?_
            · refine s_cb (cb_len) rfl T.b_len PySem.boot_len ?_
              refine a_cons ?_ ?_
              · exact s_var (i := 2) rfl (.inl rfl)
              · exact a_nil 
            · exact s_int 
          · exact a_nil 
      · refine b_cons ?_ ?_
        · refine st_if ?_ ?_ ?_
          · refine t_c c_eq ?_ ?_
            · exact s_var (i := 1) rfl (.inl rfl)
            · exact s_int 
          · refine b_one ?_
            refine st_ret ?_
            exact s_var (i := 2) rfl (.inl rfl)
          · exact b_nil 
        · refine b_cons ?_ ?_
          · refine st_if ?_ ?_ ?_
            · refine t_c c_lt ?_ ?_
              · exact s_var (i := 3) rfl (.inl rfl)
              · exact s_int 
            · refine b_cons ?_ ?_
              · refine st_set (i := 6) rfl (.inl rfl) ?_
                refine s_add (mk := false) ?_ ?_
                · exact s_int 
                · refine s_call F__law_take (Nat.le_of_ble_eq_true rfl) rfl T.g__law_take ?_
                  refine a_cons ?_ ?_
                  · exact s_var (i := 0) rfl (.inl rfl)
                  · refine a_cons ?_ ?_
                    · refine s_sub ?_ ?_
                      · exact s_var (i := 1) rfl (.inl rfl)
                      · exact s_int 
                    · exact a_nil 
              · refine b_cons ?_ ?_
                · refine st_set (i := 6) rfl (.inl rfl) ?_
                  refine s_ix ?_ ?_
                  · refine s_lst (mk := false) ?_
                    refine a_cons ?_ ?_
                    · exact s_var (i := 6) rfl (.inl rfl)
                    · refine a_cons ?_ ?_
                      · refine s_neg ?_
                        exact s_var (i := 6) rfl (.inl rfl)
                      · exact a_nil 
                  · refine s_call F__law_take (Nat.le_of_ble_eq_true rfl) rfl T.g__law_take ?_
                    refine a_cons ?_ ?_
                    · exact s_var (i := 0) rfl (.inl rfl)
                    · refine a_cons ?_ ?_
                      · exact s_int 
                      · exact a_nil 
                · refine b_one ?_
                  refine st_ret ?_
                  refine s_add (mk := false) ?_ ?_
                  · refine s_add (mk := false) ?_ ?_
                    · refine s_sl (mk := false) ?_ ?_ ?_
                      · exact s_var (i := 2) rfl (.inl rfl)
                      · exact o_none 
                      · refine o_some ?_
                        exact s_var (i := 4) rfl (.inl rfl)
                    · refine s_lst (mk := false) ?_
                      refine a_cons ?_ ?_
                      · exact s_var (i := 6) rfl (.inl rfl)
                      · refine a_cons ?_ ?_
                        · refine s_neg ?_
                          exact s_var (i := 6) rfl (.inl rfl)
                        · exact a_nil 
                  · refine s_sl (mk := false) ?_ ?_ ?_
                    · exact s_var (i := 2) rfl (.inl rfl)
                    · refine o_some ?_
                      exact s_var (i := 4) rfl (.inl rfl)
                    · exact o_none 
            · exact b_nil 
          · refine b_cons ?_ ?_
            · refine st_set (i := 5) rfl (.inl rfl) ?_
              refine s_sl (mk := false) ?_ ?_ ?_
              · exact s_var (i := 2) rfl (.inl rfl)
              · refine o_some ?_
                exact s_var (i := 4) rfl (.inl rfl)
              · refine o_some ?_
                refine s_add (mk := false) ?_ ?_
                · exact s_var (i := 4) rfl (.inl rfl)
                · exact s_int 
            · refine b_cons ?_ ?_
              · refine st_if ?_ ?_ ?_
                · refine t_w ?_
                  refine w_and ?_ ?_
                  · refine t_c c_eq ?_ ?_
                    · exact s_var (i := 3) rfl (.inl rfl)
                    · exact s_int 
                  · refine w_and ?_ ?_
                    · refine t_c c_gt ?_ ?_
                      · refine s_cb (cb_len) rfl T.b_len PySem.boot_len ?_
                        refine a_cons ?_ ?_
                        · exact s_var (i := 5) rfl (.inl rfl)
                        · exact a_nil 
                      · exact s_int 
                    · refine w_and1 ?_
                      refine t_c c_eq ?_ ?_
                      · refine s_ix ?_ ?_
                        · exact s_var (i := 5) rfl (.inl rfl)
                        · exact s_int 
                      · refine s_neg ?_
                        refine s_ix ?_ ?_
                        · exact s_var (i := 5) rfl (.inl rfl)
                        · exact s_int 
                · refine b_one ?_
                  refine st_ret ?_
                  refine s_add (mk := false) ?_ ?_
                  · refine s_sl (mk := false) ?_ ?_ ?_
                    · exact s_var (i := 2) rfl (.inl rfl)
                    · exact o_none 
                    · refine o_some ?_
                      exact s_var (i := 4) rfl (.inl rfl)
                  · refine s_sl (mk := false) ?_ ?_ ?_
                    · exact s_var (i := 2) rfl (.inl rfl)
                    · refine o_some ?_
                      refine s_add (mk := false) ?_ ?_
                      · exact s_var (i := 4) rfl (.inl rfl)
                      · exact s_int 
                    · exact o_none 
                · exact b_nil 
              · refine b_cons ?_ ?_
                · refine st_if ?_ ?_ ?_
                  · refine t_w ?_
                    refine w_and ?_ ?_
                    · refine t_c c_gt ?_ ?_
                      · refine s_cb (cb_len) rfl T.b_len PySem.boot_len ?_
                        refine a_cons ?_ ?_
                        · exact s_var (i := 5) rfl (.inl rfl)
                        · exact a_nil 
                      · exact s_int 
                    · refine w_and1 ?_
                      refine t_c c_gt ?_ ?_
                      · refine s_cb (cb_abs) rfl T.b_abs PyProof.Rows.boot_abs ?_
                        refine a_cons ?_ ?_
                        · refine s_sub ?_ ?_
                          · refine s_cb (cb_abs) rfl T.b_abs PyProof.Rows.boot_abs ?_
                            refine a_cons ?_ ?_
                            · refine s_ix ?_ ?_
                              · exact s_var (i := 5) rfl (.inl rfl)
                              · exact s_int 
                            · exact a_nil 
                          · refine s_cb (cb_abs) rfl T.b_abs PyProof.Rows.boot_abs ?_
                            refine a_cons ?_ ?_
                            · refine s_ix ?_ ?_
                              · exact s_var (i := 5) rfl (.inl rfl)
                              · exact s_int 
                            · exact a_nil 
                        · exact a_nil 
                      · exact s_int 
                  · refine b_one ?_
                    refine st_ret ?_
                    refine s_add (mk := false) ?_ ?_
                    · refine s_add (mk := false) ?_ ?_
                      · refine s_sl (mk := false) ?_ ?_ ?_
                        · exact s_var (i := 2) rfl (.inl rfl)
                        · exact o_none 
                        · refine o_some ?_
                          exact s_var (i := 4) rfl (.inl rfl)
                      · refine s_lst (mk := false) ?_
                        refine a_cons ?_ ?_
                        · refine s_ix ?_ ?_
                          · exact s_var (i := 5) rfl (.inl rfl)
                          · exact s_int 
                        · refine a_cons ?_ ?_
                          · refine s_ix ?_ ?_
                            · exact s_var (i := 5) rfl (.inl rfl)
                            · exact s_int 
                          · exact a_nil 
                    · refine s_sl (mk := false) ?_ ?_ ?_
                      · exact s_var (i := 2) rfl (.inl rfl)
                      · refine o_some ?_
                        refine s_add (mk := false) ?_ ?_
                        · exact s_var (i := 4) rfl (.inl rfl)
                        · exact s_int 
                      · exact o_none 
                  · exact b_nil 
                · refine b_cons ?_ ?_
                  · refine st_if ?_ ?_ ?_
                    · refine t_w ?_
                      refine w_and ?_ ?_
                      · refine t_c c_eq ?_ ?_
                        · refine s_cb (cb_len) rfl T.b_len PySem.boot_len ?_
                          refine a_cons ?_ ?_
                          · exact s_var (i := 5) rfl (.inl rfl)
                          · exact a_nil 
                        · exact s_int 
                      · refine w_and ?_ ?_
                        · refine t_c c_eq ?_ ?_
                          · refine s_ix ?_ ?_
                            · exact s_var (i := 5) rfl (.inl rfl)
                            · exact s_int 
                          · refine s_ix ?_ ?_
                            · exact s_var (i := 5) rfl (.inl rfl)
                            · exact s_int 
                        · refine w_and1 ?_
                          refine t_c c_eq ?_ ?_
                          · refine s_cb (cb_abs) rfl T.b_abs PyProof.Rows.boot_abs ?_
                            refine a_cons ?_ ?_
                            · refine s_sub ?_ ?_
                              · refine s_cb (cb_abs) rfl T.b_abs PyProof.Rows.boot_abs ?_
                                refine a_cons ?_ ?_
                                · refine s_ix ?_ ?_
                                  · exact s_var (i := 5) rfl (.inl rfl)
                                  · exact s_int 
                                · exact a_nil 
                              · refine s_cb (cb_abs) rfl T.b_abs PyProof.Rows.boot_abs ?_
                                refine a_cons ?_ ?_
                                · refine s_ix ?_ ?_
                                  · exact s_var (i := 5) rfl (.inl rfl)
                                  · exact s_int 
                                · exact a_nil 
                            · exact a_nil 
                          · exact s_int 
                    · refine b_one ?_
                      refine st_if ?_ ?_ ?_
                      · refine t_c c_eq ?_ ?_
                        · refine s_c c_gt ?_ ?_
                          · refine s_ix ?_ ?_
                            · exact s_var (i := 5) rfl (.inl rfl)
                            · exact s_int 
                          · exact s_int 
                        · refine s_c c_gt ?_ ?_
                          · refine s_ix ?_ ?_
                            · exact s_var (i := 5) rfl (.inl rfl)
                            · exact s_int 
                          · exact s_int 
                      · refine b_one ?_
                        refine st_ret ?_
                        refine s_add (mk := false) ?_ ?_
                        · refine s_add (mk := false) ?_ ?_
                          · refine s_sl (mk := false) ?_ ?_ ?_
                            · exact s_var (i := 2) rfl (.inl rfl)
                            · exact o_none 
                            · refine o_some ?_
                              exact s_var (i := 4) rfl (.inl rfl)
                          · refine s_lst (mk := false) ?_
                            refine a_cons ?_ ?_
                            · refine s_ix ?_ ?_
                              · exact s_var (i := 5) rfl (.inl rfl)
                              · exact s_int 
                            · refine a_cons ?_ ?_
                              · refine s_ix ?_ ?_
                                · exact s_var (i := 5) rfl (.inl rfl)
                                · exact s_int 
                              · refine a_cons ?_ ?_
                                · refine s_ix ?_ ?_
                                  · exact s_var (i := 5) rfl (.inl rfl)
                                  · exact s_int 
                                · exact a_nil 
                        · refine s_sl (mk := false) ?_ ?_ ?_
                          · exact s_var (i := 2) rfl (.inl rfl)
                          · refine o_some ?_
                            refine s_add (mk := false) ?_ ?_
                            · exact s_var (i := 4) rfl (.inl rfl)
                            · exact s_int 
                          · exact o_none 
                      · exact b_nil 
                    · exact b_nil 
                  · refine b_one ?_
                    refine st_ret ?_
                    exact s_var (i := 2) rfl (.inl rfl)
    )
theorem sc__law_scrambled : FnScope ["deck", "strands", "word", "turns", "found", "turn"] ["deck", "strands", "word", "turns"] (defScope s__law_scrambled) := ⟨rfl, rfl, rfl, by decide +kernel, rfl, by decide +kernel, by decide +kernel⟩
theorem ok__law_scrambled (T : Txt w K mg) (F__law_stepped : FnS P w K mg base 2 (He.ga K "_law_stepped") ["deck", "strands", "word"] M__law_stepped)  {fd : FuncData} (F : FunD K "_law_scrambled" "_law_scrambled" (defArgs s__law_scrambled) (defBody s__law_scrambled) (defScope s__law_scrambled) [] [] (He.ga K "_law_scrambled") fd) : FnS P w K mg base 3 (He.ga K "_law_scrambled") ["deck", "strands", "word", "turns"] M__law_scrambled :=
  fnS_of (rc := false) (N := ["deck", "strands", "word", "turns", "found", "turn"]) (ps := ["deck", "strands", "word", "turns"]) (k := 2) (m := B__law_scrambled) F sc__law_scrambled (F.bindsN fun _ _ _ _ _ _ us hl => match us, hl with | [_, _, _, _], _ => rfl) (by
    refine b_cons ?_ ?_
    · refine st_set (i := 4) rfl (.inl rfl) ?_
      refine s_cty (cb_list (mk := false)) rfl T.b_list PyProof.Rows.boot_list ?_
      refine a_cons ?_ ?_
      · exact s_var (i := 2) rfl (.inl rfl)
      · exact a_nil 
    · refine b_cons ?_ ?_
      · refine st_for (own := [5]) ?_ ?_ ?_
        · refine i_rng1 rfl T.b_range ?_
          refine a_cons ?_ ?_
          · exact s_var (i := 3) rfl (.inl rfl)
          · exact a_nil 
        · exact g_name (i := 5) rfl (.inl rfl)
        · refine b_one ?_
          refine st_set (i := 4) rfl (.inl rfl) ?_
          refine s_call F__law_stepped (Nat.le_of_ble_eq_true rfl) rfl T.g__law_stepped ?_
          refine a_cons ?_ ?_
          · exact s_var (i := 0) rfl (.inl rfl)
          · refine a_cons ?_ ?_
            · exact s_var (i := 1) rfl (.inl rfl)
            · refine a_cons ?_ ?_
              · exact s_var (i := 4) rfl (.inl rfl)
              · exact a_nil 
      · refine b_one ?_
        refine st_ret ?_
        exact s_var (i := 4) rfl (.inl rfl)
    )
theorem sc_law : FnScope ["script", "deck", "strands", "word", "free", "images", "own", "other", "again", "back", "due", "letter", "at"] ["script"] (defScope s_law) := ⟨rfl, rfl, rfl, by decide +kernel, rfl, by decide +kernel, by decide +kernel⟩
theorem ok_law (T : Txt w K mg) (F__law_deck : FnS P w K mg base 1 (He.ga K "_law_deck") ["script", "cells", "each"] M__law_deck) (F__law_take : FnS P w K mg base 1 (He.ga K "_law_take") ["deck", "many"] M__law_take) (F__law_word : FnS P w K mg base 2 (He.ga K "_law_word") ["deck", "strands", "most"] M__law_word) (F__law_images : FnS P w K mg base 3 (He.ga K "_law_images") ["strands", "word", "most"] M__law_images) (F__law_told : FnS P w K mg base 5 (He.ga K "_law_told") ["strands", "word"] M__law_told) (F__law_plain : FnS P w K mg base 6 (He.ga K "_law_plain") ["value"] M__law_plain) (F__law_free_word : FnS P w K mg base 2 (He.ga K "_law_free_word") ["deck"] M__law_free_word) (F_reduced_word : FnS P w K mg base 1 (He.ga K "reduced_word") ["word"] M_reduced_word) (F__law_left : FnS P w K mg base 1 (He.ga K "_law_left") ["word"] M__law_left) (F__law_right : FnS P w K mg base 7 (He.ga K "_law_right") ["deck", "strands", "word", "images"] M__law_right) (F__law_scrambled : FnS P w K mg base 3 (He.ga K "_law_scrambled") ["deck", "strands", "word", "turns"] M__law_scrambled)  {fd : FuncData} (F : FunD K "law" "law" (defArgs s_law) (defBody s_law) (defScope s_law) [] [] (He.ga K "law") fd) : FnOk P w K mg base CX0 8 (He.ga K "law") fd ["script"] (fun vs H Q _ => spM K 1 M_law vs H Q E0) :=
  law_of (N := ["script", "deck", "strands", "word", "free", "images", "own", "other", "again", "back", "due", "letter", "at"]) (ps := ["script"]) (k := 7) (m := B_law) F sc_law (by
    refine b_cons ?_ ?_
    · refine st_set (i := 1) rfl (.inl rfl) ?_
      refine s_call F__law_deck (Nat.le_of_ble_eq_true rfl) rfl T.g__law_deck ?_
      refine a_cons ?_ ?_
      · exact s_var (i := 0) rfl (.inl rfl)
      · refine a_cons ?_ ?_
        · exact s_int 
        · refine a_cons ?_ ?_
          · exact s_int 
          · exact a_nil 
    · refine b_cons ?_ ?_
      · refine st_set (i := 2) rfl (.inl rfl) ?_
        refine s_ix ?_ ?_
        · refine s_lst (mk := false) ?_
          refine a_cons ?_ ?_
          · refine s_add (mk := false) ?_ ?_
            · exact s_int 
            · refine s_call F__law_take (Nat.le_of_ble_eq_true rfl) rfl T.g__law_take ?_
              refine a_cons ?_ ?_
              · exact s_var (i := 1) rfl (.inl rfl)
              · refine a_cons ?_ ?_
                · exact s_int 
                · exact a_nil 
          · refine a_cons ?_ ?_
            · refine s_add (mk := false) ?_ ?_
              · exact s_int 
              · refine s_call F__law_take (Nat.le_of_ble_eq_true rfl) rfl T.g__law_take ?_
                refine a_cons ?_ ?_
                · exact s_var (i := 1) rfl (.inl rfl)
                · refine a_cons ?_ ?_
                  · exact s_int 
                  · exact a_nil 
            · exact a_nil 
        · refine s_call F__law_take (Nat.le_of_ble_eq_true rfl) rfl T.g__law_take ?_
          refine a_cons ?_ ?_
          · exact s_var (i := 1) rfl (.inl rfl)
          · refine a_cons ?_ ?_
            · exact s_int 
            · exact a_nil 
      · refine b_cons ?_ ?_
        · refine st_set (i := 3) rfl (.inl rfl) ?_
          refine s_call F__law_word (Nat.le_of_ble_eq_true rfl) rfl T.g__law_word ?_
          refine a_cons ?_ ?_
          · exact s_var (i := 1) rfl (.inl rfl)
          · refine a_cons ?_ ?_
            · exact s_var (i := 2) rfl (.inl rfl)
            · refine a_cons ?_ ?_
              · refine s_ix ?_ ?_
                · refine s_lst (mk := false) ?_
                  refine a_cons ?_ ?_
                  · exact s_int 
                  · refine a_cons ?_ ?_
                    · exact s_int 
                    · refine a_cons ?_ ?_
                      · exact s_int 
                      · refine a_cons ?_ ?_
                        · exact s_int 
                        · exact a_nil 
                · refine s_call F__law_take (Nat.le_of_ble_eq_true rfl) rfl T.g__law_take ?_
                  refine a_cons ?_ ?_
                  · exact s_var (i := 1) rfl (.inl rfl)
                  · refine a_cons ?_ ?_
                    · exact s_int 
                    · exact a_nil 
              · exact a_nil 
        · refine b_cons ?_ ?_
          · refine st_if ?_ ?_ ?_
            · refine t_c c_eq ?_ ?_
              · refine s_call F__law_take (Nat.le_of_ble_eq_true rfl) rfl T.g__law_take ?_
                refine a_cons ?_ ?_
                · exact s_var (i := 1) rfl (.inl rfl)
                · refine a_cons ?_ ?_
                  · exact s_int 
                  · exact a_nil 
              · exact s_int 
            · refine b_cons ?_ ?_
              · refine st_set (i := 3) rfl (.inl rfl) ?_
                refine s_mul (mk := false) ?_ ?_
                · refine s_lst (mk := false) ?_
                  refine a_cons ?_ ?_
                  · exact s_int 
                  · refine a_cons ?_ ?_
                    · refine s_neg ?_
                      exact s_int 
                    · exact a_nil 
                · refine s_add (mk := false) ?_ ?_
                  · exact s_int 
                  · refine s_call F__law_take (Nat.le_of_ble_eq_true rfl) rfl T.g__law_take ?_
                    refine a_cons ?_ ?_
                    · exact s_var (i := 1) rfl (.inl rfl)
                    · refine a_cons ?_ ?_
                      · exact s_int 
                      · exact a_nil 
              · refine b_cons ?_ ?_
                · refine st_set (i := 10) rfl (.inl rfl) ?_
                  refine s_call F__law_images (Nat.le_of_ble_eq_true rfl) rfl T.g__law_images ?_
                  refine a_cons ?_ ?_
                  · exact s_int 
                  · refine a_cons ?_ ?_
                    · exact s_var (i := 3) rfl (.inl rfl)
                    · refine a_cons ?_ ?_
                      · exact s_int 
                      · exact a_nil 
                · refine b_cons ?_ ?_
                  · refine st_set (i := 10) rfl (.inl rfl) ?_
                    refine s_if ?_ ?_ ?_
                    · refine t_c c_isN ?_ ?_
                      · exact s_var (i := 10) rfl (.inl rfl)
                      · exact s_non 
                    · refine s_tup ?_
                      refine a_cons ?_ ?_
                      · exact s_str 
                      · refine a_cons ?_ ?_
                        · exact s_str 
                        · exact a_nil 
                    · exact s_var (i := 10) rfl (.inl rfl)
                  · refine b_one ?_
                    refine st_ret ?_
                    refine s_c c_eq ?_ ?_
                    · refine s_call F__law_plain (Nat.le_of_ble_eq_true rfl) rfl T.g__law_plain ?_
                      refine a_cons ?_ ?_
                      · refine s_call F__law_told (Nat.le_of_ble_eq_true rfl) rfl T.g__law_told ?_
                        refine a_cons ?_ ?_
                        · exact s_int 
                        · refine a_cons ?_ ?_
                          · exact s_var (i := 3) rfl (.inl rfl)
                          · exact a_nil 
                      · exact a_nil 
                    · refine s_call F__law_plain (Nat.le_of_ble_eq_true rfl) rfl T.g__law_plain ?_
                      refine a_cons ?_ ?_
                      · exact s_var (i := 10) rfl (.inl rfl)
                      · exact a_nil 
            · exact b_nil 
          · refine b_cons ?_ ?_
            · refine st_set (i := 4) rfl (.inl rfl) ?_
              refine s_call F__law_free_word (Nat.le_of_ble_eq_true rfl) rfl T.g__law_free_word ?_
              refine a_cons ?_ ?_
              · exact s_var (i := 1) rfl (.inl rfl)
              · exact a_nil 
            · refine b_cons ?_ ?_
              · refine st_if ?_ ?_ ?_
                · refine t_c c_ne ?_ ?_
                  · refine s_call F__law_plain (Nat.le_of_ble_eq_true rfl) rfl T.g__law_plain ?_
                    refine a_cons ?_ ?_
                    · refine s_call F_reduced_word (Nat.le_of_ble_eq_true rfl) rfl T.g_reduced_word ?_
                      refine a_cons ?_ ?_
                      · exact s_var (i := 4) rfl (.inl rfl)
                      · exact a_nil 
                    · exact a_nil 
                  · refine s_call F__law_plain (Nat.le_of_ble_eq_true rfl) rfl T.g__law_plain ?_
                    refine a_cons ?_ ?_
                    · refine s_call F__law_left (Nat.le_of_ble_eq_true rfl) rfl T.g__law_left ?_
                      refine a_cons ?_ ?_
                      · exact s_var (i := 4) rfl (.inl rfl)
                      · exact a_nil 
                    · exact a_nil 
                · refine b_one ?_
                  refine st_ret ?_
                  exact s_bl 
                · exact b_nil 
              · refine b_cons ?_ ?_
                · refine st_set (i := 5) rfl (.inl rfl) ?_
                  refine s_call F__law_told (Nat.le_of_ble_eq_true rfl) rfl T.g__law_told ?_
                  refine a_cons ?_ ?_
                  · exact s_var (i := 2) rfl (.inl rfl)
                  · refine a_cons ?_ ?_
                    · exact s_var (i := 3) rfl (.inl rfl)
                    · exact a_nil 
                · refine b_cons ?_ ?_
                  · refine st_set (i := 6) rfl (.inl rfl) ?_
                    refine s_call F__law_images (Nat.le_of_ble_eq_true rfl) rfl T.g__law_images ?_
                    refine a_cons ?_ ?_
                    · exact s_var (i := 2) rfl (.inl rfl)
                    · refine a_cons ?_ ?_
                      · exact s_var (i := 3) rfl (.inl rfl)
                      · refine a_cons ?_ ?_
                        · exact s_int 
                        · exact a_nil 
                  · refine b_cons ?_ ?_
                    · refine st_if ?_ ?_ ?_
                      · refine t_w ?_
                        refine w_or ?_ ?_
                        · refine t_tru ?_
                          refine s_cb cb_isi rfl T.b_isinstance PyProof.Rows.boot_isinstance ?_
                          refine a_cons ?_ ?_
                          · exact s_var (i := 5) rfl (.inl rfl)
                          · refine a_cons ?_ ?_
                            · exact s_ty (n := "tuple") rfl T.b_tuple PyProof.Rows.boot_tuple
                            · exact a_nil 
                        · refine w_or1 ?_
                          refine t_c c_isN ?_ ?_
                          · exact s_var (i := 6) rfl (.inl rfl)
                          · exact s_non 
                      · refine b_one ?_
                        refine st_ret ?_
                        refine s_and ?_ ?_
                        · refine s_c c_isN ?_ ?_
                          · exact s_var (i := 6) rfl (.inl rfl)
                          · exact s_non 
                        · refine s_one ?_
                          refine s_c c_eq ?_ ?_
                          · exact s_var (i := 5) rfl (.inl rfl)
                          · refine s_tup ?_
                            refine a_cons ?_ ?_
                            · exact s_str 
                            · refine a_cons ?_ ?_
                              · exact s_str 
                              · exact a_nil 
                      · exact b_nil 
                    · refine b_cons ?_ ?_
                      · refine st_if ?_ ?_ ?_
                        · refine t_not ?_
                          refine t_tru ?_
                          refine s_call F__law_right (Nat.le_of_ble_eq_true rfl) rfl T.g__law_right ?_
                          refine a_cons ?_ ?_
                          · exact s_var (i := 1) rfl (.inl rfl)
                          · refine a_cons ?_ ?_
                            · exact s_var (i := 2) rfl (.inl rfl)
                            · refine a_cons ?_ ?_
                              · exact s_var (i := 3) rfl (.inl rfl)
                              · refine a_cons ?_ ?_
                                · exact s_var (i := 5) rfl (.inl rfl)
                                · exact a_nil 
                        · refine b_one ?_
                          refine st_ret ?_
                          exact s_bl 
                        · exact b_nil 
                      · refine b_cons ?_ ?_
                        · refine st_set (i := 7) rfl (.inl rfl) ?_
                          refine s_call F__law_scrambled (Nat.le_of_ble_eq_true rfl) rfl T.g__law_scrambled ?_
                          refine a_cons ?_ ?_
                          · exact s_var (i := 1) rfl (.inl rfl)
                          · refine a_cons ?_ ?_
                            · exact s_var (i := 2) rfl (.inl rfl)
                            · refine a_cons ?_ ?_
                              · exact s_var (i := 3) rfl (.inl rfl)
                              · refine a_cons ?_ ?_
                                · refine s_call F__law_take (Nat.le_of_ble_eq_true rfl) rfl T.g__law_take ?_
                                  refine a_cons ?_ ?_
                                  · exact s_var (i := 1) rfl (.inl rfl)
                                  · refine a_cons ?_ ?_
                                    · exact s_int 
                                    · exact a_nil 
                                · exact a_nil 
                        · refine b_cons ?_ ?_
                          · refine st_set (i := 8) rfl (.inl rfl) ?_
                            refine s_call F__law_told (Nat.le_of_ble_eq_true rfl) rfl T.g__law_told ?_
                            refine a_cons ?_ ?_
                            · exact s_var (i := 2) rfl (.inl rfl)
                            · refine a_cons ?_ ?_
                              · exact s_var (i := 7) rfl (.inl rfl)
                              · exact a_nil 
                          · refine b_cons ?_ ?_
                            · refine st_if ?_ ?_ ?_
                              · refine t_w ?_
                                refine w_and ?_ ?_
                                · refine t_not ?_
                                  refine t_tru ?_
                                  refine s_cb cb_isi rfl T.b_isinstance PyProof.Rows.boot_isinstance ?_
                                  refine a_cons ?_ ?_
                                  · exact s_var (i := 8) rfl (.inl rfl)
                                  · refine a_cons ?_ ?_
                                    · exact s_ty (n := "tuple") rfl T.b_tuple PyProof.Rows.boot_tuple
                                    · exact a_nil 
                                · refine w_and1 ?_
                                  refine t_c c_ne ?_ ?_
                                  · refine s_call F__law_plain (Nat.le_of_ble_eq_true rfl) rfl T.g__law_plain ?_
                                    refine a_cons ?_ ?_
                                    · exact s_var (i := 8) rfl (.inl rfl)
                                    · exact a_nil 
                                  · refine s_call F__law_plain (Nat.le_of_ble_eq_true rfl) rfl T.g__law_plain ?_
                                    refine a_cons ?_ ?_
                                    · exact s_var (i := 5) rfl (.inl rfl)
                                    · exact a_nil 
                              · refine b_one ?_
                                refine st_ret ?_
                                exact s_bl 
                              · exact b_nil 
                            · refine b_cons ?_ ?_
                              · refine st_set (i := 9) rfl (.inl rfl) ?_
                                refine s_call F__law_told (Nat.le_of_ble_eq_true rfl) rfl T.g__law_told ?_
                                refine a_cons ?_ ?_
                                · exact s_var (i := 2) rfl (.inl rfl)
                                · refine a_cons ?_ ?_
                                  · refine s_add (mk := false) ?_ ?_
                                    · exact s_var (i := 3) rfl (.inl rfl)
                                    · refine s_lc (mk := false) (own := [("letter", 11)]) (gown := [11]) ?_ (by kernel_rfl) ?_ (by decide) ?_ ?_
                                      · refine i_seq ?_
                                        refine s_rev (mk := false) ?_
                                        exact s_var (i := 3) rfl (.inl rfl)
                                      · exact g_name (i := 11) rfl (.inl rfl)
                                      · exact ts_nil 
                                      · refine s_neg ?_
                                        exact s_var (i := 11) rfl (.inl rfl)
                                  · exact a_nil 
                              · refine b_one ?_
                                refine st_ret ?_
                                refine s_c c_eq ?_ ?_
                                · refine s_call F__law_plain (Nat.le_of_ble_eq_true rfl) rfl T.g__law_plain ?_
                                  refine a_cons ?_ ?_
                                  · exact s_var (i := 9) rfl (.inl rfl)
                                  · exact a_nil 
                                · refine s_call F__law_plain (Nat.le_of_ble_eq_true rfl) rfl T.g__law_plain ?_
                                  refine a_cons ?_ ?_
                                  · refine s_lc (mk := false) (own := [("at", 12)]) (gown := [12]) ?_ (by kernel_rfl) ?_ (by decide) ?_ ?_
                                    · refine i_rng1 rfl T.b_range ?_
                                      refine a_cons ?_ ?_
                                      · exact s_var (i := 2) rfl (.inl rfl)
                                      · exact a_nil 
                                    · exact g_name (i := 12) rfl (.inl rfl)
                                    · exact ts_nil 
                                    · refine s_lst (mk := false) ?_
                                      refine a_cons ?_ ?_
                                      · refine s_add (mk := false) ?_ ?_
                                        · exact s_var (i := 12) rfl (.inl rfl)
                                        · exact s_int 
                                      · exact a_nil 
                                  · exact a_nil 
    )
end
end Gk07

set_option Elab.async false
set_option linter.all false
set_option maxRecDepth 100000
set_option maxHeartbeats 0
namespace Gk07
open PySem PySem.Spec L2 SL
open PyProof.Rows hiding St
def d__law_deck : He.DefD := ⟨("_law_deck", none), "_law_deck", "_law_deck", defArgs s__law_deck, defBody s__law_deck, defScope s__law_deck, [], []⟩
def d__law_take : He.DefD := ⟨("_law_take", none), "_law_take", "_law_take", defArgs s__law_take, defBody s__law_take, defScope s__law_take, [], []⟩
def d__law_word : He.DefD := ⟨("_law_word", none), "_law_word", "_law_word", defArgs s__law_word, defBody s__law_word, defScope s__law_word, [], []⟩
def d__law_reduced : He.DefD := ⟨("_law_reduced", none), "_law_reduced", "_law_reduced", defArgs s__law_reduced, defBody s__law_reduced, defScope s__law_reduced, [], []⟩
def d__law_image : He.DefD := ⟨("_law_image", none), "_law_image", "_law_image", defArgs s__law_image, defBody s__law_image, defScope s__law_image, [], []⟩
def d__law_images : He.DefD := ⟨("_law_images", none), "_law_images", "_law_images", defArgs s__law_images, defBody s__law_images, defScope s__law_images, [], []⟩
def d_Braid___init__ : He.DefD := ⟨("Braid", some "__init__"), "__init__", "Braid.__init__", defArgs s_Braid___init__, defBody s_Braid___init__, defScope s_Braid___init__, [], []⟩
def d_images_under : He.DefD := ⟨("images_under", none), "images_under", "images_under", defArgs s_images_under, defBody s_images_under, defScope s_images_under, [], []⟩
def d_reduced_word : He.DefD := ⟨("reduced_word", none), "reduced_word", "reduced_word", defArgs s_reduced_word, defBody s_reduced_word, defScope s_reduced_word, [], []⟩
def d_moved_word : He.DefD := ⟨("moved_word", none), "moved_word", "moved_word", defArgs s_moved_word, defBody s_moved_word, defScope s_moved_word, [], []⟩
def d_action : He.DefD := ⟨("action", none), "action", "action", defArgs s_action, defBody s_action, defScope s_action, [], []⟩
def d__law_told : He.DefD := ⟨("_law_told", none), "_law_told", "_law_told", defArgs s__law_told, defBody s__law_told, defScope s__law_told, [], []⟩
def d__law_plain : He.DefD := ⟨("_law_plain", none), "_law_plain", "_law_plain", defArgs s__law_plain, defBody s__law_plain, defScope s__law_plain, [], []⟩
def d__law_free_word : He.DefD := ⟨("_law_free_word", none), "_law_free_word", "_law_free_word", defArgs s__law_free_word, defBody s__law_free_word, defScope s__law_free_word, [], []⟩
def d__law_left : He.DefD := ⟨("_law_left", none), "_law_left", "_law_left", defArgs s__law_left, defBody s__law_left, defScope s__law_left, [], []⟩
def d__law_matrix_product : He.DefD := ⟨("_law_matrix_product", none), "_law_matrix_product", "_law_matrix_product", defArgs s__law_matrix_product, defBody s__law_matrix_product, defScope s__law_matrix_product, [], []⟩
def d__law_matrices : He.DefD := ⟨("_law_matrices", none), "_law_matrices", "_law_matrices", defArgs s__law_matrices, defBody s__law_matrices, defScope s__law_matrices, [], []⟩
def d__law_matrix_inverse : He.DefD := ⟨("_law_matrix_inverse", none), "_law_matrix_inverse", "_law_matrix_inverse", defArgs s__law_matrix_inverse, defBody s__law_matrix_inverse, defScope s__law_matrix_inverse, [], []⟩
def d__law_tuple : He.DefD := ⟨("_law_tuple", none), "_law_tuple", "_law_tuple", defArgs s__law_tuple, defBody s__law_tuple, defScope s__law_tuple, [], []⟩
def d__law_value : He.DefD := ⟨("_law_value", none), "_law_value", "_law_value", defArgs s__law_value, defBody s__law_value, defScope s__law_value, [], []⟩
def d__law_centre : He.DefD := ⟨("_law_centre", none), "_law_centre", "_law_centre", defArgs s__law_centre, defBody s__law_centre, defScope s__law_centre, [], []⟩
def d__law_ends : He.DefD := ⟨("_law_ends", none), "_law_ends", "_law_ends", defArgs s__law_ends, defBody s__law_ends, defScope s__law_ends, [], []⟩
def d__law_right : He.DefD := ⟨("_law_right", none), "_law_right", "_law_right", defArgs s__law_right, defBody s__law_right, defScope s__law_right, [], []⟩
def d__law_stepped : He.DefD := ⟨("_law_stepped", none), "_law_stepped", "_law_stepped", defArgs s__law_stepped, defBody s__law_stepped, defScope s__law_stepped, [], []⟩
def d__law_scrambled : He.DefD := ⟨("_law_scrambled", none), "_law_scrambled", "_law_scrambled", defArgs s__law_scrambled, defBody s__law_scrambled, defScope s__law_scrambled, [], []⟩
def d_law : He.DefD := ⟨("law", none), "law", "law", defArgs s_law, defBody s_law, defScope s_law, [], []⟩
def d_InvalidBraid : He.DefD := ⟨("InvalidBraid", some "__init__"), "__init__", "InvalidBraid.__init__", defArgs (meth s_InvalidBraid 0), defBody (meth s_InvalidBraid 0), defScope (meth s_InvalidBraid 0), [], []⟩
def d_TooMany : He.DefD := ⟨("TooMany", some "__init__"), "__init__", "TooMany.__init__", defArgs (meth s_TooMany 0), defBody (meth s_TooMany 0), defScope (meth s_TooMany 0), [], []⟩
def fnl : List He.DefD := [d__law_deck, d__law_take, d__law_word, d__law_reduced, d__law_image, d__law_images, d_Braid___init__, d_images_under, d_reduced_word, d_moved_word, d_action, d__law_told, d__law_plain, d__law_free_word, d__law_left, d__law_matrix_product, d__law_matrices, d__law_matrix_inverse, d__law_tuple, d__law_value, d__law_centre, d__law_ends, d__law_right, d__law_stepped, d__law_scrambled, d_law, d_InvalidBraid, d_TooMany]
def fbl : List Fb := [.oex "InvalidBraid", .oex "TooMany", .ini "InvalidBraid", .ini "TooMany", .kbase "KnotError", .xf "InvalidBraid", .xf "TooMany"]
def tbl : List He.Tab := []
def fal : List He.Fa := [.free "abs", .free "bool", .free "int", .free "isinstance", .free "len", .free "list", .free "max", .free "range", .free "reversed", .free "str", .free "tuple", .glo "_law_deck", .glo "_law_take", .glo "_law_word", .glo "_law_reduced", .glo "_law_image", .glo "_law_images", .glo "images_under", .glo "reduced_word", .glo "moved_word", .glo "action", .glo "_law_told", .glo "_law_plain", .glo "_law_free_word", .glo "_law_left", .glo "_law_matrix_product", .glo "_law_matrices", .glo "_law_matrix_inverse", .glo "_law_tuple", .glo "_law_value", .glo "_law_centre", .glo "_law_ends", .glo "_law_right", .glo "_law_stepped", .glo "_law_scrambled", .glo "law", .glo "KnotError", .glo "InvalidBraid", .glo "TooMany", .glo "Braid", .int "MOST_LETTERS_action" 20000, .int "MOST_LETTERS_words" 2000, .int "MOST_STRANDS" 8, .noat "InvalidBraid" "what", .noat "TooMany" "what", .cls "Braid", .noat "Braid" "strands", .noat "Braid" "word", .mkr "Braid", .exm "InvalidBraid" "TooMany" false, .exm "TooMany" "TooMany" true]
abbrev R : PySem.W.OpenRow := PySem.W.OpenLaw.row PySem.Challenge.rw_knotwork_k07_whole_free_images
abbrev hk : PySem.W.Hook := hookS 5 fal fnl tbl fbl
def ob (s : PySem.W.SharedT) : AlS := obsS 5 fal fnl tbl fbl (HandSHeadRun.getT s)
theorem ob_eq (s : PySem.W.SharedT) : ob s = hk.obs s.abs := obsS_eq (HandSHeadRun.getT_eq s)
def loose : List Str := ["_wall", "reduced_word", "images_under", "moved_word", "action", "_law_deck", "_law_take", "_law_plain", "_law_word", "_law_stepped", "_law_scrambled", "_law_matrix_product", "_law_matrix_inverse", "_law_matrices", "_law_tuple", "_law_reduced", "_law_image", "_law_images", "_law_told", "_law_value", "_law_centre", "_law_ends", "_law_right", "_law_free_word", "_law_left", "KnotError", "InvalidBraid", "TooMany", "Braid", "MOST_LETTERS_action", "MOST_STRANDS", "MOST_LETTERS_words"]
theorem runH (w : World) : HandSHeadRun.RunEq R (PySem.W.view R.prog [36]) hk ob 4880 loose w :=
  PySem.W.byRow2 "special-get-raises" (P := fun w => HandSHeadRun.RunEq R (PySem.W.view R.prog [36]) hk ob 4880 loose w) (fun w => by
    intro os
    kernel_rfl) (fun w => by
    intro os
    kernel_rfl) w
theorem facts {P : Program} {w : World} {K : PySem.W.Frag} {h : Heap} {mg : Str → Option Value} {f : Addr} (X : K.In h) (G : h.Ns mainGlobals mg) (hfa : mg ("law" : Str) = some (.ref f)) (c : SaysS fal fnl tbl fbl w K) :
    ∃ fd : FuncData, (∀ (s : Shared) (v : Value), BindsTo s fd ⟨[v], []⟩ [("script", v)]) ∧ ∀ base : Heap, K.In base → base.Ns mainGlobals mg → FnOk P w K mg base CX0 8 f fd ["script"] (fun vs H Q _ => spM K 1 M_law vs H Q E0) := by
  have T : Txt w K mg := {
    b_abs := He.free_ok X G (c.fact 0 (f := .free "abs") rfl),
    b_bool := He.free_ok X G (c.fact 1 (f := .free "bool") rfl),
    b_int := He.free_ok X G (c.fact 2 (f := .free "int") rfl),
    b_isinstance := He.free_ok X G (c.fact 3 (f := .free "isinstance") rfl),
    b_len := He.free_ok X G (c.fact 4 (f := .free "len") rfl),
    b_list := He.free_ok X G (c.fact 5 (f := .free "list") rfl),
    b_max := He.free_ok X G (c.fact 6 (f := .free "max") rfl),
    b_range := He.free_ok X G (c.fact 7 (f := .free "range") rfl),
    b_reversed := He.free_ok X G (c.fact 8 (f := .free "reversed") rfl),
    b_str := He.free_ok X G (c.fact 9 (f := .free "str") rfl),
    b_tuple := He.free_ok X G (c.fact 10 (f := .free "tuple") rfl),
    g__law_deck := He.glo_ok X G (c.fact 11 (f := .glo "_law_deck") rfl),
    g__law_take := He.glo_ok X G (c.fact 12 (f := .glo "_law_take") rfl),
    g__law_word := He.glo_ok X G (c.fact 13 (f := .glo "_law_word") rfl),
    g__law_reduced := He.glo_ok X G (c.fact 14 (f := .glo "_law_reduced") rfl),
    g__law_image := He.glo_ok X G (c.fact 15 (f := .glo "_law_image") rfl),
    g__law_images := He.glo_ok X G (c.fact 16 (f := .glo "_law_images") rfl),
    g_images_under := He.glo_ok X G (c.fact 17 (f := .glo "images_under") rfl),
    g_reduced_word := He.glo_ok X G (c.fact 18 (f := .glo "reduced_word") rfl),
    g_moved_word := He.glo_ok X G (c.fact 19 (f := .glo "moved_word") rfl),
    g_action := He.glo_ok X G (c.fact 20 (f := .glo "action") rfl),
    g__law_told := He.glo_ok X G (c.fact 21 (f := .glo "_law_told") rfl),
    g__law_plain := He.glo_ok X G (c.fact 22 (f := .glo "_law_plain") rfl),
    g__law_free_word := He.glo_ok X G (c.fact 23 (f := .glo "_law_free_word") rfl),
    g__law_left := He.glo_ok X G (c.fact 24 (f := .glo "_law_left") rfl),
    g__law_matrix_product := He.glo_ok X G (c.fact 25 (f := .glo "_law_matrix_product") rfl),
    g__law_matrices := He.glo_ok X G (c.fact 26 (f := .glo "_law_matrices") rfl),
    g__law_matrix_inverse := He.glo_ok X G (c.fact 27 (f := .glo "_law_matrix_inverse") rfl),
    g__law_tuple := He.glo_ok X G (c.fact 28 (f := .glo "_law_tuple") rfl),
    g__law_value := He.glo_ok X G (c.fact 29 (f := .glo "_law_value") rfl),
    g__law_centre := He.glo_ok X G (c.fact 30 (f := .glo "_law_centre") rfl),
    g__law_ends := He.glo_ok X G (c.fact 31 (f := .glo "_law_ends") rfl),
    g__law_right := He.glo_ok X G (c.fact 32 (f := .glo "_law_right") rfl),
    g__law_stepped := He.glo_ok X G (c.fact 33 (f := .glo "_law_stepped") rfl),
    g__law_scrambled := He.glo_ok X G (c.fact 34 (f := .glo "_law_scrambled") rfl),
    g_law := He.glo_ok X G (c.fact 35 (f := .glo "law") rfl),
    g_KnotError := He.glo_ok X G (c.fact 36 (f := .glo "KnotError") rfl),
    g_InvalidBraid := He.glo_ok X G (c.fact 37 (f := .glo "InvalidBraid") rfl),
    g_TooMany := He.glo_ok X G (c.fact 38 (f := .glo "TooMany") rfl),
    g_Braid := He.glo_ok X G (c.fact 39 (f := .glo "Braid") rfl),
    gi_MOST_LETTERS_action := He.int_ok X G (c.fact 40 (f := .int "MOST_LETTERS_action" 20000) rfl),
    gi_MOST_LETTERS_words := He.int_ok X G (c.fact 41 (f := .int "MOST_LETTERS_words" 2000) rfl),
    gi_MOST_STRANDS := He.int_ok X G (c.fact 42 (f := .int "MOST_STRANDS" 8) rfl),
    cl_Braid := He.cls_ok (c.fact 45 (f := .cls "Braid") rfl),
    fl_strands := by
      intro p hp
      simp only [List.mem_cons, List.not_mem_nil, or_false] at hp
      subst hp
      · exact ⟨He.cls_ok (c.fact 45 (f := .cls "Braid") rfl), He.noat_ok (c.fact 46 (f := .noat "Braid" "strands") rfl)⟩,
    fl_word := by
      intro p hp
      simp only [List.mem_cons, List.not_mem_nil, or_false] at hp
      subst hp
      · exact ⟨He.cls_ok (c.fact 45 (f := .cls "Braid") rfl), He.noat_ok (c.fact 47 (f := .noat "Braid" "word") rfl)⟩,
    mk_Braid := He.mkr_ok (c.fact 48 (f := .mkr "Braid") rfl),
    xm_TooMany := by
      intro p hp
      simp only [List.mem_cons, List.not_mem_nil, or_false] at hp
      rcases hp with rfl | rfl
      · exact He.exm_ok (c.fact 49 (f := .exm "InvalidBraid" "TooMany" false) rfl)
      · exact He.exm_ok (c.fact 50 (f := .exm "TooMany" "TooMany" true) rfl),
    xf := by
      intro p hp
      simp only [List.mem_cons, List.not_mem_nil, or_false] at hp
      rcases hp with rfl | rfl
      · exact ⟨xf_ok (c.fbs 5 (f := .xf "InvalidBraid") rfl), He.noat_ok (c.fact 43 (f := .noat "InvalidBraid" "what") rfl)⟩
      · exact ⟨xf_ok (c.fbs 6 (f := .xf "TooMany") rfl), He.noat_ok (c.fact 44 (f := .noat "TooMany" "what") rfl)⟩
  }
  obtain ⟨fd__law_deck, D__law_deck⟩ := c.def_ 0 (d := d__law_deck) rfl
  obtain ⟨fd__law_take, D__law_take⟩ := c.def_ 1 (d := d__law_take) rfl
  obtain ⟨fd__law_word, D__law_word⟩ := c.def_ 2 (d := d__law_word) rfl
  obtain ⟨fd__law_reduced, D__law_reduced⟩ := c.def_ 3 (d := d__law_reduced) rfl
  obtain ⟨fd__law_image, D__law_image⟩ := c.def_ 4 (d := d__law_image) rfl
  obtain ⟨fd__law_images, D__law_images⟩ := c.def_ 5 (d := d__law_images) rfl
  obtain ⟨fd_Braid___init__, D_Braid___init__⟩ := c.def_ 6 (d := d_Braid___init__) rfl
  obtain ⟨fd_images_under, D_images_under⟩ := c.def_ 7 (d := d_images_under) rfl
  obtain ⟨fd_reduced_word, D_reduced_word⟩ := c.def_ 8 (d := d_reduced_word) rfl
  obtain ⟨fd_moved_word, D_moved_word⟩ := c.def_ 9 (d := d_moved_word) rfl
  obtain ⟨fd_action, D_action⟩ := c.def_ 10 (d := d_action) rfl
  obtain ⟨fd__law_told, D__law_told⟩ := c.def_ 11 (d := d__law_told) rfl
  obtain ⟨fd__law_plain, D__law_plain⟩ := c.def_ 12 (d := d__law_plain) rfl
  obtain ⟨fd__law_free_word, D__law_free_word⟩ := c.def_ 13 (d := d__law_free_word) rfl
  obtain ⟨fd__law_left, D__law_left⟩ := c.def_ 14 (d := d__law_left) rfl
  obtain ⟨fd__law_matrix_product, D__law_matrix_product⟩ := c.def_ 15 (d := d__law_matrix_product) rfl
  obtain ⟨fd__law_matrices, D__law_matrices⟩ := c.def_ 16 (d := d__law_matrices) rfl
  obtain ⟨fd__law_matrix_inverse, D__law_matrix_inverse⟩ := c.def_ 17 (d := d__law_matrix_inverse) rfl
  obtain ⟨fd__law_tuple, D__law_tuple⟩ := c.def_ 18 (d := d__law_tuple) rfl
  obtain ⟨fd__law_value, D__law_value⟩ := c.def_ 19 (d := d__law_value) rfl
  obtain ⟨fd__law_centre, D__law_centre⟩ := c.def_ 20 (d := d__law_centre) rfl
  obtain ⟨fd__law_ends, D__law_ends⟩ := c.def_ 21 (d := d__law_ends) rfl
  obtain ⟨fd__law_right, D__law_right⟩ := c.def_ 22 (d := d__law_right) rfl
  obtain ⟨fd__law_stepped, D__law_stepped⟩ := c.def_ 23 (d := d__law_stepped) rfl
  obtain ⟨fd__law_scrambled, D__law_scrambled⟩ := c.def_ 24 (d := d__law_scrambled) rfl
  obtain ⟨fd_law, D_law⟩ := c.def_ 25 (d := d_law) rfl
  obtain ⟨fd_InvalidBraid, D_InvalidBraid⟩ := c.def_ 26 (d := d_InvalidBraid) rfl
  obtain ⟨fd_TooMany, D_TooMany⟩ := c.def_ 27 (d := d_TooMany) rfl
  have e := hfa.symm.trans T.g_law
  cases e
  have b := FunD.bindsA (ps := ["script"]) D_law fun _ _ _ _ _ _ us hl => match us, hl with | [_], _ => rfl
  refine ⟨fd_law, fun s v => b s [v] rfl, fun base _ _ => ?_⟩
  have X_InvalidBraid : KExc P w K mg base (He.ga K "InvalidBraid") := kexc_of (B := He.ga K "KnotError") (bn := "KnotError") (lit := "invalid braid: ") D_InvalidBraid ⟨rfl, rfl, rfl, by decide +kernel, rfl, by decide +kernel, by decide +kernel⟩ (D_InvalidBraid.bindsN fun _ _ _ _ _ _ us hl => match us, hl with | [_, _], _ => rfl) (oex_ok (c.fbs 0 (f := .oex "InvalidBraid") rfl)) (He.noat_ok (c.fact 43 (f := .noat "InvalidBraid" "what") rfl)) (ini_ok (c.fbs 2 (f := .ini "InvalidBraid") rfl)).1 (ini_ok (c.fbs 2 (f := .ini "InvalidBraid") rfl)).2 (kbase_ok (c.fbs 4 (f := .kbase "KnotError") rfl)) T.g_KnotError rfl (.inl rfl) (.inl rfl) (by decide) (by decide)
  have X_TooMany : KExc P w K mg base (He.ga K "TooMany") := kexc_of (B := He.ga K "KnotError") (bn := "KnotError") (lit := "too many ") D_TooMany ⟨rfl, rfl, rfl, by decide +kernel, rfl, by decide +kernel, by decide +kernel⟩ (D_TooMany.bindsN fun _ _ _ _ _ _ us hl => match us, hl with | [_, _], _ => rfl) (oex_ok (c.fbs 1 (f := .oex "TooMany") rfl)) (He.noat_ok (c.fact 44 (f := .noat "TooMany" "what") rfl)) (ini_ok (c.fbs 3 (f := .ini "TooMany") rfl)).1 (ini_ok (c.fbs 3 (f := .ini "TooMany") rfl)).2 (kbase_ok (c.fbs 4 (f := .kbase "KnotError") rfl)) T.g_KnotError rfl (.inl rfl) (.inl rfl) (by decide) (by decide)
  have F__law_deck := ok__law_deck (P := P) (w := w) (base := base) T  D__law_deck
  have F__law_take := ok__law_take (P := P) (w := w) (base := base) T  D__law_take
  have F__law_word := ok__law_word (P := P) (w := w) (base := base) T F__law_take D__law_word
  have F__law_reduced := ok__law_reduced (P := P) (w := w) (base := base) T  D__law_reduced
  have F__law_image := ok__law_image (P := P) (w := w) (base := base) T F__law_reduced D__law_image
  have F__law_images := ok__law_images (P := P) (w := w) (base := base) T F__law_image D__law_images
  have F_Braid___init__ := ok_Braid___init__ (P := P) (w := w) (base := base) T X_InvalidBraid X_TooMany D_Braid___init__
  have F_images_under := ok_images_under (P := P) (w := w) (base := base) T  D_images_under
  have F_reduced_word := ok_reduced_word (P := P) (w := w) (base := base) T  D_reduced_word
  have F_moved_word := ok_moved_word (P := P) (w := w) (base := base) T F_images_under F_reduced_word D_moved_word
  have F_action := ok_action (P := P) (w := w) (base := base) T F_moved_word X_TooMany D_action
  have F__law_told := ok__law_told (P := P) (w := w) (base := base) T F_Braid___init__ F_action D__law_told
  have F__law_plain := ok__law_plain (P := P) (w := w) (base := base) T  D__law_plain
  have F__law_free_word := ok__law_free_word (P := P) (w := w) (base := base) T F__law_take D__law_free_word
  have F__law_left := ok__law_left (P := P) (w := w) (base := base) T  D__law_left
  have F__law_matrix_product := ok__law_matrix_product (P := P) (w := w) (base := base) T  D__law_matrix_product
  have F__law_matrices := ok__law_matrices (P := P) (w := w) (base := base) T F__law_take F__law_matrix_product D__law_matrices
  have F__law_matrix_inverse := ok__law_matrix_inverse (P := P) (w := w) (base := base) T  D__law_matrix_inverse
  have F__law_tuple := ok__law_tuple (P := P) (w := w) (base := base) T F__law_matrix_product F__law_matrix_inverse D__law_tuple
  have F__law_value := ok__law_value (P := P) (w := w) (base := base) T F__law_matrix_inverse F__law_matrix_product D__law_value
  have F__law_centre := ok__law_centre (P := P) (w := w) (base := base) T  D__law_centre
  have F__law_ends := ok__law_ends (P := P) (w := w) (base := base) T  D__law_ends
  have F__law_right := ok__law_right (P := P) (w := w) (base := base) T F__law_take F__law_matrices F__law_tuple F__law_value F__law_centre F__law_reduced F__law_plain F__law_ends D__law_right
  have F__law_stepped := ok__law_stepped (P := P) (w := w) (base := base) T F__law_take D__law_stepped
  have F__law_scrambled := ok__law_scrambled (P := P) (w := w) (base := base) T F__law_stepped D__law_scrambled
  exact ok_law T F__law_deck F__law_take F__law_word F__law_images F__law_told F__law_plain F__law_free_word F_reduced_word F__law_left F__law_right F__law_scrambled D_law
theorem holds_of (hlaw : ∀ ns : List Int, ns.length ≤ 63 → ∃ st, M_law [.slst (ns.map A.int)] [] = .ok (.bl true) st) : PySem.Challenge.rw_knotwork_k07_whole_free_images.Holds := by
  open PySem.W PySem.Calls in
  w_on; o_law
  refine HandSHeadRun.head_any (r := PySem.W.OpenLaw.row PySem.Challenge.rw_knotwork_k07_whole_free_images) (q := PySem.W.view (PySem.W.OpenLaw.row PySem.Challenge.rw_knotwork_k07_whole_free_images).prog [36]) (H := hk) (ob := ob) (M := 4880) (loose := loose) (d := HandSHeadRun.topDef (PySem.W.OpenLaw.row PySem.Challenge.rw_knotwork_k07_whole_free_images).prog 36) (kwd := []) ob_eq
    (by kernel_rfl) (fun s => by kernel_rfl) runH (by kernel_rfl) (by kernel_rfl) (by kernel_rfl) (by rfl) (by first | assumption | decide +kernel) (by decide +kernel) ⟨rfl, rfl, rfl, rfl, rfl, by decide +kernel⟩ ?hw ?hc
  case hw => w_witness2
  case hc =>
    refine L2.walk_ofE (l := PySem.Challenge.rw_knotwork_k07_whole_free_images) (n := 63) (k := 8) (x := "script") (CX := L2.CX0) rfl (by decide) (by kernel_rfl) ⟨rfl, by decide, by decide⟩ ?F (fun _ _ _ _ z => z)
    intro w mg fa h Y G hmg0
    obtain ⟨K, KX, c⟩ := Y
    have hmg : mg ("law" : PySem.Str) = some (.ref fa) := by
      have e : (HandSHeadRun.topDef (PySem.W.OpenLaw.row PySem.Challenge.rw_knotwork_k07_whole_free_images).prog 36).name = ("law" : PySem.Str) := by kernel_rfl
      rw [← e]
      exact hmg0
    obtain ⟨fd, hb, hF⟩ := facts (P := (PySem.Challenge.rw_knotwork_k07_whole_free_images).prog) (w := w) KX G hmg c
    exact ⟨K, fd, fun vs H Q _ => spM K 1 M_law vs H Q E0, KX, hb, fun H a ns hl _ hS => law_sp hS (hlaw ns hl), hF⟩
end Gk07

set_option Elab.async false
set_option linter.all false
set_option maxRecDepth 100000
set_option maxHeartbeats 4000000
namespace Gk07
open PySem PySem.Spec L2 SL
open PyProof.Rows hiding St
/-! the draws -/
abbrev li (l : List Int) : C := .lst (l.map A.int)
theorem set_get {α : Type} {l : List α} {c : Nat} {x : α} (h : l[c]? = some x) : l.set c x = l := by
  apply List.ext_getElem?
  intro i
  by_cases e : c = i
  · subst e; rw [List.getElem?_set_self (List.getElem?_eq_some_iff.mp h).1, h]
  · rw [List.getElem?_set_ne e]
theorem take_spec {st : Store} {c : Nat} {ds : List Int} {n : Int} (h : st[c]? = some (li ds)) (hn : 0 < n) : ∃ d ds', 0 ≤ d ∧ d < n ∧ M__law_take [.cell c, .int n] st = .ok (.int d) (st.set c (li ds')) := by
  have hfin : ∀ (a : Int) (l : List Int), finA false st.length st (.int a) (st.set c (li l)) = .ok (.int a) (st.set c (li l)) := fun a l => by
    have := finA_set (rc := false) (st := st) (a := .int a) (l := []) (c := c) (k := li l) (by simp [A.bel]) (by intro c h; cases h) (by simp [C.bel])
    simpa using this
  rcases List.eq_nil_or_concat ds with rfl | ⟨ds0, d, rfl⟩
  · refine ⟨0, [], by omega, hn, ?_⟩
    have h' : st[c]? = some (.lst []) := h
    have e := hfin 0 []
    rw [set_get h] at e
    rw [set_get h]
    simp [M__law_take, fnM, B__law_take, lenA_cell h', fin, e]
  · have h' : st[c]? = some (.lst (ds0.map A.int ++ [.int d])) := by rw [h]; simp [li]
    refine ⟨d.fmod n, ds0, ?_, ?_, ?_⟩
    · rw [Int.fmod_eq_emod_of_nonneg _ (by omega)]; exact Int.emod_nonneg _ (by omega)
    · rw [Int.fmod_eq_emod_of_nonneg _ (by omega)]; exact Int.emod_lt_of_pos _ hn
    · have hne : ¬ ((ds0.length : Int) + 1 = 0) := by omega
      simp [M__law_take, fnM, B__law_take, lenA_cell h', popM_c h', tyVA_cell h', modOp_ii (show n ≠ 0 by omega), fin, hne, hfin]
/-- deck built: some list of ints -/
structure DeckI (ns : List Int) (cells each : Nat) (i : Nat) (e : AEnv) (s : Store) : Prop where
  ex : ∃ (seed : Int) (ds : List Int) (x5 x6 x7 x8 : Option A), e = [some (.slst (ns.map A.int)), some (.int cells), some (.int each), some (.cell 0), some (.int seed), x5, x6, x7, x8] ∧ s = [li ds] ∧ 0 ≤ seed ∧ seed < 2147483748 ∧ ds.length = i
theorem small_mul {a b : Int} (h : a.natAbs < 2 ^ 200) (h' : b.natAbs < 2 ^ 200) : CMulW a b := wide_mul h h' (by decide) (by decide) (by decide)
theorem loop1 (ns : List Int) (cells each k : Nat) (hk : k + each < sizeLine) (seed rest : Int) (ds : List Int) (hd : ds.length = k) (x5 x6 x8 : Option A) (hs0 : 0 ≤ seed) (hs1 : seed < 2147483748) :
    ∃ e s, forL none (rgA 0 each) (gN 8) L1__law_deck (rgA 0 each) [some (.slst (ns.map A.int)), some (.int cells), some (.int each), some (.cell 0), some (.int seed), x5, x6, some (.int rest), x8] [li ds] = .nx e s ∧ DeckI ns cells each (k + each) e s := by
  have h := for_inv (all := rgA 0 each) (g := gN 8) (body := L1__law_deck) (xs := rgA 0 each) (fun i e s => ∃ (r : Int) (ds : List Int) (x8 : Option A), e = [some (.slst (ns.map A.int)), some (.int cells), some (.int each), some (.cell 0), some (.int seed), x5, x6, some (.int r), x8] ∧ s = [li ds] ∧ ds.length = k + i)
    (env := [some (.slst (ns.map A.int)), some (.int cells), some (.int each), some (.cell 0), some (.int seed), x5, x6, some (.int rest), x8]) (st := [li ds]) ⟨rest, ds, x8, rfl, rfl, by omega⟩ ?_
  · obtain ⟨e, s, h1, r, ds', x8', rfl, rfl, h2⟩ := h
    rw [rgA_length] at h2
    exact ⟨_, _, h1, seed, ds', _, _, _, _, rfl, rfl, hs0, hs1, by omega⟩
  · rintro i x e s hx ⟨r, ds', x8', rfl, rfl, hl⟩
    obtain ⟨hi, rfl⟩ := rgA_get hx
    have hc : ([li ds'] : Store)[0]? = some (.lst (ds'.map A.int)) := rfl
    have hlt : (ds'.map A.int).length < sizeLine := by rw [List.length_map]; omega
    refine ⟨_, rfl, ?_⟩
    simp [L1__law_deck, tyVA_cell hc, appendM_c hc hlt, modOp_ii (show (1000003 : Int) ≠ 0 by decide), fdivOp_ii (show CDivN r 1000003 from ⟨by decide, by decide⟩)]
    exact ⟨ds' ++ [r.fmod 1000003], by simp [li], by simp; omega⟩
theorem loop2 (ns : List Int) (cells each k : Nat) (hk : k + each < sizeLine) (seed : Int) (ds : List Int) (hd : ds.length = k) (x5 x6 x7 x8 : Option A) (hs0 : 0 ≤ seed) (hs1 : seed < 2147483748) :
    ∃ e s, forL none (rgA 0 each) (gN 8) L2__law_deck (rgA 0 each) [some (.slst (ns.map A.int)), some (.int cells), some (.int each), some (.cell 0), some (.int seed), x5, x6, x7, x8] [li ds] = .nx e s ∧ DeckI ns cells each (k + each) e s := by
  have h := for_inv (all := rgA 0 each) (g := gN 8) (body := L2__law_deck) (xs := rgA 0 each) (fun i e s => DeckI ns cells each (k + i) e s)
    (env := [some (.slst (ns.map A.int)), some (.int cells), some (.int each), some (.cell 0), some (.int seed), x5, x6, x7, x8]) (st := [li ds]) ⟨seed, ds, _, _, _, _, rfl, rfl, hs0, hs1, by omega⟩ ?_
  · obtain ⟨e, s, h1, h2⟩ := h
    rw [rgA_length] at h2
    exact ⟨e, s, h1, by simpa using h2⟩
  · rintro i x e s hx ⟨seed', ds', _, _, _, _, rfl, rfl, h0, h1, hl⟩
    obtain ⟨hi, rfl⟩ := rgA_get hx
    have hc : ([li ds'] : Store)[0]? = some (.lst (ds'.map A.int)) := rfl
    have hlt : (ds'.map A.int).length < sizeLine := by rw [List.length_map]; omega
    have hmul : CMulW seed' 69621 := small_mul (by omega) (by decide)
    refine ⟨_, rfl, ?_⟩
    have hs : ∀ y : Int, 0 ≤ y.fmod 2147483629 ∧ y.fmod 2147483629 < 2147483748 := fun y => by
      rw [Int.fmod_eq_emod_of_nonneg _ (by decide)]
      have := Int.emod_lt_of_pos y (show (0 : Int) < 2147483629 by decide)
      exact ⟨Int.emod_nonneg _ (by decide), by omega⟩
    simp [L2__law_deck, tyVA_cell hc, appendM_c hc hlt, mulOp_ii hmul, modOp_ii (show (1000003 : Int) ≠ 0 by decide), modOp_ii (show (2147483629 : Int) ≠ 0 by decide), fdivOp_ii (show CDivN _ 5 from ⟨by decide, by decide⟩)]
    exact ⟨_, ds' ++ [(((seed' * 69621 + (i : Int) + 1).fmod 2147483629).fdiv 5).fmod 1000003], _, _, _, _, rfl, by simp [li], (hs _).1, (hs _).2, by simp; omega⟩
theorem key_spec {ns : List Int} {cells each i : Nat} {seed : Int} {ds : List Int} {x7 x8 : Option A} (hb : i * each + each < sizeLine) (he : -(2 ^ 62) ≤ (each : Int) ∧ (each : Int) < 2 ^ 62) (hl : ds.length = i * each) (h0 : 0 ≤ seed) (h1 : seed < 2147483748) :
    ∀ cell : Int, NxP ((sSeq (sAsg (gN 7) (eCB (one1 absA) (aCons (eVar 6) aNil)))
      (sIf (tOf (eBin geOp (eVar 7) (eBin powOp (eC (.int 10)) (eC (.int 30))))) (sFor (mRng1 (aCons (eVar 2) aNil)) (gN 8) L1__law_deck) (sSeq (sAsg (gN 4) (eBin modOp (eCB (one1 intA) (aCons (eBin (addOp false) (eBin (addOp false) (eBin (addOp false) (eBin (mulOp false) (eVar 4) (eC (.int 48271))) (eBin (mulOp false) (eC (.int 2)) (eVar 7))) (eCB (one1 intA) (aCons (eBin ltOp (eVar 6) (eC (.int 0))) aNil))) (eVar 5)) aNil)) (eC (.int 2147483647))))
      (sFor (mRng1 (aCons (eVar 2) aNil)) (gN 8) L2__law_deck)))) [some (.slst (ns.map A.int)), some (.int cells), some (.int each), some (.cell 0), some (.int seed), some (.int (i : Int)), some (.int cell), x7, x8] [li ds]) (DeckI ns cells each (i * each + each)) := by
      have hr : ∀ (e : AEnv) (s : Store), e[2]? = some (some (.int each)) → mRng1 (aCons (eVar 2) aNil) e s = .ok (rgA 0 each, none) s := fun e s he' => mRng1_ap (by simp [he']) he.1 he.2
      intro cell
      generalize hrest : (if cell < 0 then -cell else cell) = rest
      have hr0 : 0 ≤ rest := by split at hrest <;> omega
      have hpow : ((10 : Int) ^ (30 : Int).toNat) = 1000000000000000000000000000000 := by decide
      by_cases hbig : (1000000000000000000000000000000 : Int) ≤ rest
      · obtain ⟨e, s, h2, h3⟩ := loop1 ns cells each (i * each) hb seed rest ds hl (some (.int (i : Int))) (some (.int cell)) x8 h0 h1
        simp [powOp_ii (show CPow 10 30 from ⟨by decide, by decide, by decide⟩), hrest, hpow, hbig, hr, h2, h3]
      · have hm1 : CMulW seed 48271 := small_mul (by omega) (by decide)
        have hm2 : CMulW 2 rest := small_mul (by decide) (by omega)
        have hs : ∀ y : Int, 0 ≤ y.fmod 2147483647 ∧ y.fmod 2147483647 < 2147483748 := fun y => by
          rw [Int.fmod_eq_emod_of_nonneg _ (by decide)]
          have := Int.emod_lt_of_pos y (show (0 : Int) < 2147483647 by decide)
          exact ⟨Int.emod_nonneg _ (by decide), by omega⟩
        have h2 : ∀ y : Int, ∃ e s, forL none (rgA 0 each) (gN 8) L2__law_deck (rgA 0 each) [some (.slst (ns.map A.int)), some (.int cells), some (.int each), some (.cell 0), some (.int (y.fmod 2147483647)), some (.int (i : Int)), some (.int cell), some (.int rest), x8] [li ds] = .nx e s ∧ DeckI ns cells each (i * each + each) e s :=
          fun y => loop2 ns cells each (i * each) hb _ ds hl _ _ _ _ (hs y).1 (hs y).2
        simp [powOp_ii (show CPow 10 30 from ⟨by decide, by decide, by decide⟩), hrest, hpow, hbig, hr, mulOp_ii hm1, mulOp_ii hm2, modOp_ii (show (2147483647 : Int) ≠ 0 by decide)]
        obtain ⟨e, s, h3, h4⟩ := h2 (seed * 48271 + 2 * rest + (if cell < 0 then 1 else 0) + (i : Int))
        rw [h3]
        exact h4
theorem deck_spec {ns : List Int} (hns : ns.length ≤ 63) (cells each : Nat) (hk : cells * each < 100000) (hc : cells < 1000) : ∃ ds : List Int, ds.length = cells * each ∧ M__law_deck [.slst (ns.map A.int), .int cells, .int each] [] = .ok (.cell 0) [li ds] := by
  have hsz : sizeLine = 16777216 := sizeLine_eq
  have h := for_inv (all := rgA 0 cells) (g := gN 5) (body := L3__law_deck) (xs := rgA 0 cells) (fun i e s => DeckI ns cells each (i * each) e s)
    (env := [some (.slst (ns.map A.int)), some (.int cells), some (.int each), some (.cell 0), some (.int (7 + (ns.length : Int))), none, none, none, none]) (st := [li []]) ⟨_, [], _, _, _, _, rfl, rfl, by omega, by omega, by simp⟩ ?_
  · obtain ⟨e, s, h1, seed, ds, x5, x6, x7, x8, rfl, rfl, _, _, hl⟩ := h
    rw [rgA_length] at hl
    refine ⟨ds.reverse, by simpa using hl, ?_⟩
    have hc1 : -(2 ^ 62) ≤ (cells : Int) ∧ (cells : Int) < 2 ^ 62 := by omega
    have hcc : ([li ds] : Store)[0]? = some (.lst (ds.map A.int)) := rfl
    have hr : mRng1 (aCons (eVar 1) aNil) [some (.slst (ns.map A.int)), some (.int cells), some (.int each), some (.cell 0), some (.int (7 + (ns.length : Int))), none, none, none, none] [li []] = .ok (rgA 0 cells, none) [li []] :=
      mRng1_ap (by simp) hc1.1 hc1.2
    simp only [li, List.map_nil] at hr h1
    have hbody : B__law_deck [some (.slst (ns.map A.int)), some (.int cells), some (.int each), none, none, none, none, none, none] [] = .rt (.cell 0) [li ds.reverse] := by
      simp [B__law_deck, hr, h1, tyVA_cell hcc, reverseM_c hcc, li]
    exact fnM_rt rfl hbody (finA_cell (st := []) (l := [li ds.reverse]) (Nat.zero_le _) rfl rfl (bel_ints _ _))
  · rintro i x e s hx ⟨seed, ds, x5, x6, x7, x8, rfl, rfl, h0, h1, hl⟩
    obtain ⟨hi, rfl⟩ := rgA_get hx
    have hb : i * each + each < sizeLine := by
      have : i * each + each = (i + 1) * each := by rw [Nat.succ_mul]
      have h2 : (i + 1) * each ≤ cells * each := Nat.mul_le_mul_right _ (by omega)
      omega
    have he : -(2 ^ 62) ≤ (each : Int) ∧ (each : Int) < 2 ^ 62 := by
      have : each ≤ cells * each := Nat.le_mul_of_pos_left _ (by omega)
      omega
    refine ⟨_, rfl, ?_⟩
    rw [Nat.succ_mul]
    have hr : ∀ (e : AEnv) (s : Store), e[2]? = some (some (.int each)) → mRng1 (aCons (eVar 2) aNil) e s = .ok (rgA 0 each, none) s := fun e s he' => mRng1_ap (by simp [he']) he.1 he.2
    have key := key_spec hb he hl h0 h1 (ns := ns) (cells := cells) (x7 := x7) (x8 := x8)
    by_cases hlen : (i : Int) < (ns.length : Int)
    · have hv : (ns.map A.int)[i]? = some (.int (ns[i]'(by omega))) := by
        rw [List.getElem?_map, List.getElem?_eq_getElem (by omega)]; rfl
      have hix : ixOp (.slst (ns.map A.int)) (.int (i : Int)) [li ds] = some (.int (ns[i]'(by omega)), [li ds]) := ixOp_at (xs := ns.map A.int) rfl (atI_of (by omega) (by simpa using hv))
      have k := key (ns[i]'(by omega))
      simp [L3__law_deck, hlen, hix]
      simp at k
      exact k
    · have k := key 0
      simp [L3__law_deck, hlen]
      simp at k
      exact k
end Gk07

set_option Elab.async false
set_option linter.all false
set_option maxRecDepth 100000
set_option maxHeartbeats 4000000
namespace Gk07
open PySem PySem.Spec L2 SL
open PyProof.Rows hiding St
theorem sz : sizeLine = 16777216 := sizeLine_eq
theorem rng1 {ms : AEnv → Store → Res (List A)} {env : AEnv} {st : Store} {n : Nat} (hn : n < 1000000) (h : ms env st = .ok [.int (n : Int)] st) : mRng1 ms env st = .ok (((List.range n).map fun i => ((i : Nat) : Int)).map A.int, none) st := by
  rw [mRng1_ap h (by omega) (by omega), rgA_ints]
/-! plain -/
theorem plain_int {st : Store} {k : Nat} {i : Int} : M__law_plain_ (k + 1) [.int i] st = .ok (.lst [.bl false, .int i]) st := by
  have hz := sz
  have hb : B__law_plain (M__law_plain_ k) [some (.int i), none] st = .rt (.lst [.bl false, .int i]) st := by
    have h1 : isiTys "int" [.ty "tuple", .ty "list"] = some false := by decide
    have h2 : isiTys "int" [.ty "int", .ty "str"] = some true := by decide
    have h3 : isiB (.int i) (.ty "bool") st = some (.bl false, st) := by simp only [isiB, isiA, tyName]; rw [show kitB "int" "bool" = some false by decide]; rfl
    have h4 : isiB (.int i) (.ty "str") st = some (.bl false, st) := by simp only [isiB, isiA, tyName]; rw [show kitB "int" "str" = some false by decide]; rfl
    have h5 : isNOp false (.int i) .non st = some (.bl false, st) := rfl
    simp [B__law_plain, tyName, h1, h2, h3, h4, h5, hz]
  exact fnM_rt rfl hb (fin_pure0 (by simp [A.bel, belowL]) (by intro c h; cases h))
theorem plain_seq {st : Store} {k : Nat} {a : A} {xs : List A} (f : A → A) (b : Bool) (ha : (a = .tup xs ∧ b = false) ∨ (a = .lst xs ∧ b = true)) (hl : xs.length < 1000000) (hbel : ∀ x ∈ xs, (f x).bel st.length = true)
    (h : ∀ x ∈ xs, M__law_plain_ k [x] st = .ok (f x) st) : M__law_plain_ (k + 1) [a] st = .ok (.lst (.bl b :: xs.map f)) st := by
  have hz := sz
  have hsq : seqR a st = some xs ∧ srcOf a xs = none := by rcases ha with ⟨rfl, _⟩ | ⟨rfl, _⟩ <;> exact ⟨rfl, rfl⟩
  have hb : B__law_plain (M__law_plain_ k) [some a, none] st = .rt (.lst (.bl b :: xs.map f)) st := by
    have h1 : ((tyName a st).bind fun n => (isiTys n [.ty "tuple", .ty "list"]).map fun b => (A.bl b, st)) = some (.bl true, st) := by
      rcases ha with ⟨rfl, _⟩ | ⟨rfl, _⟩
      · have : isiTys "tuple" [.ty "tuple", .ty "list"] = some true := by decide
        simp [tyName, this]
      · have : isiTys "list" [.ty "tuple", .ty "list"] = some true := by decide
        simp [tyName, this]
    have h2 : isiB a (.ty "list") st = some (.bl b, st) := by
      rcases ha with ⟨rfl, rfl⟩ | ⟨rfl, rfl⟩ <;> simp only [isiB, isiA, tyName]
      · rw [show kitB "tuple" "list" = some false by decide]; rfl
      · rw [show kitB "list" "list" = some true by decide]; rfl
    have hc := lcL_map (all := xs) (g := gN 1) (me := e1__law_plain (M__law_plain_ k)) (mt := tYesM) (env0 := [some a, none]) (st := st) (fun _ => true) f xs [] (fun x hx => ⟨[some a, some x], rfl, by simp, fun _ => by simp [e1__law_plain, h x hx]⟩) (by simp; omega)
    rw [filT] at hc
    have e1 : eLc false (mSeq (eVar 0)) (gN 1) [1] tYesM (e1__law_plain (M__law_plain_ k)) [some a, none] st = .ok (.lst (xs.map f)) st := by
      simp [hsq.1, hsq.2]
      simp at hc
      rw [hc]; rfl
    have e2 : addOp false (.lst [.bl b]) (.lst (xs.map f)) st = some (.lst (.bl b :: xs.map f), st) := by
      have hq : addL false (.lst [.bl b]) (.lst (xs.map f)) st = some (.lst (.bl b :: xs.map f), st) := by
        simp only [addL, lstH]
        rw [if_pos (by simp; omega)]; rfl
      simp [addOp, addI, addS, iiOp, hq]
    have e0 : eIsiT (eVar 0) (aCons (eC (.ty "tuple")) (aCons (eC (.ty "list")) aNil)) [some a, none] st = .ok (.bl true) st := by
      simp only [eIsiT_ap, eVar_ap, List.getElem?_cons_zero, Res.bind_ok, aCons_ap, eC_ap, aNil_ap]
      rw [if_pos (by simp [hz]), h1]; rfl
    simp only [B__law_plain, sSeq_ap, sIf_ap, tTru_ap, e0, Res.bind_ok, truA_b, Res.toS_ok, if_true, sRet_ap, eBin_ap, eLst_ap, aCons_ap, eCB_ap, eVar_ap, List.getElem?_cons_zero, eC_ap, aNil_ap, two2_ap, h2, Res.of_some, List.length_cons, List.length_nil, newL_f, e1]
    rw [if_pos (by omega)]
    simp only [Res.bind_ok, e1, e2, Res.of_some, Res.toS_ok, SRes.bind_rt]
  refine fnM_rt rfl hb (fin_pure0 ?_ (by intro c h; cases h))
  simp only [A.bel, belowL, Bool.true_and]
  exact belowL_all fun x hx => by obtain ⟨y, hy, rfl⟩ := List.mem_map.mp hx; exact hbel y hy
abbrev plI : A → A := fun a => .lst [.bl false, a]
theorem plI_bel {n : Nat} {i : Int} : (plI (.int i)).bel n = true := by simp [A.bel, belowL]
theorem plI_dt {st : Store} {n : Nat} {i : Int} : Dt st (n + 1) (plI (.int i)) := dt_lst (by intro x hx; simp at hx; rcases hx with rfl | rfl <;> first | exact dt_bl | exact dt_int)
theorem plain_ti {st : Store} {k : Nat} {l : List Int} (hl : l.length < 1000000) : M__law_plain_ (k + 2) [ti l] st = .ok (.lst (.bl false :: (l.map A.int).map plI)) st :=
  plain_seq plI false (.inl ⟨rfl, rfl⟩) (by simpa using hl) (fun x hx => by obtain ⟨i, _, rfl⟩ := List.mem_map.mp hx; exact plI_bel) (fun x hx => by obtain ⟨i, _, rfl⟩ := List.mem_map.mp hx; exact plain_int)
theorem plain_lI {st : Store} {k : Nat} {l : List Int} (hl : l.length < 1000000) : M__law_plain_ (k + 2) [lI l] st = .ok (.lst (.bl true :: (l.map A.int).map plI)) st :=
  plain_seq plI true (.inr ⟨rfl, rfl⟩) (by simpa using hl) (fun x hx => by obtain ⟨i, _, rfl⟩ := List.mem_map.mp hx; exact plI_bel) (fun x hx => by obtain ⟨i, _, rfl⟩ := List.mem_map.mp hx; exact plain_int)
theorem plain_str {st : Store} {k : Nat} {x : Str} : M__law_plain_ (k + 1) [.str x] st = .ok (.lst [.bl true, .str x]) st := by
  have hz := sz
  have hb : B__law_plain (M__law_plain_ k) [some (.str x), none] st = .rt (.lst [.bl true, .str x]) st := by
    have h1 : isiTys "str" [.ty "tuple", .ty "list"] = some false := by decide
    have h2 : isiTys "str" [.ty "int", .ty "str"] = some true := by decide
    have h3 : isiB (.str x) (.ty "bool") st = some (.bl false, st) := by simp only [isiB, isiA, tyName]; rw [show kitB "str" "bool" = some false by decide]; rfl
    have h4 : isiB (.str x) (.ty "str") st = some (.bl true, st) := by simp only [isiB, isiA, tyName]; rw [show kitB "str" "str" = some true by decide]; rfl
    have h5 : isNOp false (.str x) .non st = some (.bl false, st) := rfl
    simp [B__law_plain, tyName, h1, h2, h3, h4, h5, hz]
  exact fnM_rt rfl hb (fin_pure0 (by simp [A.bel, belowL]) (by intro c h; cases h))
def blS (b : Bool) : Str := if b then "True" else "False"
theorem plain_bl {st : Store} {k : Nat} {b : Bool} : M__law_plain_ (k + 1) [.bl b] st = .ok (.str (blS b)) st := by
  have hz := sz
  have hb : B__law_plain (M__law_plain_ k) [some (.bl b), none] st = .rt (.str (blS b)) st := by
    have h1 : isiTys "bool" [.ty "tuple", .ty "list"] = some false := by decide
    have h3 : isiB (.bl b) (.ty "bool") st = some (.bl true, st) := by simp only [isiB, isiA, tyName]; rw [show kitB "bool" "bool" = some true by decide]; rfl
    have h5 : isNOp false (.bl b) .non st = some (.bl false, st) := rfl
    have h6 : isNOp true (.bl b) .non st = some (.bl true, st) := rfl
    have h7 : isNOp false (.bl b) (.bl true) st = some (.bl (decide (b = true)), st) := rfl
    have i1 := @ixOp_at st [.str "None", .str "False", .str "True"] (.lst [.str "None", .str "False", .str "True"]) 1 _ rfl (atI_of (by omega) rfl)
    have i2 := @ixOp_at st [.str "None", .str "False", .str "True"] (.lst [.str "None", .str "False", .str "True"]) 2 _ rfl (atI_of (by omega) rfl)
    cases b
    · simp [B__law_plain, tyName, h1, h3, h5, h6, h7, hz, i1, blS]
    · simp [B__law_plain, tyName, h1, h3, h5, h6, h7, hz, i2, blS]
  exact fnM_rt rfl hb (fin_pure0 (by simp [A.bel]) (by intro c h; cases h))

/-! plain data of a few levels -/
inductive PD : Nat → A → Prop
  | int (d : Nat) (i : Int) : PD d (.int i)
  | bl (d : Nat) (b : Bool) : PD d (.bl b)
  | str (d : Nat) (x : Str) (h : PyData.strOk x = true) : PD d (.str x)
  | lst (d : Nat) (xs : List A) (hl : xs.length < 1000000) (h : ∀ x ∈ xs, PD d x) : PD (d + 1) (.lst xs)
  | tup (d : Nat) (xs : List A) (hl : xs.length < 1000000) (h : ∀ x ∈ xs, PD d x) : PD (d + 1) (.tup xs)
theorem blS_dt {st : Store} {n : Nat} {b : Bool} : Dt st n (.str (blS b)) := by
  cases b
  · exact dt_str (by simp only [PyData.canLay0]; decide +kernel)
  · exact dt_str (by simp only [PyData.canLay0]; decide +kernel)
theorem plain_pd {st : Store} : ∀ (d : Nat) (a : A), PD d a → ∀ k, ∃ r, M__law_plain_ (k + d + 1) [a] st = .ok r st ∧ (r.bel st.length = true ∧ ∀ c, r ≠ .cell c) ∧ ∀ m, Dt st (m + d + 1) r := by
  have seq : ∀ (d : Nat) (xs : List A) (a : A) (b : Bool), ((a = .tup xs ∧ b = false) ∨ (a = .lst xs ∧ b = true)) → xs.length < 1000000 → (∀ x ∈ xs, ∀ k, ∃ r, M__law_plain_ (k + d + 1) [x] st = .ok r st ∧ (r.bel st.length = true ∧ ∀ c, r ≠ .cell c) ∧ ∀ m, Dt st (m + d + 1) r) →
      ∀ k, ∃ r, M__law_plain_ (k + (d + 1) + 1) [a] st = .ok r st ∧ (r.bel st.length = true ∧ ∀ c, r ≠ .cell c) ∧ ∀ m, Dt st (m + (d + 1) + 1) r := by
    intro d xs a b ha hl ih k
    classical
    let f : A → A := fun x => if hx : x ∈ xs then Classical.choose (ih x hx k) else x
    have hf : ∀ x ∈ xs, M__law_plain_ (k + d + 1) [x] st = .ok (f x) st ∧ ((f x).bel st.length = true ∧ ∀ c, f x ≠ .cell c) ∧ ∀ m, Dt st (m + d + 1) (f x) := fun x hx => by
      have : f x = Classical.choose (ih x hx k) := dif_pos hx
      rw [this]; exact Classical.choose_spec (ih x hx k)
    refine ⟨_, plain_seq f b ha hl (fun x hx => (hf x hx).2.1.1) (fun x hx => (hf x hx).1), ⟨bel_lst fun x hx => ?_, by intro c h; cases h⟩, fun m => dt_lst (n := m + d + 1) fun x hx => ?_⟩
    · rw [List.mem_cons] at hx
      rcases hx with rfl | hx
      · simp [A.bel]
      · obtain ⟨y, hy, rfl⟩ := List.mem_map.mp hx; exact (hf y hy).2.1.1
    · rw [List.mem_cons] at hx
      rcases hx with rfl | hx
      · exact dt_bl
      · obtain ⟨y, hy, rfl⟩ := List.mem_map.mp hx; exact (hf y hy).2.2 m
  intro d a h
  induction h with
  | int d i => exact fun k => ⟨_, plain_int, ⟨by simp [A.bel, belowL], by intro c h; cases h⟩, fun m => dt_lst fun x hx => by
      simp only [List.mem_cons, List.not_mem_nil, or_false] at hx
      rcases hx with rfl | rfl
      · exact dt_bl
      · exact dt_int⟩
  | bl d b => exact fun k => ⟨_, plain_bl, ⟨by simp [A.bel], by intro c h; cases h⟩, fun m => blS_dt⟩
  | str d x h => exact fun k => ⟨_, plain_str, ⟨by simp [A.bel, belowL], by intro c h; cases h⟩, fun m => dt_lst fun y hy => by
      simp only [List.mem_cons, List.not_mem_nil, or_false] at hy
      rcases hy with rfl | rfl
      · exact dt_bl
      · exact dt_str (by simp only [PyData.canLay0]; exact h)⟩
  | lst d xs hl h ih => exact seq d xs _ true (.inr ⟨rfl, rfl⟩) hl ih
  | tup d xs hl h ih => exact seq d xs _ false (.inl ⟨rfl, rfl⟩) hl ih
theorem plainQ {st : Store} {d : Nat} {a : A} (h : PD d a) (hd : d ≤ 5) : ∃ r, M__law_plain [a] st = .ok r st ∧ eqOp r r st = some (.bl true, st) ∧ neOp r r st = some (.bl false, st) ∧ r.bel st.length = true ∧ ∀ c, r ≠ .cell c := by
  obtain ⟨r, h1, hb, h3⟩ := plain_pd (st := st) d a h (5 - d)
  rw [show 5 - d + d + 1 = 6 by omega] at h1
  have h4 := h3 (49 - d)
  rw [show 49 - d + d + 1 = 50 by omega] at h4
  exact ⟨r, h1, eqOp_same h4, neOp_same h4, hb⟩
theorem pd_lI {d : Nat} {l : List Int} (h : l.length < 1000000) : PD (d + 1) (lI l) := .lst d _ (by simpa using h) fun x hx => by obtain ⟨i, _, rfl⟩ := List.mem_map.mp hx; exact .int d i
theorem pd_ti {d : Nat} {l : List Int} (h : l.length < 1000000) : PD (d + 1) (ti l) := .tup d _ (by simpa using h) fun x hx => by obtain ⟨i, _, rfl⟩ := List.mem_map.mp hx; exact .int d i
end Gk07

set_option Elab.async false
set_option linter.all false
set_option maxRecDepth 100000
namespace F07
/-! words: neighbours that cancel -/
def psh : List Int → Int → List Int
  | b :: t, a => if b = -a then t else a :: b :: t
  | [], a => [a]
def act (s w : List Int) : List Int := w.foldl psh s
def red (w : List Int) : List Int := (act [] w).reverse
def Red : List Int → Prop
  | a :: b :: t => b ≠ -a ∧ Red (b :: t)
  | _ => True
theorem Red.tail {a : Int} {t : List Int} (h : Red (a :: t)) : Red t := by
  cases t with
  | nil => trivial
  | cons b t => exact h.2
theorem psh_red {s : List Int} {a : Int} (h : Red s) : Red (psh s a) := by
  cases s with
  | nil => trivial
  | cons b t =>
    by_cases e : b = -a
    · have e1 : psh (b :: t) a = t := by simp [psh, e]
      rw [e1]; exact h.tail
    · have e1 : psh (b :: t) a = a :: b :: t := by simp [psh, e]
      rw [e1]; exact ⟨e, h⟩
theorem psh_cancel {s : List Int} {a b : Int} (h : Red s) (e : b = -a) : psh (psh s a) b = s := by
  subst e
  cases s with
  | nil => simp [psh]
  | cons b t =>
    by_cases e : b = -a
    · have e1 : psh (b :: t) a = t := by simp [psh, e]
      rw [e1]
      cases t with
      | nil => simp [psh, e]
      | cons c t =>
        have : c ≠ - -a := by
          have := h.1; rw [e] at this; exact this
        simp [psh, this, e]
        intro z; omega
    · have e1 : psh (b :: t) a = a :: b :: t := by simp [psh, e]
      rw [e1]; simp [psh]
theorem act_app {s u v : List Int} : act s (u ++ v) = act (act s u) v := by simp [act]
theorem act_cons {s v : List Int} {a : Int} : act s (a :: v) = act (psh s a) v := rfl
theorem act_red {w : List Int} : ∀ {s : List Int}, Red s → Red (act s w) := by
  induction w with
  | nil => intro s h; exact h
  | cons a w ih => intro s h; exact ih (psh_red h)
/-- alike in the free group -/
def Fe (u v : List Int) : Prop := ∀ s, Red s → act s u = act s v
theorem Fe.refl {u : List Int} : Fe u u := fun _ _ => rfl
theorem Fe.symm {u v : List Int} (h : Fe u v) : Fe v u := fun s hs => (h s hs).symm
theorem Fe.trans {u v w : List Int} (h : Fe u v) (h' : Fe v w) : Fe u w := fun s hs => (h s hs).trans (h' s hs)
theorem Fe.app {u v u' v' : List Int} (h : Fe u u') (h' : Fe v v') : Fe (u ++ v) (u' ++ v') := fun s hs => by
  rw [act_app, act_app, h s hs, h' _ (act_red hs)]
theorem Fe.of_eq {u v : List Int} (h : u = v) : Fe u v := h ▸ Fe.refl
theorem fe_pair {a b : Int} (e : b = -a) : Fe [a, b] [] := fun s hs => by
  show psh (psh s a) b = s
  exact psh_cancel hs e
theorem fe_mid {u v : List Int} {a b : Int} (e : b = -a) : Fe (u ++ a :: b :: v) (u ++ v) :=
  Fe.app Fe.refl (show Fe ([a, b] ++ v) ([] ++ v) from Fe.app (fe_pair e) Fe.refl)
/-- what cancelling keeps -/
theorem red_gen {R : List Int → List Int → Prop} (hr : ∀ u, R u u) (ht : ∀ u v w, R u v → R v w → R u w) (hc : ∀ u a b v, b = -a → R (u ++ v) (u ++ a :: b :: v)) : ∀ (w t : List Int), R (act t w).reverse (t.reverse ++ w)
  | [], t => by rw [List.append_nil]; exact hr _
  | a :: w, t => by
    rw [act_cons]
    have ih := red_gen hr ht hc w (psh t a)
    cases t with
    | nil => exact ih
    | cons b t =>
      by_cases e : b = -a
      · have e1 : psh (b :: t) a = t := by simp [psh, e]
        rw [e1] at ih ⊢
        refine ht _ _ _ ih ?_
        rw [List.reverse_cons, List.append_assoc]
        exact hc _ b a _ (by omega)
      · have e1 : psh (b :: t) a = a :: b :: t := by simp [psh, e]
        rw [e1] at ih ⊢
        simpa using ih
theorem red_rel {R : List Int → List Int → Prop} (hr : ∀ u, R u u) (ht : ∀ u v w, R u v → R v w → R u w) (hc : ∀ u a b v, b = -a → R (u ++ v) (u ++ a :: b :: v)) (w : List Int) : R (red w) w := by
  have := red_gen hr ht hc w []
  simpa [red] using this
theorem fe_red (w : List Int) : Fe (red w) w := red_rel (R := Fe) (fun _ => Fe.refl) (fun _ _ _ h h' => h.trans h') (fun _ _ _ _ e => (fe_mid e).symm) w
theorem red_of_fe {u v : List Int} (h : Fe u v) : red u = red v := by unfold red; rw [h [] trivial]
/-! reduced words -/
theorem Red.join : ∀ {s y : List Int}, Red s → Red y → (∀ a ∈ s.head?, ∀ b ∈ y.head?, b ≠ -a) → Red (s.reverse ++ y)
  | [], y, _, hy, _ => hy
  | a :: s, y, hs, hy, hj => by
    rw [List.reverse_cons, List.append_assoc]
    have h1 : Red (a :: y) := by
      cases y with
      | nil => trivial
      | cons b y => exact ⟨hj a (by simp) b (by simp), hy⟩
    refine Red.join hs.tail h1 fun c hc d hd => ?_
    simp at hd; subst hd
    cases s with
    | nil => simp at hc
    | cons c' s =>
      simp at hc; subst hc
      have := hs.1
      omega
theorem Red.rev {s : List Int} (h : Red s) : Red s.reverse := by
  have := Red.join (y := []) h trivial (by simp)
  simpa using this
theorem Red.suff : ∀ {x y : List Int}, Red (x ++ y) → Red y
  | [], _, h => h
  | a :: x, y, h => Red.suff (x := x) (Red.tail (a := a) h)
theorem act_id : ∀ {w t : List Int}, Red (w.reverse ++ t) → act t w = w.reverse ++ t
  | [], t, _ => rfl
  | a :: w, t, h => by
    have h' : Red (w.reverse ++ (a :: t)) := by simpa using h
    have h2 : Red (a :: t) := Red.suff h'
    have e : psh t a = a :: t := by
      cases t with
      | nil => rfl
      | cons b t => simp [psh, h2.1]
    rw [act_cons, e, act_id h']
    simp
theorem red_id {w : List Int} (h : Red w) : red w = w := by
  have := act_id (w := w) (t := []) (by simpa using h.rev)
  unfold red
  rw [this]; simp
theorem red_Red (w : List Int) : Red (red w) := (act_red (s := []) trivial).rev
theorem red_unique {u v : List Int} (hu : Red u) (hv : Red v) (h : Fe u v) : u = v := by rw [← red_id hu, ← red_id hv, red_of_fe h]
theorem Red.at : ∀ {w : List Int} {i : Nat}, Red w → i + 1 < w.length → w.getD (i + 1) 0 ≠ - w.getD i 0
  | [], i, _, h => by simp at h
  | [a], i, _, h => by simp at h
  | a :: b :: w, 0, h, _ => by simpa using h.1
  | a :: b :: w, i + 1, h, hl => by
    have := Red.at (w := b :: w) (i := i) h.2 (by simpa using hl)
    simpa using this
theorem Red.of_at : ∀ {w : List Int}, (∀ i, i + 1 < w.length → w.getD (i + 1) 0 ≠ - w.getD i 0) → Red w
  | [], _ => trivial
  | [a], _ => trivial
  | a :: b :: w, h => ⟨by simpa using h 0 (by simp), Red.of_at fun i hi => by
      have := h (i + 1) (by simpa using hi)
      simpa using this⟩
/-! inverse words -/
def inv (w : List Int) : List Int := (w.map fun x => -x).reverse
theorem inv_app {u v : List Int} : inv (u ++ v) = inv v ++ inv u := by simp [inv]
theorem inv_inv {u : List Int} : inv (inv u) = u := by simp [inv, Function.comp_def]
theorem fe_inv : ∀ u : List Int, Fe (u ++ inv u) []
  | [] => Fe.refl
  | a :: u => by
    have e : a :: u ++ inv (a :: u) = [a] ++ (u ++ inv u) ++ [-a] := by simp [inv]
    rw [e]
    refine Fe.trans (Fe.app (Fe.app Fe.refl (fe_inv u)) Fe.refl) ?_
    exact fe_pair rfl
theorem fe_inv' (u : List Int) : Fe (inv u ++ u) [] := by
  have := fe_inv (inv u)
  rwa [inv_inv] at this
theorem Fe.inv {u v : List Int} (h : Fe u v) : Fe (inv u) (inv v) := by
  have h1 : Fe (F07.inv u) (F07.inv u ++ (v ++ F07.inv v)) := by
    have := Fe.app (Fe.refl (u := F07.inv u)) (fe_inv v).symm
    simpa using this
  refine h1.trans ?_
  have h2 : Fe (F07.inv u ++ (v ++ F07.inv v)) (F07.inv u ++ (u ++ F07.inv v)) := Fe.app Fe.refl (Fe.app h.symm Fe.refl)
  refine h2.trans ?_
  rw [← List.append_assoc]
  have := Fe.app (fe_inv' u) (Fe.refl (u := F07.inv v))
  simpa using this
/-! letters -/
def ab (i : Int) : Int := if i < 0 then -i else i
/-- letters of n generators -/
def Vd (n : Int) (w : List Int) : Prop := ∀ x ∈ w, x ≠ 0 ∧ ab x ≤ n
theorem Vd.app {n : Int} {u v : List Int} : Vd n (u ++ v) ↔ Vd n u ∧ Vd n v := by
  unfold Vd
  constructor
  · intro h; exact ⟨fun x hx => h x (by simp [hx]), fun x hx => h x (by simp [hx])⟩
  · intro h x hx
    rcases List.mem_append.mp hx with hx | hx
    · exact h.1 x hx
    · exact h.2 x hx
theorem ab_neg {x : Int} : ab (-x) = ab x := by unfold ab; split <;> split <;> omega
theorem Vd.inv {n : Int} {u : List Int} (h : Vd n u) : Vd n (inv u) := by
  intro x hx
  unfold F07.inv at hx
  rw [List.mem_reverse, List.mem_map] at hx
  obtain ⟨y, hy, rfl⟩ := hx
  rw [ab_neg]
  exact ⟨by have := (h y hy).1; omega, (h y hy).2⟩
theorem Vd.red {n : Int} {w : List Int} (h : Vd n w) : Vd n (red w) :=
  red_rel (R := fun u v => Vd n v → Vd n u) (fun _ h => h) (fun _ _ _ h h' z => h (h' z)) (fun u a b v _ z => by
    rw [Vd.app] at z ⊢
    exact ⟨z.1, fun x hx => z.2 x (by simp [hx])⟩) w h
/-! substitutions -/
def fl (l x : Int) : List Int :=
  if l > 0 ∧ x = ab l then [ab l, ab l + 1, -ab l] else if l > 0 ∧ x = ab l + 1 then [ab l] else if x = ab l then [ab l + 1] else if x = ab l + 1 then [-ab l - 1, ab l, ab l + 1] else [x]
def img (l a : Int) : List Int := if a < 0 then inv (fl l (ab a)) else fl l (ab a)
def sub (l : Int) (w : List Int) : List Int := w.flatMap (img l)
theorem sub_app {l : Int} {u v : List Int} : sub l (u ++ v) = sub l u ++ sub l v := by simp [sub]
theorem sub_cons {l a : Int} {v : List Int} : sub l (a :: v) = img l a ++ sub l v := by simp [sub]
theorem img_neg {l a : Int} (h : a ≠ 0) : img l (-a) = inv (img l a) := by
  unfold img
  rw [ab_neg]
  by_cases h0 : a < 0
  · rw [if_neg (by omega), if_pos h0, inv_inv]
  · rw [if_pos (by omega), if_neg h0]
theorem sub_inv {l : Int} : ∀ {u : List Int}, (∀ x ∈ u, x ≠ 0) → sub l (inv u) = inv (sub l u)
  | [], _ => rfl
  | a :: u, h => by
    have e : inv (a :: u) = inv u ++ [-a] := by simp [inv]
    rw [e, sub_app, sub_inv fun x hx => h x (by simp [hx]), sub_cons, sub_cons, inv_app, img_neg (h a (by simp))]
    simp [sub]
theorem sub_pair {l a b : Int} (h : a ≠ 0) (e : b = -a) : Fe (img l a ++ img l b) [] := by
  subst e
  rw [img_neg h]
  exact fe_inv _
theorem sub_red {n l : Int} {w : List Int} (h : Vd n w) : Fe (sub l (red w)) (sub l w) :=
  (red_rel (R := fun u v => Vd n v → Vd n u ∧ Fe (sub l u) (sub l v)) (fun _ h => ⟨h, Fe.refl⟩) (fun _ _ _ h h' z => ⟨(h (h' z).1).1, (h (h' z).1).2.trans (h' z).2⟩) (fun u a b v e z => by
    have z0 := z
    rw [Vd.app] at z
    refine ⟨?_, ?_⟩
    · rw [Vd.app]; exact ⟨z.1, fun x hx => z.2 x (by simp [hx])⟩
    · rw [sub_app, sub_app, sub_cons, sub_cons, ← List.append_assoc (img l a)]
      refine Fe.app Fe.refl ?_
      have := Fe.app (sub_pair (l := l) (z.2 a (by simp)).1 e) (Fe.refl (u := sub l v))
      simpa using this.symm) w h).2
theorem sub_fe {n l : Int} {u v : List Int} (hu : Vd n u) (hv : Vd n v) (h : Fe u v) : Fe (sub l u) (sub l v) := by
  refine (sub_red (l := l) hu).symm.trans ?_
  rw [red_of_fe h]
  exact sub_red hv
/-- a letter of a braid of n strands -/
def Lt (n l : Int) : Prop := l ≠ 0 ∧ ab l < n
theorem ab_pos {x : Int} (h : x ≠ 0) : 0 < ab x := by unfold ab; split <;> omega
theorem fl_vd {n l x : Int} (hl : Lt n l) (hx : 0 < x) (hn : x ≤ n) : Vd n (fl l x) := by
  have h0 := ab_pos hl.1
  have h1 := hl.2
  have p : ∀ y : Int, 0 < y → y ≤ n → (y ≠ 0 ∧ ab y ≤ n) := fun y a b => ⟨by omega, by unfold ab; rw [if_neg (by omega)]; exact b⟩
  have q : ∀ y : Int, 0 < y → y ≤ n → (-y ≠ 0 ∧ ab (-y) ≤ n) := fun y a b => ⟨by omega, by rw [ab_neg]; exact (p y a b).2⟩
  intro y hy
  unfold fl at hy
  split at hy
  · simp at hy
    rcases hy with rfl | rfl | rfl
    · exact p _ (by omega) (by omega)
    · exact p _ (by omega) (by omega)
    · exact q _ (by omega) (by omega)
  split at hy
  · simp at hy; subst hy; exact p _ (by omega) (by omega)
  split at hy
  · simp at hy; subst hy; exact p _ (by omega) (by omega)
  split at hy
  · simp at hy
    rcases hy with rfl | rfl | rfl
    · have := q (ab l + 1) (by omega) (by omega); rw [show -ab l - 1 = -(ab l + 1) by omega]; exact this
    · exact p _ (by omega) (by omega)
    · exact p _ (by omega) (by omega)
  · simp at hy; subst hy; exact p _ (by omega) (by omega)
theorem img_vd {n l a : Int} (hl : Lt n l) (ha : a ≠ 0) (hn : ab a ≤ n) : Vd n (img l a) := by
  unfold img
  split
  · exact (fl_vd hl (ab_pos ha) hn).inv
  · exact fl_vd hl (ab_pos ha) hn
theorem sub_vd {n l : Int} (hl : Lt n l) {w : List Int} (h : Vd n w) : Vd n (sub l w) := by
  intro y hy
  obtain ⟨x, hx, hy⟩ := List.mem_flatMap.mp hy
  exact img_vd hl (h x hx).1 (h x hx).2 y hy
/-- a word's letters, one after the other -/
def Sw (ls u : List Int) : List Int := ls.foldl (fun u l => sub l u) u
theorem Sw_cons {l : Int} {ls u : List Int} : Sw (l :: ls) u = Sw ls (sub l u) := rfl
theorem Sw_append {ls ms u : List Int} : Sw (ls ++ ms) u = Sw ms (Sw ls u) := by simp [Sw]
def Lw (n : Int) (w : List Int) : Prop := ∀ l ∈ w, Lt n l
theorem Sw_vd {n : Int} : ∀ {ls u : List Int}, Lw n ls → Vd n u → Vd n (Sw ls u)
  | [], _, _, h => h
  | l :: ls, u, hl, h => Sw_vd (ls := ls) (fun x hx => hl x (by simp [hx])) (sub_vd (hl l (by simp)) h)
theorem Sw_app {ls : List Int} : ∀ {u v : List Int}, Sw ls (u ++ v) = Sw ls u ++ Sw ls v := by
  induction ls with
  | nil => intro u v; rfl
  | cons l ls ih => intro u v; rw [Sw_cons, sub_app, ih]; rfl
theorem Sw_inv {n : Int} : ∀ {ls u : List Int}, Lw n ls → Vd n u → Sw ls (inv u) = inv (Sw ls u)
  | [], _, _, _ => rfl
  | l :: ls, u, hl, h => by
    rw [Sw_cons, Sw_cons, sub_inv fun x hx => (h x hx).1]
    exact Sw_inv (ls := ls) (fun x hx => hl x (by simp [hx])) (sub_vd (hl l (by simp)) h)
theorem Sw_fe {n : Int} : ∀ {ls u v : List Int}, Lw n ls → Vd n u → Vd n v → Fe u v → Fe (Sw ls u) (Sw ls v)
  | [], _, _, _, _, _, h => h
  | l :: ls, u, v, hl, hu, hv, h => by
    have h0 := hl l (by simp)
    exact Sw_fe (ls := ls) (fun x hx => hl x (by simp [hx])) (sub_vd h0 hu) (sub_vd h0 hv) (sub_fe hu hv h)
theorem Sw_nil {ls : List Int} : Sw ls [] = [] := by
  induction ls with
  | nil => rfl
  | cons l ls ih => rw [Sw_cons]; exact ih
/-- alike at the generators, alike at all words -/
theorem Sw_ext {n : Int} {ls ms : List Int} (hl : Lw n ls) (hm : Lw n ms) (h : ∀ x, 0 < x → x ≤ n → Fe (Sw ls [x]) (Sw ms [x])) : ∀ {u : List Int}, Vd n u → Fe (Sw ls u) (Sw ms u)
  | [], _ => by rw [Sw_nil, Sw_nil]; exact Fe.refl
  | a :: u, hu => by
    have ih := Sw_ext hl hm h (u := u) fun x hx => hu x (by simp [hx])
    have e : ∀ ks, Sw ks (a :: u) = Sw ks [a] ++ Sw ks u := fun ks => Sw_app (u := [a])
    rw [e, e]
    refine Fe.app ?_ ih
    obtain ⟨h0, h1⟩ := hu a (by simp)
    by_cases hp : 0 < a
    · refine h a hp ?_
      unfold ab at h1; rw [if_neg (by omega)] at h1; exact h1
    · have hp' : 0 < -a := by omega
      have hv : Vd n [-a] := fun x hx => by simp at hx; subst hx; exact ⟨by omega, by rw [ab_neg]; exact h1⟩
      have hle : -a ≤ n := by unfold ab at h1; rw [if_pos (by omega)] at h1; exact h1
      have e2 : ([a] : List Int) = inv [-a] := by simp [inv]
      rw [e2, Sw_inv hl hv, Sw_inv hm hv]
      exact (h (-a) hp' hle).inv
/-! the relations, by looking at all letters -/
def lts : List Int := [1, -1, 2, -2, 3, -3, 4, -4, 5, -5, 6, -6, 7, -7]
def gns : List Int := [1, 2, 3, 4, 5, 6, 7, 8]
theorem mem_lts {n l : Int} (h8 : n ≤ 8) (h : Lt n l) : l ∈ lts := by
  obtain ⟨h1, h2⟩ := h
  have : l = 1 ∨ l = -1 ∨ l = 2 ∨ l = -2 ∨ l = 3 ∨ l = -3 ∨ l = 4 ∨ l = -4 ∨ l = 5 ∨ l = -5 ∨ l = 6 ∨ l = -6 ∨ l = 7 ∨ l = -7 := by
    unfold ab at h2; split at h2 <;> omega
  simpa [lts] using this
theorem mem_gns {n x : Int} (h8 : n ≤ 8) (h0 : 0 < x) (h1 : x ≤ n) : x ∈ gns := by
  have : x = 1 ∨ x = 2 ∨ x = 3 ∨ x = 4 ∨ x = 5 ∨ x = 6 ∨ x = 7 ∨ x = 8 := by omega
  simpa [gns] using this
theorem rel_pair : ∀ l ∈ lts, ∀ x ∈ gns, red (Sw [l, -l] [x]) = [x] := by decide +kernel
theorem rel_swap : ∀ a ∈ lts, ∀ b ∈ lts, 1 < ab (ab a - ab b) → ∀ x ∈ gns, red (Sw [a, b] [x]) = red (Sw [b, a] [x]) := by decide +kernel
theorem rel_turn : ∀ a ∈ lts, ∀ b ∈ lts, ab (ab a - ab b) = 1 → (decide (a > 0) = decide (b > 0)) → ∀ x ∈ gns, red (Sw [a, b, a] [x]) = red (Sw [b, a, b] [x]) := by decide +kernel
theorem rel_prod : ∀ n ∈ ([2, 3, 4, 5, 6, 7, 8] : List Int), ∀ l ∈ lts, ab l < n → red (sub l ((List.range n.toNat).map fun (i : Nat) => (i : Int) + 1)) = (List.range n.toNat).map fun (i : Nat) => (i : Int) + 1 := by decide +kernel
/-! images -/
def mv (l : Int) (u : List Int) : List Int := red (sub l u)
theorem mv_vd {n l : Int} {u : List Int} (hl : Lt n l) (h : Vd n u) : Vd n (mv l u) := (sub_vd hl h).red
theorem mv_fe {l : Int} {u : List Int} : Fe (mv l u) (sub l u) := fe_red _
def Mw (w u : List Int) : List Int := w.foldl (fun u l => mv l u) u
theorem Mw_cons {l : Int} {w u : List Int} : Mw (l :: w) u = Mw w (mv l u) := rfl
theorem Mw_vd {n : Int} : ∀ {w u : List Int}, Lw n w → Vd n u → Vd n (Mw w u)
  | [], _, _, h => h
  | l :: w, u, hl, h => Mw_vd (w := w) (fun x hx => hl x (by simp [hx])) (mv_vd (hl l (by simp)) h)
theorem Mw_Red : ∀ {w u : List Int}, Red u → Red (Mw w u)
  | [], _, h => h
  | l :: w, u, _ => Mw_Red (w := w) (red_Red _)
theorem Mw_fe {n : Int} : ∀ {w u : List Int}, Lw n w → Vd n u → Fe (Mw w u) (Sw w u)
  | [], _, _, _ => Fe.refl
  | l :: w, u, hl, h => by
    have h0 := hl l (by simp)
    have hw : Lw n w := fun x hx => hl x (by simp [hx])
    rw [Mw_cons, Sw_cons]
    exact (Mw_fe hw (mv_vd h0 h)).trans (Sw_fe hw (mv_vd h0 h) (sub_vd h0 h) mv_fe)
def big (S : List (List Int)) : Bool := S.any fun u => decide (20000 < u.length)
def runI (S : List (List Int)) : List Int → Option (List (List Int))
  | [] => some S
  | l :: w => if big (S.map (mv l)) then none else runI (S.map (mv l)) w
theorem run_some : ∀ {w : List Int} {S T : List (List Int)}, runI S w = some T → T = S.map (Mw w)
  | [], S, T, h => by
    simp [runI] at h
    rw [← h]
    show S = S.map (fun u => u)
    simp
  | l :: w, S, T, h => by
    unfold runI at h
    split at h
    · cases h
    · rw [run_some h, List.map_map]; rfl
theorem run_app : ∀ {w v : List Int} {S : List (List Int)}, runI S (w ++ v) = (runI S w).bind fun T => runI T v
  | [], v, S => rfl
  | l :: w, v, S => by
    rw [List.cons_append, runI, runI]
    split
    · rfl
    · exact run_app
theorem back1 {n l : Int} {u : List Int} (h8 : n ≤ 8) (hl : Lt n l) (hu : Vd n u) (hr : Red u) : mv (-l) (mv l u) = u := by
  have hl' : Lt n (-l) := ⟨by have := hl.1; omega, by rw [ab_neg]; exact hl.2⟩
  refine red_unique (red_Red _) hr ?_
  refine mv_fe.trans ?_
  refine (sub_fe (mv_vd hl hu) (sub_vd hl hu) mv_fe).trans ?_
  have hw : Lw n [l, -l] := fun x hx => by
    simp at hx; rcases hx with rfl | rfl <;> assumption
  have := Sw_ext (ls := [l, -l]) (ms := []) hw (by intro x hx; simp at hx) (fun x hx hn => by
    have h1 := rel_pair l (mem_lts h8 hl) x (mem_gns h8 hx hn)
    show Fe (Sw [l, -l] [x]) [x]
    rw [← h1]
    refine (fe_red _).symm.trans ?_
    rw [h1]
    rw [h1]
    exact Fe.refl) hu
  exact this
theorem big_false {S : List (List Int)} : big S = false ↔ ∀ u ∈ S, u.length ≤ 20000 := by
  unfold big
  rw [List.any_eq_false]
  constructor
  · intro h u hu; have := h u hu; simp at this; exact this
  · intro h u hu; have := h u hu; simp; exact this
theorem run_back {n : Int} (h8 : n ≤ 8) : ∀ {w : List Int} {S T : List (List Int)}, Lw n w → (∀ u ∈ S, Vd n u ∧ Red u) → big S = false → runI S w = some T → runI T (inv w) = some S
  | [], S, T, _, _, _, h => by simp [runI] at h; subst h; rfl
  | l :: w, S, T, hw, hS, hb, h => by
    have hl := hw l (by simp)
    have hw' : Lw n w := fun x hx => hw x (by simp [hx])
    unfold runI at h
    split at h
    · cases h
    · rename_i hn
      have hS2 : ∀ u ∈ S.map (mv l), Vd n u ∧ Red u := fun u hu => by
        obtain ⟨v, hv, rfl⟩ := List.mem_map.mp hu
        exact ⟨mv_vd hl (hS v hv).1, red_Red _⟩
      have ih := run_back h8 hw' hS2 (by simpa using hn) h
      have e : inv (l :: w) = inv w ++ [-l] := by simp [inv]
      rw [e, run_app, ih]
      have e2 : (S.map (mv l)).map (mv (-l)) = S := by
        rw [List.map_map]
        have : ∀ u ∈ S, (mv (-l) ∘ mv l) u = u := fun u hu => back1 h8 hl (hS u hu).1 (hS u hu).2
        rw [List.map_congr_left this]; simp
      show runI (S.map (mv l)) [-l] = some S
      unfold runI
      rw [e2, hb]
      rfl
def gens (n : Nat) : List (List Int) := (List.range n).map fun (i : Nat) => [(i : Int) + 1]
theorem gens_ok {n : Nat} : ∀ u ∈ gens n, Vd n u ∧ Red u := fun u hu => by
  obtain ⟨i, hi, rfl⟩ := List.mem_map.mp hu
  have := List.mem_range.mp hi
  refine ⟨fun x hx => ?_, trivial⟩
  simp at hx; subst hx
  refine ⟨by omega, ?_⟩
  unfold ab; rw [if_neg (by omega)]; omega
theorem gens_big {n : Nat} : big (gens n) = false := big_false.mpr fun u hu => by
  obtain ⟨i, hi, rfl⟩ := List.mem_map.mp hu
  simp
/-- there and back -/
theorem run_round {n : Nat} (h8 : n ≤ 8) {w : List Int} {T : List (List Int)} (hw : Lw n w) (h : runI (gens n) w = some T) : runI (gens n) (w ++ inv w) = some (gens n) := by
  rw [run_app, h]
  exact run_back (n := n) (by omega) hw gens_ok gens_big h
/-! words for the same braid -/
structure Rl (n : Int) (w v : List Int) : Prop where
  l : Lw n w
  r : Lw n v
  fe : ∀ x, 0 < x → x ≤ n → Fe (Sw w [x]) (Sw v [x])
theorem vd1 {n x : Int} (h0 : 0 < x) (h1 : x ≤ n) : Vd n [x] := fun y hy => by
  simp at hy; subst hy
  exact ⟨by omega, by unfold ab; rw [if_neg (by omega)]; exact h1⟩
theorem Rl.refl {n : Int} {w : List Int} (h : Lw n w) : Rl n w w := ⟨h, h, fun _ _ _ => Fe.refl⟩
theorem Rl.symm {n : Int} {w v : List Int} (h : Rl n w v) : Rl n v w := ⟨h.r, h.l, fun x h0 h1 => (h.fe x h0 h1).symm⟩
theorem Rl.trans {n : Int} {w v u : List Int} (h : Rl n w v) (h' : Rl n v u) : Rl n w u := ⟨h.l, h'.r, fun x h0 h1 => (h.fe x h0 h1).trans (h'.fe x h0 h1)⟩
theorem Lw.app {n : Int} {u v : List Int} : Lw n (u ++ v) ↔ Lw n u ∧ Lw n v := by
  unfold Lw
  constructor
  · intro h; exact ⟨fun x hx => h x (by simp [hx]), fun x hx => h x (by simp [hx])⟩
  · intro h x hx
    rcases List.mem_append.mp hx with hx | hx
    · exact h.1 x hx
    · exact h.2 x hx
theorem Rl.mid {n : Int} {w v a b : List Int} (h : Rl n w v) (ha : Lw n a) (hb : Lw n b) : Rl n (a ++ w ++ b) (a ++ v ++ b) := by
  refine ⟨Lw.app.mpr ⟨Lw.app.mpr ⟨ha, h.l⟩, hb⟩, Lw.app.mpr ⟨Lw.app.mpr ⟨ha, h.r⟩, hb⟩, fun x h0 h1 => ?_⟩
  rw [Sw_append, Sw_append, Sw_append, Sw_append]
  have hv := Sw_vd ha (vd1 h0 h1)
  exact Sw_fe hb (Sw_vd h.l hv) (Sw_vd h.r hv) (Sw_ext h.l h.r h.fe hv)
theorem fe_of_red {u v : List Int} (h : red u = red v) : Fe u v := (fe_red u).symm.trans (by rw [h]; exact fe_red v)
theorem rl_pair {n l : Int} (h8 : n ≤ 8) (hl : Lt n l) : Rl n [l, -l] [] := by
  have hl' : Lt n (-l) := ⟨by have := hl.1; omega, by rw [ab_neg]; exact hl.2⟩
  refine ⟨fun x hx => by simp at hx; rcases hx with rfl | rfl <;> assumption, by intro x hx; simp at hx, fun x h0 h1 => fe_of_red ?_⟩
  rw [rel_pair l (mem_lts h8 hl) x (mem_gns h8 h0 h1)]
  exact (red_id (w := [x]) trivial).symm
theorem rl_swap {n a b : Int} (h8 : n ≤ 8) (ha : Lt n a) (hb : Lt n b) (h : 1 < ab (ab a - ab b)) : Rl n [a, b] [b, a] :=
  ⟨fun x hx => by simp at hx; rcases hx with rfl | rfl <;> assumption, fun x hx => by simp at hx; rcases hx with rfl | rfl <;> assumption, fun x h0 h1 => fe_of_red (rel_swap a (mem_lts h8 ha) b (mem_lts h8 hb) h x (mem_gns h8 h0 h1))⟩
theorem rl_turn {n a b : Int} (h8 : n ≤ 8) (ha : Lt n a) (hb : Lt n b) (h : ab (ab a - ab b) = 1) (hs : decide (a > 0) = decide (b > 0)) : Rl n [a, b, a] [b, a, b] :=
  ⟨fun x hx => by simp at hx; rcases hx with rfl | rfl | rfl <;> assumption, fun x hx => by simp at hx; rcases hx with rfl | rfl | rfl <;> assumption, fun x h0 h1 => fe_of_red (rel_turn a (mem_lts h8 ha) b (mem_lts h8 hb) h hs x (mem_gns h8 h0 h1))⟩
theorem run_rl {n : Nat} {w v : List Int} {T U : List (List Int)} (h : Rl n w v) (hT : runI (gens n) w = some T) (hU : runI (gens n) v = some U) : T = U := by
  rw [run_some hT, run_some hU]
  refine List.map_congr_left fun u hu => ?_
  obtain ⟨hv, hr⟩ := gens_ok u hu
  refine red_unique (Mw_Red hr) (Mw_Red hr) ?_
  obtain ⟨i, hi, rfl⟩ := List.mem_map.mp hu
  have := List.mem_range.mp hi
  exact (Mw_fe h.l hv).trans ((h.fe _ (by omega) (by omega)).trans (Mw_fe h.r hv).symm)
/-! the product of the images -/
theorem flat_fe {n : Int} {w : List Int} (hw : Lw n w) : ∀ S : List (List Int), (∀ u ∈ S, Vd n u) → Fe (S.map (Mw w)).flatten (Sw w S.flatten)
  | [], _ => by
    simp only [List.map_nil, List.flatten_nil]
    rw [Sw_nil]; exact Fe.refl
  | u :: S, h => by
    rw [List.map_cons, List.flatten_cons, List.flatten_cons, Sw_app]
    exact Fe.app (Mw_fe hw (h u (by simp))) (flat_fe hw S fun v hv => h v (by simp [hv]))
def ups (n : Nat) : List Int := (List.range n).map fun (i : Nat) => (i : Int) + 1
theorem gens_flat (n : Nat) : (gens n).flatten = ups n := by
  unfold gens ups
  generalize List.range n = l
  induction l with
  | nil => rfl
  | cons x l ih => simp [ih]
theorem ups_vd {n : Nat} : Vd n (ups n) := fun x hx => by
  obtain ⟨i, hi, rfl⟩ := List.mem_map.mp hx
  have := List.mem_range.mp hi
  refine ⟨by omega, ?_⟩
  unfold ab; rw [if_neg (by omega)]; omega
theorem ups_Red {n : Nat} : Red (ups n) := Red.of_at fun i hi => by
  unfold ups at hi ⊢
  rw [List.length_map, List.length_range] at hi
  rw [List.getD_eq_getElem?_getD, List.getD_eq_getElem?_getD, List.getElem?_map, List.getElem?_map, List.getElem?_range (by omega), List.getElem?_range (by omega)]
  simp
  omega
theorem ups_sub {n : Nat} {l : Int} (h8 : n ≤ 8) (hl : Lt n l) : Fe (sub l (ups n)) (ups n) := by
  have h0 := ab_pos hl.1
  have h1 := hl.2
  have hm : (n : Int) ∈ ([2, 3, 4, 5, 6, 7, 8] : List Int) := by
    have : (n : Int) = 2 ∨ (n : Int) = 3 ∨ (n : Int) = 4 ∨ (n : Int) = 5 ∨ (n : Int) = 6 ∨ (n : Int) = 7 ∨ (n : Int) = 8 := by omega
    simpa using this
  have := rel_prod n hm l (mem_lts (by omega) hl) h1
  rw [Int.toNat_natCast] at this
  have h2 : red (sub l (ups n)) = ups n := this
  refine fe_of_red ?_
  rw [h2, red_id ups_Red]
theorem ups_Sw {n : Nat} (h8 : n ≤ 8) : ∀ {w : List Int}, Lw n w → Fe (Sw w (ups n)) (ups n)
  | [], _ => Fe.refl
  | l :: w, h => by
    have hl := h l (by simp)
    have hw : Lw n w := fun x hx => h x (by simp [hx])
    rw [Sw_cons]
    exact (Sw_fe hw (sub_vd hl ups_vd) ups_vd (ups_sub h8 hl)).trans (ups_Sw h8 hw)
theorem prod_ok {n : Nat} {w : List Int} {T : List (List Int)} (h8 : n ≤ 8) (hw : Lw n w) (h : runI (gens n) w = some T) : red T.flatten = ups n := by
  rw [run_some h]
  refine red_unique (red_Red _) ups_Red ?_
  refine (fe_red _).trans ?_
  refine (flat_fe (n := n) hw _ fun u hu => (gens_ok u hu).1).trans ?_
  rw [gens_flat]
  exact ups_Sw h8 hw
/-! conjugates of generators -/
def Cj (n : Int) (u : List Int) (e : Int) : Prop := ∃ g, Vd n g ∧ Fe u (g ++ e :: inv g)
def swp (l e : Int) : Int := if e = ab l then ab l + 1 else if e = ab l + 1 then ab l else e
theorem fl_cj {n l e : Int} (hl : Lt n l) : ∃ v, Vd n v ∧ fl l e = v ++ swp l e :: inv v := by
  have h0 := ab_pos hl.1
  have h1 := hl.2
  have p : ∀ y : Int, 0 < y → y ≤ n → Vd n [y] := fun y a b => vd1 a b
  unfold fl swp
  by_cases e1 : e = ab l
  · by_cases e2 : l > 0
    · refine ⟨[ab l], p _ h0 (by omega), ?_⟩
      rw [if_pos ⟨e2, e1⟩, if_pos e1]; rfl
    · refine ⟨[], by intro x hx; simp at hx, ?_⟩
      rw [if_neg (by omega), if_neg (by omega), if_pos e1, if_pos e1]; rfl
  · by_cases e3 : e = ab l + 1
    · by_cases e2 : l > 0
      · refine ⟨[], by intro x hx; simp at hx, ?_⟩
        rw [if_neg (by omega), if_pos ⟨e2, e3⟩, if_neg e1, if_pos e3]; rfl
      · refine ⟨[-ab l - 1], ?_, ?_⟩
        · have := (p (ab l + 1) (by omega) (by omega)).inv
          rw [show -ab l - 1 = -(ab l + 1) by omega]
          simpa [inv] using this
        · rw [if_neg (by omega), if_neg (by omega), if_neg e1, if_pos e3, if_neg e1, if_pos e3]
          simp [inv]; omega
    · refine ⟨[], by intro x hx; simp at hx, ?_⟩
      rw [if_neg (by omega), if_neg (by omega), if_neg e1, if_neg e3, if_neg e1, if_neg e3]; rfl
theorem swp_rng {n l e : Int} (hl : Lt n l) (h0 : 0 < e) (h1 : e ≤ n) : 0 < swp l e ∧ swp l e ≤ n := by
  have a := ab_pos hl.1
  have b := hl.2
  unfold swp
  split
  · omega
  split <;> omega
theorem cj_step {n l e : Int} {u : List Int} (hl : Lt n l) (hu : Vd n u) (h0 : 0 < e) (h1 : e ≤ n) (h : Cj n u e) : Cj n (sub l u) (swp l e) := by
  obtain ⟨g, hg, hf⟩ := h
  obtain ⟨v, hv, he⟩ := fl_cj (e := e) hl
  refine ⟨sub l g ++ v, Vd.app.mpr ⟨sub_vd hl hg, hv⟩, ?_⟩
  have hv2 : Vd n (g ++ e :: inv g) := Vd.app.mpr ⟨hg, fun x hx => by
    simp at hx
    rcases hx with rfl | hx
    · exact vd1 h0 h1 _ (by simp)
    · exact hg.inv x hx⟩
  refine (sub_fe hu hv2 hf).trans ?_
  have ei : img l e = fl l e := by
    unfold img; rw [if_neg (by omega)]
    have : ab e = e := by unfold ab; rw [if_neg (by omega)]
    rw [this]
  rw [sub_app, sub_cons, sub_inv fun x hx => (hg x hx).1, ei, he, inv_app]
  refine Fe.of_eq ?_
  simp
def endO (w : List Int) (e : Int) : Int := w.foldl (fun e l => swp l e) e
theorem cj_Sw {n : Int} : ∀ {w u : List Int} {e : Int}, Lw n w → Vd n u → 0 < e → e ≤ n → Cj n u e → Cj n (Sw w u) (endO w e) ∧ 0 < endO w e ∧ endO w e ≤ n
  | [], _, _, _, _, h0, h1, h => ⟨h, h0, h1⟩
  | l :: w, u, e, hl, hu, h0, h1, h => by
    have hl0 := hl l (by simp)
    have hw : Lw n w := fun x hx => hl x (by simp [hx])
    obtain ⟨a, b⟩ := swp_rng hl0 h0 h1
    exact cj_Sw (w := w) (u := sub l u) (e := swp l e) hw (sub_vd hl0 hu) a b (cj_step hl0 hu h0 h1 h)
theorem cj_ext {n e : Int} {u v : List Int} (h : Cj n u e) (f : Fe v u) : Cj n v e := by
  obtain ⟨g, hg, hf⟩ := h
  exact ⟨g, hg, f.trans hf⟩
def near (e x : Int) : Bool := decide (x = e) || decide (x = -e)
theorem drop_near (e : Int) : ∀ s : List Int, Fe (s.reverse ++ e :: inv s.reverse) ((s.dropWhile (near e)).reverse ++ e :: inv (s.dropWhile (near e)).reverse)
  | [] => Fe.refl
  | x :: s => by
    rw [List.dropWhile_cons]
    by_cases h : near e x = true
    · rw [if_pos h]
      refine Fe.trans ?_ (drop_near e s)
      have e1 : (x :: s).reverse ++ e :: inv (x :: s).reverse = s.reverse ++ ([x, e, -x] ++ inv s.reverse) := by simp [inv]
      have e2 : s.reverse ++ e :: inv s.reverse = s.reverse ++ ([e] ++ inv s.reverse) := by simp
      rw [e1, e2]
      refine Fe.app Fe.refl (Fe.app ?_ Fe.refl)
      unfold near at h
      simp at h
      rcases h with h | h
      · subst h
        exact fe_mid (u := [x]) (v := []) rfl
      · subst h
        have := fe_mid (u := []) (v := [e]) (a := -e) (b := e) (by omega)
        simpa using this
    · rw [if_neg h]; exact Fe.refl
theorem Red.neg : ∀ {s : List Int}, Red s → Red (s.map fun x => -x)
  | [], _ => trivial
  | [a], _ => trivial
  | a :: b :: s, h => ⟨by have := h.1; simp; omega, Red.neg (s := b :: s) h.2⟩
theorem Red.dropWhile {p : Int → Bool} : ∀ {s : List Int}, Red s → Red (s.dropWhile p)
  | [], _ => trivial
  | a :: s, h => by
    rw [List.dropWhile_cons]
    split
    · exact Red.dropWhile h.tail
    · exact h
theorem cj_shape {n e : Int} {u : List Int} (hr : Red u) (h : Cj n u e) : ∃ g, u = g ++ e :: inv g := by
  obtain ⟨g, hg, hf⟩ := h
  have h1 : Fe u (red g ++ e :: inv (red g)) := hf.trans (Fe.app (fe_red g).symm (show Fe ([e] ++ inv g) ([e] ++ inv (red g)) from Fe.app Fe.refl (fe_red g).symm.inv))
  have h2 : Fe u (((act [] g).dropWhile (near e)).reverse ++ e :: inv ((act [] g).dropWhile (near e)).reverse) := h1.trans (drop_near e (act [] g))
  refine ⟨_, red_unique hr ?_ h2⟩
  have hs : Red ((act [] g).dropWhile (near e)) := (act_red (s := []) trivial).dropWhile
  have hh : ∀ a ∈ ((act [] g).dropWhile (near e)).head?, near e a = false := fun a ha => by
    have := List.head?_dropWhile_not (near e) (act [] g)
    simp at ha
    rw [ha] at this
    simpa using this
  generalize (act [] g).dropWhile (near e) = s at hs hh
  have e0 : inv s.reverse = s.map fun x => -x := by simp [inv]
  rw [e0]
  refine Red.join hs ?_ ?_
  · cases s with
    | nil => trivial
    | cons a s =>
      have := hh a (by simp)
      unfold near at this
      simp at this
      refine ⟨by simp; omega, hs.neg⟩
  · intro a ha b hb
    simp at hb
    subst hb
    have := hh a ha
    unfold near at this
    simp at this
    omega
/-- the first and the last letter go, if inverse -/
def cst (w : List Int) : List Int := if 1 < w.length ∧ w.getD 0 0 = - w.getD (w.length - 1) 0 then (w.drop 1).take (w.length - 2) else w
def cstN : Nat → List Int → List Int
  | 0, w => w
  | k + 1, w => cstN k (cst w)
theorem cst_one {e : Int} : cst [e] = [e] := by simp [cst]
theorem cst_mid {a : Int} {w : List Int} (h : w ≠ []) : cst (a :: (w ++ [-a])) = w := by
  unfold cst
  rw [if_pos ⟨by simp, by rw [List.getD_eq_getElem?_getD, List.getD_eq_getElem?_getD]; simp⟩]
  simp
theorem cstN_one {e : Int} : ∀ k, cstN k [e] = [e]
  | 0 => rfl
  | k + 1 => by rw [cstN, cst_one]; exact cstN_one k
theorem cstN_cj {e : Int} : ∀ {g : List Int} {k : Nat}, g.length ≤ k → cstN k (g ++ e :: inv g) = [e]
  | [], k, _ => by
    show cstN k [e] = [e]
    exact cstN_one k
  | a :: g, 0, h => by simp at h
  | a :: g, k + 1, h => by
    have e1 : a :: g ++ e :: inv (a :: g) = a :: ((g ++ e :: inv g) ++ [-a]) := by simp [inv]
    rw [e1, cstN, cst_mid (by simp)]
    exact cstN_cj (by simpa using h)
theorem centre_ok {n : Int} {w : List Int} {x : Int} (hw : Lw n w) (h0 : 0 < x) (h1 : x ≤ n) : cstN (Mw w [x]).length (Mw w [x]) = [endO w x] := by
  have hv := vd1 h0 h1
  obtain ⟨hc, _, _⟩ := cj_Sw (u := [x]) hw hv h0 h1 ⟨[], by intro y hy; simp at hy, Fe.refl⟩
  obtain ⟨g, hg⟩ := cj_shape (Mw_Red (w := w) (u := [x]) trivial) (cj_ext hc (Mw_fe hw hv))
  generalize Mw w [x] = u at hg ⊢
  subst hg
  exact cstN_cj (by simp)
/-! the law's own way to cancel -/
def pls (w : List Int) : List Nat := (List.range' 1 (w.length - 1)).filter fun i => decide (w.getD i 0 = - w.getD (i - 1) 0)
def lst1 (w : List Int) : List Int := match (pls w).getLast? with
  | some i => w.take (i - 1) ++ w.drop (i + 1)
  | none => w
def lstN : Nat → List Int → List Int
  | 0, w => w
  | k + 1, w => lstN k (lst1 w)
theorem pls_mem {w : List Int} {i : Nat} (h : i ∈ pls w) : 1 ≤ i ∧ i < w.length ∧ w.getD i 0 = - w.getD (i - 1) 0 := by
  unfold pls at h
  rw [List.mem_filter, List.mem_range'] at h
  obtain ⟨⟨j, hj, rfl⟩, h2⟩ := h
  exact ⟨by omega, by omega, of_decide_eq_true h2⟩
theorem cut_eq : ∀ {w : List Int} {i : Nat}, 1 ≤ i → i < w.length → w = w.take (i - 1) ++ w.getD (i - 1) 0 :: w.getD i 0 :: w.drop (i + 1)
  | [], _, _, h => by simp at h
  | [a], i, h0, h => by simp at h; omega
  | a :: b :: w, 1, _, _ => by simp
  | a :: b :: w, i + 2, _, h => by
    have := cut_eq (w := b :: w) (i := i + 1) (by omega) (by simpa using h)
    simp at this ⊢
    exact this
theorem lst1_none {w : List Int} (h : pls w = []) : lst1 w = w := by unfold lst1; rw [h]; rfl
theorem lst1_some {w : List Int} (h : pls w ≠ []) : Fe (lst1 w) w ∧ (lst1 w).length + 2 = w.length := by
  unfold lst1
  cases e : (pls w).getLast? with
  | none => exact absurd (List.getLast?_eq_none_iff.mp e) h
  | some i =>
    obtain ⟨h0, h1, h2⟩ := pls_mem (List.mem_of_getLast? e)
    dsimp only
    have hc := cut_eq h0 h1
    refine ⟨?_, by rw [List.length_append, List.length_take, List.length_drop]; omega⟩
    have h3 : Fe w (w.take (i - 1) ++ w.drop (i + 1)) := by
      conv => lhs; rw [hc]
      exact fe_mid h2
    exact h3.symm
theorem pls_nil {w : List Int} (h : pls w = []) : Red w := Red.of_at fun i hi e => by
  have : i + 1 ∈ pls w := by
    unfold pls
    rw [List.mem_filter, List.mem_range']
    exact ⟨⟨i, by omega, by omega⟩, by simpa using e⟩
  rw [h] at this; simp at this
theorem lstN_ok : ∀ {k : Nat} {w : List Int}, w.length ≤ k → lstN k w = red w
  | 0, w, h => by
    have : w = [] := List.length_eq_zero_iff.mp (by omega)
    subst this; rfl
  | k + 1, w, h => by
    rw [lstN]
    by_cases hp : pls w = []
    · rw [lst1_none hp]
      by_cases hk : w.length ≤ k
      · exact lstN_ok hk
      · have : ∀ k, lstN k w = w := fun k => by
          induction k with
          | zero => rfl
          | succ k ih => rw [lstN, lst1_none hp, ih]
        rw [this, red_id (pls_nil hp)]
    · obtain ⟨h1, h2⟩ := lst1_some hp
      rw [lstN_ok (by omega), red_of_fe h1]
/-! matrices modulo a prime -/
structure M2 where
  a : Int
  b : Int
  c : Int
  d : Int
  deriving DecidableEq
def M2.one : M2 := ⟨1, 0, 0, 1⟩
def mulM (p : Int) (m n : M2) : M2 := ⟨(m.a * n.a + m.b * n.c) % p, (m.a * n.b + m.b * n.d) % p, (m.c * n.a + m.d * n.c) % p, (m.c * n.b + m.d * n.d) % p⟩
def invM (p : Int) (m : M2) : M2 := ⟨m.d, (-m.b) % p, (-m.c) % p, m.a⟩
structure Ok (p : Int) (m : M2) : Prop where
  a0 : 0 ≤ m.a
  a1 : m.a < p
  b0 : 0 ≤ m.b
  b1 : m.b < p
  c0 : 0 ≤ m.c
  c1 : m.c < p
  d0 : 0 ≤ m.d
  d1 : m.d < p
  det : (m.a * m.d - m.b * m.c) % p = 1
theorem md1 (p u v i k : Int) : (u % p * i + v % p * k) % p = (u * i + v * k) % p := by
  rw [Int.add_emod, Int.mul_emod, Int.emod_emod, ← Int.mul_emod, Int.mul_emod (v % p), Int.emod_emod, ← Int.mul_emod, ← Int.add_emod]
theorem md2 (p u v i k : Int) : (i * (u % p) + k * (v % p)) % p = (i * u + k * v) % p := by
  rw [Int.mul_comm i, Int.mul_comm k, md1, Int.mul_comm i, Int.mul_comm k]
theorem mulM_assoc (p : Int) (x y z : M2) : mulM p (mulM p x y) z = mulM p x (mulM p y z) := by
  unfold mulM
  simp only [md1, md2]
  congr 2 <;> grind
theorem md3 (p u v i k : Int) : (u % p * (i % p) - v % p * (k % p)) % p = (u * i - v * k) % p := by
  rw [Int.sub_emod, ← Int.mul_emod, ← Int.mul_emod, ← Int.sub_emod]
theorem Ok.mul {p : Int} (hp : 1 < p) {x y : M2} (hx : Ok p x) (hy : Ok p y) : Ok p (mulM p x y) := by
  have n := fun z : Int => Int.emod_nonneg z (show p ≠ 0 by omega)
  have l := fun z : Int => Int.emod_lt_of_pos z (show 0 < p by omega)
  refine ⟨n _, l _, n _, l _, n _, l _, n _, l _, ?_⟩
  show ((x.a * y.a + x.b * y.c) % p * ((x.c * y.b + x.d * y.d) % p) - (x.a * y.b + x.b * y.d) % p * ((x.c * y.a + x.d * y.c) % p)) % p = 1
  rw [md3]
  have e : (x.a * y.a + x.b * y.c) * (x.c * y.b + x.d * y.d) - (x.a * y.b + x.b * y.d) * (x.c * y.a + x.d * y.c) = (x.a * x.d - x.b * x.c) * (y.a * y.d - y.b * y.c) := by grind
  rw [e, Int.mul_emod, hx.det, hy.det]
  exact Int.emod_eq_of_lt (by omega) (by omega)
theorem Ok.inv {p : Int} (hp : 1 < p) {x : M2} (hx : Ok p x) : Ok p (invM p x) := by
  have n := fun z : Int => Int.emod_nonneg z (show p ≠ 0 by omega)
  have l := fun z : Int => Int.emod_lt_of_pos z (show 0 < p by omega)
  refine ⟨hx.d0, hx.d1, n _, l _, n _, l _, hx.a0, hx.a1, ?_⟩
  show (x.d * x.a - (-x.b) % p * ((-x.c) % p)) % p = 1
  have e : (x.d * x.a - (-x.b) % p * ((-x.c) % p)) % p = (x.a * x.d - x.b * x.c) % p := by
    rw [Int.sub_emod, ← Int.mul_emod, ← Int.sub_emod]
    congr 1
    grind
  rw [e, hx.det]
theorem Ok.one {p : Int} (hp : 1 < p) : Ok p M2.one := by
  refine ⟨by decide, hp, by decide, by show (0 : Int) < p; omega, by decide, by show (0 : Int) < p; omega, by decide, hp, ?_⟩
  show (1 * 1 - 0 * 0 : Int) % p = 1
  exact Int.emod_eq_of_lt (by omega) (by omega)
theorem md0 {p x : Int} (h0 : 0 ≤ x) (h1 : x < p) : x % p = x := Int.emod_eq_of_lt h0 h1
theorem one_mul {p : Int} {x : M2} (h : Ok p x) : mulM p M2.one x = x := by
  cases x with
  | mk a b c d =>
    simp only [mulM, M2.one, Int.one_mul, Int.zero_mul, Int.add_zero, Int.zero_add]
    rw [md0 h.a0 h.a1, md0 h.b0 h.b1, md0 h.c0 h.c1, md0 h.d0 h.d1]
theorem mul_one {p : Int} {x : M2} (h : Ok p x) : mulM p x M2.one = x := by
  cases x with
  | mk a b c d =>
    simp only [mulM, M2.one, Int.mul_one, Int.mul_zero, Int.add_zero, Int.zero_add]
    rw [md0 h.a0 h.a1, md0 h.b0 h.b1, md0 h.c0 h.c1, md0 h.d0 h.d1]
theorem mdn (p u v i k : Int) : (u * ((-i) % p) + v * k) % p = (v * k - u * i) % p := by
  rw [Int.add_emod, Int.mul_emod, Int.emod_emod, ← Int.mul_emod, ← Int.add_emod]; congr 1; grind
theorem mdn' (p u v i k : Int) : (u * i + v * ((-k) % p)) % p = (u * i - v * k) % p := by
  rw [Int.add_comm, mdn]
theorem mul_inv {p : Int} (hp : 1 < p) {x : M2} (h : Ok p x) : mulM p x (invM p x) = M2.one := by
  cases x with
  | mk a b c d =>
    simp only [mulM, invM, M2.one]
    have hd := h.det
    simp only at hd
    rw [mdn', mdn, mdn', mdn, hd]
    rw [show b * a - a * b = 0 by grind, show c * d - d * c = 0 by grind, show d * a - c * b = a * d - b * c by grind, hd]
    simp
theorem inv_inv_m {p : Int} {x : M2} (h : Ok p x) : invM p (invM p x) = x := by
  cases x with
  | mk a b c d =>
    simp only [invM]
    have e : ∀ y : Int, 0 ≤ y → y < p → (-((-y) % p)) % p = y := fun y h0 h1 => by
      have := mdn p (-1) 0 y 0
      rw [show (-1 : Int) * (-y % p) + 0 * 0 = -(-y % p) by omega, show (0 : Int) * 0 - (-1) * y = y by omega, md0 h0 h1] at this
      exact this
    rw [e b h.b0 h.b1, e c h.c0 h.c1]
theorem inv_mul_m {p : Int} {x : M2} (hp : 1 < p) (h : Ok p x) : mulM p (invM p x) x = M2.one := by
  have := mul_inv hp (h.inv hp)
  rwa [inv_inv_m h] at this
theorem inv_of_mul {p : Int} {x y : M2} (hp : 1 < p) (hx : Ok p x) (hy : Ok p y) : invM p (mulM p x y) = mulM p (invM p y) (invM p x) := by
  have hxy := hx.mul hp hy
  have ix := hx.inv hp
  have iy := hy.inv hp
  have h1 : mulM p (mulM p x y) (mulM p (invM p y) (invM p x)) = M2.one := by
    rw [mulM_assoc, ← mulM_assoc p y, mul_inv hp hy, one_mul ix, mul_inv hp hx]
  have h2 : mulM p (invM p (mulM p x y)) (mulM p (mulM p x y) (mulM p (invM p y) (invM p x))) = invM p (mulM p x y) := by
    rw [h1, mul_one (hxy.inv hp)]
  rw [← mulM_assoc, inv_mul_m hp hxy, one_mul (iy.mul hp ix)] at h2
  exact h2.symm
theorem inv_one_m {p : Int} (hp : 1 < p) : invM p M2.one = M2.one := by
  have := mul_inv hp (Ok.one hp)
  rw [one_mul ((Ok.one hp).inv hp)] at this
  exact this
/-- matrices for all generators -/
def Oks (p : Int) (ms : List M2) : Prop := ∀ m ∈ ms, Ok p m
def gm (ms : List M2) (x : Int) : M2 := ms.getD (x - 1).toNat M2.one
theorem gm_ok {p : Int} {ms : List M2} (hp : 1 < p) (h : Oks p ms) (x : Int) : Ok p (gm ms x) := by
  unfold gm
  rw [List.getD_eq_getElem?_getD]
  cases e : ms[(x - 1).toNat]? with
  | none => exact Ok.one hp
  | some m => exact h m (List.mem_of_getElem? e)
def lm (p : Int) (ms : List M2) (l : Int) : M2 := if l < 0 then invM p (gm ms (ab l)) else gm ms (ab l)
theorem lm_ok {p : Int} {ms : List M2} (hp : 1 < p) (h : Oks p ms) (l : Int) : Ok p (lm p ms l) := by
  unfold lm; split
  · exact (gm_ok hp h _).inv hp
  · exact gm_ok hp h _
def valF (p : Int) (ms : List M2) (m : M2) (w : List Int) : M2 := w.foldl (fun m l => mulM p m (lm p ms l)) m
def val (p : Int) (ms : List M2) (w : List Int) : M2 := valF p ms M2.one w
theorem valF_ok {p : Int} {ms : List M2} (hp : 1 < p) (h : Oks p ms) : ∀ {w : List Int} {m : M2}, Ok p m → Ok p (valF p ms m w)
  | [], _, hm => hm
  | l :: w, m, hm => valF_ok hp h (w := w) (hm.mul hp (lm_ok hp h l))
theorem val_ok {p : Int} {ms : List M2} (hp : 1 < p) (h : Oks p ms) {w : List Int} : Ok p (val p ms w) := valF_ok hp h (Ok.one hp)
theorem valF_mul {p : Int} {ms : List M2} (hp : 1 < p) (h : Oks p ms) : ∀ {w : List Int} {m : M2}, Ok p m → valF p ms m w = mulM p m (val p ms w)
  | [], m, hm => (mul_one hm).symm
  | l :: w, m, hm => by
    have hl := lm_ok hp h l
    show valF p ms (mulM p m (lm p ms l)) w = mulM p m (valF p ms (mulM p M2.one (lm p ms l)) w)
    rw [valF_mul hp h (hm.mul hp hl), valF_mul hp h ((Ok.one hp).mul hp hl), one_mul hl, mulM_assoc]
theorem val_app {p : Int} {ms : List M2} (hp : 1 < p) (h : Oks p ms) {u v : List Int} : val p ms (u ++ v) = mulM p (val p ms u) (val p ms v) := by
  have : val p ms (u ++ v) = valF p ms (val p ms u) v := by unfold val valF; rw [List.foldl_append]
  rw [this, valF_mul hp h (val_ok hp h)]
theorem val_one {p : Int} {ms : List M2} (hp : 1 < p) (h : Oks p ms) {l : Int} : val p ms [l] = lm p ms l := one_mul (lm_ok hp h l)
theorem lm_neg {p : Int} {ms : List M2} (hp : 1 < p) (h : Oks p ms) {l : Int} (h0 : l ≠ 0) : lm p ms (-l) = invM p (lm p ms l) := by
  unfold lm
  rw [ab_neg]
  by_cases hl : l < 0
  · rw [if_neg (by omega), if_pos hl, inv_inv_m (gm_ok hp h _)]
  · rw [if_pos (by omega), if_neg hl]
theorem val_inv {p : Int} {ms : List M2} (hp : 1 < p) (h : Oks p ms) : ∀ {u : List Int}, (∀ x ∈ u, x ≠ 0) → val p ms (inv u) = invM p (val p ms u)
  | [], _ => (inv_one_m hp).symm
  | a :: u, hu => by
    have e : inv (a :: u) = inv u ++ [-a] := by simp [inv]
    have e2 : (a :: u) = [a] ++ u := rfl
    rw [e, e2, val_app hp h, val_app hp h, val_inv hp h fun x hx => hu x (by simp [hx]), val_one hp h, val_one hp h, lm_neg hp h (hu a (by simp)), inv_of_mul hp (lm_ok hp h a) (val_ok hp h)]
theorem val_red {n p : Int} {ms : List M2} (hp : 1 < p) (h : Oks p ms) {w : List Int} (hw : Vd n w) : val p ms (red w) = val p ms w :=
  (red_rel (R := fun u v => Vd n v → Vd n u ∧ val p ms u = val p ms v) (fun _ h => ⟨h, rfl⟩) (fun _ _ _ h h' z => ⟨(h (h' z).1).1, (h (h' z).1).2.trans (h' z).2⟩) (fun u a b v e z => by
    have z0 := z
    rw [Vd.app] at z
    refine ⟨Vd.app.mpr ⟨z.1, fun x hx => z.2 x (by simp [hx])⟩, ?_⟩
    have e2 : a :: b :: v = [a] ++ ([b] ++ v) := rfl
    rw [e2, val_app hp h, val_app hp h, val_app hp h, val_app hp h, val_one hp h, val_one hp h, e, lm_neg hp h (z.2 a (by simp)).1, ← mulM_assoc p (lm p ms a), mul_inv hp (lm_ok hp h a), one_mul (val_ok hp h)]) w hw).2
theorem val_fe {n p : Int} {ms : List M2} (hp : 1 < p) (h : Oks p ms) {u v : List Int} (hu : Vd n u) (hv : Vd n v) (f : Fe u v) : val p ms u = val p ms v := by
  rw [← val_red hp h hu, red_of_fe f, val_red hp h hv]
/-- the matrices, moved by a letter -/
def stp (p : Int) (l : Int) (ms : List M2) : List M2 :=
  if l > 0 then (ms.set (ab l - 1).toNat (mulM p (mulM p (gm ms (ab l)) (gm ms (ab l + 1))) (invM p (gm ms (ab l))))).set (ab l).toNat (gm ms (ab l))
  else (ms.set (ab l - 1).toNat (gm ms (ab l + 1))).set (ab l).toNat (mulM p (mulM p (invM p (gm ms (ab l + 1))) (gm ms (ab l))) (gm ms (ab l + 1)))
def tup (p : Int) (w : List Int) (ms : List M2) : List M2 := w.foldr (stp p) ms
theorem stp_len {p l : Int} {ms : List M2} : (stp p l ms).length = ms.length := by unfold stp; split <;> simp
theorem tup_len {p : Int} {w : List Int} {ms : List M2} : (tup p w ms).length = ms.length := by
  induction w with
  | nil => rfl
  | cons l w ih =>
    show (stp p l (tup p w ms)).length = _
    rw [stp_len, ih]
theorem oks_set {p : Int} {ms : List M2} {k : Nat} {m : M2} (h : Oks p ms) (hm : Ok p m) : Oks p (ms.set k m) := fun x hx => by
  rcases List.mem_or_eq_of_mem_set hx with hx | hx
  · exact h x hx
  · subst hx; exact hm
theorem stp_ok {p l : Int} {ms : List M2} (hp : 1 < p) (h : Oks p ms) : Oks p (stp p l ms) := by
  have g := fun x => gm_ok hp h x
  unfold stp
  split
  · exact oks_set (oks_set h (((g _).mul hp (g _)).mul hp ((g _).inv hp))) (g _)
  · exact oks_set (oks_set h (g _)) ((((g _).inv hp).mul hp (g _)).mul hp (g _))
theorem tup_ok {p : Int} {w : List Int} {ms : List M2} (hp : 1 < p) (h : Oks p ms) : Oks p (tup p w ms) := by
  induction w with
  | nil => exact h
  | cons l w ih => exact stp_ok hp ih
theorem gm_set_ne {ms : List M2} {k : Nat} {m : M2} {x : Int} (h : k ≠ (x - 1).toNat) : gm (ms.set k m) x = gm ms x := by
  unfold gm
  rw [List.getD_eq_getElem?_getD, List.getD_eq_getElem?_getD, List.getElem?_set_ne h]
theorem gm_set_eq {ms : List M2} {k : Nat} {m : M2} {x : Int} (h : k = (x - 1).toNat) (hk : k < ms.length) : gm (ms.set k m) x = m := by
  unfold gm
  rw [List.getD_eq_getElem?_getD, ← h, List.getElem?_set_self hk]; rfl
theorem lm_pos {p : Int} {ms : List M2} {x : Int} (h : 0 < x) : lm p ms x = gm ms x := by
  unfold lm ab; rw [if_neg (by omega), if_neg (by omega)]
theorem val_fl {n p l x : Int} {ms : List M2} (hp : 1 < p) (h : Oks p ms) (hn : (ms.length : Int) = n) (hl : Lt n l) (h0 : 0 < x) (h1 : x ≤ n) : val p ms (fl l x) = gm (stp p l ms) x := by
  have a0 := ab_pos hl.1
  have a1 := hl.2
  have g := fun x => gm_ok hp h x
  have two : ∀ a b : Int, val p ms [a, b] = mulM p (val p ms [a]) (val p ms [b]) := fun a b => val_app hp h (u := [a]) (v := [b])
  have three : ∀ a b c : Int, val p ms [a, b, c] = mulM p (mulM p (val p ms [a]) (val p ms [b])) (val p ms [c]) := fun a b c => by
    rw [← two, ← val_app hp h]; rfl
  have nl : ∀ y : Int, 0 < y → lm p ms (-y) = invM p (gm ms y) := fun y hy => by rw [lm_neg hp h (by omega), lm_pos hy]
  unfold fl stp
  by_cases e1 : x = ab l
  · by_cases e2 : l > 0
    · rw [if_pos ⟨e2, e1⟩, if_pos e2, three, val_one hp h, val_one hp h, val_one hp h, lm_pos a0, lm_pos (by omega), nl _ a0, gm_set_ne (by omega), gm_set_eq (by omega) (by omega)]
    · rw [if_neg (by omega), if_neg (by omega), if_pos e1, if_neg e2, val_one hp h, lm_pos (by omega), gm_set_ne (by omega), gm_set_eq (by omega) (by omega)]
  · by_cases e3 : x = ab l + 1
    · by_cases e2 : l > 0
      · rw [if_neg (by omega), if_pos ⟨e2, e3⟩, if_pos e2, val_one hp h, lm_pos a0, gm_set_eq (by omega) (by rw [List.length_set]; omega)]
      · rw [if_neg (by omega), if_neg (by omega), if_neg e1, if_pos e3, if_neg e2, three, val_one hp h, val_one hp h, val_one hp h, show -ab l - 1 = -(ab l + 1) by omega, nl _ (by omega), lm_pos a0, lm_pos (by omega), gm_set_eq (by omega) (by rw [List.length_set]; omega)]
    · rw [if_neg (by omega), if_neg (by omega), if_neg e1, if_neg e3, val_one hp h, lm_pos h0]
      split
      · rw [gm_set_ne (by omega), gm_set_ne (by omega)]
      · rw [gm_set_ne (by omega), gm_set_ne (by omega)]
theorem val_sub {n p l : Int} {ms : List M2} (hp : 1 < p) (h : Oks p ms) (hn : (ms.length : Int) = n) (hl : Lt n l) : ∀ {u : List Int}, Vd n u → val p ms (sub l u) = val p (stp p l ms) u
  | [], _ => rfl
  | a :: u, hu => by
    have h' := stp_ok (l := l) hp h
    obtain ⟨b0, b1⟩ := hu a (by simp)
    have e2 : (a :: u) = [a] ++ u := rfl
    rw [sub_cons, val_app hp h, val_sub hp h hn hl fun x hx => hu x (by simp [hx]), e2, val_app hp h', val_one hp h']
    congr 1
    have key := val_fl hp h hn hl (ab_pos b0) b1
    unfold img lm
    split
    · rw [val_inv hp h fun x hx => (fl_vd hl (ab_pos b0) b1 x hx).1, key]
    · exact key
theorem val_Sw {n p : Int} {ms : List M2} (hp : 1 < p) (h : Oks p ms) (hn : (ms.length : Int) = n) : ∀ {w u : List Int}, Lw n w → Vd n u → val p ms (Sw w u) = val p (tup p w ms) u
  | [], _, _, _ => rfl
  | l :: w, u, hl, hu => by
    have hl0 := hl l (by simp)
    have hw : Lw n w := fun x hx => hl x (by simp [hx])
    rw [Sw_cons, val_Sw hp h hn hw (sub_vd hl0 hu)]
    exact val_sub hp (tup_ok hp h) (by rw [tup_len]; exact hn) hl0 hu
theorem val_Mw {n p x : Int} {w : List Int} {ms : List M2} (hp : 1 < p) (h : Oks p ms) (hn : (ms.length : Int) = n) (hw : Lw n w) (h0 : 0 < x) (h1 : x ≤ n) : val p ms (Mw w [x]) = gm (tup p w ms) x := by
  have hv := vd1 h0 h1
  rw [val_fe hp h (Mw_vd hw hv) (Sw_vd hw hv) (Mw_fe hw hv), val_Sw hp h hn hw hv, val_one hp (tup_ok hp h), lm_pos h0]
end F07

set_option Elab.async false
set_option linter.all false
set_option maxRecDepth 100000
set_option maxHeartbeats 4000000
namespace Gk07
open PySem PySem.Spec L2 SL F07
open PyProof.Rows hiding St
theorem ixs {st : Store} {k : Int} {l : List A} {v : A} (h0 : 0 ≤ k) (h : l[k.toNat]? = some v) : ixOp (.lst l) (.int k) st = some (v, st) := ixOp_at rfl (atI_of h0 h)
theorem ixt {st : Store} {k : Int} {l : List A} {v : A} (h0 : 0 ≤ k) (h : l[k.toNat]? = some v) : ixOp (.tup l) (.int k) st = some (v, st) := ixOp_at rfl (atI_of h0 h)
theorem addI_l {st : Store} {a b : List Int} (h : a.length + b.length < 1000000) : addOp false (.lst (a.map A.int)) (.lst (b.map A.int)) st = some (.lst ((a ++ b).map A.int), st) := by
  have hz := sz
  rw [addOp_l (by simp; omega), List.map_append]
theorem slt {st : Store} {w : List Int} {k : Int} (h0 : 0 ≤ k) (h1 : k ≤ w.length) : slOp false (.lst (w.map A.int)) none (some k) st = some (.lst ((w.take k.toNat).map A.int), st) := by
  rw [sl_take h0 (by simpa using h1), List.map_take]
theorem sld {st : Store} {w : List Int} {k : Int} (h0 : 0 ≤ k) (h1 : k ≤ w.length) : slOp false (.lst (w.map A.int)) (some k) none st = some (.lst ((w.drop k.toNat).map A.int), st) := by
  rw [sl_drop h0 (by simpa using h1), List.map_drop]
theorem absA_ab {i : Int} {st : Store} : absA (.int i) st = some (.int (ab i), st) := rfl
theorem bel_str {n : Nat} {x : Str} : (A.str x).bel n = true := by simp [A.bel]
theorem tkA {st : Store} {l : List C} {c : Nat} {ds : List Int} {n : Int} (h : c < st.length) (hn : 0 < n) : ∃ d ds', 0 ≤ d ∧ d < n ∧ M__law_take [.cell c, .int n] (st.set c (li ds) ++ l) = .ok (.int d) (st.set c (li ds') ++ l) := by
  have h0 : (st.set c (li ds) ++ l)[c]? = some (li ds) := by
    rw [List.getElem?_append_left (by simpa using h), List.getElem?_set_self h]
  obtain ⟨d, ds', h1, h2, h3⟩ := take_spec h0 hn
  refine ⟨d, ds', h1, h2, ?_⟩
  rw [h3, List.set_append_left _ _ (by simpa using h), List.set_set]
theorem tk0 {st : Store} {c : Nat} {ds : List Int} {n : Int} (h : c < st.length) (hn : 0 < n) : ∃ d ds', 0 ≤ d ∧ d < n ∧ M__law_take [.cell c, .int n] (st.set c (li ds)) = .ok (.int d) (st.set c (li ds')) := by
  have := tkA (l := []) (ds := ds) h hn
  simpa using this
theorem fin_set {st : Store} {c : Nat} {ds : List Int} {a : A} {l : List C} (h : a.bel st.length = true) (hc : ∀ c, a ≠ .cell c) : finA false st.length st a (st.set c (li ds) ++ l) = .ok a (st.set c (li ds)) :=
  finA_set h hc (bel_ints _ _)
theorem fin_set0 {st : Store} {c : Nat} {ds : List Int} {a : A} (h : a.bel st.length = true) (hc : ∀ c, a ≠ .cell c) : finA false st.length st a (st.set c (li ds)) = .ok a (st.set c (li ds)) := by
  have := fin_set (l := []) (st := st) (c := c) (ds := ds) h hc
  simpa using this
theorem neg_ix {st : Store} {a : A} {w : List Int} {k : Nat} (hs : seqR a st = some (w.map A.int)) (h : k < w.length) : ixOp a (.int (-((k : Int) + 1))) st = some (.int (w.getD (w.length - 1 - k) 0), st) := by
  refine ixOp_at hs ?_
  unfold atI ixN
  rw [List.length_map, if_neg (by omega), if_pos (by omega)]
  show (w.map A.int)[_]? = _
  rw [show (-((k : Int) + 1) + (w.length : Int)).toNat = w.length - 1 - k by omega]
  exact get_getD (by omega)
theorem small_mulI {a b : Int} (h : a.natAbs < 2 ^ 20) (h' : b.natAbs < 2 ^ 20) : CMulW a b := wide_mul h h' (by decide) (by decide) (by decide)
theorem finA_lstW {st s : Store} {n : Nat} {zs : List A} (hn : st.length ≤ n) (h : s[n]? = some (.lst zs)) (hb : belowL st.length zs = true) (hok : okS st.length st s) : finA false st.length st (.cell n) s = .ok (.lst zs) (s.take st.length) := by
  have hnb : A.bel st.length (.cell n) = false := by simp [A.bel]; omega
  have e2 : ∀ (k : Nat) (ys : List A) (s : Store), belowL st.length ys = true → frzL (frzA st.length k) ys s = some (ys, s) := by
    intro k ys
    induction ys with
    | nil => intro s _; rfl
    | cons y ys ih =>
      intro s hb
      rw [belowL, Bool.and_eq_true] at hb
      unfold frzL
      have e : frzA st.length k y s = some (y, s) := by cases k <;> (unfold frzA; rw [if_pos hb.1])
      rw [e]
      dsimp only
      rw [ih s hb.2]
  have e : frzA st.length 8 (.cell n) s = some (.lst zs, s.set n .dead) := by
    unfold frzA
    rw [if_neg (by rw [hnb]; decide)]
    dsimp only
    rw [h]
    dsimp only
    rw [e2 _ _ _ hb]
    rfl
  have hok' : okS st.length st (s.set n .dead) := fun i hi => by
    rw [List.getElem?_set_ne (by omega)]; exact hok i hi
  unfold finA
  dsimp only
  rw [e]
  dsimp only
  rw [if_pos ⟨by simp only [A.bel]; exact hb, hok'⟩]
  congr 1
  rw [List.take_set_of_le (by omega)]
/-- a new list of numbers goes out, the draws having moved on -/
theorem fin_draw {st : Store} {c : Nat} {ds ds' zs : List Int} {l : List C} {n : Nat} (hn : st.length ≤ n) (h : (st.set c (li ds') ++ l)[n]? = some (li zs)) : finA false (st.set c (li ds)).length (st.set c (li ds)) (.cell n) (st.set c (li ds') ++ l) = .ok (lI zs) (st.set c (li ds')) := by
  have hok : okS (st.set c (li ds)).length (st.set c (li ds)) (st.set c (li ds') ++ l) := by
    have := okS_set (st := st.set c (li ds)) (c := c) (k := li ds') (l := l) (bel_ints _ _)
    rwa [List.set_set] at this
  rw [finA_lstW (zs := zs.map A.int) (by simpa using hn) h (bel_ints _ _) hok]
  congr 1
  have : (st.set c (li ds)).length = (st.set c (li ds')).length := by simp
  rw [this, List.take_left]
/-- a value without cells goes out, the draws having moved on -/
theorem fin_draw0 {st : Store} {c : Nat} {ds ds' : List Int} {a : A} (h : a.bel st.length = true) (hc : ∀ c, a ≠ .cell c) : finA false (st.set c (li ds)).length (st.set c (li ds)) a (st.set c (li ds')) = .ok a (st.set c (li ds')) := by
  have := finA_set (rc := false) (st := st.set c (li ds)) (a := a) (l := []) (c := c) (k := li ds') (by simpa using h) hc (bel_ints _ _)
  simpa using this
theorem rng1' {ms : AEnv → Store → Res (List A)} {env : AEnv} {st st' : Store} {n : Nat} (hn : n < 1000000) (h : ms env st = .ok [.int (n : Int)] st') : mRng1 ms env st = .ok (((List.range n).map fun i => ((i : Nat) : Int)).map A.int, none) st' := by
  simp only [mRng1, h, Res.bind_ok]; rw [if_pos ⟨by omega, by omega⟩, rgA_ints]
theorem rng_get {q i : Nat} {a : A} (h : (((List.range q).map fun i => ((i : Nat) : Int)).map A.int)[i]? = some a) : i < q ∧ a = .int (i : Int) := by
  rw [List.getElem?_map, List.getElem?_map] at h
  by_cases hj : i < q
  · rw [List.getElem?_range hj] at h; cases h; exact ⟨hj, rfl⟩
  · rw [List.getElem?_eq_none (by simp; omega)] at h; cases h
end Gk07

set_option Elab.async false
set_option linter.all false
set_option maxRecDepth 100000
set_option maxHeartbeats 4000000
namespace Gk07
open PySem PySem.Spec L2 SL F07
open PyProof.Rows hiding St
abbrev bo (n : Int) (w : List Int) : A := .obj "Braid" ["strands", "word"] [.int n, lI w]
def ok1 (n x : Int) : Prop := x ≠ 0 ∧ ab x < n
instance (n x : Int) : Decidable (ok1 n x) := by unfold ok1; infer_instance
def good (n : Int) (w : List Int) : Prop := ∀ x ∈ w, ok1 n x
instance (n : Int) (w : List Int) : Decidable (good n w) := by unfold good; infer_instance
def bErr (n : Int) (w : List Int) : Option (Str × Str) :=
  if ¬ (1 ≤ n ∧ n ≤ 8) then some ("InvalidBraid", "strands") else if ¬ good n w then some ("InvalidBraid", "word") else if w.length > 2000 then some ("TooMany", "letters") else none
def exW (c m : Str) : Exc := ⟨c, ["what"], [.str m]⟩
section
variable {st : Store} {n : Int} {w : List Int}
theorem fld_s : fldOp ["Braid"] "strands" (bo n w) st = some (.int n, st) := by
  have h : ((["strands", "word"] : List Str).zip [A.int n, lI w]).lookup ("strands" : Str) = some (A.int n) := by rw [List.zip_cons_cons, List.lookup_cons]; rfl
  simp only [fldOp, insA]
  rw [if_pos (by simp), h]; rfl
theorem fld_w : fldOp ["Braid"] "word" (bo n w) st = some (lI w, st) := by
  have h : ((["strands", "word"] : List Str).zip [A.int n, lI w]).lookup ("word" : Str) = some (lI w) := by
    rw [List.zip_cons_cons, List.lookup_cons, show (("word" : Str) == "strands") = false by decide, List.zip_cons_cons, List.lookup_cons]; rfl
  simp only [fldOp, insA]
  rw [if_pos (by simp), h]; rfl
theorem eq00 {x : Int} : eqOp (.int x) (.int 0) st = some (.bl (decide (x = 0)), st) := eqOp_ii
theorem ln_s : Str.length "strands" < 1000 := by decide
theorem ln_w : Str.length "word" < 1000 := by decide
theorem ln_l : Str.length "letters" < 1000 := by decide
/-- the walk over the letters -/
theorem letters_sp {src : Src} {all : List A} {x0 x2 : Option A} : ∀ (w : List Int) (x3 : Option A), srcOk src all st → (good n w → ∃ y3, forL src all (gN 3) L1_Braid___init__ (w.map A.int) [x0, some (.int n), x2, x3] st = .nx [x0, some (.int n), x2, y3] st) ∧
    (¬ good n w → ∃ e, forL src all (gN 3) L1_Braid___init__ (w.map A.int) [x0, some (.int n), x2, x3] st = .exc (exW "InvalidBraid" "word") e st)
  | [], x3, hs => ⟨fun _ => ⟨x3, by rw [List.map_nil, forL, if_pos hs]⟩, fun h => absurd (by intro x hx; cases hx) h⟩
  | x :: w, x3, hs => by
    obtain ⟨ih1, ih2⟩ := letters_sp w (some (.int x)) hs
    have step : forL src all (gN 3) L1_Braid___init__ ((x :: w).map A.int) [x0, some (.int n), x2, x3] st = (match L1_Braid___init__ [x0, some (.int n), x2, some (.int x)] st with
      | .nx e s => forL src all (gN 3) L1_Braid___init__ (w.map A.int) e s
      | .ct e s => forL src all (gN 3) L1_Braid___init__ (w.map A.int) e s
      | .bk e s => .nx e s
      | r => r) := by
      rw [List.map_cons, forL, if_pos hs]; rfl
    rw [step]
    have ln := ln_w
    by_cases h0 : x = 0
    · have hb : L1_Braid___init__ [x0, some (.int n), x2, some (.int x)] st = .exc (exW "InvalidBraid" "word") [x0, some (.int n), x2, some (.int x)] st := by
        simp only [L1_Braid___init__, sSeq_ap, sAsg_ap, sEx_ap, sRet_ap, sRetN_ap, sNil_ap, sIf_ap, sFor_ap, sSub_ap, sRaise_ap, mkWhat_ap, eVar_ap, eC_ap, eBin_ap, eUn_ap, eTup_ap, eLst_ap, eCB_ap, eCall_ap, eM_ap, eIf_ap, eAndV_ap, eOrV_ap, eNotV_ap, eChain_ap, eSl_ap, oNone_ap, oSome_ap, eXf_ap, aNil_ap, aCons_ap, tOf_ap, tTru_ap, tAndM_ap, tOrM_ap, tNotM_ap, tYesM_ap, asB_bl, truA_b, Res.bind_ok, Res.bind_exc, Res.toS_ok, Res.toS_exc, Res.of_some, SRes.bind_nx, SRes.bind_rt, SRes.bind_exc, SRes.bind_ct, SRes.bind_bk, gN_ap, List.getElem?_cons_zero, List.getElem?_cons_succ, List.set_cons_zero, List.set_cons_succ, one1_ap, two2_ap, newL_f, newL_t, addOp_ii, subOp_ii, negOp_i, ltOp_ii, leOp_ii, gtOp_ii, geOp_ii, eqOp_ii, neOp_ii, eqOp_ss, neOp_ss, intA_i, intA_b, maxA_ii, minA_ii, lenA_lst, lenA_tup, lenA_slst, listA_lst, listA_tup, listA_slst, tupleA_lst, tupleA_tup, List.length_map, List.length_cons, List.length_nil, Bool.not_true, Bool.not_false, Bool.false_eq_true, if_true, if_false, Nat.zero_add, Nat.reduceAdd, decide_eq_true h0, ln, exW]
      rw [hb]
      exact ⟨fun h => absurd h0 (h x (by simp)).1, fun _ => ⟨_, rfl⟩⟩
    · by_cases h1 : ab x ≥ n
      · have hb : L1_Braid___init__ [x0, some (.int n), x2, some (.int x)] st = .exc (exW "InvalidBraid" "word") [x0, some (.int n), x2, some (.int x)] st := by
          simp only [L1_Braid___init__, sSeq_ap, sAsg_ap, sEx_ap, sRet_ap, sRetN_ap, sNil_ap, sIf_ap, sFor_ap, sSub_ap, sRaise_ap, mkWhat_ap, eVar_ap, eC_ap, eBin_ap, eUn_ap, eTup_ap, eLst_ap, eCB_ap, eCall_ap, eM_ap, eIf_ap, eAndV_ap, eOrV_ap, eNotV_ap, eChain_ap, eSl_ap, oNone_ap, oSome_ap, eXf_ap, aNil_ap, aCons_ap, tOf_ap, tTru_ap, tAndM_ap, tOrM_ap, tNotM_ap, tYesM_ap, asB_bl, truA_b, Res.bind_ok, Res.bind_exc, Res.toS_ok, Res.toS_exc, Res.of_some, SRes.bind_nx, SRes.bind_rt, SRes.bind_exc, SRes.bind_ct, SRes.bind_bk, gN_ap, List.getElem?_cons_zero, List.getElem?_cons_succ, List.set_cons_zero, List.set_cons_succ, one1_ap, two2_ap, newL_f, newL_t, addOp_ii, subOp_ii, negOp_i, ltOp_ii, leOp_ii, gtOp_ii, geOp_ii, eqOp_ii, neOp_ii, eqOp_ss, neOp_ss, intA_i, intA_b, maxA_ii, minA_ii, lenA_lst, lenA_tup, lenA_slst, listA_lst, listA_tup, listA_slst, tupleA_lst, tupleA_tup, List.length_map, List.length_cons, List.length_nil, Bool.not_true, Bool.not_false, Bool.false_eq_true, if_true, if_false, Nat.zero_add, Nat.reduceAdd, decide_eq_false h0, absA_ab, decide_eq_true h1, ln, exW]
        rw [hb]
        exact ⟨fun h => absurd (h x (by simp)).2 (by omega), fun _ => ⟨_, rfl⟩⟩
      · have hb : L1_Braid___init__ [x0, some (.int n), x2, some (.int x)] st = .nx [x0, some (.int n), x2, some (.int x)] st := by
          simp only [L1_Braid___init__, sSeq_ap, sAsg_ap, sEx_ap, sRet_ap, sRetN_ap, sNil_ap, sIf_ap, sFor_ap, sSub_ap, sRaise_ap, mkWhat_ap, eVar_ap, eC_ap, eBin_ap, eUn_ap, eTup_ap, eLst_ap, eCB_ap, eCall_ap, eM_ap, eIf_ap, eAndV_ap, eOrV_ap, eNotV_ap, eChain_ap, eSl_ap, oNone_ap, oSome_ap, eXf_ap, aNil_ap, aCons_ap, tOf_ap, tTru_ap, tAndM_ap, tOrM_ap, tNotM_ap, tYesM_ap, asB_bl, truA_b, Res.bind_ok, Res.bind_exc, Res.toS_ok, Res.toS_exc, Res.of_some, SRes.bind_nx, SRes.bind_rt, SRes.bind_exc, SRes.bind_ct, SRes.bind_bk, gN_ap, List.getElem?_cons_zero, List.getElem?_cons_succ, List.set_cons_zero, List.set_cons_succ, one1_ap, two2_ap, newL_f, newL_t, addOp_ii, subOp_ii, negOp_i, ltOp_ii, leOp_ii, gtOp_ii, geOp_ii, eqOp_ii, neOp_ii, eqOp_ss, neOp_ss, intA_i, intA_b, maxA_ii, minA_ii, lenA_lst, lenA_tup, lenA_slst, listA_lst, listA_tup, listA_slst, tupleA_lst, tupleA_tup, List.length_map, List.length_cons, List.length_nil, Bool.not_true, Bool.not_false, Bool.false_eq_true, if_true, if_false, Nat.zero_add, Nat.reduceAdd, decide_eq_false h0, absA_ab, decide_eq_false h1]
        rw [hb]
        have hx : ok1 n x := ⟨h0, by omega⟩
        refine ⟨fun h => ih1 fun y hy => h y (by simp [hy]), fun h => ih2 fun h2 => h fun y hy => ?_⟩
        rcases List.mem_cons.mp hy with rfl | hy
        · exact hx
        · exact h2 y hy
theorem fset {k : Nat} {ns : List Str} {xs : List A} {f : Str} {v : A} (h : st[k]? = some (.obj "Braid" ns xs)) (hl : xs.length < 1000) : fldSet ["Braid"] f (.cell k) v st = some (st.set k (.obj "Braid" (putN f v ns xs).1 (putN f v ns xs).2)) := by
  simp only [fldSet, h]
  rw [if_pos ⟨by simp, hl⟩]
theorem seq_len {wv : A} (h : seqR wv st = some (w.map A.int)) : lenA wv st = some (.int w.length, st) := by
  cases wv <;> first | (simp [seqR, tupR, lstR, lstH] at h; done) | (simp only [lenA, h]; simp; done)
theorem seq_later {wv : A} {d : C} (h : seqR wv st = some (w.map A.int)) : seqR wv (st ++ [d]) = some (w.map A.int) := by
  cases wv with
  | cell c =>
    have hc : c < st.length := by
      by_cases hl : c < st.length
      · exact hl
      · simp [seqR, tupR, lstR, lstH, List.getElem?_eq_none (show st.length ≤ c by omega)] at h
    simpa [seqR, tupR, lstR, lstH, List.getElem?_append_left hc] using h
  | _ => exact h
theorem src_later {wv : A} {all : List A} (h : seqR wv st = some (w.map A.int)) : srcOk (srcOf wv (w.map A.int)) all st := by
  cases wv with
  | cell c =>
    show st[c]? = some (.lst (w.map A.int))
    simp only [seqR, tupR, lstR, lstH, Option.none_or] at h
    cases e : st[c]? with
    | none => rw [e] at h; cases h
    | some d =>
      rw [e] at h
      cases d with
      | lst xs => simp at h; rw [h]
      | _ => simp at h
  | _ => trivial
/-- __init__ -/
def outB (n : Int) (w : List Int) (st : Store) : Res A := match bErr n w with
  | some (c, m) => .exc (exW c m) st
  | none => .ok (bo n w) st
theorem make_sp {wv : A} (h : seqR wv st = some (w.map A.int)) (hl : w.length < 1000000) : mkIns "Braid" M_Braid___init__ [.int n, wv] st = outB n w st := by
  have hz := sz
  have ls := ln_s
  have lw := ln_w
  have ll := ln_l
  have h1 := @seq_later st w wv (.obj "Braid" [] []) h
  have hk : (st ++ [C.obj "Braid" [] []])[st.length]? = some (.obj "Braid" [] []) := get_app_len rfl
  have bel0 : belowL st.length (exW "InvalidBraid" "strands").vs = true := rfl
  generalize hS : st ++ [C.obj "Braid" [] []] = S at h1 hk
  have exc : ∀ (c m : Str) (e : AEnv), B_Braid___init__ [some (.cell st.length), some (.int n), some wv, none] S = .exc (exW c m) e S → mkIns "Braid" M_Braid___init__ [.int n, wv] st = .exc (exW c m) st := fun c m e hb => by
    refine mkIns_exc (d := .obj "Braid" [] []) ?_ (by simp [exW, belowL, A.bel])
    rw [hS]
    exact fnM_exc0 rfl hb (by simp [exW, belowL, A.bel])
  unfold outB bErr
  by_cases h1n : 1 ≤ n
  · by_cases h8 : n ≤ 8
    · rw [if_neg (by omega)]
      obtain ⟨g1, g2⟩ := @letters_sp S n (srcOf wv (w.map A.int)) (w.map A.int) (some (.cell st.length)) (some wv) w none (src_later h1)
      by_cases hg : good n w
      · rw [if_neg (by simpa using hg)]
        obtain ⟨y3, g3⟩ := g1 hg
        have len := seq_len h1
        by_cases hl2 : (w.length : Int) > 2000
        · rw [if_pos (by omega)]
          refine exc _ _ [some (.cell st.length), some (.int n), some wv, y3] ?_
          simp only [B_Braid___init__, sSeq_ap, sAsg_ap, sEx_ap, sRet_ap, sRetN_ap, sNil_ap, sIf_ap, sFor_ap, sSub_ap, sRaise_ap, mkWhat_ap, eVar_ap, eC_ap, eBin_ap, eUn_ap, eTup_ap, eLst_ap, eCB_ap, eCall_ap, eM_ap, eIf_ap, eAndV_ap, eOrV_ap, eNotV_ap, eChain_ap, eSl_ap, oNone_ap, oSome_ap, eXf_ap, aNil_ap, aCons_ap, tOf_ap, tTru_ap, tAndM_ap, tOrM_ap, tNotM_ap, tYesM_ap, asB_bl, truA_b, Res.bind_ok, Res.bind_exc, Res.toS_ok, Res.toS_exc, Res.of_some, SRes.bind_nx, SRes.bind_rt, SRes.bind_exc, SRes.bind_ct, SRes.bind_bk, gN_ap, List.getElem?_cons_zero, List.getElem?_cons_succ, List.set_cons_zero, List.set_cons_succ, one1_ap, two2_ap, newL_f, newL_t, addOp_ii, subOp_ii, negOp_i, ltOp_ii, leOp_ii, gtOp_ii, geOp_ii, eqOp_ii, neOp_ii, eqOp_ss, neOp_ss, intA_i, intA_b, maxA_ii, minA_ii, lenA_lst, lenA_tup, lenA_slst, listA_lst, listA_tup, listA_slst, tupleA_lst, tupleA_tup, List.length_map, List.length_cons, List.length_nil, Bool.not_true, Bool.not_false, Bool.false_eq_true, if_true, if_false, Nat.zero_add, Nat.reduceAdd, decide_eq_true h1n, decide_eq_true h8, mSeq_ap, h1, g3, len, decide_eq_true hl2, ll, exW]
        · rw [if_neg (by omega)]
          have f1 := @fset S st.length [] [] "strands" (.int n) hk (by simp)
          have hk2 : (S.set st.length (.obj "Braid" ["strands"] [.int n]))[st.length]? = some (.obj "Braid" ["strands"] [.int n]) := List.getElem?_set_self (List.getElem?_eq_some_iff.mp hk).1
          have f2 := @fset _ st.length ["strands"] [.int n] "word" (lI w) hk2 (by simp)
          have hp1 : putN "strands" (.int n) [] [] = ((["strands"] : List Str), ([.int n] : List A)) := rfl
          have hp2 : putN "word" (lI w) ["strands"] [.int n] = ((["strands", "word"] : List Str), ([.int n, lI w] : List A)) := by
            simp only [putN]; rw [if_neg (by decide)]
          rw [hp1] at f1
          rw [hp2, List.set_set] at f2
          have hseq : seqR wv (S.set st.length (.obj "Braid" ["strands"] [.int n])) = some (w.map A.int) := by
            rw [← hS, List.set_append_right _ _ (Nat.le_refl _), Nat.sub_self]
            exact seq_later h
          have hlist : listA false wv (S.set st.length (.obj "Braid" ["strands"] [.int n])) = some (lI w, S.set st.length (.obj "Braid" ["strands"] [.int n])) := by simp only [listA, hseq]; rfl
          refine mkIns_ok (ns := ["strands", "word"]) (xs := [.int n, lI w]) ?_ (by simp [belowL, A.bel])
          rw [hS]
          have hend : st ++ [C.obj "Braid" ["strands", "word"] [.int n, lI w]] = S.set st.length (.obj "Braid" ["strands", "word"] [.int n, lI w]) := by
            rw [← hS, List.set_append_right _ _ (Nat.le_refl _), Nat.sub_self]; rfl
          rw [hend]
          have hf := @finA_set S false .non [] st.length (.obj "Braid" ["strands", "word"] [.int n, lI w]) (by simp [A.bel]) (by intro c h; cases h) (by simp [C.bel, belowL, A.bel])
          rw [List.append_nil] at hf
          refine fnM_nx rfl (e := [some (.cell st.length), some (.int n), some wv, y3]) (st' := S.set st.length (.obj "Braid" ["strands", "word"] [.int n, lI w])) ?_ hf
          show B_Braid___init__ [some (.cell st.length), some (.int n), some wv, none] S = _
          simp only [B_Braid___init__, sSeq_ap, sAsg_ap, sEx_ap, sRet_ap, sRetN_ap, sNil_ap, sIf_ap, sFor_ap, sSub_ap, sRaise_ap, mkWhat_ap, eVar_ap, eC_ap, eBin_ap, eUn_ap, eTup_ap, eLst_ap, eCB_ap, eCall_ap, eM_ap, eIf_ap, eAndV_ap, eOrV_ap, eNotV_ap, eChain_ap, eSl_ap, oNone_ap, oSome_ap, eXf_ap, aNil_ap, aCons_ap, tOf_ap, tTru_ap, tAndM_ap, tOrM_ap, tNotM_ap, tYesM_ap, asB_bl, truA_b, Res.bind_ok, Res.bind_exc, Res.toS_ok, Res.toS_exc, Res.of_some, SRes.bind_nx, SRes.bind_rt, SRes.bind_exc, SRes.bind_ct, SRes.bind_bk, gN_ap, List.getElem?_cons_zero, List.getElem?_cons_succ, List.set_cons_zero, List.set_cons_succ, one1_ap, two2_ap, newL_f, newL_t, addOp_ii, subOp_ii, negOp_i, ltOp_ii, leOp_ii, gtOp_ii, geOp_ii, eqOp_ii, neOp_ii, eqOp_ss, neOp_ss, intA_i, intA_b, maxA_ii, minA_ii, lenA_lst, lenA_tup, lenA_slst, listA_lst, listA_tup, listA_slst, tupleA_lst, tupleA_tup, List.length_map, List.length_cons, List.length_nil, Bool.not_true, Bool.not_false, Bool.false_eq_true, if_true, if_false, Nat.zero_add, Nat.reduceAdd, decide_eq_true h1n, decide_eq_true h8, mSeq_ap, h1, g3, len, decide_eq_false hl2, sFldM_ap, f1, hlist, f2]
      · rw [if_pos hg]
        obtain ⟨e, g3⟩ := g2 hg
        refine exc _ _ e ?_
        simp only [B_Braid___init__, sSeq_ap, sAsg_ap, sEx_ap, sRet_ap, sRetN_ap, sNil_ap, sIf_ap, sFor_ap, sSub_ap, sRaise_ap, mkWhat_ap, eVar_ap, eC_ap, eBin_ap, eUn_ap, eTup_ap, eLst_ap, eCB_ap, eCall_ap, eM_ap, eIf_ap, eAndV_ap, eOrV_ap, eNotV_ap, eChain_ap, eSl_ap, oNone_ap, oSome_ap, eXf_ap, aNil_ap, aCons_ap, tOf_ap, tTru_ap, tAndM_ap, tOrM_ap, tNotM_ap, tYesM_ap, asB_bl, truA_b, Res.bind_ok, Res.bind_exc, Res.toS_ok, Res.toS_exc, Res.of_some, SRes.bind_nx, SRes.bind_rt, SRes.bind_exc, SRes.bind_ct, SRes.bind_bk, gN_ap, List.getElem?_cons_zero, List.getElem?_cons_succ, List.set_cons_zero, List.set_cons_succ, one1_ap, two2_ap, newL_f, newL_t, addOp_ii, subOp_ii, negOp_i, ltOp_ii, leOp_ii, gtOp_ii, geOp_ii, eqOp_ii, neOp_ii, eqOp_ss, neOp_ss, intA_i, intA_b, maxA_ii, minA_ii, lenA_lst, lenA_tup, lenA_slst, listA_lst, listA_tup, listA_slst, tupleA_lst, tupleA_tup, List.length_map, List.length_cons, List.length_nil, Bool.not_true, Bool.not_false, Bool.false_eq_true, if_true, if_false, Nat.zero_add, Nat.reduceAdd, decide_eq_true h1n, decide_eq_true h8, mSeq_ap, h1, g3]
    · rw [if_pos (by omega)]
      refine exc _ _ [some (.cell st.length), some (.int n), some wv, none] ?_
      simp only [B_Braid___init__, sSeq_ap, sAsg_ap, sEx_ap, sRet_ap, sRetN_ap, sNil_ap, sIf_ap, sFor_ap, sSub_ap, sRaise_ap, mkWhat_ap, eVar_ap, eC_ap, eBin_ap, eUn_ap, eTup_ap, eLst_ap, eCB_ap, eCall_ap, eM_ap, eIf_ap, eAndV_ap, eOrV_ap, eNotV_ap, eChain_ap, eSl_ap, oNone_ap, oSome_ap, eXf_ap, aNil_ap, aCons_ap, tOf_ap, tTru_ap, tAndM_ap, tOrM_ap, tNotM_ap, tYesM_ap, asB_bl, truA_b, Res.bind_ok, Res.bind_exc, Res.toS_ok, Res.toS_exc, Res.of_some, SRes.bind_nx, SRes.bind_rt, SRes.bind_exc, SRes.bind_ct, SRes.bind_bk, gN_ap, List.getElem?_cons_zero, List.getElem?_cons_succ, List.set_cons_zero, List.set_cons_succ, one1_ap, two2_ap, newL_f, newL_t, addOp_ii, subOp_ii, negOp_i, ltOp_ii, leOp_ii, gtOp_ii, geOp_ii, eqOp_ii, neOp_ii, eqOp_ss, neOp_ss, intA_i, intA_b, maxA_ii, minA_ii, lenA_lst, lenA_tup, lenA_slst, listA_lst, listA_tup, listA_slst, tupleA_lst, tupleA_tup, List.length_map, List.length_cons, List.length_nil, Bool.not_true, Bool.not_false, Bool.false_eq_true, if_true, if_false, Nat.zero_add, Nat.reduceAdd, decide_eq_true h1n, decide_eq_false h8, ls, exW]
  · rw [if_pos (by omega)]
    refine exc _ _ [some (.cell st.length), some (.int n), some wv, none] ?_
    simp only [B_Braid___init__, sSeq_ap, sAsg_ap, sEx_ap, sRet_ap, sRetN_ap, sNil_ap, sIf_ap, sFor_ap, sSub_ap, sRaise_ap, mkWhat_ap, eVar_ap, eC_ap, eBin_ap, eUn_ap, eTup_ap, eLst_ap, eCB_ap, eCall_ap, eM_ap, eIf_ap, eAndV_ap, eOrV_ap, eNotV_ap, eChain_ap, eSl_ap, oNone_ap, oSome_ap, eXf_ap, aNil_ap, aCons_ap, tOf_ap, tTru_ap, tAndM_ap, tOrM_ap, tNotM_ap, tYesM_ap, asB_bl, truA_b, Res.bind_ok, Res.bind_exc, Res.toS_ok, Res.toS_exc, Res.of_some, SRes.bind_nx, SRes.bind_rt, SRes.bind_exc, SRes.bind_ct, SRes.bind_bk, gN_ap, List.getElem?_cons_zero, List.getElem?_cons_succ, List.set_cons_zero, List.set_cons_succ, one1_ap, two2_ap, newL_f, newL_t, addOp_ii, subOp_ii, negOp_i, ltOp_ii, leOp_ii, gtOp_ii, geOp_ii, eqOp_ii, neOp_ii, eqOp_ss, neOp_ss, intA_i, intA_b, maxA_ii, minA_ii, lenA_lst, lenA_tup, lenA_slst, listA_lst, listA_tup, listA_slst, tupleA_lst, tupleA_tup, List.length_map, List.length_cons, List.length_nil, Bool.not_true, Bool.not_false, Bool.false_eq_true, if_true, if_false, Nat.zero_add, Nat.reduceAdd, decide_eq_false h1n, ls, exW]
theorem bErr_ok (h1 : 1 ≤ n) (h8 : n ≤ 8) (hg : good n w) (hl : w.length ≤ 2000) : bErr n w = none := by
  unfold bErr
  rw [if_neg (by omega), if_neg (by simpa using hg), if_neg (by omega)]
theorem bErr_len (h1 : 1 ≤ n) (h8 : n ≤ 8) (hg : good n w) (hl : w.length > 2000) : bErr n w = some (("TooMany" : Str), ("letters" : Str)) := by
  unfold bErr
  rw [if_neg (by omega), if_neg (by simpa using hg), if_pos hl]
theorem out_ok (h : bErr n w = none) : outB n w st = .ok (bo n w) st := by unfold outB; rw [h]
theorem out_exc {c m : Str} (h : bErr n w = some (c, m)) : outB n w st = .exc (exW c m) st := by unfold outB; rw [h]
theorem bel_bo {k : Nat} : (bo n w).bel k = true := by simp [A.bel, belowL]
theorem make_lI (hl : w.length < 1000000) : mkIns "Braid" M_Braid___init__ [.int n, lI w] st = outB n w st := make_sp rfl hl
end
end Gk07

set_option Elab.async false
set_option linter.all false
set_option maxRecDepth 100000
set_option maxHeartbeats 4000000
namespace Gk07
open PySem PySem.Spec L2 SL F07
open PyProof.Rows hiding St
theorem set_len {st : Store} {a b : C} : (st ++ [a]).set st.length b = st ++ [b] := by rw [List.set_append_right _ _ (Nat.le_refl _), Nat.sub_self]; rfl
theorem psh_len {s : List Int} {a : Int} : (psh s a).length ≤ s.length + 1 := by
  cases s with
  | nil => simp [psh]
  | cons b t =>
    by_cases e : b = -a
    · have e1 : psh (b :: t) a = t := by simp [psh, e]
      rw [e1]; simp; omega
    · have e1 : psh (b :: t) a = a :: b :: t := by simp [psh, e]
      rw [e1]; simp
section
variable {st : Store} {wv : A} {x0 x2 : Option A}
theorem last_ix {c : Nat} {b : Int} {t : List Int} (h : st[c]? = some (li (b :: t).reverse)) : ixOp (.cell c) (.int (-1)) st = some (.int b, st) := by
  have := @neg_ix st (.cell c) (b :: t).reverse 0 (seqR_cell h) (by simp)
  simp at this
  exact this
/-- one step of cancelling: the end of the list found is the top of t -/
theorem stepL {c : Nat} {t : List Int} {a : Int} (hc : st[c]? = some (li t.reverse)) (hl : t.length < 1000000) : L1__law_reduced [x0, some (.cell c), some (.int a)] st = .nx [x0, some (.cell c), some (.int a)] (st.set c (li (psh t a).reverse)) := by
  have hz := sz
  have ln : lenA (.cell c) st = some (.int (t.length : Nat), st) := by have := lenA_cell hc; simpa using this
  have tv := tyVA_cell hc
  have ap : appendM (.cell c) [.int a] st = some (.non, st.set c (li (a :: t).reverse)) := by
    have := @appendM_li st c t.reverse a hc (by simp; omega)
    rw [this, List.reverse_cons]
  by_cases h0 : (t.length : Int) > 0
  · cases t with
    | nil => simp at h0
    | cons b t =>
      have ix := last_ix hc
      have pp : popM (.cell c) [] st = some (.int b, st.set c (li t.reverse)) := @popM_c st (t.reverse.map A.int) c (.int b) (by rw [hc]; simp [li])
      by_cases e : b = -a
      · have e1 : psh (b :: t) a = t := by simp [psh, e]
        simp only [L1__law_reduced, sIf_ap, tAndM_ap, tOf_ap, eBin_ap, eCB_ap, aCons_ap, eVar_ap, aNil_ap, eC_ap, List.getElem?_cons_succ, List.getElem?_cons_zero, Res.bind_ok, one1_ap, ln, Res.of_some, gtOp_ii, decide_eq_true h0, asB_bl, if_true, eUn_ap, negOp_i, ix, eqOp_ii, decide_eq_true e, Res.toS_ok, sEx_ap, eM_ap, tv, pp, e1]
      · have e1 : psh (b :: t) a = a :: b :: t := by simp [psh, e]
        simp only [L1__law_reduced, sIf_ap, tAndM_ap, tOf_ap, eBin_ap, eCB_ap, aCons_ap, eVar_ap, aNil_ap, eC_ap, List.getElem?_cons_succ, List.getElem?_cons_zero, Res.bind_ok, one1_ap, ln, Res.of_some, gtOp_ii, decide_eq_true h0, asB_bl, if_true, eUn_ap, negOp_i, ix, eqOp_ii, decide_eq_false e, Bool.false_eq_true, if_false, Res.toS_ok, sEx_ap, eM_ap, tv, ap, e1]
  · have ht : t = [] := List.length_eq_zero_iff.mp (by omega)
    subst ht
    have e1 : psh [] a = [a] := rfl
    have h0' : decide (((([] : List Int).length : Nat) : Int) > 0) = false := decide_eq_false h0
    rw [e1]
    simp only [L1__law_reduced, sIf_ap, tAndM_ap, tOf_ap, eBin_ap, eCB_ap, aCons_ap, eVar_ap, aNil_ap, eC_ap, List.getElem?_cons_succ, List.getElem?_cons_zero, Res.bind_ok, one1_ap, ln, Res.of_some, gtOp_ii, h0', asB_bl, Bool.false_eq_true, if_false, Res.toS_ok, sEx_ap, eM_ap, if_true, tv, ap]
theorem stepP {c : Nat} {t : List Int} {a : Int} (hc : st[c]? = some (li t.reverse)) (hl : t.length < 1000000) : L1_reduced_word [x0, some (.cell c), some (.int a)] st = .nx [x0, some (.cell c), some (.int a)] (st.set c (li (psh t a).reverse)) := by
  have hz := sz
  have tr : truA st (.cell c) = some (!(t.reverse.map A.int).isEmpty) := by
    simp [truA, seqR, tupR, lstR, lstH, hc]
  have tv := tyVA_cell hc
  have ap : appendM (.cell c) [.int a] st = some (.non, st.set c (li (a :: t).reverse)) := by
    have := @appendM_li st c t.reverse a hc (by simp; omega)
    rw [this, List.reverse_cons]
  cases t with
  | nil =>
    have e1 : psh [] a = [a] := rfl
    have tr' : truA st (.cell c) = some false := tr
    rw [e1]
    simp only [L1_reduced_word, sSeq_ap, sAsg_ap, sEx_ap, sRet_ap, sRetN_ap, sNil_ap, sIf_ap, sFor_ap, sSub_ap, sRaise_ap, mkWhat_ap, eVar_ap, eC_ap, eBin_ap, eUn_ap, eTup_ap, eLst_ap, eCB_ap, eCall_ap, eM_ap, eIf_ap, eAndV_ap, eOrV_ap, eNotV_ap, eChain_ap, eSl_ap, oNone_ap, oSome_ap, eXf_ap, aNil_ap, aCons_ap, tOf_ap, tTru_ap, tAndM_ap, tOrM_ap, tNotM_ap, tYesM_ap, asB_bl, truA_b, Res.bind_ok, Res.bind_exc, Res.toS_ok, Res.toS_exc, Res.of_some, SRes.bind_nx, SRes.bind_rt, SRes.bind_exc, SRes.bind_ct, SRes.bind_bk, gN_ap, List.getElem?_cons_zero, List.getElem?_cons_succ, List.set_cons_zero, List.set_cons_succ, one1_ap, two2_ap, newL_f, newL_t, addOp_ii, subOp_ii, negOp_i, ltOp_ii, leOp_ii, gtOp_ii, geOp_ii, eqOp_ii, neOp_ii, eqOp_ss, neOp_ss, intA_i, intA_b, maxA_ii, minA_ii, lenA_lst, lenA_tup, lenA_slst, listA_lst, listA_tup, listA_slst, tupleA_lst, tupleA_tup, List.length_map, List.length_cons, List.length_nil, Bool.not_true, Bool.not_false, Bool.false_eq_true, if_true, if_false, Nat.zero_add, Nat.reduceAdd, tr', tv, ap]
  | cons b t =>
    have ix := last_ix hc
    have tr' : truA st (.cell c) = some true := by rw [tr]; simp
    have pp : popM (.cell c) [] st = some (.int b, st.set c (li t.reverse)) := @popM_c st (t.reverse.map A.int) c (.int b) (by rw [hc]; simp [li])
    by_cases e : b = -a
    · have e1 : psh (b :: t) a = t := by simp [psh, e]
      simp only [L1_reduced_word, sSeq_ap, sAsg_ap, sEx_ap, sRet_ap, sRetN_ap, sNil_ap, sIf_ap, sFor_ap, sSub_ap, sRaise_ap, mkWhat_ap, eVar_ap, eC_ap, eBin_ap, eUn_ap, eTup_ap, eLst_ap, eCB_ap, eCall_ap, eM_ap, eIf_ap, eAndV_ap, eOrV_ap, eNotV_ap, eChain_ap, eSl_ap, oNone_ap, oSome_ap, eXf_ap, aNil_ap, aCons_ap, tOf_ap, tTru_ap, tAndM_ap, tOrM_ap, tNotM_ap, tYesM_ap, asB_bl, truA_b, Res.bind_ok, Res.bind_exc, Res.toS_ok, Res.toS_exc, Res.of_some, SRes.bind_nx, SRes.bind_rt, SRes.bind_exc, SRes.bind_ct, SRes.bind_bk, gN_ap, List.getElem?_cons_zero, List.getElem?_cons_succ, List.set_cons_zero, List.set_cons_succ, one1_ap, two2_ap, newL_f, newL_t, addOp_ii, subOp_ii, negOp_i, ltOp_ii, leOp_ii, gtOp_ii, geOp_ii, eqOp_ii, neOp_ii, eqOp_ss, neOp_ss, intA_i, intA_b, maxA_ii, minA_ii, lenA_lst, lenA_tup, lenA_slst, listA_lst, listA_tup, listA_slst, tupleA_lst, tupleA_tup, List.length_map, List.length_cons, List.length_nil, Bool.not_true, Bool.not_false, Bool.false_eq_true, if_true, if_false, Nat.zero_add, Nat.reduceAdd, tr', ix, decide_eq_true e, tv, pp, e1]
    · have e1 : psh (b :: t) a = a :: b :: t := by simp [psh, e]
      simp only [L1_reduced_word, sSeq_ap, sAsg_ap, sEx_ap, sRet_ap, sRetN_ap, sNil_ap, sIf_ap, sFor_ap, sSub_ap, sRaise_ap, mkWhat_ap, eVar_ap, eC_ap, eBin_ap, eUn_ap, eTup_ap, eLst_ap, eCB_ap, eCall_ap, eM_ap, eIf_ap, eAndV_ap, eOrV_ap, eNotV_ap, eChain_ap, eSl_ap, oNone_ap, oSome_ap, eXf_ap, aNil_ap, aCons_ap, tOf_ap, tTru_ap, tAndM_ap, tOrM_ap, tNotM_ap, tYesM_ap, asB_bl, truA_b, Res.bind_ok, Res.bind_exc, Res.toS_ok, Res.toS_exc, Res.of_some, SRes.bind_nx, SRes.bind_rt, SRes.bind_exc, SRes.bind_ct, SRes.bind_bk, gN_ap, List.getElem?_cons_zero, List.getElem?_cons_succ, List.set_cons_zero, List.set_cons_succ, one1_ap, two2_ap, newL_f, newL_t, addOp_ii, subOp_ii, negOp_i, ltOp_ii, leOp_ii, gtOp_ii, geOp_ii, eqOp_ii, neOp_ii, eqOp_ss, neOp_ss, intA_i, intA_b, maxA_ii, minA_ii, lenA_lst, lenA_tup, lenA_slst, listA_lst, listA_tup, listA_slst, tupleA_lst, tupleA_tup, List.length_map, List.length_cons, List.length_nil, Bool.not_true, Bool.not_false, Bool.false_eq_true, if_true, if_false, Nat.zero_add, Nat.reduceAdd, tr', ix, decide_eq_false e, tv, ap, e1]
/-- the walk -/
theorem walkR {body : MS} {src : Src} {all : List A} (hb : ∀ (s : Store) (c : Nat) (t : List Int) (a : Int), s[c]? = some (li t.reverse) → t.length < 1000000 → body [x0, some (.cell c), some (.int a)] s = .nx [x0, some (.cell c), some (.int a)] (s.set c (li (psh t a).reverse)))
    (hs : ∀ d, srcOk src all (st ++ [d])) : ∀ (w t : List Int) (x2 : Option A), t.length + w.length < 1000000 → ∃ y2, forL src all (gN 2) body (w.map A.int) [x0, some (.cell st.length), x2] (st ++ [li t.reverse]) = .nx [x0, some (.cell st.length), y2] (st ++ [li (act t w).reverse])
  | [], t, x2, _ => ⟨x2, by rw [List.map_nil, forL, if_pos (hs _)]; rfl⟩
  | a :: w, t, x2, hl => by
    have hp := @psh_len t a
    obtain ⟨y2, ih⟩ := walkR hb hs w (psh t a) (some (.int a)) (by simp at hl; omega)
    refine ⟨y2, ?_⟩
    have h1 := hb (st ++ [li t.reverse]) st.length t a (get_app_len rfl) (by simp at hl; omega)
    rw [set_len] at h1
    have step : forL src all (gN 2) body ((a :: w).map A.int) [x0, some (.cell st.length), x2] (st ++ [li t.reverse]) = (match body [x0, some (.cell st.length), some (.int a)] (st ++ [li t.reverse]) with
      | .nx e s => forL src all (gN 2) body (w.map A.int) e s
      | .ct e s => forL src all (gN 2) body (w.map A.int) e s
      | .bk e s => .nx e s
      | r => r) := by
      rw [List.map_cons, forL, if_pos (hs _)]; rfl
    rw [step, h1]
    exact ih
theorem redL_sp {w : List Int} (h : seqR wv st = some (w.map A.int)) (hl : w.length < 1000000) : M__law_reduced [wv] st = .ok (lI (red w)) st := by
  have hz := sz
  have l0 : (0 : Nat) ≤ sizeLine := by omega
  obtain ⟨y2, hw⟩ := @walkR st (some wv) L1__law_reduced (srcOf wv (w.map A.int)) (w.map A.int) (fun s c t a => stepL) (fun d => src_later (seq_later h)) w [] none (by simpa using hl)
  have hs := @seq_later st w wv (li []) h
  have hr : li ([] : List Int).reverse = C.lst [] := rfl
  rw [hr] at hw
  have hs' : seqR wv (st ++ [C.lst []]) = some (w.map A.int) := hs
  refine fnM_rt rfl (a := .cell st.length) (st' := st ++ [li (red w)]) ?_ (fin_lIc (Nat.le_refl _) (get_app_len rfl))
  show B__law_reduced [some wv, none, none] st = _
  simp only [B__law_reduced, sSeq_ap, sAsg_ap, sEx_ap, sRet_ap, sRetN_ap, sNil_ap, sIf_ap, sFor_ap, sSub_ap, sRaise_ap, mkWhat_ap, eVar_ap, eC_ap, eBin_ap, eUn_ap, eTup_ap, eLst_ap, eCB_ap, eCall_ap, eM_ap, eIf_ap, eAndV_ap, eOrV_ap, eNotV_ap, eChain_ap, eSl_ap, oNone_ap, oSome_ap, eXf_ap, aNil_ap, aCons_ap, tOf_ap, tTru_ap, tAndM_ap, tOrM_ap, tNotM_ap, tYesM_ap, asB_bl, truA_b, Res.bind_ok, Res.bind_exc, Res.toS_ok, Res.toS_exc, Res.of_some, SRes.bind_nx, SRes.bind_rt, SRes.bind_exc, SRes.bind_ct, SRes.bind_bk, gN_ap, List.getElem?_cons_zero, List.getElem?_cons_succ, List.set_cons_zero, List.set_cons_succ, one1_ap, two2_ap, newL_f, newL_t, addOp_ii, subOp_ii, negOp_i, ltOp_ii, leOp_ii, gtOp_ii, geOp_ii, eqOp_ii, neOp_ii, eqOp_ss, neOp_ss, intA_i, intA_b, maxA_ii, minA_ii, lenA_lst, lenA_tup, lenA_slst, listA_lst, listA_tup, listA_slst, tupleA_lst, tupleA_tup, List.length_map, List.length_cons, List.length_nil, Bool.not_true, Bool.not_false, Bool.false_eq_true, if_true, if_false, Nat.zero_add, Nat.reduceAdd, l0, mSeq_ap, hs', hw]
  rfl
theorem redP_sp {w : List Int} (h : seqR wv st = some (w.map A.int)) (hl : w.length < 1000000) : M_reduced_word [wv] st = .ok (lI (red w)) st := by
  have hz := sz
  have l0 : (0 : Nat) ≤ sizeLine := by omega
  obtain ⟨y2, hw⟩ := @walkR st (some wv) L1_reduced_word (srcOf wv (w.map A.int)) (w.map A.int) (fun s c t a => stepP) (fun d => src_later (seq_later h)) w [] none (by simpa using hl)
  have hs' : seqR wv (st ++ [C.lst []]) = some (w.map A.int) := @seq_later st w wv (li []) h
  have hr : li ([] : List Int).reverse = C.lst [] := rfl
  rw [hr] at hw
  refine fnM_rt rfl (a := .cell st.length) (st' := st ++ [li (red w)]) ?_ (fin_lIc (Nat.le_refl _) (get_app_len rfl))
  show B_reduced_word [some wv, none, none] st = _
  simp only [B_reduced_word, sSeq_ap, sAsg_ap, sEx_ap, sRet_ap, sRetN_ap, sNil_ap, sIf_ap, sFor_ap, sSub_ap, sRaise_ap, mkWhat_ap, eVar_ap, eC_ap, eBin_ap, eUn_ap, eTup_ap, eLst_ap, eCB_ap, eCall_ap, eM_ap, eIf_ap, eAndV_ap, eOrV_ap, eNotV_ap, eChain_ap, eSl_ap, oNone_ap, oSome_ap, eXf_ap, aNil_ap, aCons_ap, tOf_ap, tTru_ap, tAndM_ap, tOrM_ap, tNotM_ap, tYesM_ap, asB_bl, truA_b, Res.bind_ok, Res.bind_exc, Res.toS_ok, Res.toS_exc, Res.of_some, SRes.bind_nx, SRes.bind_rt, SRes.bind_exc, SRes.bind_ct, SRes.bind_bk, gN_ap, List.getElem?_cons_zero, List.getElem?_cons_succ, List.set_cons_zero, List.set_cons_succ, one1_ap, two2_ap, newL_f, newL_t, addOp_ii, subOp_ii, negOp_i, ltOp_ii, leOp_ii, gtOp_ii, geOp_ii, eqOp_ii, neOp_ii, eqOp_ss, neOp_ss, intA_i, intA_b, maxA_ii, minA_ii, lenA_lst, lenA_tup, lenA_slst, listA_lst, listA_tup, listA_slst, tupleA_lst, tupleA_tup, List.length_map, List.length_cons, List.length_nil, Bool.not_true, Bool.not_false, Bool.false_eq_true, if_true, if_false, Nat.zero_add, Nat.reduceAdd, l0, mSeq_ap, hs', hw]
  rfl
end
end Gk07

set_option Elab.async false
set_option linter.all false
set_option maxRecDepth 100000
set_option maxHeartbeats 4000000
namespace Gk07
open PySem PySem.Spec L2 SL F07
open PyProof.Rows hiding St
def und (l : Int) : A := if l > 0 then .dct [.inl (ab l), .inl (ab l + 1)] [lI [ab l, ab l + 1, -ab l], lI [ab l]] else .dct [.inl (ab l), .inl (ab l + 1)] [lI [ab l + 1], lI [-ab l - 1, ab l, ab l + 1]]
theorem merge2 {m : Int} {v1 v2 : A} : mergeA ([], []) [(.inl m, v1), (.inl (m + 1), v2)] = ([.inl m, .inl (m + 1)], [v1, v2]) := by
  have h : ¬ (m = m + 1) := by omega
  simp [mergeA, putA, h]
section
variable {st : Store} {l : Int}
theorem keys2 {a b : Int} {v1 v2 : A} : keysA [(.int a, v1), (.int b, v2)] = some [(.inl a, v1), (.inl b, v2)] := rfl
theorem und_bel {n : Nat} : (und l).bel n = true := by unfold und; split <;> simp [A.bel, belowL]
theorem und_sp : M_images_under [.int l] st = .ok (und l) st := by
  have hz := sz
  have l1 : (1 : Nat) ≤ sizeLine := by omega
  have l3 : (3 : Nat) ≤ sizeLine := by omega
  have l15 : (2 : Nat) ≤ 15 := by omega
  refine fnM_rt rfl (a := und l) (st' := st) ?_ (fin_pure0 und_bel (by unfold und; split <;> (intro c h; cases h)))
  show B_images_under [some (.int l), none] st = _
  by_cases h : l > 0
  · have e : und l = .dct [.inl (ab l), .inl (ab l + 1)] [lI [ab l, ab l + 1, -ab l], lI [ab l]] := if_pos h
    rw [e]
    simp only [B_images_under, sSeq_ap, sAsg_ap, sEx_ap, sRet_ap, sRetN_ap, sNil_ap, sIf_ap, sFor_ap, sSub_ap, sRaise_ap, mkWhat_ap, eVar_ap, eC_ap, eBin_ap, eUn_ap, eTup_ap, eLst_ap, eCB_ap, eCall_ap, eM_ap, eIf_ap, eAndV_ap, eOrV_ap, eNotV_ap, eChain_ap, eSl_ap, oNone_ap, oSome_ap, eXf_ap, aNil_ap, aCons_ap, tOf_ap, tTru_ap, tAndM_ap, tOrM_ap, tNotM_ap, tYesM_ap, asB_bl, truA_b, Res.bind_ok, Res.bind_exc, Res.toS_ok, Res.toS_exc, Res.of_some, SRes.bind_nx, SRes.bind_rt, SRes.bind_exc, SRes.bind_ct, SRes.bind_bk, gN_ap, List.getElem?_cons_zero, List.getElem?_cons_succ, List.set_cons_zero, List.set_cons_succ, one1_ap, two2_ap, newL_f, newL_t, addOp_ii, subOp_ii, negOp_i, ltOp_ii, leOp_ii, gtOp_ii, geOp_ii, eqOp_ii, neOp_ii, eqOp_ss, neOp_ss, intA_i, intA_b, maxA_ii, minA_ii, lenA_lst, lenA_tup, lenA_slst, listA_lst, listA_tup, listA_slst, tupleA_lst, tupleA_tup, List.length_map, List.length_cons, List.length_nil, Bool.not_true, Bool.not_false, Bool.false_eq_true, if_true, if_false, Nat.zero_add, Nat.reduceAdd, absA_ab, decide_eq_true h, eDisp_ap, mPairs_cons, mPairs_nil, l1, l3, keys2, l15, merge2]
    rfl
  · have e : und l = .dct [.inl (ab l), .inl (ab l + 1)] [lI [ab l + 1], lI [-ab l - 1, ab l, ab l + 1]] := if_neg h
    rw [e]
    simp only [B_images_under, sSeq_ap, sAsg_ap, sEx_ap, sRet_ap, sRetN_ap, sNil_ap, sIf_ap, sFor_ap, sSub_ap, sRaise_ap, mkWhat_ap, eVar_ap, eC_ap, eBin_ap, eUn_ap, eTup_ap, eLst_ap, eCB_ap, eCall_ap, eM_ap, eIf_ap, eAndV_ap, eOrV_ap, eNotV_ap, eChain_ap, eSl_ap, oNone_ap, oSome_ap, eXf_ap, aNil_ap, aCons_ap, tOf_ap, tTru_ap, tAndM_ap, tOrM_ap, tNotM_ap, tYesM_ap, asB_bl, truA_b, Res.bind_ok, Res.bind_exc, Res.toS_ok, Res.toS_exc, Res.of_some, SRes.bind_nx, SRes.bind_rt, SRes.bind_exc, SRes.bind_ct, SRes.bind_bk, gN_ap, List.getElem?_cons_zero, List.getElem?_cons_succ, List.set_cons_zero, List.set_cons_succ, one1_ap, two2_ap, newL_f, newL_t, addOp_ii, subOp_ii, negOp_i, ltOp_ii, leOp_ii, gtOp_ii, geOp_ii, eqOp_ii, neOp_ii, eqOp_ss, neOp_ss, intA_i, intA_b, maxA_ii, minA_ii, lenA_lst, lenA_tup, lenA_slst, listA_lst, listA_tup, listA_slst, tupleA_lst, tupleA_tup, List.length_map, List.length_cons, List.length_nil, Bool.not_true, Bool.not_false, Bool.false_eq_true, if_true, if_false, Nat.zero_add, Nat.reduceAdd, absA_ab, decide_eq_false h, eDisp_ap, mPairs_cons, mPairs_nil, l1, l3, keys2, l15, merge2]
    rfl
theorem und_some : (dctR (und l) st).isSome = true := by unfold und; split <;> rfl
theorem und_get {x : Int} : getOp (und l) (.int x) (lI [x]) st = some (lI (fl l x), st) := by
  unfold und fl
  by_cases h : l > 0
  · rw [if_pos h]
    by_cases h1 : x = ab l
    · subst h1; simp [getOp, dctR, keyA, lkA, h]
    · by_cases h2 : x = ab l + 1
      · subst h2
        have h3 : ¬ ab l = ab l + 1 := by omega
        simp [getOp, dctR, keyA, lkA, h, h3, h1]
      · have h3 : ¬ ab l = x := by omega
        have h4 : ¬ ab l + 1 = x := by omega
        simp [getOp, dctR, keyA, lkA, h, h1, h2, h3, h4]
  · rw [if_neg h]
    by_cases h1 : x = ab l
    · subst h1; simp [getOp, dctR, keyA, lkA, h]
    · by_cases h2 : x = ab l + 1
      · subst h2
        have h3 : ¬ ab l = ab l + 1 := by omega
        simp [getOp, dctR, keyA, lkA, h, h3, h1]
      · have h3 : ¬ ab l = x := by omega
        have h4 : ¬ ab l + 1 = x := by omega
        simp [getOp, dctR, keyA, lkA, h, h1, h2, h3, h4]
theorem lcA {mi : MI} {i : Nat} {own : List Nat} {ma : AEnv → Store → Res A} {env : AEnv} {xs : List Int} (f : Int → Int) (hmi : mi env st = .ok (xs.map A.int, none) st) (hl : xs.length ≤ sizeLine)
    (h : ∀ x ∈ xs, ma ((wipeA env own).set i (some (.int x))) st = .ok (.int (f x)) st) : eLc false mi (gN i) own tYesM ma env st = .ok (lI (xs.map f)) st := by
  have := eLc_ints (mk := false) (p := tYesM) (fun _ => true) f hmi hl fun x hx => ⟨rfl, fun _ => h x hx⟩
  rwa [filT] at this
theorem fl_len {x : Int} : (fl l x).length ≤ 3 := by unfold fl; split <;> (try split) <;> (try split) <;> (try split) <;> simp
theorem img_len {x : Int} : (img l x).length ≤ 3 := by
  unfold img
  split
  · have := @fl_len l (ab x); simp [inv]; exact this
  · exact fl_len
theorem sub_len {u : List Int} : (sub l u).length ≤ 3 * u.length := by
  induction u with
  | nil => simp [sub]
  | cons a u ih =>
    rw [sub_cons, List.length_append, List.length_cons]
    have := @img_len l a
    omega
variable {x0 x1 x2 x3 x5 x6 : Option A} {c : Nat}
theorem ext_c {ys zs : List Int} (hc : st[c]? = some (li ys)) (hl : ys.length + zs.length < 1000000) : extendM (.cell c) [lI zs] st = some (.non, st.set c (li (ys ++ zs))) := by
  have hz := sz
  have e1 := cellL_ok' hc
  simp only [extendM, e1, lstH]
  rw [if_pos (by simp; omega)]
  simp [li]
/-- one letter's image goes behind -/
theorem stepM {p : Int} {ys : List Int} (hc : st[c]? = some (li ys)) (hl : ys.length < 900000) : ∃ y5, L2_moved_word [x0, x1, some (und l), some (.cell c), some (.int p), x5, x6] st = .nx [x0, x1, some (und l), some (.cell c), some (.int p), y5, x6] (st.set c (li (ys ++ img l p))) := by
  have hz := sz
  have l1 : (1 : Nat) ≤ sizeLine := by omega
  have tv := tyVA_cell hc
  have hi := @img_len l p
  have ex := @ext_c st c ys (img l p) hc (by omega)
  have g1 : getOp (und l) (.int (ab p)) (.lst [.int (ab p)]) st = some (lI (fl l (ab p)), st) := und_get
  have us := @und_some st l
  have gg := fun (e : AEnv) (h : e = [x0, x1, some (und l), some (.cell c), some (.int p), x5, x6]) => show eGet2 (eVar 2) (eCB (one1 absA) (aCons (eVar 4) aNil)) (eLst false (aCons (eCB (one1 absA) (aCons (eVar 4) aNil)) aNil)) e st = .ok (lI (fl l (ab p))) st by
    subst h
    simp only [eGet2_ap, sSeq_ap, sAsg_ap, sEx_ap, sRet_ap, sRetN_ap, sNil_ap, sIf_ap, sFor_ap, sSub_ap, sRaise_ap, mkWhat_ap, eVar_ap, eC_ap, eBin_ap, eUn_ap, eTup_ap, eLst_ap, eCB_ap, eCall_ap, eM_ap, eIf_ap, eAndV_ap, eOrV_ap, eNotV_ap, eChain_ap, eSl_ap, oNone_ap, oSome_ap, eXf_ap, aNil_ap, aCons_ap, tOf_ap, tTru_ap, tAndM_ap, tOrM_ap, tNotM_ap, tYesM_ap, asB_bl, truA_b, Res.bind_ok, Res.bind_exc, Res.toS_ok, Res.toS_exc, Res.of_some, SRes.bind_nx, SRes.bind_rt, SRes.bind_exc, SRes.bind_ct, SRes.bind_bk, gN_ap, List.getElem?_cons_zero, List.getElem?_cons_succ, List.set_cons_zero, List.set_cons_succ, one1_ap, two2_ap, newL_f, newL_t, addOp_ii, subOp_ii, negOp_i, ltOp_ii, leOp_ii, gtOp_ii, geOp_ii, eqOp_ii, neOp_ii, eqOp_ss, neOp_ss, intA_i, intA_b, maxA_ii, minA_ii, lenA_lst, lenA_tup, lenA_slst, listA_lst, listA_tup, listA_slst, tupleA_lst, tupleA_tup, List.length_map, List.length_cons, List.length_nil, Bool.not_true, Bool.not_false, Bool.false_eq_true, if_true, if_false, Nat.zero_add, Nat.reduceAdd, us, absA_ab, l1, g1]
  have g2 := gg _ rfl
  by_cases h0 : p < 0
  · have ei : img l p = inv (fl l (ab p)) := if_pos h0
    have lc := @lcA st (mRev (aCons (eVar 5) aNil)) 6 [6] e1_moved_word [x0, x1, some (und l), some (.cell c), some (.int p), some (lI (fl l (ab p))), x6] (fl l (ab p)).reverse (fun x => -x) (by
      simp only [mRev, sSeq_ap, sAsg_ap, sEx_ap, sRet_ap, sRetN_ap, sNil_ap, sIf_ap, sFor_ap, sSub_ap, sRaise_ap, mkWhat_ap, eVar_ap, eC_ap, eBin_ap, eUn_ap, eTup_ap, eLst_ap, eCB_ap, eCall_ap, eM_ap, eIf_ap, eAndV_ap, eOrV_ap, eNotV_ap, eChain_ap, eSl_ap, oNone_ap, oSome_ap, eXf_ap, aNil_ap, aCons_ap, tOf_ap, tTru_ap, tAndM_ap, tOrM_ap, tNotM_ap, tYesM_ap, asB_bl, truA_b, Res.bind_ok, Res.bind_exc, Res.toS_ok, Res.toS_exc, Res.of_some, SRes.bind_nx, SRes.bind_rt, SRes.bind_exc, SRes.bind_ct, SRes.bind_bk, gN_ap, List.getElem?_cons_zero, List.getElem?_cons_succ, List.set_cons_zero, List.set_cons_succ, one1_ap, two2_ap, newL_f, newL_t, addOp_ii, subOp_ii, negOp_i, ltOp_ii, leOp_ii, gtOp_ii, geOp_ii, eqOp_ii, neOp_ii, eqOp_ss, neOp_ss, intA_i, intA_b, maxA_ii, minA_ii, lenA_lst, lenA_tup, lenA_slst, listA_lst, listA_tup, listA_slst, tupleA_lst, tupleA_tup, List.length_map, List.length_cons, List.length_nil, Bool.not_true, Bool.not_false, Bool.false_eq_true, if_true, if_false, Nat.zero_add, Nat.reduceAdd, lstR, lstH, srcOf_lst, List.map_reverse, Option.none_or, Option.some_or, Option.or_none]) (by have := @fl_len l (ab p); simp; omega) (fun x hx => by
      show e1_moved_word [x0, x1, some (und l), some (.cell c), some (.int p), some (lI (fl l (ab p))), some (.int x)] st = _
      simp only [e1_moved_word, sSeq_ap, sAsg_ap, sEx_ap, sRet_ap, sRetN_ap, sNil_ap, sIf_ap, sFor_ap, sSub_ap, sRaise_ap, mkWhat_ap, eVar_ap, eC_ap, eBin_ap, eUn_ap, eTup_ap, eLst_ap, eCB_ap, eCall_ap, eM_ap, eIf_ap, eAndV_ap, eOrV_ap, eNotV_ap, eChain_ap, eSl_ap, oNone_ap, oSome_ap, eXf_ap, aNil_ap, aCons_ap, tOf_ap, tTru_ap, tAndM_ap, tOrM_ap, tNotM_ap, tYesM_ap, asB_bl, truA_b, Res.bind_ok, Res.bind_exc, Res.toS_ok, Res.toS_exc, Res.of_some, SRes.bind_nx, SRes.bind_rt, SRes.bind_exc, SRes.bind_ct, SRes.bind_bk, gN_ap, List.getElem?_cons_zero, List.getElem?_cons_succ, List.set_cons_zero, List.set_cons_succ, one1_ap, two2_ap, newL_f, newL_t, addOp_ii, subOp_ii, negOp_i, ltOp_ii, leOp_ii, gtOp_ii, geOp_ii, eqOp_ii, neOp_ii, eqOp_ss, neOp_ss, intA_i, intA_b, maxA_ii, minA_ii, lenA_lst, lenA_tup, lenA_slst, listA_lst, listA_tup, listA_slst, tupleA_lst, tupleA_tup, List.length_map, List.length_cons, List.length_nil, Bool.not_true, Bool.not_false, Bool.false_eq_true, if_true, if_false, Nat.zero_add, Nat.reduceAdd])
    have e2 : (fl l (ab p)).reverse.map (fun x => -x) = img l p := by rw [ei]; simp [inv]
    rw [e2] at lc
    refine ⟨some (lI (img l p)), ?_⟩
    simp only [L2_moved_word, sSeq_ap, sAsg_ap, g2, Res.toS_ok, gN_ap, List.set_cons_succ, List.set_cons_zero, SRes.bind_nx, sIf_ap, tOf_ap, eBin_ap, eVar_ap, List.getElem?_cons_succ, List.getElem?_cons_zero, Res.bind_ok, eC_ap, ltOp_ii, Res.of_some, decide_eq_true h0, asB_bl, if_true, lc, sEx_ap, eM_ap, tv, aCons_ap, aNil_ap, ex]
  · have ei : img l p = fl l (ab p) := if_neg h0
    rw [ei] at ex ⊢
    refine ⟨some (lI (fl l (ab p))), ?_⟩
    simp only [L2_moved_word, sSeq_ap, sAsg_ap, g2, Res.toS_ok, gN_ap, List.set_cons_succ, List.set_cons_zero, SRes.bind_nx, sIf_ap, tOf_ap, eBin_ap, eVar_ap, List.getElem?_cons_succ, List.getElem?_cons_zero, Res.bind_ok, eC_ap, ltOp_ii, Res.of_some, decide_eq_false h0, asB_bl, Bool.false_eq_true, if_false, sNil_ap, sEx_ap, eM_ap, tv, if_true, aCons_ap, aNil_ap, ex]
theorem stepI {p : Int} {ys : List Int} (hc : st[c]? = some (li ys)) (hl : ys.length < 900000) : ∃ y5, L2__law_image [x0, some (.int l), some (.int (ab l)), some (.cell c), some (.int p), x5, x6] st = .nx [x0, some (.int l), some (.int (ab l)), some (.cell c), some (.int p), y5, x6] (st.set c (li (ys ++ img l p))) := by
  have hz := sz
  have l1 : (1 : Nat) ≤ sizeLine := by omega
  have l3 : (3 : Nat) ≤ sizeLine := by omega
  have tv := tyVA_cell hc
  have hi := @img_len l p
  have ex := @ext_c st c ys (img l p) hc (by omega)
  have tail : ∀ v, v = lI (fl l (ab p)) → ∃ y5, (sSeq (sIf (tOf (eBin ltOp (eVar 4) (eC (.int 0)))) (sAsg (gN 5) (eLc false (mSeq (eUn (revL false) (eVar 5))) (gN 6) [6] tYesM e1__law_image)) sNil) (sEx (eM "list" extendM (eVar 3) (aCons (eVar 5) aNil)))) [x0, some (.int l), some (.int (ab l)), some (.cell c), some (.int p), some v, x6] st = .nx [x0, some (.int l), some (.int (ab l)), some (.cell c), some (.int p), y5, x6] (st.set c (li (ys ++ img l p))) := by
    intro v hv
    subst hv
    by_cases h0 : p < 0
    · have ei : img l p = inv (fl l (ab p)) := if_pos h0
      have lc := @lcA st (mSeq (eUn (revL false) (eVar 5))) 6 [6] e1__law_image [x0, some (.int l), some (.int (ab l)), some (.cell c), some (.int p), some (lI (fl l (ab p))), x6] (fl l (ab p)).reverse (fun x => -x) (by
        have : revL false (lI (fl l (ab p))) st = some (lI (fl l (ab p)).reverse, st) := by simp [revL, lstR, lstH]
        simp only [mSeq_ap, sSeq_ap, sAsg_ap, sEx_ap, sRet_ap, sRetN_ap, sNil_ap, sIf_ap, sFor_ap, sSub_ap, sRaise_ap, mkWhat_ap, eVar_ap, eC_ap, eBin_ap, eUn_ap, eTup_ap, eLst_ap, eCB_ap, eCall_ap, eM_ap, eIf_ap, eAndV_ap, eOrV_ap, eNotV_ap, eChain_ap, eSl_ap, oNone_ap, oSome_ap, eXf_ap, aNil_ap, aCons_ap, tOf_ap, tTru_ap, tAndM_ap, tOrM_ap, tNotM_ap, tYesM_ap, asB_bl, truA_b, Res.bind_ok, Res.bind_exc, Res.toS_ok, Res.toS_exc, Res.of_some, SRes.bind_nx, SRes.bind_rt, SRes.bind_exc, SRes.bind_ct, SRes.bind_bk, gN_ap, List.getElem?_cons_zero, List.getElem?_cons_succ, List.set_cons_zero, List.set_cons_succ, one1_ap, two2_ap, newL_f, newL_t, addOp_ii, subOp_ii, negOp_i, ltOp_ii, leOp_ii, gtOp_ii, geOp_ii, eqOp_ii, neOp_ii, eqOp_ss, neOp_ss, intA_i, intA_b, maxA_ii, minA_ii, lenA_lst, lenA_tup, lenA_slst, listA_lst, listA_tup, listA_slst, tupleA_lst, tupleA_tup, List.length_map, List.length_cons, List.length_nil, Bool.not_true, Bool.not_false, Bool.false_eq_true, if_true, if_false, Nat.zero_add, Nat.reduceAdd, this, seqR_lst, srcOf_lst]) (by have := @fl_len l (ab p); simp; omega) (fun x hx => by
        show e1__law_image [x0, some (.int l), some (.int (ab l)), some (.cell c), some (.int p), some (lI (fl l (ab p))), some (.int x)] st = _
        simp only [e1__law_image, sSeq_ap, sAsg_ap, sEx_ap, sRet_ap, sRetN_ap, sNil_ap, sIf_ap, sFor_ap, sSub_ap, sRaise_ap, mkWhat_ap, eVar_ap, eC_ap, eBin_ap, eUn_ap, eTup_ap, eLst_ap, eCB_ap, eCall_ap, eM_ap, eIf_ap, eAndV_ap, eOrV_ap, eNotV_ap, eChain_ap, eSl_ap, oNone_ap, oSome_ap, eXf_ap, aNil_ap, aCons_ap, tOf_ap, tTru_ap, tAndM_ap, tOrM_ap, tNotM_ap, tYesM_ap, asB_bl, truA_b, Res.bind_ok, Res.bind_exc, Res.toS_ok, Res.toS_exc, Res.of_some, SRes.bind_nx, SRes.bind_rt, SRes.bind_exc, SRes.bind_ct, SRes.bind_bk, gN_ap, List.getElem?_cons_zero, List.getElem?_cons_succ, List.set_cons_zero, List.set_cons_succ, one1_ap, two2_ap, newL_f, newL_t, addOp_ii, subOp_ii, negOp_i, ltOp_ii, leOp_ii, gtOp_ii, geOp_ii, eqOp_ii, neOp_ii, eqOp_ss, neOp_ss, intA_i, intA_b, maxA_ii, minA_ii, lenA_lst, lenA_tup, lenA_slst, listA_lst, listA_tup, listA_slst, tupleA_lst, tupleA_tup, List.length_map, List.length_cons, List.length_nil, Bool.not_true, Bool.not_false, Bool.false_eq_true, if_true, if_false, Nat.zero_add, Nat.reduceAdd])
      have e2 : (fl l (ab p)).reverse.map (fun x => -x) = img l p := by rw [ei]; simp [inv]
      rw [e2] at lc
      refine ⟨some (lI (img l p)), ?_⟩
      simp only [sSeq_ap, sAsg_ap, sEx_ap, sRet_ap, sRetN_ap, sNil_ap, sIf_ap, sFor_ap, sSub_ap, sRaise_ap, mkWhat_ap, eVar_ap, eC_ap, eBin_ap, eUn_ap, eTup_ap, eLst_ap, eCB_ap, eCall_ap, eM_ap, eIf_ap, eAndV_ap, eOrV_ap, eNotV_ap, eChain_ap, eSl_ap, oNone_ap, oSome_ap, eXf_ap, aNil_ap, aCons_ap, tOf_ap, tTru_ap, tAndM_ap, tOrM_ap, tNotM_ap, tYesM_ap, asB_bl, truA_b, Res.bind_ok, Res.bind_exc, Res.toS_ok, Res.toS_exc, Res.of_some, SRes.bind_nx, SRes.bind_rt, SRes.bind_exc, SRes.bind_ct, SRes.bind_bk, gN_ap, List.getElem?_cons_zero, List.getElem?_cons_succ, List.set_cons_zero, List.set_cons_succ, one1_ap, two2_ap, newL_f, newL_t, addOp_ii, subOp_ii, negOp_i, ltOp_ii, leOp_ii, gtOp_ii, geOp_ii, eqOp_ii, neOp_ii, eqOp_ss, neOp_ss, intA_i, intA_b, maxA_ii, minA_ii, lenA_lst, lenA_tup, lenA_slst, listA_lst, listA_tup, listA_slst, tupleA_lst, tupleA_tup, List.length_map, List.length_cons, List.length_nil, Bool.not_true, Bool.not_false, Bool.false_eq_true, if_true, if_false, Nat.zero_add, Nat.reduceAdd, decide_eq_true h0, lc, tv, ex]
    · have ei : img l p = fl l (ab p) := if_neg h0
      rw [ei] at ex ⊢
      refine ⟨some (lI (fl l (ab p))), ?_⟩
      simp only [sSeq_ap, sAsg_ap, sEx_ap, sRet_ap, sRetN_ap, sNil_ap, sIf_ap, sFor_ap, sSub_ap, sRaise_ap, mkWhat_ap, eVar_ap, eC_ap, eBin_ap, eUn_ap, eTup_ap, eLst_ap, eCB_ap, eCall_ap, eM_ap, eIf_ap, eAndV_ap, eOrV_ap, eNotV_ap, eChain_ap, eSl_ap, oNone_ap, oSome_ap, eXf_ap, aNil_ap, aCons_ap, tOf_ap, tTru_ap, tAndM_ap, tOrM_ap, tNotM_ap, tYesM_ap, asB_bl, truA_b, Res.bind_ok, Res.bind_exc, Res.toS_ok, Res.toS_exc, Res.of_some, SRes.bind_nx, SRes.bind_rt, SRes.bind_exc, SRes.bind_ct, SRes.bind_bk, gN_ap, List.getElem?_cons_zero, List.getElem?_cons_succ, List.set_cons_zero, List.set_cons_succ, one1_ap, two2_ap, newL_f, newL_t, addOp_ii, subOp_ii, negOp_i, ltOp_ii, leOp_ii, gtOp_ii, geOp_ii, eqOp_ii, neOp_ii, eqOp_ss, neOp_ss, intA_i, intA_b, maxA_ii, minA_ii, lenA_lst, lenA_tup, lenA_slst, listA_lst, listA_tup, listA_slst, tupleA_lst, tupleA_tup, List.length_map, List.length_cons, List.length_nil, Bool.not_true, Bool.not_false, Bool.false_eq_true, if_true, if_false, Nat.zero_add, Nat.reduceAdd, decide_eq_false h0, tv, ex]
  have key : ∃ v, v = lI (fl l (ab p)) ∧ (sSeq (sAsg (gN 5) (eLst false (aCons (eCB (one1 absA) (aCons (eVar 4) aNil)) aNil)))
   (sIf (tAndM (tOf (eBin gtOp (eVar 1) (eC (.int 0)))) (tOf (eBin eqOp (eCB (one1 absA) (aCons (eVar 4) aNil)) (eVar 2)))) (sAsg (gN 5) (eLst false (aCons (eVar 2) (aCons (eBin (addOp false) (eVar 2) (eC (.int 1))) (aCons (eUn negOp (eVar 2)) aNil))))) (sIf (tAndM (tOf (eBin gtOp (eVar 1) (eC (.int 0)))) (tOf (eBin eqOp (eCB (one1 absA) (aCons (eVar 4) aNil)) (eBin (addOp false) (eVar 2) (eC (.int 1)))))) (sAsg (gN 5) (eLst false (aCons (eVar 2) aNil))) (sIf (tOf (eBin eqOp (eCB (one1 absA) (aCons (eVar 4) aNil)) (eVar 2))) (sAsg (gN 5) (eLst false (aCons (eBin (addOp false) (eVar 2) (eC (.int 1))) aNil))) (sIf (tOf (eBin eqOp (eCB (one1 absA) (aCons (eVar 4) aNil)) (eBin (addOp false) (eVar 2) (eC (.int 1))))) (sAsg (gN 5) (eLst false (aCons (eBin subOp (eUn negOp (eVar 2)) (eC (.int 1))) (aCons (eVar 2) (aCons (eBin (addOp false) (eVar 2) (eC (.int 1))) aNil))))) sNil))))) [x0, some (.int l), some (.int (ab l)), some (.cell c), some (.int p), x5, x6] st = .nx [x0, some (.int l), some (.int (ab l)), some (.cell c), some (.int p), some v, x6] st := by
    refine ⟨_, rfl, ?_⟩
    unfold fl
    by_cases h : l > 0
    · by_cases h1 : ab p = ab l
      · simp only [sSeq_ap, sAsg_ap, sEx_ap, sRet_ap, sRetN_ap, sNil_ap, sIf_ap, sFor_ap, sSub_ap, sRaise_ap, mkWhat_ap, eVar_ap, eC_ap, eBin_ap, eUn_ap, eTup_ap, eLst_ap, eCB_ap, eCall_ap, eM_ap, eIf_ap, eAndV_ap, eOrV_ap, eNotV_ap, eChain_ap, eSl_ap, oNone_ap, oSome_ap, eXf_ap, aNil_ap, aCons_ap, tOf_ap, tTru_ap, tAndM_ap, tOrM_ap, tNotM_ap, tYesM_ap, asB_bl, truA_b, Res.bind_ok, Res.bind_exc, Res.toS_ok, Res.toS_exc, Res.of_some, SRes.bind_nx, SRes.bind_rt, SRes.bind_exc, SRes.bind_ct, SRes.bind_bk, gN_ap, List.getElem?_cons_zero, List.getElem?_cons_succ, List.set_cons_zero, List.set_cons_succ, one1_ap, two2_ap, newL_f, newL_t, addOp_ii, subOp_ii, negOp_i, ltOp_ii, leOp_ii, gtOp_ii, geOp_ii, eqOp_ii, neOp_ii, eqOp_ss, neOp_ss, intA_i, intA_b, maxA_ii, minA_ii, lenA_lst, lenA_tup, lenA_slst, listA_lst, listA_tup, listA_slst, tupleA_lst, tupleA_tup, List.length_map, List.length_cons, List.length_nil, Bool.not_true, Bool.not_false, Bool.false_eq_true, if_true, if_false, Nat.zero_add, Nat.reduceAdd, absA_ab, l1, l3, decide_eq_true h, decide_eq_true h1]
        rw [if_pos ⟨h, h1⟩]; rfl
      · by_cases h2 : ab p = ab l + 1
        · simp only [sSeq_ap, sAsg_ap, sEx_ap, sRet_ap, sRetN_ap, sNil_ap, sIf_ap, sFor_ap, sSub_ap, sRaise_ap, mkWhat_ap, eVar_ap, eC_ap, eBin_ap, eUn_ap, eTup_ap, eLst_ap, eCB_ap, eCall_ap, eM_ap, eIf_ap, eAndV_ap, eOrV_ap, eNotV_ap, eChain_ap, eSl_ap, oNone_ap, oSome_ap, eXf_ap, aNil_ap, aCons_ap, tOf_ap, tTru_ap, tAndM_ap, tOrM_ap, tNotM_ap, tYesM_ap, asB_bl, truA_b, Res.bind_ok, Res.bind_exc, Res.toS_ok, Res.toS_exc, Res.of_some, SRes.bind_nx, SRes.bind_rt, SRes.bind_exc, SRes.bind_ct, SRes.bind_bk, gN_ap, List.getElem?_cons_zero, List.getElem?_cons_succ, List.set_cons_zero, List.set_cons_succ, one1_ap, two2_ap, newL_f, newL_t, addOp_ii, subOp_ii, negOp_i, ltOp_ii, leOp_ii, gtOp_ii, geOp_ii, eqOp_ii, neOp_ii, eqOp_ss, neOp_ss, intA_i, intA_b, maxA_ii, minA_ii, lenA_lst, lenA_tup, lenA_slst, listA_lst, listA_tup, listA_slst, tupleA_lst, tupleA_tup, List.length_map, List.length_cons, List.length_nil, Bool.not_true, Bool.not_false, Bool.false_eq_true, if_true, if_false, Nat.zero_add, Nat.reduceAdd, absA_ab, l1, l3, decide_eq_true h, decide_eq_false h1, decide_eq_true h2]
          rw [if_neg (by omega), if_pos ⟨h, h2⟩]; rfl
        · simp only [sSeq_ap, sAsg_ap, sEx_ap, sRet_ap, sRetN_ap, sNil_ap, sIf_ap, sFor_ap, sSub_ap, sRaise_ap, mkWhat_ap, eVar_ap, eC_ap, eBin_ap, eUn_ap, eTup_ap, eLst_ap, eCB_ap, eCall_ap, eM_ap, eIf_ap, eAndV_ap, eOrV_ap, eNotV_ap, eChain_ap, eSl_ap, oNone_ap, oSome_ap, eXf_ap, aNil_ap, aCons_ap, tOf_ap, tTru_ap, tAndM_ap, tOrM_ap, tNotM_ap, tYesM_ap, asB_bl, truA_b, Res.bind_ok, Res.bind_exc, Res.toS_ok, Res.toS_exc, Res.of_some, SRes.bind_nx, SRes.bind_rt, SRes.bind_exc, SRes.bind_ct, SRes.bind_bk, gN_ap, List.getElem?_cons_zero, List.getElem?_cons_succ, List.set_cons_zero, List.set_cons_succ, one1_ap, two2_ap, newL_f, newL_t, addOp_ii, subOp_ii, negOp_i, ltOp_ii, leOp_ii, gtOp_ii, geOp_ii, eqOp_ii, neOp_ii, eqOp_ss, neOp_ss, intA_i, intA_b, maxA_ii, minA_ii, lenA_lst, lenA_tup, lenA_slst, listA_lst, listA_tup, listA_slst, tupleA_lst, tupleA_tup, List.length_map, List.length_cons, List.length_nil, Bool.not_true, Bool.not_false, Bool.false_eq_true, if_true, if_false, Nat.zero_add, Nat.reduceAdd, absA_ab, l1, l3, decide_eq_true h, decide_eq_false h1, decide_eq_false h2]
          rw [if_neg (by omega), if_neg (by omega), if_neg h1, if_neg h2]; rfl
    · by_cases h1 : ab p = ab l
      · simp only [sSeq_ap, sAsg_ap, sEx_ap, sRet_ap, sRetN_ap, sNil_ap, sIf_ap, sFor_ap, sSub_ap, sRaise_ap, mkWhat_ap, eVar_ap, eC_ap, eBin_ap, eUn_ap, eTup_ap, eLst_ap, eCB_ap, eCall_ap, eM_ap, eIf_ap, eAndV_ap, eOrV_ap, eNotV_ap, eChain_ap, eSl_ap, oNone_ap, oSome_ap, eXf_ap, aNil_ap, aCons_ap, tOf_ap, tTru_ap, tAndM_ap, tOrM_ap, tNotM_ap, tYesM_ap, asB_bl, truA_b, Res.bind_ok, Res.bind_exc, Res.toS_ok, Res.toS_exc, Res.of_some, SRes.bind_nx, SRes.bind_rt, SRes.bind_exc, SRes.bind_ct, SRes.bind_bk, gN_ap, List.getElem?_cons_zero, List.getElem?_cons_succ, List.set_cons_zero, List.set_cons_succ, one1_ap, two2_ap, newL_f, newL_t, addOp_ii, subOp_ii, negOp_i, ltOp_ii, leOp_ii, gtOp_ii, geOp_ii, eqOp_ii, neOp_ii, eqOp_ss, neOp_ss, intA_i, intA_b, maxA_ii, minA_ii, lenA_lst, lenA_tup, lenA_slst, listA_lst, listA_tup, listA_slst, tupleA_lst, tupleA_tup, List.length_map, List.length_cons, List.length_nil, Bool.not_true, Bool.not_false, Bool.false_eq_true, if_true, if_false, Nat.zero_add, Nat.reduceAdd, absA_ab, l1, l3, decide_eq_false h, decide_eq_true h1]
        rw [if_neg (by omega), if_neg (by omega), if_pos h1]; rfl
      · by_cases h2 : ab p = ab l + 1
        · simp only [sSeq_ap, sAsg_ap, sEx_ap, sRet_ap, sRetN_ap, sNil_ap, sIf_ap, sFor_ap, sSub_ap, sRaise_ap, mkWhat_ap, eVar_ap, eC_ap, eBin_ap, eUn_ap, eTup_ap, eLst_ap, eCB_ap, eCall_ap, eM_ap, eIf_ap, eAndV_ap, eOrV_ap, eNotV_ap, eChain_ap, eSl_ap, oNone_ap, oSome_ap, eXf_ap, aNil_ap, aCons_ap, tOf_ap, tTru_ap, tAndM_ap, tOrM_ap, tNotM_ap, tYesM_ap, asB_bl, truA_b, Res.bind_ok, Res.bind_exc, Res.toS_ok, Res.toS_exc, Res.of_some, SRes.bind_nx, SRes.bind_rt, SRes.bind_exc, SRes.bind_ct, SRes.bind_bk, gN_ap, List.getElem?_cons_zero, List.getElem?_cons_succ, List.set_cons_zero, List.set_cons_succ, one1_ap, two2_ap, newL_f, newL_t, addOp_ii, subOp_ii, negOp_i, ltOp_ii, leOp_ii, gtOp_ii, geOp_ii, eqOp_ii, neOp_ii, eqOp_ss, neOp_ss, intA_i, intA_b, maxA_ii, minA_ii, lenA_lst, lenA_tup, lenA_slst, listA_lst, listA_tup, listA_slst, tupleA_lst, tupleA_tup, List.length_map, List.length_cons, List.length_nil, Bool.not_true, Bool.not_false, Bool.false_eq_true, if_true, if_false, Nat.zero_add, Nat.reduceAdd, absA_ab, l1, l3, decide_eq_false h, decide_eq_false h1, decide_eq_true h2]
          rw [if_neg (by omega), if_neg (by omega), if_neg h1, if_pos h2]; rfl
        · simp only [sSeq_ap, sAsg_ap, sEx_ap, sRet_ap, sRetN_ap, sNil_ap, sIf_ap, sFor_ap, sSub_ap, sRaise_ap, mkWhat_ap, eVar_ap, eC_ap, eBin_ap, eUn_ap, eTup_ap, eLst_ap, eCB_ap, eCall_ap, eM_ap, eIf_ap, eAndV_ap, eOrV_ap, eNotV_ap, eChain_ap, eSl_ap, oNone_ap, oSome_ap, eXf_ap, aNil_ap, aCons_ap, tOf_ap, tTru_ap, tAndM_ap, tOrM_ap, tNotM_ap, tYesM_ap, asB_bl, truA_b, Res.bind_ok, Res.bind_exc, Res.toS_ok, Res.toS_exc, Res.of_some, SRes.bind_nx, SRes.bind_rt, SRes.bind_exc, SRes.bind_ct, SRes.bind_bk, gN_ap, List.getElem?_cons_zero, List.getElem?_cons_succ, List.set_cons_zero, List.set_cons_succ, one1_ap, two2_ap, newL_f, newL_t, addOp_ii, subOp_ii, negOp_i, ltOp_ii, leOp_ii, gtOp_ii, geOp_ii, eqOp_ii, neOp_ii, eqOp_ss, neOp_ss, intA_i, intA_b, maxA_ii, minA_ii, lenA_lst, lenA_tup, lenA_slst, listA_lst, listA_tup, listA_slst, tupleA_lst, tupleA_tup, List.length_map, List.length_cons, List.length_nil, Bool.not_true, Bool.not_false, Bool.false_eq_true, if_true, if_false, Nat.zero_add, Nat.reduceAdd, absA_ab, l1, l3, decide_eq_false h, decide_eq_false h1, decide_eq_false h2]
          rw [if_neg (by omega), if_neg (by omega), if_neg h1, if_neg h2]; rfl
  obtain ⟨v, hv, hk⟩ := key
  obtain ⟨y5, ht⟩ := tail v hv
  refine ⟨y5, ?_⟩
  rw [sSeq_ap] at hk
  show (sSeq _ (sSeq _ _)) _ _ = _
  rw [sSeq_ap]
  cases e : (sAsg (gN 5) (eLst false (aCons (eCB (one1 absA) (aCons (eVar 4) aNil)) aNil))) [x0, some (.int l), some (.int (ab l)), some (.cell c), some (.int p), x5, x6] st with
  | nx e2 s2 =>
    rw [e] at hk
    simp only [SRes.bind_nx] at hk ⊢
    rw [sSeq_ap, hk]
    simp only [SRes.bind_nx]
    exact ht
  | _ => rw [e] at hk; cases hk
end
end Gk07

set_option Elab.async false
set_option linter.all false
set_option maxRecDepth 100000
set_option maxHeartbeats 4000000
namespace Gk07
open PySem PySem.Spec L2 SL F07
open PyProof.Rows hiding St
section
variable {st : Store} {l : Int} {x0 x1 x2 x3 x4 x5 x6 : Option A}
theorem walkS {body : MS} {all : List A} {c : Nat} (hc : c = st.length) (hb : ∀ (s : Store) (p : Int) (ys : List Int) (x5 : Option A), s[c]? = some (li ys) → ys.length < 900000 → ∃ y5, body [x0, x1, x2, some (.cell c), some (.int p), x5, x6] s = .nx [x0, x1, x2, some (.cell c), some (.int p), y5, x6] (s.set c (li (ys ++ img l p)))) :
    ∀ (u ys : List Int) (x4 x5 : Option A), ys.length + 3 * u.length < 900000 → ∃ y4 y5, forL none all (gN 4) body (u.map A.int) [x0, x1, x2, some (.cell c), x4, x5, x6] (st ++ [li ys]) = .nx [x0, x1, x2, some (.cell c), y4, y5, x6] (st ++ [li (ys ++ sub l u)])
  | [], ys, x4, x5, _ => ⟨x4, x5, by rw [List.map_nil, forL, if_pos (show srcOk none all _ from trivial)]; simp [sub]⟩
  | p :: u, ys, x4, x5, hl => by
    have hi := @img_len l p
    rw [List.length_cons] at hl
    obtain ⟨y5, h1⟩ := hb (st ++ [li ys]) p ys x5 (get_app_len hc) (by omega)
    subst hc
    rw [set_len] at h1
    obtain ⟨z4, z5, ih⟩ := walkS rfl hb u (ys ++ img l p) (some (.int p)) y5 (by rw [List.length_append]; omega)
    refine ⟨z4, z5, ?_⟩
    have step : forL none all (gN 4) body ((p :: u).map A.int) [x0, x1, x2, some (.cell st.length), x4, x5, x6] (st ++ [li ys]) = (match body [x0, x1, x2, some (.cell st.length), some (.int p), x5, x6] (st ++ [li ys]) with
      | .nx e s => forL none all (gN 4) body (u.map A.int) e s
      | .ct e s => forL none all (gN 4) body (u.map A.int) e s
      | .bk e s => .nx e s
      | r => r) := by
      rw [List.map_cons, forL, if_pos (show srcOk none all _ from trivial)]; rfl
    rw [step, h1]
    show forL none all (gN 4) body (u.map A.int) _ _ = _
    rw [ih, sub_cons, List.append_assoc]
theorem moved_sp {u : List Int} (hl : u.length < 200000) : M_moved_word [lI u, .int l] st = .ok (lI (mv l u)) st := by
  have hz := sz
  have l0 : (0 : Nat) ≤ sizeLine := by omega
  have us := @und_sp st l
  obtain ⟨y4, y5, hw⟩ := @walkS st l (some (lI u)) (some (.int l)) (some (und l)) none L2_moved_word (u.map A.int) st.length rfl (fun s p ys x5 hc hl => stepM hc hl) u [] none none (by simp; omega)
  have hs := @sub_len l u
  have rd := @redP_sp (st ++ [li (sub l u)]) (.cell st.length) (sub l u) (seqR_cell (get_app_len rfl)) (by omega)
  have e0 : (li [] : C) = .lst [] := rfl
  rw [e0, List.nil_append] at hw
  refine fnM_rt rfl (a := lI (mv l u)) (st' := st ++ [li (sub l u)]) ?_ fin_lI
  show B_moved_word [some (lI u), some (.int l), none, none, none, none, none] st = _
  simp only [B_moved_word, sSeq_ap, sAsg_ap, sEx_ap, sRet_ap, sRetN_ap, sNil_ap, sIf_ap, sFor_ap, sSub_ap, sRaise_ap, mkWhat_ap, eVar_ap, eC_ap, eBin_ap, eUn_ap, eTup_ap, eLst_ap, eCB_ap, eCall_ap, eM_ap, eIf_ap, eAndV_ap, eOrV_ap, eNotV_ap, eChain_ap, eSl_ap, oNone_ap, oSome_ap, eXf_ap, aNil_ap, aCons_ap, tOf_ap, tTru_ap, tAndM_ap, tOrM_ap, tNotM_ap, tYesM_ap, asB_bl, truA_b, Res.bind_ok, Res.bind_exc, Res.toS_ok, Res.toS_exc, Res.of_some, SRes.bind_nx, SRes.bind_rt, SRes.bind_exc, SRes.bind_ct, SRes.bind_bk, gN_ap, List.getElem?_cons_zero, List.getElem?_cons_succ, List.set_cons_zero, List.set_cons_succ, one1_ap, two2_ap, newL_f, newL_t, addOp_ii, subOp_ii, negOp_i, ltOp_ii, leOp_ii, gtOp_ii, geOp_ii, eqOp_ii, neOp_ii, eqOp_ss, neOp_ss, intA_i, intA_b, maxA_ii, minA_ii, lenA_lst, lenA_tup, lenA_slst, listA_lst, listA_tup, listA_slst, tupleA_lst, tupleA_tup, List.length_map, List.length_cons, List.length_nil, Bool.not_true, Bool.not_false, Bool.false_eq_true, if_true, if_false, Nat.zero_add, Nat.reduceAdd, us, l0, mSeq_ap, seqR_lst, srcOf_lst, hw, rd]
  rfl
theorem image_sp {u : List Int} (hl : u.length < 200000) : M__law_image [lI u, .int l] st = .ok (lI (mv l u)) st := by
  have hz := sz
  have l0 : (0 : Nat) ≤ sizeLine := by omega
  obtain ⟨y4, y5, hw⟩ := @walkS st l (some (lI u)) (some (.int l)) (some (.int (ab l))) none L2__law_image (u.map A.int) st.length rfl (fun s p ys x5 hc hl => stepI hc hl) u [] none none (by simp; omega)
  have hs := @sub_len l u
  have rd := @redL_sp (st ++ [li (sub l u)]) (.cell st.length) (sub l u) (seqR_cell (get_app_len rfl)) (by omega)
  have e0 : (li [] : C) = .lst [] := rfl
  rw [e0, List.nil_append] at hw
  refine fnM_rt rfl (a := lI (mv l u)) (st' := st ++ [li (sub l u)]) ?_ fin_lI
  show B__law_image [some (lI u), some (.int l), none, none, none, none, none] st = _
  simp only [B__law_image, sSeq_ap, sAsg_ap, sEx_ap, sRet_ap, sRetN_ap, sNil_ap, sIf_ap, sFor_ap, sSub_ap, sRaise_ap, mkWhat_ap, eVar_ap, eC_ap, eBin_ap, eUn_ap, eTup_ap, eLst_ap, eCB_ap, eCall_ap, eM_ap, eIf_ap, eAndV_ap, eOrV_ap, eNotV_ap, eChain_ap, eSl_ap, oNone_ap, oSome_ap, eXf_ap, aNil_ap, aCons_ap, tOf_ap, tTru_ap, tAndM_ap, tOrM_ap, tNotM_ap, tYesM_ap, asB_bl, truA_b, Res.bind_ok, Res.bind_exc, Res.toS_ok, Res.toS_exc, Res.of_some, SRes.bind_nx, SRes.bind_rt, SRes.bind_exc, SRes.bind_ct, SRes.bind_bk, gN_ap, List.getElem?_cons_zero, List.getElem?_cons_succ, List.set_cons_zero, List.set_cons_succ, one1_ap, two2_ap, newL_f, newL_t, addOp_ii, subOp_ii, negOp_i, ltOp_ii, leOp_ii, gtOp_ii, geOp_ii, eqOp_ii, neOp_ii, eqOp_ss, neOp_ss, intA_i, intA_b, maxA_ii, minA_ii, lenA_lst, lenA_tup, lenA_slst, listA_lst, listA_tup, listA_slst, tupleA_lst, tupleA_tup, List.length_map, List.length_cons, List.length_nil, Bool.not_true, Bool.not_false, Bool.false_eq_true, if_true, if_false, Nat.zero_add, Nat.reduceAdd, absA_ab, l0, mSeq_ap, seqR_lst, srcOf_lst, hw, rd]
  rfl
/-! comprehensions over any values -/
theorem lcLG {α : Type} {emb f : α → A} {all : List A} {i : Nat} {me : AEnv → Store → Res A} {env0 : AEnv} : ∀ (xs : List α) (acc : List A), acc.length + xs.length ≤ sizeLine → (∀ x ∈ xs, me (env0.set i (some (emb x))) st = .ok (f x) st) →
    lcL none all (gN i) tYesM me env0 (xs.map emb) acc st = .ok (acc ++ xs.map f) st
  | [], acc, _, _ => by rw [List.map_nil, lcL, if_pos (show srcOk none all st from trivial)]; simp
  | x :: xs, acc, hl, h => by
    have hz := sz
    rw [List.map_cons, lcL, if_pos (show srcOk none all st from trivial)]
    rw [List.length_cons] at hl
    simp only [gN_ap, tYesM_ap, noX, Res.bind_ok, if_true, h x (by simp)]
    rw [if_pos (by omega), lcLG xs (acc ++ [f x]) (by simp; omega) fun y hy => h y (by simp [hy])]
    simp
theorem lcG {α : Type} {emb f : α → A} {mi : MI} {i : Nat} {own : List Nat} {ma : AEnv → Store → Res A} {env : AEnv} {xs : List α} (hmi : mi env st = .ok (xs.map emb, none) st) (hl : xs.length ≤ sizeLine)
    (h : ∀ x ∈ xs, ma ((wipeA env own).set i (some (emb x))) st = .ok (f x) st) : eLc false mi (gN i) own tYesM ma env st = .ok (.lst (xs.map f)) st := by
  rw [eLc_ap, hmi]
  simp only [Res.bind_ok]
  rw [lcLG xs [] (by simpa using hl) h]
  simp [newL_f]
abbrev lL (S : List (List Int)) : A := .lst (S.map lI)
theorem listOp_lI {f : List Int → Int} {ns : List Int} (h : ns ≠ []) : listOp f (lI ns) st = some (.int (f ns), st) := by
  cases ns with
  | nil => exact absurd rfl h
  | cons n ns =>
    simp only [listOp, lstR, lstH, Option.some_or]
    rw [intsA_map]
theorem max_big {S : List (List Int)} (h : S ≠ []) : (maxL (S.map fun u => (u.length : Int)) > 20000) ↔ big S = true := by
  constructor
  · intro hm
    have := maxL_mem (l := S.map fun u => (u.length : Int)) (by simpa using h)
    obtain ⟨u, hu, e⟩ := List.mem_map.mp this
    unfold big
    rw [List.any_eq_true]
    exact ⟨u, hu, by rw [← e] at hm; exact decide_eq_true (by omega)⟩
  · intro hb
    unfold big at hb
    rw [List.any_eq_true] at hb
    obtain ⟨u, hu, h1⟩ := hb
    have h1 := of_decide_eq_true h1
    have := maxL_ge (l := S.map fun u => (u.length : Int)) (y := (u.length : Int)) (List.mem_map.mpr ⟨u, hu, rfl⟩)
    omega
variable {n : Nat} {w : List Int}
theorem gens_lc {f : Int → Int} {mi : MI} {i : Nat} {own : List Nat} {ma : AEnv → Store → Res A} {env : AEnv} (hn : n ≤ 8) (hmi : mi env st = .ok (((List.range n).map fun (j : Nat) => f (j : Int)).map A.int, none) st)
    (h : ∀ j : Nat, j < n → ma ((wipeA env own).set i (some (.int (f j)))) st = .ok (lI [(j : Int) + 1]) st) : eLc false mi (gN i) own tYesM ma env st = .ok (lL (gens n)) st := by
  have hz := sz
  have := @lcG st Nat (fun j => .int (f j)) (fun j => lI [(j : Int) + 1]) mi i own ma env (List.range n) (by rw [hmi, List.map_map]; rfl) (by rw [List.length_range]; omega) fun j hj => h j (List.mem_range.mp hj)
  rw [this]
  unfold gens lL
  rw [List.map_map]; rfl
/-- one letter of action -/
theorem actS {S : List (List Int)} {l : Int} (hS : S ≠ []) (hb : big S = false) (hn : S.length < 1000) : L4_action [x0, some (lL S), some (.int l), x3, x4] st = (if big (S.map (mv l)) then .exc (exW "TooMany" "letters") [x0, some (lL (S.map (mv l))), some (.int l), x3, x4] st else .nx [x0, some (lL (S.map (mv l))), some (.int l), x3, x4] st) := by
  have hz := sz
  have ll := ln_l
  have lens := big_false.mp hb
  have c1 := @lcG st (List Int) lI (fun u => lI (mv l u)) (mSeq (eVar 1)) 4 [4] e2_action [x0, some (lL S), some (.int l), x3, x4] S (by simp only [mSeq_ap, eVar_ap, List.getElem?_cons_succ, List.getElem?_cons_zero, Res.bind_ok, seqR_lst, srcOf_lst]) (by omega) (fun u hu => by
    have m := @moved_sp st l u (by have := lens u hu; omega)
    show e2_action [x0, some (lL S), some (.int l), x3, some (lI u)] st = _
    simp only [e2_action, sSeq_ap, sAsg_ap, sEx_ap, sRet_ap, sRetN_ap, sNil_ap, sIf_ap, sFor_ap, sSub_ap, sRaise_ap, mkWhat_ap, eVar_ap, eC_ap, eBin_ap, eUn_ap, eTup_ap, eLst_ap, eCB_ap, eCall_ap, eM_ap, eIf_ap, eAndV_ap, eOrV_ap, eNotV_ap, eChain_ap, eSl_ap, oNone_ap, oSome_ap, eXf_ap, aNil_ap, aCons_ap, tOf_ap, tTru_ap, tAndM_ap, tOrM_ap, tNotM_ap, tYesM_ap, asB_bl, truA_b, Res.bind_ok, Res.bind_exc, Res.toS_ok, Res.toS_exc, Res.of_some, SRes.bind_nx, SRes.bind_rt, SRes.bind_exc, SRes.bind_ct, SRes.bind_bk, gN_ap, List.getElem?_cons_zero, List.getElem?_cons_succ, List.set_cons_zero, List.set_cons_succ, one1_ap, two2_ap, newL_f, newL_t, addOp_ii, subOp_ii, negOp_i, ltOp_ii, leOp_ii, gtOp_ii, geOp_ii, eqOp_ii, neOp_ii, eqOp_ss, neOp_ss, intA_i, intA_b, maxA_ii, minA_ii, lenA_lst, lenA_tup, lenA_slst, listA_lst, listA_tup, listA_slst, tupleA_lst, tupleA_tup, List.length_map, List.length_cons, List.length_nil, Bool.not_true, Bool.not_false, Bool.false_eq_true, if_true, if_false, Nat.zero_add, Nat.reduceAdd, m])
  have e1 : (S.map fun u => lI (mv l u)) = (S.map (mv l)).map lI := by rw [List.map_map]; rfl
  rw [e1] at c1
  have c2 := @lcG st (List Int) lI (fun u => .int (u.length : Int)) (mSeq (eVar 1)) 4 [4] e3_action [x0, some (lL (S.map (mv l))), some (.int l), x3, x4] (S.map (mv l)) (by simp only [mSeq_ap, eVar_ap, List.getElem?_cons_succ, List.getElem?_cons_zero, Res.bind_ok, seqR_lst, srcOf_lst]) (by rw [List.length_map]; omega) (fun u hu => by
    show e3_action [x0, some (lL (S.map (mv l))), some (.int l), x3, some (lI u)] st = _
    simp only [e3_action, sSeq_ap, sAsg_ap, sEx_ap, sRet_ap, sRetN_ap, sNil_ap, sIf_ap, sFor_ap, sSub_ap, sRaise_ap, mkWhat_ap, eVar_ap, eC_ap, eBin_ap, eUn_ap, eTup_ap, eLst_ap, eCB_ap, eCall_ap, eM_ap, eIf_ap, eAndV_ap, eOrV_ap, eNotV_ap, eChain_ap, eSl_ap, oNone_ap, oSome_ap, eXf_ap, aNil_ap, aCons_ap, tOf_ap, tTru_ap, tAndM_ap, tOrM_ap, tNotM_ap, tYesM_ap, asB_bl, truA_b, Res.bind_ok, Res.bind_exc, Res.toS_ok, Res.toS_exc, Res.of_some, SRes.bind_nx, SRes.bind_rt, SRes.bind_exc, SRes.bind_ct, SRes.bind_bk, gN_ap, List.getElem?_cons_zero, List.getElem?_cons_succ, List.set_cons_zero, List.set_cons_succ, one1_ap, two2_ap, newL_f, newL_t, addOp_ii, subOp_ii, negOp_i, ltOp_ii, leOp_ii, gtOp_ii, geOp_ii, eqOp_ii, neOp_ii, eqOp_ss, neOp_ss, intA_i, intA_b, maxA_ii, minA_ii, lenA_lst, lenA_tup, lenA_slst, listA_lst, listA_tup, listA_slst, tupleA_lst, tupleA_tup, List.length_map, List.length_cons, List.length_nil, Bool.not_true, Bool.not_false, Bool.false_eq_true, if_true, if_false, Nat.zero_add, Nat.reduceAdd])
  have e2 : ((S.map (mv l)).map fun u => A.int (u.length : Int)) = ((S.map (mv l)).map fun u => (u.length : Int)).map A.int := by rw [List.map_map, List.map_map, List.map_map]; rfl
  rw [e2] at c2
  have hne : S.map (mv l) ≠ [] := by simpa using hS
  have mx := @listOp_lI st maxL ((S.map (mv l)).map fun u => (u.length : Int)) (by simpa using hS)
  have mb := max_big hne
  by_cases h : big (S.map (mv l)) = true
  · rw [if_pos h]
    have h2 := mb.mpr h
    simp only [L4_action, sSeq_ap, sAsg_ap, c1, Res.toS_ok, gN_ap, List.set_cons_succ, List.set_cons_zero, SRes.bind_nx, sIf_ap, tOf_ap, eBin_ap, eCB_ap, aCons_ap, c2, Res.bind_ok, aNil_ap, one1_ap, mx, Res.of_some, eC_ap, gtOp_ii, decide_eq_true h2, asB_bl, if_true, sRaise_ap, mkWhat_ap, ll, Res.toS_ok, exW]
  · rw [if_neg h]
    have h2 : ¬ maxL ((S.map (mv l)).map fun u => (u.length : Int)) > 20000 := fun z => h (mb.mp z)
    simp only [L4_action, sSeq_ap, sAsg_ap, c1, Res.toS_ok, gN_ap, List.set_cons_succ, List.set_cons_zero, SRes.bind_nx, sIf_ap, tOf_ap, eBin_ap, eCB_ap, aCons_ap, c2, Res.bind_ok, aNil_ap, one1_ap, mx, Res.of_some, eC_ap, gtOp_ii, decide_eq_false h2, asB_bl, Bool.false_eq_true, if_false, sNil_ap]
theorem act_loop {all : List A} : ∀ (w : List Int) (S : List (List Int)) (x2 : Option A), S ≠ [] → big S = false → S.length < 1000 →
    (∀ T, runI S w = some T → ∃ y2, forL none all (gN 2) L4_action (w.map A.int) [x0, some (lL S), x2, x3, x4] st = .nx [x0, some (lL T), y2, x3, x4] st) ∧
    (runI S w = none → ∃ e, forL none all (gN 2) L4_action (w.map A.int) [x0, some (lL S), x2, x3, x4] st = .exc (exW "TooMany" "letters") e st)
  | [], S, x2, _, _, _ => ⟨fun T h => by
      simp [runI] at h; subst h
      exact ⟨x2, by rw [List.map_nil, forL, if_pos (show srcOk none all _ from trivial)]⟩, fun h => by simp [runI] at h⟩
  | l :: w, S, x2, hS, hb, hn => by
    have step : forL none all (gN 2) L4_action ((l :: w).map A.int) [x0, some (lL S), x2, x3, x4] st = (match L4_action [x0, some (lL S), some (.int l), x3, x4] st with
      | .nx e s => forL none all (gN 2) L4_action (w.map A.int) e s
      | .ct e s => forL none all (gN 2) L4_action (w.map A.int) e s
      | .bk e s => .nx e s
      | r => r) := by
      rw [List.map_cons, forL, if_pos (show srcOk none all _ from trivial)]; rfl
    rw [step, actS hS hb hn, runI]
    by_cases h : big (S.map (mv l)) = true
    · rw [if_pos h, if_pos h]
      exact ⟨fun T e => (by cases e), fun _ => ⟨_, rfl⟩⟩
    · rw [if_neg h, if_neg h]
      exact act_loop w (S.map (mv l)) (some (.int l)) (by simpa using hS) (by simpa using h) (by simpa using hn)
theorem gens_ne (h1 : 1 ≤ n) : gens n ≠ [] := by
  unfold gens
  simp; omega
/-- what action answers -/
def outA (n : Nat) (w : List Int) (st : Store) : Res A := match runI (gens n) w with
  | some T => .ok (lL T) st
  | none => .exc (exW "TooMany" "letters") st
theorem bel_lL {k : Nat} {S : List (List Int)} : (lL S).bel k = true := bel_lst fun x hx => by
  obtain ⟨u, _, rfl⟩ := List.mem_map.mp hx
  exact bel_lI
theorem action_sp (h1 : 1 ≤ n) (h8 : n ≤ 8) : M_action [bo n w] st = outA n w st := by
  have hz := sz
  have l1 : (1 : Nat) ≤ sizeLine := by omega
  have fs := @fld_s st n w
  have fw := @fld_w st n w
  have er : mRng2 (aCons (eC (.int 1)) (aCons (eBin (addOp false) (eUn (fldOp ["Braid"] "strands") (eVar 0)) (eC (.int 1))) aNil)) [some (bo n w), none, none, none, none] st = .ok (((List.range n).map fun (j : Nat) => (fun x => x + 1) (j : Int)).map A.int, none) st := by
    rw [mRng2_ap (m := 1) (n := (n : Int) + 1) (by simp only [sSeq_ap, sAsg_ap, sEx_ap, sRet_ap, sRetN_ap, sNil_ap, sIf_ap, sFor_ap, sSub_ap, sRaise_ap, mkWhat_ap, eVar_ap, eC_ap, eBin_ap, eUn_ap, eTup_ap, eLst_ap, eCB_ap, eCall_ap, eM_ap, eIf_ap, eAndV_ap, eOrV_ap, eNotV_ap, eChain_ap, eSl_ap, oNone_ap, oSome_ap, eXf_ap, aNil_ap, aCons_ap, tOf_ap, tTru_ap, tAndM_ap, tOrM_ap, tNotM_ap, tYesM_ap, asB_bl, truA_b, Res.bind_ok, Res.bind_exc, Res.toS_ok, Res.toS_exc, Res.of_some, SRes.bind_nx, SRes.bind_rt, SRes.bind_exc, SRes.bind_ct, SRes.bind_bk, gN_ap, List.getElem?_cons_zero, List.getElem?_cons_succ, List.set_cons_zero, List.set_cons_succ, one1_ap, two2_ap, newL_f, newL_t, addOp_ii, subOp_ii, negOp_i, ltOp_ii, leOp_ii, gtOp_ii, geOp_ii, eqOp_ii, neOp_ii, eqOp_ss, neOp_ss, intA_i, intA_b, maxA_ii, minA_ii, lenA_lst, lenA_tup, lenA_slst, listA_lst, listA_tup, listA_slst, tupleA_lst, tupleA_tup, List.length_map, List.length_cons, List.length_nil, Bool.not_true, Bool.not_false, Bool.false_eq_true, if_true, if_false, Nat.zero_add, Nat.reduceAdd, fs]) (by omega) (by omega) (by omega) (by omega), rgA_intsG]
    rw [show ((n : Int) + 1 - 1).toNat = n by omega]
    congr 3
    exact List.map_congr_left fun i _ => by show (1 : Int) + i = i + 1; omega
  have gl := @gens_lc st n (fun x => x + 1) _ 3 [3] e1_action _ h8 er (fun j hj => by
    show e1_action [some (bo n w), none, none, some (.int ((j : Int) + 1)), none] st = _
    simp only [e1_action, sSeq_ap, sAsg_ap, sEx_ap, sRet_ap, sRetN_ap, sNil_ap, sIf_ap, sFor_ap, sSub_ap, sRaise_ap, mkWhat_ap, eVar_ap, eC_ap, eBin_ap, eUn_ap, eTup_ap, eLst_ap, eCB_ap, eCall_ap, eM_ap, eIf_ap, eAndV_ap, eOrV_ap, eNotV_ap, eChain_ap, eSl_ap, oNone_ap, oSome_ap, eXf_ap, aNil_ap, aCons_ap, tOf_ap, tTru_ap, tAndM_ap, tOrM_ap, tNotM_ap, tYesM_ap, asB_bl, truA_b, Res.bind_ok, Res.bind_exc, Res.toS_ok, Res.toS_exc, Res.of_some, SRes.bind_nx, SRes.bind_rt, SRes.bind_exc, SRes.bind_ct, SRes.bind_bk, gN_ap, List.getElem?_cons_zero, List.getElem?_cons_succ, List.set_cons_zero, List.set_cons_succ, one1_ap, two2_ap, newL_f, newL_t, addOp_ii, subOp_ii, negOp_i, ltOp_ii, leOp_ii, gtOp_ii, geOp_ii, eqOp_ii, neOp_ii, eqOp_ss, neOp_ss, intA_i, intA_b, maxA_ii, minA_ii, lenA_lst, lenA_tup, lenA_slst, listA_lst, listA_tup, listA_slst, tupleA_lst, tupleA_tup, List.length_map, List.length_cons, List.length_nil, Bool.not_true, Bool.not_false, Bool.false_eq_true, if_true, if_false, Nat.zero_add, Nat.reduceAdd, l1]; rfl)
  obtain ⟨a1, a2⟩ := @act_loop st (some (bo n w)) none none (w.map A.int) w (gens n) none (gens_ne h1) gens_big (by unfold gens; simp; omega)
  unfold outA
  cases e : runI (gens n) w with
  | some T =>
    obtain ⟨y2, h⟩ := a1 T e
    refine fnM_rt rfl (a := lL T) (st' := st) ?_ (fin_pure0 bel_lL (by intro c h; cases h))
    show B_action [some (bo n w), none, none, none, none] st = _
    simp only [B_action, sSeq_ap, sAsg_ap, gl, Res.toS_ok, gN_ap, List.set_cons_succ, List.set_cons_zero, SRes.bind_nx, sFor_ap, mSeq_ap, eUn_ap, eVar_ap, List.getElem?_cons_succ, List.getElem?_cons_zero, Res.bind_ok, fw, Res.of_some, seqR_lst, srcOf_lst, h, sRet_ap]
  | none =>
    obtain ⟨e', h⟩ := a2 e
    refine fnM_exc0 rfl (e := e') ?_ (by simp [exW, belowL, A.bel])
    show B_action [some (bo n w), none, none, none, none] st = _
    simp only [B_action, sSeq_ap, sAsg_ap, gl, Res.toS_ok, gN_ap, List.set_cons_succ, List.set_cons_zero, SRes.bind_nx, sFor_ap, mSeq_ap, eUn_ap, eVar_ap, List.getElem?_cons_succ, List.getElem?_cons_zero, Res.bind_ok, fw, Res.of_some, seqR_lst, srcOf_lst, h, SRes.bind_exc]
end
end Gk07

set_option Elab.async false
set_option linter.all false
set_option maxRecDepth 100000
set_option maxHeartbeats 4000000
namespace Gk07
open PySem PySem.Spec L2 SL F07
open PyProof.Rows hiding St
section
variable {st : Store} {l : Int} {x0 x1 x2 x3 x4 x5 x6 : Option A} {n : Nat} {w : List Int}
theorem len_loop {all : List A} : ∀ (S : List (List Int)) (x5 : Option A), (big S = false → ∃ y5, forL none all (gN 5) L3__law_images (S.map lI) [x0, x1, some (.int 20000), x3, x4, x5, x6] st = .nx [x0, x1, some (.int 20000), x3, x4, y5, x6] st) ∧
    (big S = true → forL none all (gN 5) L3__law_images (S.map lI) [x0, x1, some (.int 20000), x3, x4, x5, x6] st = .rt .non st)
  | [], x5 => ⟨fun _ => ⟨x5, by rw [List.map_nil, forL, if_pos (show srcOk none all _ from trivial)]⟩, fun h => by simp [big] at h⟩
  | u :: S, x5 => by
    have step : forL none all (gN 5) L3__law_images ((u :: S).map lI) [x0, x1, some (.int 20000), x3, x4, x5, x6] st = (match L3__law_images [x0, x1, some (.int 20000), x3, x4, some (lI u), x6] st with
      | .nx e s => forL none all (gN 5) L3__law_images (S.map lI) e s
      | .ct e s => forL none all (gN 5) L3__law_images (S.map lI) e s
      | .bk e s => .nx e s
      | r => r) := by
      rw [List.map_cons, forL, if_pos (show srcOk none all _ from trivial)]; rfl
    rw [step]
    have hb : big (u :: S) = (decide (20000 < u.length) || big S) := rfl
    obtain ⟨i1, i2⟩ := len_loop S (some (lI u))
    by_cases h : (u.length : Int) > 20000
    · have hbd : L3__law_images [x0, x1, some (.int 20000), x3, x4, some (lI u), x6] st = .rt .non st := by
        simp only [L3__law_images, sSeq_ap, sAsg_ap, sEx_ap, sRet_ap, sRetN_ap, sNil_ap, sIf_ap, sFor_ap, sSub_ap, sRaise_ap, mkWhat_ap, eVar_ap, eC_ap, eBin_ap, eUn_ap, eTup_ap, eLst_ap, eCB_ap, eCall_ap, eM_ap, eIf_ap, eAndV_ap, eOrV_ap, eNotV_ap, eChain_ap, eSl_ap, oNone_ap, oSome_ap, eXf_ap, aNil_ap, aCons_ap, tOf_ap, tTru_ap, tAndM_ap, tOrM_ap, tNotM_ap, tYesM_ap, asB_bl, truA_b, Res.bind_ok, Res.bind_exc, Res.toS_ok, Res.toS_exc, Res.of_some, SRes.bind_nx, SRes.bind_rt, SRes.bind_exc, SRes.bind_ct, SRes.bind_bk, gN_ap, List.getElem?_cons_zero, List.getElem?_cons_succ, List.set_cons_zero, List.set_cons_succ, one1_ap, two2_ap, newL_f, newL_t, addOp_ii, subOp_ii, negOp_i, ltOp_ii, leOp_ii, gtOp_ii, geOp_ii, eqOp_ii, neOp_ii, eqOp_ss, neOp_ss, intA_i, intA_b, maxA_ii, minA_ii, lenA_lst, lenA_tup, lenA_slst, listA_lst, listA_tup, listA_slst, tupleA_lst, tupleA_tup, List.length_map, List.length_cons, List.length_nil, Bool.not_true, Bool.not_false, Bool.false_eq_true, if_true, if_false, Nat.zero_add, Nat.reduceAdd, decide_eq_true h]
      rw [hbd, hb, decide_eq_true (show 20000 < u.length by omega)]
      exact ⟨fun h => (by simp at h), fun _ => rfl⟩
    · have hbd : L3__law_images [x0, x1, some (.int 20000), x3, x4, some (lI u), x6] st = .nx [x0, x1, some (.int 20000), x3, x4, some (lI u), x6] st := by
        simp only [L3__law_images, sSeq_ap, sAsg_ap, sEx_ap, sRet_ap, sRetN_ap, sNil_ap, sIf_ap, sFor_ap, sSub_ap, sRaise_ap, mkWhat_ap, eVar_ap, eC_ap, eBin_ap, eUn_ap, eTup_ap, eLst_ap, eCB_ap, eCall_ap, eM_ap, eIf_ap, eAndV_ap, eOrV_ap, eNotV_ap, eChain_ap, eSl_ap, oNone_ap, oSome_ap, eXf_ap, aNil_ap, aCons_ap, tOf_ap, tTru_ap, tAndM_ap, tOrM_ap, tNotM_ap, tYesM_ap, asB_bl, truA_b, Res.bind_ok, Res.bind_exc, Res.toS_ok, Res.toS_exc, Res.of_some, SRes.bind_nx, SRes.bind_rt, SRes.bind_exc, SRes.bind_ct, SRes.bind_bk, gN_ap, List.getElem?_cons_zero, List.getElem?_cons_succ, List.set_cons_zero, List.set_cons_succ, one1_ap, two2_ap, newL_f, newL_t, addOp_ii, subOp_ii, negOp_i, ltOp_ii, leOp_ii, gtOp_ii, geOp_ii, eqOp_ii, neOp_ii, eqOp_ss, neOp_ss, intA_i, intA_b, maxA_ii, minA_ii, lenA_lst, lenA_tup, lenA_slst, listA_lst, listA_tup, listA_slst, tupleA_lst, tupleA_tup, List.length_map, List.length_cons, List.length_nil, Bool.not_true, Bool.not_false, Bool.false_eq_true, if_true, if_false, Nat.zero_add, Nat.reduceAdd, decide_eq_false h]
      rw [hbd, hb, decide_eq_false (show ¬ 20000 < u.length by omega), Bool.false_or]
      exact ⟨i1, i2⟩
theorem imgS {S : List (List Int)} {l : Int} (hb : big S = false) (hn : S.length < 1000) : (big (S.map (mv l)) = false → ∃ y5, L4__law_images [x0, x1, some (.int 20000), some (lL S), some (.int l), x5, x6] st = .nx [x0, x1, some (.int 20000), some (lL (S.map (mv l))), some (.int l), y5, x6] st) ∧
    (big (S.map (mv l)) = true → L4__law_images [x0, x1, some (.int 20000), some (lL S), some (.int l), x5, x6] st = .rt .non st) := by
  have hz := sz
  have lens := big_false.mp hb
  have c1 := @lcG st (List Int) lI (fun u => lI (mv l u)) (mSeq (eVar 3)) 5 [5] e2__law_images [x0, x1, some (.int 20000), some (lL S), some (.int l), x5, x6] S (by simp only [mSeq_ap, eVar_ap, List.getElem?_cons_succ, List.getElem?_cons_zero, Res.bind_ok, seqR_lst, srcOf_lst]) (by omega) (fun u hu => by
    have m := @image_sp st l u (by have := lens u hu; omega)
    show e2__law_images [x0, x1, some (.int 20000), some (lL S), some (.int l), some (lI u), x6] st = _
    simp only [e2__law_images, sSeq_ap, sAsg_ap, sEx_ap, sRet_ap, sRetN_ap, sNil_ap, sIf_ap, sFor_ap, sSub_ap, sRaise_ap, mkWhat_ap, eVar_ap, eC_ap, eBin_ap, eUn_ap, eTup_ap, eLst_ap, eCB_ap, eCall_ap, eM_ap, eIf_ap, eAndV_ap, eOrV_ap, eNotV_ap, eChain_ap, eSl_ap, oNone_ap, oSome_ap, eXf_ap, aNil_ap, aCons_ap, tOf_ap, tTru_ap, tAndM_ap, tOrM_ap, tNotM_ap, tYesM_ap, asB_bl, truA_b, Res.bind_ok, Res.bind_exc, Res.toS_ok, Res.toS_exc, Res.of_some, SRes.bind_nx, SRes.bind_rt, SRes.bind_exc, SRes.bind_ct, SRes.bind_bk, gN_ap, List.getElem?_cons_zero, List.getElem?_cons_succ, List.set_cons_zero, List.set_cons_succ, one1_ap, two2_ap, newL_f, newL_t, addOp_ii, subOp_ii, negOp_i, ltOp_ii, leOp_ii, gtOp_ii, geOp_ii, eqOp_ii, neOp_ii, eqOp_ss, neOp_ss, intA_i, intA_b, maxA_ii, minA_ii, lenA_lst, lenA_tup, lenA_slst, listA_lst, listA_tup, listA_slst, tupleA_lst, tupleA_tup, List.length_map, List.length_cons, List.length_nil, Bool.not_true, Bool.not_false, Bool.false_eq_true, if_true, if_false, Nat.zero_add, Nat.reduceAdd, m])
  have e1 : (S.map fun u => lI (mv l u)) = (S.map (mv l)).map lI := by rw [List.map_map]; rfl
  rw [e1] at c1
  obtain ⟨i1, i2⟩ := @len_loop st x0 x1 (some (lL (S.map (mv l)))) (some (.int l)) x6 ((S.map (mv l)).map lI) (S.map (mv l)) x5
  refine ⟨fun h => ?_, fun h => ?_⟩
  · obtain ⟨y5, h5⟩ := i1 h
    refine ⟨y5, ?_⟩
    simp only [L4__law_images, sSeq_ap, sAsg_ap, c1, Res.toS_ok, gN_ap, List.set_cons_succ, List.set_cons_zero, SRes.bind_nx, sFor_ap, mSeq_ap, eVar_ap, List.getElem?_cons_succ, List.getElem?_cons_zero, Res.bind_ok, seqR_lst, srcOf_lst, h5]
  · have h5 := i2 h
    simp only [L4__law_images, sSeq_ap, sAsg_ap, c1, Res.toS_ok, gN_ap, List.set_cons_succ, List.set_cons_zero, SRes.bind_nx, sFor_ap, mSeq_ap, eVar_ap, List.getElem?_cons_succ, List.getElem?_cons_zero, Res.bind_ok, seqR_lst, srcOf_lst, h5]
theorem img_loop {all : List A} : ∀ (w : List Int) (S : List (List Int)) (x4 x5 : Option A), big S = false → S.length < 1000 →
    (∀ T, runI S w = some T → ∃ y4 y5, forL none all (gN 4) L4__law_images (w.map A.int) [x0, x1, some (.int 20000), some (lL S), x4, x5, x6] st = .nx [x0, x1, some (.int 20000), some (lL T), y4, y5, x6] st) ∧
    (runI S w = none → forL none all (gN 4) L4__law_images (w.map A.int) [x0, x1, some (.int 20000), some (lL S), x4, x5, x6] st = .rt .non st)
  | [], S, x4, x5, _, _ => ⟨fun T h => by
      simp [runI] at h; subst h
      exact ⟨x4, x5, by rw [List.map_nil, forL, if_pos (show srcOk none all _ from trivial)]⟩, fun h => by simp [runI] at h⟩
  | l :: w, S, x4, x5, hb, hn => by
    have step : forL none all (gN 4) L4__law_images ((l :: w).map A.int) [x0, x1, some (.int 20000), some (lL S), x4, x5, x6] st = (match L4__law_images [x0, x1, some (.int 20000), some (lL S), some (.int l), x5, x6] st with
      | .nx e s => forL none all (gN 4) L4__law_images (w.map A.int) e s
      | .ct e s => forL none all (gN 4) L4__law_images (w.map A.int) e s
      | .bk e s => .nx e s
      | r => r) := by
      rw [List.map_cons, forL, if_pos (show srcOk none all _ from trivial)]; rfl
    obtain ⟨i1, i2⟩ := @imgS st x0 x1 x5 x6 S l hb hn
    rw [step, runI]
    by_cases h : big (S.map (mv l)) = true
    · rw [i2 h, if_pos h]
      exact ⟨fun T e => (by cases e), fun _ => rfl⟩
    · rw [if_neg h]
      obtain ⟨y5, h5⟩ := i1 (by simpa using h)
      rw [h5]
      exact img_loop w (S.map (mv l)) (some (.int l)) y5 (by simpa using h) (by simpa using hn)
/-- what the law's own images are -/
def ownA (n : Nat) (w : List Int) : A := match runI (gens n) w with
  | some T => lL T
  | none => .non
theorem images_sp (h8 : n ≤ 8) : M__law_images [.int n, lI w, .int 20000] st = .ok (ownA n w) st := by
  have hz := sz
  have l1 : (1 : Nat) ≤ sizeLine := by omega
  have er : mRng1 (aCons (eVar 0) aNil) [some (.int (n : Int)), some (lI w), some (.int 20000), none, none, none, none] st = .ok (((List.range n).map fun (j : Nat) => (fun x => x) (j : Int)).map A.int, none) st := rng1 (by omega) rfl
  have gl := @gens_lc st n (fun x => x) _ 6 [6] e1__law_images _ h8 er (fun j hj => by
    show e1__law_images [some (.int (n : Int)), some (lI w), some (.int 20000), none, none, none, some (.int (j : Int))] st = _
    simp only [e1__law_images, sSeq_ap, sAsg_ap, sEx_ap, sRet_ap, sRetN_ap, sNil_ap, sIf_ap, sFor_ap, sSub_ap, sRaise_ap, mkWhat_ap, eVar_ap, eC_ap, eBin_ap, eUn_ap, eTup_ap, eLst_ap, eCB_ap, eCall_ap, eM_ap, eIf_ap, eAndV_ap, eOrV_ap, eNotV_ap, eChain_ap, eSl_ap, oNone_ap, oSome_ap, eXf_ap, aNil_ap, aCons_ap, tOf_ap, tTru_ap, tAndM_ap, tOrM_ap, tNotM_ap, tYesM_ap, asB_bl, truA_b, Res.bind_ok, Res.bind_exc, Res.toS_ok, Res.toS_exc, Res.of_some, SRes.bind_nx, SRes.bind_rt, SRes.bind_exc, SRes.bind_ct, SRes.bind_bk, gN_ap, List.getElem?_cons_zero, List.getElem?_cons_succ, List.set_cons_zero, List.set_cons_succ, one1_ap, two2_ap, newL_f, newL_t, addOp_ii, subOp_ii, negOp_i, ltOp_ii, leOp_ii, gtOp_ii, geOp_ii, eqOp_ii, neOp_ii, eqOp_ss, neOp_ss, intA_i, intA_b, maxA_ii, minA_ii, lenA_lst, lenA_tup, lenA_slst, listA_lst, listA_tup, listA_slst, tupleA_lst, tupleA_tup, List.length_map, List.length_cons, List.length_nil, Bool.not_true, Bool.not_false, Bool.false_eq_true, if_true, if_false, Nat.zero_add, Nat.reduceAdd, l1]; rfl)
  obtain ⟨a1, a2⟩ := @img_loop st (some (.int (n : Int))) (some (lI w)) none (w.map A.int) w (gens n) none none gens_big (by unfold gens; simp; omega)
  unfold ownA
  cases e : runI (gens n) w with
  | some T =>
    obtain ⟨y4, y5, h⟩ := a1 T e
    refine fnM_rt rfl (a := lL T) (st' := st) ?_ (fin_pure0 bel_lL (by intro c h; cases h))
    show B__law_images [some (.int (n : Int)), some (lI w), some (.int 20000), none, none, none, none] st = _
    simp only [B__law_images, sSeq_ap, sAsg_ap, gl, Res.toS_ok, gN_ap, List.set_cons_succ, List.set_cons_zero, SRes.bind_nx, sFor_ap, mSeq_ap, eVar_ap, List.getElem?_cons_succ, List.getElem?_cons_zero, Res.bind_ok, seqR_lst, srcOf_lst, h, sRet_ap]
  | none =>
    have h := a2 e
    refine fnM_rt rfl (a := .non) (st' := st) ?_ (fin_pure0 (by simp [A.bel]) (by intro c h; cases h))
    show B__law_images [some (.int (n : Int)), some (lI w), some (.int 20000), none, none, none, none] st = _
    simp only [B__law_images, sSeq_ap, sAsg_ap, gl, Res.toS_ok, gN_ap, List.set_cons_succ, List.set_cons_zero, SRes.bind_nx, sFor_ap, mSeq_ap, eVar_ap, List.getElem?_cons_succ, List.getElem?_cons_zero, Res.bind_ok, seqR_lst, srcOf_lst, h, SRes.bind_rt]
/-! told -/
theorem xf_sp {cs : List Str} {a : Addr} {c m : Str} {d : Option Addr} {i : Nat} {env : AEnv} {st : Store} (hc : c ∈ cs) (he : env[i]? = some (some (.xcp a d c ["what"] [.str m]))) : eXf cs "what" a c d (eVar i) env st = .ok (.str m) st := by
  have hlk : ((["what"] : List Str).zip ([.str m] : List A)).lookup ("what" : Str) = some (A.str m) := by
    rw [List.zip_cons_cons, List.lookup_cons]; rfl
  rw [eXf_ap]
  simp only [eVar_ap, he, Res.bind_ok]
  rw [if_pos ⟨trivial, trivial, trivial, hc⟩, hlk]
abbrev tooA : A := .tup [.str "too many", .str "letters"]
def toldA (n : Nat) (w : List Int) : A := match runI (gens n) w with
  | some T => lL T
  | none => tooA
theorem told_sp (h1 : 1 ≤ n) (h8 : n ≤ 8) (hw : Lw n w) (hl : w.length ≤ 2000) : M__law_told [.int n, lI w] st = .ok (toldA n w) st := by
  have hz := sz
  have l2' : (2 : Nat) ≤ sizeLine := by omega
  have mk := @make_lI st n w (by omega)
  rw [out_ok (bErr_ok (by omega) (by omega) (show good n w from hw) hl)] at mk
  have ac := @action_sp st n w h1 h8
  unfold outA at ac
  unfold toldA
  cases e : runI (gens n) w with
  | some T =>
    rw [e] at ac
    refine fnM_rt rfl (a := lL T) (st' := st) ?_ (fin_pure0 bel_lL (by intro c h; cases h))
    show B__law_told [some (.int (n : Int)), some (lI w), none] st = _
    unfold B__law_told
    refine sTryAs_ok ?_ (by intro x e s h; cases h)
    simp only [Y1__law_told, sSeq_ap, sAsg_ap, sEx_ap, sRet_ap, sRetN_ap, sNil_ap, sIf_ap, sFor_ap, sSub_ap, sRaise_ap, mkWhat_ap, eVar_ap, eC_ap, eBin_ap, eUn_ap, eTup_ap, eLst_ap, eCB_ap, eCall_ap, eM_ap, eIf_ap, eAndV_ap, eOrV_ap, eNotV_ap, eChain_ap, eSl_ap, oNone_ap, oSome_ap, eXf_ap, aNil_ap, aCons_ap, tOf_ap, tTru_ap, tAndM_ap, tOrM_ap, tNotM_ap, tYesM_ap, asB_bl, truA_b, Res.bind_ok, Res.bind_exc, Res.toS_ok, Res.toS_exc, Res.of_some, SRes.bind_nx, SRes.bind_rt, SRes.bind_exc, SRes.bind_ct, SRes.bind_bk, gN_ap, List.getElem?_cons_zero, List.getElem?_cons_succ, List.set_cons_zero, List.set_cons_succ, one1_ap, two2_ap, newL_f, newL_t, addOp_ii, subOp_ii, negOp_i, ltOp_ii, leOp_ii, gtOp_ii, geOp_ii, eqOp_ii, neOp_ii, eqOp_ss, neOp_ss, intA_i, intA_b, maxA_ii, minA_ii, lenA_lst, lenA_tup, lenA_slst, listA_lst, listA_tup, listA_slst, tupleA_lst, tupleA_tup, List.length_map, List.length_cons, List.length_nil, Bool.not_true, Bool.not_false, Bool.false_eq_true, if_true, if_false, Nat.zero_add, Nat.reduceAdd, eMake_ap, mk, ac]
  | none =>
    rw [e] at ac
    refine fnM_rt rfl (a := tooA) (st' := st) ?_ (fin_pure0 (by simp [A.bel, belowL]) (by intro c h; cases h))
    show B__law_told [some (.int (n : Int)), some (lI w), none] st = _
    unfold B__law_told
    refine sTryAs_exc (x := exW "TooMany" "letters") (e := [some (.int (n : Int)), some (lI w), none]) (s := st) ?_ (by decide) fun a d => ?_
    · simp only [Y1__law_told, sSeq_ap, sAsg_ap, sEx_ap, sRet_ap, sRetN_ap, sNil_ap, sIf_ap, sFor_ap, sSub_ap, sRaise_ap, mkWhat_ap, eVar_ap, eC_ap, eBin_ap, eUn_ap, eTup_ap, eLst_ap, eCB_ap, eCall_ap, eM_ap, eIf_ap, eAndV_ap, eOrV_ap, eNotV_ap, eChain_ap, eSl_ap, oNone_ap, oSome_ap, eXf_ap, aNil_ap, aCons_ap, tOf_ap, tTru_ap, tAndM_ap, tOrM_ap, tNotM_ap, tYesM_ap, asB_bl, truA_b, Res.bind_ok, Res.bind_exc, Res.toS_ok, Res.toS_exc, Res.of_some, SRes.bind_nx, SRes.bind_rt, SRes.bind_exc, SRes.bind_ct, SRes.bind_bk, gN_ap, List.getElem?_cons_zero, List.getElem?_cons_succ, List.set_cons_zero, List.set_cons_succ, one1_ap, two2_ap, newL_f, newL_t, addOp_ii, subOp_ii, negOp_i, ltOp_ii, leOp_ii, gtOp_ii, geOp_ii, eqOp_ii, neOp_ii, eqOp_ss, neOp_ss, intA_i, intA_b, maxA_ii, minA_ii, lenA_lst, lenA_tup, lenA_slst, listA_lst, listA_tup, listA_slst, tupleA_lst, tupleA_tup, List.length_map, List.length_cons, List.length_nil, Bool.not_true, Bool.not_false, Bool.false_eq_true, if_true, if_false, Nat.zero_add, Nat.reduceAdd, eMake_ap, mk, ac]
    · have hx := @xf_sp ["InvalidBraid", "TooMany"] a "TooMany" "letters" d 2 [some (.int (n : Int)), some (lI w), some (.xcp a d "TooMany" ["what"] [.str "letters"])] st (by simp) rfl
      show clr 2 (X2__law_told a "TooMany" d [some (.int (n : Int)), some (lI w), some (.xcp a d "TooMany" ["what"] [.str "letters"])] st) = _
      simp only [X2__law_told, sRet_ap, eTup_ap, aCons_ap, eC_ap, hx, Res.bind_ok, aNil_ap, List.length_cons, List.length_nil, Nat.zero_add, Nat.reduceAdd, l2', if_true, Res.toS_ok]
      rfl
end
end Gk07

set_option Elab.async false
set_option linter.all false
set_option maxRecDepth 100000
set_option maxHeartbeats 4000000
namespace Gk07
open PySem PySem.Spec L2 SL F07
open PyProof.Rows hiding St
section
variable {st : Store} {n m : Int} {w v : List Int} {c : Nat} {ds : List Int}
theorem word_body (hc : c < st.length) (hn : 2 ≤ n) (hn8 : n ≤ 8) {mo : Int} {i : Nat} (hl : w.length = i) (hi : i < 1000) (hw : good n w) {x5 : Option A} :
    ∃ u ds' y5, ok1 n u ∧ L1__law_word [some (.cell c), some (.int n), some (.int mo), some (.cell st.length), some (.int (i : Int)), x5] (st.set c (li ds) ++ [li w]) = .nx [some (.cell c), some (.int n), some (.int mo), some (.cell st.length), some (.int (i : Int)), y5] (st.set c (li ds') ++ [li (w ++ [u])]) := by
  have hz := sz
  have l2' : (2 : Nat) ≤ sizeLine := by omega
  obtain ⟨d1, ds1, p1, p2, t1⟩ := tkA (l := [li w]) (ds := ds) (n := n - 1) hc (by omega)
  obtain ⟨d2, ds2, p3, p4, t2⟩ := tkA (l := [li w]) (ds := ds1) (n := 2) hc (by omega)
  have hcw : ∀ ds, (st.set c (li ds) ++ [li w])[st.length]? = some (li w) := fun ds => get_app_len (by simp)
  obtain ⟨u, hu, e3⟩ : ∃ u : Int, ok1 n u ∧ ∀ s, ixOp (.lst [.int (1 + d1), .int (-(1 + d1))]) (.int d2) s = some (.int u, s) := by
    rcases (by omega : d2 = 0 ∨ d2 = 1) with rfl | rfl
    · exact ⟨1 + d1, ⟨by omega, by unfold ab; split <;> omega⟩, fun s => ixs (by omega) rfl⟩
    · exact ⟨-(1 + d1), ⟨by omega, by unfold ab; split <;> omega⟩, fun s => ixs (by omega) rfl⟩
  refine ⟨u, ds2, some (.int (1 + d1)), hu, ?_⟩
  have ap := appendM_li (v := u) (hcw ds2) (by omega)
  have hset : ∀ x : C, (st.set c (li ds2) ++ [li w]).set st.length x = st.set c (li ds2) ++ [x] := fun x => by
    rw [List.set_append_right _ _ (by simp), List.length_set, Nat.sub_self]; rfl
  rw [hset] at ap
  have ty := tyVA_cell (hcw ds1)
  simp only [L1__law_word, sSeq_ap, sAsg_ap, sEx_ap, sRet_ap, sRetN_ap, sNil_ap, sIf_ap, sFor_ap, sSub_ap, sRaise_ap, mkWhat_ap, eVar_ap, eC_ap, eBin_ap, eUn_ap, eTup_ap, eLst_ap, eCB_ap, eCall_ap, eM_ap, eIf_ap, eAndV_ap, eOrV_ap, eNotV_ap, eChain_ap, eSl_ap, oNone_ap, oSome_ap, eXf_ap, aNil_ap, aCons_ap, tOf_ap, tTru_ap, tAndM_ap, tOrM_ap, tNotM_ap, tYesM_ap, asB_bl, truA_b, Res.bind_ok, Res.bind_exc, Res.toS_ok, Res.toS_exc, Res.of_some, SRes.bind_nx, SRes.bind_rt, SRes.bind_exc, SRes.bind_ct, SRes.bind_bk, gN_ap, List.getElem?_cons_zero, List.getElem?_cons_succ, List.set_cons_zero, List.set_cons_succ, one1_ap, two2_ap, newL_f, newL_t, addOp_ii, subOp_ii, negOp_i, ltOp_ii, leOp_ii, gtOp_ii, geOp_ii, eqOp_ii, neOp_ii, eqOp_ss, neOp_ss, intA_i, intA_b, maxA_ii, minA_ii, lenA_lst, lenA_tup, lenA_slst, listA_lst, listA_tup, listA_slst, tupleA_lst, tupleA_tup, List.length_map, List.length_cons, List.length_nil, Bool.not_true, Bool.not_false, Bool.false_eq_true, if_true, if_false, Nat.zero_add, Nat.reduceAdd, t1, ty, l2', t2, e3, ap]
theorem word_sp (hc : c < st.length) (hn : 1 ≤ n) (hn8 : n ≤ 8) {mo : Nat} (hm : mo ≤ 40) : ∃ w ds', good n w ∧ w.length ≤ mo ∧ M__law_word [.cell c, .int n, .int (mo : Int)] (st.set c (li ds)) = .ok (lI w) (st.set c (li ds')) := by
  have hz := sz
  obtain ⟨d, ds1, b1, b2, t1⟩ := tkA (l := [li []]) (ds := ds) (n := (mo : Int) + 1) hc (by omega)
  obtain ⟨q, hq, hm⟩ : ∃ q : Nat, (q ≤ mo ∧ (0 < q → 1 < n)) ∧ ∀ s, mulOp false (.int d) (.int (if decide (n > 1) = true then 1 else 0)) s = some (.int (q : Int), s) := by
    by_cases h : n > 1
    · refine ⟨d.toNat, by omega, fun s => ?_⟩
      rw [if_pos (decide_eq_true h), mulOp_ii (small_mulI (by omega) (by omega)), show d * 1 = (d.toNat : Int) by omega]
    · refine ⟨0, by omega, fun s => ?_⟩
      rw [if_neg (by simp; omega), mulOp_ii (small_mulI (by omega) (by omega)), show d * 0 = ((0 : Nat) : Int) by omega]
  obtain ⟨e, s, h1, w, ds', x4, x5, rfl, rfl, hl, hw⟩ := for_inv (all := ((List.range q).map fun (j : Nat) => (j : Int)).map A.int) (g := gN 4) (body := L1__law_word) (xs := ((List.range q).map fun (j : Nat) => (j : Int)).map A.int)
    (fun i e s => ∃ w ds' x4 x5, e = [some (.cell c), some (.int n), some (.int (mo : Int)), some (.cell st.length), x4, x5] ∧ s = st.set c (li ds') ++ [li w] ∧ w.length = i ∧ good n w)
    (env := [some (.cell c), some (.int n), some (.int (mo : Int)), some (.cell st.length), none, none]) (st := st.set c (li ds1) ++ [li []]) ⟨[], ds1, _, _, rfl, rfl, rfl, by intro x hx; cases hx⟩ (by
      rintro i a e s hx ⟨w, ds', x4, x5, rfl, rfl, hl, hw⟩
      obtain ⟨hi, rfl⟩ := rng_get hx
      obtain ⟨u, ds3, y5, hu, hb⟩ := word_body (n := n) (mo := mo) (ds := ds') (x5 := x5) hc (by omega) hn8 hl (by omega) hw
      refine ⟨_, rfl, ?_⟩
      simp only [List.set_cons_succ, List.set_cons_zero, hb, NxP_nx]
      refine ⟨w ++ [u], ds3, _, _, rfl, rfl, by simp; omega, fun x hx => ?_⟩
      rcases List.mem_append.mp hx with hx | hx
      · exact hw x hx
      · rw [List.mem_singleton] at hx; subst hx; exact hu)
  rw [List.length_map, List.length_map, List.length_range] at hl
  refine ⟨w, ds', hw, by omega, ?_⟩
  refine fnM_rt rfl (a := .cell st.length) (st' := st.set c (li ds') ++ [li w]) ?_ (fin_draw (Nat.le_refl _) (get_app_len (by simp)))
  show B__law_word [some (.cell c), some (.int n), some (.int (mo : Int)), none, none, none] (st.set c (li ds)) = _
  have er : mRng1 (aCons (eBin (mulOp false) (eCall M__law_take (aCons (eVar 0) (aCons (eBin (addOp false) (eVar 2) (eC (.int 1))) aNil))) (eCB (one1 intA) (aCons (eBin gtOp (eVar 1) (eC (.int 1))) aNil))) aNil) [some (.cell c), some (.int n), some (.int (mo : Int)), some (.cell st.length), none, none] (st.set c (li ds) ++ [li []]) = .ok (((List.range q).map fun i => ((i : Nat) : Int)).map A.int, none) (st.set c (li ds1) ++ [li []]) := by
    refine rng1' (by omega) ?_
    simp only [sSeq_ap, sAsg_ap, sEx_ap, sRet_ap, sRetN_ap, sNil_ap, sIf_ap, sFor_ap, sSub_ap, sRaise_ap, mkWhat_ap, eVar_ap, eC_ap, eBin_ap, eUn_ap, eTup_ap, eLst_ap, eCB_ap, eCall_ap, eM_ap, eIf_ap, eAndV_ap, eOrV_ap, eNotV_ap, eChain_ap, eSl_ap, oNone_ap, oSome_ap, eXf_ap, aNil_ap, aCons_ap, tOf_ap, tTru_ap, tAndM_ap, tOrM_ap, tNotM_ap, tYesM_ap, asB_bl, truA_b, Res.bind_ok, Res.bind_exc, Res.toS_ok, Res.toS_exc, Res.of_some, SRes.bind_nx, SRes.bind_rt, SRes.bind_exc, SRes.bind_ct, SRes.bind_bk, gN_ap, List.getElem?_cons_zero, List.getElem?_cons_succ, List.set_cons_zero, List.set_cons_succ, one1_ap, two2_ap, newL_f, newL_t, addOp_ii, subOp_ii, negOp_i, ltOp_ii, leOp_ii, gtOp_ii, geOp_ii, eqOp_ii, neOp_ii, eqOp_ss, neOp_ss, intA_i, intA_b, maxA_ii, minA_ii, lenA_lst, lenA_tup, lenA_slst, listA_lst, listA_tup, listA_slst, tupleA_lst, tupleA_tup, List.length_map, List.length_cons, List.length_nil, Bool.not_true, Bool.not_false, Bool.false_eq_true, if_true, if_false, Nat.zero_add, Nat.reduceAdd, t1, hm]
  have l0 : (0 : Nat) ≤ sizeLine := by omega
  simp only [B__law_word, sSeq_ap, sAsg_ap, sEx_ap, sRet_ap, sRetN_ap, sNil_ap, sIf_ap, sFor_ap, sSub_ap, sRaise_ap, mkWhat_ap, eVar_ap, eC_ap, eBin_ap, eUn_ap, eTup_ap, eLst_ap, eCB_ap, eCall_ap, eM_ap, eIf_ap, eAndV_ap, eOrV_ap, eNotV_ap, eChain_ap, eSl_ap, oNone_ap, oSome_ap, eXf_ap, aNil_ap, aCons_ap, tOf_ap, tTru_ap, tAndM_ap, tOrM_ap, tNotM_ap, tYesM_ap, asB_bl, truA_b, Res.bind_ok, Res.bind_exc, Res.toS_ok, Res.toS_exc, Res.of_some, SRes.bind_nx, SRes.bind_rt, SRes.bind_exc, SRes.bind_ct, SRes.bind_bk, gN_ap, List.getElem?_cons_zero, List.getElem?_cons_succ, List.set_cons_zero, List.set_cons_succ, one1_ap, two2_ap, newL_f, newL_t, addOp_ii, subOp_ii, negOp_i, ltOp_ii, leOp_ii, gtOp_ii, geOp_ii, eqOp_ii, neOp_ii, eqOp_ss, neOp_ss, intA_i, intA_b, maxA_ii, minA_ii, lenA_lst, lenA_tup, lenA_slst, listA_lst, listA_tup, listA_slst, tupleA_lst, tupleA_tup, List.length_map, List.length_cons, List.length_nil, Bool.not_true, Bool.not_false, Bool.false_eq_true, if_true, if_false, Nat.zero_add, Nat.reduceAdd, l0, List.length_set]
  simp only [li, List.map_nil] at er h1 ⊢
  simp only [sSeq_ap, sAsg_ap, sEx_ap, sRet_ap, sRetN_ap, sNil_ap, sIf_ap, sFor_ap, sSub_ap, sRaise_ap, mkWhat_ap, eVar_ap, eC_ap, eBin_ap, eUn_ap, eTup_ap, eLst_ap, eCB_ap, eCall_ap, eM_ap, eIf_ap, eAndV_ap, eOrV_ap, eNotV_ap, eChain_ap, eSl_ap, oNone_ap, oSome_ap, eXf_ap, aNil_ap, aCons_ap, tOf_ap, tTru_ap, tAndM_ap, tOrM_ap, tNotM_ap, tYesM_ap, asB_bl, truA_b, Res.bind_ok, Res.bind_exc, Res.toS_ok, Res.toS_exc, Res.of_some, SRes.bind_nx, SRes.bind_rt, SRes.bind_exc, SRes.bind_ct, SRes.bind_bk, gN_ap, List.getElem?_cons_zero, List.getElem?_cons_succ, List.set_cons_zero, List.set_cons_succ, one1_ap, two2_ap, newL_f, newL_t, addOp_ii, subOp_ii, negOp_i, ltOp_ii, leOp_ii, gtOp_ii, geOp_ii, eqOp_ii, neOp_ii, eqOp_ss, neOp_ss, intA_i, intA_b, maxA_ii, minA_ii, lenA_lst, lenA_tup, lenA_slst, listA_lst, listA_tup, listA_slst, tupleA_lst, tupleA_tup, List.length_map, List.length_cons, List.length_nil, Bool.not_true, Bool.not_false, Bool.false_eq_true, if_true, if_false, Nat.zero_add, Nat.reduceAdd, er, h1]
theorem neS {a b : Str} (ha : PyData.strOk a = true) (hb : PyData.strOk b = true) : neOp (.tup [.str a, .str b]) (.tup [.str a, .str b]) st = some (.bl false, st) := neOp_same (dt_tup fun x hx => by
  simp only [List.mem_cons, List.not_mem_nil, or_false] at hx
  rcases hx with rfl | rfl
  · exact dt_str (by simp only [PyData.canLay0]; exact ha)
  · exact dt_str (by simp only [PyData.canLay0]; exact hb))
theorem eqS {a b : Str} (ha : PyData.strOk a = true) (hb : PyData.strOk b = true) : eqOp (.tup [.str a, .str b]) (.tup [.str a, .str b]) st = some (.bl true, st) := eqOp_same (dt_tup fun x hx => by
  simp only [List.mem_cons, List.not_mem_nil, or_false] at hx
  rcases hx with rfl | rfl
  · exact dt_str (by simp only [PyData.canLay0]; exact ha)
  · exact dt_str (by simp only [PyData.canLay0]; exact hb))
theorem sk_i : PyData.strOk "invalid" = true := by decide +kernel
theorem sk_s : PyData.strOk "strands" = true := by decide +kernel
theorem sk_w : PyData.strOk "word" = true := by decide +kernel
theorem sk_t : PyData.strOk "too many" = true := by decide +kernel
theorem sk_l : PyData.strOk "letters" = true := by decide +kernel
theorem flat_map : ∀ (k : Nat) (l : List Int), (List.replicate k (l.map A.int)).flatten = (List.replicate k l).flatten.map A.int
  | 0, _ => rfl
  | k + 1, l => by rw [List.replicate_succ, List.flatten_cons, flat_map k l, List.replicate_succ, List.flatten_cons, List.map_append]
theorem flat_len : ∀ (k : Nat) (l : List Int), (List.replicate k l).flatten.length = k * l.length
  | 0, _ => by simp
  | k + 1, l => by rw [List.replicate_succ, List.flatten_cons, List.length_append, flat_len k l, Nat.succ_mul]; omega
theorem repI {l : List Int} {k : Nat} (h : k * l.length < 1000000) (hk : k < 10000) : mulOp false (.lst (l.map A.int)) (.int (k : Int)) st = some (.lst ((List.replicate k l).flatten.map A.int), st) := by
  have hz := sz
  have e : mulL false (.lst (l.map A.int)) (.int (k : Int)) st = some (.lst ((List.replicate k l).flatten.map A.int), st) := by
    simp only [mulL, lstH]
    rw [if_pos ⟨by omega, by omega, by rw [show ((k : Int)).toNat = k by omega, List.length_map]; first | omega | (rw [Nat.mul_comm]; omega)⟩, show ((k : Int)).toNat = k by omega, flat_map]
    rfl
  simp [mulOp, e, mulI, iiOp]end
section
variable {st : Store} {c : Nat} {ds : List Int}
theorem setL_last {s : Store} {k : Nat} {w : List Int} {v : Int} (h : s[k]? = some (li w)) (hl : 0 < w.length) : setL (.cell k) (.int (-1)) (.int v) s = some (s.set k (li (w.set (w.length - 1) v))) := by
  have e := cellL_ok' h
  have h1 : ixN (w.map A.int).length (-1) = some (w.length - 1) := by
    unfold ixN
    rw [List.length_map, if_neg (by omega), if_pos (by omega)]
    congr 1
    omega
  simp only [setL, e, h1, Option.map_some]
  simp [li]
theorem free_body (hc : c < st.length) {i : Nat} {w : List Int} (hl : w.length = i) (hi : i < 1000) {x3 : Option A} :
    ∃ w' ds' y3, w'.length = i + 1 ∧ L1__law_free_word [some (.cell c), some (.cell st.length), some (.int (i : Int)), x3] (st.set c (li ds) ++ [li w]) = .nx [some (.cell c), some (.cell st.length), some (.int (i : Int)), y3] (st.set c (li ds') ++ [li w']) := by
  have hz := sz
  have l2' : (2 : Nat) ≤ sizeLine := by omega
  obtain ⟨d1, ds1, p1, p2, t1⟩ := tkA (l := [li w]) (ds := ds) (n := 3) hc (by omega)
  obtain ⟨d2, ds2, p3, p4, t2⟩ := tkA (l := [li w]) (ds := ds1) (n := 2) hc (by omega)
  have hcw : ∀ ds (w : List Int), (st.set c (li ds) ++ [li w])[st.length]? = some (li w) := fun ds w => get_app_len (by simp)
  obtain ⟨u, e3⟩ : ∃ u : Int, ∀ s, ixOp (.lst [.int (1 + d1), .int (-(1 + d1))]) (.int d2) s = some (.int u, s) := by
    rcases (by omega : d2 = 0 ∨ d2 = 1) with rfl | rfl
    · exact ⟨1 + d1, fun s => ixs (by omega) rfl⟩
    · exact ⟨-(1 + d1), fun s => ixs (by omega) rfl⟩
  have ap := appendM_li (v := u) (hcw ds2 w) (by omega)
  have hset : ∀ (ds : List Int) (w : List Int) (x : C), (st.set c (li ds) ++ [li w]).set st.length x = st.set c (li ds) ++ [x] := fun ds w x => by
    rw [List.set_append_right _ _ (by simp), List.length_set, Nat.sub_self]; rfl
  rw [hset] at ap
  have ap : appendM (.cell st.length) [.int u] (st.set c (li ds2) ++ [li w]) = some (.non, st.set c (li ds2) ++ [li (w ++ [u])]) := ap
  have ty := tyVA_cell (hcw ds1 w)
  obtain ⟨d3, ds3, p5, p6, t3⟩ := tkA (l := [li (w ++ [u])]) (ds := ds2) (n := 3) hc (by omega)
  by_cases h3 : d3 = 0
  · by_cases h4 : (i : Int) > 0
    · have n2 := @neg_ix (st.set c (li ds3) ++ [li (w ++ [u])]) (.cell st.length) (w ++ [u]) 1 (seqR_cell (hcw ds3 (w ++ [u]))) (by simp; omega)
      have n2 : ixOp (.cell st.length) (.int (-2)) (st.set c (li ds3) ++ [li (w ++ [u])]) = some (.int ((w ++ [u]).getD ((w ++ [u]).length - 1 - 1) 0), st.set c (li ds3) ++ [li (w ++ [u])]) := n2
      have s1 := @setL_last (st.set c (li ds3) ++ [li (w ++ [u])]) st.length (w ++ [u]) (-((w ++ [u]).getD ((w ++ [u]).length - 1 - 1) 0)) (hcw ds3 (w ++ [u])) (by simp)
      rw [hset] at s1
      refine ⟨(w ++ [u]).set ((w ++ [u]).length - 1) (-((w ++ [u]).getD ((w ++ [u]).length - 1 - 1) 0)), ds3, some (.int (1 + d1)), by simp; omega, ?_⟩
      simp only [L1__law_free_word, sSeq_ap, sAsg_ap, sSeq_ap, sAsg_ap, sEx_ap, sRet_ap, sRetN_ap, sNil_ap, sIf_ap, sFor_ap, sSub_ap, sRaise_ap, mkWhat_ap, eVar_ap, eC_ap, eBin_ap, eUn_ap, eTup_ap, eLst_ap, eCB_ap, eCall_ap, eM_ap, eIf_ap, eAndV_ap, eOrV_ap, eNotV_ap, eChain_ap, eSl_ap, oNone_ap, oSome_ap, eXf_ap, aNil_ap, aCons_ap, tOf_ap, tTru_ap, tAndM_ap, tOrM_ap, tNotM_ap, tYesM_ap, asB_bl, truA_b, Res.bind_ok, Res.bind_exc, Res.toS_ok, Res.toS_exc, Res.of_some, SRes.bind_nx, SRes.bind_rt, SRes.bind_exc, SRes.bind_ct, SRes.bind_bk, gN_ap, List.getElem?_cons_zero, List.getElem?_cons_succ, List.set_cons_zero, List.set_cons_succ, one1_ap, two2_ap, newL_f, newL_t, addOp_ii, subOp_ii, negOp_i, ltOp_ii, leOp_ii, gtOp_ii, geOp_ii, eqOp_ii, neOp_ii, eqOp_ss, neOp_ss, intA_i, intA_b, maxA_ii, minA_ii, lenA_lst, lenA_tup, lenA_slst, listA_lst, listA_tup, listA_slst, tupleA_lst, tupleA_tup, List.length_map, List.length_cons, List.length_nil, Bool.not_true, Bool.not_false, Bool.false_eq_true, if_true, if_false, Nat.zero_add, Nat.reduceAdd, t1, ty, l2', t2, e3, ap, t3, decide_eq_true h3, decide_eq_true h4, n2, s1]
    · refine ⟨w ++ [u], ds3, some (.int (1 + d1)), by simp; omega, ?_⟩
      simp only [L1__law_free_word, sSeq_ap, sAsg_ap, sSeq_ap, sAsg_ap, sEx_ap, sRet_ap, sRetN_ap, sNil_ap, sIf_ap, sFor_ap, sSub_ap, sRaise_ap, mkWhat_ap, eVar_ap, eC_ap, eBin_ap, eUn_ap, eTup_ap, eLst_ap, eCB_ap, eCall_ap, eM_ap, eIf_ap, eAndV_ap, eOrV_ap, eNotV_ap, eChain_ap, eSl_ap, oNone_ap, oSome_ap, eXf_ap, aNil_ap, aCons_ap, tOf_ap, tTru_ap, tAndM_ap, tOrM_ap, tNotM_ap, tYesM_ap, asB_bl, truA_b, Res.bind_ok, Res.bind_exc, Res.toS_ok, Res.toS_exc, Res.of_some, SRes.bind_nx, SRes.bind_rt, SRes.bind_exc, SRes.bind_ct, SRes.bind_bk, gN_ap, List.getElem?_cons_zero, List.getElem?_cons_succ, List.set_cons_zero, List.set_cons_succ, one1_ap, two2_ap, newL_f, newL_t, addOp_ii, subOp_ii, negOp_i, ltOp_ii, leOp_ii, gtOp_ii, geOp_ii, eqOp_ii, neOp_ii, eqOp_ss, neOp_ss, intA_i, intA_b, maxA_ii, minA_ii, lenA_lst, lenA_tup, lenA_slst, listA_lst, listA_tup, listA_slst, tupleA_lst, tupleA_tup, List.length_map, List.length_cons, List.length_nil, Bool.not_true, Bool.not_false, Bool.false_eq_true, if_true, if_false, Nat.zero_add, Nat.reduceAdd, t1, ty, l2', t2, e3, ap, t3, decide_eq_true h3, decide_eq_false h4]
  · refine ⟨w ++ [u], ds3, some (.int (1 + d1)), by simp; omega, ?_⟩
    simp only [L1__law_free_word, sSeq_ap, sAsg_ap, sSeq_ap, sAsg_ap, sEx_ap, sRet_ap, sRetN_ap, sNil_ap, sIf_ap, sFor_ap, sSub_ap, sRaise_ap, mkWhat_ap, eVar_ap, eC_ap, eBin_ap, eUn_ap, eTup_ap, eLst_ap, eCB_ap, eCall_ap, eM_ap, eIf_ap, eAndV_ap, eOrV_ap, eNotV_ap, eChain_ap, eSl_ap, oNone_ap, oSome_ap, eXf_ap, aNil_ap, aCons_ap, tOf_ap, tTru_ap, tAndM_ap, tOrM_ap, tNotM_ap, tYesM_ap, asB_bl, truA_b, Res.bind_ok, Res.bind_exc, Res.toS_ok, Res.toS_exc, Res.of_some, SRes.bind_nx, SRes.bind_rt, SRes.bind_exc, SRes.bind_ct, SRes.bind_bk, gN_ap, List.getElem?_cons_zero, List.getElem?_cons_succ, List.set_cons_zero, List.set_cons_succ, one1_ap, two2_ap, newL_f, newL_t, addOp_ii, subOp_ii, negOp_i, ltOp_ii, leOp_ii, gtOp_ii, geOp_ii, eqOp_ii, neOp_ii, eqOp_ss, neOp_ss, intA_i, intA_b, maxA_ii, minA_ii, lenA_lst, lenA_tup, lenA_slst, listA_lst, listA_tup, listA_slst, tupleA_lst, tupleA_tup, List.length_map, List.length_cons, List.length_nil, Bool.not_true, Bool.not_false, Bool.false_eq_true, if_true, if_false, Nat.zero_add, Nat.reduceAdd, t1, ty, l2', t2, e3, ap, t3, decide_eq_false h3]
theorem free_sp (hc : c < st.length) : ∃ w ds', w.length ≤ 60 ∧ M__law_free_word [.cell c] (st.set c (li ds)) = .ok (lI w) (st.set c (li ds')) := by
  have hz := sz
  obtain ⟨d, ds1, b1, b2, t1⟩ := tkA (l := [li []]) (ds := ds) (n := 61) hc (by omega)
  obtain ⟨q, rfl⟩ : ∃ q : Nat, d = (q : Int) := ⟨d.toNat, by omega⟩
  obtain ⟨e, s, h1, w, ds', x2, x3, rfl, rfl, hl⟩ := for_inv (all := ((List.range q).map fun (j : Nat) => (j : Int)).map A.int) (g := gN 2) (body := L1__law_free_word) (xs := ((List.range q).map fun (j : Nat) => (j : Int)).map A.int)
    (fun i e s => ∃ w ds' x2 x3, e = [some (.cell c), some (.cell st.length), x2, x3] ∧ s = st.set c (li ds') ++ [li w] ∧ w.length = i)
    (env := [some (.cell c), some (.cell st.length), none, none]) (st := st.set c (li ds1) ++ [li []]) ⟨[], ds1, _, _, rfl, rfl, rfl⟩ (by
      rintro i a e s hx ⟨w, ds', x2, x3, rfl, rfl, hl⟩
      obtain ⟨hi, rfl⟩ := rng_get hx
      obtain ⟨w', ds3, y3, hw', hb⟩ := free_body (ds := ds') (x3 := x3) hc hl (by omega)
      refine ⟨_, rfl, ?_⟩
      simp only [List.set_cons_succ, List.set_cons_zero, hb, NxP_nx]
      exact ⟨w', ds3, _, _, rfl, rfl, hw'⟩)
  rw [List.length_map, List.length_map, List.length_range] at hl
  refine ⟨w, ds', by omega, ?_⟩
  refine fnM_rt rfl (a := .cell st.length) (st' := st.set c (li ds') ++ [li w]) ?_ (fin_draw (Nat.le_refl _) (get_app_len (by simp)))
  show B__law_free_word [some (.cell c), none, none, none] (st.set c (li ds)) = _
  have er : mRng1 (aCons (eCall M__law_take (aCons (eVar 0) (aCons (eC (.int 61)) aNil))) aNil) [some (.cell c), some (.cell st.length), none, none] (st.set c (li ds) ++ [li []]) = .ok (((List.range q).map fun i => ((i : Nat) : Int)).map A.int, none) (st.set c (li ds1) ++ [li []]) := by
    refine rng1' (by omega) ?_
    simp only [sSeq_ap, sAsg_ap, sEx_ap, sRet_ap, sRetN_ap, sNil_ap, sIf_ap, sFor_ap, sSub_ap, sRaise_ap, mkWhat_ap, eVar_ap, eC_ap, eBin_ap, eUn_ap, eTup_ap, eLst_ap, eCB_ap, eCall_ap, eM_ap, eIf_ap, eAndV_ap, eOrV_ap, eNotV_ap, eChain_ap, eSl_ap, oNone_ap, oSome_ap, eXf_ap, aNil_ap, aCons_ap, tOf_ap, tTru_ap, tAndM_ap, tOrM_ap, tNotM_ap, tYesM_ap, asB_bl, truA_b, Res.bind_ok, Res.bind_exc, Res.toS_ok, Res.toS_exc, Res.of_some, SRes.bind_nx, SRes.bind_rt, SRes.bind_exc, SRes.bind_ct, SRes.bind_bk, gN_ap, List.getElem?_cons_zero, List.getElem?_cons_succ, List.set_cons_zero, List.set_cons_succ, one1_ap, two2_ap, newL_f, newL_t, addOp_ii, subOp_ii, negOp_i, ltOp_ii, leOp_ii, gtOp_ii, geOp_ii, eqOp_ii, neOp_ii, eqOp_ss, neOp_ss, intA_i, intA_b, maxA_ii, minA_ii, lenA_lst, lenA_tup, lenA_slst, listA_lst, listA_tup, listA_slst, tupleA_lst, tupleA_tup, List.length_map, List.length_cons, List.length_nil, Bool.not_true, Bool.not_false, Bool.false_eq_true, if_true, if_false, Nat.zero_add, Nat.reduceAdd, t1]
  have l0 : (0 : Nat) ≤ sizeLine := by omega
  simp only [B__law_free_word, sSeq_ap, sAsg_ap, sEx_ap, sRet_ap, sRetN_ap, sNil_ap, sIf_ap, sFor_ap, sSub_ap, sRaise_ap, mkWhat_ap, eVar_ap, eC_ap, eBin_ap, eUn_ap, eTup_ap, eLst_ap, eCB_ap, eCall_ap, eM_ap, eIf_ap, eAndV_ap, eOrV_ap, eNotV_ap, eChain_ap, eSl_ap, oNone_ap, oSome_ap, eXf_ap, aNil_ap, aCons_ap, tOf_ap, tTru_ap, tAndM_ap, tOrM_ap, tNotM_ap, tYesM_ap, asB_bl, truA_b, Res.bind_ok, Res.bind_exc, Res.toS_ok, Res.toS_exc, Res.of_some, SRes.bind_nx, SRes.bind_rt, SRes.bind_exc, SRes.bind_ct, SRes.bind_bk, gN_ap, List.getElem?_cons_zero, List.getElem?_cons_succ, List.set_cons_zero, List.set_cons_succ, one1_ap, two2_ap, newL_f, newL_t, addOp_ii, subOp_ii, negOp_i, ltOp_ii, leOp_ii, gtOp_ii, geOp_ii, eqOp_ii, neOp_ii, eqOp_ss, neOp_ss, intA_i, intA_b, maxA_ii, minA_ii, lenA_lst, lenA_tup, lenA_slst, listA_lst, listA_tup, listA_slst, tupleA_lst, tupleA_tup, List.length_map, List.length_cons, List.length_nil, Bool.not_true, Bool.not_false, Bool.false_eq_true, if_true, if_false, Nat.zero_add, Nat.reduceAdd, l0, List.length_set]
  simp only [li, List.map_nil] at er h1 ⊢
  simp only [sSeq_ap, sAsg_ap, sEx_ap, sRet_ap, sRetN_ap, sNil_ap, sIf_ap, sFor_ap, sSub_ap, sRaise_ap, mkWhat_ap, eVar_ap, eC_ap, eBin_ap, eUn_ap, eTup_ap, eLst_ap, eCB_ap, eCall_ap, eM_ap, eIf_ap, eAndV_ap, eOrV_ap, eNotV_ap, eChain_ap, eSl_ap, oNone_ap, oSome_ap, eXf_ap, aNil_ap, aCons_ap, tOf_ap, tTru_ap, tAndM_ap, tOrM_ap, tNotM_ap, tYesM_ap, asB_bl, truA_b, Res.bind_ok, Res.bind_exc, Res.toS_ok, Res.toS_exc, Res.of_some, SRes.bind_nx, SRes.bind_rt, SRes.bind_exc, SRes.bind_ct, SRes.bind_bk, gN_ap, List.getElem?_cons_zero, List.getElem?_cons_succ, List.set_cons_zero, List.set_cons_succ, one1_ap, two2_ap, newL_f, newL_t, addOp_ii, subOp_ii, negOp_i, ltOp_ii, leOp_ii, gtOp_ii, geOp_ii, eqOp_ii, neOp_ii, eqOp_ss, neOp_ss, intA_i, intA_b, maxA_ii, minA_ii, lenA_lst, lenA_tup, lenA_slst, listA_lst, listA_tup, listA_slst, tupleA_lst, tupleA_tup, List.length_map, List.length_cons, List.length_nil, Bool.not_true, Bool.not_false, Bool.false_eq_true, if_true, if_false, Nat.zero_add, Nat.reduceAdd, er, h1]
/-! the law's own way to cancel -/
theorem filt_pls {w : List Int} : (((List.range (w.length - 1)).map fun i => (1 : Int) + ((i : Nat) : Int)).filter fun x => decide (w.getD x.toNat 0 = - w.getD (x - 1).toNat 0)) = (pls w).map fun (i : Nat) => (i : Int) := by
  unfold pls
  rw [List.range'_eq_map_range, List.filter_map, List.filter_map, List.map_map]
  congr 1
  refine List.filter_congr fun i hi => ?_
  simp only [Function.comp]
  rw [show ((1 : Int) + (i : Int)).toNat = 1 + i by omega, show ((1 : Int) + (i : Int) - 1).toNat = 1 + i - 1 by omega]
theorem left_body {w : List Int} {x0 x2 x3 x4 : Option A} (hl : w.length < 1000) : ∃ y3 y4, L3__law_left [x0, some (lI w), x2, x3, x4] st = .nx [x0, some (lI (lst1 w)), x2, y3, y4] st := by
  have hz := sz
  have er : mRng2 (aCons (eC (.int 1)) (aCons (eCB (one1 lenA) (aCons (eVar 1) aNil)) aNil)) [x0, some (lI w), x2, x3, x4] st = .ok (((List.range (w.length - 1)).map fun i => (1 : Int) + ((i : Nat) : Int)).map A.int, none) st := by
    rw [mRng2_ap (m := 1) (n := (w.length : Int)) (by simp only [sSeq_ap, sAsg_ap, sEx_ap, sRet_ap, sRetN_ap, sNil_ap, sIf_ap, sFor_ap, sSub_ap, sRaise_ap, mkWhat_ap, eVar_ap, eC_ap, eBin_ap, eUn_ap, eTup_ap, eLst_ap, eCB_ap, eCall_ap, eM_ap, eIf_ap, eAndV_ap, eOrV_ap, eNotV_ap, eChain_ap, eSl_ap, oNone_ap, oSome_ap, eXf_ap, aNil_ap, aCons_ap, tOf_ap, tTru_ap, tAndM_ap, tOrM_ap, tNotM_ap, tYesM_ap, asB_bl, truA_b, Res.bind_ok, Res.bind_exc, Res.toS_ok, Res.toS_exc, Res.of_some, SRes.bind_nx, SRes.bind_rt, SRes.bind_exc, SRes.bind_ct, SRes.bind_bk, gN_ap, List.getElem?_cons_zero, List.getElem?_cons_succ, List.set_cons_zero, List.set_cons_succ, one1_ap, two2_ap, newL_f, newL_t, addOp_ii, subOp_ii, negOp_i, ltOp_ii, leOp_ii, gtOp_ii, geOp_ii, eqOp_ii, neOp_ii, eqOp_ss, neOp_ss, intA_i, intA_b, maxA_ii, minA_ii, lenA_lst, lenA_tup, lenA_slst, listA_lst, listA_tup, listA_slst, tupleA_lst, tupleA_tup, List.length_map, List.length_cons, List.length_nil, Bool.not_true, Bool.not_false, Bool.false_eq_true, if_true, if_false, Nat.zero_add, Nat.reduceAdd]) (by omega) (by omega) (by omega) (by omega), rgA_intsG]
    rw [show ((w.length : Int) - 1).toNat = w.length - 1 by omega]
  have lc := @eLc_ints (mRng2 (aCons (eC (.int 1)) (aCons (eCB (one1 lenA) (aCons (eVar 1) aNil)) aNil))) 4 [4] t1__law_left e2__law_left [x0, some (lI w), x2, x3, x4] st false ((List.range (w.length - 1)).map fun i => (1 : Int) + ((i : Nat) : Int)) (fun x => decide (w.getD x.toNat 0 = - w.getD (x - 1).toNat 0)) (fun x => x) er (by simp; omega) (fun x hx => by
    obtain ⟨i, hi, rfl⟩ := List.mem_map.mp hx
    have hi := List.mem_range.mp hi
    show t1__law_left [x0, some (lI w), x2, x3, some (.int (1 + (i : Int)))] st = _ ∧ (_ → e2__law_left [x0, some (lI w), x2, x3, some (.int (1 + (i : Int)))] st = _)
    have i1 := @ix_lI st w (1 + (i : Int)) (by omega) (by omega)
    have i2 := @ix_lI st w (1 + (i : Int) - 1) (by omega) (by omega)
    exact ⟨by simp only [t1__law_left, sSeq_ap, sAsg_ap, sEx_ap, sRet_ap, sRetN_ap, sNil_ap, sIf_ap, sFor_ap, sSub_ap, sRaise_ap, mkWhat_ap, eVar_ap, eC_ap, eBin_ap, eUn_ap, eTup_ap, eLst_ap, eCB_ap, eCall_ap, eM_ap, eIf_ap, eAndV_ap, eOrV_ap, eNotV_ap, eChain_ap, eSl_ap, oNone_ap, oSome_ap, eXf_ap, aNil_ap, aCons_ap, tOf_ap, tTru_ap, tAndM_ap, tOrM_ap, tNotM_ap, tYesM_ap, asB_bl, truA_b, Res.bind_ok, Res.bind_exc, Res.toS_ok, Res.toS_exc, Res.of_some, SRes.bind_nx, SRes.bind_rt, SRes.bind_exc, SRes.bind_ct, SRes.bind_bk, gN_ap, List.getElem?_cons_zero, List.getElem?_cons_succ, List.set_cons_zero, List.set_cons_succ, one1_ap, two2_ap, newL_f, newL_t, addOp_ii, subOp_ii, negOp_i, ltOp_ii, leOp_ii, gtOp_ii, geOp_ii, eqOp_ii, neOp_ii, eqOp_ss, neOp_ss, intA_i, intA_b, maxA_ii, minA_ii, lenA_lst, lenA_tup, lenA_slst, listA_lst, listA_tup, listA_slst, tupleA_lst, tupleA_tup, List.length_map, List.length_cons, List.length_nil, Bool.not_true, Bool.not_false, Bool.false_eq_true, if_true, if_false, Nat.zero_add, Nat.reduceAdd, i1, i2], fun _ => by simp only [e2__law_left, sSeq_ap, sAsg_ap, sEx_ap, sRet_ap, sRetN_ap, sNil_ap, sIf_ap, sFor_ap, sSub_ap, sRaise_ap, mkWhat_ap, eVar_ap, eC_ap, eBin_ap, eUn_ap, eTup_ap, eLst_ap, eCB_ap, eCall_ap, eM_ap, eIf_ap, eAndV_ap, eOrV_ap, eNotV_ap, eChain_ap, eSl_ap, oNone_ap, oSome_ap, eXf_ap, aNil_ap, aCons_ap, tOf_ap, tTru_ap, tAndM_ap, tOrM_ap, tNotM_ap, tYesM_ap, asB_bl, truA_b, Res.bind_ok, Res.bind_exc, Res.toS_ok, Res.toS_exc, Res.of_some, SRes.bind_nx, SRes.bind_rt, SRes.bind_exc, SRes.bind_ct, SRes.bind_bk, gN_ap, List.getElem?_cons_zero, List.getElem?_cons_succ, List.set_cons_zero, List.set_cons_succ, one1_ap, two2_ap, newL_f, newL_t, addOp_ii, subOp_ii, negOp_i, ltOp_ii, leOp_ii, gtOp_ii, geOp_ii, eqOp_ii, neOp_ii, eqOp_ss, neOp_ss, intA_i, intA_b, maxA_ii, minA_ii, lenA_lst, lenA_tup, lenA_slst, listA_lst, listA_tup, listA_slst, tupleA_lst, tupleA_tup, List.length_map, List.length_cons, List.length_nil, Bool.not_true, Bool.not_false, Bool.false_eq_true, if_true, if_false, Nat.zero_add, Nat.reduceAdd]⟩)
  rw [filt_pls, List.map_id'] at lc
  simp only [newL_f] at lc
  by_cases hp : pls w = []
  · rw [hp] at lc
    rw [lst1_none hp]
    refine ⟨some (lI []), x4, ?_⟩
    have h0 : decide (((([] : List Int).map A.int).length : Int) > 0) = false := by decide
    simp only [L3__law_left, sSeq_ap, sAsg_ap, lc, Res.toS_ok, gN_ap, List.set_cons_succ, List.set_cons_zero, SRes.bind_nx, List.map_nil, sIf_ap, tOf_ap, eBin_ap, eCB_ap, aCons_ap, eVar_ap, List.getElem?_cons_succ, List.getElem?_cons_zero, Res.bind_ok, aNil_ap, one1_ap, lenA_lst, Res.of_some, eC_ap, gtOp_ii, List.length_nil, show decide (((0 : Nat) : Int) > 0) = false by decide, asB_bl, Bool.false_eq_true, if_false, sNil_ap]
    rfl
  · cases e : (pls w).getLast? with
    | none => exact absurd (List.getLast?_eq_none_iff.mp e) hp
    | some i =>
      obtain ⟨h0, h1, h2⟩ := pls_mem (List.mem_of_getLast? e)
      have el : lst1 w = w.take (i - 1) ++ w.drop (i + 1) := by unfold lst1; rw [e]
      have hn : 0 < (pls w).length := List.length_pos_iff.mpr hp
      have ix : ixOp (lI ((pls w).map fun (i : Nat) => (i : Int))) (.int (-1)) st = some (.int (i : Int), st) := by
        have := @neg_ix st (lI ((pls w).map fun (i : Nat) => (i : Int))) ((pls w).map fun (i : Nat) => (i : Int)) 0 rfl (by simpa using hn)
        simp only [List.length_map, Nat.sub_zero] at this
        have e3 : ((pls w).map fun (i : Nat) => (i : Int)).getD ((pls w).length - 1) 0 = (i : Int) := by
          rw [List.getD_eq_getElem?_getD, List.getElem?_map]
          rw [List.getLast?_eq_getElem?] at e
          rw [e]; rfl
        rw [e3] at this
        exact this
      have s1 := @slt st w ((i : Int) - 1) (by omega) (by omega)
      have s2 := @sld st w ((i : Int) + 1) (by omega) (by omega)
      rw [show ((i : Int) - 1).toNat = i - 1 by omega] at s1
      rw [show ((i : Int) + 1).toNat = i + 1 by omega] at s2
      have ad := @addI_l st (w.take (i - 1)) (w.drop (i + 1)) (by simp; omega)
      rw [el]
      refine ⟨some (lI ((pls w).map fun (i : Nat) => (i : Int))), some (.int (i : Int)), ?_⟩
      have hl0 : decide ((((pls w).length : Nat) : Int) > 0) = true := decide_eq_true (by omega)
      simp only [L3__law_left, sSeq_ap, sAsg_ap, lc, sSeq_ap, sAsg_ap, sEx_ap, sRet_ap, sRetN_ap, sNil_ap, sIf_ap, sFor_ap, sSub_ap, sRaise_ap, mkWhat_ap, eVar_ap, eC_ap, eBin_ap, eUn_ap, eTup_ap, eLst_ap, eCB_ap, eCall_ap, eM_ap, eIf_ap, eAndV_ap, eOrV_ap, eNotV_ap, eChain_ap, eSl_ap, oNone_ap, oSome_ap, eXf_ap, aNil_ap, aCons_ap, tOf_ap, tTru_ap, tAndM_ap, tOrM_ap, tNotM_ap, tYesM_ap, asB_bl, truA_b, Res.bind_ok, Res.bind_exc, Res.toS_ok, Res.toS_exc, Res.of_some, SRes.bind_nx, SRes.bind_rt, SRes.bind_exc, SRes.bind_ct, SRes.bind_bk, gN_ap, List.getElem?_cons_zero, List.getElem?_cons_succ, List.set_cons_zero, List.set_cons_succ, one1_ap, two2_ap, newL_f, newL_t, addOp_ii, subOp_ii, negOp_i, ltOp_ii, leOp_ii, gtOp_ii, geOp_ii, eqOp_ii, neOp_ii, eqOp_ss, neOp_ss, intA_i, intA_b, maxA_ii, minA_ii, lenA_lst, lenA_tup, lenA_slst, listA_lst, listA_tup, listA_slst, tupleA_lst, tupleA_tup, List.length_map, List.length_cons, List.length_nil, Bool.not_true, Bool.not_false, Bool.false_eq_true, if_true, if_false, Nat.zero_add, Nat.reduceAdd, List.length_map, hl0, ix, s1, s2, ad]
theorem forL_nx {all : List A} {g : MG} {body : MS} {x : A} {xs : List A} {env e1 e2 : AEnv} {s s2 : Store} (hg : g x env = some e1) (hb : body e1 s = .nx e2 s2) : forL none all g body (x :: xs) env s = forL none all g body xs e2 s2 := by
  rw [forL, if_pos (show srcOk none all _ from trivial), hg]
  dsimp only
  rw [hb]
theorem forL_rt {all : List A} {g : MG} {body : MS} {x a : A} {xs : List A} {env e1 : AEnv} {s s2 : Store} (hg : g x env = some e1) (hb : body e1 s = .rt a s2) : forL none all g body (x :: xs) env s = .rt a s2 := by
  rw [forL, if_pos (show srcOk none all _ from trivial), hg]
  dsimp only
  rw [hb]
theorem forL_nil {all : List A} {g : MG} {body : MS} {env : AEnv} {s : Store} : forL none all g body [] env s = .nx env s := by
  rw [forL, if_pos (show srcOk none all _ from trivial)]
theorem left_loop {x0 : Option A} {all : List A} (xs : List A) : ∀ (w : List Int) (x2 x3 x4 : Option A), w.length < 1000 → ∃ y2 y3 y4, forL none all (gN 2) L3__law_left xs [x0, some (lI w), x2, x3, x4] st = .nx [x0, some (lI (lstN xs.length w)), y2, y3, y4] st := by
  induction xs with
  | nil => exact fun w x2 x3 x4 _ => ⟨x2, x3, x4, by rw [forL, if_pos (show srcOk none all _ from trivial)]; rfl⟩
  | cons x xs ih =>
    intro w x2 x3 x4 hl
    obtain ⟨y3, y4, h1⟩ := @left_body st w x0 (some x) x3 x4 hl
    have hlen : (lst1 w).length < 1000 := by
      by_cases hp : pls w = []
      · rw [lst1_none hp]; exact hl
      · have := (lst1_some hp).2; omega
    obtain ⟨z2, z3, z4, ih⟩ := ih (lst1 w) (some x) y3 y4 hlen
    refine ⟨z2, z3, z4, ?_⟩
    rw [forL_nx (e1 := [x0, some (lI w), some x, x3, x4]) rfl h1, ih]
    rfl
theorem left_sp {w : List Int} (hl : w.length < 1000) : M__law_left [lI w] st = .ok (lI (red w)) st := by
  have hz := sz
  have er : mRng1 (aCons (eCB (one1 lenA) (aCons (eVar 0) aNil)) aNil) [some (lI w), some (lI w), none, none, none] st = .ok (((List.range w.length).map fun i => ((i : Nat) : Int)).map A.int, none) st := rng1 (by omega) (by simp only [sSeq_ap, sAsg_ap, sEx_ap, sRet_ap, sRetN_ap, sNil_ap, sIf_ap, sFor_ap, sSub_ap, sRaise_ap, mkWhat_ap, eVar_ap, eC_ap, eBin_ap, eUn_ap, eTup_ap, eLst_ap, eCB_ap, eCall_ap, eM_ap, eIf_ap, eAndV_ap, eOrV_ap, eNotV_ap, eChain_ap, eSl_ap, oNone_ap, oSome_ap, eXf_ap, aNil_ap, aCons_ap, tOf_ap, tTru_ap, tAndM_ap, tOrM_ap, tNotM_ap, tYesM_ap, asB_bl, truA_b, Res.bind_ok, Res.bind_exc, Res.toS_ok, Res.toS_exc, Res.of_some, SRes.bind_nx, SRes.bind_rt, SRes.bind_exc, SRes.bind_ct, SRes.bind_bk, gN_ap, List.getElem?_cons_zero, List.getElem?_cons_succ, List.set_cons_zero, List.set_cons_succ, one1_ap, two2_ap, newL_f, newL_t, addOp_ii, subOp_ii, negOp_i, ltOp_ii, leOp_ii, gtOp_ii, geOp_ii, eqOp_ii, neOp_ii, eqOp_ss, neOp_ss, intA_i, intA_b, maxA_ii, minA_ii, lenA_lst, lenA_tup, lenA_slst, listA_lst, listA_tup, listA_slst, tupleA_lst, tupleA_tup, List.length_map, List.length_cons, List.length_nil, Bool.not_true, Bool.not_false, Bool.false_eq_true, if_true, if_false, Nat.zero_add, Nat.reduceAdd])
  obtain ⟨y2, y3, y4, h⟩ := @left_loop st (some (lI w)) (((List.range w.length).map fun i => ((i : Nat) : Int)).map A.int) (((List.range w.length).map fun i => ((i : Nat) : Int)).map A.int) w none none none hl
  rw [List.length_map, List.length_map, List.length_range, lstN_ok (Nat.le_refl _)] at h
  refine fnM_rt rfl (a := lI (red w)) (st' := st) ?_ fin_lI0
  show B__law_left [some (lI w), none, none, none, none] st = _
  simp only [B__law_left, sSeq_ap, sAsg_ap, sEx_ap, sRet_ap, sRetN_ap, sNil_ap, sIf_ap, sFor_ap, sSub_ap, sRaise_ap, mkWhat_ap, eVar_ap, eC_ap, eBin_ap, eUn_ap, eTup_ap, eLst_ap, eCB_ap, eCall_ap, eM_ap, eIf_ap, eAndV_ap, eOrV_ap, eNotV_ap, eChain_ap, eSl_ap, oNone_ap, oSome_ap, eXf_ap, aNil_ap, aCons_ap, tOf_ap, tTru_ap, tAndM_ap, tOrM_ap, tNotM_ap, tYesM_ap, asB_bl, truA_b, Res.bind_ok, Res.bind_exc, Res.toS_ok, Res.toS_exc, Res.of_some, SRes.bind_nx, SRes.bind_rt, SRes.bind_exc, SRes.bind_ct, SRes.bind_bk, gN_ap, List.getElem?_cons_zero, List.getElem?_cons_succ, List.set_cons_zero, List.set_cons_succ, one1_ap, two2_ap, newL_f, newL_t, addOp_ii, subOp_ii, negOp_i, ltOp_ii, leOp_ii, gtOp_ii, geOp_ii, eqOp_ii, neOp_ii, eqOp_ss, neOp_ss, intA_i, intA_b, maxA_ii, minA_ii, lenA_lst, lenA_tup, lenA_slst, listA_lst, listA_tup, listA_slst, tupleA_lst, tupleA_tup, List.length_map, List.length_cons, List.length_nil, Bool.not_true, Bool.not_false, Bool.false_eq_true, if_true, if_false, Nat.zero_add, Nat.reduceAdd, er, h]
end
end Gk07

set_option Elab.async false
set_option linter.all false
set_option maxRecDepth 100000
set_option maxHeartbeats 4000000
namespace Gk07
open PySem PySem.Spec L2 SL F07
open PyProof.Rows hiding St
abbrev mA (m : M2) : A := .tup [.int m.a, .int m.b, .int m.c, .int m.d]
theorem bel_mA {k : Nat} {m : M2} : (mA m).bel k = true := by simp [A.bel, belowL]
theorem g4 {a b c d : Nat} {w x y z : A} {env : AEnv} : gT 4 (gsCons (gN a) (gsCons (gN b) (gsCons (gN c) (gsCons (gN d) gsNil)))) (.tup [w, x, y, z]) env = some ((((env.set a (some w)).set b (some x)).set c (some y)).set d (some z)) := rfl
section
variable {st : Store} {p : Int} {x y : M2}
theorem mulE {a b : Int} (h0 : 0 ≤ a) (h1 : a < p) (h2 : 0 ≤ b) (h3 : b < p) (hp : p ≤ 65537) : mulOp false (.int a) (.int b) st = some (.int (a * b), st) := mulOp_ii (small_mulI (by omega) (by omega))
theorem modE {a : Int} (hp : 1 < p) : modOp (.int a) (.int p) st = some (.int (a % p), st) := by
  rw [modOp_ii (by omega), Int.fmod_eq_emod_of_nonneg _ (by omega)]
theorem prod_sp (hp : 1 < p) (hp2 : p ≤ 65537) (hx : Ok p x) (hy : Ok p y) : M__law_matrix_product [mA x, mA y, .int p] st = .ok (mA (mulM p x y)) st := by
  have hz := sz
  have l2' : (2 : Nat) ≤ sizeLine := by omega
  have l4' : (4 : Nat) ≤ sizeLine := by omega
  have m1 := @mulE st p x.a y.a hx.a0 hx.a1 hy.a0 hy.a1 hp2
  have m2 := @mulE st p x.b y.c hx.b0 hx.b1 hy.c0 hy.c1 hp2
  have m3 := @mulE st p x.a y.b hx.a0 hx.a1 hy.b0 hy.b1 hp2
  have m4 := @mulE st p x.b y.d hx.b0 hx.b1 hy.d0 hy.d1 hp2
  have m5 := @mulE st p x.c y.a hx.c0 hx.c1 hy.a0 hy.a1 hp2
  have m6 := @mulE st p x.d y.c hx.d0 hx.d1 hy.c0 hy.c1 hp2
  have m7 := @mulE st p x.c y.b hx.c0 hx.c1 hy.b0 hy.b1 hp2
  have m8 := @mulE st p x.d y.d hx.d0 hx.d1 hy.d0 hy.d1 hp2
  have md := fun a => @modE st p a hp
  refine fnM_rt rfl (a := mA (mulM p x y)) (st' := st) ?_ (fin_pure0 bel_mA (by intro c h; cases h))
  show B__law_matrix_product [some (mA x), some (mA y), some (.int p), none, none, none, none, none, none, none, none, none] st = _
  have i0 := @ixt st 0 [.int ((x.a * y.a + x.b * y.c) % p), .int ((x.a * y.b + x.b * y.d) % p)] _ (by omega) rfl
  have i1 := @ixt st 1 [.int ((x.a * y.a + x.b * y.c) % p), .int ((x.a * y.b + x.b * y.d) % p)] _ (by omega) rfl
  simp only [B__law_matrix_product, sSeq_ap, sAsg_ap, eVar_ap, List.getElem?_cons_zero, List.getElem?_cons_succ, Res.toS_ok, mA, g4, List.set_cons_zero, List.set_cons_succ, SRes.bind_nx, sSeq_ap, sAsg_ap, sEx_ap, sRet_ap, sRetN_ap, sNil_ap, sIf_ap, sFor_ap, sSub_ap, sRaise_ap, mkWhat_ap, eVar_ap, eC_ap, eBin_ap, eUn_ap, eTup_ap, eLst_ap, eCB_ap, eCall_ap, eM_ap, eIf_ap, eAndV_ap, eOrV_ap, eNotV_ap, eChain_ap, eSl_ap, oNone_ap, oSome_ap, eXf_ap, aNil_ap, aCons_ap, tOf_ap, tTru_ap, tAndM_ap, tOrM_ap, tNotM_ap, tYesM_ap, asB_bl, truA_b, Res.bind_ok, Res.bind_exc, Res.toS_ok, Res.toS_exc, Res.of_some, SRes.bind_nx, SRes.bind_rt, SRes.bind_exc, SRes.bind_ct, SRes.bind_bk, gN_ap, List.getElem?_cons_zero, List.getElem?_cons_succ, List.set_cons_zero, List.set_cons_succ, one1_ap, two2_ap, newL_f, newL_t, addOp_ii, subOp_ii, negOp_i, ltOp_ii, leOp_ii, gtOp_ii, geOp_ii, eqOp_ii, neOp_ii, eqOp_ss, neOp_ss, intA_i, intA_b, maxA_ii, minA_ii, lenA_lst, lenA_tup, lenA_slst, listA_lst, listA_tup, listA_slst, tupleA_lst, tupleA_tup, List.length_map, List.length_cons, List.length_nil, Bool.not_true, Bool.not_false, Bool.false_eq_true, if_true, if_false, Nat.zero_add, Nat.reduceAdd, m1, m2, m3, m4, m5, m6, m7, m8, md, l2', l4', i0, i1]
  rfl
theorem inv_sp (hp : 1 < p) : M__law_matrix_inverse [mA x, .int p] st = .ok (mA (invM p x)) st := by
  have hz := sz
  have l4' : (4 : Nat) ≤ sizeLine := by omega
  have md := fun a => @modE st p a hp
  refine fnM_rt rfl (a := mA (invM p x)) (st' := st) ?_ (fin_pure0 bel_mA (by intro c h; cases h))
  show B__law_matrix_inverse [some (mA x), some (.int p), none, none, none, none] st = _
  simp only [B__law_matrix_inverse, sSeq_ap, sAsg_ap, eVar_ap, List.getElem?_cons_zero, List.getElem?_cons_succ, Res.toS_ok, mA, g4, List.set_cons_zero, List.set_cons_succ, SRes.bind_nx, sSeq_ap, sAsg_ap, sEx_ap, sRet_ap, sRetN_ap, sNil_ap, sIf_ap, sFor_ap, sSub_ap, sRaise_ap, mkWhat_ap, eVar_ap, eC_ap, eBin_ap, eUn_ap, eTup_ap, eLst_ap, eCB_ap, eCall_ap, eM_ap, eIf_ap, eAndV_ap, eOrV_ap, eNotV_ap, eChain_ap, eSl_ap, oNone_ap, oSome_ap, eXf_ap, aNil_ap, aCons_ap, tOf_ap, tTru_ap, tAndM_ap, tOrM_ap, tNotM_ap, tYesM_ap, asB_bl, truA_b, Res.bind_ok, Res.bind_exc, Res.toS_ok, Res.toS_exc, Res.of_some, SRes.bind_nx, SRes.bind_rt, SRes.bind_exc, SRes.bind_ct, SRes.bind_bk, gN_ap, List.getElem?_cons_zero, List.getElem?_cons_succ, List.set_cons_zero, List.set_cons_succ, one1_ap, two2_ap, newL_f, newL_t, addOp_ii, subOp_ii, negOp_i, ltOp_ii, leOp_ii, gtOp_ii, geOp_ii, eqOp_ii, neOp_ii, eqOp_ss, neOp_ss, intA_i, intA_b, maxA_ii, minA_ii, lenA_lst, lenA_tup, lenA_slst, listA_lst, listA_tup, listA_slst, tupleA_lst, tupleA_tup, List.length_map, List.length_cons, List.length_nil, Bool.not_true, Bool.not_false, Bool.false_eq_true, if_true, if_false, Nat.zero_add, Nat.reduceAdd, md, l4']
  rfl
/-! draws -/
theorem ok_up {t : Int} (hp : 1 < p) (h0 : 0 ≤ t) (h1 : t < p) : Ok p ⟨1, t, 0, 1⟩ := by
  have z0 : (0 : Int) < p := by omega
  refine ⟨Int.zero_le_ofNat 1, hp, h0, h1, Int.le_refl 0, z0, Int.zero_le_ofNat 1, hp, ?_⟩
  show (1 * 1 - t * 0) % p = 1
  rw [Int.mul_zero]
  exact Int.emod_eq_of_lt (by omega) (by omega)
theorem ok_dn {t : Int} (hp : 1 < p) (h0 : 0 ≤ t) (h1 : t < p) : Ok p ⟨1, 0, t, 1⟩ := by
  have z0 : (0 : Int) < p := by omega
  refine ⟨Int.zero_le_ofNat 1, hp, Int.le_refl 0, z0, h0, h1, Int.zero_le_ofNat 1, hp, ?_⟩
  show (1 * 1 - 0 * t) % p = 1
  rw [Int.zero_mul]
  exact Int.emod_eq_of_lt (by omega) (by omega)
abbrev lM (ms : List M2) : A := .lst (ms.map mA)
abbrev cM (ms : List M2) : C := .lst (ms.map mA)
variable {c : Nat} {ds : List Int}
theorem mats1 (hc : c < st.length) (hp : 1 < p) (hp2 : p ≤ 65537) (hx : Ok p x) {l : List C} {x1 x3 x4 x6 x7 x8 : Option A} : ∃ z ds' y7 y8, Ok p z ∧ L1__law_matrices [some (.cell c), x1, some (.int p), x3, x4, some (mA x), x6, x7, x8] (st.set c (li ds) ++ l) = .nx [some (.cell c), x1, some (.int p), x3, x4, some (mA z), x6, y7, y8] (st.set c (li ds') ++ l) := by
  have hz := sz
  have l4' : (4 : Nat) ≤ sizeLine := by omega
  obtain ⟨d1, ds1, p1, p2, t1⟩ := tkA (l := l) (ds := ds) (n := p) hc (by omega)
  obtain ⟨d2, ds2, p3, p4, t2⟩ := tkA (l := l) (ds := ds1) (n := p) hc (by omega)
  have o1 := ok_up hp p1 p2
  have o2 := ok_dn hp p3 p4
  have q1 := @prod_sp (st.set c (li ds2) ++ l) p x ⟨1, d1, 0, 1⟩ hp hp2 hx o1
  have q2 := @prod_sp (st.set c (li ds2) ++ l) p (mulM p x ⟨1, d1, 0, 1⟩) ⟨1, 0, d2, 1⟩ hp hp2 (hx.mul hp o1) o2
  simp only [mA] at q1 q2
  refine ⟨mulM p (mulM p x ⟨1, d1, 0, 1⟩) ⟨1, 0, d2, 1⟩, ds2, some (.tup [.int 1, .int d1, .int 0, .int 1]), some (.tup [.int 1, .int 0, .int d2, .int 1]), (hx.mul hp o1).mul hp o2, ?_⟩
  simp only [L1__law_matrices, sSeq_ap, sAsg_ap, sEx_ap, sRet_ap, sRetN_ap, sNil_ap, sIf_ap, sFor_ap, sSub_ap, sRaise_ap, mkWhat_ap, eVar_ap, eC_ap, eBin_ap, eUn_ap, eTup_ap, eLst_ap, eCB_ap, eCall_ap, eM_ap, eIf_ap, eAndV_ap, eOrV_ap, eNotV_ap, eChain_ap, eSl_ap, oNone_ap, oSome_ap, eXf_ap, aNil_ap, aCons_ap, tOf_ap, tTru_ap, tAndM_ap, tOrM_ap, tNotM_ap, tYesM_ap, asB_bl, truA_b, Res.bind_ok, Res.bind_exc, Res.toS_ok, Res.toS_exc, Res.of_some, SRes.bind_nx, SRes.bind_rt, SRes.bind_exc, SRes.bind_ct, SRes.bind_bk, gN_ap, List.getElem?_cons_zero, List.getElem?_cons_succ, List.set_cons_zero, List.set_cons_succ, one1_ap, two2_ap, newL_f, newL_t, addOp_ii, subOp_ii, negOp_i, ltOp_ii, leOp_ii, gtOp_ii, geOp_ii, eqOp_ii, neOp_ii, eqOp_ss, neOp_ss, intA_i, intA_b, maxA_ii, minA_ii, lenA_lst, lenA_tup, lenA_slst, listA_lst, listA_tup, listA_slst, tupleA_lst, tupleA_tup, List.length_map, List.length_cons, List.length_nil, Bool.not_true, Bool.not_false, Bool.false_eq_true, if_true, if_false, Nat.zero_add, Nat.reduceAdd, t1, t2, l4', mA, q1, q2]
theorem one_A : (A.tup [.int 1, .int 0, .int 0, .int 1]) = mA M2.one := rfl
theorem mats2 (hc : c < st.length) (hp : 1 < p) (hp2 : p ≤ 65537) {ms : List M2} (hm : ms.length < 1000) {x1 x4 x5 x6 x7 x8 : Option A} : ∃ z ds' y5 y6 y7 y8, Ok p z ∧ L2__law_matrices [some (.cell c), x1, some (.int p), some (.cell st.length), x4, x5, x6, x7, x8] (st.set c (li ds) ++ [cM ms]) = .nx [some (.cell c), x1, some (.int p), some (.cell st.length), x4, y5, y6, y7, y8] (st.set c (li ds') ++ [cM (ms ++ [z])]) := by
  have hz := sz
  have l4' : (4 : Nat) ≤ sizeLine := by omega
  obtain ⟨e, s, h1, z, ds', y6, y7, y8, rfl, rfl, hzok⟩ := for_inv (all := ((List.range 3).map fun (j : Nat) => (j : Int)).map A.int) (g := gN 6) (body := L1__law_matrices) (xs := ((List.range 3).map fun (j : Nat) => (j : Int)).map A.int)
    (fun i e s => ∃ z ds' y6 y7 y8, e = [some (.cell c), x1, some (.int p), some (.cell st.length), x4, some (mA z), y6, y7, y8] ∧ s = st.set c (li ds') ++ [cM ms] ∧ Ok p z)
    (env := [some (.cell c), x1, some (.int p), some (.cell st.length), x4, some (mA M2.one), x6, x7, x8]) (st := st.set c (li ds) ++ [cM ms]) ⟨M2.one, ds, _, _, _, rfl, rfl, Ok.one hp⟩ (by
      rintro i a e s hx ⟨z, ds', y6, y7, y8, rfl, rfl, hzk⟩
      obtain ⟨w, ds2, z7, z8, hw, hb⟩ := @mats1 st p z c ds' hc hp hp2 hzk [cM ms] x1 (some (.cell st.length)) x4 (some a) y7 y8
      refine ⟨_, rfl, ?_⟩
      simp only [List.set_cons_succ, List.set_cons_zero, hb, NxP_nx]
      exact ⟨w, ds2, _, _, _, rfl, rfl, hw⟩)
  have er : mRng1 (aCons (eC (.int 3)) aNil) [some (.cell c), x1, some (.int p), some (.cell st.length), x4, some (mA M2.one), x6, x7, x8] (st.set c (li ds) ++ [cM ms]) = .ok (((List.range 3).map fun i => ((i : Nat) : Int)).map A.int, none) (st.set c (li ds) ++ [cM ms]) := rng1' (by omega) rfl
  have hcw : (st.set c (li ds') ++ [cM ms])[st.length]? = some (cM ms) := get_app_len (by simp)
  have tv := tyVA_cell hcw
  have ap : appendM (.cell st.length) [mA z] (st.set c (li ds') ++ [cM ms]) = some (.non, st.set c (li ds') ++ [cM (ms ++ [z])]) := by
    rw [appendM_c hcw (by rw [List.length_map]; omega), List.set_append_right _ _ (by simp), List.length_set, Nat.sub_self]
    simp
  refine ⟨z, ds', some (mA z), y6, y7, y8, hzok, ?_⟩
  simp only [L2__law_matrices, sSeq_ap, sAsg_ap, eTup_ap, aCons_ap, eC_ap, aNil_ap, Res.bind_ok, List.length_cons, List.length_nil, Nat.zero_add, Nat.reduceAdd, l4', if_true, Res.toS_ok, gN_ap, List.set_cons_succ, List.set_cons_zero, SRes.bind_nx, one_A, sFor_ap, er, h1, sEx_ap, eM_ap, eVar_ap, List.getElem?_cons_zero, List.getElem?_cons_succ, tv, ap, Res.of_some]
theorem bel_lM {k : Nat} {ms : List M2} : belowL k (ms.map mA) = true := belowL_all fun x hx => by
  obtain ⟨m, _, rfl⟩ := List.mem_map.mp hx; exact bel_mA
theorem fin_drawM {ds' : List Int} {ms : List M2} (h : (st.set c (li ds') ++ [cM ms])[st.length]? = some (cM ms)) : finA false (st.set c (li ds)).length (st.set c (li ds)) (.cell st.length) (st.set c (li ds') ++ [cM ms]) = .ok (lM ms) (st.set c (li ds')) := by
  have hok : okS (st.set c (li ds)).length (st.set c (li ds)) (st.set c (li ds') ++ [cM ms]) := by
    have := okS_set (st := st.set c (li ds)) (c := c) (k := li ds') (l := [cM ms]) (bel_ints _ _)
    rwa [List.set_set] at this
  rw [finA_lstW (zs := ms.map mA) (by simp) h bel_lM hok]
  congr 1
  have : (st.set c (li ds)).length = (st.set c (li ds')).length := by simp
  rw [this, List.take_left]
theorem mats_sp (hc : c < st.length) (hp : 1 < p) (hp2 : p ≤ 65537) {n : Nat} (hn : n ≤ 8) : ∃ ms ds', Oks p ms ∧ ms.length = n ∧ M__law_matrices [.cell c, .int (n : Int), .int p] (st.set c (li ds)) = .ok (lM ms) (st.set c (li ds')) := by
  have hz := sz
  obtain ⟨e, s, h1, ms, ds', y4, y5, y6, y7, y8, rfl, rfl, hms, hl⟩ := for_inv (all := ((List.range n).map fun (j : Nat) => (j : Int)).map A.int) (g := gN 4) (body := L2__law_matrices) (xs := ((List.range n).map fun (j : Nat) => (j : Int)).map A.int)
    (fun i e s => ∃ ms ds' y4 y5 y6 y7 y8, e = [some (.cell c), some (.int (n : Int)), some (.int p), some (.cell st.length), y4, y5, y6, y7, y8] ∧ s = st.set c (li ds') ++ [cM ms] ∧ Oks p ms ∧ ms.length = i)
    (env := [some (.cell c), some (.int (n : Int)), some (.int p), some (.cell st.length), none, none, none, none, none]) (st := st.set c (li ds) ++ [cM []]) ⟨[], ds, _, _, _, _, _, rfl, rfl, (by intro m hm; cases hm), rfl⟩ (by
      rintro i a e s hx ⟨ms, ds', y4, y5, y6, y7, y8, rfl, rfl, hms, hl⟩
      obtain ⟨hi, rfl⟩ := rng_get hx
      obtain ⟨z, ds2, z5, z6, z7, z8, hzk, hb⟩ := @mats2 st p c ds' hc hp hp2 ms (by omega) (some (.int (n : Int))) (some (.int (i : Int))) y5 y6 y7 y8
      refine ⟨_, rfl, ?_⟩
      simp only [List.set_cons_succ, List.set_cons_zero, hb, NxP_nx]
      refine ⟨ms ++ [z], ds2, _, _, _, _, _, rfl, rfl, fun m hm => ?_, by simp; omega⟩
      rcases List.mem_append.mp hm with hm | hm
      · exact hms m hm
      · rw [List.mem_singleton] at hm; subst hm; exact hzk)
  rw [List.length_map, List.length_map, List.length_range] at hl
  refine ⟨ms, ds', hms, hl, ?_⟩
  refine fnM_rt rfl (a := .cell st.length) (st' := st.set c (li ds') ++ [cM ms]) ?_ (fin_drawM (get_app_len (by simp)))
  show B__law_matrices [some (.cell c), some (.int (n : Int)), some (.int p), none, none, none, none, none, none] (st.set c (li ds)) = _
  have er : mRng1 (aCons (eVar 1) aNil) [some (.cell c), some (.int (n : Int)), some (.int p), some (.cell st.length), none, none, none, none, none] (st.set c (li ds) ++ [C.lst []]) = .ok (((List.range n).map fun i => ((i : Nat) : Int)).map A.int, none) (st.set c (li ds) ++ [C.lst []]) := rng1' (by omega) rfl
  have l0 : (0 : Nat) ≤ sizeLine := by omega
  simp only [B__law_matrices, sSeq_ap, sAsg_ap, sEx_ap, sRet_ap, sRetN_ap, sNil_ap, sIf_ap, sFor_ap, sSub_ap, sRaise_ap, mkWhat_ap, eVar_ap, eC_ap, eBin_ap, eUn_ap, eTup_ap, eLst_ap, eCB_ap, eCall_ap, eM_ap, eIf_ap, eAndV_ap, eOrV_ap, eNotV_ap, eChain_ap, eSl_ap, oNone_ap, oSome_ap, eXf_ap, aNil_ap, aCons_ap, tOf_ap, tTru_ap, tAndM_ap, tOrM_ap, tNotM_ap, tYesM_ap, asB_bl, truA_b, Res.bind_ok, Res.bind_exc, Res.toS_ok, Res.toS_exc, Res.of_some, SRes.bind_nx, SRes.bind_rt, SRes.bind_exc, SRes.bind_ct, SRes.bind_bk, gN_ap, List.getElem?_cons_zero, List.getElem?_cons_succ, List.set_cons_zero, List.set_cons_succ, one1_ap, two2_ap, newL_f, newL_t, addOp_ii, subOp_ii, negOp_i, ltOp_ii, leOp_ii, gtOp_ii, geOp_ii, eqOp_ii, neOp_ii, eqOp_ss, neOp_ss, intA_i, intA_b, maxA_ii, minA_ii, lenA_lst, lenA_tup, lenA_slst, listA_lst, listA_tup, listA_slst, tupleA_lst, tupleA_tup, List.length_map, List.length_cons, List.length_nil, Bool.not_true, Bool.not_false, Bool.false_eq_true, if_true, if_false, Nat.zero_add, Nat.reduceAdd, l0, List.length_set]
  have e0 : cM [] = C.lst [] := rfl
  rw [e0] at h1
  simp only [sSeq_ap, sAsg_ap, sEx_ap, sRet_ap, sRetN_ap, sNil_ap, sIf_ap, sFor_ap, sSub_ap, sRaise_ap, mkWhat_ap, eVar_ap, eC_ap, eBin_ap, eUn_ap, eTup_ap, eLst_ap, eCB_ap, eCall_ap, eM_ap, eIf_ap, eAndV_ap, eOrV_ap, eNotV_ap, eChain_ap, eSl_ap, oNone_ap, oSome_ap, eXf_ap, aNil_ap, aCons_ap, tOf_ap, tTru_ap, tAndM_ap, tOrM_ap, tNotM_ap, tYesM_ap, asB_bl, truA_b, Res.bind_ok, Res.bind_exc, Res.toS_ok, Res.toS_exc, Res.of_some, SRes.bind_nx, SRes.bind_rt, SRes.bind_exc, SRes.bind_ct, SRes.bind_bk, gN_ap, List.getElem?_cons_zero, List.getElem?_cons_succ, List.set_cons_zero, List.set_cons_succ, one1_ap, two2_ap, newL_f, newL_t, addOp_ii, subOp_ii, negOp_i, ltOp_ii, leOp_ii, gtOp_ii, geOp_ii, eqOp_ii, neOp_ii, eqOp_ss, neOp_ss, intA_i, intA_b, maxA_ii, minA_ii, lenA_lst, lenA_tup, lenA_slst, listA_lst, listA_tup, listA_slst, tupleA_lst, tupleA_tup, List.length_map, List.length_cons, List.length_nil, Bool.not_true, Bool.not_false, Bool.false_eq_true, if_true, if_false, Nat.zero_add, Nat.reduceAdd, er, h1]
end
end Gk07

set_option Elab.async false
set_option linter.all false
set_option maxRecDepth 100000
set_option maxHeartbeats 4000000
namespace Gk07
open PySem PySem.Spec L2 SL F07
open PyProof.Rows hiding St
section
variable {st : Store} {p l : Int} {x y : M2} {ms : List M2} {x0 x1 x2 x3 x4 x5 x6 x7 x8 : Option A}
theorem gm_at {k : Int} (h0 : 0 < k) (h1 : k ≤ ms.length) : (ms.map mA)[(k - 1).toNat]? = some (mA (gm ms k)) := by
  unfold gm
  rw [List.getElem?_map, List.getD_eq_getElem?_getD, List.getElem?_eq_getElem (by omega)]
  rfl
theorem val_step (hp : 1 < p) (hp2 : p ≤ 65537) (hx : Ok p x) (hm : Oks p ms) (h0 : l ≠ 0) (h1 : ab l ≤ ms.length) : ∃ y5, L1__law_value [x0, some (lM ms), some (.int p), some (mA x), some (.int l), x5] st = .nx [x0, some (lM ms), some (.int p), some (mA (mulM p x (lm p ms l))), some (.int l), y5] st := by
  have hz := sz
  have a0 := ab_pos h0
  have ix : ixOp (lM ms) (.int (ab l - 1)) st = some (mA (gm ms (ab l)), st) := ixs (by omega) (gm_at a0 h1)
  have g := gm_ok hp hm (ab l)
  have pr := @prod_sp st p x (lm p ms l) hp hp2 hx (lm_ok hp hm l)
  by_cases h : l < 0
  · have iv := @Gk07.inv_sp st p (gm ms (ab l)) hp
    have e : lm p ms l = invM p (gm ms (ab l)) := if_pos h
    rw [e] at pr ⊢
    refine ⟨some (mA (invM p (gm ms (ab l)))), ?_⟩
    simp only [L1__law_value, sSeq_ap, sAsg_ap, eBin_ap, eVar_ap, List.getElem?_cons_zero, List.getElem?_cons_succ, Res.bind_ok, eCB_ap, aCons_ap, aNil_ap, one1_ap, absA_ab, Res.of_some, eC_ap, subOp_ii, ix, Res.toS_ok, gN_ap, List.set_cons_zero, List.set_cons_succ, SRes.bind_nx, sIf_ap, tOf_ap, ltOp_ii, decide_eq_true h, asB_bl, if_true, eCall_ap, iv, pr]
  · have e : lm p ms l = gm ms (ab l) := if_neg h
    rw [e] at pr ⊢
    refine ⟨some (mA (gm ms (ab l))), ?_⟩
    simp only [L1__law_value, sSeq_ap, sAsg_ap, eBin_ap, eVar_ap, List.getElem?_cons_zero, List.getElem?_cons_succ, Res.bind_ok, eCB_ap, aCons_ap, aNil_ap, one1_ap, absA_ab, Res.of_some, eC_ap, subOp_ii, ix, Res.toS_ok, gN_ap, List.set_cons_zero, List.set_cons_succ, SRes.bind_nx, sIf_ap, tOf_ap, ltOp_ii, decide_eq_false h, asB_bl, Bool.false_eq_true, if_false, sNil_ap, eCall_ap, pr]
theorem val_loop {all : List A} (hp : 1 < p) (hp2 : p ≤ 65537) (hm : Oks p ms) : ∀ (u : List Int) (x : M2) (x4 x5 : Option A), Ok p x → Vd ms.length u → ∃ y4 y5, forL none all (gN 4) L1__law_value (u.map A.int) [x0, some (lM ms), some (.int p), some (mA x), x4, x5] st = .nx [x0, some (lM ms), some (.int p), some (mA (valF p ms x u)), y4, y5] st
  | [], x, x4, x5, _, _ => ⟨x4, x5, forL_nil⟩
  | l :: u, x, x4, x5, hx, hv => by
    obtain ⟨h0, h1⟩ := hv l (by simp)
    obtain ⟨y5, hb⟩ := @val_step st p l x ms x0 x5 hp hp2 hx hm h0 h1
    obtain ⟨z4, z5, ih⟩ := val_loop (all := all) hp hp2 hm u (mulM p x (lm p ms l)) (some (.int l)) y5 (hx.mul hp (lm_ok hp hm l)) (fun z hz => hv z (by simp [hz]))
    refine ⟨z4, z5, ?_⟩
    rw [List.map_cons, forL_nx (e1 := [x0, some (lM ms), some (.int p), some (mA x), some (.int l), x5]) rfl hb, ih]
    rfl
theorem value_sp {u : List Int} (hp : 1 < p) (hp2 : p ≤ 65537) (hm : Oks p ms) (hv : Vd ms.length u) : M__law_value [lI u, lM ms, .int p] st = .ok (mA (val p ms u)) st := by
  have hz := sz
  have l4' : (4 : Nat) ≤ sizeLine := by omega
  obtain ⟨y4, y5, h⟩ := @val_loop st p ms (some (lI u)) (u.map A.int) hp hp2 hm u M2.one none none (Ok.one hp) hv
  refine fnM_rt rfl (a := mA (val p ms u)) (st' := st) ?_ (fin_pure0 bel_mA (by intro c h; cases h))
  show B__law_value [some (lI u), some (lM ms), some (.int p), none, none, none] st = _
  simp only [B__law_value, sSeq_ap, sAsg_ap, eTup_ap, aCons_ap, eC_ap, aNil_ap, Res.bind_ok, List.length_cons, List.length_nil, Nat.zero_add, Nat.reduceAdd, l4', if_true, Res.toS_ok, gN_ap, List.set_cons_succ, List.set_cons_zero, SRes.bind_nx, one_A, sFor_ap, mSeq_ap, eVar_ap, List.getElem?_cons_zero, List.getElem?_cons_succ, seqR_lst, srcOf_lst, h, sRet_ap]
  rfl
theorem setL_M {s : Store} {c : Nat} {k : Int} {m : M2} (h : s[c]? = some (cM ms)) (h0 : 0 ≤ k) (h1 : k < ms.length) : setL (.cell c) (.int k) (mA m) s = some (s.set c (cM (ms.set k.toNat m))) := by
  rw [setL_c h h0 (by simpa using h1)]
  rw [show cM (ms.set k.toNat m) = .lst ((ms.map mA).set k.toNat (mA m)) by rw [← List.map_set]]
theorem tup_step (hp : 1 < p) (hp2 : p ≤ 65537) (hm : Oks p ms) (hl : Lt ms.length l) : ∃ y5 y6 y7 y8, L1__law_tuple [x0, x1, some (.int p), some (.cell st.length), some (.int l), x5, x6, x7, x8] (st ++ [cM ms]) = .nx [x0, x1, some (.int p), some (.cell st.length), some (.int l), y5, y6, y7, y8] (st ++ [cM (stp p l ms)]) := by
  have hz := sz
  have a0 := ab_pos hl.1
  have a1 := hl.2
  have g := fun x => gm_ok hp hm x
  have hc : ∀ ms : List M2, (st ++ [cM ms])[st.length]? = some (cM ms) := fun ms => get_app_len rfl
  have i1 : ixOp (.cell st.length) (.int (ab l - 1)) (st ++ [cM ms]) = some (mA (gm ms (ab l)), st ++ [cM ms]) := ixOp_at (seqR_cell (hc ms)) (atI_of (by omega) (gm_at a0 (by omega)))
  have i2 : ixOp (.cell st.length) (.int (ab l)) (st ++ [cM ms]) = some (mA (gm ms (ab l + 1)), st ++ [cM ms]) := ixOp_at (seqR_cell (hc ms)) (atI_of (by omega) (by
    have := @gm_at ms (ab l + 1) (by omega) (by omega)
    rw [show ab l + 1 - 1 = ab l by omega] at this; exact this))
  have s1 := fun (m : M2) => @setL_M ms (st ++ [cM ms]) st.length (ab l - 1) m (hc ms) (by omega) (by omega)
  have s2 := fun (m m' : M2) => @setL_M (ms.set (ab l - 1).toNat m) (st ++ [cM (ms.set (ab l - 1).toNat m)]) st.length (ab l) m' (hc _) (by omega) (by rw [List.length_set]; omega)
  simp only [set_len] at s1 s2
  by_cases h : l > 0
  · have p1 := @prod_sp (st ++ [cM ms]) p (gm ms (ab l)) (gm ms (ab l + 1)) hp hp2 (g _) (g _)
    have p2 := @Gk07.inv_sp (st ++ [cM ms]) p (gm ms (ab l)) hp
    have p3 := @prod_sp (st ++ [cM ms]) p (mulM p (gm ms (ab l)) (gm ms (ab l + 1))) (invM p (gm ms (ab l))) hp hp2 ((g _).mul hp (g _)) ((g _).inv hp)
    have e : stp p l ms = (ms.set (ab l - 1).toNat (mulM p (mulM p (gm ms (ab l)) (gm ms (ab l + 1))) (invM p (gm ms (ab l))))).set (ab l).toNat (gm ms (ab l)) := if_pos h
    rw [e]
    refine ⟨some (.int (ab l)), some (mA (gm ms (ab l))), some (mA (gm ms (ab l + 1))), some (mA (mulM p (gm ms (ab l)) (gm ms (ab l + 1)))), ?_⟩
    simp only [L1__law_tuple, sSeq_ap, sAsg_ap, eBin_ap, eVar_ap, List.getElem?_cons_zero, List.getElem?_cons_succ, Res.bind_ok, eCB_ap, aCons_ap, aNil_ap, one1_ap, absA_ab, Res.of_some, eC_ap, subOp_ii, i1, i2, Res.toS_ok, gN_ap, List.set_cons_zero, List.set_cons_succ, SRes.bind_nx, sIf_ap, tOf_ap, gtOp_ii, decide_eq_true h, asB_bl, if_true, eCall_ap, sSub_ap, p1, p2, p3, s1, s2]
  · have p2 := @Gk07.inv_sp (st ++ [cM ms]) p (gm ms (ab l + 1)) hp
    have p1 := @prod_sp (st ++ [cM ms]) p (invM p (gm ms (ab l + 1))) (gm ms (ab l)) hp hp2 ((g _).inv hp) (g _)
    have p3 := @prod_sp (st ++ [cM (ms.set (ab l - 1).toNat (gm ms (ab l + 1)))]) p (mulM p (invM p (gm ms (ab l + 1))) (gm ms (ab l))) (gm ms (ab l + 1)) hp hp2 (((g _).inv hp).mul hp (g _)) (g _)
    have e : stp p l ms = (ms.set (ab l - 1).toNat (gm ms (ab l + 1))).set (ab l).toNat (mulM p (mulM p (invM p (gm ms (ab l + 1))) (gm ms (ab l))) (gm ms (ab l + 1))) := if_neg h
    rw [e]
    refine ⟨some (.int (ab l)), some (mA (gm ms (ab l))), some (mA (gm ms (ab l + 1))), some (mA (mulM p (invM p (gm ms (ab l + 1))) (gm ms (ab l)))), ?_⟩
    simp only [L1__law_tuple, sSeq_ap, sAsg_ap, eBin_ap, eVar_ap, List.getElem?_cons_zero, List.getElem?_cons_succ, Res.bind_ok, eCB_ap, aCons_ap, aNil_ap, one1_ap, absA_ab, Res.of_some, eC_ap, subOp_ii, i1, i2, Res.toS_ok, gN_ap, List.set_cons_zero, List.set_cons_succ, SRes.bind_nx, sIf_ap, tOf_ap, gtOp_ii, decide_eq_false h, asB_bl, Bool.false_eq_true, if_false, eCall_ap, sSub_ap, p1, p2, p3, s1, s2]
theorem tup_loop {all : List A} (hp : 1 < p) (hp2 : p ≤ 65537) : ∀ (w : List Int) (ms : List M2) (x4 x5 x6 x7 x8 : Option A), Oks p ms → Lw ms.length w → ∃ y4 y5 y6 y7 y8, forL none all (gN 4) L1__law_tuple (w.map A.int) [x0, x1, some (.int p), some (.cell st.length), x4, x5, x6, x7, x8] (st ++ [cM ms]) = .nx [x0, x1, some (.int p), some (.cell st.length), y4, y5, y6, y7, y8] (st ++ [cM (w.foldl (fun ms l => stp p l ms) ms)])
  | [], ms, x4, x5, x6, x7, x8, _, _ => ⟨x4, x5, x6, x7, x8, forL_nil⟩
  | l :: w, ms, x4, x5, x6, x7, x8, hm, hw => by
    obtain ⟨y5, y6, y7, y8, hb⟩ := @tup_step st p l ms x0 x1 x5 x6 x7 x8 hp hp2 hm (hw l (by simp))
    obtain ⟨z4, z5, z6, z7, z8, ih⟩ := tup_loop (all := all) hp hp2 w (stp p l ms) (some (.int l)) y5 y6 y7 y8 (stp_ok hp hm) (fun z hz => by rw [stp_len]; exact hw z (by simp [hz]))
    refine ⟨z4, z5, z6, z7, z8, ?_⟩
    rw [List.map_cons, forL_nx (e1 := [x0, x1, some (.int p), some (.cell st.length), some (.int l), x5, x6, x7, x8]) rfl hb, ih]
    rfl
theorem tuple_sp {w : List Int} (hp : 1 < p) (hp2 : p ≤ 65537) (hm : Oks p ms) (hw : Lw ms.length w) : M__law_tuple [lI w, lM ms, .int p] st = .ok (lM (tup p w ms)) st := by
  have hz := sz
  obtain ⟨y4, y5, y6, y7, y8, h⟩ := @tup_loop st p (some (lI w)) (some (lM ms)) (w.reverse.map A.int) hp hp2 w.reverse ms none none none none none hm (fun z hz => hw z (List.mem_reverse.mp hz))
  have e : w.reverse.foldl (fun ms l => stp p l ms) ms = tup p w ms := by
    rw [List.foldl_reverse]; rfl
  rw [e] at h
  have rv : revL false (lI w) (st ++ [cM ms]) = some (lI w.reverse, st ++ [cM ms]) := by simp [revL, lstR, lstH]
  refine fnM_rt rfl (a := .cell st.length) (st' := st ++ [cM (tup p w ms)]) ?_ (finA_lst (Nat.le_refl _) (get_app_len rfl) bel_lM)
  show B__law_tuple [some (lI w), some (lM ms), some (.int p), none, none, none, none, none, none] st = _
  simp only [B__law_tuple, sSeq_ap, sAsg_ap, eCB_ap, aCons_ap, eVar_ap, List.getElem?_cons_zero, List.getElem?_cons_succ, aNil_ap, Res.bind_ok, one1_ap, listA_lst, newL_t, Res.of_some, Res.toS_ok, gN_ap, List.set_cons_zero, List.set_cons_succ, SRes.bind_nx, sFor_ap, mSeq_ap, eUn_ap, rv, seqR_lst, srcOf_lst, h, sRet_ap]
/-! the letters at the ends -/
theorem sl_in {w : List Int} (hl : 2 ≤ w.length) : slOp false (.lst (w.map A.int)) (some 1) (some (-1)) st = some (lI ((w.drop 1).take (w.length - 2)), st) := by
  have e : cutA (w.map A.int) (some 1) (some (-1)) = ((w.drop 1).take (w.length - 2)).map A.int := by
    unfold cutA
    have h : HT.sIx (w.map A.int).length (w.map A.int).length (some (-1)) = w.length - 1 := by
      simp only [HT.sIx]
      rw [if_pos (by decide), List.length_map]; omega
    have h1 : HT.sIx (w.map A.int).length 0 (some (1 : Int)) = 1 := by
      simp only [HT.sIx]
      rw [if_neg (by decide), List.length_map]; omega
    rw [h, h1, List.map_take, List.map_drop]
    congr 1
  show (lstR (.lst (w.map A.int)) st).map (fun ys => newL false (cutA ys (some 1) (some (-1))) st) = _
  simp [lstR, lstH, e]
theorem cst_step {w : List Int} : L1__law_centre [x0, some (lI w), x2] st = .nx [x0, some (lI (cst w)), x2] st := by
  by_cases h : (w.length : Int) > 1
  · have i0 := @ix_lI st w 0 (by omega) (by omega)
    have i1 := @neg_ix st (lI w) w 0 rfl (by omega)
    have i1 : ixOp (lI w) (.int (-1)) st = some (.int (w.getD (w.length - 1 - 0) 0), st) := i1
    rw [Nat.sub_zero] at i1
    have s1 := @sl_in st w (by omega)
    by_cases h2 : w.getD (0 : Int).toNat 0 = -w.getD (w.length - 1) 0
    · have e : cst w = (w.drop 1).take (w.length - 2) := if_pos ⟨by omega, h2⟩
      rw [e]
      simp only [L1__law_centre, sSeq_ap, sAsg_ap, sEx_ap, sRet_ap, sRetN_ap, sNil_ap, sIf_ap, sFor_ap, sSub_ap, sRaise_ap, mkWhat_ap, eVar_ap, eC_ap, eBin_ap, eUn_ap, eTup_ap, eLst_ap, eCB_ap, eCall_ap, eM_ap, eIf_ap, eAndV_ap, eOrV_ap, eNotV_ap, eChain_ap, eSl_ap, oNone_ap, oSome_ap, eXf_ap, aNil_ap, aCons_ap, tOf_ap, tTru_ap, tAndM_ap, tOrM_ap, tNotM_ap, tYesM_ap, asB_bl, truA_b, Res.bind_ok, Res.bind_exc, Res.toS_ok, Res.toS_exc, Res.of_some, SRes.bind_nx, SRes.bind_rt, SRes.bind_exc, SRes.bind_ct, SRes.bind_bk, gN_ap, List.getElem?_cons_zero, List.getElem?_cons_succ, List.set_cons_zero, List.set_cons_succ, one1_ap, two2_ap, newL_f, newL_t, addOp_ii, subOp_ii, negOp_i, ltOp_ii, leOp_ii, gtOp_ii, geOp_ii, eqOp_ii, neOp_ii, eqOp_ss, neOp_ss, intA_i, intA_b, maxA_ii, minA_ii, lenA_lst, lenA_tup, lenA_slst, listA_lst, listA_tup, listA_slst, tupleA_lst, tupleA_tup, List.length_map, List.length_cons, List.length_nil, Bool.not_true, Bool.not_false, Bool.false_eq_true, if_true, if_false, Nat.zero_add, Nat.reduceAdd, decide_eq_true h, i0, i1, decide_eq_true h2, s1]
    · have e : cst w = w := if_neg fun z => h2 z.2
      rw [e]
      simp only [L1__law_centre, sSeq_ap, sAsg_ap, sEx_ap, sRet_ap, sRetN_ap, sNil_ap, sIf_ap, sFor_ap, sSub_ap, sRaise_ap, mkWhat_ap, eVar_ap, eC_ap, eBin_ap, eUn_ap, eTup_ap, eLst_ap, eCB_ap, eCall_ap, eM_ap, eIf_ap, eAndV_ap, eOrV_ap, eNotV_ap, eChain_ap, eSl_ap, oNone_ap, oSome_ap, eXf_ap, aNil_ap, aCons_ap, tOf_ap, tTru_ap, tAndM_ap, tOrM_ap, tNotM_ap, tYesM_ap, asB_bl, truA_b, Res.bind_ok, Res.bind_exc, Res.toS_ok, Res.toS_exc, Res.of_some, SRes.bind_nx, SRes.bind_rt, SRes.bind_exc, SRes.bind_ct, SRes.bind_bk, gN_ap, List.getElem?_cons_zero, List.getElem?_cons_succ, List.set_cons_zero, List.set_cons_succ, one1_ap, two2_ap, newL_f, newL_t, addOp_ii, subOp_ii, negOp_i, ltOp_ii, leOp_ii, gtOp_ii, geOp_ii, eqOp_ii, neOp_ii, eqOp_ss, neOp_ss, intA_i, intA_b, maxA_ii, minA_ii, lenA_lst, lenA_tup, lenA_slst, listA_lst, listA_tup, listA_slst, tupleA_lst, tupleA_tup, List.length_map, List.length_cons, List.length_nil, Bool.not_true, Bool.not_false, Bool.false_eq_true, if_true, if_false, Nat.zero_add, Nat.reduceAdd, decide_eq_true h, i0, i1, decide_eq_false h2]
  · have e : cst w = w := if_neg (by omega)
    rw [e]
    simp only [L1__law_centre, sSeq_ap, sAsg_ap, sEx_ap, sRet_ap, sRetN_ap, sNil_ap, sIf_ap, sFor_ap, sSub_ap, sRaise_ap, mkWhat_ap, eVar_ap, eC_ap, eBin_ap, eUn_ap, eTup_ap, eLst_ap, eCB_ap, eCall_ap, eM_ap, eIf_ap, eAndV_ap, eOrV_ap, eNotV_ap, eChain_ap, eSl_ap, oNone_ap, oSome_ap, eXf_ap, aNil_ap, aCons_ap, tOf_ap, tTru_ap, tAndM_ap, tOrM_ap, tNotM_ap, tYesM_ap, asB_bl, truA_b, Res.bind_ok, Res.bind_exc, Res.toS_ok, Res.toS_exc, Res.of_some, SRes.bind_nx, SRes.bind_rt, SRes.bind_exc, SRes.bind_ct, SRes.bind_bk, gN_ap, List.getElem?_cons_zero, List.getElem?_cons_succ, List.set_cons_zero, List.set_cons_succ, one1_ap, two2_ap, newL_f, newL_t, addOp_ii, subOp_ii, negOp_i, ltOp_ii, leOp_ii, gtOp_ii, geOp_ii, eqOp_ii, neOp_ii, eqOp_ss, neOp_ss, intA_i, intA_b, maxA_ii, minA_ii, lenA_lst, lenA_tup, lenA_slst, listA_lst, listA_tup, listA_slst, tupleA_lst, tupleA_tup, List.length_map, List.length_cons, List.length_nil, Bool.not_true, Bool.not_false, Bool.false_eq_true, if_true, if_false, Nat.zero_add, Nat.reduceAdd, decide_eq_false h]
theorem cst_loop {all : List A} : ∀ (xs : List A) (w : List Int) (x2 : Option A), ∃ y2, forL none all (gN 2) L1__law_centre xs [x0, some (lI w), x2] st = .nx [x0, some (lI (cstN xs.length w)), y2] st
  | [], w, x2 => ⟨x2, forL_nil⟩
  | x :: xs, w, x2 => by
    have hb := @cst_step st x0 (some x) w
    obtain ⟨z2, ih⟩ := cst_loop (all := all) xs (cst w) (some x)
    refine ⟨z2, ?_⟩
    rw [forL_nx (e1 := [x0, some (lI w), some x]) rfl hb, ih]
    rfl
theorem centre_sp {w : List Int} (hl : w.length < 100000) : M__law_centre [lI w] st = .ok (lI (cstN w.length w)) st := by
  have hz := sz
  have er : mRng1 (aCons (eCB (one1 lenA) (aCons (eVar 0) aNil)) aNil) [some (lI w), some (lI w), none] st = .ok (((List.range w.length).map fun i => ((i : Nat) : Int)).map A.int, none) st := rng1 (by omega) (by simp only [sSeq_ap, sAsg_ap, sEx_ap, sRet_ap, sRetN_ap, sNil_ap, sIf_ap, sFor_ap, sSub_ap, sRaise_ap, mkWhat_ap, eVar_ap, eC_ap, eBin_ap, eUn_ap, eTup_ap, eLst_ap, eCB_ap, eCall_ap, eM_ap, eIf_ap, eAndV_ap, eOrV_ap, eNotV_ap, eChain_ap, eSl_ap, oNone_ap, oSome_ap, eXf_ap, aNil_ap, aCons_ap, tOf_ap, tTru_ap, tAndM_ap, tOrM_ap, tNotM_ap, tYesM_ap, asB_bl, truA_b, Res.bind_ok, Res.bind_exc, Res.toS_ok, Res.toS_exc, Res.of_some, SRes.bind_nx, SRes.bind_rt, SRes.bind_exc, SRes.bind_ct, SRes.bind_bk, gN_ap, List.getElem?_cons_zero, List.getElem?_cons_succ, List.set_cons_zero, List.set_cons_succ, one1_ap, two2_ap, newL_f, newL_t, addOp_ii, subOp_ii, negOp_i, ltOp_ii, leOp_ii, gtOp_ii, geOp_ii, eqOp_ii, neOp_ii, eqOp_ss, neOp_ss, intA_i, intA_b, maxA_ii, minA_ii, lenA_lst, lenA_tup, lenA_slst, listA_lst, listA_tup, listA_slst, tupleA_lst, tupleA_tup, List.length_map, List.length_cons, List.length_nil, Bool.not_true, Bool.not_false, Bool.false_eq_true, if_true, if_false, Nat.zero_add, Nat.reduceAdd])
  obtain ⟨y2, h⟩ := @cst_loop st (some (lI w)) (((List.range w.length).map fun i => ((i : Nat) : Int)).map A.int) (((List.range w.length).map fun i => ((i : Nat) : Int)).map A.int) w none
  rw [List.length_map, List.length_map, List.length_range] at h
  refine fnM_rt rfl (a := lI (cstN w.length w)) (st' := st) ?_ fin_lI0
  show B__law_centre [some (lI w), none, none] st = _
  simp only [B__law_centre, sSeq_ap, sAsg_ap, sEx_ap, sRet_ap, sRetN_ap, sNil_ap, sIf_ap, sFor_ap, sSub_ap, sRaise_ap, mkWhat_ap, eVar_ap, eC_ap, eBin_ap, eUn_ap, eTup_ap, eLst_ap, eCB_ap, eCall_ap, eM_ap, eIf_ap, eAndV_ap, eOrV_ap, eNotV_ap, eChain_ap, eSl_ap, oNone_ap, oSome_ap, eXf_ap, aNil_ap, aCons_ap, tOf_ap, tTru_ap, tAndM_ap, tOrM_ap, tNotM_ap, tYesM_ap, asB_bl, truA_b, Res.bind_ok, Res.bind_exc, Res.toS_ok, Res.toS_exc, Res.of_some, SRes.bind_nx, SRes.bind_rt, SRes.bind_exc, SRes.bind_ct, SRes.bind_bk, gN_ap, List.getElem?_cons_zero, List.getElem?_cons_succ, List.set_cons_zero, List.set_cons_succ, one1_ap, two2_ap, newL_f, newL_t, addOp_ii, subOp_ii, negOp_i, ltOp_ii, leOp_ii, gtOp_ii, geOp_ii, eqOp_ii, neOp_ii, eqOp_ss, neOp_ss, intA_i, intA_b, maxA_ii, minA_ii, lenA_lst, lenA_tup, lenA_slst, listA_lst, listA_tup, listA_slst, tupleA_lst, tupleA_tup, List.length_map, List.length_cons, List.length_nil, Bool.not_true, Bool.not_false, Bool.false_eq_true, if_true, if_false, Nat.zero_add, Nat.reduceAdd, er, h]
/-! where the strands end -/
theorem end_step {e : Int} : ∃ y6, L1__law_ends [x0, x1, x2, x3, some (.int (e - 1)), some (.int l), x6] st = .nx [x0, x1, x2, x3, some (.int (swp l e - 1)), some (.int l), y6] st := by
  refine ⟨some (.int (ab l)), ?_⟩
  by_cases h : e - 1 = ab l
  · have es : swp l e = ab l := by unfold swp; rw [if_neg (by omega), if_pos (by omega)]
    simp only [L1__law_ends, sSeq_ap, sAsg_ap, sEx_ap, sRet_ap, sRetN_ap, sNil_ap, sIf_ap, sFor_ap, sSub_ap, sRaise_ap, mkWhat_ap, eVar_ap, eC_ap, eBin_ap, eUn_ap, eTup_ap, eLst_ap, eCB_ap, eCall_ap, eM_ap, eIf_ap, eAndV_ap, eOrV_ap, eNotV_ap, eChain_ap, eSl_ap, oNone_ap, oSome_ap, eXf_ap, aNil_ap, aCons_ap, tOf_ap, tTru_ap, tAndM_ap, tOrM_ap, tNotM_ap, tYesM_ap, asB_bl, truA_b, Res.bind_ok, Res.bind_exc, Res.toS_ok, Res.toS_exc, Res.of_some, SRes.bind_nx, SRes.bind_rt, SRes.bind_exc, SRes.bind_ct, SRes.bind_bk, gN_ap, List.getElem?_cons_zero, List.getElem?_cons_succ, List.set_cons_zero, List.set_cons_succ, one1_ap, two2_ap, newL_f, newL_t, addOp_ii, subOp_ii, negOp_i, ltOp_ii, leOp_ii, gtOp_ii, geOp_ii, eqOp_ii, neOp_ii, eqOp_ss, neOp_ss, intA_i, intA_b, maxA_ii, minA_ii, lenA_lst, lenA_tup, lenA_slst, listA_lst, listA_tup, listA_slst, tupleA_lst, tupleA_tup, List.length_map, List.length_cons, List.length_nil, Bool.not_true, Bool.not_false, Bool.false_eq_true, if_true, if_false, Nat.zero_add, Nat.reduceAdd, absA_ab, decide_eq_true h, es]
  · by_cases h2 : e - 1 = ab l - 1
    · have es : swp l e = ab l + 1 := by unfold swp; rw [if_pos (by omega)]
      simp only [L1__law_ends, sSeq_ap, sAsg_ap, sEx_ap, sRet_ap, sRetN_ap, sNil_ap, sIf_ap, sFor_ap, sSub_ap, sRaise_ap, mkWhat_ap, eVar_ap, eC_ap, eBin_ap, eUn_ap, eTup_ap, eLst_ap, eCB_ap, eCall_ap, eM_ap, eIf_ap, eAndV_ap, eOrV_ap, eNotV_ap, eChain_ap, eSl_ap, oNone_ap, oSome_ap, eXf_ap, aNil_ap, aCons_ap, tOf_ap, tTru_ap, tAndM_ap, tOrM_ap, tNotM_ap, tYesM_ap, asB_bl, truA_b, Res.bind_ok, Res.bind_exc, Res.toS_ok, Res.toS_exc, Res.of_some, SRes.bind_nx, SRes.bind_rt, SRes.bind_exc, SRes.bind_ct, SRes.bind_bk, gN_ap, List.getElem?_cons_zero, List.getElem?_cons_succ, List.set_cons_zero, List.set_cons_succ, one1_ap, two2_ap, newL_f, newL_t, addOp_ii, subOp_ii, negOp_i, ltOp_ii, leOp_ii, gtOp_ii, geOp_ii, eqOp_ii, neOp_ii, eqOp_ss, neOp_ss, intA_i, intA_b, maxA_ii, minA_ii, lenA_lst, lenA_tup, lenA_slst, listA_lst, listA_tup, listA_slst, tupleA_lst, tupleA_tup, List.length_map, List.length_cons, List.length_nil, Bool.not_true, Bool.not_false, Bool.false_eq_true, if_true, if_false, Nat.zero_add, Nat.reduceAdd, absA_ab, decide_eq_false h, decide_eq_true h2, es]
      rw [show ab l + 1 - 1 = ab l by omega]
    · have es : swp l e = e := by unfold swp; rw [if_neg (by omega), if_neg (by omega)]
      simp only [L1__law_ends, sSeq_ap, sAsg_ap, sEx_ap, sRet_ap, sRetN_ap, sNil_ap, sIf_ap, sFor_ap, sSub_ap, sRaise_ap, mkWhat_ap, eVar_ap, eC_ap, eBin_ap, eUn_ap, eTup_ap, eLst_ap, eCB_ap, eCall_ap, eM_ap, eIf_ap, eAndV_ap, eOrV_ap, eNotV_ap, eChain_ap, eSl_ap, oNone_ap, oSome_ap, eXf_ap, aNil_ap, aCons_ap, tOf_ap, tTru_ap, tAndM_ap, tOrM_ap, tNotM_ap, tYesM_ap, asB_bl, truA_b, Res.bind_ok, Res.bind_exc, Res.toS_ok, Res.toS_exc, Res.of_some, SRes.bind_nx, SRes.bind_rt, SRes.bind_exc, SRes.bind_ct, SRes.bind_bk, gN_ap, List.getElem?_cons_zero, List.getElem?_cons_succ, List.set_cons_zero, List.set_cons_succ, one1_ap, two2_ap, newL_f, newL_t, addOp_ii, subOp_ii, negOp_i, ltOp_ii, leOp_ii, gtOp_ii, geOp_ii, eqOp_ii, neOp_ii, eqOp_ss, neOp_ss, intA_i, intA_b, maxA_ii, minA_ii, lenA_lst, lenA_tup, lenA_slst, listA_lst, listA_tup, listA_slst, tupleA_lst, tupleA_tup, List.length_map, List.length_cons, List.length_nil, Bool.not_true, Bool.not_false, Bool.false_eq_true, if_true, if_false, Nat.zero_add, Nat.reduceAdd, absA_ab, decide_eq_false h, decide_eq_false h2, es]
theorem end_loop {all : List A} : ∀ (w : List Int) (e : Int) (x5 x6 : Option A), ∃ y5 y6, forL none all (gN 5) L1__law_ends (w.map A.int) [x0, x1, x2, x3, some (.int (e - 1)), x5, x6] st = .nx [x0, x1, x2, x3, some (.int (endO w e - 1)), y5, y6] st
  | [], e, x5, x6 => ⟨x5, x6, forL_nil⟩
  | l :: w, e, x5, x6 => by
    obtain ⟨y6, hb⟩ := @end_step st l x0 x1 x2 x3 x6 e
    obtain ⟨z5, z6, ih⟩ := end_loop (all := all) w (swp l e) (some (.int l)) y6
    refine ⟨z5, z6, ?_⟩
    rw [List.map_cons, forL_nx (e1 := [x0, x1, x2, x3, some (.int (e - 1)), some (.int l), x6]) rfl hb, ih]
    rfl
def endL (n : Nat) (w : List Int) : List Int := (List.range n).map fun (i : Nat) => endO w ((i : Int) + 1) - 1
theorem end2 {w es : List Int} {i : Int} (hl : es.length < 1000) : ∃ y4 y5 y6, L2__law_ends [x0, some (lI w), some (.cell st.length), some (.int i), x4, x5, x6] (st ++ [li es]) = .nx [x0, some (lI w), some (.cell st.length), some (.int i), y4, y5, y6] (st ++ [li (es ++ [endO w (i + 1) - 1])]) := by
  have hz := sz
  obtain ⟨y5, y6, h⟩ := @end_loop (st ++ [li es]) x0 (some (lI w)) (some (.cell st.length)) (some (.int i)) (w.map A.int) w (i + 1) x5 x6
  rw [show i + 1 - 1 = i by omega] at h
  have hc : (st ++ [li es])[st.length]? = some (li es) := get_app_len rfl
  have ap := @appendM_li (st ++ [li es]) st.length es (endO w (i + 1) - 1) hc (by omega)
  have tv := tyVA_cell hc
  rw [set_len] at ap
  refine ⟨some (.int (endO w (i + 1) - 1)), y5, y6, ?_⟩
  simp only [L2__law_ends, sSeq_ap, sAsg_ap, eVar_ap, List.getElem?_cons_zero, List.getElem?_cons_succ, Res.toS_ok, gN_ap, List.set_cons_zero, List.set_cons_succ, SRes.bind_nx, sFor_ap, mSeq_ap, Res.bind_ok, seqR_lst, srcOf_lst, h, sEx_ap, eM_ap, tv, if_true, aCons_ap, aNil_ap, ap, Res.of_some]
theorem ends_sp {n : Nat} {w : List Int} (hn : n ≤ 8) : M__law_ends [.int (n : Int), lI w] st = .ok (lI (endL n w)) st := by
  have hz := sz
  obtain ⟨e, s, h1, es, x3, x4, x5, x6, rfl, rfl, hes⟩ := for_inv (all := ((List.range n).map fun (j : Nat) => (j : Int)).map A.int) (g := gN 3) (body := L2__law_ends) (xs := ((List.range n).map fun (j : Nat) => (j : Int)).map A.int)
    (fun i e s => ∃ es x3 x4 x5 x6, e = [some (.int (n : Int)), some (lI w), some (.cell st.length), x3, x4, x5, x6] ∧ s = st ++ [li es] ∧ es = (List.range i).map fun (j : Nat) => endO w ((j : Int) + 1) - 1)
    (env := [some (.int (n : Int)), some (lI w), some (.cell st.length), none, none, none, none]) (st := st ++ [li []]) ⟨[], _, _, _, _, rfl, rfl, rfl⟩ (by
      rintro i a e s hx ⟨es, x3, x4, x5, x6, rfl, rfl, hes⟩
      obtain ⟨hi, rfl⟩ := rng_get hx
      obtain ⟨z4, z5, z6, hb⟩ := @end2 st (some (.int (n : Int))) x4 x5 x6 w es (i : Int) (by subst hes; simp; omega)
      refine ⟨_, rfl, ?_⟩
      simp only [List.set_cons_succ, List.set_cons_zero, hb, NxP_nx]
      refine ⟨_, _, _, _, _, rfl, rfl, ?_⟩
      rw [hes, List.range_succ, List.map_append]; rfl)
  rw [List.length_map, List.length_map, List.length_range] at hes
  refine fnM_rt rfl (a := .cell st.length) (st' := st ++ [li (endL n w)]) ?_ (fin_lIc (Nat.le_refl _) (get_app_len rfl))
  show B__law_ends [some (.int (n : Int)), some (lI w), none, none, none, none, none] st = _
  have er : mRng1 (aCons (eVar 0) aNil) [some (.int (n : Int)), some (lI w), some (.cell st.length), none, none, none, none] (st ++ [C.lst []]) = .ok (((List.range n).map fun i => ((i : Nat) : Int)).map A.int, none) (st ++ [C.lst []]) := rng1' (by omega) rfl
  have l0 : (0 : Nat) ≤ sizeLine := by omega
  have e0 : li [] = C.lst [] := rfl
  rw [e0] at h1
  simp only [B__law_ends, sSeq_ap, sAsg_ap, sEx_ap, sRet_ap, sRetN_ap, sNil_ap, sIf_ap, sFor_ap, sSub_ap, sRaise_ap, mkWhat_ap, eVar_ap, eC_ap, eBin_ap, eUn_ap, eTup_ap, eLst_ap, eCB_ap, eCall_ap, eM_ap, eIf_ap, eAndV_ap, eOrV_ap, eNotV_ap, eChain_ap, eSl_ap, oNone_ap, oSome_ap, eXf_ap, aNil_ap, aCons_ap, tOf_ap, tTru_ap, tAndM_ap, tOrM_ap, tNotM_ap, tYesM_ap, asB_bl, truA_b, Res.bind_ok, Res.bind_exc, Res.toS_ok, Res.toS_exc, Res.of_some, SRes.bind_nx, SRes.bind_rt, SRes.bind_exc, SRes.bind_ct, SRes.bind_bk, gN_ap, List.getElem?_cons_zero, List.getElem?_cons_succ, List.set_cons_zero, List.set_cons_succ, one1_ap, two2_ap, newL_f, newL_t, addOp_ii, subOp_ii, negOp_i, ltOp_ii, leOp_ii, gtOp_ii, geOp_ii, eqOp_ii, neOp_ii, eqOp_ss, neOp_ss, intA_i, intA_b, maxA_ii, minA_ii, lenA_lst, lenA_tup, lenA_slst, listA_lst, listA_tup, listA_slst, tupleA_lst, tupleA_tup, List.length_map, List.length_cons, List.length_nil, Bool.not_true, Bool.not_false, Bool.false_eq_true, if_true, if_false, Nat.zero_add, Nat.reduceAdd, l0, er, h1]
  rw [hes]
  rfl
end
end Gk07

set_option Elab.async false
set_option linter.all false
set_option maxRecDepth 100000
set_option maxHeartbeats 4000000
namespace Gk07
open PySem PySem.Spec L2 SL F07
open PyProof.Rows hiding St
section
variable {st : Store} {c : Nat} {ds : List Int} {n : Nat} {w : List Int}
theorem sl_any {xs : List A} {k j : Int} (h0 : 0 ≤ k) (h1 : k ≤ j) : slOp false (.lst xs) (some k) (some j) st = some (.lst ((xs.drop k.toNat).take (j - k).toNat), st) := by
  have e : cutA xs (some k) (some j) = (xs.drop k.toNat).take (j - k).toNat := by
    obtain ⟨n, rfl⟩ := Int.eq_ofNat_of_zero_le h0
    obtain ⟨m, rfl⟩ := Int.eq_ofNat_of_zero_le (Int.le_trans h0 h1)
    unfold cutA
    rw [HT.sIx_nat, HT.sIx_nat]
    rw [show ((n : Int)).toNat = n by omega, show ((m : Int) - (n : Int)).toNat = m - n by omega]
    by_cases hn : n ≤ xs.length
    · rw [Nat.min_eq_left hn]
      by_cases hm : m ≤ xs.length
      · rw [Nat.min_eq_left hm]
      · rw [Nat.min_eq_right (by omega), List.take_of_length_le (by rw [List.length_drop]; omega), List.take_of_length_le (by rw [List.length_drop]; omega)]
    · have e1 : min n xs.length = xs.length := Nat.min_eq_right (by omega)
      rw [e1, List.drop_length, List.drop_eq_nil_of_le (show xs.length ≤ n by omega)]
      simp
  show (lstR (.lst xs) st).map (fun ys => newL false (cutA ys (some k) (some j)) st) = _
  simp [lstR, lstH, e]
theorem eqOp_bb {a b : Bool} : eqOp (.bl a) (.bl b) st = some (.bl (decide (a = b)), st) := rfl
/-- a step that keeps the braid -/
def St2 (n : Nat) (w w' : List Int) : Prop := Rl n w w' ∧ w'.length ≤ w.length + 2
theorem step_rest {q : Nat} {way : Int} {x0 x6 : Option A} (h1 : 2 ≤ n) (h8 : n ≤ 8) (hw : Lw n w) (hl : w.length < 1000) (hq : q ≤ w.length) : ∃ w', St2 n w w' ∧
    (sSeq (sAsg (gN 5) (eSl false (eVar 2) (oSome (eVar 4)) (oSome (eBin (addOp false) (eVar 4) (eC (.int 3))))))
  (sSeq (sIf (tAndM (tOf (eBin eqOp (eVar 3) (eC (.int 2)))) (tAndM (tOf (eBin gtOp (eCB (one1 lenA) (aCons (eVar 5) aNil)) (eC (.int 1)))) (tOf (eBin eqOp (eBin ixOp (eVar 5) (eC (.int 0))) (eUn negOp (eBin ixOp (eVar 5) (eC (.int 1)))))))) (sRet (eBin (addOp false) (eSl false (eVar 2) oNone (oSome (eVar 4))) (eSl false (eVar 2) (oSome (eBin (addOp false) (eVar 4) (eC (.int 2)))) oNone))) sNil)
  (sSeq (sIf (tAndM (tOf (eBin gtOp (eCB (one1 lenA) (aCons (eVar 5) aNil)) (eC (.int 1)))) (tOf (eBin gtOp (eCB (one1 absA) (aCons (eBin subOp (eCB (one1 absA) (aCons (eBin ixOp (eVar 5) (eC (.int 0))) aNil)) (eCB (one1 absA) (aCons (eBin ixOp (eVar 5) (eC (.int 1))) aNil))) aNil)) (eC (.int 1))))) (sRet (eBin (addOp false) (eBin (addOp false) (eSl false (eVar 2) oNone (oSome (eVar 4))) (eLst false (aCons (eBin ixOp (eVar 5) (eC (.int 1))) (aCons (eBin ixOp (eVar 5) (eC (.int 0))) aNil)))) (eSl false (eVar 2) (oSome (eBin (addOp false) (eVar 4) (eC (.int 2)))) oNone))) sNil)
  (sSeq (sIf (tAndM (tOf (eBin eqOp (eCB (one1 lenA) (aCons (eVar 5) aNil)) (eC (.int 3)))) (tAndM (tOf (eBin eqOp (eBin ixOp (eVar 5) (eC (.int 0))) (eBin ixOp (eVar 5) (eC (.int 2))))) (tOf (eBin eqOp (eCB (one1 absA) (aCons (eBin subOp (eCB (one1 absA) (aCons (eBin ixOp (eVar 5) (eC (.int 0))) aNil)) (eCB (one1 absA) (aCons (eBin ixOp (eVar 5) (eC (.int 1))) aNil))) aNil)) (eC (.int 1)))))) (sIf (tOf (eBin eqOp (eBin gtOp (eBin ixOp (eVar 5) (eC (.int 0))) (eC (.int 0))) (eBin gtOp (eBin ixOp (eVar 5) (eC (.int 1))) (eC (.int 0))))) (sRet (eBin (addOp false) (eBin (addOp false) (eSl false (eVar 2) oNone (oSome (eVar 4))) (eLst false (aCons (eBin ixOp (eVar 5) (eC (.int 1))) (aCons (eBin ixOp (eVar 5) (eC (.int 0))) (aCons (eBin ixOp (eVar 5) (eC (.int 1))) aNil))))) (eSl false (eVar 2) (oSome (eBin (addOp false) (eVar 4) (eC (.int 3)))) oNone))) sNil) sNil)
  (sRet (eVar 2)))))) [x0, some (.int (n : Int)), some (lI w), some (.int way), some (.int (q : Int)), none, x6] st = .rt (lI w') st := by
  have hz := sz
  have l2' : (2 : Nat) ≤ sizeLine := by omega
  have l3' : (3 : Nat) ≤ sizeLine := by omega
  have s0 := @slt st w q (by omega) (by omega)
  rw [show ((q : Int)).toNat = q by omega] at s0
  have sp := @sl_any st (w.map A.int) q ((q : Int) + 3) (by omega) (by omega)
  rw [show ((q : Int)).toNat = q by omega, show ((q : Int) + 3 - (q : Int)).toNat = 3 by omega, ← List.map_drop] at sp
  have hcut : w = w.take q ++ w.drop q := (List.take_append_drop q w).symm
  have hu : Lw n (w.take q) := fun x hx => hw x (List.mem_of_mem_take hx)
  have hlu : (w.take q).length ≤ w.length := by rw [List.length_take]; omega
  have hd : ∀ k, w.drop (q + k) = (w.drop q).drop k := fun k => by rw [List.drop_drop]
  have hlen : (w.drop q).length = w.length - q := List.length_drop
  cases e : w.drop q with
  | nil =>
    rw [e] at sp
    refine ⟨w, ⟨Rl.refl hw, by omega⟩, ?_⟩
    have hn0 : decide (((([] : List A).length : Nat) : Int) > 1) = false := by decide
    have hn3 : decide (((([] : List A).length : Nat) : Int) = 3) = false := by decide
    simp only [List.map_nil, List.take_nil] at sp
    by_cases h2 : way = 2
    · simp only [sSeq_ap, sAsg_ap, eSl_ap, eVar_ap, List.getElem?_cons_zero, List.getElem?_cons_succ, Res.bind_ok, oSome_ap, eBin_ap, eC_ap, addOp_ii, Res.of_some, sp, Res.toS_ok, gN_ap, List.set_cons_zero, List.set_cons_succ, SRes.bind_nx, sIf_ap, tAndM_ap, tOf_ap, eqOp_ii, decide_eq_true h2, asB_bl, if_true, eCB_ap, aCons_ap, aNil_ap, one1_ap, lenA_lst, gtOp_ii, hn0, hn3, Bool.false_eq_true, if_false, sNil_ap, sRet_ap]
    · simp only [sSeq_ap, sAsg_ap, eSl_ap, eVar_ap, List.getElem?_cons_zero, List.getElem?_cons_succ, Res.bind_ok, oSome_ap, eBin_ap, eC_ap, addOp_ii, Res.of_some, sp, Res.toS_ok, gN_ap, List.set_cons_zero, List.set_cons_succ, SRes.bind_nx, sIf_ap, tAndM_ap, tOf_ap, eqOp_ii, decide_eq_false h2, asB_bl, if_true, eCB_ap, aCons_ap, aNil_ap, one1_ap, lenA_lst, gtOp_ii, hn0, hn3, Bool.false_eq_true, if_false, sNil_ap, sRet_ap]
  | cons a r =>
    cases r with
    | nil =>
      rw [e] at sp
      refine ⟨w, ⟨Rl.refl hw, by omega⟩, ?_⟩
      have sp : slOp false (.lst (w.map A.int)) (some (q : Int)) (some ((q : Int) + 3)) st = some (.lst [.int a], st) := sp
      have hn0 : decide (((([.int a] : List A).length : Nat) : Int) > 1) = false := by simp
      have hn3 : decide (((([.int a] : List A).length : Nat) : Int) = 3) = false := by simp
      by_cases h2 : way = 2
      · simp only [sSeq_ap, sAsg_ap, eSl_ap, eVar_ap, List.getElem?_cons_zero, List.getElem?_cons_succ, Res.bind_ok, oSome_ap, eBin_ap, eC_ap, addOp_ii, Res.of_some, sp, Res.toS_ok, gN_ap, List.set_cons_zero, List.set_cons_succ, SRes.bind_nx, sIf_ap, tAndM_ap, tOf_ap, eqOp_ii, decide_eq_true h2, asB_bl, if_true, eCB_ap, aCons_ap, aNil_ap, one1_ap, lenA_lst, gtOp_ii, hn0, hn3, Bool.false_eq_true, if_false, sNil_ap, sRet_ap]
      · simp only [sSeq_ap, sAsg_ap, eSl_ap, eVar_ap, List.getElem?_cons_zero, List.getElem?_cons_succ, Res.bind_ok, oSome_ap, eBin_ap, eC_ap, addOp_ii, Res.of_some, sp, Res.toS_ok, gN_ap, List.set_cons_zero, List.set_cons_succ, SRes.bind_nx, sIf_ap, tAndM_ap, tOf_ap, eqOp_ii, decide_eq_false h2, asB_bl, if_true, eCB_ap, aCons_ap, aNil_ap, one1_ap, lenA_lst, gtOp_ii, hn0, hn3, Bool.false_eq_true, if_false, sNil_ap, sRet_ap]
    | cons b r =>
      have hl2 : q + 2 ≤ w.length := by rw [e] at hlen; simp at hlen; omega
      have ha : Lt n a := hw a (by rw [hcut, e]; simp)
      have hb : Lt n b := hw b (by rw [hcut, e]; simp)
      have hr : Lw n r := fun x hx => hw x (by rw [hcut, e]; simp [hx])
      have d2 := @sld st w ((q : Int) + 2) (by omega) (by omega)
      rw [show ((q : Int) + 2).toNat = q + 2 by omega, hd 2, e] at d2
      have d2 : slOp false (.lst (w.map A.int)) (some ((q : Int) + 2)) none st = some (.lst (r.map A.int), st) := d2
      have hrl : r.length ≤ w.length := by rw [e] at hlen; simp at hlen; omega
      have ad := @addI_l st (w.take q) r (by omega)
      have ad2 := @addI_l st (w.take q) [b, a] (by simp; omega)
      have ad3 := @addI_l st (w.take q ++ [b, a]) r (by simp; omega)
      have ad2' : addOp false (.lst ((w.take q).map A.int)) (.lst [.int b, .int a]) st = _ := ad2
      have hwe : w = w.take q ++ [a, b] ++ r := by
        conv => lhs; rw [hcut, e]
        simp
      have hlw : w.length = (w.take q).length + 2 + r.length := by
        have := congrArg List.length hwe
        rw [List.length_append, List.length_append] at this
        exact this
      have hpart : ∃ part : List A, ((w.drop q).map A.int).take 3 = part ∧ part[0]? = some (.int a) ∧ part[1]? = some (.int b) ∧ decide ((part.length : Int) > 1) = true ∧ ((decide ((part.length : Int) = 3) = false) ∨ ∃ d r2, r = d :: r2 ∧ part[2]? = some (.int d) ∧ decide ((part.length : Int) = 3) = true) := by
        rw [e]
        cases r with
        | nil => exact ⟨_, rfl, rfl, rfl, by simp, .inl (by simp)⟩
        | cons d r2 => exact ⟨_, rfl, rfl, rfl, by simp, .inr ⟨d, r2, rfl, rfl, by simp⟩⟩
      obtain ⟨part, hp, p0, p1, hg, h3⟩ := hpart
      rw [hp] at sp
      have i0 := @ixs st 0 part _ (by omega) p0
      have i1 := @ixs st 1 part _ (by omega) p1
      by_cases hcan : way = 2 ∧ a = -b
      · refine ⟨w.take q ++ r, ⟨?_, by rw [List.length_append]; omega⟩, ?_⟩
        · have e2 : b = -a := by omega
          have := (rl_pair (n := n) (by omega) ha).mid hu hr
          rw [← e2, ← hwe, List.append_nil] at this
          exact this
        · simp only [sSeq_ap, sAsg_ap, eSl_ap, eVar_ap, List.getElem?_cons_zero, List.getElem?_cons_succ, Res.bind_ok, oSome_ap, oNone_ap, eBin_ap, eC_ap, addOp_ii, Res.of_some, sp, Res.toS_ok, gN_ap, List.set_cons_zero, List.set_cons_succ, SRes.bind_nx, sIf_ap, tAndM_ap, tOf_ap, eqOp_ii, decide_eq_true hcan.1, asB_bl, if_true, eCB_ap, aCons_ap, aNil_ap, one1_ap, lenA_lst, gtOp_ii, hg, i0, i1, eUn_ap, negOp_i, decide_eq_true hcan.2, sRet_ap, s0, d2, ad, SRes.bind_rt]
      · have hcf : ∀ (R S : SRes), (((Res.ok (decide (way = 2)) st).bind fun c st1 => if c = true then (Res.ok (decide (a = -b)) st1) else Res.ok false st1).toS ([] : AEnv) fun c st1 => if c = true then R else S) = S := fun R S => by
          by_cases h2 : way = 2
          · have h4 : ¬ a = -b := fun z => hcan ⟨h2, z⟩
            simp [h2, h4]
          · simp [h2]
        by_cases hsw : ab (ab a - ab b) > 1
        · refine ⟨w.take q ++ [b, a] ++ r, ⟨?_, by rw [List.length_append, List.length_append]; show (w.take q).length + 2 + r.length ≤ _; omega⟩, ?_⟩
          · have := (rl_swap (n := n) (by omega) ha hb hsw).mid hu hr
            rw [← hwe] at this
            exact this
          · by_cases h2 : way = 2
            · have h4 : ¬ a = -b := fun z => hcan ⟨h2, z⟩
              simp only [sSeq_ap, sAsg_ap, eSl_ap, eVar_ap, List.getElem?_cons_zero, List.getElem?_cons_succ, Res.bind_ok, oSome_ap, oNone_ap, eBin_ap, eC_ap, addOp_ii, subOp_ii, Res.of_some, sp, Res.toS_ok, gN_ap, List.set_cons_zero, List.set_cons_succ, SRes.bind_nx, sIf_ap, tAndM_ap, tOf_ap, eqOp_ii, decide_eq_true h2, decide_eq_false h4, asB_bl, if_true, Bool.false_eq_true, if_false, sNil_ap, eCB_ap, aCons_ap, aNil_ap, one1_ap, absA_ab, lenA_lst, gtOp_ii, hg, i0, i1, eUn_ap, negOp_i, decide_eq_true hsw, eLst_ap, List.length_cons, List.length_nil, Nat.zero_add, Nat.reduceAdd, l2', newL_f, sRet_ap, s0, d2, ad2', ad3, SRes.bind_rt]
            · simp only [sSeq_ap, sAsg_ap, eSl_ap, eVar_ap, List.getElem?_cons_zero, List.getElem?_cons_succ, Res.bind_ok, oSome_ap, oNone_ap, eBin_ap, eC_ap, addOp_ii, subOp_ii, Res.of_some, sp, Res.toS_ok, gN_ap, List.set_cons_zero, List.set_cons_succ, SRes.bind_nx, sIf_ap, tAndM_ap, tOf_ap, eqOp_ii, decide_eq_false h2, asB_bl, if_true, Bool.false_eq_true, if_false, sNil_ap, eCB_ap, aCons_ap, aNil_ap, one1_ap, absA_ab, lenA_lst, gtOp_ii, hg, i0, i1, eUn_ap, negOp_i, decide_eq_true hsw, eLst_ap, List.length_cons, List.length_nil, Nat.zero_add, Nat.reduceAdd, l2', newL_f, sRet_ap, s0, d2, ad2', ad3, SRes.bind_rt]
        · rcases h3 with h3 | ⟨d, r2, rfl, p2, h3⟩
          · refine ⟨w, ⟨Rl.refl hw, by omega⟩, ?_⟩
            by_cases h2 : way = 2
            · have h4 : ¬ a = -b := fun z => hcan ⟨h2, z⟩
              simp only [sSeq_ap, sAsg_ap, eSl_ap, eVar_ap, List.getElem?_cons_zero, List.getElem?_cons_succ, Res.bind_ok, oSome_ap, oNone_ap, eBin_ap, eC_ap, addOp_ii, subOp_ii, Res.of_some, sp, Res.toS_ok, gN_ap, List.set_cons_zero, List.set_cons_succ, SRes.bind_nx, sIf_ap, tAndM_ap, tOf_ap, eqOp_ii, decide_eq_true h2, decide_eq_false h4, asB_bl, if_true, Bool.false_eq_true, if_false, sNil_ap, eCB_ap, aCons_ap, aNil_ap, one1_ap, absA_ab, lenA_lst, gtOp_ii, hg, i0, i1, eUn_ap, negOp_i, decide_eq_false hsw, h3, sRet_ap]
            · simp only [sSeq_ap, sAsg_ap, eSl_ap, eVar_ap, List.getElem?_cons_zero, List.getElem?_cons_succ, Res.bind_ok, oSome_ap, oNone_ap, eBin_ap, eC_ap, addOp_ii, subOp_ii, Res.of_some, sp, Res.toS_ok, gN_ap, List.set_cons_zero, List.set_cons_succ, SRes.bind_nx, sIf_ap, tAndM_ap, tOf_ap, eqOp_ii, decide_eq_false h2, asB_bl, if_true, Bool.false_eq_true, if_false, sNil_ap, eCB_ap, aCons_ap, aNil_ap, one1_ap, absA_ab, lenA_lst, gtOp_ii, hg, i0, i1, eUn_ap, negOp_i, decide_eq_false hsw, h3, sRet_ap]
          · have i2 := @ixs st 2 part _ (by omega) p2
            have hl3 : q + 3 ≤ w.length := by rw [e] at hlen; simp at hlen; omega
            have d3 := @sld st w ((q : Int) + 3) (by omega) (by omega)
            rw [show ((q : Int) + 3).toNat = q + 3 by omega, hd 3, e] at d3
            have d3 : slOp false (.lst (w.map A.int)) (some ((q : Int) + 3)) none st = some (.lst (r2.map A.int), st) := d3
            have hr2l : r2.length ≤ w.length := by simp at hrl; omega
            have ad4 := @addI_l st (w.take q) [b, a, b] (by simp; omega)
            have ad4 : addOp false (.lst ((w.take q).map A.int)) (.lst [.int b, .int a, .int b]) st = _ := ad4
            have ad5 := @addI_l st (w.take q ++ [b, a, b]) r2 (by simp; omega)
            by_cases h5 : a = d
            · by_cases h6 : ab (ab a - ab b) = 1
              · by_cases h7 : decide (a > 0) = decide (b > 0)
                · refine ⟨w.take q ++ [b, a, b] ++ r2, ⟨?_, by rw [List.length_append, List.length_append]; rw [List.length_cons] at hlw; show (w.take q).length + 3 + r2.length ≤ _; omega⟩, ?_⟩
                  · have := (rl_turn (n := n) (by omega) ha hb h6 h7).mid hu (fun x hx => hr x (List.mem_cons_of_mem _ hx))
                    have e3 : w.take q ++ [a, b, a] ++ r2 = w := by
                      have e4 : w.take q ++ [a, b, a] ++ r2 = w.take q ++ [a, b] ++ d :: r2 := by rw [← h5]; simp
                      exact e4.trans hwe.symm
                    rw [e3] at this
                    exact this
                  · by_cases h2 : way = 2
                    · have h4 : ¬ a = -b := fun z => hcan ⟨h2, z⟩
                      simp only [sSeq_ap, sAsg_ap, eSl_ap, eVar_ap, List.getElem?_cons_zero, List.getElem?_cons_succ, Res.bind_ok, oSome_ap, oNone_ap, eBin_ap, eC_ap, addOp_ii, subOp_ii, Res.of_some, sp, Res.toS_ok, gN_ap, List.set_cons_zero, List.set_cons_succ, SRes.bind_nx, sIf_ap, tAndM_ap, tOf_ap, eqOp_ii, decide_eq_true h2, decide_eq_false h4, asB_bl, if_true, Bool.false_eq_true, if_false, sNil_ap, eCB_ap, aCons_ap, aNil_ap, one1_ap, absA_ab, lenA_lst, gtOp_ii, hg, i0, i1, i2, eUn_ap, negOp_i, decide_eq_false hsw, h3, decide_eq_true h5, decide_eq_true h6, eqOp_bb, decide_eq_true h7, eLst_ap, List.length_cons, List.length_nil, Nat.zero_add, Nat.reduceAdd, l3', newL_f, sRet_ap, s0, d3, ad4, ad5, SRes.bind_rt]
                    · simp only [sSeq_ap, sAsg_ap, eSl_ap, eVar_ap, List.getElem?_cons_zero, List.getElem?_cons_succ, Res.bind_ok, oSome_ap, oNone_ap, eBin_ap, eC_ap, addOp_ii, subOp_ii, Res.of_some, sp, Res.toS_ok, gN_ap, List.set_cons_zero, List.set_cons_succ, SRes.bind_nx, sIf_ap, tAndM_ap, tOf_ap, eqOp_ii, decide_eq_false h2, asB_bl, if_true, Bool.false_eq_true, if_false, sNil_ap, eCB_ap, aCons_ap, aNil_ap, one1_ap, absA_ab, lenA_lst, gtOp_ii, hg, i0, i1, i2, eUn_ap, negOp_i, decide_eq_false hsw, h3, decide_eq_true h5, decide_eq_true h6, eqOp_bb, decide_eq_true h7, eLst_ap, List.length_cons, List.length_nil, Nat.zero_add, Nat.reduceAdd, l3', newL_f, sRet_ap, s0, d3, ad4, ad5, SRes.bind_rt]
                · refine ⟨w, ⟨Rl.refl hw, by omega⟩, ?_⟩
                  by_cases h2 : way = 2
                  · have h4 : ¬ a = -b := fun z => hcan ⟨h2, z⟩
                    simp only [sSeq_ap, sAsg_ap, eSl_ap, eVar_ap, List.getElem?_cons_zero, List.getElem?_cons_succ, Res.bind_ok, oSome_ap, oNone_ap, eBin_ap, eC_ap, addOp_ii, subOp_ii, Res.of_some, sp, Res.toS_ok, gN_ap, List.set_cons_zero, List.set_cons_succ, SRes.bind_nx, sIf_ap, tAndM_ap, tOf_ap, eqOp_ii, decide_eq_true h2, decide_eq_false h4, asB_bl, if_true, Bool.false_eq_true, if_false, sNil_ap, eCB_ap, aCons_ap, aNil_ap, one1_ap, absA_ab, lenA_lst, gtOp_ii, hg, i0, i1, i2, eUn_ap, negOp_i, decide_eq_false hsw, h3, decide_eq_true h5, decide_eq_true h6, eqOp_bb, decide_eq_false h7, sRet_ap]
                  · simp only [sSeq_ap, sAsg_ap, eSl_ap, eVar_ap, List.getElem?_cons_zero, List.getElem?_cons_succ, Res.bind_ok, oSome_ap, oNone_ap, eBin_ap, eC_ap, addOp_ii, subOp_ii, Res.of_some, sp, Res.toS_ok, gN_ap, List.set_cons_zero, List.set_cons_succ, SRes.bind_nx, sIf_ap, tAndM_ap, tOf_ap, eqOp_ii, decide_eq_false h2, asB_bl, if_true, Bool.false_eq_true, if_false, sNil_ap, eCB_ap, aCons_ap, aNil_ap, one1_ap, absA_ab, lenA_lst, gtOp_ii, hg, i0, i1, i2, eUn_ap, negOp_i, decide_eq_false hsw, h3, decide_eq_true h5, decide_eq_true h6, eqOp_bb, decide_eq_false h7, sRet_ap]
              · refine ⟨w, ⟨Rl.refl hw, by omega⟩, ?_⟩
                by_cases h2 : way = 2
                · have h4 : ¬ a = -b := fun z => hcan ⟨h2, z⟩
                  simp only [sSeq_ap, sAsg_ap, eSl_ap, eVar_ap, List.getElem?_cons_zero, List.getElem?_cons_succ, Res.bind_ok, oSome_ap, oNone_ap, eBin_ap, eC_ap, addOp_ii, subOp_ii, Res.of_some, sp, Res.toS_ok, gN_ap, List.set_cons_zero, List.set_cons_succ, SRes.bind_nx, sIf_ap, tAndM_ap, tOf_ap, eqOp_ii, decide_eq_true h2, decide_eq_false h4, asB_bl, if_true, Bool.false_eq_true, if_false, sNil_ap, eCB_ap, aCons_ap, aNil_ap, one1_ap, absA_ab, lenA_lst, gtOp_ii, hg, i0, i1, i2, eUn_ap, negOp_i, decide_eq_false hsw, h3, decide_eq_true h5, decide_eq_false h6, sRet_ap]
                · simp only [sSeq_ap, sAsg_ap, eSl_ap, eVar_ap, List.getElem?_cons_zero, List.getElem?_cons_succ, Res.bind_ok, oSome_ap, oNone_ap, eBin_ap, eC_ap, addOp_ii, subOp_ii, Res.of_some, sp, Res.toS_ok, gN_ap, List.set_cons_zero, List.set_cons_succ, SRes.bind_nx, sIf_ap, tAndM_ap, tOf_ap, eqOp_ii, decide_eq_false h2, asB_bl, if_true, Bool.false_eq_true, if_false, sNil_ap, eCB_ap, aCons_ap, aNil_ap, one1_ap, absA_ab, lenA_lst, gtOp_ii, hg, i0, i1, i2, eUn_ap, negOp_i, decide_eq_false hsw, h3, decide_eq_true h5, decide_eq_false h6, sRet_ap]
            · refine ⟨w, ⟨Rl.refl hw, by omega⟩, ?_⟩
              by_cases h2 : way = 2
              · have h4 : ¬ a = -b := fun z => hcan ⟨h2, z⟩
                simp only [sSeq_ap, sAsg_ap, eSl_ap, eVar_ap, List.getElem?_cons_zero, List.getElem?_cons_succ, Res.bind_ok, oSome_ap, oNone_ap, eBin_ap, eC_ap, addOp_ii, subOp_ii, Res.of_some, sp, Res.toS_ok, gN_ap, List.set_cons_zero, List.set_cons_succ, SRes.bind_nx, sIf_ap, tAndM_ap, tOf_ap, eqOp_ii, decide_eq_true h2, decide_eq_false h4, asB_bl, if_true, Bool.false_eq_true, if_false, sNil_ap, eCB_ap, aCons_ap, aNil_ap, one1_ap, absA_ab, lenA_lst, gtOp_ii, hg, i0, i1, i2, eUn_ap, negOp_i, decide_eq_false hsw, h3, decide_eq_false h5, sRet_ap]
              · simp only [sSeq_ap, sAsg_ap, eSl_ap, eVar_ap, List.getElem?_cons_zero, List.getElem?_cons_succ, Res.bind_ok, oSome_ap, oNone_ap, eBin_ap, eC_ap, addOp_ii, subOp_ii, Res.of_some, sp, Res.toS_ok, gN_ap, List.set_cons_zero, List.set_cons_succ, SRes.bind_nx, sIf_ap, tAndM_ap, tOf_ap, eqOp_ii, decide_eq_false h2, asB_bl, if_true, Bool.false_eq_true, if_false, sNil_ap, eCB_ap, aCons_ap, aNil_ap, one1_ap, absA_ab, lenA_lst, gtOp_ii, hg, i0, i1, i2, eUn_ap, negOp_i, decide_eq_false hsw, h3, decide_eq_false h5, sRet_ap]
theorem stepped_sp (hc : c < st.length) (h1 : 1 ≤ n) (h8 : n ≤ 8) (hw : Lw n w) (hl : w.length < 1000) : ∃ w' ds', St2 n w w' ∧ M__law_stepped [.cell c, .int (n : Int), lI w] (st.set c (li ds)) = .ok (lI w') (st.set c (li ds')) := by
  have hz := sz
  have l2' : (2 : Nat) ≤ sizeLine := by omega
  obtain ⟨way, ds1, p1, p2, t1⟩ := tk0 (ds := ds) (n := 5) hc (by omega)
  obtain ⟨at_, ds2, p3, p4, t2⟩ := tk0 (ds := ds1) (n := (w.length : Int) + 1) hc (by omega)
  obtain ⟨q, rfl⟩ : ∃ q : Nat, at_ = (q : Int) := ⟨at_.toNat, by omega⟩
  by_cases hn : n = 1
  · subst hn
    refine ⟨w, ds2, ⟨Rl.refl hw, by omega⟩, ?_⟩
    refine fnM_rt rfl (a := lI w) (st' := st.set c (li ds2)) ?_ (fin_draw0 bel_lI (by intro c h; cases h))
    show B__law_stepped [some (.cell c), some (.int ((1 : Nat) : Int)), some (lI w), none, none, none, none] (st.set c (li ds)) = _
    have d1 : decide (((1 : Nat) : Int) = 1) = true := by decide
    simp only [B__law_stepped, sSeq_ap, sAsg_ap, eCall_ap, eVar_ap, List.getElem?_cons_zero, List.getElem?_cons_succ, aCons_ap, eC_ap, aNil_ap, Res.bind_ok, t1, Res.toS_ok, gN_ap, List.set_cons_zero, List.set_cons_succ, SRes.bind_nx, eBin_ap, eCB_ap, one1_ap, lenA_lst, List.length_map, Res.of_some, addOp_ii, t2, sIf_ap, tOf_ap, eqOp_ii, d1, asB_bl, if_true, sRet_ap, SRes.bind_rt]
  · have hn1 : ¬ (n : Int) = 1 := by omega
    by_cases hway : way < 2
    · obtain ⟨d1, ds3, p5, p6, t3⟩ := tk0 (ds := ds2) (n := (n : Int) - 1) hc (by omega)
      obtain ⟨d2, ds4, p7, p8, t4⟩ := tk0 (ds := ds3) (n := 2) hc (by omega)
      obtain ⟨u, hu, e3⟩ : ∃ u : Int, Lt n u ∧ ∀ s, ixOp (.lst [.int (1 + d1), .int (-(1 + d1))]) (.int d2) s = some (.int u, s) := by
        rcases (by omega : d2 = 0 ∨ d2 = 1) with rfl | rfl
        · exact ⟨1 + d1, ⟨by omega, by unfold ab; split <;> omega⟩, fun s => ixs (by omega) rfl⟩
        · exact ⟨-(1 + d1), ⟨by omega, by unfold ab; split <;> omega⟩, fun s => ixs (by omega) rfl⟩
      have s0 := @slt (st.set c (li ds4)) w q (by omega) (by omega)
      have s1 := @sld (st.set c (li ds4)) w q (by omega) (by omega)
      rw [show ((q : Int)).toNat = q by omega] at s0 s1
      have a0 := @addI_l (st.set c (li ds4)) (w.take q) [u, -u] (by rw [List.length_take]; simp; omega)
      have a0 : addOp false (.lst ((w.take q).map A.int)) (.lst [.int u, .int (-u)]) (st.set c (li ds4)) = _ := a0
      have a1 := @addI_l (st.set c (li ds4)) (w.take q ++ [u, -u]) (w.drop q) (by rw [List.length_append, List.length_take, List.length_drop]; simp; omega)
      have hu1 : Lw n (w.take q) := fun x hx => hw x (List.mem_of_mem_take hx)
      have hu2 : Lw n (w.drop q) := fun x hx => hw x (List.mem_of_mem_drop hx)
      refine ⟨w.take q ++ [u, -u] ++ w.drop q, ds4, ⟨?_, ?_⟩, ?_⟩
      · have := ((rl_pair (n := n) (by omega) hu).mid hu1 hu2).symm
        rw [List.append_nil, List.take_append_drop] at this
        exact this
      · rw [List.length_append, List.length_append, List.length_take, List.length_drop]
        show min q w.length + 2 + (w.length - q) ≤ _
        omega
      · refine fnM_rt rfl (a := lI (w.take q ++ [u, -u] ++ w.drop q)) (st' := st.set c (li ds4)) ?_ (fin_draw0 bel_lI (by intro c h; cases h))
        show B__law_stepped [some (.cell c), some (.int (n : Int)), some (lI w), none, none, none, none] (st.set c (li ds)) = _
        simp only [B__law_stepped, sSeq_ap, sAsg_ap, eCall_ap, eVar_ap, List.getElem?_cons_zero, List.getElem?_cons_succ, aCons_ap, eC_ap, aNil_ap, Res.bind_ok, t1, Res.toS_ok, gN_ap, List.set_cons_zero, List.set_cons_succ, SRes.bind_nx, eBin_ap, eCB_ap, one1_ap, lenA_lst, List.length_map, Res.of_some, addOp_ii, subOp_ii, t2, t3, t4, e3, sIf_ap, tOf_ap, eqOp_ii, decide_eq_false hn1, ltOp_ii, decide_eq_true hway, asB_bl, if_true, Bool.false_eq_true, if_false, sNil_ap, eLst_ap, List.length_cons, List.length_nil, Nat.zero_add, Nat.reduceAdd, l2', newL_f, eUn_ap, negOp_i, eSl_ap, oNone_ap, oSome_ap, s0, s1, a0, a1, sRet_ap, SRes.bind_rt]
    · obtain ⟨w', h2, h3⟩ := @step_rest (st.set c (li ds2)) n w q way (some (.cell c)) none (by omega) h8 hw hl (by omega)
      refine ⟨w', ds2, h2, ?_⟩
      refine fnM_rt rfl (a := lI w') (st' := st.set c (li ds2)) ?_ (fin_draw0 bel_lI (by intro c h; cases h))
      show B__law_stepped [some (.cell c), some (.int (n : Int)), some (lI w), none, none, none, none] (st.set c (li ds)) = _
      unfold B__law_stepped
      rw [sSeq_ap]
      simp only [sAsg_ap, eCall_ap, eVar_ap, List.getElem?_cons_zero, List.getElem?_cons_succ, aCons_ap, eC_ap, aNil_ap, Res.bind_ok, t1, Res.toS_ok, gN_ap, List.set_cons_zero, List.set_cons_succ, SRes.bind_nx]
      rw [sSeq_ap]
      simp only [sAsg_ap, eCall_ap, eVar_ap, List.getElem?_cons_zero, List.getElem?_cons_succ, aCons_ap, eBin_ap, eCB_ap, one1_ap, lenA_lst, List.length_map, eC_ap, aNil_ap, Res.bind_ok, Res.of_some, addOp_ii, t2, Res.toS_ok, gN_ap, List.set_cons_zero, List.set_cons_succ, SRes.bind_nx]
      rw [sSeq_ap]
      simp only [sIf_ap, tOf_ap, eBin_ap, eVar_ap, List.getElem?_cons_zero, List.getElem?_cons_succ, eC_ap, Res.bind_ok, eqOp_ii, Res.of_some, decide_eq_false hn1, asB_bl, Res.toS_ok, Bool.false_eq_true, if_false, sNil_ap, SRes.bind_nx]
      rw [sSeq_ap]
      simp only [sIf_ap, tOf_ap, eBin_ap, eVar_ap, List.getElem?_cons_zero, List.getElem?_cons_succ, eC_ap, Res.bind_ok, ltOp_ii, Res.of_some, decide_eq_false hway, asB_bl, Res.toS_ok, Bool.false_eq_true, if_false, sNil_ap, SRes.bind_nx]
      exact h3
theorem scr_sp (hc : c < st.length) (h1 : 1 ≤ n) (h8 : n ≤ 8) (hw : Lw n w) (hl : w.length < 100) {t : Nat} (ht : t ≤ 20) : ∃ w' ds', Rl n w w' ∧ w'.length ≤ 200 ∧ M__law_scrambled [.cell c, .int (n : Int), lI w, .int (t : Int)] (st.set c (li ds)) = .ok (lI w') (st.set c (li ds')) := by
  have hz := sz
  obtain ⟨e, s, h2, w', ds', x5, rfl, rfl, hr, hl2⟩ := for_inv (all := ((List.range t).map fun (j : Nat) => (j : Int)).map A.int) (g := gN 5) (body := L1__law_scrambled) (xs := ((List.range t).map fun (j : Nat) => (j : Int)).map A.int)
    (fun i e s => ∃ w' ds' x5, e = [some (.cell c), some (.int (n : Int)), some (lI w), some (.int (t : Int)), some (lI w'), x5] ∧ s = st.set c (li ds') ∧ Rl n w w' ∧ w'.length ≤ w.length + 2 * i)
    (env := [some (.cell c), some (.int (n : Int)), some (lI w), some (.int (t : Int)), some (lI w), none]) (st := st.set c (li ds)) ⟨w, ds, _, rfl, rfl, Rl.refl hw, by omega⟩ (by
      rintro i a e s hx ⟨w', ds', x5, rfl, rfl, hr, hl2⟩
      obtain ⟨hi, rfl⟩ := rng_get hx
      obtain ⟨w2, ds2, ⟨h3, h4⟩, hb⟩ := @stepped_sp st c ds' n w' hc h1 h8 hr.r (by omega)
      have hbd : L1__law_scrambled [some (.cell c), some (.int (n : Int)), some (lI w), some (.int (t : Int)), some (lI w'), some (.int (i : Int))] (st.set c (li ds')) = .nx [some (.cell c), some (.int (n : Int)), some (lI w), some (.int (t : Int)), some (lI w2), some (.int (i : Int))] (st.set c (li ds2)) := by
        simp only [L1__law_scrambled, sSeq_ap, sAsg_ap, sEx_ap, sRet_ap, sRetN_ap, sNil_ap, sIf_ap, sFor_ap, sSub_ap, sRaise_ap, mkWhat_ap, eVar_ap, eC_ap, eBin_ap, eUn_ap, eTup_ap, eLst_ap, eCB_ap, eCall_ap, eM_ap, eIf_ap, eAndV_ap, eOrV_ap, eNotV_ap, eChain_ap, eSl_ap, oNone_ap, oSome_ap, eXf_ap, aNil_ap, aCons_ap, tOf_ap, tTru_ap, tAndM_ap, tOrM_ap, tNotM_ap, tYesM_ap, asB_bl, truA_b, Res.bind_ok, Res.bind_exc, Res.toS_ok, Res.toS_exc, Res.of_some, SRes.bind_nx, SRes.bind_rt, SRes.bind_exc, SRes.bind_ct, SRes.bind_bk, gN_ap, List.getElem?_cons_zero, List.getElem?_cons_succ, List.set_cons_zero, List.set_cons_succ, one1_ap, two2_ap, newL_f, newL_t, addOp_ii, subOp_ii, negOp_i, ltOp_ii, leOp_ii, gtOp_ii, geOp_ii, eqOp_ii, neOp_ii, eqOp_ss, neOp_ss, intA_i, intA_b, maxA_ii, minA_ii, lenA_lst, lenA_tup, lenA_slst, listA_lst, listA_tup, listA_slst, tupleA_lst, tupleA_tup, List.length_map, List.length_cons, List.length_nil, Bool.not_true, Bool.not_false, Bool.false_eq_true, if_true, if_false, Nat.zero_add, Nat.reduceAdd, hb]
      refine ⟨_, rfl, ?_⟩
      simp only [List.set_cons_succ, List.set_cons_zero, hbd, NxP_nx]
      exact ⟨w2, ds2, _, rfl, rfl, hr.trans h3, by omega⟩)
  rw [List.length_map, List.length_map, List.length_range] at hl2
  refine ⟨w', ds', hr, by omega, ?_⟩
  refine fnM_rt rfl (a := lI w') (st' := st.set c (li ds')) ?_ (fin_draw0 bel_lI (by intro c h; cases h))
  show B__law_scrambled [some (.cell c), some (.int (n : Int)), some (lI w), some (.int (t : Int)), none, none] (st.set c (li ds)) = _
  have er : mRng1 (aCons (eVar 3) aNil) [some (.cell c), some (.int (n : Int)), some (lI w), some (.int (t : Int)), some (lI w), none] (st.set c (li ds)) = .ok (((List.range t).map fun i => ((i : Nat) : Int)).map A.int, none) (st.set c (li ds)) := rng1' (by omega) rfl
  simp only [B__law_scrambled, sSeq_ap, sAsg_ap, sEx_ap, sRet_ap, sRetN_ap, sNil_ap, sIf_ap, sFor_ap, sSub_ap, sRaise_ap, mkWhat_ap, eVar_ap, eC_ap, eBin_ap, eUn_ap, eTup_ap, eLst_ap, eCB_ap, eCall_ap, eM_ap, eIf_ap, eAndV_ap, eOrV_ap, eNotV_ap, eChain_ap, eSl_ap, oNone_ap, oSome_ap, eXf_ap, aNil_ap, aCons_ap, tOf_ap, tTru_ap, tAndM_ap, tOrM_ap, tNotM_ap, tYesM_ap, asB_bl, truA_b, Res.bind_ok, Res.bind_exc, Res.toS_ok, Res.toS_exc, Res.of_some, SRes.bind_nx, SRes.bind_rt, SRes.bind_exc, SRes.bind_ct, SRes.bind_bk, gN_ap, List.getElem?_cons_zero, List.getElem?_cons_succ, List.set_cons_zero, List.set_cons_succ, one1_ap, two2_ap, newL_f, newL_t, addOp_ii, subOp_ii, negOp_i, ltOp_ii, leOp_ii, gtOp_ii, geOp_ii, eqOp_ii, neOp_ii, eqOp_ss, neOp_ss, intA_i, intA_b, maxA_ii, minA_ii, lenA_lst, lenA_tup, lenA_slst, listA_lst, listA_tup, listA_slst, tupleA_lst, tupleA_tup, List.length_map, List.length_cons, List.length_nil, Bool.not_true, Bool.not_false, Bool.false_eq_true, if_true, if_false, Nat.zero_add, Nat.reduceAdd, er, h2]
end
end Gk07

set_option Elab.async false
set_option linter.all false
set_option maxRecDepth 100000
set_option maxHeartbeats 4000000
namespace Gk07
open PySem PySem.Spec L2 SL F07
open PyProof.Rows hiding St
section
variable {st : Store}
theorem lcLS {src : Src} {all : List A} {i : Nat} {me : AEnv → Store → Res A} {env0 : AEnv} (f : A → A) (hs : srcOk src all st) : ∀ (xs : List A) (acc : List A), acc.length + xs.length ≤ sizeLine → (∀ x ∈ xs, me (env0.set i (some x)) st = .ok (f x) st) →
    lcL src all (gN i) tYesM me env0 xs acc st = .ok (acc ++ xs.map f) st
  | [], acc, _, _ => by rw [lcL, if_pos hs]; simp
  | x :: xs, acc, hl, h => by
    have hz := sz
    rw [lcL, if_pos hs]
    rw [List.length_cons] at hl
    simp only [gN_ap, tYesM_ap, noX, Res.bind_ok, if_true, h x (by simp)]
    rw [if_pos (by omega), lcLS f hs xs (acc ++ [f x]) (by simp; omega) fun y hy => h y (by simp [hy])]
    simp
/-- the plain form of an own list -/
theorem plain_cell {k c : Nat} {xs : List A} (f : A → A) (hc : st[c]? = some (.lst xs)) (hl : xs.length < 1000000) (hbel : ∀ x ∈ xs, (f x).bel st.length = true)
    (h : ∀ x ∈ xs, M__law_plain_ k [x] st = .ok (f x) st) : M__law_plain_ (k + 1) [.cell c] st = .ok (.lst (.bl true :: xs.map f)) st := by
  have hz := sz
  have ty : tyName (.cell c) st = some "list" := by simp only [tyName, hc]
  have hb : B__law_plain (M__law_plain_ k) [some (.cell c), none] st = .rt (.lst (.bl true :: xs.map f)) st := by
    have h1 : ((tyName (.cell c) st).bind fun n => (isiTys n [.ty "tuple", .ty "list"]).map fun b => (A.bl b, st)) = some (.bl true, st) := by
      have : isiTys "list" [.ty "tuple", .ty "list"] = some true := by decide
      simp [ty, this]
    have h2 : isiB (.cell c) (.ty "list") st = some (.bl true, st) := by
      simp only [isiB, isiA, ty]
      rw [show kitB "list" "list" = some true by decide]; rfl
    have hsq := seqR_cell hc
    have hcmp := @lcLS st (srcOf (.cell c) xs) xs 1 (e1__law_plain (M__law_plain_ k)) [some (.cell c), none] f (show st[c]? = some (.lst xs) from hc) xs [] (by simp; omega) (fun x hx => by
      show e1__law_plain (M__law_plain_ k) [some (.cell c), some x] st = _
      simp only [e1__law_plain, sSeq_ap, sAsg_ap, sEx_ap, sRet_ap, sRetN_ap, sNil_ap, sIf_ap, sFor_ap, sSub_ap, sRaise_ap, mkWhat_ap, eVar_ap, eC_ap, eBin_ap, eUn_ap, eTup_ap, eLst_ap, eCB_ap, eCall_ap, eM_ap, eIf_ap, eAndV_ap, eOrV_ap, eNotV_ap, eChain_ap, eSl_ap, oNone_ap, oSome_ap, eXf_ap, aNil_ap, aCons_ap, tOf_ap, tTru_ap, tAndM_ap, tOrM_ap, tNotM_ap, tYesM_ap, asB_bl, truA_b, Res.bind_ok, Res.bind_exc, Res.toS_ok, Res.toS_exc, Res.of_some, SRes.bind_nx, SRes.bind_rt, SRes.bind_exc, SRes.bind_ct, SRes.bind_bk, gN_ap, List.getElem?_cons_zero, List.getElem?_cons_succ, List.set_cons_zero, List.set_cons_succ, one1_ap, two2_ap, newL_f, newL_t, addOp_ii, subOp_ii, negOp_i, ltOp_ii, leOp_ii, gtOp_ii, geOp_ii, eqOp_ii, neOp_ii, eqOp_ss, neOp_ss, intA_i, intA_b, maxA_ii, minA_ii, lenA_lst, lenA_tup, lenA_slst, listA_lst, listA_tup, listA_slst, tupleA_lst, tupleA_tup, List.length_map, List.length_cons, List.length_nil, Bool.not_true, Bool.not_false, Bool.false_eq_true, if_true, if_false, Nat.zero_add, Nat.reduceAdd, h x hx])
    rw [List.nil_append] at hcmp
    have e1 : eLc false (mSeq (eVar 0)) (gN 1) [1] tYesM (e1__law_plain (M__law_plain_ k)) [some (.cell c), none] st = .ok (.lst (xs.map f)) st := by
      have hm : mSeq (eVar 0) [some (.cell c), none] st = .ok (xs, srcOf (.cell c) xs) st := by
        simp only [mSeq_ap, eVar_ap, List.getElem?_cons_zero, Res.bind_ok, hsq]
      have hw : wipeA [some (A.cell c), none] [1] = [some (A.cell c), none] := rfl
      rw [eLc_ap, hm, Res.bind_ok, hw, hcmp]; rfl
    have e2 : addOp false (.lst [.bl true]) (.lst (xs.map f)) st = some (.lst (.bl true :: xs.map f), st) := by
      have hq : addL false (.lst [.bl true]) (.lst (xs.map f)) st = some (.lst (.bl true :: xs.map f), st) := by
        simp only [addL, lstH]
        rw [if_pos (by simp; omega)]; rfl
      simp [addOp, addI, addS, iiOp, hq]
    have e0 : eIsiT (eVar 0) (aCons (eC (.ty "tuple")) (aCons (eC (.ty "list")) aNil)) [some (.cell c), none] st = .ok (.bl true) st := by
      simp only [eIsiT_ap, eVar_ap, List.getElem?_cons_zero, Res.bind_ok, aCons_ap, eC_ap, aNil_ap]
      rw [if_pos (by simp [hz]), h1]; rfl
    simp only [B__law_plain, sSeq_ap, sIf_ap, tTru_ap, e0, Res.bind_ok, truA_b, Res.toS_ok, if_true, sRet_ap, eBin_ap, eLst_ap, aCons_ap, eCB_ap, eVar_ap, List.getElem?_cons_zero, eC_ap, aNil_ap, two2_ap, h2, Res.of_some, List.length_cons, List.length_nil, newL_f, e1]
    rw [if_pos (by omega)]
    simp only [Res.bind_ok, e1, e2, Res.of_some, Res.toS_ok, SRes.bind_rt]
  refine fnM_rt rfl hb (fin_pure0 ?_ (by intro c h; cases h))
  simp only [A.bel, belowL, Bool.true_and]
  exact belowL_all fun x hx => by obtain ⟨y, hy, rfl⟩ := List.mem_map.mp hx; exact hbel y hy
def plF : A → A
  | .lst xs => .lst (.bl true :: xs.map plI)
  | a => a
theorem plF_bel {n : Nat} {u : List Int} : (plF (lI u)).bel n = true := bel_lst fun x hx => by
  rcases List.mem_cons.mp hx with rfl | hx
  · simp [A.bel]
  · obtain ⟨y, hy, rfl⟩ := List.mem_map.mp hx
    obtain ⟨i, _, rfl⟩ := List.mem_map.mp hy
    exact plI_bel
/-- an own list of lists and a list of lists: the same plain form -/
theorem plain_two {c : Nat} {S : List (List Int)} (hc : st[c]? = some (.lst (S.map lI))) (hl : S.length < 1000) (hu : ∀ u ∈ S, u.length < 1000000) : ∃ r, M__law_plain [.cell c] st = .ok r st ∧ M__law_plain [lL S] st = .ok r st ∧ eqOp r r st = some (.bl true, st) := by
  have h1 : ∀ x ∈ S.map lI, M__law_plain_ 5 [x] st = .ok (plF x) st := fun x hx => by
    obtain ⟨u, hu', rfl⟩ := List.mem_map.mp hx
    exact plain_lI (k := 3) (hu u hu')
  have h2 : ∀ x ∈ S.map lI, (plF x).bel st.length = true := fun x hx => by
    obtain ⟨u, _, rfl⟩ := List.mem_map.mp hx
    exact plF_bel
  have a := plain_cell plF hc (by rw [List.length_map]; omega) h2 h1
  have b := plain_seq (k := 5) (st := st) (a := lL S) plF true (.inr ⟨rfl, rfl⟩) (by rw [List.length_map]; omega) h2 h1
  obtain ⟨r, q1, q2, _⟩ := plainQ (st := st) (d := 2) (a := lL S) (.lst 1 _ (by rw [List.length_map]; omega) fun x hx => by
    obtain ⟨u, hu', rfl⟩ := List.mem_map.mp hx
    exact pd_lI (hu u hu')) (by omega)
  have e : r = .lst (.bl true :: (S.map lI).map plF) := by
    have q1 : M__law_plain_ 6 [lL S] st = .ok r st := q1
    rw [b] at q1
    cases q1; rfl
  subst e
  exact ⟨_, a, q1, q2⟩
theorem plainL {S : List (List Int)} (hl : S.length < 1000) (hu : ∀ u ∈ S, u.length < 1000000) : ∃ r, M__law_plain [lL S] st = .ok r st ∧ eqOp r r st = some (.bl true, st) ∧ neOp r r st = some (.bl false, st) ∧ r.bel st.length = true ∧ ∀ c, r ≠ .cell c :=
  plainQ (d := 2) (.lst 1 _ (by rw [List.length_map]; omega) fun x hx => by
    obtain ⟨u, hu', rfl⟩ := List.mem_map.mp hx
    exact pd_lI (hu u hu')) (by omega)
/-! the images are right -/
theorem isi_lI {xs : List A} : isiB (.lst xs) (.ty "list") st = some (.bl true, st) := by
  simp only [isiB, isiA, tyName]; rw [show kitB "list" "list" = some true by decide]; rfl
theorem isi_lt {xs : List A} : isiB (.lst xs) (.ty "tuple") st = some (.bl false, st) := by
  simp only [isiB, isiA, tyName]; rw [show kitB "list" "tuple" = some false by decide]; rfl
theorem isi_tt {xs : List A} : isiB (.tup xs) (.ty "tuple") st = some (.bl true, st) := by
  simp only [isiB, isiA, tyName]; rw [show kitB "tuple" "tuple" = some true by decide]; rfl
theorem ne_mA {m : M2} : neOp (mA m) (mA m) st = some (.bl false, st) := neOp_same (dt_tup fun x hx => by
  simp only [List.mem_cons, List.not_mem_nil, or_false] at hx
  rcases hx with rfl | rfl | rfl | rfl <;> exact dt_int)
theorem eLc_nil {mi : MI} {i : Nat} {own : List Nat} {p : AEnv → Store → Res Bool} {ma : AEnv → Store → Res A} {env : AEnv} {xs : List Int} (hmi : mi env st = .ok (xs.map A.int, none) st) (hl : xs.length ≤ sizeLine)
    (h : ∀ x ∈ xs, p ((wipeA env own).set i (some (.int x))) st = .ok false st) : eLc false mi (gN i) own p ma env st = .ok (.lst []) st := by
  have := eLc_ints (mk := false) (p := p) (ma := ma) (fun _ => false) (fun x => x) hmi hl fun x hx => ⟨h x hx, fun z => by cases z⟩
  rw [this]
  have e : xs.filter (fun _ => false) = [] := by simp
  rw [e]; rfl
variable {n : Nat} {w : List Int} {T : List (List Int)} {p : Int} {ms : List M2} {x0 x2 x10 x11 : Option A}
theorem right_step {S : Store} {cc : Nat} {i : Nat} {u pr : List Int} {cs : List (List Int)} (hcc : S[cc]? = some (.lst (cs.map lI))) (hp : 1 < p) (hp2 : p ≤ 65537) (hm : Oks p ms) (hv : Vd ms.length u) (hr : Red u) (hl : u.length ≤ 20000) (hpl : pr.length < 500000) (hcl : cs.length < 1000)
    {xs ys : List A} (hx : xs[i]? = some (lI u)) (hy : ys[i]? = some (mA (val p ms u))) :
    L3__law_right [x0, some (.int (n : Int)), x2, some (.lst xs), some (.int p), some (lM ms), some (.lst ys), some (lI pr), some (.cell cc), some (.int (i : Int)), x10, x11] S = .nx [x0, some (.int (n : Int)), x2, some (.lst xs), some (.int p), some (lM ms), some (.lst ys), some (lI (pr ++ u)), some (.cell cc), some (.int (i : Int)), x10, x11] (S.set cc (.lst ((cs ++ [cstN u.length u]).map lI))) := by
  have hz := sz
  have i1 : ∀ s, ixOp (.lst xs) (.int (i : Int)) s = some (lI u, s) := fun s => ixs (by omega) (by rw [show ((i : Int)).toNat = i by omega]; exact hx)
  have i2 : ∀ s, ixOp (.lst ys) (.int (i : Int)) s = some (mA (val p ms u), s) := fun s => ixs (by omega) (by rw [show ((i : Int)).toNat = i by omega]; exact hy)
  have vs := @value_sp S p ms u hp hp2 hm hv
  have er : mRng2 (aCons (eC (.int 1)) (aCons (eCB (one1 lenA) (aCons (eBin ixOp (eVar 3) (eVar 9)) aNil)) aNil)) [x0, some (.int (n : Int)), x2, some (.lst xs), some (.int p), some (lM ms), some (.lst ys), some (lI pr), some (.cell cc), some (.int (i : Int)), x10, x11] S = .ok (((List.range (u.length - 1)).map fun (j : Nat) => (1 : Int) + (j : Int)).map A.int, none) S := by
    rw [mRng2_ap (m := 1) (n := (u.length : Int)) (by simp only [aCons_ap, eC_ap, Res.bind_ok, eCB_ap, eBin_ap, eVar_ap, List.getElem?_cons_zero, List.getElem?_cons_succ, i1, Res.of_some, aNil_ap, one1_ap, lenA_lst, List.length_map]) (by omega) (by omega) (by omega) (by omega), rgA_intsG]
    rw [show ((u.length : Int) - 1).toNat = u.length - 1 by omega]
  have lc := @eLc_nil S (mRng2 (aCons (eC (.int 1)) (aCons (eCB (one1 lenA) (aCons (eBin ixOp (eVar 3) (eVar 9)) aNil)) aNil))) 11 [11] t1__law_right e2__law_right [x0, some (.int (n : Int)), x2, some (.lst xs), some (.int p), some (lM ms), some (.lst ys), some (lI pr), some (.cell cc), some (.int (i : Int)), x10, x11] _ er (by simp; omega) (fun x hx => by
    obtain ⟨j, hj, rfl⟩ := List.mem_map.mp hx
    have hj := List.mem_range.mp hj
    show t1__law_right [x0, some (.int (n : Int)), x2, some (.lst xs), some (.int p), some (lM ms), some (.lst ys), some (lI pr), some (.cell cc), some (.int (i : Int)), x10, some (.int (1 + (j : Int)))] S = _
    have j1 := @ix_lI S u (1 + (j : Int)) (by omega) (by omega)
    have j2 := @ix_lI S u (1 + (j : Int) - 1) (by omega) (by omega)
    have hne : ¬ u.getD (1 + (j : Int)).toNat 0 = - u.getD (1 + (j : Int) - 1).toNat 0 := by
      have := hr.at (i := j) (by omega)
      rw [show (1 + (j : Int)).toNat = j + 1 by omega, show (1 + (j : Int) - 1).toNat = j by omega]
      exact this
    simp only [t1__law_right, tOf_ap, eBin_ap, eVar_ap, List.getElem?_cons_zero, List.getElem?_cons_succ, Res.bind_ok, i1, Res.of_some, j1, eUn_ap, eC_ap, subOp_ii, j2, negOp_i, eqOp_ii, decide_eq_false hne, asB_bl])
  have ad := @addI_l S pr u (by omega)
  have ce := @centre_sp S u (by omega)
  have tv := tyVA_cell hcc
  have ap : appendM (.cell cc) [lI (cstN u.length u)] S = some (.non, S.set cc (.lst ((cs ++ [cstN u.length u]).map lI))) := by
    rw [appendM_c hcc (by rw [List.length_map]; omega), List.map_append]; rfl
  have nm := @ne_mA S (val p ms u)
  have il := @isi_lI S (u.map A.int)
  have d0 : decide (((([] : List A).length : Nat) : Int) > 0) = false := by decide
  simp only [L3__law_right, sSeq_ap, sIf_ap, tOrM_ap, tNotM_ap, tTru_ap, eCB_ap, aCons_ap, eBin_ap, eVar_ap, List.getElem?_cons_zero, List.getElem?_cons_succ, Res.bind_ok, i1, Res.of_some, eC_ap, aNil_ap, two2_ap, il, truA_b, Bool.not_true, Bool.false_eq_true, if_false, tOf_ap, eCall_ap, vs, i2, nm, asB_bl, Res.toS_ok, sNil_ap, SRes.bind_nx, lc, one1_ap, lenA_lst, gtOp_ii, d0, sAsg_ap, ad, gN_ap, List.set_cons_zero, List.set_cons_succ, sEx_ap, eM_ap, tv, if_true, ce, ap]
end
end Gk07

set_option Elab.async false
set_option linter.all false
set_option maxRecDepth 100000
set_option maxHeartbeats 4000000
namespace Gk07
open PySem PySem.Spec L2 SL F07
open PyProof.Rows hiding St
theorem run_big : ∀ {w : List Int} {S T : List (List Int)}, big S = false → runI S w = some T → big T = false
  | [], S, T, hb, h => by simp [runI] at h; subst h; exact hb
  | l :: w, S, T, hb, h => by
    unfold runI at h
    split at h
    · cases h
    · rename_i h2
      exact run_big (by simpa using h2) h
theorem gens_at {n i : Nat} (h : i < n) : (gens n)[i]? = some [(i : Int) + 1] := by
  unfold gens
  rw [List.getElem?_map, List.getElem?_range h]; rfl
theorem gens_len {n : Nat} : (gens n).length = n := by unfold gens; simp
theorem run_at {n i : Nat} {w : List Int} {T : List (List Int)} (h : runI (gens n) w = some T) (hi : i < n) : T[i]? = some (Mw w [(i : Int) + 1]) := by
  rw [run_some h, List.getElem?_map, gens_at hi]; rfl
theorem run_len {n : Nat} {w : List Int} {T : List (List Int)} (h : runI (gens n) w = some T) : T.length = n := by
  rw [run_some h, List.length_map, gens_len]
theorem flatn_len : ∀ {S : List (List Int)} {k : Nat}, (∀ u ∈ S, u.length ≤ k) → S.flatten.length ≤ k * S.length
  | [], k, _ => by simp
  | u :: S, k, h => by
    rw [List.flatten_cons, List.length_append, List.length_cons, Nat.mul_add]
    have h1 := h u (by simp)
    have h2 := flatn_len (S := S) (k := k) fun v hv => h v (by simp [hv])
    omega
section
variable {st : Store} {c : Nat} {ds : List Int} {n : Nat} {w : List Int} {T : List (List Int)}
theorem fin_drawl {ds' : List Int} {a : A} {l : List C} (h : a.bel st.length = true) (hc : ∀ c, a ≠ .cell c) : finA false (st.set c (li ds)).length (st.set c (li ds)) a (st.set c (li ds') ++ l) = .ok a (st.set c (li ds')) := by
  have := finA_set (rc := false) (st := st.set c (li ds)) (a := a) (l := l) (c := c) (k := li ds') (by simpa using h) hc (bel_ints _ _)
  rwa [List.set_set] at this
theorem right_loop {p : Int} {ms : List M2} {S : Store} (h1 : 1 ≤ n) (h8 : n ≤ 8) (hw : Lw n w) (h : runI (gens n) w = some T) (hp : 1 < p) (hp2 : p ≤ 65537) (hm : Oks p ms) (hml : ms.length = n) {x0 x2 : Option A} :
    ∃ y9, forL none (((List.range n).map fun (j : Nat) => (j : Int)).map A.int) (gN 9) L3__law_right (((List.range n).map fun (j : Nat) => (j : Int)).map A.int) [x0, some (.int (n : Int)), x2, some (lL T), some (.int p), some (lM ms), some (lM (tup p w ms)), some (lI []), some (.cell S.length), none, none, none] (S ++ [C.lst []])
      = .nx [x0, some (.int (n : Int)), x2, some (lL T), some (.int p), some (lM ms), some (lM (tup p w ms)), some (lI T.flatten), some (.cell S.length), y9, none, none] (S ++ [C.lst ((T.map fun u => cstN u.length u).map lI)]) := by
  have hlen := big_false.mp (run_big gens_big h)
  have hTl := run_len h
  obtain ⟨e, s, h2, y9, rfl, rfl⟩ := for_inv (all := ((List.range n).map fun (j : Nat) => (j : Int)).map A.int) (g := gN 9) (body := L3__law_right) (xs := ((List.range n).map fun (j : Nat) => (j : Int)).map A.int)
    (fun i e s => ∃ y9, e = [x0, some (.int (n : Int)), x2, some (lL T), some (.int p), some (lM ms), some (lM (tup p w ms)), some (lI (T.take i).flatten), some (.cell S.length), y9, none, none] ∧ s = S ++ [C.lst (((T.take i).map fun u => cstN u.length u).map lI)])
    (env := [x0, some (.int (n : Int)), x2, some (lL T), some (.int p), some (lM ms), some (lM (tup p w ms)), some (lI []), some (.cell S.length), none, none, none]) (st := S ++ [C.lst []]) ⟨none, rfl, rfl⟩ (by
      rintro i a e s hx ⟨y9, rfl, rfl⟩
      obtain ⟨hi, rfl⟩ := rng_get hx
      have hT := run_at h hi
      have hmem := List.mem_of_getElem? hT
      have hv : Vd n (Mw w [(i : Int) + 1]) := Mw_vd hw (vd1 (by omega) (by omega))
      have hR : Red (Mw w [(i : Int) + 1]) := Mw_Red (show Red [(i : Int) + 1] from trivial)
      have hval := val_Mw (n := n) (x := (i : Int) + 1) hp hm (by omega) hw (by omega) (by omega)
      have hy : ((tup p w ms).map mA)[i]? = some (mA (val p ms (Mw w [(i : Int) + 1]))) := by
        rw [hval]
        have := @gm_at (tup p w ms) ((i : Int) + 1) (by omega) (by rw [tup_len]; omega)
        rw [show ((i : Int) + 1 - 1).toNat = i by omega] at this
        exact this
      have hxs : (T.map lI)[i]? = some (lI (Mw w [(i : Int) + 1])) := by rw [List.getElem?_map, hT]; rfl
      have hfl : (T.take i).flatten.length < 500000 := by
        have := flatn_len (S := T.take i) (k := 20000) fun u hu => hlen u (List.mem_of_mem_take hu)
        rw [List.length_take] at this
        have h9 : min i T.length ≤ 8 := by omega
        have := Nat.mul_le_mul_left 20000 h9
        omega
      have hst := @right_step n p ms x0 x2 none none (S ++ [C.lst (((T.take i).map fun u => cstN u.length u).map lI)]) S.length i (Mw w [(i : Int) + 1]) (T.take i).flatten ((T.take i).map fun u => cstN u.length u) (get_app_len rfl) hp hp2 hm (by rw [hml]; exact hv) hR (hlen _ hmem) hfl (by rw [List.length_map, List.length_take]; omega) (T.map lI) ((tup p w ms).map mA) hxs hy
      rw [set_len] at hst
      refine ⟨_, rfl, ?_⟩
      simp only [List.set_cons_succ, List.set_cons_zero]
      rw [hst, NxP_nx]
      have et : T.take (i + 1) = T.take i ++ [Mw w [(i : Int) + 1]] := by
        rw [List.take_add_one, hT]; rfl
      refine ⟨some (.int (i : Int)), ?_, ?_⟩
      · rw [et, List.flatten_append]; simp
      · rw [et, List.map_append (f := fun u => cstN u.length u)]; rfl)
  rw [List.length_map, List.length_map, List.length_range, List.take_of_length_le (by omega)] at h2
  exact ⟨y9, h2⟩
theorem cent_eq (hw : Lw n w) (h : runI (gens n) w = some T) : (T.map fun u => cstN u.length u) = (List.range n).map fun (i : Nat) => [endO w ((i : Int) + 1)] := by
  rw [run_some h]
  unfold gens
  rw [List.map_map, List.map_map]
  refine List.map_congr_left fun i hi => ?_
  have hi := List.mem_range.mp hi
  exact centre_ok (n := n) hw (by omega) (by omega)
theorem right_sp (hc : c < st.length) (h1 : 1 ≤ n) (h8 : n ≤ 8) (hw : Lw n w) (h : runI (gens n) w = some T) : ∃ ds', M__law_right [.cell c, .int (n : Int), lI w, lL T] (st.set c (li ds)) = .ok (.bl true) (st.set c (li ds')) := by
  have hz := sz
  have l0' : (0 : Nat) ≤ sizeLine := by omega
  have l3' : (3 : Nat) ≤ sizeLine := by omega
  have l1' : (1 : Nat) ≤ sizeLine := by omega
  obtain ⟨d, ds1, p1, p2, t1⟩ := tk0 (ds := ds) (n := 3) hc (by omega)
  obtain ⟨p, hp, hp2, e1⟩ : ∃ p : Int, 1 < p ∧ p ≤ 65537 ∧ ∀ s, ixOp (.lst [.int 101, .int 10007, .int 65537]) (.int d) s = some (.int p, s) := by
    rcases (by omega : d = 0 ∨ d = 1 ∨ d = 2) with rfl | rfl | rfl
    · exact ⟨101, by omega, by omega, fun s => ixs (by omega) rfl⟩
    · exact ⟨10007, by omega, by omega, fun s => ixs (by omega) rfl⟩
    · exact ⟨65537, by omega, by omega, fun s => ixs (by omega) rfl⟩
  obtain ⟨ms, ds2, hm, hml, t2⟩ := @mats_sp st p c ds1 hc hp hp2 n h8
  have t3 := @tuple_sp (st.set c (li ds2)) p ms w hp hp2 hm (by rw [hml]; exact hw)
  have hTl := run_len h
  have hlen := big_false.mp (run_big gens_big h)
  obtain ⟨y9, lp⟩ := @right_loop n w T p ms (st.set c (li ds2)) h1 h8 hw h hp hp2 hm hml (some (.cell c)) (some (lI w))
  have hne : decide ((n : Int) = (n : Int)) = true := decide_eq_true rfl
  generalize hS : st.set c (li ds2) = S at t2 t3 lp
  have hfl : T.flatten.length < 500000 := by
    have := flatn_len (S := T) (k := 20000) fun u hu => hlen u hu
    have := Nat.mul_le_mul_left 20000 (show T.length ≤ 8 by omega)
    omega
  rw [cent_eq hw h] at lp
  have rd := @redL_sp (S ++ [C.lst (((List.range n).map fun (i : Nat) => [endO w ((i : Int) + 1)]).map lI)]) (lI T.flatten) T.flatten rfl (by omega)
  rw [prod_ok h8 hw h] at rd
  have rg : eRg (some false) (aCons (eC (.int 1)) (aCons (eBin (addOp false) (eVar 1) (eC (.int 1))) aNil)) [some (.cell c), some (.int (n : Int)), some (lI w), some (lL T), some (.int p), some (lM ms), some (lM (tup p w ms)), some (lI T.flatten), some (.cell S.length), y9, none, none] (S ++ [C.lst (((List.range n).map fun (i : Nat) => [endO w ((i : Int) + 1)]).map lI)]) = .ok (lI (ups n)) (S ++ [C.lst (((List.range n).map fun (i : Nat) => [endO w ((i : Int) + 1)]).map lI)]) := by
    have e : rgA 1 ((n : Int) + 1) = (ups n).map A.int := by
      rw [rgA_intsG, show ((n : Int) + 1 - 1).toNat = n by omega]
      have e2 : ups n = (List.range n).map fun (i : Nat) => (1 : Int) + (i : Int) := List.map_congr_left fun i _ => by omega
      rw [e2]
    unfold eRg
    simp only [aCons_ap, eC_ap, Res.bind_ok, eBin_ap, eVar_ap, List.getElem?_cons_zero, List.getElem?_cons_succ, addOp_ii, Res.of_some, aNil_ap]
    show (if _ then _ else _) = _
    rw [if_pos ⟨by omega, by omega, by omega, by omega, by omega⟩, e]
    rfl
  have nq := @neOp_lI (S ++ [C.lst (((List.range n).map fun (i : Nat) => [endO w ((i : Int) + 1)]).map lI)]) (ups n) (ups n)
  rw [decide_eq_true rfl, Bool.not_true] at nq
  have en := @ends_sp (S ++ [C.lst (((List.range n).map fun (i : Nat) => [endO w ((i : Int) + 1)]).map lI)]) n w h8
  have lc := @lcG (S ++ [C.lst (((List.range n).map fun (i : Nat) => [endO w ((i : Int) + 1)]).map lI)]) Int A.int (fun e => lI [e + 1]) (mSeq (eCall M__law_ends (aCons (eVar 1) (aCons (eVar 2) aNil)))) 10 [10] e4__law_right [some (.cell c), some (.int (n : Int)), some (lI w), some (lL T), some (.int p), some (lM ms), some (lM (tup p w ms)), some (lI T.flatten), some (.cell S.length), y9, none, none] (endL n w) (by simp only [mSeq_ap, eCall_ap, eVar_ap, List.getElem?_cons_zero, List.getElem?_cons_succ, aCons_ap, aNil_ap, Res.bind_ok, en, seqR_lst, srcOf_lst]) (by unfold endL; simp; omega) (fun x hx => by
    show e4__law_right [some (.cell c), some (.int (n : Int)), some (lI w), some (lL T), some (.int p), some (lM ms), some (lM (tup p w ms)), some (lI T.flatten), some (.cell S.length), y9, some (.int x), none] _ = _
    simp only [e4__law_right, sSeq_ap, sAsg_ap, sEx_ap, sRet_ap, sRetN_ap, sNil_ap, sIf_ap, sFor_ap, sSub_ap, sRaise_ap, mkWhat_ap, eVar_ap, eC_ap, eBin_ap, eUn_ap, eTup_ap, eLst_ap, eCB_ap, eCall_ap, eM_ap, eIf_ap, eAndV_ap, eOrV_ap, eNotV_ap, eChain_ap, eSl_ap, oNone_ap, oSome_ap, eXf_ap, aNil_ap, aCons_ap, tOf_ap, tTru_ap, tAndM_ap, tOrM_ap, tNotM_ap, tYesM_ap, asB_bl, truA_b, Res.bind_ok, Res.bind_exc, Res.toS_ok, Res.toS_exc, Res.of_some, SRes.bind_nx, SRes.bind_rt, SRes.bind_exc, SRes.bind_ct, SRes.bind_bk, gN_ap, List.getElem?_cons_zero, List.getElem?_cons_succ, List.set_cons_zero, List.set_cons_succ, one1_ap, two2_ap, newL_f, newL_t, addOp_ii, subOp_ii, negOp_i, ltOp_ii, leOp_ii, gtOp_ii, geOp_ii, eqOp_ii, neOp_ii, eqOp_ss, neOp_ss, intA_i, intA_b, maxA_ii, minA_ii, lenA_lst, lenA_tup, lenA_slst, listA_lst, listA_tup, listA_slst, tupleA_lst, tupleA_tup, List.length_map, List.length_cons, List.length_nil, Bool.not_true, Bool.not_false, Bool.false_eq_true, if_true, if_false, Nat.zero_add, Nat.reduceAdd, l1']; rfl)
  have el : (endL n w).map (fun e => lI [e + 1]) = ((List.range n).map fun (i : Nat) => [endO w ((i : Int) + 1)]).map lI := by
    unfold endL
    rw [List.map_map, List.map_map]
    refine List.map_congr_left fun i hi => ?_
    show lI [endO w ((i : Int) + 1) - 1 + 1] = lI [endO w ((i : Int) + 1)]
    rw [show endO w ((i : Int) + 1) - 1 + 1 = endO w ((i : Int) + 1) by omega]
  rw [el] at lc
  obtain ⟨r, q1, q2, q3⟩ := @plain_two (S ++ [C.lst (((List.range n).map fun (i : Nat) => [endO w ((i : Int) + 1)]).map lI)]) S.length ((List.range n).map fun (i : Nat) => [endO w ((i : Int) + 1)]) (get_app_len rfl) (by simp; omega) (fun u hu => by
    obtain ⟨i, _, rfl⟩ := List.mem_map.mp hu; simp)
  generalize ((List.range n).map fun (i : Nat) => [endO w ((i : Int) + 1)]) = CS at *
  refine ⟨ds2, ?_⟩
  refine fnM_rt rfl (a := .bl true) (st' := S ++ [C.lst (CS.map lI)]) ?_ (by rw [← hS]; exact fin_drawl (by simp [A.bel]) (by intro c h; cases h))
  show B__law_right [some (.cell c), some (.int (n : Int)), some (lI w), some (lL T), none, none, none, none, none, none, none, none] (st.set c (li ds)) = _
  have er : ∀ s, mRng1 (aCons (eVar 1) aNil) [some (.cell c), some (.int (n : Int)), some (lI w), some (lL T), some (.int p), some (lM ms), some (lM (tup p w ms)), some (lI []), some (.cell S.length), none, none, none] s = .ok (((List.range n).map fun i => ((i : Nat) : Int)).map A.int, none) s := fun s => rng1' (by omega) rfl
  have e00 : A.lst [] = lI [] := rfl
  have hnn : neOp (.int ((T.map lI).length : Int)) (.int (n : Int)) (S ++ [C.lst []]) = some (.bl false, S ++ [C.lst []]) := by
    rw [neOp_ii, List.length_map, hTl]; simp
  simp only [B__law_right, sSeq_ap, sAsg_ap, eBin_ap, eLst_ap, aCons_ap, eC_ap, aNil_ap, Res.bind_ok, List.length_cons, List.length_nil, Nat.zero_add, Nat.reduceAdd, l0', l3', if_true, newL_f, newL_t, eCall_ap, eVar_ap, List.getElem?_cons_zero, List.getElem?_cons_succ, t1, e1, Res.of_some, Res.toS_ok, gN_ap, List.set_cons_zero, List.set_cons_succ, SRes.bind_nx, t2, t3, sIf_ap, tOf_ap, eCB_ap, one1_ap, lenA_lst]
  rw [hnn]
  simp only [Res.of_some, Res.bind_ok, asB_bl, Res.toS_ok, Bool.false_eq_true, if_false, sNil_ap, SRes.bind_nx]
  simp only [e00, sSeq_ap, sFor_ap, sIf_ap, tOf_ap, er, Res.toS_ok, lp, SRes.bind_nx, eVar_ap, List.getElem?_cons_zero, List.getElem?_cons_succ, Res.bind_ok, rd, rg, nq, Res.of_some, asB_bl, Bool.false_eq_true, if_false, sNil_ap, sRet_ap, eBin_ap, eCall_ap, aCons_ap, aNil_ap, q1, q2, q3, lc]
end
end Gk07

set_option Elab.async false
set_option linter.all false
set_option maxRecDepth 100000
set_option maxHeartbeats 4000000
namespace Gk07
open PySem PySem.Spec L2 SL F07
open PyProof.Rows hiding St
section
variable {st : Store} {n : Nat} {w : List Int}
theorem toldQ (h8 : n ≤ 8) : ∃ r, M__law_plain [toldA n w] st = .ok r st ∧ eqOp r r st = some (.bl true, st) ∧ neOp r r st = some (.bl false, st) := by
  unfold toldA
  cases e : runI (gens n) w with
  | some T =>
    have hl := run_len e
    have hb := big_false.mp (run_big gens_big e)
    obtain ⟨r, h1, h2, h3, _⟩ := @plainL st T (by omega) (fun u hu => by have := hb u hu; omega)
    exact ⟨r, h1, h2, h3⟩
  | none =>
    obtain ⟨r, h1, h2, h3, _⟩ := plainQ (st := st) (d := 1) (a := tooA) (.tup 0 _ (by simp) fun x hx => by
      simp only [List.mem_cons, List.not_mem_nil, or_false] at hx
      rcases hx with rfl | rfl
      · exact .str 0 _ sk_t
      · exact .str 0 _ sk_l) (by omega)
    exact ⟨r, h1, h2, h3⟩
theorem isN_non : isNOp false .non .non st = some (.bl true, st) := rfl
theorem isN_lst {xs : List A} : isNOp false (.lst xs) .non st = some (.bl false, st) := rfl
/-- the script of long images -/
theorem long_sp (hl : w.length ≤ 1000) (hw : Lw (3 : Nat) w) {x0 x1 x2 x4 x5 x6 x7 x8 x9 x10 x11 x12 : Option A} :
    (sSeq (sAsg (gN 10) (eCall M__law_images (aCons (eC (.int 3)) (aCons (eVar 3) (aCons (eC (.int 20000)) aNil)))))
  (sSeq (sAsg (gN 10) (eIf (tOf (eBin (isNOp false) (eVar 10) (eC .non))) (eTup (aCons (eC (.str "too many")) (aCons (eC (.str "letters")) aNil))) (eVar 10)))
  (sRet (eBin eqOp (eCall M__law_plain (aCons (eCall M__law_told (aCons (eC (.int 3)) (aCons (eVar 3) aNil))) aNil)) (eCall M__law_plain (aCons (eVar 10) aNil)))))) [x0, x1, x2, some (lI w), x4, x5, x6, x7, x8, x9, x10, x11, x12] st = .rt (.bl true) st := by
  have hz := sz
  have l2' : (2 : Nat) ≤ sizeLine := by omega
  have im := @images_sp st 3 w (by omega)
  have im : M__law_images [.int 3, lI w, .int 20000] st = .ok (ownA 3 w) st := im
  have td := @told_sp st 3 w (by omega) (by omega) hw (by omega)
  have td : M__law_told [.int 3, lI w] st = .ok (toldA 3 w) st := td
  obtain ⟨r, q1, q2, q3⟩ := @toldQ st 3 w (by omega)
  unfold ownA at im
  unfold toldA at td q1
  cases e : runI (gens 3) w with
  | some T =>
    rw [e] at im td q1
    have i1 := @isN_lst st (T.map lI)
    simp only [sSeq_ap, sAsg_ap, eCall_ap, aCons_ap, eC_ap, eVar_ap, List.getElem?_cons_zero, List.getElem?_cons_succ, aNil_ap, Res.bind_ok, im, Res.toS_ok, gN_ap, List.set_cons_zero, List.set_cons_succ, SRes.bind_nx, eIf_ap, tOf_ap, eBin_ap, i1, Res.of_some, asB_bl, Bool.false_eq_true, if_false, sRet_ap, td, q1, q2]
  | none =>
    rw [e] at im td q1
    have i1 := @isN_non st
    simp only [sSeq_ap, sAsg_ap, eCall_ap, aCons_ap, eC_ap, eVar_ap, List.getElem?_cons_zero, List.getElem?_cons_succ, aNil_ap, Res.bind_ok, im, Res.toS_ok, gN_ap, List.set_cons_zero, List.set_cons_succ, SRes.bind_nx, eIf_ap, tOf_ap, eBin_ap, i1, Res.of_some, asB_bl, if_true, eTup_ap, List.length_cons, List.length_nil, Nat.zero_add, Nat.reduceAdd, l2', sRet_ap, td, q1, q2]
theorem inv_lc {x0 x1 x2 x4 x5 x6 x7 x8 x9 x10 x11 x12 : Option A} (hl : w.length < 1000) : eLc false (mSeq (eUn (revL false) (eVar 3))) (gN 11) [11] tYesM e1_law [x0, x1, x2, some (lI w), x4, x5, x6, x7, x8, x9, x10, x11, x12] st = .ok (lI (inv w)) st := by
  have hz := sz
  have lc := @lcA st (mSeq (eUn (revL false) (eVar 3))) 11 [11] e1_law [x0, x1, x2, some (lI w), x4, x5, x6, x7, x8, x9, x10, x11, x12] w.reverse (fun x => -x) (by
    have : revL false (lI w) st = some (lI w.reverse, st) := by simp [revL, lstR, lstH]
    simp only [mSeq_ap, sSeq_ap, sAsg_ap, sEx_ap, sRet_ap, sRetN_ap, sNil_ap, sIf_ap, sFor_ap, sSub_ap, sRaise_ap, mkWhat_ap, eVar_ap, eC_ap, eBin_ap, eUn_ap, eTup_ap, eLst_ap, eCB_ap, eCall_ap, eM_ap, eIf_ap, eAndV_ap, eOrV_ap, eNotV_ap, eChain_ap, eSl_ap, oNone_ap, oSome_ap, eXf_ap, aNil_ap, aCons_ap, tOf_ap, tTru_ap, tAndM_ap, tOrM_ap, tNotM_ap, tYesM_ap, asB_bl, truA_b, Res.bind_ok, Res.bind_exc, Res.toS_ok, Res.toS_exc, Res.of_some, SRes.bind_nx, SRes.bind_rt, SRes.bind_exc, SRes.bind_ct, SRes.bind_bk, gN_ap, List.getElem?_cons_zero, List.getElem?_cons_succ, List.set_cons_zero, List.set_cons_succ, one1_ap, two2_ap, newL_f, newL_t, addOp_ii, subOp_ii, negOp_i, ltOp_ii, leOp_ii, gtOp_ii, geOp_ii, eqOp_ii, neOp_ii, eqOp_ss, neOp_ss, intA_i, intA_b, maxA_ii, minA_ii, lenA_lst, lenA_tup, lenA_slst, listA_lst, listA_tup, listA_slst, tupleA_lst, tupleA_tup, List.length_map, List.length_cons, List.length_nil, Bool.not_true, Bool.not_false, Bool.false_eq_true, if_true, if_false, Nat.zero_add, Nat.reduceAdd, this, seqR_lst, srcOf_lst]) (by simp; omega) (fun x hx => by
    show e1_law [x0, x1, x2, some (lI w), x4, x5, x6, x7, x8, x9, x10, some (.int x), x12] st = _
    simp only [e1_law, sSeq_ap, sAsg_ap, sEx_ap, sRet_ap, sRetN_ap, sNil_ap, sIf_ap, sFor_ap, sSub_ap, sRaise_ap, mkWhat_ap, eVar_ap, eC_ap, eBin_ap, eUn_ap, eTup_ap, eLst_ap, eCB_ap, eCall_ap, eM_ap, eIf_ap, eAndV_ap, eOrV_ap, eNotV_ap, eChain_ap, eSl_ap, oNone_ap, oSome_ap, eXf_ap, aNil_ap, aCons_ap, tOf_ap, tTru_ap, tAndM_ap, tOrM_ap, tNotM_ap, tYesM_ap, asB_bl, truA_b, Res.bind_ok, Res.bind_exc, Res.toS_ok, Res.toS_exc, Res.of_some, SRes.bind_nx, SRes.bind_rt, SRes.bind_exc, SRes.bind_ct, SRes.bind_bk, gN_ap, List.getElem?_cons_zero, List.getElem?_cons_succ, List.set_cons_zero, List.set_cons_succ, one1_ap, two2_ap, newL_f, newL_t, addOp_ii, subOp_ii, negOp_i, ltOp_ii, leOp_ii, gtOp_ii, geOp_ii, eqOp_ii, neOp_ii, eqOp_ss, neOp_ss, intA_i, intA_b, maxA_ii, minA_ii, lenA_lst, lenA_tup, lenA_slst, listA_lst, listA_tup, listA_slst, tupleA_lst, tupleA_tup, List.length_map, List.length_cons, List.length_nil, Bool.not_true, Bool.not_false, Bool.false_eq_true, if_true, if_false, Nat.zero_add, Nat.reduceAdd])
  rw [lc]
  congr 2
  simp [inv]
theorem hlaw : ∀ ns : List Int, ns.length ≤ 63 → ∃ st, M_law [.slst (ns.map A.int)] [] = .ok (.bl true) st := by
  intro ns hns
  have hz := sz
  have l2' : (2 : Nat) ≤ sizeLine := by omega
  have l4' : (4 : Nat) ≤ sizeLine := by omega
  have l1' : (1 : Nat) ≤ sizeLine := by omega
  obtain ⟨ds0, -, hd⟩ := deck_spec hns 50 14 (by omega) (by omega)
  have hd : M__law_deck [.slst (ns.map A.int), .int 50, .int 14] [] = .ok (.cell 0) [li ds0] := hd
  have T : ∀ (ds : List Int) (k : Int), 0 < k → ∃ d ds', 0 ≤ d ∧ d < k ∧ M__law_take [.cell 0, .int k] [li ds] = .ok (.int d) [li ds'] := fun ds k hk => by
    obtain ⟨d, ds', h1, h2, h3⟩ := tk0 (st := [li ds]) (c := 0) (ds := ds) (n := k) (by simp) hk
    exact ⟨d, ds', h1, h2, h3⟩
  obtain ⟨d1, ds1, p1, p2, t1⟩ := T ds0 8 (by omega)
  obtain ⟨d2, ds2, p3, p4, t2⟩ := T ds1 3 (by omega)
  obtain ⟨d3, ds3, p5, p6, t3⟩ := T ds2 2 (by omega)
  obtain ⟨n, h1, h8, e1⟩ : ∃ n : Nat, 1 ≤ n ∧ n ≤ 8 ∧ ∀ s, ixOp (.lst [.int (1 + d1), .int (2 + d2)]) (.int d3) s = some (.int (n : Int), s) := by
    rcases (by omega : d3 = 0 ∨ d3 = 1) with rfl | rfl
    · exact ⟨(1 + d1).toNat, by omega, by omega, fun s => ixs (by omega) (by rw [show (((1 + d1).toNat : Nat) : Int) = 1 + d1 by omega]; rfl)⟩
    · exact ⟨(2 + d2).toNat, by omega, by omega, fun s => ixs (by omega) (by rw [show (((2 + d2).toNat : Nat) : Int) = 2 + d2 by omega]; rfl)⟩
  obtain ⟨d4, ds4, p7, p8, t4⟩ := T ds3 4 (by omega)
  obtain ⟨mo, hmo, e2⟩ : ∃ mo : Nat, mo ≤ 14 ∧ ∀ s, ixOp (.lst [.int 5, .int 8, .int 11, .int 14]) (.int d4) s = some (.int (mo : Int), s) := by
    rcases (by omega : d4 = 0 ∨ d4 = 1 ∨ d4 = 2 ∨ d4 = 3) with rfl | rfl | rfl | rfl
    · exact ⟨5, by omega, fun s => ixs (by omega) rfl⟩
    · exact ⟨8, by omega, fun s => ixs (by omega) rfl⟩
    · exact ⟨11, by omega, fun s => ixs (by omega) rfl⟩
    · exact ⟨14, by omega, fun s => ixs (by omega) rfl⟩
  obtain ⟨w, ds5, hw, hwl, t5⟩ := word_sp (st := [li ds4]) (c := 0) (ds := ds4) (n := (n : Int)) (mo := mo) (by simp) (by omega) (by omega) (by omega)
  have t5 : M__law_word [.cell 0, .int (n : Int), .int (mo : Int)] [li ds4] = .ok (lI w) [li ds5] := t5
  have hw : Lw n w := hw
  obtain ⟨d6, ds6, p9, p10, t6⟩ := T ds5 30 (by omega)
  by_cases h30 : d6 = 0
  · obtain ⟨d7, ds7, p11, p12, t7⟩ := T ds6 2 (by omega)
    obtain ⟨q, hq, e7⟩ : ∃ q : Nat, q ≤ 20 ∧ 9 + d7 = (q : Int) := ⟨(9 + d7).toNat, by omega, by omega⟩
    have rp := @repI [li ds7] [1, -2] q (by simp; omega) (by omega)
    have rp : mulOp false (.lst [.int 1, .int (-2)]) (.int (q : Int)) [li ds7] = some (.lst ((List.replicate q [1, -2]).flatten.map A.int), [li ds7]) := rp
    have hll := flat_len q [(1 : Int), -2]
    have hl3 : Lw (3 : Nat) (List.replicate q [(1 : Int), -2]).flatten := fun x hx => by
      obtain ⟨y, hy, hxy⟩ := List.mem_flatten.mp hx
      rw [List.eq_of_mem_replicate hy] at hxy
      simp at hxy
      rcases hxy with rfl | rfl
      · exact ⟨by decide, by decide⟩
      · exact ⟨by decide, by decide⟩
    generalize (List.replicate q [(1 : Int), -2]).flatten = W at rp hll hl3
    have hW : W.length ≤ 1000 := by simp at hll; omega
    have lg := fun x0 x1 x2 x4 x5 x6 x7 x8 x9 x10 x11 x12 => @long_sp [li ds7] W hW hl3 x0 x1 x2 x4 x5 x6 x7 x8 x9 x10 x11 x12
    simp only [sSeq_ap] at lg
    refine ⟨_, fnM_rt rfl (a := .bl true) (st' := [li ds7]) ?_ (finA_pure (st := []) (l := [li ds7]) (by simp [A.bel]) (by intro c h; cases h))⟩
    show B_law [some (.slst (ns.map A.int)), none, none, none, none, none, none, none, none, none, none, none, none] [] = _
    have lg1 := lg (some (.slst (ns.map A.int))) (some (.cell 0)) (some (.int (n : Int))) none none none none none none none none none
    simp only [B_law, sSeq_ap]
    generalize hG : (sAsg (gN 10) (eCall M__law_images (aCons (eC (.int 3)) (aCons (eVar 3) (aCons (eC (.int 20000)) aNil))))) = G1 at lg1 ⊢
    simp only [sAsg_ap, eCall_ap, aCons_ap, eC_ap, eVar_ap, List.getElem?_cons_zero, List.getElem?_cons_succ, aNil_ap, Res.bind_ok, hd, Res.toS_ok, gN_ap, List.set_cons_zero, List.set_cons_succ, SRes.bind_nx, eBin_ap, eLst_ap, addOp_ii, t1, t2, t3, Res.of_some, List.length_cons, List.length_nil, Nat.zero_add, Nat.reduceAdd, l2', l4', if_true, newL_f, e1, t4, e2, t5, sIf_ap, tOf_ap, t6, eqOp_ii, decide_eq_true h30, asB_bl, sSeq_ap, eUn_ap, negOp_i, t7, e7, rp]
    rw [lg1]
    rfl
  · obtain ⟨fr, ds7, hfl, t7⟩ := @free_sp [li ds6] 0 ds6 (by simp)
    have t7 : M__law_free_word [.cell 0] [li ds6] = .ok (lI fr) [li ds7] := t7
    have r1 := @redP_sp [li ds7] (lI fr) fr rfl (by omega)
    have r2 := @left_sp [li ds7] fr (by omega)
    have hrl : (red fr).length < 1000000 := by
      have : ∀ (w s : List Int), (act s w).length ≤ s.length + w.length := fun w => by
        induction w with
        | nil => intro s; show s.length ≤ _; simp
        | cons a w ih =>
          intro s
          have h1 := ih (psh s a)
          have h2 := @psh_len s a
          rw [act_cons, List.length_cons]; omega
      have := this fr []
      unfold red; rw [List.length_reverse]; simp at this; omega
    obtain ⟨rf, q1, q2, q3, _⟩ := plainQ (st := [li ds7]) (d := 1) (pd_lI hrl) (by omega)
    have td := @told_sp [li ds7] n w h1 h8 hw (by omega)
    have im := @images_sp [li ds7] n w h8
    refine ⟨[], ?_⟩
    cases e : runI (gens n) w with
    | none =>
      unfold toldA at td
      unfold ownA at im
      rw [e] at td im
      refine fnM_rt rfl (a := .bl true) (st' := [li ds7]) ?_ (finA_pure (st := []) (l := [li ds7]) (by simp [A.bel]) (by intro c h; cases h))
      show B_law [some (.slst (ns.map A.int)), none, none, none, none, none, none, none, none, none, none, none, none] [] = _
      have it := @isi_tt [li ds7] [.str "too many", .str "letters"]
      have i1 := @isN_non [li ds7]
      have es : eqOp tooA tooA [li ds7] = some (.bl true, [li ds7]) := eqS sk_t sk_l
      simp only [B_law, sSeq_ap, sAsg_ap, eCall_ap, aCons_ap, eC_ap, eVar_ap, List.getElem?_cons_zero, List.getElem?_cons_succ, aNil_ap, Res.bind_ok, hd, Res.toS_ok, gN_ap, List.set_cons_zero, List.set_cons_succ, SRes.bind_nx, eBin_ap, eLst_ap, addOp_ii, t1, t2, t3, Res.of_some, List.length_cons, List.length_nil, Nat.zero_add, Nat.reduceAdd, l2', l4', if_true, newL_f, e1, t4, e2, t5, sIf_ap, tOf_ap, t6, eqOp_ii, decide_eq_false h30, asB_bl, Bool.false_eq_true, if_false, sNil_ap, t7, r1, r2, q1, q3, td, im, tOrM_ap, tTru_ap, eCB_ap, two2_ap, it, truA_b, sRet_ap, eAndV_ap, i1, eTup_ap, es, SRes.bind_rt]
    | some TT =>
      have hTl := run_len e
      have hTb := big_false.mp (run_big gens_big e)
      unfold toldA at td
      unfold ownA at im
      rw [e] at td im
      dsimp only at td im
      obtain ⟨ds8, t8⟩ := @right_sp [li ds7] 0 ds7 n w TT (by simp) h1 h8 hw e
      have t8 : M__law_right [.cell 0, .int (n : Int), lI w, lL TT] [li ds7] = .ok (.bl true) [li ds8] := t8
      obtain ⟨d9, ds9, p11, p12, t9⟩ := T ds8 21 (by omega)
      obtain ⟨k, rfl⟩ : ∃ k : Nat, d9 = (k : Int) := ⟨d9.toNat, by omega⟩
      obtain ⟨v, ds10, hv, hvl, t10⟩ := @scr_sp [li ds9] 0 ds9 n w (by simp) h1 h8 hw (by omega) k (by omega)
      have t10 : M__law_scrambled [.cell 0, .int (n : Int), lI w, .int (k : Int)] [li ds9] = .ok (lI v) [li ds10] := t10
      have tv := @told_sp [li ds10] n v h1 h8 hv.r (by omega)
      have hwi : Lw n (w ++ inv w) := Lw.app.mpr ⟨hw, fun x hx => by
        unfold inv at hx
        rw [List.mem_reverse, List.mem_map] at hx
        obtain ⟨y, hy, rfl⟩ := hx
        exact ⟨by have := (hw y hy).1; omega, by rw [ab_neg]; exact (hw y hy).2⟩⟩
      have hil : (inv w).length = w.length := by simp [inv]
      have tb := @told_sp [li ds10] n (w ++ inv w) h1 h8 hwi (by rw [List.length_append]; omega)
      unfold toldA at tb
      rw [run_round (by omega) hw e] at tb
      dsimp only at tb
      have ad := @addI_l [li ds10] w (inv w) (by omega)
      obtain ⟨rg, g1, g2, g3, _⟩ := @plainL [li ds10] (gens n) (by rw [gens_len]; omega) (fun u hu => by
        obtain ⟨i, _, rfl⟩ := List.mem_map.mp hu; simp)
      obtain ⟨rt, f1, f2, f3, _⟩ := @plainL [li ds10] TT (by omega) (fun u hu => by have := hTb u hu; omega)
      have it := @isi_lt [li ds7] (TT.map lI)
      have i1 := @isN_lst [li ds7] (TT.map lI)
      have lci := fun x0 x1 x2 x4 x5 x6 x7 x8 x9 x10 x11 x12 => @inv_lc [li ds10] w x0 x1 x2 x4 x5 x6 x7 x8 x9 x10 x11 x12 (by omega)
      have er : ∀ x3 x4 x5 x6 x7 x8 x9 x10 x11 x12, mRng1 (aCons (eVar 2) aNil) [some (.slst (ns.map A.int)), some (.cell 0), some (.int (n : Int)), x3, x4, x5, x6, x7, x8, x9, x10, x11, x12] [li ds10] = .ok (((List.range n).map fun (j : Nat) => (fun x => x) (j : Int)).map A.int, none) [li ds10] := fun x3 x4 x5 x6 x7 x8 x9 x10 x11 x12 => rng1 (by omega) rfl
      have gl := fun x3 x4 x5 x6 x7 x8 x9 x10 x11 x12 => @gens_lc [li ds10] n (fun x => x) _ 12 [12] e2_law _ h8 (er x3 x4 x5 x6 x7 x8 x9 x10 x11 x12) (fun j hj => by
        show e2_law [some (.slst (ns.map A.int)), some (.cell 0), some (.int (n : Int)), x3, x4, x5, x6, x7, x8, x9, x10, x11, some (.int (j : Int))] _ = _
        simp only [e2_law, sSeq_ap, sAsg_ap, sEx_ap, sRet_ap, sRetN_ap, sNil_ap, sIf_ap, sFor_ap, sSub_ap, sRaise_ap, mkWhat_ap, eVar_ap, eC_ap, eBin_ap, eUn_ap, eTup_ap, eLst_ap, eCB_ap, eCall_ap, eM_ap, eIf_ap, eAndV_ap, eOrV_ap, eNotV_ap, eChain_ap, eSl_ap, oNone_ap, oSome_ap, eXf_ap, aNil_ap, aCons_ap, tOf_ap, tTru_ap, tAndM_ap, tOrM_ap, tNotM_ap, tYesM_ap, asB_bl, truA_b, Res.bind_ok, Res.bind_exc, Res.toS_ok, Res.toS_exc, Res.of_some, SRes.bind_nx, SRes.bind_rt, SRes.bind_exc, SRes.bind_ct, SRes.bind_bk, gN_ap, List.getElem?_cons_zero, List.getElem?_cons_succ, List.set_cons_zero, List.set_cons_succ, one1_ap, two2_ap, newL_f, newL_t, addOp_ii, subOp_ii, negOp_i, ltOp_ii, leOp_ii, gtOp_ii, geOp_ii, eqOp_ii, neOp_ii, eqOp_ss, neOp_ss, intA_i, intA_b, maxA_ii, minA_ii, lenA_lst, lenA_tup, lenA_slst, listA_lst, listA_tup, listA_slst, tupleA_lst, tupleA_tup, List.length_map, List.length_cons, List.length_nil, Bool.not_true, Bool.not_false, Bool.false_eq_true, if_true, if_false, Nat.zero_add, Nat.reduceAdd, l1']; rfl)
      refine fnM_rt rfl (a := .bl true) (st' := [li ds10]) ?_ (finA_pure (st := []) (l := [li ds10]) (by simp [A.bel]) (by intro c h; cases h))
      show B_law [some (.slst (ns.map A.int)), none, none, none, none, none, none, none, none, none, none, none, none] [] = _
      unfold toldA at tv
      cases ev : runI (gens n) v with
      | none =>
        rw [ev] at tv
        dsimp only at tv
        have it2 := @isi_tt [li ds10] [.str "too many", .str "letters"]
        simp only [B_law, sSeq_ap, sAsg_ap, eCall_ap, aCons_ap, eC_ap, eVar_ap, List.getElem?_cons_zero, List.getElem?_cons_succ, aNil_ap, Res.bind_ok, hd, Res.toS_ok, gN_ap, List.set_cons_zero, List.set_cons_succ, SRes.bind_nx, eBin_ap, eLst_ap, addOp_ii, t1, t2, t3, Res.of_some, List.length_cons, List.length_nil, Nat.zero_add, Nat.reduceAdd, l2', l4', if_true, newL_f, e1, t4, e2, t5, sIf_ap, tOf_ap, t6, eqOp_ii, decide_eq_false h30, asB_bl, Bool.false_eq_true, if_false, sNil_ap, t7, r1, r2, q1, q3, td, im, tOrM_ap, tTru_ap, eCB_ap, two2_ap, it, truA_b, i1, tNotM_ap, t8, Bool.not_true, t9, t10, tv, tAndM_ap, it2, lci, ad, tb, sRet_ap, g1, gl, g2]
      | some U =>
        rw [ev] at tv
        dsimp only at tv
        have hU := run_rl hv e ev
        subst hU
        have it2 := @isi_lt [li ds10] (TT.map lI)
        simp only [B_law, sSeq_ap, sAsg_ap, eCall_ap, aCons_ap, eC_ap, eVar_ap, List.getElem?_cons_zero, List.getElem?_cons_succ, aNil_ap, Res.bind_ok, hd, Res.toS_ok, gN_ap, List.set_cons_zero, List.set_cons_succ, SRes.bind_nx, eBin_ap, eLst_ap, addOp_ii, t1, t2, t3, Res.of_some, List.length_cons, List.length_nil, Nat.zero_add, Nat.reduceAdd, l2', l4', if_true, newL_f, e1, t4, e2, t5, sIf_ap, tOf_ap, t6, eqOp_ii, decide_eq_false h30, asB_bl, Bool.false_eq_true, if_false, sNil_ap, t7, r1, r2, q1, q3, td, im, tOrM_ap, tTru_ap, eCB_ap, two2_ap, it, truA_b, i1, tNotM_ap, t8, Bool.not_true, t9, t10, tv, tAndM_ap, it2, Bool.not_false, f1, f3, lci, ad, tb, sRet_ap, g1, gl, g2]
end
end Gk07


theorem PySem.Challenge.cw_knotwork_k07_whole_free_images_holds : PySem.Challenge.rw_knotwork_k07_whole_free_images.Holds := by
  exact Gk07.holds_of Gk07.hlaw
