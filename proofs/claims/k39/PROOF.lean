import PyProof.Rows.All
import Wide.All
import OpenK.AllK
import Wide.FinOn
import HandS.ForMost
import HandS.More
import HandS.Codes
import HandS.TupLe
import HandS.IsInst
import HandS.Walk
import HandS.Deep
import HandS.MakeKwOnly
import HandS.Style
import HandS.ClsMeth
import HandS.DictComp
import HandS.Exc
import HandS.ExcOwn
import HandS.TryOnly
import HandS.ExcIs
import HandS.WordsExc
import HandS.CallSlots
import HandS.DeepEq
import HandS.DictTup
import HandS.Property
import HandS.TupAny
import HandS.TupMul
import HandS.NoneIn
import HandS.SortInts
import HandS.SortRule
import HandS.Rev
import HandS.RevRange
import HandS.SetFor
import HandS.TryMany
import HandS.SuiteRaise
import HandS.Star
import HandS.HotCalls
import HandS.Hot
import KE.KExcRaise
import KE.GoesEnum
import KE.DataFind
import KE.KDictDisplayH
import HandS.CallLocal
import HandS.StrMore
import HandS.StrSplit
import HandS.IterVal
import HandS.FStr
import KE.SortData
import KE.DataCmp
import PySem.Challenge.RW_lotsandties_k39_copies_that_are_struck
set_option Elab.async false
set_option linter.all false
set_option maxRecDepth 100000
set_option maxHeartbeats 4000000
namespace Mine
open PySem L2
/-! Trees: what an object of the heap holds, without addresses. own: this place alone has it and may change it; frz: nobody changes it any more;
lnt: lent for the time of this def. -/
inductive Ow | own | frz | lnt
  deriving DecidableEq
/-- the written part; the classes by number, their fields' names in the order in which they come; the errors' classes by number -/
structure KC where
  K : PySem.W.Frag
  P : Program
  w : World
  ct : Nat → Addr
  nm : Nat → List Str
  et : Nat → Addr
/-- ins n k: an instance of class n with its first k fields -/
inductive Nk | lst | tup | ins (n k : Nat) | dct (ks : List Key) | dcT (ks : List (List Key)) | sti (l : List Int)
  deriving DecidableEq
inductive Tr | any | a (v : V) | nd (k : Nk) (o : Ow) (ts : List Tr)
def eff : Ow → Ow → Ow
  | .own, o => o
  | .lnt, .frz => .frz
  | .lnt, _ => .lnt
  | .frz, _ => .frz
mutual
/-- a child as seen from its parent; a tuple hands the flag on to its items -/
def kid : Ow → Tr → Tr
  | o, .nd .tup o' ts => .nd .tup .own (kidL (eff o o') ts)
  | o, .nd .lst o' ts => .nd .lst (eff o o') ts
  | o, .nd (.ins n k) o' ts => .nd (.ins n k) (eff o o') ts
  | o, .nd (.dct ks) o' ts => .nd (.dct ks) (eff o o') ts
  | o, .nd (.dcT ks) o' ts => .nd (.dcT ks) (eff o o') ts
  | o, .nd (.sti l) o' ts => .nd (.sti l) (eff o o') ts
  | _, .any => .any
  | _, .a v => .a v
def kidL : Ow → List Tr → List Tr
  | _, [] => []
  | o, t :: ts => kid o t :: kidL o ts
end
mutual
/-- may be read twice: nothing in it is own -/
def cp : Tr → Bool
  | .any => false
  | .a _ => true
  | .nd .tup .own ts => cpL ts
  | .nd _ .own _ => false
  | .nd _ _ _ => true
def cpL : List Tr → Bool
  | [] => true
  | t :: ts => cp t && cpL ts
end
mutual
/-- may leave the def: nothing in it is lent -/
def esc : Tr → Bool
  | .any => true
  | .a _ => true
  | .nd .tup .own ts => escL ts
  | .nd _ .lnt _ => false
  | .nd _ _ _ => true
def escL : List Tr → Bool
  | [] => true
  | t :: ts => esc t && escL ts
end
abbrev Ps := Addr → Prop
structure Zn where
  fz : Ps
  ln : Ps
def TSK (K : KC) (H H' : Hp) : Prop := ∀ a xs, H a = some (.tup xs) → H' a = some (.tup xs)
/-- a tuple that is a key: a new one or one of the written part -/
def KeyAt (K : PySem.W.Frag) (H : Hp) (b : Addr) (k : List Key) : Prop := H b = some (.tup (k.map kV)) ∨ SqT K (fun _ => none) b (k.map kV)
/-- a dict with tuples as keys: the keys, their places, the values -/
def dphi (P : Program) (w : World) (a : Addr) (l : List (List Key × Addr × V)) : Heap → Prop := fun h => ∃ xs : List (List Key × Addr × Value),
  Paired (fun (p : List Key × Addr × V) (q : List Key × Addr × Value) => p.1 = q.1 ∧ p.2.1 = q.2.1 ∧ RelV p.2.2 q.2.2) l xs ∧
  ∃ o es ep, h.get? a = some o ∧ o.ExactDict ∧ o.data = .dict es ep ∧ es.toList = xs.map (entryOfKey (tupleKind (mixKind P w)))
def ObjAt (K : KC) : Nk → Ow → Hp → Addr → List V → Prop
  | .lst, _, H, a, vs => H a = some (.lst vs)
  | .tup, _, H, a, vs => H a = some (.tup vs) ∨ SqT K.K (fun _ => none) a vs
  | .ins n k, _, H, a, vs => ((K.nm n).take k).length = vs.length ∧ ∃ dx, H a = some (.ins (K.ct n) dx (((K.nm n).take k).zip vs))
  | .dct ks, .own, H, a, vs => ks.length = vs.length ∧ H a = some (.dK (ks.zip vs))
  | .dct ks, _, H, a, vs => ks.length = vs.length ∧ Rd H a (.dK (ks.zip vs))
  | .dcT ks, _, H, a, vs => ∃ bs : List Addr, ks.length = vs.length ∧ bs.length = vs.length ∧ ks.Nodup ∧ vs.length ≤ sizeLine ∧ (a == sysModules) = false ∧ (∀ p ∈ ks.zip bs, KeyAt K.K H p.2 p.1) ∧ H a = some (.ext (dphi K.P K.w a (ks.zip (bs.zip vs))))
  | .sti l, _, H, a, vs => vs = [] ∧ l.Nodup ∧ H a = some (.set (fun i => decide (i ∈ l)) l.length)
/-- a node's own address and what it owns -/
def Nod (Z : Zn) : Nk → Ow → Addr → List Tr → Ps → Ps → Prop
  | .tup, .own, _, _, Ψ, Φ => ∀ b, Φ b ↔ Ψ b
  | .tup, _, _, _, _, Φ => ∀ b, ¬ Φ b
  | _, .own, a, ts, Ψ, Φ => (∀ b, Φ b ↔ b = a ∨ Ψ b) ∧ ¬ Ψ a ∧ escL ts = true
  | _, .frz, a, _, _, Φ => (∀ b, ¬ Φ b) ∧ Z.fz a
  | _, .lnt, a, _, _, Φ => (∀ b, ¬ Φ b) ∧ Z.ln a
mutual
def Rep (K : KC) (Z : Zn) (H : Hp) : Ow → Tr → V → Ps → Prop
  | _, .any, _, Φ => ∀ b, ¬ Φ b
  | _, .a u, v, Φ => v = u ∧ ∀ b, ¬ Φ b
  | m, .nd k o ts, v, Φ => ∃ a vs Ψ, v = .ref a ∧ ObjAt K k (eff m o) H a vs ∧ RepL K Z H (eff m o) ts vs Ψ ∧ Nod Z k (eff m o) a ts Ψ Φ
def RepL (K : KC) (Z : Zn) (H : Hp) : Ow → List Tr → List V → Ps → Prop
  | _, [], vs, Φ => vs = [] ∧ ∀ b, ¬ Φ b
  | m, t :: ts, vs, Φ => ∃ v vs' Φ1 Φ2, vs = v :: vs' ∧ Rep K Z H m t v Φ1 ∧ RepL K Z H m ts vs' Φ2 ∧ (∀ b, ¬ (Φ1 b ∧ Φ2 b)) ∧ ∀ b, Φ b ↔ Φ1 b ∨ Φ2 b
end
section
variable {K : KC} {Z Z' : Zn} {H H' : Hp} {m : Ow} {t : Tr} {ts : List Tr} {v : V} {vs : List V} {Φ Ψ : Ps} {a : Addr} {k : Nk} {o : Ow}
theorem eff_nown {m o : Ow} (h : m ≠ .own) : eff m o ≠ .own := by cases m <;> cases o <;> simp_all [eff]
/-- what is seen stays, where what it rests on stays -/
structure Kp (K : KC) (Z Z' : Zn) (H H' : Hp) (Φ : Ps) : Prop where
  fz : ∀ b, Z.fz b → Z'.fz b
  ln : ∀ b, Z.ln b → Z'.ln b
  ob : ∀ b ob, (Φ b ∨ Z.fz b ∨ Z.ln b) → H b = some ob → H' b = some ob
  tp : TSK K H H'
theorem Kp.sub {Ψ : Ps} (h : Kp K Z Z' H H' Φ) (s : ∀ b, Ψ b → Φ b) : Kp K Z Z' H H' Ψ := ⟨h.fz, h.ln, fun b ob q e => h.ob b ob (by grind) e, h.tp⟩
theorem Kp.refl (K : KC) (Z : Zn) (H : Hp) (Φ : Ps) : Kp K Z Z H H Φ := ⟨fun _ h => h, fun _ h => h, fun _ _ _ h => h, fun _ _ h => h⟩
theorem ObjAt.fr (h : ObjAt K k o H a vs) (hk : k ≠ .tup → ∀ ob, H a = some ob → H' a = some ob) (tp : TSK K H H') : ObjAt K k o H' a vs := by
  cases k with
  | tup => exact h.imp (tp _ _) id
  | lst => exact hk (by simp) _ h
  | ins n j =>
    obtain ⟨l, dx, e⟩ := h
    exact ⟨l, dx, hk (by simp) _ e⟩
  | dct ks =>
    cases o with
    | own => exact ⟨h.1, hk (by simp) _ h.2⟩
    | frz => exact ⟨h.1, h.2.imp (hk (by simp) _) fun ⟨ob, e⟩ => ⟨ob, hk (by simp) _ e⟩⟩
    | lnt => exact ⟨h.1, h.2.imp (hk (by simp) _) fun ⟨ob, e⟩ => ⟨ob, hk (by simp) _ e⟩⟩
  | dcT ks =>
    obtain ⟨bs, h1, h2, h3, h4, h5, h6, h7⟩ := h
    exact ⟨bs, h1, h2, h3, h4, h5, fun p hp => (h6 p hp).imp (tp _ _) id, hk (by simp) _ h7⟩
  | sti l => exact ⟨h.1, h.2.1, hk (by simp) _ h.2.2⟩
/-- what is seen of a thing, whatever the flag -/
theorem ObjAt.weak {o' : Ow} (h : ObjAt K k o H a vs) (ho : o' ≠ .own) : ObjAt K k o' H a vs := by
  cases k with
  | dct ks => cases o <;> cases o' <;> first | exact absurd rfl ho | exact h | exact ⟨h.1, .inl h.2⟩
  | _ => exact h
theorem ObjAt.rd {ks : List Key} (h : ObjAt K (.dct ks) o H a vs) : ks.length = vs.length ∧ Rd H a (.dK (ks.zip vs)) := by
  cases o
  · exact ⟨h.1, .inl h.2⟩
  · exact h
  · exact h
theorem Nod.zone (h : Nod Z k o a ts Ψ Φ) (hk : k ≠ .tup) : (o = .own ∧ Φ a) ∨ Z.fz a ∨ Z.ln a := by
  cases k <;> cases o <;> simp_all [Nod]
theorem Nod.mono (h : Nod Z k o a ts Ψ Φ) (f : ∀ b, Z.fz b → Z'.fz b) (l : ∀ b, Z.ln b → Z'.ln b) : Nod Z' k o a ts Ψ Φ := by
  cases k <;> cases o <;> simp_all [Nod]
theorem Nod.sub (h : Nod Z k o a ts Ψ Φ) (ho : o = .own) : ∀ b, Ψ b → Φ b := by
  cases k <;> cases o <;> simp_all [Nod]
/-- what is not own owns nothing -/
theorem Rep.no0 : ∀ (t : Tr) {m : Ow} {v : V} {Φ : Ps}, m ≠ .own → Rep K Z H m t v Φ → ∀ b, ¬ Φ b
  | .any, _, _, _, _, h => h
  | .a _, _, _, _, _, h => h.2
  | .nd k o ts, m, v, Φ, hm, h => by
    obtain ⟨a, vs, Ψ, _, _, hl, hn⟩ := h
    have e := eff_nown (o := o) hm
    cases k <;> cases eo : eff m o <;> simp_all [Nod]
theorem RepL.no0 : ∀ (ts : List Tr) {m : Ow} {vs : List V} {Φ : Ps}, m ≠ .own → RepL K Z H m ts vs Φ → ∀ b, ¬ Φ b
  | [], _, _, _, _, h => h.2
  | t :: ts, m, vs, Φ, hm, h => by
    obtain ⟨v, vs', Φ1, Φ2, e, h1, h2, d, u⟩ := h
    intro b q
    rcases (u b).mp q with z | z
    · exact Rep.no0 t hm h1 b z
    · exact RepL.no0 ts hm h2 b z
mutual
theorem Rep.fr : ∀ (t : Tr) {m : Ow} {v : V} {Φ : Ps}, Rep K Z H m t v Φ → Kp K Z Z' H H' Φ → Rep K Z' H' m t v Φ
  | .any, _, _, _, h, _ => h
  | .a _, _, _, _, h, _ => h
  | .nd k o ts, m, v, Φ, h, kp => by
    obtain ⟨a, vs, Ψ, e, ho, hl, hn⟩ := h
    refine ⟨a, vs, Ψ, e, ho.fr (fun hk ob q => kp.ob a ob ?_ q) kp.tp, RepL.fr ts hl (kp.sub ?_), hn.mono kp.fz kp.ln⟩
    · rcases hn.zone hk with z | z
      · exact .inl z.2
      · exact .inr z
    · intro b hb
      by_cases eo : eff m o = .own
      · exact hn.sub eo b hb
      · exact absurd hb (RepL.no0 ts eo hl b)
theorem RepL.fr : ∀ (ts : List Tr) {m : Ow} {vs : List V} {Φ : Ps}, RepL K Z H m ts vs Φ → Kp K Z Z' H H' Φ → RepL K Z' H' m ts vs Φ
  | [], _, _, _, h, _ => h
  | t :: ts, m, vs, Φ, h, kp => by
    obtain ⟨v, vs', Φ1, Φ2, e, h1, h2, d, u⟩ := h
    exact ⟨v, vs', Φ1, Φ2, e, Rep.fr t h1 (kp.sub fun b q => (u b).mpr (.inl q)), RepL.fr ts h2 (kp.sub fun b q => (u b).mpr (.inr q)), d, u⟩
end
mutual
theorem rep_kid : ∀ {t : Tr} {m : Ow} {v : V} {Φ : Ps}, Rep K Z H .own (kid m t) v Φ ↔ Rep K Z H m t v Φ
  | .any, _, _, _ => Iff.rfl
  | .a _, _, _, _ => Iff.rfl
  | .nd .lst o ts, m, v, Φ => by simp [kid, Rep, eff]
  | .nd (.ins _ _) o ts, m, v, Φ => by simp [kid, Rep, eff]
  | .nd (.dct _) o ts, m, v, Φ => by simp [kid, Rep, eff]
  | .nd (.dcT _) o ts, m, v, Φ => by simp [kid, Rep, eff]
  | .nd (.sti _) o ts, m, v, Φ => by simp [kid, Rep, eff]
  | .nd .tup o ts, m, v, Φ => by
    show (∃ a vs Ψ, v = .ref a ∧ ObjAt K .tup .own H a vs ∧ RepL K Z H .own (kidL (eff m o) ts) vs Ψ ∧ Nod Z .tup .own a (kidL (eff m o) ts) Ψ Φ) ↔ (∃ a vs Ψ, v = .ref a ∧ ObjAt K .tup (eff m o) H a vs ∧ RepL K Z H (eff m o) ts vs Ψ ∧ Nod Z .tup (eff m o) a ts Ψ Φ)
    constructor
    · rintro ⟨a, vs, Ψ, e, ho, hl, hn⟩
      have hl := (repL_kid (ts := ts) (m := eff m o)).mp hl
      refine ⟨a, vs, Ψ, e, ho, hl, ?_⟩
      have hn : ∀ b, Φ b ↔ Ψ b := hn
      cases eo : eff m o with
      | own => exact hn
      | frz => exact fun b q => RepL.no0 ts (by rw [eo]; simp) hl b ((hn b).mp q)
      | lnt => exact fun b q => RepL.no0 ts (by rw [eo]; simp) hl b ((hn b).mp q)
    · rintro ⟨a, vs, Ψ, e, ho, hl, hn⟩
      refine ⟨a, vs, Ψ, e, ho, (repL_kid (ts := ts) (m := eff m o)).mpr hl, ?_⟩
      show ∀ b, Φ b ↔ Ψ b
      cases eo : eff m o with
      | own =>
        rw [eo] at hn
        exact hn
      | frz =>
        rw [eo] at hn hl
        exact fun b => ⟨fun q => absurd q (hn b), fun q => absurd q (RepL.no0 ts (by simp) hl b)⟩
      | lnt =>
        rw [eo] at hn hl
        exact fun b => ⟨fun q => absurd q (hn b), fun q => absurd q (RepL.no0 ts (by simp) hl b)⟩
theorem repL_kid : ∀ {ts : List Tr} {m : Ow} {vs : List V} {Φ : Ps}, RepL K Z H .own (kidL m ts) vs Φ ↔ RepL K Z H m ts vs Φ
  | [], _, _, _ => Iff.rfl
  | t :: ts, m, vs, Φ => by
    simp only [kidL, RepL]
    constructor
    · rintro ⟨v, vs', Φ1, Φ2, e, h1, h2, d, u⟩
      exact ⟨v, vs', Φ1, Φ2, e, rep_kid.mp h1, repL_kid.mp h2, d, u⟩
    · rintro ⟨v, vs', Φ1, Φ2, e, h1, h2, d, u⟩
      exact ⟨v, vs', Φ1, Φ2, e, rep_kid.mpr h1, repL_kid.mpr h2, d, u⟩
end
end
section
variable {K : KC} {Z Z' : Zn} {H H' : Hp} {m : Ow} {t t' : Tr} {ts : List Tr} {v w : V} {vs us : List V} {Φ Ψ : Ps} {a : Addr} {k : Nk} {o : Ow} {i : Nat}
theorem getq_lt' {α : Type} {l : List α} {i : Nat} {x : α} (h : l[i]? = some x) : i < l.length := (List.getElem?_eq_some_iff.mp h).1
theorem RepL.len : ∀ (ts : List Tr) {vs : List V} {Φ : Ps}, RepL K Z H m ts vs Φ → ts.length = vs.length
  | [], _, _, h => by rw [h.1]; rfl
  | t :: ts, vs, Φ, h => by
    obtain ⟨v, vs', Φ1, Φ2, e, h1, h2, d, u⟩ := h
    rw [e, List.length_cons, List.length_cons, RepL.len ts h2]
theorem RepL.cast {Ψ : Ps} : ∀ (ts : List Tr) {vs : List V} {Φ : Ps}, RepL K Z H m ts vs Φ → (∀ b, Ψ b ↔ Φ b) → RepL K Z H m ts vs Ψ
  | [], _, _, h, e => ⟨h.1, fun b q => h.2 b ((e b).mp q)⟩
  | t :: ts, vs, Φ, h, e => by
    obtain ⟨v, vs', Φ1, Φ2, e1, h1, h2, d, u⟩ := h
    exact ⟨v, vs', Φ1, Φ2, e1, h1, h2, d, fun b => (e b).trans (u b)⟩
theorem Nod.cast {Ψ' Φ' : Ps} (h : Nod Z k o a ts Ψ Φ) (e1 : ∀ b, Ψ' b ↔ Ψ b) (e2 : ∀ b, Φ' b ↔ Φ b) : Nod Z k o a ts Ψ' Φ' := by
  cases k <;> cases o <;> simp_all [Nod]
theorem Rep.cast {Ψ : Ps} : ∀ (t : Tr) {v : V} {Φ : Ps}, Rep K Z H m t v Φ → (∀ b, Ψ b ↔ Φ b) → Rep K Z H m t v Ψ
  | .any, _, _, h, e => fun b q => h b ((e b).mp q)
  | .a _, _, _, h, e => ⟨h.1, fun b q => h.2 b ((e b).mp q)⟩
  | .nd k o ts, v, Φ, h, e => by
    obtain ⟨a, vs, Ψ', e1, ho, hl, hn⟩ := h
    exact ⟨a, vs, Ψ', e1, ho, hl, hn.cast (fun _ => Iff.rfl) e⟩
/-- one item of a row, and how another one takes its place -/
theorem RepL.at_ : ∀ (ts : List Tr) {vs : List V} {Φ : Ps} {i : Nat} {t : Tr}, RepL K Z H m ts vs Φ → ts[i]? = some t → ∃ v Φ1 Φ2, vs[i]? = some v ∧ Rep K Z H m t v Φ1 ∧ (∀ b, ¬ (Φ1 b ∧ Φ2 b)) ∧ (∀ b, Φ b ↔ Φ1 b ∨ Φ2 b) ∧
    RepL K Z H m (ts.set i .any) vs Φ2 ∧ RepL K Z H m (ts.eraseIdx i) (vs.eraseIdx i) Φ2
  | [], _, _, _, _, _, q => by simp at q
  | x :: ts, vs, Φ, 0, t, h, q => by
    obtain ⟨v, vs', Φ1, Φ2, e, h1, h2, d, u⟩ := h
    cases q
    subst e
    exact ⟨v, Φ1, Φ2, rfl, h1, d, u, ⟨v, vs', fun _ => False, Φ2, rfl, fun _ h => h, h2, fun _ h => h.1, by simp⟩, h2⟩
  | x :: ts, vs, Φ, i + 1, t, h, q => by
    obtain ⟨v, vs', Φ1, Φ2, e, h1, h2, d, u⟩ := h
    subst e
    obtain ⟨w, Θ1, Θ2, e2, r1, d2, u2, r2, r3⟩ := RepL.at_ ts (i := i) (t := t) h2 (by simpa using q)
    exact ⟨w, Θ1, fun b => Φ1 b ∨ Θ2 b, by simpa using e2, r1, by grind, by grind, ⟨v, vs', Φ1, Θ2, rfl, h1, r2, by grind, fun _ => Iff.rfl⟩, ⟨v, _, Φ1, Θ2, rfl, h1, r3, by grind, fun _ => Iff.rfl⟩⟩
/-- something comes to a place that is known to be nothing -/
theorem RepL.put : ∀ (ts : List Tr) {vs : List V} {Φ Ψ : Ps} {i : Nat} {t : Tr} {v : V}, RepL K Z H m ts vs Φ → ts[i]? = some .any → vs[i]? = some v → Rep K Z H m t v Ψ → (∀ b, ¬ (Ψ b ∧ Φ b)) → RepL K Z H m (ts.set i t) vs (fun b => Ψ b ∨ Φ b)
  | [], _, _, _, _, _, _, _, q, _, _, _ => by simp at q
  | x :: ts, vs, Φ, Ψ, 0, t, v, h, q, e, r, d => by
    obtain ⟨v', vs', Φ1, Φ2, e1, h1, h2, d1, u⟩ := h
    cases q
    subst e1
    cases e
    have h1' : ∀ b, ¬ Φ1 b := h1
    exact ⟨v, vs', Ψ, Φ2, rfl, r, h2, by grind, by grind⟩
  | x :: ts, vs, Φ, Ψ, i + 1, t, v, h, q, e, r, d => by
    obtain ⟨v', vs', Φ1, Φ2, e1, h1, h2, d1, u⟩ := h
    subst e1
    have := RepL.put ts (i := i) (t := t) (v := v) (Ψ := Ψ) h2 (by simpa using q) (by simpa using e) r (by grind)
    exact ⟨v', vs', Φ1, fun b => Ψ b ∨ Φ2 b, rfl, h1, this, by grind, by grind⟩
theorem RepL.append : ∀ (ts : List Tr) {us : List Tr} {vs ws : List V} {Φ Ψ : Ps}, RepL K Z H m ts vs Φ → RepL K Z H m us ws Ψ → (∀ b, ¬ (Φ b ∧ Ψ b)) → RepL K Z H m (ts ++ us) (vs ++ ws) (fun b => Φ b ∨ Ψ b)
  | [], us, vs, ws, Φ, Ψ, h, r, d => by
    obtain ⟨rfl, h2⟩ := h
    exact r.cast us (by grind)
  | t :: ts, us, vs, ws, Φ, Ψ, h, r, d => by
    obtain ⟨v, vs', Φ1, Φ2, e1, h1, h2, d1, u⟩ := h
    subst e1
    exact ⟨v, vs' ++ ws, Φ1, fun b => Φ2 b ∨ Ψ b, rfl, h1, RepL.append ts h2 r (by grind), by grind, by grind⟩
theorem RepL.split : ∀ (ts : List Tr) {us : List Tr} {vs : List V} {Φ : Ps}, RepL K Z H m (ts ++ us) vs Φ → ∃ v1 v2 Φ1 Φ2, vs = v1 ++ v2 ∧ RepL K Z H m ts v1 Φ1 ∧ RepL K Z H m us v2 Φ2 ∧ (∀ b, ¬ (Φ1 b ∧ Φ2 b)) ∧ ∀ b, Φ b ↔ Φ1 b ∨ Φ2 b
  | [], us, vs, Φ, h => ⟨[], vs, fun _ => False, Φ, rfl, ⟨rfl, fun _ h => h⟩, h, by grind, by grind⟩
  | t :: ts, us, vs, Φ, h => by
    obtain ⟨v, vs', Φ1, Φ2, e1, h1, h2, d1, u⟩ := h
    obtain ⟨v1, v2, Θ1, Θ2, e, r1, r2, d, u2⟩ := RepL.split ts h2
    subst e1 e
    exact ⟨v :: v1, v2, fun b => Φ1 b ∨ Θ1 b, Θ2, rfl, ⟨v, v1, Φ1, Θ1, rfl, h1, r1, by grind, fun _ => Iff.rfl⟩, r2, by grind, by grind⟩
theorem escL_all : ∀ {ts : List Tr}, escL ts = true ↔ ∀ t ∈ ts, esc t = true
  | [] => by simp [escL]
  | t :: ts => by simp [escL, escL_all (ts := ts)]
theorem escL_set {ts : List Tr} (h : escL ts = true) (e : esc t = true) : escL (ts.set i t) = true := by
  rw [escL_all] at h ⊢
  intro x hx
  rcases List.mem_or_eq_of_mem_set hx with z | z
  · exact h x z
  · rw [z]; exact e
/-! paths -/
def getP : List Tr → List Nat → Option Tr
  | _, [] => none
  | ts, [i] => ts[i]?
  | ts, i :: j :: p => match ts[i]? with
    | some (.nd .tup _ _) => none
    | some (.nd _ .own us) => getP us (j :: p)
    | _ => none
def setP : List Tr → List Nat → Tr → List Tr
  | ts, [], _ => ts
  | ts, [i], t => ts.set i t
  | ts, i :: j :: p, t => match ts[i]? with
    | some (.nd k o us) => ts.set i (.nd k o (setP us (j :: p) t))
    | _ => ts
theorem relV_ex : ∀ v : V, ∃ u, RelV v u
  | .non => ⟨_, rfl⟩
  | .bl _ => ⟨_, rfl⟩
  | .int i => ⟨.int i 0, 0, rfl⟩
  | .str x => ⟨.str x 0, 0, rfl⟩
  | .byt b => ⟨.bytes b 0, 0, rfl⟩
  | .flt b => ⟨.float b 0, 0, rfl⟩
  | .ref _ => ⟨_, rfl⟩
  | .ty _ => ⟨_, rfl⟩
theorem relV_inj : ∀ {v v' : V} {u : Value}, RelV v u → RelV v' u → v = v' := by
  intro v v' u h h'
  cases v <;> cases v' <;> simp only [RelV] at h h' <;> grind
abbrev DR : List Key × Addr × V → List Key × Addr × Value → Prop := fun p q => p.1 = q.1 ∧ p.2.1 = q.2.1 ∧ RelV p.2.2 q.2.2
theorem dr_ex : ∀ l : List (List Key × Addr × V), ∃ xs, Paired DR l xs
  | [] => ⟨[], .nil⟩
  | p :: l => by
    obtain ⟨u, hu⟩ := relV_ex p.2.2
    obtain ⟨xs, h⟩ := dr_ex l
    exact ⟨(p.1, p.2.1, u) :: xs, .cons ⟨rfl, rfl, hu⟩ h⟩
theorem dr_inj {P P' : Program} {w w' : World} {l : List (List Key × Addr × V)} {xs : List (List Key × Addr × Value)} (h : Paired DR l xs) : ∀ {l' : List (List Key × Addr × V)} {xs' : List (List Key × Addr × Value)}, Paired DR l' xs' →
    xs.map (entryOfKey (tupleKind (mixKind P w))) = xs'.map (entryOfKey (tupleKind (mixKind P' w'))) → l.map (·.2.2) = l'.map (·.2.2) := by
  induction h with
  | nil =>
    intro l' xs' h' e
    cases h' with
    | nil => rfl
    | cons _ _ => cases e
  | cons a t ih =>
    intro l' xs' h' e
    cases h' with
    | nil => cases e
    | cons a' t' =>
      rw [List.map_cons, List.map_cons] at e
      have e1 := (List.cons.inj e).1
      have e2 := (List.cons.inj e).2
      have e3 := congrArg DictEntry.val e1
      simp only [entryOfKey] at e3
      rw [List.map_cons, List.map_cons, ih t' e2, relV_inj a.2.2 (e3 ▸ a'.2.2)]
theorem dphi_inj {P P' : Program} {w w' : World} {a : Addr} {l l' : List (List Key × Addr × V)} (e : dphi P w a l = dphi P' w' a l') : l.map (·.2.2) = l'.map (·.2.2) := by
  obtain ⟨xs, h⟩ := dr_ex l
  let o : Obj := { cls := .type "dict", data := .dict (xs.map (entryOfKey (tupleKind (mixKind P w)))).toArray 0 }
  let hp : Heap := ⟨Array.replicate (a + 1) o, {}⟩
  have hg : hp.get? a = some o := by
    unfold Heap.get?
    have : hp.objs[a]? = some o := by
      show (Array.replicate (a + 1) o)[a]? = some o
      rw [Array.getElem?_replicate, if_pos (by omega)]
    rw [this]
  have h1 : dphi P w a l hp := ⟨xs, h, o, _, _, hg, ⟨rfl, rfl, rfl⟩, rfl, by simp⟩
  rw [e] at h1
  obtain ⟨xs', h', o', es, ep, hg', _, hd, he⟩ := h1
  rw [hg] at hg'
  cases hg'
  have hd : Data.dict (xs.map (entryOfKey (tupleKind (mixKind P w)))).toArray 0 = Data.dict es ep := hd
  injection hd with hd1 _
  subst hd1
  exact dr_inj h h' (by simpa using he)
def Kids (H : Hp) (v : V) (vs : List V) : Prop := ∃ a, v = .ref a ∧ (H a = some (.lst vs) ∨ (∃ C dx ns, H a = some (.ins C dx (List.zip ns vs)) ∧ ns.length = vs.length) ∨ (∃ ks, H a = some (.dK (List.zip ks vs)) ∧ ks.length = vs.length) ∨
  (∃ P w l, H a = some (.ext (dphi P w a l)) ∧ l.map (·.2.2) = vs) ∨ ∃ S n, H a = some (.set S n) ∧ vs = [])
theorem Kids.fn (h : Kids H v vs) (h' : Kids H v us) : vs = us := by
  obtain ⟨a, e, h⟩ := h
  obtain ⟨b, e', h'⟩ := h'
  subst e
  cases e'
  have key : ∀ {α : Type} {x y : List α} {p q : List V}, x.zip p = y.zip q → x.length = p.length → y.length = q.length → p = q := by
    intro α x y p q e h1 h2
    have e1 := congrArg (List.map Prod.snd) e
    rwa [List.map_snd_zip (by omega), List.map_snd_zip (by omega)] at e1
  rcases h with h | ⟨C, dx, ns, h, l⟩ | ⟨ks, h, l⟩ | ⟨P, w, m, h, l⟩ | ⟨S, n, h, l⟩ <;> rcases h' with h' | ⟨C', dx', ns', h', l'⟩ | ⟨ks', h', l'⟩ | ⟨P', w', m', h', l'⟩ | ⟨S', n', h', l'⟩ <;> rw [h] at h' <;> first
    | exact HO.noConfusion (Option.some.inj h')
    | exact HO.lst.inj (Option.some.inj h')
    | exact key (HO.ins.inj (Option.some.inj h')).2.2 l l'
    | exact key (HO.dK.inj (Option.some.inj h')) l l'
    | rw [l, l']
    | exact l.symm.trans ((dphi_inj (HO.ext.inj (Option.some.inj h'))).trans l')
def Raw (H : Hp) : List V → List Nat → V → Prop
  | _, [], _ => False
  | vs, [i], w => vs[i]? = some w
  | vs, i :: j :: p, w => ∃ v us, vs[i]? = some v ∧ Kids H v us ∧ Raw H us (j :: p) w
theorem Raw.fn : ∀ {p : List Nat} {vs : List V} {w w' : V}, Raw H vs p w → Raw H vs p w' → w = w'
  | [], _, _, _, h, _ => h.elim
  | [i], vs, w, w', h, h' => by
    have h1 : vs[i]? = some w := h
    have h2 : vs[i]? = some w' := h'
    rw [h1] at h2
    exact Option.some.inj h2
  | i :: j :: p, vs, w, w', h, h' => by
    obtain ⟨v, us, e, k1, r⟩ := h
    obtain ⟨v', us', e', k2, r'⟩ := h'
    rw [e] at e'
    cases e'
    cases k1.fn k2
    exact Raw.fn r r'
theorem objKids (h : ObjAt K k .own H a vs) (hk : k ≠ .tup) : Kids H (.ref a) vs := by
  cases k with
  | tup => exact absurd rfl hk
  | lst => exact ⟨a, rfl, .inl h⟩
  | ins n j =>
    obtain ⟨l, dx, e⟩ := h
    exact ⟨a, rfl, .inr (.inl ⟨_, dx, _, e, l⟩)⟩
  | dct ks => exact ⟨a, rfl, .inr (.inr (.inl ⟨ks, h.2, h.1⟩))⟩
  | dcT ks =>
    obtain ⟨bs, h1, h2, _, _, _, _, h7⟩ := h
    refine ⟨a, rfl, .inr (.inr (.inr (.inl ⟨_, _, _, h7, ?_⟩)))⟩
    rw [show (fun p : List Key × Addr × V => p.2.2) = Prod.snd ∘ Prod.snd from rfl, ← List.map_map, List.map_snd_zip (by simp; omega), List.map_snd_zip (by omega)]
  | sti l => exact ⟨a, rfl, .inr (.inr (.inr (.inr ⟨_, _, h.2.2, h.1⟩)))⟩
theorem Kids.fr (h : Kids H (.ref a) vs) (hk : ∀ ob, H a = some ob → H' a = some ob) : Kids H' (.ref a) vs := by
  obtain ⟨b, e, h⟩ := h
  cases e
  refine ⟨a, rfl, ?_⟩
  rcases h with h | ⟨C, dx, ns, h, l⟩ | ⟨ks, h, l⟩ | ⟨P, w, m, h, l⟩ | ⟨S, n, h, l⟩
  · exact .inl (hk _ h)
  · exact .inr (.inl ⟨C, dx, ns, hk _ h, l⟩)
  · exact .inr (.inr (.inl ⟨ks, hk _ h, l⟩))
  · exact .inr (.inr (.inr (.inl ⟨P, w, m, hk _ h, l⟩)))
  · exact .inr (.inr (.inr (.inr ⟨S, n, hk _ h, l⟩)))
/-- q does not lead into what stands at p -/
def nbel : List Nat → List Nat → Bool
  | [], [] => true
  | [], _ :: _ => false
  | _, [] => true
  | i :: p, j :: q => if i = j then nbel p q else true
theorem getP_cons {j : Nat} {p : List Nat} (h : getP ts (i :: j :: p) = some t) : ∃ k us, ts[i]? = some (.nd k .own us) ∧ k ≠ .tup ∧ getP us (j :: p) = some t := by
  simp only [getP] at h
  split at h
  · cases h
  · rename_i k us hne e
    exact ⟨_, _, e, fun hk => hne hk, h⟩
  · cases h
end
section
variable {K : KC} {Z Z' : Zn} {H H' : Hp} {m : Ow} {t t' : Tr} {ts : List Tr} {v w : V} {vs us : List V} {Φ Ψ : Ps} {a : Addr} {k : Nk} {o : Ow} {i : Nat}
theorem Nod.own (h : Nod Z k .own a ts Ψ Φ) (hk : k ≠ .tup) : (∀ b, Φ b ↔ b = a ∨ Ψ b) ∧ ¬ Ψ a ∧ escL ts = true := by
  cases k <;> first | exact absurd rfl hk | exact h
theorem Nod.mk (hk : k ≠ .tup) (h1 : ∀ b, Φ b ↔ b = a ∨ Ψ b) (h2 : ¬ Ψ a) (h3 : escL ts = true) : Nod Z k .own a ts Ψ Φ := by
  cases k <;> first | exact absurd rfl hk | exact ⟨h1, h2, h3⟩
/-- the addresses on the way to q, where a path of own things leads there -/
theorem Raw.keep : ∀ {q : List Nat} {ts : List Tr} {vs : List V} {Φ : Ps} {w : V}, RepL K Z H .own ts vs Φ → (getP ts q).isSome = true → Raw H vs q w → (∀ b ob, Φ b → H b = some ob → H' b = some ob) → Raw H' vs q w
  | [], _, _, _, _, _, _, r, _ => r
  | [i], _, _, _, _, _, _, r, _ => r
  | i :: j :: p, ts, vs, Φ, w, h, g, r, kp => by
    obtain ⟨t, g⟩ := Option.isSome_iff_exists.mp g
    obtain ⟨k, us, e, hk, g⟩ := getP_cons g
    obtain ⟨v, us', e2, kd, r⟩ := r
    obtain ⟨v', Φ1, Φ2, e3, r1, d, u, _⟩ := h.at_ ts e
    rw [e2] at e3
    cases e3
    obtain ⟨a, vs2, Ψ, rfl, ho, hl, hn⟩ := r1
    have ho : ObjAt K k .own H a vs2 := ho
    have hl : RepL K Z H .own us vs2 Ψ := hl
    have hn : Nod Z k .own a us Ψ Φ1 := hn
    cases (objKids ho hk).fn kd
    have hn := hn.own hk
    exact ⟨_, _, e2, kd.fr (kp a · (by grind)), Raw.keep hl (by rw [g]; rfl) r fun b ob hb => kp b ob (by grind)⟩
theorem escL_setP (ht : esc t = true) : ∀ (p : List Nat) (us : List Tr), escL us = true → escL (setP us p t) = true
  | [], us, h => by simpa [setP] using h
  | [i], us, h => by simp only [setP]; exact escL_set h ht
  | i :: j :: p, us, h => by
    simp only [setP]
    split
    · rename_i k o us2 e
      refine escL_set h ?_
      have h1 := escL_all.mp h _ (List.mem_of_getElem? e)
      have ih := escL_setP ht (j :: p) us2
      cases k <;> cases o <;> simp_all [esc]
    · exact h
theorem RepL.path : ∀ {p : List Nat} {ts : List Tr} {vs : List V} {Φ : Ps} {t : Tr}, RepL K Z H .own ts vs Φ → getP ts p = some t → ∃ w Φ1 Φ2, Raw H vs p w ∧ Rep K Z H .own t w Φ1 ∧ (∀ b, ¬ (Φ1 b ∧ Φ2 b)) ∧ (∀ b, Φ b ↔ Φ1 b ∨ Φ2 b) ∧
    RepL K Z H .own (setP ts p .any) vs Φ2 ∧
    (∀ q w' H', nbel p q = true → (getP ts q).isSome = true → Raw H vs q w' → (∀ b ob, ¬ Φ1 b → H b = some ob → H' b = some ob) → Raw H' vs q w')
  | [], _, _, _, _, _, g => by simp [getP] at g
  | [i], ts, vs, Φ, t, h, g => by
    obtain ⟨v, Φ1, Φ2, e, r, d, u, r2, _⟩ := h.at_ ts (i := i) g
    refine ⟨v, Φ1, Φ2, e, r, d, u, r2, fun q w' H' nb gq rq kp => ?_⟩
    match q with
    | [] => exact rq
    | [j] => exact rq
    | j :: j2 :: q =>
      have hij : i ≠ j := by
        intro e
        subst e
        simp [nbel] at nb
      have g2 : (getP (ts.set i .any) (j :: j2 :: q)).isSome = true := by
        obtain ⟨t2, gq⟩ := Option.isSome_iff_exists.mp gq
        obtain ⟨k, us, e, hk, g⟩ := getP_cons gq
        unfold getP at gq ⊢
        rw [List.getElem?_set_ne hij, gq]
        rfl
      exact Raw.keep r2 g2 rq fun b ob hb => kp b ob (by grind)
  | i :: j :: p, ts, vs, Φ, t, h, g => by
    obtain ⟨k, us, e, hk, g⟩ := getP_cons g
    obtain ⟨v, Φ1, Φ2, e2, r, d, u, r2, _⟩ := h.at_ ts e
    obtain ⟨a, vs2, Ψ, rfl, ho, hl, hn⟩ := r
    have ho : ObjAt K k .own H a vs2 := ho
    have hl : RepL K Z H .own us vs2 Ψ := hl
    have hn : Nod Z k .own a us Ψ Φ1 := hn
    have hn := hn.own hk
    obtain ⟨w, Θ1, Θ2, raw, rt, d2, u2, rs, st⟩ := RepL.path hl g
    have kd := objKids ho hk
    have hset : setP ts (i :: j :: p) .any = ts.set i (.nd k .own (setP us (j :: p) .any)) := by simp only [setP, e]
    have hes : escL (setP us (j :: p) .any) = true := by
      exact escL_setP rfl _ _ hn.2.2
    refine ⟨w, Θ1, fun b => Φ2 b ∨ b = a ∨ Θ2 b, ⟨_, _, e2, kd, raw⟩, rt, by grind, by grind, ?_, fun q w' H' nb gq rq kp => ?_⟩
    · rw [hset]
      have r3 := r2.put (ts := ts.set i .any) (i := i) (t := .nd k .own (setP us (j :: p) .any)) (v := .ref a) (Ψ := fun b => b = a ∨ Θ2 b) (by rw [List.getElem?_set_self (getq_lt' e)]) e2 ⟨a, vs2, Θ2, rfl, ho, rs, .mk hk (fun _ => Iff.rfl) (by grind) hes⟩ (by grind)
      rw [List.set_set] at r3
      exact r3.cast _ (by grind)
    · match q with
      | [] => exact rq
      | [_] => exact rq
      | i2 :: j2 :: q =>
        by_cases hi : i = i2
        · subst hi
          have nb : nbel (j :: p) (j2 :: q) = true := by simpa [nbel] using nb
          obtain ⟨t2, gq⟩ := Option.isSome_iff_exists.mp gq
          obtain ⟨k', us', e', hk', gq⟩ := getP_cons gq
          rw [e] at e'
          cases e'
          obtain ⟨v', us2, e3, kd2, rq⟩ := rq
          rw [e2] at e3
          cases e3
          cases kd.fn kd2
          exact ⟨_, _, e2, kd.fr (kp a · (by grind)), st (j2 :: q) w' H' nb (by rw [gq]; rfl) rq kp⟩
        · have g2 : (getP (ts.set i .any) (i2 :: j2 :: q)).isSome = true := by
            obtain ⟨t2, gq⟩ := Option.isSome_iff_exists.mp gq
            unfold getP at gq ⊢
            rw [List.getElem?_set_ne hi, gq]
            rfl
          exact Raw.keep r2 g2 rq fun b ob hb => kp b ob (by grind)
/-- something comes to a place, at the end of a path, that is known to be nothing -/
theorem RepL.putP : ∀ {p : List Nat} {ts : List Tr} {vs : List V} {Φ Ψ : Ps} {t : Tr} {w : V}, RepL K Z H .own ts vs Φ → getP ts p = some .any → Raw H vs p w → Rep K Z H .own t w Ψ → (∀ b, ¬ (Ψ b ∧ Φ b)) → esc t = true → RepL K Z H .own (setP ts p t) vs (fun b => Ψ b ∨ Φ b)
  | [], _, _, _, _, _, _, _, g, _, _, _, _ => by simp [getP] at g
  | [i], ts, vs, Φ, Ψ, t, w, h, g, r, rt, d, _ => h.put ts (i := i) g r rt d
  | i :: j :: p, ts, vs, Φ, Ψ, t, w, h, g, r, rt, d, he => by
    obtain ⟨k, us, e, hk, g⟩ := getP_cons g
    obtain ⟨v, Φ1, Φ2, e2, r1, d1, u, r2, _⟩ := h.at_ ts e
    obtain ⟨a, vs2, Ψ', rfl, ho, hl, hn⟩ := r1
    have ho : ObjAt K k .own H a vs2 := ho
    have hl : RepL K Z H .own us vs2 Ψ' := hl
    have hn : Nod Z k .own a us Ψ' Φ1 := hn
    have hn := hn.own hk
    obtain ⟨v', us2, e3, kd, raw⟩ := r
    rw [e2] at e3
    cases e3
    cases (objKids ho hk).fn kd
    have r3 := RepL.putP hl g raw rt (by grind) he
    have hset : setP ts (i :: j :: p) t = ts.set i (.nd k .own (setP us (j :: p) t)) := by simp only [setP, e]
    rw [hset]
    have r4 := r2.put (ts := ts.set i .any) (i := i) (t := .nd k .own (setP us (j :: p) t)) (v := .ref a) (Ψ := fun b => b = a ∨ Ψ b ∨ Ψ' b) (by rw [List.getElem?_set_self (getq_lt' e)]) e2 ⟨a, vs2, fun b => Ψ b ∨ Ψ' b, rfl, ho, r3, .mk hk (fun _ => Iff.rfl) ?_ (escL_setP he _ _ hn.2.2)⟩ ?_
    · rw [List.set_set] at r4
      exact r4.cast _ (by grind)
    · intro q
      rcases q with q | q
      · exact d a ⟨q, by grind⟩
      · exact hn.2.1 q
    · grind
theorem getP_setP_same : ∀ {p : List Nat} {ts : List Tr}, (getP ts p).isSome = true → getP (setP ts p t) p = some t
  | [], _, g => by simp [getP] at g
  | [i], ts, g => by
    obtain ⟨x, g⟩ := Option.isSome_iff_exists.mp g
    show (ts.set i t)[i]? = some t
    rw [List.getElem?_set_self (getq_lt' (show ts[i]? = some x from g))]
  | i :: j :: p, ts, g => by
    obtain ⟨x, g⟩ := Option.isSome_iff_exists.mp g
    obtain ⟨k, us, e, hk, g⟩ := getP_cons g
    simp only [setP, e]
    unfold getP
    rw [List.getElem?_set_self (getq_lt' e)]
    have := getP_setP_same (p := j :: p) (ts := us) (by rw [g]; rfl)
    cases k <;> simp_all
theorem getP_setP : ∀ {p q : List Nat} {ts : List Tr}, nbel p q = true → (getP ts q).isSome = true → (getP (setP ts p t) q).isSome = true
  | _, [], ts, _, g => by simp [getP] at g
  | [], q, ts, _, g => by simpa [setP] using g
  | [i], j :: q, ts, nb, g => by
    by_cases e : i = j
    · subst e
      match q, nb, g with
      | [], _, g =>
        obtain ⟨x, g⟩ := Option.isSome_iff_exists.mp g
        show ((ts.set i t)[i]?).isSome = true
        rw [List.getElem?_set_self (getq_lt' (show ts[i]? = some x from g))]
        rfl
      | _ :: _, nb, _ => simp [nbel] at nb
    · match q, nb, g with
      | [], _, g =>
        show ((ts.set i t)[j]?).isSome = true
        rw [List.getElem?_set_ne e]
        exact g
      | _ :: _, _, g =>
        simp only [setP]
        unfold getP at g ⊢
        rw [List.getElem?_set_ne e]
        exact g
  | i :: i2 :: p, j :: q, ts, nb, g => by
    simp only [setP]
    split
    · rename_i k o us e
      by_cases hij : i = j
      · subst hij
        match q, nb, g with
        | [], _, g =>
          show ((ts.set i _)[i]?).isSome = true
          rw [List.getElem?_set_self (getq_lt' e)]
          rfl
        | j2 :: q, nb, g =>
          obtain ⟨x, g⟩ := Option.isSome_iff_exists.mp g
          obtain ⟨k', us', e', hk, g⟩ := getP_cons g
          rw [e] at e'
          cases e'
          have nb : nbel (i2 :: p) (j2 :: q) = true := by simpa [nbel] using nb
          have ih := getP_setP (p := i2 :: p) (q := j2 :: q) (ts := us) nb (by rw [g]; rfl)
          unfold getP
          rw [List.getElem?_set_self (getq_lt' e)]
          cases k <;> simp_all
      · match q, g with
        | [], g =>
          show ((ts.set i _)[j]?).isSome = true
          rw [List.getElem?_set_ne hij]
          exact g
        | _ :: _, g =>
          unfold getP at g ⊢
          rw [List.getElem?_set_ne hij]
          exact g
    · exact g
/-- a path through nothing changed -/
theorem setP_setP {t' : Tr} : ∀ {p : List Nat} {ts : List Tr}, setP (setP ts p t) p t' = setP ts p t'
  | [], _ => rfl
  | [i], ts => by simp [setP]
  | i :: j :: p, ts => by
    cases e : ts[i]? with
    | none => simp only [setP, e]
    | some x =>
      cases x with
      | nd k o us =>
        simp only [setP, e, List.getElem?_set_self (getq_lt' e)]
        rw [List.set_set, setP_setP]
      | any => simp only [setP, e]
      | a v => simp only [setP, e]
end
inductive Ent | no | tr (t : Tr) | al (p : List Nat)
def Ent.tree : Ent → Tr
  | .tr t => t
  | _ => .any
def getT : Tr → List Nat → Option Tr
  | t, [] => some t
  | .nd .tup _ _, _ :: _ => none
  | .nd _ .own us, j :: p => match us[j]? with
    | some y => getT y p
    | none => none
  | _, _ :: _ => none
def setT : Tr → List Nat → Tr → Tr
  | _, [], x => x
  | .nd k o us, j :: p, x => match us[j]? with
    | some y => .nd k o (us.set j (setT y p x))
    | none => .nd k o us
  | t, _ :: _, _ => t
def getG (Γ : List Ent) : List Nat → Option Tr
  | [] => none
  | i :: p => match Γ[i]? with
    | some (.tr t) => getT t p
    | _ => none
def setG (Γ : List Ent) : List Nat → Tr → List Ent
  | [], _ => Γ
  | i :: p, x => match Γ[i]? with
    | some (.tr t) => Γ.set i (.tr (setT t p x))
    | _ => Γ
/-- an alias that leads into what stands at p is forgotten -/
def killE (p : List Nat) : Ent → Ent
  | .al q => if nbel p q = true then .al q else .no
  | e => e
abbrev trees (Γ : List Ent) : List Tr := Γ.map Ent.tree
section
variable {K : KC} {Z Z' : Zn} {H H' : Hp} {m : Ow} {t t' : Tr} {ts : List Tr} {v w : V} {vs us ws : List V} {Φ Ψ : Ps} {a : Addr} {k : Nk} {o : Ow} {i : Nat} {p q : List Nat} {Γ τ : List Ent} {σ : St}
theorem set_same {α : Type} : ∀ {l : List α} {i : Nat} {x : α}, l[i]? = some x → l.set i x = l
  | [], _, _, h => by simp at h
  | y :: l, 0, x, h => by cases h; rfl
  | y :: l, i + 1, x, h => by rw [List.set_cons_succ, set_same (by simpa using h)]
theorem getP_getT : ∀ {p : List Nat} {i : Nat} {ts : List Tr} {t : Tr}, ts[i]? = some t → getP ts (i :: p) = getT t p
  | [], i, ts, t, e => by simp [getP, getT, e]
  | j :: p, i, ts, t, e => by
    unfold getP
    rw [e]
    cases t with
    | any => simp [getT]
    | a v => simp [getT]
    | nd k o us =>
      have key : getP us (j :: p) = match us[j]? with
          | some y => getT y p
          | none => none := by
        cases e2 : us[j]? with
        | none => cases p <;> simp [getP, e2]
        | some y => exact getP_getT e2
      cases k <;> cases o <;> simp_all [getT]
theorem setP_setT : ∀ {p : List Nat} {i : Nat} {ts : List Tr} {t x : Tr}, ts[i]? = some t → setP ts (i :: p) x = ts.set i (setT t p x)
  | [], i, ts, t, x, e => by simp [setP, setT]
  | j :: p, i, ts, t, x, e => by
    simp only [setP, e]
    cases t with
    | any => simp only [setT]; rw [set_same e]
    | a v => simp only [setT]; rw [set_same e]
    | nd k o us =>
      simp only [setT]
      cases e2 : us[j]? with
      | none =>
        simp only []
        congr 2
        have : us.length ≤ j := List.getElem?_eq_none_iff.mp e2
        cases p with
        | nil => simp only [setP]; exact List.set_eq_of_length_le this
        | cons j2 p => simp only [setP, e2]
      | some y =>
        simp only []
        rw [setP_setT e2]
end
/-- what a def was called with: the heap, what it may change, what is frozen, which parameters are its own, their values -/
structure Cz where
  H0 : Hp
  F0 : Ps
  S0 : Ps
  md : List Bool
  vs : List V
def SlotOk (H : Hp) (Γ : List Ent) (ws : List V) (σ : St) (i : Nat) : Ent → Prop
  | .no => True
  | .tr _ => ∃ v, ws[i]? = some v ∧ σ[i]? = some (some v)
  | .al p => ∃ w, σ[i]? = some (some w) ∧ Raw H ws p w ∧ (getG Γ p).isSome = true
structure Ev (K : KC) (c : Cz) (Z : Zn) (ws : List V) (Φ Ψ : Ps) (σ : St) (H : Hp) (Γ τ : List Ent) (us : List V) : Prop where
  sl : RepL K Z H .own (trees Γ) ws Φ
  tm : RepL K Z H .own (trees τ) us Ψ
  dj : ∀ b, ¬ (Φ b ∧ Ψ b)
  so : ∀ (i : Nat) (e : Ent), Γ[i]? = some e → SlotOk H Γ ws σ i e
  to : ∀ (i : Nat) (p : List Nat), τ[i]? = some (Ent.al p) → ∃ w, us[i]? = some w ∧ Raw H ws p w ∧ (getG Γ p).isSome = true
  ln : σ.length = Γ.length
  zo : ∀ b, Φ b ∨ Ψ b → (c.F0 b ∨ c.H0 b = none) ∧ ¬ Z.fz b ∧ ¬ Z.ln b
  zf : ∀ b, Z.fz b → c.S0 b ∨ c.F0 b ∨ c.H0 b = none
  z0 : ∀ b, c.S0 b → Z.fz b
  zs : ∀ b, Z.fz b ∨ Z.ln b → (H b).isSome = true
  st : ∀ b o, c.H0 b = some o → ∃ o', H b = some o' ∧ (¬ c.F0 b → o' = o)
  pv : ∀ i : Nat, c.md[i]? = some true → ws[i]? = c.vs[i]?
def EnvOk (K : KC) (c : Cz) (σ : St) (H : Hp) (Γ τ : List Ent) (us : List V) : Prop := ∃ Z ws Φ Ψ, Ev K c Z ws Φ Ψ σ H Γ τ us
section
variable {K : KC} {Z Z' : Zn} {H H' : Hp} {m : Ow} {t t' : Tr} {ts : List Tr} {v w : V} {vs us ws : List V} {Φ Ψ : Ps} {a : Addr} {k : Nk} {o : Ow} {i : Nat} {p q : List Nat} {Γ τ : List Ent} {σ : St} {c : Cz}
theorem getG_getP (h : (getG Γ p).isSome = true) : getP (trees Γ) p = getG Γ p := by
  cases p with
  | nil => simp [getG] at h
  | cons i p =>
    simp only [getG] at h ⊢
    cases e : Γ[i]? with
    | none => simp [e] at h
    | some x =>
      cases x with
      | no => simp [e] at h
      | al _ => simp [e] at h
      | tr t =>
        simp only []
        exact getP_getT (by simp [e, Ent.tree])
theorem trees_setG (h : (getG Γ p).isSome = true) : trees (setG Γ p t) = setP (trees Γ) p t := by
  cases p with
  | nil => simp [getG] at h
  | cons i p =>
    simp only [getG, setG] at h ⊢
    cases e : Γ[i]? with
    | none => simp [e] at h
    | some x =>
      cases x with
      | no => simp [e] at h
      | al _ => simp [e] at h
      | tr t' =>
        simp only []
        rw [setP_setT (t := t') (by simp [e, Ent.tree])]
        simp [trees, List.map_set, Ent.tree]
mutual
theorem Rep.isS : ∀ (t : Tr) {m : Ow} {v : V} {Φ : Ps}, Rep K Z H m t v Φ → ∀ b, Φ b → (H b).isSome = true
  | .any, _, _, _, h, b, q => absurd q (h b)
  | .a _, _, _, _, h, b, q => absurd q (h.2 b)
  | .nd k o ts, m, v, Φ, h, b, q => by
    obtain ⟨a, vs, Ψ, e, ho, hl, hn⟩ := h
    have ih := RepL.isS ts hl b
    cases k with
    | tup => cases eo : eff m o <;> simp_all [Nod]
    | lst =>
      cases eo : eff m o <;> simp_all [Nod, ObjAt]
      rcases hn with ⟨h1, h2, h3⟩
      rcases q with rfl | q <;> simp_all
    | ins n j =>
      obtain ⟨l, dx, ho⟩ := ho
      cases eo : eff m o <;> simp_all [Nod]
      rcases q with rfl | q <;> simp_all
    | dct ks =>
      cases eo : eff m o <;> simp_all [Nod, ObjAt]
      rcases hn with ⟨h1, h2, h3⟩
      rcases q with rfl | q <;> simp_all
    | dcT ks =>
      obtain ⟨bs, _, _, _, _, _, _, ho⟩ := ho
      cases eo : eff m o <;> simp_all [Nod]
      rcases q with rfl | q <;> simp_all
    | sti l =>
      obtain ⟨_, _, ho⟩ := ho
      cases eo : eff m o <;> simp_all [Nod]
      rcases q with rfl | q <;> simp_all
theorem RepL.isS : ∀ (ts : List Tr) {m : Ow} {vs : List V} {Φ : Ps}, RepL K Z H m ts vs Φ → ∀ b, Φ b → (H b).isSome = true
  | [], _, _, _, h, b, q => absurd q (h.2 b)
  | t :: ts, m, vs, Φ, h, b, q => by
    obtain ⟨v, vs', Φ1, Φ2, e, h1, h2, d, u⟩ := h
    rcases (u b).mp q with z | z
    · exact Rep.isS t h1 b z
    · exact RepL.isS ts h2 b z
end
/-- no tuple is owned -/
def nt' : HO → Bool
  | .tup _ => false
  | .frz _ _ => false
  | _ => true
theorem tsk (h : ∀ b ob, H b = some ob → nt' ob = false → H' b = some ob) : TSK K H H' := fun a xs q => h a _ q rfl
mutual
theorem Rep.nt : ∀ (t : Tr) {m : Ow} {v : V} {Φ : Ps}, Rep K Z H m t v Φ → ∀ b ob, Φ b → H b = some ob → nt' ob = true
  | .any, _, _, _, h, b, _, q, _ => absurd q (h b)
  | .a _, _, _, _, h, b, _, q, _ => absurd q (h.2 b)
  | .nd k o ts, m, v, Φ, h, b, ob, q, hb => by
    obtain ⟨a, vs, Ψ, e, ho, hl, hn⟩ := h
    have ih := RepL.nt ts hl b ob
    cases k with
    | tup => cases eo : eff m o <;> simp_all [Nod]
    | lst =>
      cases eo : eff m o <;> simp_all [Nod, ObjAt]
      rcases q with rfl | q
      · simp_all; subst hb; rfl
      · exact ih q
    | ins n j =>
      obtain ⟨l, dx, ho⟩ := ho
      cases eo : eff m o <;> simp_all [Nod]
      rcases q with rfl | q
      · simp_all; subst hb; rfl
      · exact ih q
    | dct ks =>
      cases eo : eff m o <;> simp_all [Nod, ObjAt]
      rcases q with rfl | q
      · simp_all; subst hb; rfl
      · exact ih q
    | dcT ks =>
      obtain ⟨bs, _, _, _, _, _, _, ho⟩ := ho
      cases eo : eff m o <;> simp_all [Nod]
      rcases q with rfl | q
      · simp_all; subst hb; rfl
      · exact ih q
    | sti l =>
      obtain ⟨_, _, ho⟩ := ho
      cases eo : eff m o <;> simp_all [Nod]
      rcases q with rfl | q
      · simp_all; subst hb; rfl
      · exact ih q
theorem RepL.nt : ∀ (ts : List Tr) {m : Ow} {vs : List V} {Φ : Ps}, RepL K Z H m ts vs Φ → ∀ b ob, Φ b → H b = some ob → nt' ob = true
  | [], _, _, _, h, b, _, q, _ => absurd q (h.2 b)
  | t :: ts, m, vs, Φ, h, b, ob, q, hb => by
    obtain ⟨v, vs', Φ1, Φ2, e, h1, h2, d, u⟩ := h
    rcases (u b).mp q with z | z
    · exact Rep.nt t h1 b ob z hb
    · exact RepL.nt ts h2 b ob z hb
end
/-- the upper temps change: what they own may change, new things may come -/
structure Chg (Z Z' : Zn) (H H' : Hp) (Ψ Ψ' : Ps) : Prop where
  fz : ∀ b, Z.fz b → Z'.fz b
  ln : ∀ b, Z.ln b → Z'.ln b
  fz' : ∀ b, Z'.fz b → Z.fz b ∨ Ψ b ∨ H b = none
  ln' : ∀ b, Z'.ln b → Z.ln b ∨ Ψ b ∨ H b = none
  zs : ∀ b, Z'.fz b ∨ Z'.ln b → (H' b).isSome = true
  ob : ∀ b ob, H b = some ob → ¬ Ψ b → H' b = some ob
  oc : ∀ b, Ψ b → (H' b).isSome = true
  nw : ∀ b, Ψ' b → (Ψ b ∨ H b = none) ∧ ¬ Z'.fz b ∧ ¬ Z'.ln b
theorem Ev.swapX {τ1 τ1' : List Ent} {us1 us1' : List V} {Ψ1 Ψ2 Ψ1' : Ps} (E : Ev K c Z ws Φ Ψ σ H Γ (τ1 ++ τ) (us1 ++ us)) (hl : τ1.length = us1.length) (hal : ∀ e ∈ τ1', ∀ p, e ≠ .al p)
    (r1 : RepL K Z H .own (trees τ1) us1 Ψ1) (r2 : RepL K Z H .own (trees τ) us Ψ2) (d : ∀ b, ¬ (Ψ1 b ∧ Ψ2 b)) (u : ∀ b, Ψ b ↔ Ψ1 b ∨ Ψ2 b)
    (n1 : RepL K Z' H' .own (trees τ1') us1' Ψ1') (ch : Chg Z Z' H H' Ψ1 Ψ1') (hl' : τ1'.length = us1'.length) : EnvOk K c σ H' Γ (τ1' ++ τ) (us1' ++ us) := by
  obtain ⟨sl, tm, dj, so, to, ln, zo, zf, z0, zs, st, pv⟩ := E
  have nt1 := RepL.nt _ r1
  have tp : TSK K H H' := tsk fun b ob e n => ch.ob b ob e fun q => by
    have := nt1 b ob q e
    rw [n] at this
    cases this
  have kpF : Kp K Z Z' H H' Φ := ⟨ch.fz, ch.ln, fun b ob q e => ch.ob b ob e (by grind), tp⟩
  have kpT : Kp K Z Z' H H' Ψ2 := ⟨ch.fz, ch.ln, fun b ob q e => ch.ob b ob e (by grind), tp⟩
  have hsome := RepL.isS _ sl
  have hsome2 := RepL.isS _ r2
  have rk : ∀ {p : List Nat} {w : V}, (getG Γ p).isSome = true → Raw H ws p w → Raw H' ws p w := fun {p w} g r => Raw.keep sl (by rw [getG_getP g]; exact g) r fun b ob hb e => ch.ob b ob e (by grind)
  refine ⟨Z', ws, Φ, fun b => Ψ1' b ∨ Ψ2 b, ⟨RepL.fr _ sl kpF, ?_, ?_, ?_, ?_, ln, ?_, ?_, fun b q => ch.fz b (z0 b q), ch.zs, ?_, pv⟩⟩
  · have := RepL.append _ n1 (RepL.fr _ r2 kpT) (by
      intro b ⟨q1, q2⟩
      have h1 := ch.nw b q1
      have h2 := hsome2 b q2
      rcases h1.1 with z | z
      · exact d b ⟨z, q2⟩
      · rw [z] at h2; cases h2)
    simpa [trees] using this
  · intro b ⟨q1, q2⟩
    have h2 := hsome b q1
    rcases q2 with q2 | q2
    · have h1 := ch.nw b q2
      rcases h1.1 with z | z
      · exact dj b ⟨q1, (u b).mpr (.inl z)⟩
      · rw [z] at h2; cases h2
    · exact dj b ⟨q1, (u b).mpr (.inr q2)⟩
  · intro i e he
    have := so i e he
    cases e with
    | no => trivial
    | tr t => exact this
    | al p =>
      obtain ⟨w, h1, h2, h3⟩ := this
      exact ⟨w, h1, rk h3 h2, h3⟩
  · intro i p hp
    by_cases hi : i < τ1'.length
    · rw [List.getElem?_append_left hi] at hp
      exact absurd rfl (hal _ (List.mem_of_getElem? hp) p)
    · rw [List.getElem?_append_right (by omega)] at hp
      have := to (i - τ1'.length + τ1.length) p (by rw [List.getElem?_append_right (by omega)]; rw [show i - τ1'.length + τ1.length - τ1.length = i - τ1'.length by omega]; exact hp)
      obtain ⟨w, h1, h2, h3⟩ := this
      refine ⟨w, ?_, rk h3 h2, h3⟩
      rw [List.getElem?_append_right (by omega)] at h1 ⊢
      rw [show i - us1'.length = i - τ1'.length + τ1.length - us1.length by omega]
      exact h1
  · intro b q
    rcases q with q | q | q
    · have h1 := zo b (.inl q)
      have h2 := hsome b q
      refine ⟨h1.1, fun z => ?_, fun z => ?_⟩
      · rcases ch.fz' b z with z | z | z
        · exact h1.2.1 z
        · exact dj b ⟨q, (u b).mpr (.inl z)⟩
        · rw [z] at h2; cases h2
      · rcases ch.ln' b z with z | z | z
        · exact h1.2.2 z
        · exact dj b ⟨q, (u b).mpr (.inl z)⟩
        · rw [z] at h2; cases h2
    · have h1 := ch.nw b q
      refine ⟨?_, h1.2⟩
      rcases h1.1 with z | z
      · exact (zo b (.inr ((u b).mpr (.inl z)))).1
      · cases e0 : c.H0 b with
        | none => exact .inr rfl
        | some o0 =>
          obtain ⟨o', h', _⟩ := st b o0 e0
          rw [z] at h'; cases h'
    · have h1 := zo b (.inr ((u b).mpr (.inr q)))
      have h2 := hsome2 b q
      refine ⟨h1.1, fun z => ?_, fun z => ?_⟩
      · rcases ch.fz' b z with z | z | z
        · exact h1.2.1 z
        · exact d b ⟨z, q⟩
        · rw [z] at h2; cases h2
      · rcases ch.ln' b z with z | z | z
        · exact h1.2.2 z
        · exact d b ⟨z, q⟩
        · rw [z] at h2; cases h2
  · intro b z
    rcases ch.fz' b z with z | z | z
    · exact zf b z
    · exact .inr (zo b (.inr ((u b).mpr (.inl z)))).1
    · cases e0 : c.H0 b with
      | none => exact .inr (.inr rfl)
      | some o0 =>
        obtain ⟨o', h', _⟩ := st b o0 e0
        rw [z] at h'; cases h'
  · intro b o0 e0
    obtain ⟨o', h', hn⟩ := st b o0 e0
    by_cases q : Ψ1 b
    · obtain ⟨o2, e2⟩ := Option.isSome_iff_exists.mp (ch.oc b q)
      refine ⟨o2, e2, fun nf => ?_⟩
      rcases (zo b (.inr ((u b).mpr (.inl q)))).1 with z | z
      · exact absurd z nf
      · rw [z] at e0; cases e0
    · exact ⟨o', ch.ob b o' h' q, hn⟩
theorem Ev.swap {τ1 τ1' : List Ent} {us1 us1' : List V} {Ψ1' : Ps} (E : Ev K c Z ws Φ Ψ σ H Γ (τ1 ++ τ) (us1 ++ us)) (hl : τ1.length = us1.length) (hal : ∀ e ∈ τ1', ∀ p, e ≠ .al p)
    (step : ∀ Ψ1, RepL K Z H .own (trees τ1) us1 Ψ1 → RepL K Z' H' .own (trees τ1') us1' Ψ1' ∧ Chg Z Z' H H' Ψ1 Ψ1') (hl' : τ1'.length = us1'.length) : EnvOk K c σ H' Γ (τ1' ++ τ) (us1' ++ us) := by
  have tm' : RepL K Z H .own (trees τ1 ++ trees τ) (us1 ++ us) Ψ := by simpa [trees] using E.tm
  obtain ⟨v1, v2, Ψ1, Ψ2, e, r1, r2, d, u⟩ := RepL.split _ tm'
  have hl1 := RepL.len _ r1
  have hlt : (trees τ1).length = τ1.length := by simp [trees]
  obtain ⟨rfl, rfl⟩ := List.append_inj e (by omega)
  obtain ⟨n1, ch⟩ := step Ψ1 r1
  exact E.swapX hl hal r1 r2 d u n1 ch hl'
end
section
variable {K : KC} {Z Z' : Zn} {H H' : Hp} {m : Ow} {t t' : Tr} {ts : List Tr} {v w : V} {vs us ws : List V} {Φ Ψ : Ps} {a : Addr} {k : Nk} {o : Ow} {i : Nat} {p q : List Nat} {Γ τ : List Ent} {σ : St} {c : Cz} {e : Ent}
mutual
theorem Rep.cp0 : ∀ (t : Tr) {v : V} {Φ : Ps}, Rep K Z H .own t v Φ → cp t = true → ∀ b, ¬ Φ b
  | .any, _, _, h, _ => h
  | .a _, _, _, h, _ => h.2
  | .nd k o ts, v, Φ, h, q => by
    obtain ⟨a, vs, Ψ, _, _, hl, hn⟩ := h
    cases o with
    | own =>
      cases k with
      | tup => 
        have ih := RepL.cp0 ts hl (by simpa [cp] using q)
        have hn : ∀ b, Φ b ↔ Ψ b := hn
        exact fun b z => ih b ((hn b).mp z)
      | _ => simp [cp] at q
    | frz => cases k <;> simp_all [Nod, eff]
    | lnt => cases k <;> simp_all [Nod, eff]
theorem RepL.cp0 : ∀ (ts : List Tr) {vs : List V} {Φ : Ps}, RepL K Z H .own ts vs Φ → cpL ts = true → ∀ b, ¬ Φ b
  | [], _, _, h, _ => h.2
  | t :: ts, vs, Φ, h, q => by
    obtain ⟨v, vs', Φ1, Φ2, _, h1, h2, _, u⟩ := h
    simp only [cpL, Bool.and_eq_true] at q
    intro b z
    rcases (u b).mp z with z | z
    · exact Rep.cp0 t h1 q.1 b z
    · exact RepL.cp0 ts h2 q.2 b z
end
def kill (p : List Nat) (Γ : List Ent) : List Ent := Γ.map (killE p)
/-- every alias of the slot i is forgotten -/
def killR (i : Nat) : Ent → Ent
  | .al q => if q.head? = some i then .no else .al q
  | e => e
theorem trees_kill : trees (kill p Γ) = trees Γ := by
  simp only [trees, kill, List.map_map]
  congr 1
  funext e
  cases e with
  | al q => by_cases h : nbel p q = true <;> simp [killE, h, Ent.tree]
  | _ => rfl
theorem trees_killR : trees (Γ.map (killR i)) = trees Γ := by
  simp only [trees, List.map_map]
  congr 1
  funext e
  cases e with
  | al q => by_cases h : q.head? = some i <;> simp [killR, h, Ent.tree]
  | _ => rfl
theorem kill_at (h : (kill p Γ)[i]? = some e) : ∃ e', Γ[i]? = some e' ∧ e = killE p e' := by
  rw [kill, List.getElem?_map] at h
  cases q : Γ[i]? with
  | none => simp [q] at h
  | some x => exact ⟨x, rfl, by simpa [q, eq_comm] using h⟩
theorem getG_kill : getG (kill p Γ) q = getG Γ q := by
  cases q with
  | nil => rfl
  | cons j q =>
    simp only [getG, kill, List.getElem?_map]
    cases Γ[j]? with
    | none => rfl
    | some x =>
      cases x with
      | al r => by_cases h : nbel p r = true <;> simp [killE, h]
      | _ => rfl
theorem getG_isP (h : (getG Γ p).isSome = true) : (getP (trees Γ) p).isSome = true := by rw [getG_getP h]; exact h
theorem head_tr (h : (getG Γ (i :: p)).isSome = true) : ∃ t, Γ[i]? = some (.tr t) := by
  simp only [getG] at h
  cases e : Γ[i]? with
  | none => simp [e] at h
  | some x =>
    cases x with
    | no => simp [e] at h
    | al _ => simp [e] at h
    | tr t => exact ⟨t, rfl⟩
theorem setG_len : (setG Γ p t).length = Γ.length := by
  cases p with
  | nil => rfl
  | cons i p =>
    simp only [setG]
    split <;> simp
theorem getG_setG (h : (getG Γ q).isSome = true) (hp : (getG Γ p).isSome = true) (nb : nbel p q = true) : (getG (setG Γ p t) q).isSome = true := by
  have h2 := getP_setP (t := t) nb (getG_isP h)
  rw [← trees_setG hp] at h2
  cases q with
  | nil => simp [getG] at h
  | cons j q =>
    obtain ⟨x, hx⟩ := head_tr h
    have : ∃ y, (setG Γ p t)[j]? = some (.tr y) := by
      cases p with
      | nil => exact ⟨x, hx⟩
      | cons i p =>
        obtain ⟨z, hz⟩ := head_tr hp
        simp only [setG, hz]
        by_cases e : i = j
        · subst e
          exact ⟨_, List.getElem?_set_self (getq_lt' hz)⟩
        · exact ⟨x, by rw [List.getElem?_set_ne e]; exact hx⟩
    obtain ⟨y, hy⟩ := this
    have e1 : getP (trees (setG Γ p t)) (j :: q) = getT y q := getP_getT (by simp [trees, hy, Ent.tree])
    simp only [getG, hy]
    rw [← e1]
    exact h2
theorem nbel_any : ∀ {p q : List Nat} {ts : List Tr}, getP ts p = some .any → (getP ts q).isSome = true → nbel p q = true
  | [], _, _, h, _ => by simp [getP] at h
  | _, [], _, _, h => by simp [getP] at h
  | [i], [j], ts, _, _ => by simp [nbel]
  | [i], j :: j2 :: q, ts, h, g => by
    by_cases e : i = j
    · subst e
      have h : ts[i]? = some .any := h
      simp [getP, h] at g
    · simp [nbel, e]
  | i :: i2 :: p, [j], ts, _, _ => by simp [nbel]
  | i :: i2 :: p, j :: j2 :: q, ts, h, g => by
    by_cases e : i = j
    · subst e
      obtain ⟨k, us, e1, hk, h⟩ := getP_cons h
      obtain ⟨x, g⟩ := Option.isSome_iff_exists.mp g
      obtain ⟨k', us', e2, hk', g⟩ := getP_cons g
      rw [e1] at e2
      cases e2
      have := nbel_any h (show (getP us (j2 :: q)).isSome = true by rw [g]; rfl)
      simpa [nbel] using this
    · simp [nbel, e]
theorem setG_at {j : Nat} (h : (setG Γ p t)[j]? = some e) : (∃ x y, Γ[j]? = some (.tr x) ∧ e = .tr y) ∨ Γ[j]? = some e := by
  cases p with
  | nil => exact .inr h
  | cons i p =>
    simp only [setG] at h
    split at h
    · rename_i x hx
      by_cases q : i = j
      · subst q
        rw [List.getElem?_set_self (getq_lt' hx)] at h
        exact .inl ⟨x, _, hx, (Option.some.inj h).symm⟩
      · rw [List.getElem?_set_ne q] at h
        exact .inr h
    · exact .inr h
/-- what stands at a place is taken out and held by hand -/
theorem EnvOk.ext (E : EnvOk K c σ H Γ (.al p :: τ) (w :: us)) (g : getG Γ p = some t) : EnvOk K c σ H (kill p (setG Γ p .any)) (.tr t :: .al p :: kill p τ) (w :: w :: us) := by
  obtain ⟨Z, ws, Φ, Ψ, sl, tm, dj, so, to, ln, zo, zf, z0, zs, st, pv⟩ := E
  have gs : (getG Γ p).isSome = true := by rw [g]; rfl
  have g2 : getP (trees Γ) p = some t := by rw [getG_getP gs, g]
  obtain ⟨w', Φ1, Φ2, raw, r, d, u, r2, _⟩ := RepL.path sl g2
  obtain ⟨w0, e0, raw0, _⟩ := to 0 p rfl
  have e0 : w = w0 := Option.some.inj e0
  subst e0
  cases raw.fn raw0
  obtain ⟨v0, vs0, Θ1, Θ2, e1, a1, a2, ad, au⟩ := tm
  cases e1
  have a1 : ∀ b, ¬ Θ1 b := a1
  have npp : ∀ {p : List Nat}, nbel p p = true := by
    intro p
    induction p with
    | nil => rfl
    | cons i p ih => simp [nbel, ih]
  refine ⟨Z, ws, Φ2, fun b => Φ1 b ∨ Ψ b, ⟨?_, ?_, by grind, ?_, ?_, ?_, by grind, zf, z0, zs, st, pv⟩⟩
  · rw [trees_kill, trees_setG gs]
    exact r2
  · refine ⟨w, _, Φ1, Ψ, rfl, r, ⟨w, us, Θ1, Θ2, rfl, a1, ?_, ad, au⟩, by grind, fun _ => Iff.rfl⟩
    show RepL K Z H .own (trees (kill p τ)) us Θ2
    rw [trees_kill]
    exact a2
  · intro j e he
    obtain ⟨e', he', rfl⟩ := kill_at he
    rcases setG_at he' with ⟨x, y, hx, rfl⟩ | he'
    · exact so j _ hx
    · have h1 := so j e' he'
      cases e' with
      | no => trivial
      | tr x => exact h1
      | al q =>
        obtain ⟨w1, s1, s2, s3⟩ := h1
        by_cases nb : nbel p q = true
        · simp only [killE, nb, if_true]
          exact ⟨w1, s1, s2, by rw [getG_kill]; exact getG_setG s3 gs nb⟩
        · simp only [killE, nb]
          trivial
  · intro j q hj
    match j with
    | 0 => simp at hj
    | 1 =>
      simp at hj
      subst hj
      exact ⟨w, rfl, raw, by rw [getG_kill]; exact getG_setG gs gs npp⟩
    | j + 2 =>
      have hj : (kill p τ)[j]? = some (.al q) := by simpa using hj
      obtain ⟨e', he', hk⟩ := kill_at hj
      cases e' with
      | no => simp [killE] at hk
      | tr _ => simp [killE] at hk
      | al r =>
        by_cases nb : nbel p r = true
        · simp only [killE, nb, if_true] at hk
          cases hk
          obtain ⟨w1, s1, s2, s3⟩ := to (j + 1) q (by simpa using he')
          exact ⟨w1, by simpa using s1, s2, by rw [getG_kill]; exact getG_setG s3 gs nb⟩
        · simp [killE, nb] at hk
  · rw [ln]; simp [kill, setG_len]
/-- it is put back -/
theorem EnvOk.back (E : EnvOk K c σ H Γ (.tr t :: .al p :: τ) (w :: w :: us)) (g : getG Γ p = some .any) (he : esc t = true) : EnvOk K c σ H (setG Γ p t) (.al p :: τ) (w :: us) := by
  obtain ⟨Z, ws, Φ, Ψ, sl, tm, dj, so, to, ln, zo, zf, z0, zs, st, pv⟩ := E
  have gs : (getG Γ p).isSome = true := by rw [g]; rfl
  have g2 : getP (trees Γ) p = some .any := by rw [getG_getP gs, g]
  obtain ⟨w0, e0, raw0, _⟩ := to 1 p rfl
  have e0 : w = w0 := Option.some.inj e0
  subst e0
  obtain ⟨v0, vs0, Θ1, Θ2, e1, a1, a2, ad, au⟩ := tm
  cases e1
  have r3 := RepL.putP sl g2 raw0 a1 (by grind) he
  have nb : ∀ {q : List Nat}, (getG Γ q).isSome = true → nbel p q = true := fun h => nbel_any g2 (getG_isP h)
  refine ⟨Z, ws, fun b => Θ1 b ∨ Φ b, Θ2, ⟨by rw [trees_setG gs]; exact r3, a2, by grind, ?_, ?_, by rw [ln]; simp [setG_len], by grind, zf, z0, zs, st, pv⟩⟩
  · intro j e he
    rcases setG_at he with ⟨x, y, hx, rfl⟩ | he'
    · exact so j _ hx
    · have h1 := so j e he'
      cases e with
      | no => trivial
      | tr x => exact h1
      | al q =>
        obtain ⟨w1, s1, s2, s3⟩ := h1
        exact ⟨w1, s1, s2, getG_setG s3 gs (nb s3)⟩
  · intro j q hj
    obtain ⟨w1, s1, s2, s3⟩ := to (j + 1) q (by simpa using hj)
    exact ⟨w1, by simpa using s1, s2, getG_setG s3 gs (nb s3)⟩
end
def viewE (Γ : List Ent) : Ent → Option Tr
  | .tr t => some t
  | .al p => getG Γ p
  | .no => none
/-- the j-th item of what stands there -/
def kidE (e : Ent) (k : Nk) (o : Ow) (ts : List Tr) (j : Nat) : Option Ent := match ts[j]? with
  | none => none
  | some t => if cp (kid o t) = true then some (.tr (kid o t)) else match e, k with
    | .tr _, _ => some (.tr (kid o t))
    | .al _, .tup => none
    | .al p, _ => if o = .own then some (.al (p ++ [j])) else none
    | .no, _ => none
section
variable {K : KC} {Z Z' : Zn} {H H' : Hp} {m : Ow} {t t' : Tr} {ts : List Tr} {v w : V} {vs us ws : List V} {Φ Ψ : Ps} {a : Addr} {k : Nk} {o : Ow} {i j : Nat} {p q : List Nat} {Γ τ : List Ent} {σ : St} {c : Cz} {e e' : Ent}
theorem EnvOk.var (E : EnvOk K c σ H Γ τ us) (h : Γ[i]? = some (.tr t)) (hc : cp t = true) : ∃ v, σ[i]? = some (some v) ∧ EnvOk K c σ H Γ (.tr t :: τ) (v :: us) := by
  obtain ⟨Z, ws, Φ, Ψ, sl, tm, dj, so, to, ln, zo, zf, z0, zs, st, pv⟩ := E
  obtain ⟨v, hv, hs⟩ := so i _ h
  obtain ⟨v', Φ1, Φ2, e1, r, _⟩ := RepL.at_ _ sl (i := i) (t := t) (by simp [trees, h, Ent.tree])
  rw [hv] at e1
  cases e1
  have n0 := Rep.cp0 t r hc
  refine ⟨v, hs, Z, ws, Φ, Ψ, ⟨sl, ⟨v, us, Φ1, Ψ, rfl, r, tm, by grind, by grind⟩, dj, so, ?_, ln, zo, zf, z0, zs, st, pv⟩⟩
  intro j p hj
  match j with
  | 0 => simp at hj
  | j + 1 => exact to j p (by simpa using hj)
theorem EnvOk.pushA (E : EnvOk K c σ H Γ τ us) (h : ∀ ws, (∀ Z Φ Ψ, Ev K c Z ws Φ Ψ σ H Γ τ us → Raw H ws p v)) (g : (getG Γ p).isSome = true) : EnvOk K c σ H Γ (.al p :: τ) (v :: us) := by
  obtain ⟨Z, ws, Φ, Ψ, EE⟩ := E
  have raw := h ws Z Φ Ψ EE
  obtain ⟨sl, tm, dj, so, to, ln, zo, zf, z0, zs, st, pv⟩ := EE
  refine ⟨Z, ws, Φ, Ψ, ⟨sl, ⟨v, us, fun _ => False, Ψ, rfl, fun _ h => h, tm, by grind, by grind⟩, dj, so, ?_, ln, zo, zf, z0, zs, st, pv⟩⟩
  intro j q hj
  match j with
  | 0 =>
    simp at hj
    subst hj
    exact ⟨v, rfl, raw, g⟩
  | j + 1 => exact to j q (by simpa using hj)
theorem EnvOk.varP (E : EnvOk K c σ H Γ τ us) (h : Γ[i]? = some (.tr t)) : ∃ v, σ[i]? = some (some v) ∧ EnvOk K c σ H Γ (.al [i] :: τ) (v :: us) := by
  obtain ⟨Z, ws, Φ, Ψ, EE⟩ := id E
  obtain ⟨v, hv, hs⟩ := EE.so i _ h
  refine ⟨v, hs, E.pushA (fun ws2 Z2 Φ2 Ψ2 EE2 => ?_) (by simp [getG, h, getT])⟩
  obtain ⟨v2, hv2, hs2⟩ := EE2.so i _ h
  rw [hs] at hs2
  cases hs2
  exact hv2
theorem EnvOk.varA (E : EnvOk K c σ H Γ τ us) (h : Γ[i]? = some (.al p)) : ∃ v, σ[i]? = some (some v) ∧ EnvOk K c σ H Γ (.al p :: τ) (v :: us) := by
  obtain ⟨Z, ws, Φ, Ψ, EE⟩ := id E
  obtain ⟨v, hs, raw, g⟩ := EE.so i _ h
  refine ⟨v, hs, E.pushA (fun ws2 Z2 Φ2 Ψ2 EE2 => ?_) g⟩
  obtain ⟨v2, hs2, raw2, _⟩ := EE2.so i _ h
  rw [hs] at hs2
  cases hs2
  exact raw2
theorem Ev.view (E : Ev K c Z ws Φ Ψ σ H Γ τ us) {n : Nat} (h1 : τ[n]? = some e) (h2 : us[n]? = some v) (hv : viewE Γ e = some t) : ∃ Θ, Rep K Z H .own t v Θ := by
  cases e with
  | no => simp [viewE] at hv
  | tr x =>
    obtain ⟨v', Φ1, Φ2, e1, r, _⟩ := RepL.at_ _ E.tm (i := n) (t := x) (by simp [trees, h1, Ent.tree])
    rw [h2] at e1
    cases e1
    simp only [viewE] at hv
    cases hv
    exact ⟨Φ1, r⟩
  | al p =>
    obtain ⟨w, e1, raw, g⟩ := E.to n p h1
    rw [h2] at e1
    cases e1
    obtain ⟨w', Φ1, Φ2, raw', r, _⟩ := RepL.path E.sl (p := p) (t := t) (by rw [getG_getP g]; exact hv)
    cases raw.fn raw'
    exact ⟨Φ1, r⟩
theorem Chg.same (Z : Zn) (H : Hp) (Ψ : Ps) (zs : ∀ b, Z.fz b ∨ Z.ln b → (H b).isSome = true) (hs : ∀ b, Ψ b → (H b).isSome = true) (Ψ' : Ps) (n : ∀ b, Ψ' b → Ψ b ∧ ¬ Z.fz b ∧ ¬ Z.ln b) : Chg Z Z H H Ψ Ψ' :=
  ⟨fun _ h => h, fun _ h => h, fun _ h => .inl h, fun _ h => .inl h, zs, fun _ _ h _ => h, hs, fun b q => ⟨.inl (n b q).1, (n b q).2⟩⟩
/-- the top is dropped -/
theorem EnvOk.drop (E : EnvOk K c σ H Γ (e :: τ) (v :: us)) : EnvOk K c σ H Γ τ us := by
  obtain ⟨Z, ws, Φ, Ψ, EE⟩ := E
  exact EE.swap (τ1 := [e]) (us1 := [v]) (τ1' := []) (us1' := []) (Ψ1' := fun _ => False) rfl (by simp) (fun Ψ1 r => ⟨⟨rfl, fun _ h => h⟩, .same _ _ _ EE.zs (fun b q => RepL.isS _ r b q) _ (by simp)⟩) rfl
theorem EnvOk.atom (E : EnvOk K c σ H Γ τ us) (v : V) : EnvOk K c σ H Γ (.tr (.a v) :: τ) (v :: us) := by
  obtain ⟨Z, ws, Φ, Ψ, EE⟩ := E
  exact EE.swap (τ1 := []) (us1 := []) (τ1' := [.tr (.a v)]) (us1' := [v]) (Ψ1' := fun _ => False) rfl (by simp) (fun Ψ1 r => ⟨⟨v, [], fun _ => False, fun _ => False, rfl, ⟨rfl, fun _ h => h⟩, ⟨rfl, fun _ h => h⟩, by simp, by simp⟩, .same _ _ _ EE.zs (fun b q => RepL.isS _ r b q) _ (by simp)⟩) rfl
theorem Raw.snoc : ∀ {p : List Nat} {vs us : List V} {w w' : V}, Raw H vs p w → Kids H w us → us[j]? = some w' → Raw H vs (p ++ [j]) w'
  | [], _, _, _, _, r, _, _ => r.elim
  | [i], vs, us, w, w', r, kd, e => ⟨w, us, r, kd, e⟩
  | i :: i2 :: p, vs, us, w, w', r, kd, e => by
    obtain ⟨v, us2, e1, k1, r⟩ := r
    exact ⟨v, us2, e1, k1, r.snoc kd e⟩
theorem getT_snoc : ∀ {p : List Nat} {t : Tr}, getT t p = some (.nd k .own ts) → k ≠ .tup → getT t (p ++ [j]) = ts[j]?
  | [], t, h, hk => by
    cases h
    show getT _ [j] = _
    cases k <;> simp_all [getT] <;> cases ts[j]? <;> rfl
  | i :: p, t, h, hk => by
    cases t with
    | any => simp [getT] at h
    | a v => simp [getT] at h
    | nd k' o us =>
      cases k' <;> cases o <;> simp_all [getT]
      all_goals
        cases e : us[i]? with
        | none => simp [e] at h
        | some y =>
          simp only [e] at h ⊢
          exact getT_snoc h hk
theorem getG_snoc (h : getG Γ p = some (.nd k .own ts)) (hk : k ≠ .tup) : getG Γ (p ++ [j]) = ts[j]? := by
  cases p with
  | nil => simp [getG] at h
  | cons i p =>
    simp only [getG, List.cons_append] at h ⊢
    cases e : Γ[i]? with
    | none => simp [e] at h
    | some x =>
      cases x with
      | no => simp [e] at h
      | al _ => simp [e] at h
      | tr t =>
        simp only [e] at h ⊢
        exact getT_snoc h hk
theorem EnvOk.kidOf (E : EnvOk K c σ H Γ (e :: τ) (w :: us)) (hv : viewE Γ e = some (.nd k o ts)) (hk : kidE e k o ts j = some e') :
    ∃ a vs w', w = .ref a ∧ ObjAt K k o H a vs ∧ ts.length = vs.length ∧ vs[j]? = some w' ∧ EnvOk K c σ H Γ (e' :: τ) (w' :: us) := by
  obtain ⟨Z, ws, Φ, Ψ, EE⟩ := id E
  have view : ∃ Θ, Rep K Z H .own (.nd k o ts) w Θ ∧ ∀ x, e = .tr x → ∃ Ψ2, RepL K Z H .own (trees τ) us Ψ2 ∧ (∀ b, ¬ (Θ b ∧ Ψ2 b)) ∧ ∀ b, Ψ b ↔ Θ b ∨ Ψ2 b := by
    cases e with
    | tr x =>
      obtain ⟨v0, vs0, Θ1, Θ2, e1, a1, a2, ad, au⟩ := EE.tm
      cases e1
      simp only [viewE] at hv
      cases hv
      exact ⟨Θ1, a1, fun _ _ => ⟨Θ2, a2, ad, au⟩⟩
    | no => simp [viewE] at hv
    | al p =>
      obtain ⟨Θ, r⟩ := EE.view (n := 0) rfl rfl hv
      exact ⟨Θ, r, fun _ h => by cases h⟩
  obtain ⟨Θ, rT, rX⟩ := view
  obtain ⟨a, vs, Ξ, rfl, ho, hl, hn⟩ := id rT
  have ho : ObjAt K k o H a vs := ho
  have hl : RepL K Z H o ts vs Ξ := hl
  have hn : Nod Z k o a ts Ξ Θ := hn
  unfold kidE at hk
  cases ht : ts[j]? with
  | none => simp [ht] at hk
  | some t =>
    simp only [ht] at hk
    obtain ⟨w', Ξ1, Ξ2, e1, r1, d1, u1, _⟩ := RepL.at_ _ hl ht
    refine ⟨a, vs, w', rfl, ho, RepL.len _ hl, e1, ?_⟩
    have r1' : Rep K Z H .own (kid o t) w' Ξ1 := rep_kid.mpr r1
    by_cases hc : cp (kid o t) = true
    · rw [if_pos hc] at hk
      cases hk
      have n0 := Rep.cp0 _ r1' hc
      exact EE.swap (τ1 := [e]) (us1 := [.ref a]) (τ1' := [.tr (kid o t)]) (us1' := [w']) (Ψ1' := Ξ1) rfl (by simp) (fun Ψ1 r => ⟨⟨w', [], Ξ1, fun _ => False, rfl, r1', ⟨rfl, fun _ h => h⟩, by grind, by grind⟩, .same _ _ _ EE.zs (fun b q => RepL.isS _ r b q) _ (by grind)⟩) rfl
    · rw [if_neg hc] at hk
      cases e with
      | no => simp [viewE] at hv
      | tr x =>
        simp only at hk
        cases hk
        simp only [viewE] at hv
        cases hv
        obtain ⟨Ψ2, rR, rD, rU⟩ := rX _ rfl
        exact EE.swapX (τ1 := [.tr (.nd k o ts)]) (us1 := [.ref a]) (τ1' := [.tr (kid o t)]) (us1' := [w']) (Ψ1 := Θ) (Ψ1' := Ξ1) rfl (by simp) ⟨.ref a, [], Θ, fun _ => False, rfl, rT, ⟨rfl, fun _ h => h⟩, by grind, by grind⟩ rR rD rU ⟨w', [], Ξ1, fun _ => False, rfl, r1', ⟨rfl, fun _ h => h⟩, by grind, by grind⟩ (.same _ _ _ EE.zs (Rep.isS _ rT) _ (by
          intro b q
          have hb : Θ b := by
            by_cases eo : o = .own
            · exact hn.sub eo b ((u1 b).mpr (.inl q))
            · exact absurd ((u1 b).mpr (.inl q)) (RepL.no0 _ eo hl b)
          exact ⟨hb, (EE.zo b (.inr ((rU b).mpr (.inl hb)))).2⟩)) rfl
      | al p =>
        have g : getG Γ p = some (.nd k o ts) := hv
        obtain ⟨w0, e0, raw, gg⟩ := EE.to 0 p rfl
        cases e0
        have : k ≠ .tup ∧ o = .own ∧ e' = .al (p ++ [j]) := by
          cases k <;> simp_all
          all_goals grind
        obtain ⟨h1, rfl, rfl⟩ := this
        have gs2 : (getG Γ (p ++ [j])).isSome = true := by rw [getG_snoc g h1, ht]; rfl
        have raw2 := raw.snoc (objKids ho h1) e1
        obtain ⟨sl, tm, dj, so, to, ln, zo, zf, z0, zs, st, pv⟩ := EE
        obtain ⟨v0, vs0, Θ1, Θ2, e2, a1, a2, ad, au⟩ := tm
        cases e2
        refine ⟨Z, ws, Φ, Ψ, ⟨sl, ⟨w', us, Θ1, Θ2, rfl, a1, a2, ad, au⟩, dj, so, ?_, ln, zo, zf, z0, zs, st, pv⟩⟩
        intro i q hi
        match i with
        | 0 =>
          simp at hi
          subst hi
          exact ⟨w', rfl, raw2, gs2⟩
        | i + 1 =>
          obtain ⟨w1, s1, s2, s3⟩ := to (i + 1) q (by simpa using hi)
          exact ⟨w1, by simpa using s1, s2, s3⟩
end
section
variable {K : KC} {Z Z' : Zn} {H H' : Hp} {m : Ow} {t t' : Tr} {ts : List Tr} {v w : V} {vs us ws : List V} {Φ Ψ : Ps} {a : Addr} {k : Nk} {o : Ow} {i j : Nat} {p q : List Nat} {Γ τ : List Ent} {σ : St} {c : Cz} {e e' : Ent}
theorem RepL.anyv : ∀ (ts : List Tr) {vs : List V} {Φ : Ps} {i : Nat}, RepL K Z H m ts vs Φ → ts[i]? = some .any → RepL K Z H m ts (vs.set i v) Φ
  | [], _, _, _, _, q => by simp at q
  | x :: ts, vs, Φ, 0, h, q => by
    obtain ⟨v', vs', Φ1, Φ2, e1, h1, h2, d1, u⟩ := h
    cases q
    subst e1
    exact ⟨v, vs', Φ1, Φ2, rfl, h1, h2, d1, u⟩
  | x :: ts, vs, Φ, i + 1, h, q => by
    obtain ⟨v', vs', Φ1, Φ2, e1, h1, h2, d1, u⟩ := h
    subst e1
    exact ⟨v', vs'.set i v, Φ1, Φ2, rfl, h1, RepL.anyv ts h2 (by simpa using q), d1, u⟩
theorem Raw.setv (h : q.head? ≠ some i) (r : Raw H ws q w) : Raw H (ws.set i v) q w := by
  match q with
  | [] => exact r
  | [j] =>
    have : i ≠ j := fun e => h (by rw [e]; rfl)
    show (ws.set i v)[j]? = some w
    rw [List.getElem?_set_ne this]
    exact r
  | j :: j2 :: q =>
    have : i ≠ j := fun e => h (by rw [e]; rfl)
    obtain ⟨v', us, e1, k1, r⟩ := r
    exact ⟨v', us, by rw [List.getElem?_set_ne this]; exact e1, k1, r⟩
theorem getG_ne (h : q.head? ≠ some i) : getG ((Γ.map (killR i)).set i e) q = getG Γ q := by
  match q with
  | [] => rfl
  | j :: q =>
    have : i ≠ j := fun e => h (by rw [e]; rfl)
    simp only [getG]
    rw [List.getElem?_set_ne this, List.getElem?_map]
    cases Γ[j]? with
    | none => rfl
    | some x =>
      cases x with
      | al r => by_cases h : r.head? = some i <;> simp [killR, h]
      | _ => rfl
theorem killR_at (h : (Γ.map (killR i))[j]? = some e) : ∃ e', Γ[j]? = some e' ∧ e = killR i e' := by
  rw [List.getElem?_map] at h
  cases q : Γ[j]? with
  | none => simp [q] at h
  | some x => exact ⟨x, rfl, by simpa [q, eq_comm] using h⟩
theorem EnvOk.setT (E : EnvOk K c σ H Γ (.tr t :: τ) (v :: us)) (hi : i < Γ.length) (hm : c.md[i]? ≠ some true) : EnvOk K c (σ.set i (some v)) H ((Γ.map (killR i)).set i (.tr t)) (τ.map (killR i)) us := by
  obtain ⟨Z, ws, Φ, Ψ, sl, tm, dj, so, to, ln, zo, zf, z0, zs, st, pv⟩ := E
  obtain ⟨v0, vs0, Θ1, Θ2, e1, a1, a2, ad, au⟩ := tm
  cases e1
  have hlt : i < (trees Γ).length := by simpa [trees] using hi
  obtain ⟨v', Φ1, Φ2, e2, r, d, u, r2, _⟩ := RepL.at_ _ sl (i := i) (t := (trees Γ)[i]) (List.getElem?_eq_getElem hlt)
  have hw : i < ws.length := getq_lt' e2
  have g1 : ((trees Γ).set i .any)[i]? = some .any := List.getElem?_set_self hlt
  have r3 := RepL.put _ (RepL.anyv (v := v) _ r2 g1) g1 (List.getElem?_set_self hw) a1 (by grind)
  rw [List.set_set] at r3
  have et : trees ((Γ.map (killR i)).set i (.tr t)) = (trees Γ).set i t := by
    have := trees_killR (Γ := Γ) (i := i)
    simp only [trees, List.map_set] at this ⊢
    rw [this]
    rfl
  refine ⟨Z, ws.set i v, fun b => Θ1 b ∨ Φ2 b, Θ2, ⟨by rw [et]; exact r3, ?_, by grind, ?_, ?_, by simp [ln], by grind, zf, z0, zs, st, ?_⟩⟩
  · show RepL K Z H .own (trees (τ.map (killR i))) us Θ2
    rw [trees_killR]
    exact a2
  · intro j e he
    by_cases hj : i = j
    · subst hj
      rw [List.getElem?_set_self (by simpa using hi)] at he
      cases he
      exact ⟨v, List.getElem?_set_self hw, List.getElem?_set_self (by omega)⟩
    · rw [List.getElem?_set_ne hj] at he
      obtain ⟨e', he', rfl⟩ := killR_at he
      have h1 := so j e' he'
      cases e' with
      | no => trivial
      | tr x =>
        obtain ⟨x1, x2, x3⟩ := h1
        exact ⟨x1, by rw [List.getElem?_set_ne hj]; exact x2, by rw [List.getElem?_set_ne hj]; exact x3⟩
      | al q =>
        obtain ⟨x1, x2, x3, x4⟩ := h1
        by_cases hq : q.head? = some i
        · simp only [killR, hq, if_true]
          trivial
        · simp only [killR, hq, if_false]
          exact ⟨x1, by rw [List.getElem?_set_ne hj]; exact x2, x3.setv hq, by rw [getG_ne hq]; exact x4⟩
  · intro j q hj
    obtain ⟨e', he', hk⟩ := killR_at hj
    cases e' with
    | no => simp [killR] at hk
    | tr _ => simp [killR] at hk
    | al r =>
      by_cases hq : r.head? = some i
      · simp [killR, hq] at hk
      · simp only [killR, hq, if_false] at hk
        cases hk
        obtain ⟨w1, s1, s2, s3⟩ := to (j + 1) q (by simpa using he')
        exact ⟨w1, by simpa using s1, s2.setv hq, by rw [getG_ne hq]; exact s3⟩
  · intro j hj
    have : i ≠ j := fun e => hm (by rw [e]; exact hj)
    rw [List.getElem?_set_ne this]
    exact pv j hj
theorem EnvOk.setA (E : EnvOk K c σ H Γ (.al p :: τ) (v :: us)) (hi : i < Γ.length) (hm : c.md[i]? ≠ some true) (hp : p.head? ≠ some i) : EnvOk K c (σ.set i (some v)) H ((Γ.map (killR i)).set i (.al p)) (τ.map (killR i)) us := by
  obtain ⟨Z, ws, Φ, Ψ, sl, tm, dj, so, to, ln, zo, zf, z0, zs, st, pv⟩ := E
  obtain ⟨w0, e0, raw0, g0⟩ := to 0 p rfl
  cases e0
  obtain ⟨v0, vs0, Θ1, Θ2, e1, a1, a2, ad, au⟩ := tm
  cases e1
  have a1 : ∀ b, ¬ Θ1 b := a1
  have hlt : i < (trees Γ).length := by simpa [trees] using hi
  obtain ⟨v', Φ1, Φ2, e2, r, d, u, r2, _⟩ := RepL.at_ _ sl (i := i) (t := (trees Γ)[i]) (List.getElem?_eq_getElem hlt)
  have et : trees ((Γ.map (killR i)).set i (.al p)) = (trees Γ).set i .any := by
    have := trees_killR (Γ := Γ) (i := i)
    simp only [trees, List.map_set] at this ⊢
    rw [this]
    rfl
  refine ⟨Z, ws, Φ2, Θ2, ⟨by rw [et]; exact r2, ?_, by grind, ?_, ?_, by simp [ln], by grind, zf, z0, zs, st, pv⟩⟩
  · show RepL K Z H .own (trees (τ.map (killR i))) us Θ2
    rw [trees_killR]
    exact a2
  · intro j e he
    by_cases hj : i = j
    · subst hj
      rw [List.getElem?_set_self (by simpa using hi)] at he
      cases he
      exact ⟨v, List.getElem?_set_self (by omega), raw0, by rw [getG_ne hp]; exact g0⟩
    · rw [List.getElem?_set_ne hj] at he
      obtain ⟨e', he', rfl⟩ := killR_at he
      have h1 := so j e' he'
      cases e' with
      | no => trivial
      | tr x =>
        obtain ⟨x1, x2, x3⟩ := h1
        exact ⟨x1, x2, by rw [List.getElem?_set_ne hj]; exact x3⟩
      | al q =>
        obtain ⟨x1, x2, x3, x4⟩ := h1
        by_cases hq : q.head? = some i
        · simp only [killR, hq, if_true]
          trivial
        · simp only [killR, hq, if_false]
          exact ⟨x1, by rw [List.getElem?_set_ne hj]; exact x2, x3, by rw [getG_ne hq]; exact x4⟩
  · intro j q hj
    obtain ⟨e', he', hk⟩ := killR_at hj
    cases e' with
    | no => simp [killR] at hk
    | tr _ => simp [killR] at hk
    | al r =>
      by_cases hq : r.head? = some i
      · simp [killR, hq] at hk
      · simp only [killR, hq, if_false] at hk
        cases hk
        obtain ⟨w1, s1, s2, s3⟩ := to (j + 1) q (by simpa using he')
        exact ⟨w1, by simpa using s1, s2, by rw [getG_ne hq]; exact s3⟩
theorem RepL.reverse : ∀ (ts : List Tr) {vs : List V} {Φ : Ps}, RepL K Z H m ts vs Φ → RepL K Z H m ts.reverse vs.reverse Φ
  | [], vs, Φ, h => by
    obtain ⟨rfl, h2⟩ := h
    exact ⟨rfl, h2⟩
  | t :: ts, vs, Φ, h => by
    obtain ⟨v', vs', Φ1, Φ2, e1, h1, h2, d1, u⟩ := h
    subst e1
    rw [List.reverse_cons, List.reverse_cons]
    have r1 : RepL K Z H m [t] [v'] Φ1 := ⟨v', [], Φ1, fun _ => False, rfl, h1, ⟨rfl, fun _ h => h⟩, by grind, by grind⟩
    exact (RepL.append _ (RepL.reverse ts h2) r1 (by grind)).cast _ (by grind)
/-- how a new node is marked -/
def mkN (k : Nk) (ts : List Tr) : Option Tr := if k = .tup then some (.nd .tup .own ts) else if escL ts = true then some (.nd k .own ts) else if cpL ts = true then some (.nd k .lnt ts) else none
mutual
theorem Rep.lend : ∀ (t : Tr) {m : Ow} {v : V} {Φ : Ps}, Rep K Z H m t v Φ → (∀ b, Z.fz b → Z'.fz b) → (∀ b, Z.ln b ∨ Φ b → Z'.ln b) → Rep K Z' H (eff .lnt m) t v (fun _ => False)
  | .any, _, _, _, h, _, _ => fun _ h => h
  | .a _, _, _, _, h, _, _ => ⟨h.1, fun _ h => h⟩
  | .nd k o ts, m, v, Φ, h, f, l => by
    obtain ⟨a, vs, Ψ, e1, ho, hl, hn⟩ := h
    have ee : eff (eff .lnt m) o = eff .lnt (eff m o) := by cases m <;> cases o <;> rfl
    have sub : ∀ b, Ψ b → Φ b := by
      intro b q
      by_cases eo : eff m o = .own
      · exact hn.sub eo b q
      · exact absurd q (RepL.no0 ts eo hl b)
    refine ⟨a, vs, fun _ => False, e1, ?_, ?_, ?_⟩
    · rw [ee]
      exact ho.weak (by cases eff m o <;> simp [eff])
    · rw [ee]
      exact RepL.lend ts hl f fun b q => l b (q.imp id (sub b))
    · rw [ee]
      cases k <;> cases eo : eff m o <;> simp_all [Nod, eff]
theorem RepL.lend : ∀ (ts : List Tr) {m : Ow} {vs : List V} {Φ : Ps}, RepL K Z H m ts vs Φ → (∀ b, Z.fz b → Z'.fz b) → (∀ b, Z.ln b ∨ Φ b → Z'.ln b) → RepL K Z' H (eff .lnt m) ts vs (fun _ => False)
  | [], _, _, _, h, _, _ => ⟨h.1, fun _ h => h⟩
  | t :: ts, m, vs, Φ, h, f, l => by
    obtain ⟨v', vs', Φ1, Φ2, e1, h1, h2, d1, u⟩ := h
    exact ⟨v', vs', _, _, e1, Rep.lend t h1 f (by grind), RepL.lend ts h2 f (by grind), by simp, by simp⟩
end
mutual
theorem Rep.freeze : ∀ (t : Tr) {m : Ow} {v : V} {Φ : Ps}, Rep K Z H m t v Φ → m ≠ .lnt → (m = .own → esc t = true) → (∀ b, Z.fz b ∨ Φ b → Z'.fz b) → Rep K Z' H .frz t v (fun _ => False)
  | .any, _, _, _, h, _, _, _ => fun _ h => h
  | .a _, _, _, _, h, _, _, _ => ⟨h.1, fun _ h => h⟩
  | .nd k o ts, m, v, Φ, h, hm, he, f => by
    obtain ⟨a, vs, Ψ, e1, ho, hl, hn⟩ := h
    have sub : ∀ b, Ψ b → Φ b := by
      intro b q
      by_cases eo : eff m o = .own
      · exact hn.sub eo b q
      · exact absurd q (RepL.no0 ts eo hl b)
    have nl : eff m o ≠ .lnt := by
      cases m with
      | lnt => exact absurd rfl hm
      | frz => simp [eff]
      | own =>
        have := he rfl
        cases k <;> cases o <;> simp_all [esc, eff]
    have ee : eff .frz o = .frz := rfl
    refine ⟨a, vs, fun _ => False, e1, ?_, ?_, ?_⟩
    · rw [ee]
      exact ho.weak (by simp)
    · rw [ee]
      refine RepL.freeze ts hl nl (fun q => ?_) fun b q => f b (q.imp id (sub b))
      cases m with
      | lnt => exact absurd rfl hm
      | frz => simp [eff] at q
      | own =>
        have := he rfl
        cases k <;> cases o <;> simp_all [esc, eff, Nod]
    · rw [ee]
      cases k <;> cases eo : eff m o <;> simp_all [Nod]
theorem RepL.freeze : ∀ (ts : List Tr) {m : Ow} {vs : List V} {Φ : Ps}, RepL K Z H m ts vs Φ → m ≠ .lnt → (m = .own → escL ts = true) → (∀ b, Z.fz b ∨ Φ b → Z'.fz b) → RepL K Z' H .frz ts vs (fun _ => False)
  | [], _, _, _, h, _, _, _ => ⟨h.1, fun _ h => h⟩
  | t :: ts, m, vs, Φ, h, hm, he, f => by
    obtain ⟨v', vs', Φ1, Φ2, e1, h1, h2, d1, u⟩ := h
    exact ⟨v', vs', _, _, e1, Rep.freeze t h1 hm (fun q => by have := he q; simp_all [escL]) (by grind), RepL.freeze ts h2 hm (fun q => by have := he q; simp_all [escL]) (by grind), by simp, by simp⟩
end
end
section
variable {K : KC} {Z Z' : Zn} {H H' : Hp} {m : Ow} {t t' : Tr} {ts : List Tr} {v w : V} {vs us ws : List V} {Φ Ψ : Ps} {a : Addr} {k k' : Nk} {o : Ow} {i j : Nat} {p q : List Nat} {Γ τ τ1 τ1' : List Ent} {σ : St} {c : Cz} {e e' : Ent}
theorem Ev.swapE {us1 us1' : List V} (E : Ev K c Z ws Φ Ψ σ H Γ (τ1 ++ τ) (us1 ++ us)) (hl : τ1.length = us1.length) (hal : ∀ e ∈ τ1', ∀ p, e ≠ .al p)
    (step : ∀ Ψ1, RepL K Z H .own (trees τ1) us1 Ψ1 → (∀ b, Ψ1 b → ¬ Z.fz b ∧ ¬ Z.ln b) → ∃ Z' Ψ1', RepL K Z' H' .own (trees τ1') us1' Ψ1' ∧ Chg Z Z' H H' Ψ1 Ψ1') (hl' : τ1'.length = us1'.length) : EnvOk K c σ H' Γ (τ1' ++ τ) (us1' ++ us) := by
  have tm' : RepL K Z H .own (trees τ1 ++ trees τ) (us1 ++ us) Ψ := by simpa [trees] using E.tm
  obtain ⟨v1, v2, Ψ1, Ψ2, e, r1, r2, d, u⟩ := RepL.split _ tm'
  have hl1 := RepL.len _ r1
  have hlt : (trees τ1).length = τ1.length := by simp [trees]
  obtain ⟨rfl, rfl⟩ := List.append_inj e (by omega)
  obtain ⟨Z', Ψ1', n1, ch⟩ := step Ψ1 r1 fun b q => (E.zo b (.inr ((u b).mpr (.inl q)))).2
  exact E.swapX hl hal r1 r2 d u n1 ch hl'
theorem upd_kp {pa : Addr} {ob : HO} (hp : H pa = none) (Φ : Ps) : Kp K Z Z H (upd H pa ob) Φ :=
  ⟨fun _ h => h, fun _ h => h, fun b o _ e => by rw [upd_ne (ne_of_none e hp)]; exact e, tsk fun b o e _ => by rw [upd_ne (ne_of_none e hp)]; exact e⟩
theorem trees_tr : trees (ts.map Ent.tr) = ts := by
  simp only [trees, List.map_map]
  exact List.map_id' ts
theorem EnvOk.new {pa : Addr} {ob : HO} (E : EnvOk K c σ H Γ (ts.reverse.map Ent.tr ++ τ) (vs.reverse ++ us)) (hl : ts.length = vs.length) (hp : H pa = none) (hk : mkN k ts = some t) (ho : ∀ o, ObjAt K k o (upd H pa ob) pa vs) : EnvOk K c σ (upd H pa ob) Γ (.tr t :: τ) (.ref pa :: us) := by
  obtain ⟨Z, ws, Φ, Ψ, EE⟩ := E
  refine EE.swapE (τ1' := [.tr t]) (us1' := [.ref pa]) (by simp [hl]) (by simp) (fun Ψ1 r zo => ?_) rfl
  rw [trees_tr] at r
  have r := RepL.reverse _ r
  rw [List.reverse_reverse, List.reverse_reverse] at r
  have r2 := RepL.fr _ r (upd_kp (K := K) (Z := Z) (ob := ob) hp Ψ1)
  have hs := RepL.isS _ r
  have np : ¬ Ψ1 pa := fun q => by have := hs pa q; rw [hp] at this; cases this
  have nz : ∀ b, Z.fz b ∨ Z.ln b → b ≠ pa := fun b q e => by have := EE.zs b q; rw [e, hp] at this; cases this
  have kb : ∀ b, (H b).isSome = true → (upd H pa ob b).isSome = true := fun b q => by
    by_cases e : b = pa
    · rw [e, upd_same]; rfl
    · rw [upd_ne e]; exact q
  have one : ∀ {Z' : Zn} {Θ : Ps}, Rep K Z' (upd H pa ob) .own t (.ref pa) Θ → RepL K Z' (upd H pa ob) .own (trees [.tr t]) [.ref pa] Θ := fun {Z' Θ} h => ⟨.ref pa, [], Θ, fun _ => False, rfl, h, ⟨rfl, fun _ h => h⟩, by simp, by simp⟩
  unfold mkN at hk
  by_cases h1 : k = .tup
  · rw [if_pos h1] at hk
    cases hk
    subst h1
    refine ⟨Z, Ψ1, one ⟨pa, vs, Ψ1, rfl, ho _, r2, fun _ => Iff.rfl⟩, ⟨fun _ h => h, fun _ h => h, fun _ h => .inl h, fun _ h => .inl h, fun b q => kb b (EE.zs b q), fun b o e _ => by rw [upd_ne (ne_of_none e hp)]; exact e, fun b q => kb b (hs b q), fun b q => ⟨.inl q, zo b q⟩⟩⟩
  · rw [if_neg h1] at hk
    by_cases h2 : escL ts = true
    · rw [if_pos h2] at hk
      cases hk
      refine ⟨Z, fun b => b = pa ∨ Ψ1 b, one ⟨pa, vs, Ψ1, rfl, ho _, r2, .mk h1 (fun _ => Iff.rfl) np h2⟩, ⟨fun _ h => h, fun _ h => h, fun _ h => .inl h, fun _ h => .inl h, fun b q => kb b (EE.zs b q), fun b o e _ => by rw [upd_ne (ne_of_none e hp)]; exact e, fun b q => kb b (hs b q), fun b q => ?_⟩⟩
      rcases q with q | q
      · subst q
        exact ⟨.inr hp, fun z => nz b (.inl z) rfl, fun z => nz b (.inr z) rfl⟩
      · exact ⟨.inl q, zo b q⟩
    · rw [if_neg h2] at hk
      by_cases h3 : cpL ts = true
      · rw [if_pos h3] at hk
        cases hk
        have n0 := RepL.cp0 _ r h3
        refine ⟨⟨Z.fz, fun b => b = pa ∨ Z.ln b⟩, fun _ => False, one ⟨pa, vs, fun _ => False, rfl, ho _, ?_, ?_⟩, ⟨fun _ h => h, fun _ h => .inr h, fun _ h => .inl h, fun b h => ?_, fun b q => ?_, fun b o e _ => by rw [upd_ne (ne_of_none e hp)]; exact e, fun b q => kb b (hs b q), fun b q => q.elim⟩⟩
        · exact RepL.lend (m := .own) ts r2 (fun _ h => h) fun b q => .inr (q.elim id fun z => absurd z (n0 b))
        · cases k with
          | tup => exact absurd rfl h1
          | _ => exact ⟨fun _ h => h, .inl rfl⟩
        · rcases h with h | h
          · exact .inr (.inr (by rw [h]; exact hp))
          · exact .inl h
        · rcases q with q | q | q
          · exact kb b (EE.zs b (.inl q))
          · rw [q, upd_same]; rfl
          · exact kb b (EE.zs b (.inr q))
      · rw [if_neg h3] at hk
        cases hk
theorem EnvOk.lend (E : EnvOk K c σ H Γ (.tr t :: τ) (v :: us)) : EnvOk K c σ H Γ (.tr (kid .lnt t) :: τ) (v :: us) := by
  obtain ⟨Z, ws, Φ, Ψ, EE⟩ := E
  refine EE.swapE (τ1 := [.tr t]) (us1 := [v]) (τ1' := [.tr (kid .lnt t)]) (us1' := [v]) rfl (by simp) (fun Ψ1 r zo => ?_) rfl
  have hs := RepL.isS _ r
  obtain ⟨v0, vs0, Θ1, Θ2, e1, a1, a2, ad, au⟩ := r
  cases e1
  refine ⟨⟨Z.fz, fun b => Z.ln b ∨ Ψ1 b⟩, fun _ => False, ⟨v, [], fun _ => False, fun _ => False, rfl, rep_kid.mpr (Rep.lend (m := .own) t a1 (fun _ h => h) fun b q => q.imp id fun z => (au b).mpr (.inl z)), ⟨rfl, fun _ h => h⟩, by simp, by simp⟩,
    ⟨fun _ h => h, fun _ h => .inl h, fun _ h => .inl h, fun b h => h.imp id .inl, fun b q => ?_, fun b o e _ => e, hs, fun b q => q.elim⟩⟩
  rcases q with q | q | q
  · exact EE.zs b (.inl q)
  · exact EE.zs b (.inr q)
  · exact hs b q
theorem EnvOk.freeze (E : EnvOk K c σ H Γ (.tr t :: τ) (v :: us)) (he : esc t = true) : EnvOk K c σ H Γ (.tr (kid .frz t) :: τ) (v :: us) := by
  obtain ⟨Z, ws, Φ, Ψ, EE⟩ := E
  refine EE.swapE (τ1 := [.tr t]) (us1 := [v]) (τ1' := [.tr (kid .frz t)]) (us1' := [v]) rfl (by simp) (fun Ψ1 r zo => ?_) rfl
  have hs := RepL.isS _ r
  obtain ⟨v0, vs0, Θ1, Θ2, e1, a1, a2, ad, au⟩ := r
  cases e1
  refine ⟨⟨fun b => Z.fz b ∨ Ψ1 b, Z.ln⟩, fun _ => False, ⟨v, [], fun _ => False, fun _ => False, rfl, rep_kid.mpr (Rep.freeze (m := .own) t a1 (by simp) (fun _ => he) fun b q => q.imp id fun z => (au b).mpr (.inl z)), ⟨rfl, fun _ h => h⟩, by simp, by simp⟩,
    ⟨fun _ h => .inl h, fun _ h => h, fun b h => h.imp id .inl, fun _ h => .inl h, fun b q => ?_, fun b o e _ => e, hs, fun b q => q.elim⟩⟩
  rcases q with (q | q) | q
  · exact EE.zs b (.inl q)
  · exact hs b q
  · exact EE.zs b (.inr q)
/-- an own node that is held changes in place; items may come out of it -/
theorem EnvOk.mut {us1 vs' vouts : List V} {ts' outs : List Tr} {ob : HO} (E : EnvOk K c σ H Γ (.tr (.nd k .own ts) :: (τ1 ++ τ)) (.ref a :: (us1 ++ us))) (hk : k ≠ .tup) (hk' : k' ≠ .tup) (hl : τ1.length = us1.length) (ho : ObjAt K k .own H a vs)
    (step : ∀ Z Ψa Ψb, RepL K Z H .own ts vs Ψa → RepL K Z H .own (trees τ1) us1 Ψb → (∀ b, ¬ (Ψa b ∧ Ψb b)) → ∃ Ψ', RepL K Z H .own (ts' ++ outs) (vs' ++ vouts) Ψ' ∧ ∀ b, Ψ' b → Ψa b ∨ Ψb b)
    (hl2 : ts'.length = vs'.length) (hl3 : outs.length = vouts.length) (he : escL ts' = true) (ho' : ObjAt K k' .own (upd H a ob) a vs') :
    EnvOk K c σ (upd H a ob) Γ (.tr (.nd k' .own ts') :: (outs.map .tr ++ τ)) (.ref a :: (vouts ++ us)) := by
  obtain ⟨Z, ws, Φ, Ψ, EE⟩ := E
  refine EE.swapE (τ1 := .tr (.nd k .own ts) :: τ1) (us1 := .ref a :: us1) (τ1' := .tr (.nd k' .own ts') :: outs.map .tr) (us1' := .ref a :: vouts) (by simp [hl]) (by simp) (fun Ψ1 r zo => ?_) (by simp [hl3])
  have hs := RepL.isS _ r
  have nt := RepL.nt _ r
  obtain ⟨v0, vs0, Θ1, Θ2, e1, a1, a2, ad, au⟩ := r
  cases e1
  obtain ⟨a', vs2, Ξ, e2, ho2, hl4, hn⟩ := a1
  cases e2
  have ho2 : ObjAt K k .own H a vs2 := ho2
  have hl4 : RepL K Z H .own ts vs2 Ξ := hl4
  have hn : Nod Z k .own a ts Ξ Θ1 := hn
  cases (objKids ho hk).fn (objKids ho2 hk)
  have hn := hn.own hk
  obtain ⟨Ψ', r', sub⟩ := step Z Ξ Θ2 hl4 a2 (by grind)
  have na : ¬ Ψ' a := by grind
  have aΨ : Ψ1 a := by grind
  have nz := zo a aΨ
  have kp : Kp K Z Z H (upd H a ob) Ψ' := ⟨fun _ h => h, fun _ h => h, fun b o q e => by rw [upd_ne (by grind)]; exact e, tsk fun b o e n => by
    rw [upd_ne (fun q => by subst q; have := nt b o aΨ e; rw [n] at this; cases this)]; exact e⟩
  have r' := RepL.fr _ r' kp
  obtain ⟨w1, w2, Ξ1, Ξ2, e3, b1, b2, bd, bu⟩ := RepL.split _ r'
  have hlen := RepL.len _ b1
  obtain ⟨rfl, rfl⟩ := List.append_inj e3 (by omega)
  refine ⟨Z, fun b => b = a ∨ Ψ' b, ⟨.ref a, vouts, fun b => b = a ∨ Ξ1 b, Ξ2, rfl, ⟨a, vs', Ξ1, rfl, ho', b1, .mk hk' (fun _ => Iff.rfl) (by grind) he⟩, ?_, by grind, by grind⟩, ⟨fun _ h => h, fun _ h => h, fun _ h => .inl h, fun _ h => .inl h, fun b q => ?_, fun b o e n => by rw [upd_ne (by grind)]; exact e, fun b q => ?_, fun b q => ?_⟩⟩
  · show RepL K Z (upd H a ob) .own (trees (outs.map .tr)) vouts Ξ2
    rw [trees_tr]
    exact b2
  · rw [upd_ne (by grind)]; exact EE.zs b q
  · by_cases e : b = a
    · rw [e, upd_same]; rfl
    · rw [upd_ne e]; exact hs b q
  · have : Ψ1 b := by grind
    exact ⟨.inl this, zo b this⟩
end
/-! the machine: readings as functions on trees -/
structure KT where
  P : Program
  w : World
  ct : Nat → Addr
  nm : Nat → List Str
  et : Nat → Addr
abbrev kcm (K : PySem.W.Frag) (T : KT) : KC := ⟨K, T.P, T.w, T.ct, T.nm, T.et⟩
structure Ms where
  g : List Ent
  s : List Ent
inductive Rs | ok (m : Ms) | ex (C : Nat) (g : List Ent)
abbrev GE := Ms → Option Rs
def PostE (K : KC) (c : Cz) (W : WX) (σ : St) (us : List V) (Q : VK) : Rs → Prop
  | .ok m' => ∀ v H', EnvOk K c σ H' m'.g m'.s (v :: us) → Q v H'
  | .ex C g' => ∀ H', EnvOk K c σ H' g' [] [] → W (.ref (K.et C)) none σ H'
def SE (K : KC) (md : List Bool) (W : WX) (t : TE) (g : GE) : Prop := ∀ (c : Cz) (σ : St) (H : Hp) (m : Ms) (us : List V) (Q : VK) (r : Rs), c.md = md → EnvOk K c σ H m.g m.s us → g m = some r → PostE K c W σ us Q r → t σ H Q
def PostA (K : KC) (c : Cz) (W : WX) (σ : St) (us : List V) (n : Nat) (Q : List V → Hp → Prop) : Rs → Prop
  | .ok m' => ∀ vs H', vs.length = n → EnvOk K c σ H' m'.g m'.s (vs.reverse ++ us) → Q vs H'
  | .ex C g' => ∀ H', EnvOk K c σ H' g' [] [] → W (.ref (K.et C)) none σ H'
def SA (K : KC) (md : List Bool) (W : WX) (n : Nat) (t : TA) (g : GE) : Prop := ∀ (c : Cz) (σ : St) (H : Hp) (m : Ms) (us : List V) (Q : List V → Hp → Prop) (r : Rs), c.md = md → EnvOk K c σ H m.g m.s us → g m = some r → PostA K c W σ us n Q r → t σ H Q
/-- a test leaves a truth value on top -/
def PostT (K : KC) (c : Cz) (W : WX) (σ : St) (us : List V) (Q : Bool → Hp → Prop) : Rs → Prop
  | .ok ⟨g', .tr (.a (.bl b)) :: s'⟩ => ∀ H', EnvOk K c σ H' g' s' us → Q b H'
  | .ok _ => False
  | .ex C g' => ∀ H', EnvOk K c σ H' g' [] [] → W (.ref (K.et C)) none σ H'
def ST (K : KC) (md : List Bool) (W : WX) (t : TT) (g : GE) : Prop := ∀ (c : Cz) (σ : St) (H : Hp) (m : Ms) (us : List V) (Q : Bool → Hp → Prop) (r : Rs), c.md = md → EnvOk K c σ H m.g m.s us → g m = some r → PostT K c W σ us Q r → t σ H Q
def ME (X : Cx) (T : KT) (md : List Bool) (W : WX) (e : Expr) (g : GE) : Prop := ∃ t, PE X e t ∧ SE (kcm X.K T) md W t g
def MA (X : Cx) (T : KT) (md : List Bool) (W : WX) (es : List Expr) (g : GE) : Prop := ∃ t, PA X es t ∧ SA (kcm X.K T) md W es.length t g
def MT (X : Cx) (T : KT) (md : List Bool) (W : WX) (e : Expr) (g : GE) : Prop := ∃ t, PT X e t ∧ ST (kcm X.K T) md W t g
def MW (X : Cx) (T : KT) (md : List Bool) (W : WX) (e : Expr) (g : GE) : Prop := ∃ t, PW X e t ∧ ST (kcm X.K T) md W t g
def gSeq (a b : GE) : GE := fun m => match a m with
  | some (.ok m') => b m'
  | r => r
/-- what an operation on n values of the stack does -/
def RA (K : KC) (md : List Bool) (W : WX) (n : Nat) (r : St → List V → Hp → VK → Prop) (f : GE) : Prop := ∀ (c : Cz) (σ : St) (H : Hp) (m : Ms) (us vs : List V) (Q : VK) (rr : Rs), c.md = md → vs.length = n → EnvOk K c σ H m.g m.s (vs.reverse ++ us) → f m = some rr → PostE K c W σ us Q rr → r σ vs H Q
abbrev RA2 (K : KC) (md : List Bool) (W : WX) (r : R2) (f : GE) : Prop := RA K md W 2 (fun _ vs H Q => ∃ x y, vs = [x, y] ∧ r x y H Q) f
section
variable {K : KC} {X : Cx} {T : KT} {md : List Bool} {W : WX} {t ta tb : TE} {g ga gb f f' : GE} {e a b : Expr} {es : List Expr} {pos : Pos} {n : Nat} {r r' : R2} {v : V}
theorem RA2.mk (h : ∀ (c : Cz) (σ : St) (H : Hp) (m : Ms) (us : List V) (x y : V) (Q : VK) (rr : Rs), c.md = md → EnvOk K c σ H m.g m.s (y :: x :: us) → f m = some rr → PostE K c W σ us Q rr → r x y H Q) : RA2 K md W r f := by
  intro c σ H m us vs Q rr hc hl E hf hp
  match vs, hl with
  | [x, y], _ => exact ⟨x, y, rfl, h c σ H m us x y Q rr hc E hf hp⟩
theorem RA2.use (h : RA2 K md W r f) {c : Cz} {σ : St} {H : Hp} {m : Ms} {us : List V} {x y : V} {Q : VK} {rr : Rs} (hc : c.md = md) (E : EnvOk K c σ H m.g m.s (y :: x :: us)) (hf : f m = some rr) (hp : PostE K c W σ us Q rr) : r x y H Q := by
  obtain ⟨x', y', e, q⟩ := h c σ H m us [x, y] Q rr hc rfl E hf hp
  cases e
  exact q
theorem se_op (hr : RA2 K md W r f) (ha : SE K md W ta ga) (hb : SE K md W tb gb) : SE K md W (tOp r ta tb) (gSeq (gSeq ga gb) f) := by
  intro c σ H m us Q rr hc E hg hp
  simp only [gSeq] at hg
  cases e1 : ga m with
  | none => simp [e1] at hg
  | some r1 =>
    cases r1 with
    | ex C g' =>
      simp only [e1] at hg
      cases hg
      exact ha c σ H m us _ _ hc E e1 hp
    | ok m1 =>
      simp only [e1] at hg
      refine ha c σ H m us _ _ hc E e1 fun x H1 E1 => ?_
      cases e2 : gb m1 with
      | none => simp [e2] at hg
      | some r2 =>
        cases r2 with
        | ex C g' =>
          simp only [e2] at hg
          cases hg
          exact hb c σ H1 m1 _ _ _ hc E1 e2 hp
        | ok m2 =>
          simp only [e2] at hg
          exact hb c σ H1 m1 _ _ _ hc E1 e2 fun y H2 E2 => hr.use hc E2 hg hp
theorem OpR.or {f : Value → Value → Sem Value} (h : OpR X f r) (h' : OpR X f r') : OpR X f (fun x y H Q => r x y H Q ∨ r' x y H Q) := by
  intro pins s σ H x y v u Q I rx ry q
  rcases q with q | q
  · exact h pins s σ H x y v u Q I rx ry q
  · exact h' pins s σ H x y v u Q I rx ry q
def gOr (f f' : GE) : GE := fun m => match f m with
  | none => f' m
  | r => r
theorem RA2.or (h : RA2 K md W r f) (h' : RA2 K md W r' f') : RA2 K md W (fun x y H Q => r x y H Q ∨ r' x y H Q) (gOr f f') := by
  refine .mk fun c σ H m us x y Q rr hc E hf hp => ?_
  simp only [gOr] at hf
  cases e1 : f m with
  | none =>
    simp only [e1] at hf
    exact .inr (h'.use hc E hf hp)
  | some r1 =>
    simp only [e1] at hf
    exact .inl (h.use hc E (by rw [e1]; exact hf) hp)
/-- an operation that looks at two things and gives a plain value -/
def fP2 (F : Tr → Tr → Option V) : GE := fun m => match m.s with
  | y :: x :: s => match viewE m.g x, viewE m.g y with
    | some tx, some ty => match F tx ty with
      | some v => some (.ok ⟨m.g, .tr (.a v) :: s⟩)
      | none => none
    | _, _ => none
  | _ => none
theorem fP2_ok {F : Tr → Tr → Option V} (hF : ∀ (Z : Zn) (H : Hp) (x y : V) (tx ty : Tr) (u : V) (Φ Ψ : Ps) (Q : VK), Rep K Z H .own tx x Φ → Rep K Z H .own ty y Ψ → F tx ty = some u → Q u H → r x y H Q) : RA2 K md W r (fP2 F) := by
  refine .mk fun c σ H m us x y Q rr hc E hf hp => ?_
  simp only [fP2] at hf
  split at hf
  · rename_i ey ex s hs
    split at hf
    · rename_i tx ty h1 h2
      split at hf
      · rename_i u hu
        cases hf
        rw [hs] at E
        obtain ⟨Z, ws, Φ, Ψ, EE⟩ := id E
        obtain ⟨Θ1, r1⟩ := EE.view (n := 1) rfl rfl h1
        obtain ⟨Θ2, r2⟩ := EE.view (n := 0) rfl rfl h2
        exact hF Z H x y tx ty u Θ1 Θ2 Q r1 r2 hu (hp u H (E.drop.drop.atom u))
      · cases hf
    · cases hf
  · cases hf
/-- the same of one thing -/
def fP1 (F : Tr → Option V) : GE := fun m => match m.s with
  | x :: s => match viewE m.g x with
    | some tx => match F tx with
      | some v => some (.ok ⟨m.g, .tr (.a v) :: s⟩)
      | none => none
    | _ => none
  | _ => none
theorem fP1_ok {F : Tr → Option V} {r : St → List V → Hp → VK → Prop} (hF : ∀ (σ : St) (Z : Zn) (H : Hp) (x : V) (tx : Tr) (u : V) (Φ : Ps) (Q : VK), Rep K Z H .own tx x Φ → F tx = some u → Q u H → r σ [x] H Q) : RA K md W 1 r (fP1 F) := by
  intro c σ H m us vs Q rr hc hl E hf hp
  match vs, hl with
  | [x], _ =>
    simp only [fP1] at hf
    split at hf
    · rename_i ex s hs
      split at hf
      · rename_i tx h1
        split at hf
        · rename_i u hu
          cases hf
          rw [hs] at E
          obtain ⟨Z, ws, Φ, Ψ, EE⟩ := id E
          obtain ⟨Θ1, r1⟩ := EE.view (n := 0) rfl rfl h1
          exact hF σ Z H x tx u Θ1 Q r1 hu (hp u H (E.drop.atom u))
        · cases hf
      · cases hf
    · cases hf
def gC (v : V) : GE := fun m => some (.ok ⟨m.g, .tr (.a v) :: m.s⟩)
theorem se_c : SE K md W (tC v) (gC v) := by
  intro c σ H m us Q rr hc E hg hp
  cases hg
  exact hp v H (E.atom v)
theorem me_c (h : PE X e (tC v)) : ME X T md W e (gC v) := ⟨_, h, se_c⟩
def gVar (i : Nat) : GE := fun m => match m.g[i]? with
  | some (.tr t) => if cp t = true then some (.ok ⟨m.g, .tr t :: m.s⟩) else some (.ok ⟨m.g, .al [i] :: m.s⟩)
  | some (.al p) => some (.ok ⟨m.g, .al p :: m.s⟩)
  | _ => none
theorem se_var {i : Nat} : SE K md W (tVar i) (gVar i) := by
  intro c σ H m us Q rr hc E hg hp
  simp only [gVar] at hg
  split at hg
  · rename_i t ht
    by_cases h : cp t = true
    · rw [if_pos h] at hg
      cases hg
      obtain ⟨v, h1, E1⟩ := E.var ht h
      exact ⟨v, h1, hp v H E1⟩
    · rw [if_neg h] at hg
      cases hg
      obtain ⟨v, h1, E1⟩ := E.varP ht
      exact ⟨v, h1, hp v H E1⟩
  · rename_i p ht
    cases hg
    obtain ⟨v, h1, E1⟩ := E.varA ht
    exact ⟨v, h1, hp v H E1⟩
  · cases hg
theorem me_var {i : Nat} (h : PE X e (tVar i)) : ME X T md W e (gVar i) := ⟨_, h, se_var⟩
theorem me_bin {op : Operator} (ho : OpR X (binaryOp op) r) (hf : RA2 (kcm X.K T) md W r f) (ha : ME X T md W a ga) (hb : ME X T md W b gb) : ME X T md W (.BinOp a op b pos) (gSeq (gSeq ga gb) f) := by
  obtain ⟨ta, pa, sa⟩ := ha
  obtain ⟨tb, pb, sb⟩ := hb
  exact ⟨_, pe_op ho pa pb, se_op hf sa sb⟩
theorem me_cmp {op : CmpOp} (ho : OpR X (compareOp op) r) (hf : RA2 (kcm X.K T) md W r f) (ha : ME X T md W a ga) (hb : ME X T md W b gb) (hm : behindInMarks op b = false) : ME X T md W (.Compare a [op] [b] pos) (gSeq (gSeq ga gb) f) := by
  obtain ⟨ta, pa, sa⟩ := ha
  obtain ⟨tb, pb, sb⟩ := hb
  exact ⟨_, pe_cmpR ho pa pb hm, se_op hf sa sb⟩
theorem me_ix (ho : IxR X r) (hf : RA2 (kcm X.K T) md W r f) (ha : ME X T md W a ga) (hb : ME X T md W b gb) (hs : PlainIx b) : ME X T md W (.Subscript a b pos) (gSeq (gSeq ga gb) f) := by
  obtain ⟨ta, pa, sa⟩ := ha
  obtain ⟨tb, pb, sb⟩ := hb
  exact ⟨_, pe_ix ho pa pb hs, se_op hf sa sb⟩
/-! tests -/
theorem st_of (hs : SE K md W t g) : ST K md W (fun σ H Q => t σ H fun x H' => ∃ k, x = .bl k ∧ Q k H') g := by
  intro c σ H m us Q rr hc E hg hp
  refine hs c σ H m us _ rr hc E hg ?_
  cases rr with
  | ex C g' => exact hp
  | ok m' =>
    intro v H' E'
    obtain ⟨g', s'⟩ := m'
    match s', hp with
    | .tr (.a (.bl b)) :: s', hp =>
      obtain ⟨Z, ws, Φ, Ψ, EE⟩ := id E'
      obtain ⟨Θ1, r1⟩ := EE.view (n := 0) (e := .tr (.a (.bl b))) rfl rfl rfl
      obtain ⟨rfl, _⟩ := r1
      exact ⟨b, rfl, hp H' E'.drop⟩
theorem mt_val (h : ME X T md W e g) (he : ∀ whole, isTrue e X.env whole = (do let v ← whole; standAt e.pos; holding [v] (truthy v)) := by intro _; rfl) : MT X T md W e g := by
  obtain ⟨t, p, s⟩ := h
  exact ⟨_, pt_val p he, st_of s⟩
theorem mt_cmp {op : CmpOp} (ho : OpR X (compareOp op) r) (hf : RA2 (kcm X.K T) md W r f) (ha : ME X T md W a ga) (hb : ME X T md W b gb) (hm : behindInMarks op b = false) : MT X T md W (.Compare a [op] [b] pos) (gSeq (gSeq ga gb) f) := by
  obtain ⟨ta, pa, sa⟩ := ha
  obtain ⟨tb, pb, sb⟩ := hb
  exact ⟨_, pt_cmpR ho pa pb hm, st_of (se_op hf sa sb)⟩
def gNot (g : GE) : GE := fun m => match g m with
  | some (.ok ⟨g', .tr (.a (.bl b)) :: s'⟩) => some (.ok ⟨g', .tr (.a (.bl (!b))) :: s'⟩)
  | some (.ex C g') => some (.ex C g')
  | _ => none
theorem st_not {t : TT} (hs : ST K md W t g) : ST K md W (tNot t) (gNot g) := by
  intro c σ H m us Q rr hc E hg hp
  simp only [gNot] at hg
  split at hg
  · rename_i g' b s' h1
    cases hg
    exact hs c σ H m us _ _ hc E h1 hp
  · rename_i C g' h1
    cases hg
    exact hs c σ H m us _ _ hc E h1 hp
  · cases hg
theorem mt_not (h : MT X T md W e g) : MT X T md W (.UnaryOp .Not e pos) (gNot g) := by
  obtain ⟨t, p, s⟩ := h
  exact ⟨_, pt_not p, st_not s⟩
def gAnd (g h : GE) : GE := fun m => match g m with
  | some (.ok ⟨g', .tr (.a (.bl true)) :: s'⟩) => h ⟨g', s'⟩
  | some (.ok ⟨g', .tr (.a (.bl false)) :: s'⟩) => some (.ok ⟨g', .tr (.a (.bl false)) :: s'⟩)
  | some (.ex C g') => some (.ex C g')
  | _ => none
def gOrB (g h : GE) : GE := fun m => match g m with
  | some (.ok ⟨g', .tr (.a (.bl false)) :: s'⟩) => h ⟨g', s'⟩
  | some (.ok ⟨g', .tr (.a (.bl true)) :: s'⟩) => some (.ok ⟨g', .tr (.a (.bl true)) :: s'⟩)
  | some (.ex C g') => some (.ex C g')
  | _ => none
theorem top_bl {c : Cz} {σ : St} {H : Hp} {g' s' : List Ent} {x : V} {us : List V} {b : Bool} (E : EnvOk K c σ H g' (.tr (.a (.bl b)) :: s') (x :: us)) : x = .bl b := by
  obtain ⟨Z, ws, Φ, Ψ, EE⟩ := E
  obtain ⟨Θ1, r1⟩ := EE.view (n := 0) (e := .tr (.a (.bl b))) rfl rfl rfl
  exact r1.1
theorem st_and {t u : TT} {h : GE} (hs : ST K md W t g) (hu : ST K md W u h) : ST K md W (tAnd t u) (gAnd g h) := by
  intro c σ H m us Q rr hc E hg hp
  simp only [gAnd] at hg
  split at hg
  · rename_i g' s' h1
    exact hs c σ H m us _ _ hc E h1 fun H' E' => iteT (hu c σ H' _ us _ _ hc E' hg hp)
  · rename_i g' s' h1
    cases hg
    exact hs c σ H m us _ _ hc E h1 fun H' E' => iteF (hp H' E')
  · rename_i C g' h1
    cases hg
    exact hs c σ H m us _ _ hc E h1 hp
  · cases hg
theorem st_or {t u : TT} {h : GE} (hs : ST K md W t g) (hu : ST K md W u h) : ST K md W (tOr t u) (gOrB g h) := by
  intro c σ H m us Q rr hc E hg hp
  simp only [gOrB] at hg
  split at hg
  · rename_i g' s' h1
    exact hs c σ H m us _ _ hc E h1 fun H' E' => iteF (hu c σ H' _ us _ _ hc E' hg hp)
  · rename_i g' s' h1
    cases hg
    exact hs c σ H m us _ _ hc E h1 fun H' E' => iteT (hp H' E')
  · rename_i C g' h1
    cases hg
    exact hs c σ H m us _ _ hc E h1 hp
  · cases hg
theorem se_and {h : GE} (hs : SE K md W ta g) (hu : SE K md W tb h) : SE K md W (tAndV ta tb) (gAnd g h) := by
  intro c σ H m us Q rr hc E hg hp
  simp only [gAnd] at hg
  split at hg
  · rename_i g' s' h1
    exact hs c σ H m us _ _ hc E h1 fun x H' E' => ⟨true, top_bl E', iteT (hu c σ H' _ us _ _ hc E'.drop hg hp)⟩
  · rename_i g' s' h1
    cases hg
    exact hs c σ H m us _ _ hc E h1 fun x H' E' => ⟨false, top_bl E', iteF (hp _ H' (top_bl E' ▸ E'))⟩
  · rename_i C g' h1
    cases hg
    exact hs c σ H m us _ _ hc E h1 hp
  · cases hg
theorem se_or {h : GE} (hs : SE K md W ta g) (hu : SE K md W tb h) : SE K md W (tOrV ta tb) (gOrB g h) := by
  intro c σ H m us Q rr hc E hg hp
  simp only [gOrB] at hg
  split at hg
  · rename_i g' s' h1
    exact hs c σ H m us _ _ hc E h1 fun x H' E' => ⟨false, top_bl E', iteF (hu c σ H' _ us _ _ hc E'.drop hg hp)⟩
  · rename_i g' s' h1
    cases hg
    exact hs c σ H m us _ _ hc E h1 fun x H' E' => ⟨true, top_bl E', iteT (hp _ H' (top_bl E' ▸ E'))⟩
  · rename_i C g' h1
    cases hg
    exact hs c σ H m us _ _ hc E h1 hp
  · cases hg
theorem se_not (hs : SE K md W ta g) : SE K md W (tNotV ta) (gNot g) := by
  intro c σ H m us Q rr hc E hg hp
  simp only [gNot] at hg
  split at hg
  · rename_i g' b s' h1
    cases hg
    exact hs c σ H m us _ _ hc E h1 fun x H' E' => ⟨b, top_bl E', hp _ H' (E'.drop.atom _)⟩
  · rename_i C g' h1
    cases hg
    exact hs c σ H m us _ _ hc E h1 hp
  · cases hg
theorem me_one {op : BoolOp} (h : ME X T md W a g) : ME X T md W (.BoolOp op [a] pos) g := by
  obtain ⟨t, p, s⟩ := h
  exact ⟨_, pe_one p, s⟩
theorem me_and {h : GE} {rest : List Expr} (ha : ME X T md W a g) (hb : ME X T md W (.BoolOp .And (b :: rest) pos) h) : ME X T md W (.BoolOp .And (a :: b :: rest) pos) (gAnd g h) := by
  obtain ⟨t, p, s⟩ := ha
  obtain ⟨t', p', s'⟩ := hb
  exact ⟨_, pe_and p p', se_and s s'⟩
theorem me_or {h : GE} {rest : List Expr} (ha : ME X T md W a g) (hb : ME X T md W (.BoolOp .Or (b :: rest) pos) h) : ME X T md W (.BoolOp .Or (a :: b :: rest) pos) (gOrB g h) := by
  obtain ⟨t, p, s⟩ := ha
  obtain ⟨t', p', s'⟩ := hb
  exact ⟨_, pe_or p p', se_or s s'⟩
theorem me_not (h : ME X T md W a g) : ME X T md W (.UnaryOp .Not a pos) (gNot g) := by
  obtain ⟨t, p, s⟩ := h
  exact ⟨_, pe_not p, se_not s⟩
def gIf (c g h : GE) : GE := fun m => match c m with
  | some (.ok ⟨g', .tr (.a (.bl true)) :: s'⟩) => g ⟨g', s'⟩
  | some (.ok ⟨g', .tr (.a (.bl false)) :: s'⟩) => h ⟨g', s'⟩
  | some (.ex C g') => some (.ex C g')
  | _ => none
theorem mw_and1 (h : MT X T md W a g) : MW X T md W (.BoolOp .And [a] pos) g := by
  obtain ⟨t, p, s⟩ := h
  exact ⟨_, pw_and1 p, s⟩
theorem mw_or1 (h : MT X T md W a g) : MW X T md W (.BoolOp .Or [a] pos) g := by
  obtain ⟨t, p, s⟩ := h
  exact ⟨_, pw_or1 p, s⟩
theorem mw_and {h : GE} {rest : List Expr} (ha : MT X T md W a g) (hb : MW X T md W (.BoolOp .And (b :: rest) pos) h) : MW X T md W (.BoolOp .And (a :: b :: rest) pos) (gAnd g h) := by
  obtain ⟨t, p, s⟩ := ha
  obtain ⟨t', p', s'⟩ := hb
  exact ⟨_, pw_and p p', st_and s s'⟩
theorem mw_or {h : GE} {rest : List Expr} (ha : MT X T md W a g) (hb : MW X T md W (.BoolOp .Or (b :: rest) pos) h) : MW X T md W (.BoolOp .Or (a :: b :: rest) pos) (gOrB g h) := by
  obtain ⟨t, p, s⟩ := ha
  obtain ⟨t', p', s'⟩ := hb
  exact ⟨_, pw_or p p', st_or s s'⟩
theorem mw_pt (h : MW X T md W e g) : MT X T md W e g := by
  obtain ⟨t, p, s⟩ := h
  exact ⟨_, PW.pt p, s⟩
end
section
variable {K : KC} {X : Cx} {T : KT} {md : List Bool} {W : WX} {t ta tb : TE} {g ga gb f f' : GE} {e a b : Expr} {es : List Expr} {pos : Pos} {n : Nat} {r r' : R2} {v : V}
/-! arguments, displays -/
def gNil : GE := fun m => some (.ok m)
theorem ma_nil : MA X T md W [] gNil := ⟨_, pa_nil, fun c σ H m us Q rr hc E hg hp => by
  cases hg
  exact hp [] H rfl E⟩
theorem ma_cons (ha : ME X T md W e g) (hr : MA X T md W es f) (hs : starEach (e :: es) X.env = (false, eval e X.env) :: starEach es X.env := by rfl) : MA X T md W (e :: es) (gSeq g f) := by
  obtain ⟨t, p, s⟩ := ha
  obtain ⟨t', p', s'⟩ := hr
  refine ⟨_, pa_cons p p' hs, fun c σ H m us Q rr hc E hg hp => ?_⟩
  simp only [gSeq] at hg
  split at hg
  · rename_i m1 h1
    refine s c σ H m us _ _ hc E h1 fun x H1 E1 => s' c σ H1 m1 _ _ _ hc E1 hg ?_
    cases rr with
    | ex C g' => exact hp
    | ok m2 => exact fun vs H2 hl E2 => hp (x :: vs) H2 (by simp [hl]) (by simpa using E2)
  · rename_i h1
    refine s c σ H m us _ _ hc E hg ?_
    cases rr with
    | ex C g' => exact hp
    | ok m2 => exact absurd hg (h1 m2)
def popN : Nat → List Ent → Option (List Tr × List Ent)
  | 0, s => some ([], s)
  | n + 1, .tr t :: s => match popN n s with
    | some (ts, s') => some (ts ++ [t], s')
    | none => none
  | _, _ => none
theorem popN_eq : ∀ {n : Nat} {s s' : List Ent} {ts : List Tr}, popN n s = some (ts, s') → s = ts.reverse.map Ent.tr ++ s' ∧ ts.length = n
  | 0, s, s', ts, h => by
    simp only [popN] at h
    cases h
    exact ⟨rfl, rfl⟩
  | n + 1, s, s', ts, h => by
    match s, h with
    | .tr t :: s, h =>
      simp only [popN] at h
      split at h
      · rename_i ts1 s1 h1
        cases h
        obtain ⟨rfl, rfl⟩ := popN_eq h1
        exact ⟨by simp, by simp⟩
      · cases h
/-- a new object of the n values on top -/
def fNew (k : Nk) (n : Nat) : GE := fun m => match popN n m.s with
  | some (ts, s') => match mkN k ts with
    | some t => some (.ok ⟨m.g, .tr t :: s'⟩)
    | none => none
  | none => none
theorem fNew_ok {c : Cz} {σ : St} {H : Hp} {m : Ms} {us vs : List V} {Q : VK} {rr : Rs} {k : Nk} {ob : HO} (E : EnvOk K c σ H m.g m.s (vs.reverse ++ us)) (hl : vs.length = n) (hf : fNew k n m = some rr) (hp : PostE K c W σ us Q rr) (ho : ∀ o pa, ObjAt K k o (upd H pa ob) pa vs) : ∀ pa, H pa = none → Q (.ref pa) (upd H pa ob) := by
  intro pa np
  simp only [fNew] at hf
  split at hf
  · rename_i ts s' h1
    split at hf
    · rename_i t h2
      cases hf
      obtain ⟨e1, e2⟩ := popN_eq h1
      rw [e1] at E
      exact hp _ _ (E.new (by omega) np h2 fun o => ho o pa)
    · cases hf
  · cases hf
theorem me_lst (h : MA X T md W es g) (hl : es.length ≤ sizeLine) : ME X T md W (.List es pos) (gSeq g (fNew .lst es.length)) := by
  obtain ⟨t, p, s⟩ := h
  refine ⟨_, pe_lst p, fun c σ H m us Q rr hc E hg hp => ?_⟩
  simp only [gSeq] at hg
  split at hg
  · rename_i m1 h1
    exact s c σ H m us _ _ hc E h1 fun vs H1 hv E1 => ⟨by omega, fNew_ok E1 hv hg hp fun o pa => upd_same⟩
  · rename_i h1
    refine s c σ H m us _ _ hc E hg ?_
    cases rr with
    | ex C g' => exact hp
    | ok m2 => exact absurd hg (h1 m2)
theorem me_tup {x1 : Nat} (h : MA X T md W es g) (hl : es.length ≤ sizeLine) : ME X T md W (.Tuple es x1 pos) (gSeq g (fNew .tup es.length)) := by
  obtain ⟨t, p, s⟩ := h
  refine ⟨_, pe_tup p, fun c σ H m us Q rr hc E hg hp => ?_⟩
  simp only [gSeq] at hg
  split at hg
  · rename_i m1 h1
    exact s c σ H m us _ _ hc E h1 fun vs H1 hv E1 => ⟨by omega, fNew_ok E1 hv hg hp fun o pa => .inl upd_same⟩
  · rename_i h1
    refine s c σ H m us _ _ hc E hg ?_
    cases rr with
    | ex C g' => exact hp
    | ok m2 => exact absurd hg (h1 m2)
/-! a thing is handed on: what a name held alone goes out of it -/
def fMv (md : List Bool) : GE := fun m => match m.s with
  | .tr t :: s => some (.ok ⟨m.g, .tr t :: s⟩)
  | .al [j] :: s => if md.getD j false = true then none else match m.g[j]? with
    | some (.tr t) => some (.ok ⟨kill [j] (m.g.set j (.tr .any)), .tr t :: kill [j] s⟩)
    | _ => none
  | _ => none
theorem EnvOk.drop2 {c : Cz} {σ : St} {H : Hp} {Γ τ : List Ent} {tr : Tr} {p : List Nat} {us : List V} {x y : V} (E : EnvOk K c σ H Γ (.tr tr :: .al p :: τ) (x :: y :: us)) : EnvOk K c σ H Γ (.tr tr :: τ) (x :: us) := by
  obtain ⟨Z, ws, Φ, Ψ, EE⟩ := E
  refine EE.swapE (τ1 := [.tr tr, .al p]) (us1 := [x, y]) (τ1' := [.tr tr]) (us1' := [x]) rfl (by simp) (fun Ψ1 r zo => ?_) rfl
  have hs := RepL.isS _ r
  obtain ⟨v0, vs0, Θ1, Θ2, e1, a1, a2, ad, au⟩ := r
  cases e1
  exact ⟨Z, Θ1, ⟨x, [], Θ1, fun _ => False, rfl, a1, ⟨rfl, fun _ h => h⟩, by simp, by simp⟩, .same _ _ _ EE.zs hs _ fun b q => ⟨(au b).mpr (.inl q), zo b ((au b).mpr (.inl q))⟩⟩
theorem fMv_ok {c : Cz} {σ : St} {H : Hp} {m m' : Ms} {us : List V} {x : V} (E : EnvOk K c σ H m.g m.s (x :: us)) (hf : fMv md m = some (.ok m')) : EnvOk K c σ H m'.g m'.s (x :: us) := by
  simp only [fMv] at hf
  split at hf
  · rename_i t s hs
    cases hf
    rw [hs] at E
    exact E
  · rename_i j s hs
    split at hf
    · cases hf
    · split at hf
      · rename_i t ht
        cases hf
        rw [hs] at E
        have := EnvOk.drop2 (E.ext (t := t) (by simp [getG, ht, getT]))
        simpa [setG, ht, setT] using this
      · cases hf
  · cases hf
theorem fMv_ex {m : Ms} {C : Nat} {g' : List Ent} : fMv md m ≠ some (.ex C g') := by
  intro h
  simp only [fMv] at h
  split at h
  · cases h
  · split at h
    · cases h
    · split at h <;> cases h
  · cases h
theorem me_mv (h : ME X T md W e g) : ME X T md W e (gSeq g (fMv md)) := by
  obtain ⟨t, p, s⟩ := h
  refine ⟨_, p, fun c σ H m us Q rr hc E hg hp => ?_⟩
  simp only [gSeq] at hg
  split at hg
  · rename_i m1 h1
    cases rr with
    | ex C g' => exact absurd hg fMv_ex
    | ok m2 => exact s c σ H m us _ _ hc E h1 fun x H1 E1 => hp x H1 (fMv_ok E1 hg)
  · rename_i h1
    refine s c σ H m us _ _ hc E hg ?_
    cases rr with
    | ex C g' => exact hp
    | ok m2 => exact absurd hg (h1 m2)
/-- what is on top is never changed any more -/
def fFrz : GE := fun m => match m.s with
  | .tr t :: s => if esc t = true then some (.ok ⟨m.g, .tr (kid .frz t) :: s⟩) else none
  | _ => none
theorem me_frz (h : ME X T md W e g) : ME X T md W e (gSeq g fFrz) := by
  obtain ⟨t, p, s⟩ := h
  refine ⟨_, p, fun c σ H m us Q rr hc E hg hp => ?_⟩
  simp only [gSeq] at hg
  split at hg
  · rename_i m1 h1
    simp only [fFrz] at hg
    split at hg
    · rename_i t s1 hs
      split at hg
      · rename_i he
        cases hg
        exact s c σ H m us _ _ hc E h1 fun x H1 E1 => hp x H1 (EnvOk.freeze (hs ▸ E1) he)
      · cases hg
    · cases hg
  · rename_i h1
    refine s c σ H m us _ _ hc E hg ?_
    cases rr with
    | ex C g' => exact hp
    | ok m2 => exact absurd hg (h1 m2)
/-! fields -/
theorem lookup_zip {f : Str} : ∀ {ns : List Str} {vs : List V} {j : Nat}, ns.idxOf? f = some j → ns.length = vs.length → (ns.zip vs).lookup f = vs[j]?
  | [], _, _, h, _ => by simp at h
  | n :: ns, [], _, _, l => by simp at l
  | n :: ns, v :: vs, j, h, l => by
    rw [List.idxOf?_cons] at h
    rw [List.zip_cons_cons, List.lookup_cons]
    by_cases e : n = f
    · subst e
      simp at h
      subst h
      simp
    · have e1 : (n == f) = false := by simpa using e
      have e2 : (f == n) = false := by simpa using fun q : f = n => e q.symm
      rw [e1] at h
      simp only [Bool.false_eq_true, if_false, Option.map_eq_some_iff] at h
      obtain ⟨j', h1, rfl⟩ := h
      rw [e2]
      simpa using lookup_zip h1 (by simpa using l)
theorem idx_take {f : Str} : ∀ {ns : List Str} {j k : Nat}, ns.idxOf? f = some j → j < k → (ns.take k).idxOf? f = some j
  | [], _, _, h, _ => by simp at h
  | n :: ns, j, 0, h, l => by omega
  | n :: ns, j, k + 1, h, l => by
    rw [List.take_succ_cons]
    rw [List.idxOf?_cons] at h ⊢
    by_cases e : (n == f) = true
    · rw [if_pos e] at h ⊢
      exact h
    · rw [if_neg e] at h ⊢
      simp only [Option.map_eq_some_iff] at h ⊢
      obtain ⟨j', h1, rfl⟩ := h
      exact ⟨j', idx_take h1 (by omega), rfl⟩
/-- the classes that have a field f, with its place -/
def FldOk (K : PySem.W.Frag) (T : KT) (f : Str) (tab : List (Nat × Nat)) : Prop := ∀ n j, (n, j) ∈ tab → Cls K (T.ct n) ∧ NoAttr K (T.ct n) f ∧ (T.nm n).idxOf? f = some j
def fFld (tab : List (Nat × Nat)) : GE := fun m => match m.s with
  | e :: s => match viewE m.g e with
    | some (.nd (.ins n k) o ts) => match tab.lookup n with
      | some j => match kidE e (.ins n k) o ts j with
        | some e' => some (.ok ⟨m.g, e' :: s⟩)
        | none => none
      | none => none
    | _ => none
  | _ => none
theorem mem_lookup {α : Type} : ∀ {tab : List (Nat × α)} {n : Nat} {j : α}, tab.lookup n = some j → (n, j) ∈ tab
  | [], _, _, h => by simp at h
  | (n', j') :: tab, n, j, h => by
    rw [List.lookup_cons] at h
    by_cases e : (n == n') = true
    · rw [e] at h
      simp only [Option.some.injEq] at h
      have : n = n' := by simpa using e
      subst this h
      exact List.mem_cons_self
    · have e : (n == n') = false := by simpa using e
      rw [e] at h
      exact List.mem_cons_of_mem _ (mem_lookup h)
theorem me_fld {fl : Str} {tab : List (Nat × Nat)} (h : ME X T md W e g) (ht : FldOk X.K T fl tab) (hb : attributeBase e fl X.env (eval e X.env) = eval e X.env := by rfl) : ME X T md W (.Attribute e fl pos) (gSeq g (fFld tab)) := by
  obtain ⟨t, p, s⟩ := h
  refine ⟨_, pe_fld p hb, fun c σ H m us Q rr hc E hg hp => ?_⟩
  simp only [gSeq] at hg
  split at hg
  · rename_i m1 h1
    refine s c σ H m us _ _ hc E h1 fun x H1 E1 => ?_
    simp only [fFld] at hg
    split at hg
    · rename_i en s1 hs
      split at hg
      · rename_i nn k o ts hv
        split at hg
        · rename_i j hj
          split at hg
          · rename_i e' hk
            cases hg
            rw [hs] at E1
            obtain ⟨ad, vs, w', rfl, ho, hl, hw, E2⟩ := E1.kidOf hv hk
            obtain ⟨l, dx, ho⟩ := ho
            obtain ⟨c1, c2, c3⟩ := ht nn j (mem_lookup hj)
            have hjk : j < k := by
              have h1 := getq_lt' hw
              have h2 : ((T.nm nn).take k).length = vs.length := l
              rw [List.length_take] at h2
              omega
            refine ⟨ad, T.ct nn, dx, _, w', rfl, ho, c1, c2, ?_, hp w' H1 E2⟩
            rw [lookup_zip (idx_take c3 hjk) l]
            exact hw
          · cases hg
        · cases hg
      · cases hg
    · cases hg
  · rename_i h1
    refine s c σ H m us _ _ hc E hg ?_
    cases rr with
    | ex C g' => exact hp
    | ok m2 => exact absurd hg (h1 m2)
/-! subscripts of lists and tuples -/
def fIx : GE := fun m => match m.s with
  | .tr (.a (.int i)) :: e :: s => match viewE m.g e with
    | some (.nd .lst o ts) => match ixN ts.length i with
      | some j => match kidE e .lst o ts j with
        | some e' => some (.ok ⟨m.g, e' :: s⟩)
        | none => none
      | none => none
    | some (.nd .tup o ts) => match ixN ts.length i with
      | some j => match kidE e .tup o ts j with
        | some e' => some (.ok ⟨m.g, e' :: s⟩)
        | none => none
      | none => none
    | _ => none
  | _ => none
theorem objL {H : Hp} {ad : Addr} {vs : List V} {o : Ow} (h : ObjAt K .lst o H ad vs) : SqL K.K H ad vs := .inl (.inl h)
theorem objT {H : Hp} {ad : Addr} {vs : List V} {o : Ow} (h : ObjAt K .tup o H ad vs) : SqT K.K H ad vs := by
  rcases h with h | (h | ⟨_, h⟩) | h
  · exact .inl (.inl h)
  · cases h
  · cases h
  · exact .inr h
theorem top_a {c : Cz} {σ : St} {H : Hp} {g' s' : List Ent} {x u : V} {us : List V} (E : EnvOk K c σ H g' (.tr (.a u) :: s') (x :: us)) : x = u := by
  obtain ⟨Z, ws, Φ, Ψ, EE⟩ := E
  obtain ⟨Θ1, r1⟩ := EE.view (n := 0) (e := .tr (.a u)) rfl rfl rfl
  exact r1.1
theorem fIx_ok : RA2 K md W (fun x y H Q => rIxL K.K x y H Q ∨ rIxT K.K x y H Q) fIx := by
  refine .mk fun c σ H m us x y Q rr hc E hf hp => ?_
  simp only [fIx] at hf
  split at hf
  · rename_i i e s hs
    rw [hs] at E
    have ey := top_a E
    subst ey
    have E1 := E.drop
    split at hf
    · rename_i o ts hv
      split at hf
      · rename_i j hj
        split at hf
        · rename_i e' hk
          cases hf
          obtain ⟨ad, vs, w', rfl, ho, hl, hw, E2⟩ := E1.kidOf hv hk
          refine .inl ⟨ad, vs, i, w', rfl, rfl, objL ho, ?_, hp w' H E2⟩
          unfold atI
          rw [← hl, hj]
          exact hw
        · cases hf
      · cases hf
    · rename_i o ts hv
      split at hf
      · rename_i j hj
        split at hf
        · rename_i e' hk
          cases hf
          obtain ⟨ad, vs, w', rfl, ho, hl, hw, E2⟩ := E1.kidOf hv hk
          refine .inr ⟨ad, vs, i, w', rfl, rfl, objT ho, ?_, hp w' H E2⟩
          unfold atI
          rw [← hl, hj]
          exact hw
        · cases hf
      · cases hf
    · cases hf
  · cases hf
end
section
variable {K : KC} {X : Cx} {T : KT} {md : List Bool} {W : WX} {t ta tb : TE} {g ga gb f f' : GE} {e a b : Expr} {es : List Expr} {pos : Pos} {n : Nat} {r r' : R2} {v : V}
/-! numbers -/
def FI (C : Int → Int → Bool) (h : Int → Int → V) : Tr → Tr → Option V
  | .a (.int i), .a (.int j) => if C i j = true then some (h i j) else none
  | _, _ => none
def cT : Int → Int → Bool := fun _ _ => true
theorem FI_eq {C : Int → Int → Bool} {h : Int → Int → V} {tx ty : Tr} {u : V} (e : FI C h tx ty = some u) : ∃ i j, tx = .a (.int i) ∧ ty = .a (.int j) ∧ C i j = true ∧ u = h i j := by
  unfold FI at e
  split at e
  · rename_i i j
    split at e
    · rename_i hc
      exact ⟨i, j, rfl, rfl, hc, (Option.some.inj e).symm⟩
    · cases e
  · cases e
theorem fI_ok0 {h : Int → Int → V} : RA2 K md W (rI0 h) (fP2 (FI cT h)) := fP2_ok fun Z H x y tx ty u Φ Ψ Q r1 r2 e q => by
  obtain ⟨i, j, rfl, rfl, _, rfl⟩ := FI_eq e
  exact ⟨i, j, r1.1, r2.1, q⟩
theorem fI_ok {C : Int → Int → Bool} {P : Int → Int → Prop} {h : Int → Int → V} (hC : ∀ i j, C i j = true → P i j) : RA2 K md W (rI P h) (fP2 (FI C h)) := fP2_ok fun Z H x y tx ty u Φ Ψ Q r1 r2 e q => by
  obtain ⟨i, j, rfl, rfl, hc, rfl⟩ := FI_eq e
  exact ⟨i, j, r1.1, r2.1, hC i j hc, q⟩
def FS : Tr → Tr → Option V
  | .a (.str i), .a (.str j) => if i.length + j.length ≤ sizeLine then some (.str (i ++ j)) else none
  | _, _ => none
theorem fS_ok : RA2 K md W (fun x y H Q => ∃ i j, x = .str i ∧ y = .str j ∧ i.length + j.length ≤ sizeLine ∧ Q (.str (i ++ j)) H) (fP2 FS) := fP2_ok fun Z H x y tx ty u Φ Ψ Q r1 r2 e q => by
  unfold FS at e
  split at e
  · split at e
    · rename_i i j hc
      cases e
      exact ⟨i, j, r1.1, r2.1, hc, q⟩
    · cases e
  · cases e
/-! lists: + and * -/
/-- the items of a list that is read, to be put into a new one -/
def itemsE (e : Ent) (o : Ow) (ts : List Tr) : Option (List Tr) := match e with
  | .tr _ => some (ts.map (kid o))
  | _ => if cpL (ts.map (kid o)) = true then some (ts.map (kid o)) else none
def fCat : GE := fun m => match m.s with
  | y :: x :: s => match viewE m.g x, viewE m.g y with
    | some (.nd .lst o ts), some (.nd .lst o' us) => match itemsE x o ts, itemsE y o' us with
      | some ts', some us' => if ts.length + us.length ≤ sizeLine then match mkN .lst (ts' ++ us') with
          | some t => some (.ok ⟨m.g, .tr t :: s⟩)
          | none => none
        else none
      | _, _ => none
    | _, _ => none
  | _ => none
theorem RepL.kids {Z : Zn} {H : Hp} {o : Ow} : ∀ (ts : List Tr) {vs : List V} {Φ : Ps}, RepL K Z H o ts vs Φ → RepL K Z H .own (ts.map (kid o)) vs Φ
  | [], _, _, h => h
  | t :: ts, vs, Φ, h => by
    obtain ⟨v, vs', Φ1, Φ2, e, h1, h2, d, u⟩ := h
    exact ⟨v, vs', Φ1, Φ2, e, rep_kid.mpr h1, RepL.kids ts h2, d, u⟩
/-- the items of the thing on top, held by hand in its place -/
theorem EnvOk.items {c : Cz} {σ : St} {H : Hp} {Γ τ : List Ent} {us : List V} {w : V} {en : Ent} {k : Nk} {o : Ow} {ts ts' : List Tr} (E : EnvOk K c σ H Γ (en :: τ) (w :: us)) (hv : viewE Γ en = some (.nd k o ts)) (hi : itemsE en o ts = some ts') :
    ∃ ad vs, w = .ref ad ∧ ObjAt K k o H ad vs ∧ ts.length = vs.length ∧ ts' = ts.map (kid o) ∧ EnvOk K c σ H Γ (ts'.reverse.map Ent.tr ++ τ) (vs.reverse ++ us) := by
  obtain ⟨Z, ws, Φ, Ψ, EE⟩ := E
  have view : ∃ Θ, Rep K Z H .own (.nd k o ts) w Θ ∧ ((cpL (ts.map (kid o)) = true) ∨ ∃ Ψ2, RepL K Z H .own (trees [en]) [w] Θ ∧ RepL K Z H .own (trees τ) us Ψ2 ∧ (∀ b, ¬ (Θ b ∧ Ψ2 b)) ∧ ∀ b, Ψ b ↔ Θ b ∨ Ψ2 b) ∧ ts' = ts.map (kid o) := by
    cases en with
    | tr x =>
      obtain ⟨v0, vs0, Θ1, Θ2, e1, a1, a2, ad, au⟩ := EE.tm
      cases e1
      simp only [viewE] at hv
      cases hv
      simp only [itemsE] at hi
      exact ⟨Θ1, a1, .inr ⟨Θ2, ⟨w, [], Θ1, fun _ => False, rfl, a1, ⟨rfl, fun _ h => h⟩, by simp, by simp⟩, a2, ad, au⟩, (Option.some.inj hi).symm⟩
    | no => simp [viewE] at hv
    | al p =>
      obtain ⟨Θ, r⟩ := EE.view (n := 0) rfl rfl hv
      simp only [itemsE] at hi
      split at hi
      · rename_i hc
        exact ⟨Θ, r, .inl hc, (Option.some.inj hi).symm⟩
      · cases hi
  obtain ⟨Θ, r, hor, ets⟩ := view
  obtain ⟨ad, vs, Ξ, rfl, ho, hl, hn⟩ := id r
  have ho : ObjAt K k o H ad vs := ho
  have hl : RepL K Z H o ts vs Ξ := hl
  have hn : Nod Z k o ad ts Ξ Θ := hn
  have hsub : ∀ b, Ξ b → Θ b := fun b q => by
    by_cases eo : o = .own
    · exact hn.sub eo b q
    · exact absurd q (RepL.no0 _ eo hl b)
  have r2 := RepL.reverse _ (RepL.kids _ hl)
  refine ⟨ad, vs, rfl, ho, RepL.len _ hl, ets, ?_⟩
  have hlen := RepL.len _ hl
  subst ets
  rcases hor with hc | ⟨Ψ2, r3, r4, d, u⟩
  · have n0 := RepL.cp0 _ (RepL.kids _ hl) hc
    refine EE.swapE (τ1 := [en]) (us1 := [.ref ad]) (us1' := vs.reverse) rfl (by simp) (fun Ψ1 r zo => ⟨Z, Ξ, by rw [trees_tr]; exact r2, .same _ _ _ EE.zs (fun b q => RepL.isS _ r b q) _ fun b q => absurd q (n0 b)⟩) (by simp [hlen])
  · exact EE.swapX (τ1 := [en]) (us1 := [.ref ad]) (us1' := vs.reverse) rfl (by simp) r3 r4 d u (by rw [trees_tr]; exact r2) (.same _ _ _ EE.zs (Rep.isS _ r) _ fun b q => ⟨hsub b q, (EE.zo b (.inr ((u b).mpr (.inl (hsub b q))))).2⟩) (by simp [hlen])
/-- the second thing comes on top -/
theorem RepL.swap2 {Z : Zn} {H : Hp} {m : Ow} {t1 t2 : Tr} {ts : List Tr} {v1 v2 : V} {vs : List V} {Φ : Ps} (h : RepL K Z H m (t1 :: t2 :: ts) (v1 :: v2 :: vs) Φ) : RepL K Z H m (t2 :: t1 :: ts) (v2 :: v1 :: vs) Φ := by
  obtain ⟨_, _, Φ1, Φ2, e, h1, ⟨_, _, Φ3, Φ4, e', h2, h3, d', u'⟩, d, u⟩ := h
  cases e
  cases e'
  exact ⟨_, _, Φ3, fun b => Φ1 b ∨ Φ4 b, rfl, h2, ⟨_, _, Φ1, Φ4, rfl, h1, h3, by grind, fun _ => Iff.rfl⟩, by grind, by grind⟩
theorem EnvOk.swap2 {c : Cz} {σ : St} {H : Hp} {Γ τ : List Ent} {us : List V} {v1 v2 : V} {e1 e2 : Ent} (E : EnvOk K c σ H Γ (e1 :: e2 :: τ) (v1 :: v2 :: us)) : EnvOk K c σ H Γ (e2 :: e1 :: τ) (v2 :: v1 :: us) := by
  obtain ⟨Z, ws, Φ, Ψ, sl, tm, dj, so, to, ln, zo, zf, z0, zs, st, pv⟩ := E
  refine ⟨Z, ws, Φ, Ψ, ⟨sl, RepL.swap2 tm, dj, so, ?_, ln, zo, zf, z0, zs, st, pv⟩⟩
  intro i p hi
  match i with
  | 0 => exact to 1 p (by simpa using hi)
  | 1 => exact to 0 p (by simpa using hi)
  | i + 2 => exact to (i + 2) p (by simpa using hi)
/-- the order of what is held by hand does not matter -/
theorem RepL.perm {Z : Zn} {H : Hp} {m : Ow} {l l' : List (Ent × V)} (h : l.Perm l') : ∀ {Φ : Ps}, RepL K Z H m (l.map (·.1.tree)) (l.map (·.2)) Φ → RepL K Z H m (l'.map (·.1.tree)) (l'.map (·.2)) Φ := by
  induction h with
  | nil => intro Φ h; exact h
  | cons x _ ih =>
    intro Φ h
    obtain ⟨v, vs', Φ1, Φ2, e, h1, h2, d, u⟩ := h
    cases e
    exact ⟨_, _, Φ1, Φ2, rfl, h1, ih h2, d, u⟩
  | swap x y l => intro Φ h; exact RepL.swap2 h
  | trans _ _ ih1 ih2 => intro Φ h; exact ih2 (ih1 h)
theorem EnvOk.perm {c : Cz} {σ : St} {H : Hp} {Γ : List Ent} {l l' : List (Ent × V)} (h : l.Perm l') (E : EnvOk K c σ H Γ (l.map (·.1)) (l.map (·.2))) : EnvOk K c σ H Γ (l'.map (·.1)) (l'.map (·.2)) := by
  obtain ⟨Z, ws, Φ, Ψ, sl, tm, dj, so, to, ln, zo, zf, z0, zs, st, pv⟩ := E
  have et : ∀ l : List (Ent × V), trees (l.map (·.1)) = l.map (·.1.tree) := fun l => by simp [trees, List.map_map]
  have tm : RepL K Z H .own (l.map (·.1.tree)) (l.map (·.2)) Ψ := by rw [← et]; exact tm
  refine ⟨Z, ws, Φ, Ψ, ⟨sl, by rw [et]; exact RepL.perm h tm, dj, so, ?_, ln, zo, zf, z0, zs, st, pv⟩⟩
  intro i p hi
  rw [List.getElem?_map] at hi ⊢
  cases q : l'[i]? with
  | none => simp [q] at hi
  | some x =>
    obtain ⟨j, hj⟩ := List.getElem?_of_mem (h.mem_iff.mpr (List.mem_of_getElem? q))
    have := to j p (by rw [List.getElem?_map, hj]; simpa [q] using hi)
    rw [List.getElem?_map, hj] at this
    simpa using this
theorem EnvOk.permA {c : Cz} {σ : St} {H : Hp} {Γ A B τ : List Ent} {va vb us : List V} (la : A.length = va.length) (lb : B.length = vb.length) (E : EnvOk K c σ H Γ (A ++ (B ++ τ)) (va ++ (vb ++ us))) : EnvOk K c σ H Γ (B ++ (A ++ τ)) (vb ++ (va ++ us)) := by
  have lt : τ.length = us.length := by
    obtain ⟨Z, ws, Φ, Ψ, EE⟩ := E
    have := RepL.len _ EE.tm
    simp [trees] at this
    omega
  have h := EnvOk.perm (K := K) (c := c) (σ := σ) (H := H) (Γ := Γ) (l := A.zip va ++ (B.zip vb ++ τ.zip us)) (l' := B.zip vb ++ (A.zip va ++ τ.zip us)) (by
    rw [← List.append_assoc, ← List.append_assoc]
    exact List.Perm.append_right _ List.perm_append_comm)
  simp only [List.map_append, List.map_fst_zip (Nat.le_of_eq la), List.map_snd_zip (Nat.le_of_eq la.symm), List.map_fst_zip (Nat.le_of_eq lb), List.map_snd_zip (Nat.le_of_eq lb.symm), List.map_fst_zip (Nat.le_of_eq lt), List.map_snd_zip (Nat.le_of_eq lt.symm)] at h
  exact h E
theorem fCat_ok : RA2 K md W rCat fCat := by
  refine .mk fun c σ H m us x y Q rr hc E hf hp => ?_
  simp only [fCat] at hf
  split at hf
  · rename_i ey ex s hs
    split at hf
    · rename_i o ts o' us' hx hy
      split at hf
      · rename_i ts' us2 h1 h2
        split at hf
        · rename_i hlen
          split at hf
          · rename_i tn hn
            cases hf
            rw [hs] at E
            obtain ⟨ad, vs, rfl, ho, hl, e1, E1⟩ := E.items hy h2
            have l2 : us2.length = vs.length := by rw [e1]; simpa using hl
            have E2 := EnvOk.permA (B := [ex]) (vb := [x]) (by simp [l2]) rfl E1
            obtain ⟨ad2, vs2, rfl, ho2, hl2, e2, E3⟩ := EnvOk.items (τ := us2.reverse.map Ent.tr ++ s) (us := vs.reverse ++ us) E2 hx h1
            have l1 : ts'.length = vs2.length := by rw [e2]; simpa using hl2
            refine ⟨ad2, ad, vs2, vs, rfl, rfl, ho2, ho, by omega, fun p np => hp _ _ ?_⟩
            have E4 := EnvOk.permA (A := ts'.reverse.map Ent.tr) (B := us2.reverse.map Ent.tr) (va := vs2.reverse) (vb := vs.reverse) (by simp [l1]) (by simp [l2]) E3
            refine EnvOk.new (ts := ts' ++ us2) (vs := vs2 ++ vs) (by simpa using E4) (by simp [l1, l2]) np hn fun o => upd_same
          · cases hf
        · cases hf
      · cases hf
    · cases hf
  · cases hf
def fRep : GE := fun m => match m.s with
  | .tr (.a (.int k)) :: x :: s => match viewE m.g x with
    | some (.nd .lst o ts) => if cpL (ts.map (kid o)) = true ∧ -(2 ^ 63) ≤ k ∧ k < 2 ^ 63 ∧ ts.length * k.toNat ≤ sizeLine then match mkN .lst (List.replicate k.toNat (ts.map (kid o))).flatten with
        | some t => some (.ok ⟨m.g, .tr t :: s⟩)
        | none => none
      else none
    | _ => none
  | _ => none
theorem RepL.rep {Z : Zn} {H : Hp} {ts : List Tr} {vs : List V} {Φ : Ps} (h : RepL K Z H .own ts vs Φ) (hc : cpL ts = true) : ∀ k : Nat, ∃ Ψ, RepL K Z H .own (List.replicate k ts).flatten (List.replicate k vs).flatten Ψ ∧ ∀ b, ¬ Ψ b
  | 0 => ⟨fun _ => False, ⟨rfl, fun _ h => h⟩, fun _ h => h⟩
  | k + 1 => by
    obtain ⟨Ψ, r, n⟩ := RepL.rep h hc k
    have n0 := RepL.cp0 _ h hc
    refine ⟨fun b => Φ b ∨ Ψ b, ?_, by grind⟩
    rw [List.replicate_succ, List.replicate_succ, List.flatten_cons, List.flatten_cons]
    exact RepL.append _ h r (by grind)
theorem fRep_ok : RA2 K md W rRep fRep := by
  refine .mk fun c σ H m us x y Q rr hc E hf hp => ?_
  simp only [fRep] at hf
  split at hf
  · rename_i k ex s hs
    split at hf
    · rename_i o ts hx
      split at hf
      · rename_i hg
        split at hf
        · rename_i tn hn
          cases hf
          rw [hs] at E
          have ey := top_a E
          subst ey
          obtain ⟨ad, vs, rfl, ho, hl, _, E1⟩ := E.drop.items (ts' := ts.map (kid o)) hx (by
            cases ex with
            | tr _ => rfl
            | no => simp [viewE] at hx
            | al p => simp only [itemsE]; rw [if_pos hg.1])
          refine ⟨ad, k, vs, rfl, rfl, ho, hg.2.1, hg.2.2.1, by rw [← hl]; exact hg.2.2.2, fun p np => hp _ _ ?_⟩
          obtain ⟨Z, ws, Φ, Ψ, EE⟩ := E1
          refine EnvOk.new (ts := (List.replicate k.toNat (ts.map (kid o))).flatten) (vs := (List.replicate k.toNat vs).flatten) ?_ (by simp [hl]) np hn fun o => upd_same
          refine EE.swapE (by simp [hl]) (fun e he p => by obtain ⟨x, _, rfl⟩ := List.mem_map.mp he; exact fun q => by cases q) (fun Ψ1 r zo => ?_) (by simp [hl])
          rw [trees_tr] at r ⊢
          have r0 := RepL.reverse _ r
          rw [List.reverse_reverse, List.reverse_reverse] at r0
          obtain ⟨Ψ2, r2, n2⟩ := RepL.rep r0 hg.1 k.toNat
          exact ⟨Z, Ψ2, RepL.reverse _ r2, .same _ _ _ EE.zs (RepL.isS _ r) _ fun b q => absurd q (n2 b)⟩
        · cases hf
      · cases hf
    · cases hf
  · cases hf
/-! + - * // % -/
instance (i j : Int) : Decidable (CMul i j) := by unfold CMul; infer_instance
def cMul : Int → Int → Bool := fun i j => decide (CMul i j)
def cPos : Int → Int → Bool := fun _ j => decide (0 < j)
def cDiv : Int → Int → Bool := fun i j => decide (0 < j ∧ j < 1073741824)
def fAdd : GE := gOr (fP2 (FI cT fun i j => .int (i + j))) (gOr (fP2 FS) fCat)
def fSub : GE := fP2 (FI cT fun i j => .int (i - j))
def fMul : GE := gOr (fP2 (FI cMul fun i j => .int (i * j))) fRep
def fMod : GE := fP2 (FI cPos fun i j => .int (i % j))
def fDiv : GE := fP2 (FI cDiv fun i j => .int (i / j))
theorem me_add (ha : ME X T md W a ga) (hb : ME X T md W b gb) : ME X T md W (.BinOp a .Add b pos) (gSeq (gSeq ga gb) fAdd) := me_bin (op_add.or (op_add_str.or op_cat)) (fI_ok0.or (fS_ok.or fCat_ok)) ha hb
theorem me_sub (ha : ME X T md W a ga) (hb : ME X T md W b gb) : ME X T md W (.BinOp a .Sub b pos) (gSeq (gSeq ga gb) fSub) := me_bin op_sub fI_ok0 ha hb
theorem me_mul (ha : ME X T md W a ga) (hb : ME X T md W b gb) : ME X T md W (.BinOp a .Mult b pos) (gSeq (gSeq ga gb) fMul) := me_bin (op_mul.or op_rep) ((fI_ok (C := cMul) fun _ _ h => of_decide_eq_true h).or fRep_ok) ha hb
theorem me_mod (ha : ME X T md W a ga) (hb : ME X T md W b gb) : ME X T md W (.BinOp a .Mod b pos) (gSeq (gSeq ga gb) fMod) := me_bin op_mod (fI_ok (C := cPos) fun _ _ h => of_decide_eq_true h) ha hb
theorem me_div (ha : ME X T md W a ga) (hb : ME X T md W b gb) : ME X T md W (.BinOp a .FloorDiv b pos) (gSeq (gSeq ga gb) fDiv) := me_bin op_fdiv (fI_ok (C := cDiv) fun i j h => (of_decide_eq_true h : 0 < j ∧ j < 1073741824)) ha hb
/-! comparisons -/
def fLt : GE := fP2 (FI cT fun i j => .bl (decide (i < j)))
def fLe : GE := fP2 (FI cT fun i j => .bl (decide (i ≤ j)))
def fGt : GE := fP2 (FI cT fun i j => .bl (decide (j < i)))
def fGe : GE := fP2 (FI cT fun i j => .bl (decide (j ≤ i)))
mutual
def toD : Tr → Option PyData
  | .a .non => some .none
  | .a (.bl b) => some (.bool b)
  | .a (.int i) => some (.int i)
  | .a (.str x) => some (.str x)
  | .nd .lst _ ts => match toDL ts with
    | some ds => some (.list ds)
    | none => none
  | .nd .tup _ ts => match toDL ts with
    | some ds => some (.tuple ds)
    | none => none
  | _ => none
def toDL : List Tr → Option (List PyData)
  | [] => some []
  | t :: ts => match toD t, toDL ts with
    | some d, some ds => some (d :: ds)
    | _, _ => none
end
mutual
theorem toD_ok {Z : Zn} {H : Hp} : ∀ (t : Tr) {m : Ow} {v : V} {Φ : Ps} {d : PyData}, Rep K Z H m t v Φ → toD t = some d → Dp K.K H v d
  | .any, _, _, _, _, _, e => by simp [toD] at e
  | .a u, _, v, _, d, h, e => by
    obtain ⟨rfl, _⟩ := h
    cases v <;> simp [toD] at e <;> subst e <;> constructor
  | .nd k o ts, m, v, Φ, d, h, e => by
    obtain ⟨ad, vs, Ψ, rfl, ho, hl, hn⟩ := h
    cases k with
    | lst =>
      simp only [toD] at e
      split at e
      · rename_i ds hd
        cases e
        exact .lst (objL ho) (toDL_ok ts hl hd)
      · cases e
    | tup =>
      simp only [toD] at e
      split at e
      · rename_i ds hd
        cases e
        exact .tup (objT ho) (toDL_ok ts hl hd)
      · cases e
    | ins _ _ => simp [toD] at e
    | dct _ => simp [toD] at e
    | dcT _ => simp [toD] at e
    | sti _ => simp [toD] at e
theorem toDL_ok {Z : Zn} {H : Hp} : ∀ (ts : List Tr) {m : Ow} {vs : List V} {Φ : Ps} {ds : List PyData}, RepL K Z H m ts vs Φ → toDL ts = some ds → DpAll K.K H vs ds
  | [], _, vs, _, ds, h, e => by
    obtain ⟨rfl, _⟩ := h
    simp only [toDL] at e
    cases e
    exact .nil
  | t :: ts, m, vs, Φ, ds, h, e => by
    obtain ⟨v, vs', Φ1, Φ2, rfl, h1, h2, _, _⟩ := h
    simp only [toDL] at e
    split at e
    · rename_i d ds' hd hds
      cases e
      exact .cons (toD_ok t h1 hd) (toDL_ok ts h2 hds)
    · cases e
end
def FEq (neg : Bool) : Tr → Tr → Option V
  | .a u, .a v => if scal u v = true then some (.bl (if neg then !decide (u = v) else decide (u = v))) else none
  | tx, ty => match toD tx, toD ty with
    | some d, some e => if SeqAt.shaped d = true ∧ SeqAt.shaped e = true then some (.bl (if neg then !PyData.eqv d e else PyData.eqv d e)) else none
    | _, _ => none
def fEq : GE := fP2 (FEq false)
def fNe : GE := fP2 (FEq true)
theorem FEq_eq {neg : Bool} {tx ty : Tr} {u : V} (h : FEq neg tx ty = some u) : (∃ x y, tx = .a x ∧ ty = .a y ∧ scal x y = true ∧ u = .bl (if neg then !decide (x = y) else decide (x = y))) ∨ ∃ d e, toD tx = some d ∧ toD ty = some e ∧ SeqAt.shaped d = true ∧ SeqAt.shaped e = true ∧ u = .bl (if neg then !PyData.eqv d e else PyData.eqv d e) := by
  unfold FEq at h
  split at h
  · rename_i x y
    split at h
    · rename_i hc
      exact .inl ⟨x, y, rfl, rfl, hc, (Option.some.inj h).symm⟩
    · cases h
  · split at h
    · rename_i d e hd he
      split at h
      · rename_i hc
        exact .inr ⟨d, e, hd, he, hc.1, hc.2, (Option.some.inj h).symm⟩
      · cases h
    · cases h
theorem fEq_ok : RA2 K md W (fun x y H Q => rEq x y H Q ∨ rEqD K.K x y H Q) fEq := fP2_ok fun Z H x y tx ty u Φ Ψ Q r1 r2 e q => by
  rcases FEq_eq e with ⟨x', y', rfl, rfl, hc, rfl⟩ | ⟨d, e', hd, he, s1, s2, rfl⟩
  · obtain ⟨rfl, _⟩ := r1
    obtain ⟨rfl, _⟩ := r2
    exact .inl ⟨hc, q⟩
  · exact .inr ⟨d, e', toD_ok _ r1 hd, toD_ok _ r2 he, s1, s2, q⟩
theorem fNe_ok : RA2 K md W (fun x y H Q => rNe x y H Q ∨ rNeD K.K x y H Q) fNe := fP2_ok fun Z H x y tx ty u Φ Ψ Q r1 r2 e q => by
  rcases FEq_eq e with ⟨x', y', rfl, rfl, hc, rfl⟩ | ⟨d, e', hd, he, s1, s2, rfl⟩
  · obtain ⟨rfl, _⟩ := r1
    obtain ⟨rfl, _⟩ := r2
    exact .inl ⟨hc, q⟩
  · exact .inr ⟨d, e', toD_ok _ r1 hd, toD_ok _ r2 he, s1, s2, q⟩
/-- is None -/
def FIs (neg : Bool) : Tr → Tr → Option V
  | .a u, .a .non => some (.bl (if neg then !decide (u = .non) else decide (u = .non)))
  | .nd _ _ _, .a .non => some (.bl neg)
  | _, _ => none
def fIsN : GE := fP2 (FIs false)
def fNotN : GE := fP2 (FIs true)
theorem fNotN_ok : RA2 K md W (fun x y H Q => y = .non ∧ Q (.bl (!decide (x = .non))) H) fNotN := fP2_ok fun Z H x y tx ty u Φ Ψ Q r1 r2 e q => by
  unfold FIs at e
  split at e
  · cases e
    obtain ⟨rfl, _⟩ := r1
    exact ⟨r2.1, q⟩
  · cases e
    obtain ⟨ad, vs, Ξ, rfl, _⟩ := r1
    exact ⟨r2.1, q⟩
  · cases e
def FIsB (neg : Bool) : Tr → Tr → Option V
  | .a (.bl a), .a (.bl b) => some (.bl (if neg then !decide (a = b) else decide (a = b)))
  | _, _ => none
def fIsB : GE := fP2 (FIsB false)
/-- in, of flat things -/
def atoms : List Tr → Option (List V)
  | [] => some []
  | .a v :: ts => match atoms ts with
    | some vs => some (v :: vs)
    | none => none
  | _ => none
theorem atoms_ok {Z : Zn} {H : Hp} {m : Ow} : ∀ {ts : List Tr} {vs us : List V} {Φ : Ps}, RepL K Z H m ts vs Φ → atoms ts = some us → vs = us
  | [], _, _, _, h, e => by
    obtain ⟨rfl, _⟩ := h
    simp only [atoms] at e
    cases e
    rfl
  | t :: ts, vs, us, Φ, h, e => by
    obtain ⟨v, vs', Φ1, Φ2, rfl, h1, h2, _, _⟩ := h
    cases t with
    | a w =>
      simp only [atoms] at e
      split at e
      · rename_i us' he
        cases e
        rw [atoms_ok h2 he, h1.1]
      · cases e
    | any => simp [atoms] at e
    | nd _ _ _ => simp [atoms] at e
def FIn (neg : Bool) : Tr → Tr → Option V
  | .a x, .nd .lst _ ts => match atoms ts with
    | some vs => if flatV x = true ∧ vs.all flatV = true then some (.bl (if neg then !inV x vs else inV x vs)) else none
    | none => none
  | .a x, .nd .tup _ ts => match atoms ts with
    | some vs => if flatV x = true ∧ vs.all flatV = true then some (.bl (if neg then !inV x vs else inV x vs)) else none
    | none => none
  | _, _ => none
theorem fIn_ok {neg : Bool} : RA2 K md W (rIn K.K neg) (fP2 (FIn neg)) := fP2_ok fun Z H x y tx ty u Φ Ψ Q r1 r2 e q => by
  unfold FIn at e
  split at e
  · split at e
    · rename_i vs hv
      split at e
      · rename_i hc
        cases e
        obtain ⟨rfl, _⟩ := r1
        obtain ⟨ad, vs', Ξ, rfl, ho, hl, _⟩ := r2
        cases atoms_ok hl hv
        exact ⟨ad, vs, rfl, .inl (objL ho), hc.1, hc.2, q⟩
      · cases e
    · cases e
  · split at e
    · rename_i vs hv
      split at e
      · rename_i hc
        cases e
        obtain ⟨rfl, _⟩ := r1
        obtain ⟨ad, vs', Ξ, rfl, ho, hl, _⟩ := r2
        cases atoms_ok hl hv
        exact ⟨ad, vs, rfl, .inr (objT ho), hc.1, hc.2, q⟩
      · cases e
    · cases e
  · cases e
def fIn : GE := fP2 (FIn false)
def fNotIn : GE := fP2 (FIn true)
end
section
variable {K : KC} {X : Cx} {T : KT} {md : List Bool} {W : WX} {g ga gb f f' : GE} {e a b : Expr} {es : List Expr} {pos p : Pos} {n : Nat} {v : V} {x : Str} {id Ty : String} {q q' : List V → Hp → VK → Prop}
theorem se_cb {t : TA} (ha : SA K md W n t g) (hf : RA K md W n (fun _ => q) f) : SE K md W (tCB q t) (gSeq g f) := by
  intro c σ H m us Q rr hc E hg hp
  simp only [gSeq] at hg
  split at hg
  · rename_i m1 h1
    exact ha c σ H m us _ _ hc E h1 fun vs H1 hl E1 => hf c σ H1 m1 us vs Q rr hc hl E1 hg hp
  · rename_i h1
    refine ha c σ H m us _ _ hc E hg ?_
    cases rr with
    | ex C g' => exact hp
    | ok m2 => exact absurd hg (h1 m2)
theorem me_callB (hc : CallR X (.builtin id) q) (hf : RA (kcm X.K T) md W (e :: es).length (fun _ => q) f) (hg : Gl X x) (hm : X.mg x = none) (hv : bootBuiltins x = some (.builtin id)) (ha : MA X T md W (e :: es) g) (hn : x ≠ "__name__" := by decide) (hdb : (x == ("__debug__" : Str)) = false := by decide)
    (he : starEach (e :: es) X.env = (false, eval e X.env) :: starEach es X.env := by rfl) (hpl : (backTo pos (starEach es X.env)).any (·.1) = false := by rfl) : ME X T md W (.Call (.Name x p) (e :: es) [] pos) (gSeq g f) := by
  obtain ⟨t, pa, sa⟩ := ha
  exact ⟨_, pe_callB hc hg hm hv pa hn hdb he hpl, se_cb sa hf⟩
theorem me_callTy (hc : CallR X (.type Ty) q) (hf : RA (kcm X.K T) md W (e :: es).length (fun _ => q) f) (hg : Gl X x) (hm : X.mg x = none) (hv : bootBuiltins x = some (.type Ty)) (ha : MA X T md W (e :: es) g) (hn : x ≠ "__name__" := by decide) (hdb : (x == ("__debug__" : Str)) = false := by decide)
    (he : starEach (e :: es) X.env = (false, eval e X.env) :: starEach es X.env := by rfl) (hpl : (backTo pos (starEach es X.env)).any (·.1) = false := by rfl) : ME X T md W (.Call (.Name x p) (e :: es) [] pos) (gSeq g f) := by
  obtain ⟨t, pa, sa⟩ := ha
  exact ⟨_, pe_callTy hc hg hm hv pa hn hdb he hpl, se_cb sa hf⟩
theorem CallR.or {f : Value} (h : CallR X f q) (h' : CallR X f q') : CallR X f (fun xs H Q => q xs H Q ∨ q' xs H Q) := by
  intro pins s σ H xs us Q I r z
  rcases z with z | z
  · exact h pins s σ H xs us Q I r z
  · exact h' pins s σ H xs us Q I r z
theorem RA.or {r r' : St → List V → Hp → VK → Prop} (h : RA K md W n r f) (h' : RA K md W n r' f') : RA K md W n (fun σ xs H Q => r σ xs H Q ∨ r' σ xs H Q) (gOr f f') := by
  intro c σ H m us vs Q rr hc hl E hf hp
  simp only [gOr] at hf
  cases e1 : f m with
  | none =>
    simp only [e1] at hf
    exact .inr (h' c σ H m us vs Q rr hc hl E hf hp)
  | some r1 =>
    simp only [e1] at hf
    exact .inl (h c σ H m us vs Q rr hc hl E (by rw [e1]; exact hf) hp)
/-! len -/
def FLen : Tr → Option V
  | .a (.str z) => if z.length ≤ sizeLine then some (.int z.length) else none
  | .nd .lst _ ts => some (.int ts.length)
  | .nd .tup _ ts => some (.int ts.length)
  | .nd (.dct ks) _ ts => some (.int ts.length)
  | _ => none
def fLen : GE := fP1 FLen
theorem call_lenR : CallR X (.builtin "len") (fun xs H Q => ∃ a kvs, xs = [V.ref a] ∧ Rd H a (.dK kvs) ∧ Q (.int kvs.length) H) := by
  intro pins s σ H xs us Q I r h
  obtain ⟨a, kvs, rfl, ha, q⟩ := h
  obtain ⟨u, rfl, ru⟩ := vals1 r
  cases ru
  exact d_len I ha fun t s' I' => ⟨.int kvs.length, H, I', ⟨t, rfl⟩, q⟩
theorem fLen_ok : RA K md W 1 (fun _ xs H Q => (∃ x n, xs = [x] ∧ LenV K.K x H n ∧ Q (.int n) H) ∨ ∃ a kvs, xs = [V.ref a] ∧ Rd H a (.dK kvs) ∧ Q (.int kvs.length) H) fLen := fP1_ok fun σ Z H x tx u Φ Q r e q => by
  unfold FLen at e
  split at e
  · split at e
    · rename_i z hz
      cases e
      obtain ⟨rfl, _⟩ := r
      exact .inl ⟨_, _, rfl, ⟨hz, rfl⟩, q⟩
    · cases e
  · cases e
    obtain ⟨ad, vs, Ξ, rfl, ho, hl, _⟩ := r
    rw [RepL.len _ hl] at q
    exact .inl ⟨_, _, rfl, .inl ⟨vs, objL ho, rfl⟩, q⟩
  · cases e
    obtain ⟨ad, vs, Ξ, rfl, ho, hl, _⟩ := r
    rw [RepL.len _ hl] at q
    exact .inl ⟨_, _, rfl, .inr ⟨vs, objT ho, rfl⟩, q⟩
  · cases e
    obtain ⟨ad, vs, Ξ, rfl, ho, hl, _⟩ := r
    rw [RepL.len _ hl] at q
    have ho := ObjAt.rd ho
    refine .inr ⟨ad, _, rfl, ho.2, ?_⟩
    rw [List.length_zip, ho.1, Nat.min_self]
    exact q
  · cases e
/-! list(x), tuple(x) -/
def fLst : GE := fun m => match m.s with
  | e :: s => match viewE m.g e with
    | some (.nd .lst o ts) => match itemsE e o ts with
      | some ts' => match mkN .lst ts' with
        | some t => some (.ok ⟨m.g, .tr t :: s⟩)
        | none => none
      | none => none
    | some (.nd .tup o ts) => match itemsE e o ts with
      | some ts' => match mkN .lst ts' with
        | some t => some (.ok ⟨m.g, .tr t :: s⟩)
        | none => none
      | none => none
    | _ => none
  | _ => none
theorem fLst_ok : RA K md W 1 (fun _ xs H Q => ∃ p ys, xs = [.ref p] ∧ (SqL K.K H p ys ∨ SqT K.K H p ys) ∧ ∀ l, H l = none → Q (.ref l) (upd H l (.lst ys))) fLst := by
  intro c σ H m us vs Q rr hc hl E hf hp
  match vs, hl with
  | [x], _ =>
    simp only [fLst] at hf
    split at hf
    · rename_i ex s hs
      rw [hs] at E
      split at hf
      · rename_i o ts hv
        split at hf
        · rename_i ts' h2
          split at hf
          · rename_i tn hn
            cases hf
            obtain ⟨ad, vs, rfl, ho, hl, e1, E1⟩ := EnvOk.items E hv h2
            exact ⟨ad, vs, rfl, .inl (objL ho), fun l nl => hp _ _ (E1.new (by rw [e1]; simpa using hl) nl hn fun o => upd_same)⟩
          · cases hf
        · cases hf
      · rename_i o ts hv
        split at hf
        · rename_i ts' h2
          split at hf
          · rename_i tn hn
            cases hf
            obtain ⟨ad, vs, rfl, ho, hl, e1, E1⟩ := EnvOk.items E hv h2
            exact ⟨ad, vs, rfl, .inr (objT ho), fun l nl => hp _ _ (E1.new (by rw [e1]; simpa using hl) nl hn fun o => upd_same)⟩
          · cases hf
        · cases hf
      · cases hf
    · cases hf
def fTup : GE := fun m => match m.s with
  | e :: s => match viewE m.g e with
    | some (.nd .lst o ts) => match itemsE e o ts with
      | some ts' => some (.ok ⟨m.g, .tr (.nd .tup .own ts') :: s⟩)
      | none => none
    | some (.nd .tup _ _) => some (.ok ⟨m.g, e :: s⟩)
    | _ => none
  | _ => none
theorem fTup_ok : RA K md W 1 (fun _ xs H Q => ∃ p ys, xs = [.ref p] ∧ ((SqL K.K H p ys ∧ ∀ l, H l = none → Q (.ref l) (upd H l (.tup ys))) ∨ (SqT K.K H p ys ∧ Q (.ref p) H))) fTup := by
  intro c σ H m us vs Q rr hc hl E hf hp
  match vs, hl with
  | [x], _ =>
    simp only [fTup] at hf
    split at hf
    · rename_i ex s hs
      rw [hs] at E
      split at hf
      · rename_i o ts hv
        split at hf
        · rename_i ts' h2
          cases hf
          obtain ⟨ad, vs, rfl, ho, hl, e1, E1⟩ := EnvOk.items E hv h2
          exact ⟨ad, vs, rfl, .inl ⟨objL ho, fun l nl => hp _ _ (EnvOk.new (k := .tup) E1 (by rw [e1]; simpa using hl) nl (by simp [mkN]) fun o => .inl upd_same)⟩⟩
        · cases hf
      · rename_i o ts hv
        cases hf
        obtain ⟨Z, ws, Φ, Ψ, EE⟩ := id E
        obtain ⟨Θ1, ad, vs, Ξ, rfl, ho, _⟩ := EE.view (n := 0) rfl rfl hv
        exact ⟨ad, vs, rfl, .inr ⟨objT ho, hp _ _ E⟩⟩
      · cases hf
    · cases hf
/-! int, abs, min, max -/
def FInt : Tr → Option V
  | .a (.int i) => some (.int i)
  | .a (.bl k) => some (.int (if k then 1 else 0))
  | _ => none
def fInt : GE := fP1 FInt
theorem fInt_ok : RA K md W 1 (fun _ xs H Q => (∃ i, xs = [.int i] ∧ Q (.int i) H) ∨ ∃ k, xs = [.bl k] ∧ Q (.int (if k then 1 else 0)) H) fInt := fP1_ok fun σ Z H x tx u Φ Q r e q => by
  unfold FInt at e
  split at e
  · cases e
    exact .inl ⟨_, by rw [r.1], q⟩
  · cases e
    exact .inr ⟨_, by rw [r.1], q⟩
  · cases e
def FNeg : Tr → Option V
  | .a (.int i) => some (.int (-i))
  | _ => none
def fNeg : GE := fP1 FNeg
theorem fNeg_ok : RA K md W 1 (fun _ xs H Q => ∃ i, xs = [.int i] ∧ Q (.int (-i)) H) fNeg := fP1_ok fun σ Z H x tx u Φ Q r e q => by
  unfold FNeg at e
  split at e
  · cases e
    exact ⟨_, by rw [r.1], q⟩
  · cases e
theorem me_neg (h : ME X T md W a ga) : ME X T md W (.UnaryOp .USub a pos) (gSeq ga fNeg) := by
  obtain ⟨t, p, s⟩ := h
  refine ⟨_, pe_un un_neg p, fun c σ H m us Q rr hc E hg hp => ?_⟩
  simp only [gSeq] at hg
  split at hg
  · rename_i m1 h1
    refine s c σ H m us _ _ hc E h1 fun x H1 E1 => ?_
    obtain ⟨i, e, q⟩ := fNeg_ok c σ H1 m1 us [x] Q rr hc rfl E1 hg hp
    cases e
    exact ⟨i, rfl, q⟩
  · rename_i h1
    refine s c σ H m us _ _ hc E hg ?_
    cases rr with
    | ex C g' => exact hp
    | ok m2 => exact absurd hg (h1 m2)
/-! isinstance of built-in classes -/
def tyN : Tr → Option String
  | .a .non => some "NoneType"
  | .a (.bl _) => some "bool"
  | .a (.int _) => some "int"
  | .a (.str _) => some "str"
  | .nd .lst _ _ => some "list"
  | .nd .tup _ _ => some "tuple"
  | .nd (.dct _) .own _ => some "dict"
  | _ => none
theorem tyN_ok {Z : Zn} {H : Hp} {t : Tr} {v : V} {Φ : Ps} {s : String} (r : Rep K Z H .own t v Φ) (h : tyN t = some s) : TyX K.K H v (.type s) := by
  unfold tyN at h
  split at h <;> cases h
  · rw [r.1]; exact .base .non
  · rw [r.1]; exact .base (.bl _)
  · rw [r.1]; exact .base (.int _)
  · rw [r.1]; exact .base (.str _)
  · obtain ⟨ad, vs, Ξ, rfl, ho, _⟩ := r
    exact .base (.lst ho)
  · obtain ⟨ad, vs, Ξ, rfl, ho, _⟩ := r
    rcases ho with ho | (ho | ⟨_, ho⟩) | ⟨o, its, k, h1, h2, _⟩
    · exact .base (.tup ho)
    · cases ho
    · cases ho
    · exact .kTuple h1 h2
  · obtain ⟨ad, vs, Ξ, rfl, ho, _⟩ := r
    exact .base (.dK ho.2)
def kitAnyB (a : String) : List String → Option Bool
  | [] => some false
  | b :: bs => match kitB a b with
    | some true => some true
    | some false => kitAnyB a bs
    | none => none
def tyNames : List Tr → Option (List String)
  | [] => some []
  | .a (.ty n) :: ts => match tyNames ts with
    | some ns => some (n :: ns)
    | none => none
  | _ => none
def FIsi : Tr → Tr → Option V
  | tx, .a (.ty n) => match tyN tx with
    | some s => match kitB s n with
      | some b => some (.bl b)
      | none => none
    | none => none
  | tx, .nd .tup .own ts => match tyN tx, tyNames ts with
    | some s, some ns => match kitAnyB s ns with
      | some b => some (.bl b)
      | none => none
    | _, _ => none
  | _, _ => none
def fIsi : GE := fP2 FIsi
theorem kitAnyB_ok {K : PySem.W.Frag} {a : String} : ∀ {ns : List String} {b : Bool}, kitAnyB a ns = some b → PySem.W.kitAny K (.type a) (ns.map Value.type) = some b
  | [], b, h => by
    simp only [kitAnyB] at h
    rw [← h]
    rfl
  | n :: ns, b, h => by
    simp only [kitAnyB] at h
    split at h
    · rename_i h1
      cases h
      exact kitAny_cons (kit_ty h1) (fun q => by cases q) (fun _ => rfl)
    · rename_i h1
      exact kitAny_cons (kit_ty h1) (fun _ => kitAnyB_ok h) (fun q => by cases q)
    · cases h
theorem tyNames_ok {Z : Zn} {H : Hp} {m : Ow} : ∀ {ts : List Tr} {vs : List V} {Φ : Ps} {ns : List String}, RepL K Z H m ts vs Φ → tyNames ts = some ns → Paired ClsV vs (ns.map Value.type)
  | [], _, _, _, h, e => by
    obtain ⟨rfl, _⟩ := h
    simp only [tyNames] at e
    cases e
    exact .nil
  | t :: ts, vs, Φ, ns, h, e => by
    obtain ⟨v, vs', Φ1, Φ2, rfl, h1, h2, _, _⟩ := h
    unfold tyNames at e
    split at e
    · rename_i heq
      cases heq
    · rename_i n ts2 heq
      cases heq
      split at e
      · rename_i ns' hn
        cases e
        rw [h1.1]
        exact .cons (.ty n) (tyNames_ok h2 hn)
      · cases e
    · cases e
theorem fIsi_ok : RA K md W 2 (fun _ xs H Q => rIsi K.K xs H Q ∨ (rIsiT K.K xs H Q ∨ rIsiK K.K xs H Q)) fIsi := by
  intro c σ H m us vs Q rr hc hl E hf hp
  have := fP2_ok (K := K) (md := md) (W := W) (F := FIsi) (r := fun x y H Q => rIsi K.K [x, y] H Q ∨ (rIsiT K.K [x, y] H Q ∨ rIsiK K.K [x, y] H Q)) (fun Z H x y tx ty u Φ Ψ Q r1 r2 e q => by
    unfold FIsi at e
    split at e
    · split at e
      · rename_i n _ s hs
        split at e
        · rename_i b hb
          cases e
          rw [r2.1]
          exact .inl ⟨x, _, _, _, b, rfl, .ty n, tyN_ok r1 hs, kit_ty hb, q⟩
        · cases e
      · cases e
    · split at e
      · rename_i ts s ns hs hn
        split at e
        · rename_i b hb
          cases e
          obtain ⟨ad, vs, Ξ, rfl, ho, hl, _⟩ := r2
          rcases ho with ho | ho
          · exact .inr (.inl ⟨x, ad, vs, _, _, b, rfl, ho, tyNames_ok hl hn, tyN_ok r1 hs, kitAnyB_ok hb, q⟩)
          · rcases ho with (ho | ⟨_, ho⟩) | ⟨o, its, k, h1, h2, h3, h4, h5⟩
            · cases ho
            · cases ho
            · have e3 := ClsV.all (tyNames_ok hl hn) h5
              obtain ⟨oc, od, dt, sl⟩ := o
              simp only at h2 h3
              subst h2 h3
              exact .inr (.inr ⟨x, ad, od, its.toList, k, sl, _, b, rfl, by rw [Array.toArray_toList]; exact h1, tyN_ok r1 hs, by rw [e3]; exact kitAnyB_ok hb, q⟩)
        · cases e
      · cases e
    · cases e) c σ H m us vs Q rr hc hl E hf hp
  obtain ⟨x, y, rfl, z⟩ := this
  exact z
end
section
variable {K : KC} {X : Cx} {T : KT} {md : List Bool} {W : WX} {c : Cz} {σ : St} {H H' : Hp} {Γ τ τ1 : List Ent} {us us1 vs vs' : List V} {v w : V} {p q : List Nat} {t : Tr} {ts ts' : List Tr} {k k' : Nk} {i j : Nat} {a : Addr}
theorem kill_set {e : Ent} : kill p (Γ.set i e) = (kill p Γ).set i (killE p e) := by simp [kill, List.map_set]
theorem setG_kill : setG (kill p Γ) q t = kill p (setG Γ q t) := by
  cases q with
  | nil => rfl
  | cons i q =>
    simp only [setG]
    cases e : Γ[i]? with
    | none => simp [kill, e]
    | some x =>
      have e2 : (kill p Γ)[i]? = some (killE p x) := by simp [kill, e]
      cases x with
      | no => simp [e2, killE]
      | tr y => simp only [e2, killE, kill_set]
      | al r =>
        by_cases nb : nbel p r = true
        · simp [e2, killE, nb]
        · simp [e2, killE, nb]
theorem setT_setT : ∀ {p : List Nat} {t x y : Tr}, setT (setT t p x) p y = setT t p y
  | [], _, _, _ => rfl
  | j :: p, t, x, y => by
    cases t with
    | any => rfl
    | a v => rfl
    | nd k o us =>
      simp only [setT]
      cases e : us[j]? with
      | none => simp [e, setT]
      | some z =>
        simp only [setT, List.getElem?_set_self (getq_lt' e), List.set_set]
        rw [setT_setT]
theorem setG_setG {x y : Tr} : setG (setG Γ p x) p y = setG Γ p y := by
  cases p with
  | nil => rfl
  | cons i p =>
    simp only [setG]
    cases e : Γ[i]? with
    | none => simp [e]
    | some z =>
      cases z with
      | no => simp [e]
      | al _ => simp [e]
      | tr t => simp only [List.getElem?_set_self (getq_lt' e), List.set_set, setT_setT]
theorem kill_trs : kill p (ts.map Ent.tr) = ts.map Ent.tr := by
  simp [kill, killE]
theorem getG_setG_same {x : Tr} (h : (getG Γ p).isSome = true) : getG (setG Γ p x) p = some x := by
  have h1 := getG_setG (t := x) h h (by
    have npp : ∀ {p : List Nat}, nbel p p = true := by
      intro p
      induction p with
      | nil => rfl
      | cons i p ih => simp [nbel, ih]
    exact npp)
  rw [← getG_getP h1, trees_setG h]
  exact getP_setP_same (getG_isP h)
/-- the things on top of a place go into it, or change it: the node at the place becomes another one -/
theorem EnvOk.modP {ins outs : List Tr} {vouts : List V} {ob : HO} (E : EnvOk K c σ H Γ (.al p :: (ins.map Ent.tr ++ τ)) (w :: (us1 ++ us))) (hl : ins.length = us1.length) (g : getG Γ p = some (.nd k .own ts)) (hk : k ≠ .tup) (hk' : k' ≠ .tup)
    (step : ∀ a vs, w = .ref a → ObjAt K k .own H a vs → ts.length = vs.length → ∃ vs', ts'.length = vs'.length ∧ ObjAt K k' .own (upd H a ob) a vs' ∧ ∀ Z Ψa Ψb, RepL K Z H .own ts vs Ψa → RepL K Z H .own ins us1 Ψb → (∀ b, ¬ (Ψa b ∧ Ψb b)) → ∃ Ψ', RepL K Z H .own (ts' ++ outs) (vs' ++ vouts) Ψ' ∧ ∀ b, Ψ' b → Ψa b ∨ Ψb b)
    (hl3 : outs.length = vouts.length) (he : escL ts' = true) : ∃ a, w = .ref a ∧ EnvOk K c σ (upd H a ob) (kill p (setG Γ p (.nd k' .own ts'))) (outs.map .tr ++ kill p τ) (vouts ++ us) := by
  have gs : (getG Γ p).isSome = true := by rw [g]; rfl
  have E1 := E.ext g
  obtain ⟨Z, ws, Φ, Ψ, EE⟩ := id E1
  obtain ⟨Θ, a, vs, Ξ, rfl, ho, hlr, hn⟩ := EE.view (n := 0) (e := .tr (.nd k .own ts)) rfl rfl rfl
  have ho : ObjAt K k .own H a vs := ho
  obtain ⟨vs', l2, ho', st⟩ := step a vs rfl ho (RepL.len _ hlr)
  refine ⟨a, rfl, ?_⟩
  have ek : kill p (ins.map Ent.tr ++ τ) = ins.map Ent.tr ++ kill p τ := by
    have := kill_trs (p := p) (ts := ins)
    simp only [kill, List.map_append] at this ⊢
    rw [this]
  rw [ek] at E1
  have E2 : EnvOk K c σ H (kill p (setG Γ p .any)) ([.tr (.nd k .own ts)] ++ (ins.map Ent.tr ++ (.al p :: kill p τ))) ([.ref a] ++ (us1 ++ (.ref a :: us))) := by
    have h1 := EnvOk.permA (A := [.tr (.nd k .own ts)]) (B := [.al p] ++ ins.map Ent.tr) (τ := kill p τ) (va := [.ref a]) (vb := [.ref a] ++ us1) (us := us) rfl (by simp [hl]) (by simpa using E1)
    have h2 := EnvOk.permA (A := [.al p]) (B := ins.map Ent.tr) (τ := .tr (.nd k .own ts) :: kill p τ) (va := [.ref a]) (vb := us1) (us := .ref a :: us) rfl (by simp [hl]) (by simpa using h1)
    have h3 := EnvOk.permA (A := ins.map Ent.tr ++ [.al p]) (B := [.tr (.nd k .own ts)]) (τ := kill p τ) (va := us1 ++ [.ref a]) (vb := [.ref a]) (us := us) (by simp [hl]) rfl (by simpa using h2)
    simpa using h3
  have E3 := EnvOk.mut (τ1 := ins.map Ent.tr) (τ := .al p :: kill p τ) (us1 := us1) (us := .ref a :: us) (k' := k') (ts' := ts') (outs := outs) (vs' := vs') (vouts := vouts) (ob := ob) E2 hk hk' (by simp [hl]) ho (fun Z Ψa Ψb r1 r2 => by rw [trees_tr] at r2; exact st Z Ψa Ψb r1 r2) l2 hl3 he ho'
  have E4 : EnvOk K c σ (upd H a ob) (kill p (setG Γ p .any)) (.tr (.nd k' .own ts') :: .al p :: (outs.map .tr ++ kill p τ)) (.ref a :: .ref a :: (vouts ++ us)) := by
    have h1 := EnvOk.permA (A := [.tr (.nd k' .own ts')] ++ outs.map Ent.tr) (B := [.al p]) (τ := kill p τ) (va := [.ref a] ++ vouts) (vb := [.ref a]) (us := us) (by simp [hl3]) rfl (by simpa using E3)
    exact EnvOk.swap2 (by simpa using h1)
  have gk : getG (kill p (setG Γ p .any)) p = some .any := by rw [getG_kill]; exact getG_setG_same gs
  have E5 := (E4.back gk (by
    cases k' <;> first | exact absurd rfl hk' | rfl)).drop
  rw [setG_kill, setG_setG] at E5
  exact E5
/-! statements -/
inductive Os | nx (m : Ms) | rt (t : Tr) (m : Ms) | bk (m : Ms) | ct (m : Ms) | ex (C : Nat) (g : List Ent)
abbrev GS := Ms → Option Os
def PostS (K : KC) (c : Cz) (W : WX) (us : List V) (D : Ends) : Os → Prop
  | .nx m => ∀ σ' H', EnvOk K c σ' H' m.g m.s us → D.nx σ' H'
  | .rt t m => ∀ σ' v H', EnvOk K c σ' H' m.g (.tr t :: m.s) (v :: us) → D.rt v H'
  | .bk m => ∀ σ' H', EnvOk K c σ' H' m.g m.s us → D.bk σ' H'
  | .ct m => ∀ σ' H', EnvOk K c σ' H' m.g m.s us → D.ct σ' H'
  | .ex C g => ∀ σ' H', EnvOk K c σ' H' g [] [] → W (.ref (K.et C)) none σ' H'
def SS (K : KC) (md : List Bool) (W : WX) (t : L2.TS) (g : GS) : Prop := ∀ (c : Cz) (σ : St) (H : Hp) (m : Ms) (us : List V) (D : Ends) (o : Os), c.md = md → EnvOk K c σ H m.g m.s us → g m = some o → PostS K c W us D o → t D σ H
def MS (X : Cx) (T : KT) (md : List Bool) (W : WX) (st : Stmt) (g : GS) : Prop := ∃ t, PS X st t ∧ SS (kcm X.K T) md W t g
def MSs (X : Cx) (T : KT) (md : List Bool) (W : WX) (sts : List Stmt) (g : GS) : Prop := ∃ t, PSs X sts t ∧ SS (kcm X.K T) md W t g
variable {st : Stmt} {rest sts sts' : List Stmt} {g g' : GS} {ge gf gt : GE} {e b o : Expr} {pos pos' : Pos}
def sNil : GS := fun m => some (.nx m)
def sSeq (g h : GS) : GS := fun m => match g m with
  | some (.nx m') => h m'
  | r => r
theorem mss_nil : MSs X T md W [] sNil := ⟨_, pss_nil, fun c σ H m us D o hc E hg hp => by
  cases hg
  exact hp σ H E⟩
theorem mss_cons (h1 : MS X T md W st g) (h2 : MSs X T md W rest g') : MSs X T md W (st :: rest) (sSeq g g') := by
  obtain ⟨t, p, s⟩ := h1
  obtain ⟨t', p', s'⟩ := h2
  refine ⟨_, pss_cons p p', fun c σ H m us D o hc E hg hp => ?_⟩
  simp only [sSeq] at hg
  split at hg
  · rename_i m1 h1
    exact s c σ H m us _ _ hc E h1 fun σ' H' E' => s' c σ' H' m1 us D o hc E' hg hp
  · rename_i h1
    refine s c σ H m us _ _ hc E hg ?_
    cases o with
    | nx m' => exact absurd hg (h1 m')
    | rt t m' => exact hp
    | bk m' => exact hp
    | ct m' => exact hp
    | ex C g => exact hp
theorem mss_one (h1 : MS X T md W st g) : MSs X T md W [st] g := by
  obtain ⟨t, p, s⟩ := h1
  exact ⟨_, pss_one p, s⟩
def sExpr (ge : GE) : GS := fun m => match ge m with
  | some (.ok ⟨g, _ :: s⟩) => some (.nx ⟨g, s⟩)
  | some (.ex C g) => some (.ex C g)
  | _ => none
theorem ms_expr (h : ME X T md W e ge) (hs : swapsWith e none pos.line X.env = pure false := by rfl) : MS X T md W (.Expr e pos) (sExpr ge) := by
  obtain ⟨t, p, s⟩ := h
  refine ⟨_, ps_expr p hs, fun c σ H m us D o hc E hg hp => ?_⟩
  simp only [sExpr] at hg
  split at hg
  · rename_i h1
    cases hg
    exact s c σ H m us _ _ hc E h1 fun x H1 E1 => hp σ H1 E1.drop
  · rename_i h1
    cases hg
    exact s c σ H m us _ _ hc E h1 fun H1 E1 => hp σ H1 E1
  · cases hg
def sRet (ge : GE) : GS := fun m => match ge m with
  | some (.ok ⟨g, .tr t :: s⟩) => some (.rt t ⟨g, s⟩)
  | some (.ex C g) => some (.ex C g)
  | _ => none
theorem ms_ret (h : ME X T md W e ge) : MS X T md W (.Return (some e) pos) (sRet ge) := by
  obtain ⟨t, p, s⟩ := h
  refine ⟨_, ps_ret p, fun c σ H m us D o hc E hg hp => ?_⟩
  simp only [sRet] at hg
  split at hg
  · rename_i h1
    cases hg
    exact s c σ H m us _ _ hc E h1 fun x H1 E1 => hp σ x H1 E1
  · rename_i h1
    cases hg
    exact s c σ H m us _ _ hc E h1 fun H1 E1 => hp σ H1 E1
  · cases hg
def sRetN : GS := fun m => some (.rt (.a .non) m)
def sIf (gt : GE) (g h : GS) : GS := fun m => match gt m with
  | some (.ok ⟨g', .tr (.a (.bl true)) :: s'⟩) => g ⟨g', s'⟩
  | some (.ok ⟨g', .tr (.a (.bl false)) :: s'⟩) => h ⟨g', s'⟩
  | some (.ex C g') => some (.ex C g')
  | _ => none
theorem ms_if (hc : MT X T md W e gt) (ha : MSs X T md W sts g) (hb : MSs X T md W sts' g') : MS X T md W (.If e sts sts' pos) (sIf gt g g') := by
  obtain ⟨tc, pc, sc⟩ := hc
  obtain ⟨t, p, s⟩ := ha
  obtain ⟨t', p', s'⟩ := hb
  refine ⟨_, ps_if pc p p', fun c σ H m us D o hm E hg hp => ?_⟩
  simp only [sIf] at hg
  split at hg
  · rename_i h1
    exact sc c σ H m us _ _ hm E h1 fun H' E' => iteT (s c σ H' _ us D o hm E' hg hp)
  · rename_i h1
    exact sc c σ H m us _ _ hm E h1 fun H' E' => iteF (s' c σ H' _ us D o hm E' hg hp)
  · rename_i h1
    cases hg
    exact sc c σ H m us _ _ hm E h1 fun H' E' => hp σ H' E'
  · cases hg
/-- a name gets what is on top -/
def bind (md : List Bool) (i : Nat) (m : Ms) : Option Ms := if md.getD i false = true ∨ ¬ i < m.g.length then none else match m.s with
  | .tr t :: s => some ⟨(m.g.map (killR i)).set i (.tr t), s.map (killR i)⟩
  | .al p :: s => if p.head? = some i then none else some ⟨(m.g.map (killR i)).set i (.al p), s.map (killR i)⟩
  | _ => none
theorem bind_ok {m m' : Ms} {x : V} (hc : c.md = md) (E : EnvOk K c σ H m.g m.s (x :: us)) (h : bind md i m = some m') : EnvOk K c (σ.set i (some x)) H m'.g m'.s us := by
  unfold bind at h
  split at h
  · cases h
  · rename_i hn
    have h1 : i < m.g.length := Classical.byContradiction fun q => hn (.inr q)
    have h2 : c.md[i]? ≠ some true := fun q => hn (.inl (by rw [← hc, List.getD_eq_getElem?_getD, q]; rfl))
    split at h
    · rename_i t s hs
      cases h
      rw [hs] at E
      exact E.setT h1 h2
    · rename_i p s hs
      split at h
      · cases h
      · rename_i hp
        cases h
        rw [hs] at E
        exact E.setA h1 h2 hp
    · cases h
def sSet (md : List Bool) (i : Nat) (ge : GE) : GS := fun m => match ge m with
  | some (.ok m') => match bind md i m' with
    | some m2 => some (.nx m2)
    | none => none
  | some (.ex C g) => some (.ex C g)
  | none => none
theorem ss_set {t : TE} (s : SE K md W t ge) : SS K md W (tAsg t (gName i)) (sSet md i ge) := by
  intro c σ H m us D o hc E hg hp
  simp only [sSet] at hg
  split at hg
  · rename_i m1 h1
    split at hg
    · rename_i m2 h2
      cases hg
      exact s c σ H m us _ _ hc E h1 fun x H1 E1 => hp _ H1 (bind_ok hc E1 h2)
    · cases hg
  · rename_i h1
    cases hg
    exact s c σ H m us _ _ hc E h1 fun H1 E1 => hp σ H1 E1
  · cases hg
theorem ms_set {x : Str} (hN : X.N.Nodup) (hi : X.N[i]? = some x) (hx : Loc X.env.scope x) (h : ME X T md W e ge) (hs : swapsWith e (some (.Name x pos')) pos.line X.env = pure false := by rfl)
    (hf : X.fn x = true ∨ X.env.scope.names.lookup x = some .local := by first | exact .inl rfl | exact .inr rfl | assumption) : MS X T md W (.Assign [.Name x pos'] e pos) (sSet md i ge) := by
  obtain ⟨t, p, s⟩ := h
  exact ⟨_, ps_set hN hi hx p hs hf, ss_set s⟩
end
section
variable {K : KC} {X : Cx} {T : KT} {md : List Bool} {W : WX} {c : Cz} {σ : St} {H H' : Hp} {Γ τ : List Ent} {us vs ws : List V} {v w wp : V} {p q r : List Nat} {t : Tr} {ts : List Tr} {k : Nk} {i j j' : Nat} {a : Addr} {Z : Zn} {Φ Ψ : Ps} {ob : HO}
theorem RepL.set1 {Z : Zn} {Ψa Ψb : Ps} (h : RepL K Z H .own ts vs Ψa) (hj : j < ts.length) (h2 : RepL K Z H .own [t] [v] Ψb) (d : ∀ b, ¬ (Ψa b ∧ Ψb b)) : ∃ Ψ', RepL K Z H .own (ts.set j t) (vs.set j v) Ψ' ∧ ∀ b, Ψ' b → Ψa b ∨ Ψb b := by
  obtain ⟨v', Φ1, Φ2, e1, r, d1, u, r2, _⟩ := RepL.at_ _ h (i := j) (t := ts[j]) (List.getElem?_eq_getElem hj)
  obtain ⟨_, _, Θ1, Θ2, e2, a1, a2, ad, au⟩ := h2
  cases e2
  have n2 : ∀ b, ¬ Θ2 b := a2.2
  have hw := getq_lt' e1
  have g1 : (ts.set j .any)[j]? = some .any := List.getElem?_set_self hj
  have r3 := RepL.put _ (RepL.anyv (v := v) _ r2 g1) g1 (List.getElem?_set_self hw) a1 (by grind)
  rw [List.set_set] at r3
  exact ⟨_, r3, by grind⟩
/-- p leads into or to what stands at q -/
def pre : List Nat → List Nat → Bool
  | [], _ => true
  | _, [] => false
  | i :: p, j :: q => decide (i = j) && pre p q
def killJ (p : List Nat) : Ent → Ent
  | .al q => if pre p q = true then .no else .al q
  | e => e
theorem Raw.split : ∀ {p : List Nat} {ws : List V} {j : Nat} {r : List Nat} {w : V}, p ≠ [] → Raw H ws (p ++ j :: r) w → ∃ wp us, Raw H ws p wp ∧ Kids H wp us ∧ Raw H us (j :: r) w
  | [], _, _, _, _, h, _ => absurd rfl h
  | [i], ws, j, r, w, _, h => by
    obtain ⟨v, us, e, kd, h⟩ := h
    exact ⟨v, us, e, kd, h⟩
  | i :: i2 :: p, ws, j, r, w, _, h => by
    obtain ⟨v, us, e, kd, h⟩ := h
    obtain ⟨wp, us2, h1, h2, h3⟩ := Raw.split (p := i2 :: p) (by simp) h
    exact ⟨wp, us2, ⟨v, us, e, kd, h1⟩, h2, h3⟩
theorem Raw.join : ∀ {p : List Nat} {ws : List V} {j : Nat} {r : List Nat} {wp w : V} {us : List V}, Raw H ws p wp → Kids H wp us → Raw H us (j :: r) w → Raw H ws (p ++ j :: r) w
  | [], _, _, _, _, _, _, h, _, _ => h.elim
  | [i], ws, j, r, wp, w, us, h, kd, h2 => ⟨wp, us, h, kd, h2⟩
  | i :: i2 :: p, ws, j, r, wp, w, us, h, kd, h2 => by
    obtain ⟨v, us2, e, kd2, h⟩ := h
    exact ⟨v, us2, e, kd2, Raw.join h kd h2⟩
theorem nbel_or : ∀ {p q : List Nat}, nbel p q = true ∨ ∃ j r, q = p ++ j :: r
  | [], [] => .inl rfl
  | [], j :: q => .inr ⟨j, q, rfl⟩
  | i :: p, [] => .inl rfl
  | i :: p, j :: q => by
    by_cases e : i = j
    · subst e
      rcases nbel_or (p := p) (q := q) with h | ⟨j, r, h⟩
      · exact .inl (by simpa [nbel] using h)
      · exact .inr ⟨j, r, by rw [h]; rfl⟩
    · exact .inl (by simp [nbel, e])
theorem pre_app : ∀ {p : List Nat} {j j' : Nat} {r : List Nat}, pre (p ++ [j]) (p ++ j' :: r) = decide (j = j')
  | [], j, j', r => by simp [pre]
  | i :: p, j, j', r => by simp [pre, pre_app (p := p)]
theorem getT_app : ∀ {p : List Nat} {t : Tr} {j : Nat} {r : List Nat}, getT t p = some (.nd k .own ts) → k ≠ .tup → getT t (p ++ j :: r) = match ts[j]? with
    | some y => getT y r
    | none => none
  | [], t, j, r, h, hk => by
    cases h
    show getT (.nd k .own ts) (j :: r) = _
    cases k <;> simp_all [getT] <;> rfl
  | i :: p, t, j, r, h, hk => by
    cases t with
    | any => simp [getT] at h
    | a v => simp [getT] at h
    | nd k' o us =>
      cases k' <;> cases o <;> simp_all [getT]
      all_goals
        cases e : us[i]? with
        | none => simp [e] at h
        | some y =>
          simp only [e] at h ⊢
          exact getT_app h hk
theorem getG_app (h : getG Γ p = some (.nd k .own ts)) (hk : k ≠ .tup) : getG Γ (p ++ j :: r) = match ts[j]? with
    | some y => getT y r
    | none => none := by
  cases p with
  | nil => simp [getG] at h
  | cons i p =>
    simp only [getG, List.cons_append] at h ⊢
    cases e : Γ[i]? with
    | none => simp [e] at h
    | some x =>
      cases x with
      | no => simp [e] at h
      | al _ => simp [e] at h
      | tr t =>
        simp only [e] at h ⊢
        exact getT_app h hk
theorem getG_ne_nil (h : (getG Γ p).isSome = true) : p ≠ [] := fun e => by subst e; simp [getG] at h
/-- an item of a list, dict or instance that stands at a place is replaced; aliases of the other items stay -/
theorem EnvOk.setIn (E : EnvOk K c σ H Γ (.al p :: .tr t :: τ) (w :: v :: us)) (g : getG Γ p = some (.nd k .own ts)) (hk : k ≠ .tup) (hj : j < ts.length) (he : esc t = true) (hob : ∀ a vs, ObjAt K k .own H a vs → w = .ref a → ObjAt K k .own (upd H a ob) a (vs.set j v)) :
    ∃ a, w = .ref a ∧ EnvOk K c σ (upd H a ob) ((setG Γ p (.nd k .own (ts.set j t))).map (killJ (p ++ [j]))) (τ.map (killJ (p ++ [j]))) us := by
  obtain ⟨Z, ws, Φ, Ψ, sl, tm, dj, so, to, ln, zo, zf, z0, zs, st, pv⟩ := E
  have gs : (getG Γ p).isSome = true := by rw [g]; rfl
  have g2 : getP (trees Γ) p = some (.nd k .own ts) := by rw [getG_getP gs, g]
  obtain ⟨w', Φ1, Φ2, raw, rp, d, u, r2, stab⟩ := RepL.path sl g2
  obtain ⟨w0, e0, raw0, _⟩ := to 0 p rfl
  cases e0
  cases raw.fn raw0
  obtain ⟨a, vs, Ξ, rfl, ho, hl, hn⟩ := id rp
  have ho : ObjAt K k .own H a vs := ho
  have hl : RepL K Z H .own ts vs Ξ := hl
  have hn : Nod Z k .own a ts Ξ Φ1 := hn
  have hn' := hn.own hk
  obtain ⟨_, _, Θ1, Θ2, e1, a1, a2, ad, au⟩ := tm
  cases e1
  obtain ⟨_, _, Θ3, Θ4, e2, a3, a4, ad2, au2⟩ := a2
  cases e2
  have a1 : ∀ b, ¬ Θ1 b := a1
  have ho' := hob a vs ho rfl
  have hsome : (H a).isSome = true := Rep.isS _ rp a (by grind)
  have nta : ∀ ob, H a = some ob → nt' ob = true := fun ob e => Rep.nt _ rp a ob (by grind) e
  have tp : TSK K H (upd H a ob) := tsk fun b o' e n => by
    rw [upd_ne (fun q => by subst q; have := nta o' e; rw [n] at this; cases this)]; exact e
  have kpo : ∀ {Θ : Ps}, (∀ b, Θ b → b ≠ a) → (∀ b, Z.fz b ∨ Z.ln b → b ≠ a) → Kp K Z Z H (upd H a ob) Θ := fun {Θ} h1 h2 => ⟨fun _ h => h, fun _ h => h, fun b o' q e => by rw [upd_ne (by rcases q with q | q; exact h1 b q; exact h2 b q)]; exact e, tp⟩
  have za : ∀ b, Z.fz b ∨ Z.ln b → b ≠ a := fun b q e => by
    subst e
    have := (zo b (.inl ((u b).mpr (.inl (by grind))))).2
    rcases q with q | q
    · exact this.1 q
    · exact this.2 q
  have one : RepL K Z H .own [t] [v] Θ3 := ⟨v, [], Θ3, fun _ => False, rfl, a3, ⟨rfl, fun _ h => h⟩, by simp, by simp⟩
  obtain ⟨Ξ', rk, subk⟩ := RepL.set1 hl hj one (by grind)
  have rk' := RepL.fr _ rk (kpo (Θ := Ξ') (by grind) za)
  have node : Rep K Z (upd H a ob) .own (.nd k .own (ts.set j t)) (.ref a) (fun b => b = a ∨ Ξ' b) := ⟨a, vs.set j v, Ξ', rfl, ho', rk', .mk hk (fun _ => Iff.rfl) (by grind) (escL_set hn'.2.2 he)⟩
  have r3 := RepL.fr _ r2 (kpo (Θ := Φ2) (by grind) za)
  have keepR : ∀ b ob', ¬ Φ1 b → H b = some ob' → upd H a ob b = some ob' := fun b ob' nb e => by rw [upd_ne (by grind)]; exact e
  have npp : ∀ {p : List Nat}, nbel p p = true := by
    intro p
    induction p with
    | nil => rfl
    | cons i p ih => simp [nbel, ih]
  have rawp : Raw (upd H a ob) ws p (.ref a) := stab p (.ref a) _ npp (by rw [g2]; rfl) raw keepR
  have gset : getP (setP (trees Γ) p .any) p = some .any := getP_setP_same (by rw [g2]; rfl)
  have r4 := RepL.putP r3 gset rawp node (by grind) (by cases k <;> first | exact absurd rfl hk | rfl)
  rw [setP_setP] at r4
  have lenv := RepL.len _ hl
  -- aliases
  have rawq : ∀ {q : List Nat} {x : V}, (getG Γ q).isSome = true → pre (p ++ [j]) q = false → Raw H ws q x → Raw (upd H a ob) ws q x ∧ (getG (setG Γ p (.nd k .own (ts.set j t))) q).isSome = true := fun {q x} gq hpre rq => by
    rcases nbel_or (p := p) (q := q) with nb | ⟨j', r, rfl⟩
    · exact ⟨stab q x _ nb (getG_isP gq) rq keepR, getG_setG gq gs nb⟩
    · rw [pre_app] at hpre
      have hjj : j ≠ j' := by simpa using hpre
      obtain ⟨wq, us2, h1, h2, h3⟩ := Raw.split (getG_ne_nil gs) rq
      cases raw.fn h1
      cases (objKids ho hk).fn h2
      have gk : getG Γ (p ++ j' :: r) = match ts[j']? with
          | some y => getT y r
          | none => none := getG_app g hk
      have gk2 : (getP ts (j' :: r)).isSome = true := by
        cases e : ts[j']? with
        | none => rw [gk, e] at gq; cases gq
        | some y => rw [getP_getT e]; rw [gk, e] at gq; exact gq
      have h3' : Raw (upd H a ob) vs (j' :: r) x := Raw.keep hl gk2 h3 fun b ob' hb e => by rw [upd_ne (by grind)]; exact e
      refine ⟨Raw.join rawp (objKids ho' hk) ?_, ?_⟩
      · match r, h3' with
        | [], h3' =>
          show (vs.set j v)[j']? = some x
          rw [List.getElem?_set_ne hjj]
          exact h3'
        | j2 :: r, h3' =>
          obtain ⟨v2, us3, e3, k3, h4⟩ := h3'
          exact ⟨v2, us3, by rw [List.getElem?_set_ne hjj]; exact e3, k3, h4⟩
      · have : getG (setG Γ p (.nd k .own (ts.set j t))) p = some (.nd k .own (ts.set j t)) := getG_setG_same gs
        rw [getG_app this hk, List.getElem?_set_ne hjj]
        rw [gk] at gq
        exact gq
  have trk : ∀ (L : List Ent), trees (L.map (killJ (p ++ [j]))) = trees L := fun L => by
    simp only [trees, List.map_map]
    congr 1
    funext e
    cases e with
    | al q => by_cases h : pre (p ++ [j]) q = true <;> simp [killJ, h, Ent.tree]
    | _ => rfl
  have gkj : ∀ {Γ : List Ent} {q : List Nat}, getG (Γ.map (killJ (p ++ [j]))) q = getG Γ q := fun {Γ q} => by
    cases q with
    | nil => rfl
    | cons i q =>
      simp only [getG, List.getElem?_map]
      cases Γ[i]? with
      | none => rfl
      | some x =>
        cases x with
        | al r => by_cases h : pre (p ++ [j]) r = true <;> simp [killJ, h]
        | _ => rfl
  refine ⟨a, rfl, Z, ws, fun b => (b = a ∨ Ξ' b) ∨ Φ2 b, Θ4, ⟨by rw [trk, trees_setG gs]; exact r4, by rw [trk]; exact RepL.fr _ a4 (kpo (Θ := Θ4) (by grind) za), by grind, ?_, ?_, by rw [ln]; simp [setG_len], by grind, zf, z0, fun b q => ?_, fun b o0 e0 => ?_, pv⟩⟩
  · intro i e he
    rw [List.getElem?_map] at he
    cases hx : (setG Γ p (.nd k .own (ts.set j t)))[i]? with
    | none => simp [hx] at he
    | some x =>
      simp only [hx, Option.map_some, Option.some.injEq] at he
      subst he
      rcases setG_at hx with ⟨y, z, hy, rfl⟩ | hx'
      · exact so i _ hy
      · have h1 := so i x hx'
        cases x with
        | no => trivial
        | tr y => exact h1
        | al q =>
          obtain ⟨x1, x2, x3, x4⟩ := h1
          by_cases hq : pre (p ++ [j]) q = true
          · simp only [killJ, hq, if_true]
            trivial
          · simp only [killJ, hq, if_false]
            have := rawq x4 (by simpa using hq) x3
            exact ⟨x1, x2, this.1, by rw [gkj]; exact this.2⟩
  · intro i q hi
    rw [List.getElem?_map] at hi
    cases hx : τ[i]? with
    | none => simp [hx] at hi
    | some x =>
      simp only [hx, Option.map_some, Option.some.injEq] at hi
      cases x with
      | no => simp [killJ] at hi
      | tr _ => simp [killJ] at hi
      | al q' =>
        by_cases hq : pre (p ++ [j]) q' = true
        · simp [killJ, hq] at hi
        · simp only [killJ, hq, if_false] at hi
          cases hi
          obtain ⟨w1, s1, s2, s3⟩ := to (i + 2) q (by simpa using hx)
          have := rawq s3 (by simpa using hq) s2
          exact ⟨w1, by simpa using s1, this.1, by rw [gkj]; exact this.2⟩
  · rw [upd_ne (za b q)]
    exact zs b q
  · obtain ⟨o', e', hno⟩ := st b o0 e0
    by_cases hb : b = a
    · subst hb
      refine ⟨ob, upd_same, fun nf => ?_⟩
      rcases (zo b (.inl ((u b).mpr (.inl (by grind))))).1 with z | z
      · exact absurd z nf
      · rw [z] at e0; cases e0
    · exact ⟨o', by rw [upd_ne hb]; exact e', hno⟩
end
section
variable {K : KC} {X : Cx} {T : KT} {md : List Bool} {W : WX} {c : Cz} {σ : St} {H H' : Hp} {Γ τ τ1 : List Ent} {us us1 vs vs' : List V} {v w : V} {p q : List Nat} {t : Tr} {ts ts' : List Tr} {k k' : Nk} {i j : Nat} {a : Addr}
variable {st : Stmt} {rest sts sts' : List Stmt} {g g' : GS} {ge gf gt gi go gv : GE} {e b o ie : Expr} {pos pos' : Pos}
/-- o[i] = v, of a list -/
def stSub : Ms → Option Ms := fun m => match m.s with
  | .tr (.a (.int x)) :: .al p :: .tr t :: s => match getG m.g p with
    | some (.nd .lst .own ts) => match ixN ts.length x with
      | some j => if esc t = true then some ⟨(setG m.g p (.nd .lst .own (ts.set j t))).map (killJ (p ++ [j])), s.map (killJ (p ++ [j]))⟩ else none
      | none => none
    | _ => none
  | _ => none
theorem ixN_lt {n : Nat} {x : Int} {j : Nat} (h : ixN n x = some j) : j < n := by
  unfold ixN at h
  split at h
  · split at h
    · cases h; omega
    · cases h
  · split at h
    · cases h; omega
    · cases h
theorem nodE (hk : k ≠ .tup) : ∀ {ts : List Tr}, (∀ {Z : Zn} {H : Hp} {v : V} {Φ : Ps}, Rep K Z H .own (.nd k .own ts) v Φ → escL ts = true) := fun {ts Z H v Φ} r => by
  obtain ⟨a, vs, Ψ, _, _, _, hn⟩ := r
  have hn : Nod Z k .own a ts Ψ Φ := hn
  exact (hn.own hk).2.2
theorem EnvOk.escAt (E : EnvOk K c σ H Γ (.al p :: τ) (w :: us)) (g : getG Γ p = some (.nd k .own ts)) (hk : k ≠ .tup) : escL ts = true := by
  obtain ⟨Z, ws, Φ, Ψ, EE⟩ := E
  obtain ⟨Θ, r⟩ := EE.view (n := 0) (e := .al p) rfl rfl g
  exact nodE hk r
theorem stSub_ok {m m' : Ms} {x y z : V} {Q : Hp → Prop} (E : EnvOk K c σ H m.g m.s (z :: y :: x :: us)) (h : stSub m = some m') (hq : ∀ H', EnvOk K c σ H' m'.g m'.s us → Q H') : rSetL y z x H Q := by
  unfold stSub at h
  split at h
  · rename_i xi p t s hs
    split at h
    · rename_i ts hg
      split at h
      · rename_i j hj
        split at h
        · rename_i he
          cases h
          rw [hs] at E
          have ez := top_a E
          subst ez
          have E1 := E.drop
          have hes := E1.escAt hg (by simp)
          have hjl := ixN_lt hj
          obtain ⟨Z, ws, Φ, Ψ, EE⟩ := id E1
          obtain ⟨Θ, a, vs, Ξ, rfl, ho, hlr, hn⟩ := EE.view (n := 0) (e := .al p) rfl rfl hg
          have ho : H a = some (.lst vs) := ho
          have hlen := RepL.len _ hlr
          refine ⟨a, vs, xi, j, rfl, rfl, ho, by rw [← hlen]; exact hj, hq _ ?_⟩
          obtain ⟨a', e, E2⟩ := EnvOk.setIn (j := j) (ob := .lst (vs.set j x)) E1 hg (by simp) hjl he (fun a2 vs2 ho2 e2 => by
            cases e2
            have ho2 : H a = some (.lst vs2) := ho2
            rw [ho] at ho2
            cases ho2
            exact upd_same)
          cases e
          exact E2
        · cases h
      · cases h
    · cases h
  · cases h
/-- o.f = v -/
def stFld (tab : List (Nat × Nat)) : Ms → Option Ms := fun m => match m.s with
  | .al p :: .tr t :: s => match getG m.g p with
    | some (.nd (.ins n k) .own ts) => match tab.lookup n with
      | some j => if esc t = true ∧ k < 900 then
          if j < k then some ⟨(setG m.g p (.nd (.ins n k) .own (ts.set j t))).map (killJ (p ++ [j])), s.map (killJ (p ++ [j]))⟩
          else if j = k then some ⟨kill p (setG m.g p (.nd (.ins n (k + 1)) .own (ts ++ [t]))), kill p s⟩ else none
        else none
      | none => none
    | _ => none
  | _ => none
theorem putF_set {f : Str} : ∀ {ns : List Str} {vs : List V} {j : Nat}, ns.idxOf? f = some j → ns.length = vs.length → putF f v (ns.zip vs) = ns.zip (vs.set j v)
  | [], _, _, h, _ => by simp at h
  | n :: ns, [], _, _, l => by simp at l
  | n :: ns, x :: vs, j, h, l => by
    rw [List.idxOf?_cons] at h
    rw [List.zip_cons_cons]
    unfold putF
    by_cases e : n = f
    · subst e
      simp at h
      subst h
      simp
    · have e1 : (n == f) = false := by simpa using e
      rw [e1] at h
      simp only [Bool.false_eq_true, if_false, Option.map_eq_some_iff] at h
      obtain ⟨j', h1, rfl⟩ := h
      rw [if_neg e, putF_set h1 (by simpa using l)]
      simp
theorem putF_app {f : Str} : ∀ {ns : List Str} {vs : List V} {k : Nat}, ns.idxOf? f = some k → (ns.take k).length = vs.length → putF f v ((ns.take k).zip vs) = (ns.take (k + 1)).zip (vs ++ [v])
  | [], _, _, h, _ => by simp at h
  | n :: ns, [], k, h, l => by
    have : k = 0 := by
      cases k with
      | zero => rfl
      | succ k => simp at l
    subst this
    rw [List.idxOf?_cons] at h
    by_cases e : (n == f) = true
    · have : n = f := by simpa using e
      subst this
      simp [putF]
    · simp [e] at h
  | n :: ns, x :: vs, k, h, l => by
    cases k with
    | zero => simp at l
    | succ k =>
      rw [List.idxOf?_cons] at h
      by_cases e : (n == f) = true
      · simp [e] at h
      · rw [if_neg e] at h
        simp only [Option.map_eq_some_iff] at h
        obtain ⟨j', h1, h2⟩ := h
        have : j' = k := by omega
        subst this
        have ne : n ≠ f := by simpa using e
        rw [List.take_succ_cons, List.zip_cons_cons]
        unfold putF
        rw [if_neg ne, putF_app h1 (by simpa using l)]
        simp
theorem stFld_ok {m m' : Ms} {x y : V} {fl : Str} {tab : List (Nat × Nat)} {Q : Hp → Prop} (ht : FldOk K.K ⟨K.P, K.w, K.ct, K.nm, K.et⟩ fl tab) (E : EnvOk K c σ H m.g m.s (y :: x :: us)) (h : stFld tab m = some m') (hq : ∀ H', EnvOk K c σ H' m'.g m'.s us → Q H') :
    ∃ a C dx fs, y = .ref a ∧ H a = some (.ins C dx fs) ∧ Cls K.K C ∧ NoAttr K.K C fl ∧ fs.length < 1000 ∧ Q (upd H a (.ins C dx (putF fl x fs))) ∧ ∀ n k o ts e s', m.s = e :: s' → viewE m.g e = some (.nd (.ins n k) o ts) → C = K.ct n := by
  unfold stFld at h
  split at h
  · rename_i p t s hs
    split at h
    · rename_i n k ts hg
      split at h
      · rename_i j hj
        split at h
        · rename_i he
          rw [hs] at E
          have hes := E.escAt hg (by simp)
          obtain ⟨Z, ws, Φ, Ψ, EE⟩ := id E
          obtain ⟨Θ, a, vs, Ξ, rfl, ho, hlr, hn⟩ := EE.view (n := 0) (e := .al p) rfl rfl hg
          obtain ⟨l, dx, ho⟩ := ho
          have hlen := RepL.len _ hlr
          obtain ⟨c1, c2, c3⟩ := ht n j (mem_lookup hj)
          have c3 : (K.nm n).idxOf? fl = some j := c3
          have c1 : Cls K.K (K.ct n) := c1
          have c2 : NoAttr K.K (K.ct n) fl := c2
          have lt : (((K.nm n).take k).zip vs).length < 1000 := by
            rw [List.length_zip, List.length_take]
            have := he.2
            omega
          refine ⟨a, _, dx, _, rfl, ho, c1, c2, lt, ?_, fun n' k' o' ts' e' s' q1 q2 => by
            rw [hs] at q1
            cases q1
            rw [show viewE m.g (.al p) = getG m.g p from rfl, hg] at q2
            cases q2
            rfl⟩
          split at h
          · rename_i hjk
            cases h
            refine hq _ ?_
            have hjt : j < ts.length := by
              rw [hlen, ← l, List.length_take]
              have : j < (K.nm n).length := by
                have h3 := c3
                rw [List.idxOf?_eq_some_iff] at h3
                exact h3.1
              omega
            rw [putF_set (idx_take c3 hjk) l]
            obtain ⟨a', e, E2⟩ := EnvOk.setIn (j := j) (ob := .ins (K.ct n) dx (((K.nm n).take k).zip (vs.set j x))) E hg (by simp) hjt he.1 (fun a2 vs2 ho2 e2 => by
              cases e2
              obtain ⟨l3, dx2, ho2⟩ := ho2
              have ev : vs = vs2 := Kids.fn (H := H) (v := .ref a) ⟨a, rfl, .inr (.inl ⟨_, dx, _, ho, l⟩)⟩ ⟨a, rfl, .inr (.inl ⟨_, dx2, _, ho2, l3⟩)⟩
              subst ev
              exact ⟨by simpa using l, dx, upd_same⟩)
            cases e
            exact E2
          · split at h
            · rename_i hjk hjk2
              cases h
              subst hjk2
              refine hq _ ?_
              rw [putF_app c3 l]
              have hjn : j < (K.nm n).length := by
                have h3 := c3
                rw [List.idxOf?_eq_some_iff] at h3
                exact h3.1
              obtain ⟨a', e, E2⟩ := EnvOk.modP (ins := [t]) (us1 := [x]) (outs := []) (vouts := []) (k' := .ins n (j + 1)) (ts' := ts ++ [t]) (ob := .ins (K.ct n) dx (((K.nm n).take (j + 1)).zip (vs ++ [x]))) (τ := s) (us := us) E rfl hg (by simp) (by simp) (fun a2 vs2 e2 ho2 l2 => by
                cases e2
                obtain ⟨l3, dx2, ho2⟩ := ho2
                have ev : vs = vs2 := Kids.fn (H := H) (v := .ref a) ⟨a, rfl, .inr (.inl ⟨_, dx, _, ho, l⟩)⟩ ⟨a, rfl, .inr (.inl ⟨_, dx2, _, ho2, l3⟩)⟩
                subst ev
                refine ⟨vs ++ [x], by simpa using l2, ⟨by rw [List.length_take] at l ⊢; simp; omega, dx, upd_same⟩, fun Z Ψa Ψb r1 r2 d => ⟨_, by simpa using RepL.append _ r1 r2 d, fun b q => q⟩⟩) rfl (by
                  rw [escL_all] at hes ⊢
                  intro y hy
                  rcases List.mem_append.mp hy with z | z
                  · exact hes y z
                  · rw [List.mem_singleton.mp z]; exact he.1)
              cases e
              simpa using E2
            · cases h
        · cases h
      · cases h
    · cases h
  · cases h
def sFldS (tab : List (Nat × Nat)) (gv go : GE) : GS := fun m => match gSeq gv go m with
  | some (.ok m') => match stFld tab m' with
    | some m2 => some (.nx m2)
    | none => none
  | some (.ex C g) => some (.ex C g)
  | none => none
theorem ms_fld {fl : Str} {tab : List (Nat × Nat)} {spos tpos : Pos} (hv : ME X T md W e gv) (ho : ME X T md W o go) (ht : FldOk X.K T fl tab) (hs : swapsWith e (some (.Attribute o fl spos)) tpos.line X.env = pure false := by rfl) : MS X T md W (.Assign [.Attribute o fl spos] e tpos) (sFldS tab gv go) := by
  obtain ⟨tv, pv, sv⟩ := hv
  obtain ⟨to, po, so⟩ := ho
  refine ⟨_, ps_fld po pv hs, fun c σ H m us D oo hc E hg hp => ?_⟩
  simp only [sFldS, gSeq] at hg
  cases e1 : gv m with
  | none => simp [e1] at hg
  | some r1 =>
    cases r1 with
    | ex C g' =>
      simp only [e1] at hg
      cases hg
      exact sv c σ H m us _ _ hc E e1 fun H1 E1 => hp σ H1 E1
    | ok m1 =>
      simp only [e1] at hg
      refine sv c σ H m us _ _ hc E e1 fun x H1 E1 => ?_
      cases e2 : go m1 with
      | none => simp [e2] at hg
      | some r2 =>
        cases r2 with
        | ex C g' =>
          simp only [e2] at hg
          cases hg
          exact so c σ H1 m1 _ _ _ hc E1 e2 fun H2 E2 => hp σ H2 E2
        | ok m2 =>
          simp only [e2] at hg
          refine so c σ H1 m1 _ _ _ hc E1 e2 fun y H2 E2 => ?_
          split at hg
          · rename_i m4 h4
            cases hg
            obtain ⟨a, C, dx, fs, z1, z2, z3, z4, z5, z6, _⟩ := stFld_ok ht E2 h4 fun H4 E4 => hp σ H4 E4
            exact ⟨a, C, dx, fs, z1, z2, z3, z4, z5, z6⟩
          · cases hg
end
section
variable {K : KC} {X : Cx} {T : KT} {md : List Bool} {W : WX} {c : Cz} {σ : St} {H H' : Hp} {Γ τ τ1 : List Ent} {us us1 vs vs' : List V} {v w : V} {p q : List Nat} {t : Tr} {ts ts' : List Tr} {k k' : Nk} {i j n : Nat} {a : Addr} {en en' : Ent} {o : Ow}
variable {st : Stmt} {rest sts sts' body : List Stmt} {g g' gb : GS} {ge gf gt gi go gv ga gs f : GE} {e b oe ie tg iter : Expr} {es : List Expr} {pos pos' : Pos}
/-! methods of lists -/
def chkL : GE := fun m => match m.s with
  | e :: _ => match viewE m.g e with
    | some (.nd .lst _ _) => some (.ok m)
    | _ => none
  | _ => none
def RM (K : KC) (md : List Bool) (W : WX) (n : Nat) (r : V → List V → Hp → VK → Prop) (f : GE) : Prop := ∀ (c : Cz) (σ : St) (H : Hp) (m : Ms) (us vs : List V) (x : V) (Q : VK) (rr : Rs), c.md = md → vs.length = n → EnvOk K c σ H m.g m.s (vs.reverse ++ x :: us) → f m = some rr → PostE K c W σ us Q rr → r x vs H Q
theorem chkL_ok {m : Ms} {x : V} {rr : Rs} (E : EnvOk K c σ H m.g m.s (x :: us)) (h : chkL m = some rr) : rr = .ok m ∧ tyV K.K "list" x H := by
  unfold chkL at h
  split at h
  · rename_i e s hs
    split at h
    · rename_i o ts hv
      cases h
      rw [hs] at E
      obtain ⟨Z, ws, Φ, Ψ, EE⟩ := E
      obtain ⟨Θ, a, vs, Ξ, rfl, ho, _⟩ := EE.view (n := 0) rfl rfl hv
      exact ⟨rfl, .inl ⟨rfl, vs, objL ho⟩⟩
    · cases h
  · cases h
theorem me_bm {r : V → List V → Hp → VK → Prop} {nmm : Str} {apos : Pos} (ho : ME X T md W oe go) (ha : MA X T md W es ga) (hf : RM (kcm X.K T) md W es.length r f) (h : ∀ {to : TE} {t : TA}, PE X oe to → PA X es t → PE X (.Call (.Attribute oe nmm apos) es [] pos) (tBM X.K "list" r to t)) : ME X T md W (.Call (.Attribute oe nmm apos) es [] pos) (gSeq go (gSeq chkL (gSeq ga f))) := by
  obtain ⟨to, po, so⟩ := ho
  obtain ⟨t, pa, sa⟩ := ha
  refine ⟨_, h po pa, fun c σ H m us Q rr hc E hg hp => ?_⟩
  simp only [gSeq] at hg
  split at hg
  · rename_i m1 h1
    refine so c σ H m us _ _ hc E h1 fun x H1 E1 => ?_
    split at hg
    · rename_i m2 h2
      obtain ⟨e2, ty⟩ := chkL_ok E1 h2
      cases e2
      refine ⟨ty, ?_⟩
      split at hg
      · rename_i m3 h3
        exact sa c σ H1 m1 _ _ _ hc E1 h3 fun vs H2 hl E2 => hf c σ H2 m3 us vs x Q rr hc hl E2 hg hp
      · rename_i h3
        refine sa c σ H1 m1 _ _ _ hc E1 hg ?_
        cases rr with
        | ex C g' => exact hp
        | ok m2 => exact absurd hg (h3 m2)
    · rename_i h2
      obtain ⟨e2, ty⟩ := chkL_ok E1 hg
      exact absurd (e2 ▸ hg) (h2 m1)
  · rename_i h1
    refine so c σ H m us _ _ hc E hg ?_
    cases rr with
    | ex C g' => exact hp
    | ok m2 => exact absurd hg (h1 m2)
def fApp : GE := fun m => match m.s with
  | .tr t :: .al p :: s => match getG m.g p with
    | some (.nd .lst .own ts) => if esc t = true ∧ ts.length < sizeLine then some (.ok ⟨kill p (setG m.g p (.nd .lst .own (ts ++ [t]))), .tr (.a .non) :: kill p s⟩) else none
    | _ => none
  | _ => none
theorem escL_app (h : escL ts = true) (he : esc t = true) : escL (ts ++ [t]) = true := by
  rw [escL_all] at h ⊢
  intro y hy
  rcases List.mem_append.mp hy with z | z
  · exact h y z
  · rw [List.mem_singleton.mp z]; exact he
theorem fApp_ok : RM K md W 1 rAppend fApp := by
  intro c σ H m us vs x Q rr hc hl E hf hp
  match vs, hl with
  | [y], _ =>
    unfold fApp at hf
    split at hf
    · rename_i t p s hs
      split at hf
      · rename_i ts hg
        split at hf
        · rename_i he
          cases hf
          rw [hs] at E
          have E1 : EnvOk K c σ H m.g (.al p :: .tr t :: s) (x :: y :: us) := EnvOk.swap2 E
          have hes := E1.escAt hg (by simp)
          obtain ⟨Z, ws, Φ, Ψ, EE⟩ := id E1
          obtain ⟨Θ, a, vs, Ξ, rfl, ho, hlr, hn⟩ := EE.view (n := 0) (e := .al p) rfl rfl hg
          have ho : H a = some (.lst vs) := ho
          have hlen := RepL.len _ hlr
          refine ⟨a, vs, y, rfl, rfl, ho, by rw [← hlen]; exact he.2, hp _ _ ?_⟩
          obtain ⟨a', e, E2⟩ := EnvOk.modP (ins := [t]) (us1 := [y]) (outs := []) (vouts := []) (k' := .lst) (ts' := ts ++ [t]) (ob := .lst (vs ++ [y])) (τ := s) (us := us) E1 rfl hg (by simp) (by simp) (fun a2 vs2 e2 ho2 l2 => by
            cases e2
            have ho2 : H a = some (.lst vs2) := ho2
            rw [ho] at ho2
            cases ho2
            exact ⟨vs ++ [y], by simpa using l2, upd_same, fun Z Ψa Ψb r1 r2 d => ⟨_, by simpa using RepL.append _ r1 r2 d, fun b q => q⟩⟩) rfl (escL_app hes he.1)
          cases e
          exact EnvOk.atom (by simpa using E2) .non
        · cases hf
      · cases hf
    · cases hf
def fPopA : GE := fun m => match m.s with
  | .tr (.a (.int x)) :: .al p :: s => match getG m.g p with
    | some (.nd .lst .own ts) => if -(2 ^ 63) ≤ x ∧ x < 2 ^ 63 then match seqIndex? x ts.length with
        | some j => match ts[j]? with
          | some t => some (.ok ⟨kill p (setG m.g p (.nd .lst .own (ts.eraseIdx j))), .tr t :: kill p s⟩)
          | none => none
        | none => none
      else none
    | _ => none
  | _ => none
theorem escL_erase (h : escL ts = true) : escL (ts.eraseIdx j) = true := by
  rw [escL_all] at h ⊢
  exact fun y hy => h y (List.mem_of_mem_eraseIdx hy)
theorem popStep {ad : Addr} {E1 : EnvOk K c σ H Γ (.al p :: τ) (.ref ad :: us)} (hg : getG Γ p = some (.nd .lst .own ts)) (ho : H ad = some (.lst vs)) (ht : ts[j]? = some t) (hv : vs[j]? = some v) : EnvOk K c σ (upd H ad (.lst (vs.eraseIdx j))) (kill p (setG Γ p (.nd .lst .own (ts.eraseIdx j)))) (.tr t :: kill p τ) (v :: us) := by
  obtain ⟨a', e, E2⟩ := EnvOk.modP (ins := []) (us1 := []) (outs := [t]) (vouts := [v]) (k' := .lst) (ts' := ts.eraseIdx j) (ob := .lst (vs.eraseIdx j)) (τ := τ) (us := us) E1 rfl hg (by simp) (by simp) (fun a2 vs2 e2 ho2 l2 => by
    cases e2
    have ho2 : H ad = some (.lst vs2) := ho2
    rw [ho] at ho2
    cases ho2
    refine ⟨vs.eraseIdx j, by rw [List.length_eraseIdx, List.length_eraseIdx, l2], upd_same, fun Z Ψa Ψb r1 r2 d => ?_⟩
    obtain ⟨v', Φ1, Φ2, e1, r, d1, u, _, r3⟩ := RepL.at_ _ r1 ht
    rw [hv] at e1
    cases e1
    have one : RepL K Z H .own [t] [v] Φ1 := ⟨v, [], Φ1, fun _ => False, rfl, r, ⟨rfl, fun _ h => h⟩, by simp, by simp⟩
    exact ⟨_, RepL.append _ r3 one (by grind), by grind⟩) rfl (escL_erase (E1.escAt hg (by simp)))
  cases e
  simpa using E2
theorem fPopA_ok : RM K md W 1 rPopAt fPopA := by
  intro c σ H m us vs x Q rr hc hl E hf hp
  match vs, hl with
  | [y], _ =>
    unfold fPopA at hf
    split at hf
    · rename_i xi p s hs
      split at hf
      · rename_i ts hg
        split at hf
        · rename_i hb
          split at hf
          · rename_i j hj
            split at hf
            · rename_i t ht
              cases hf
              rw [hs] at E
              have ey := top_a E
              subst ey
              have E1 := E.drop
              obtain ⟨Z, ws, Φ, Ψ, EE⟩ := id E1
              obtain ⟨Θ, a, vs, Ξ, rfl, ho, hlr, hn⟩ := EE.view (n := 0) (e := .al p) rfl rfl hg
              have ho : H a = some (.lst vs) := ho
              have hlen := RepL.len _ hlr
              have hjv : j < vs.length := by rw [← hlen]; exact getq_lt' ht
              exact ⟨a, vs, xi, j, vs[j], rfl, rfl, ho, hb.1, hb.2, by rw [← hlen]; exact hj, List.getElem?_eq_getElem hjv, hp _ _ (popStep (E1 := E1) hg ho ht (List.getElem?_eq_getElem hjv))⟩
            · cases hf
          · cases hf
        · cases hf
      · cases hf
    · cases hf
def fPop : GE := fun m => match m.s with
  | .al p :: s => match getG m.g p with
    | some (.nd .lst .own ts) => match ts[ts.length - 1]? with
      | some t => some (.ok ⟨kill p (setG m.g p (.nd .lst .own (ts.eraseIdx (ts.length - 1)))), .tr t :: kill p s⟩)
      | none => none
    | _ => none
  | _ => none
/-! x op= e -/
def sAug (md : List Bool) (i : Nat) (ge f : GE) : GS := sSet md i (gSeq (gSeq (gVar i) ge) f)
/-! targets -/
def SG (K : KC) (md : List Bool) (t : TG) (b : Ms → Option Ms) : Prop := ∀ (c : Cz) (σ : St) (H : Hp) (m m' : Ms) (us : List V) (x : V) (Q : St → Hp → Prop), c.md = md → EnvOk K c σ H m.g m.s (x :: us) → b m = some m' → (∀ σ' H', EnvOk K c σ' H' m'.g m'.s us → Q σ' H') → t x σ H Q
def MG (X : Cx) (T : KT) (md : List Bool) (tg : Expr) (b : Ms → Option Ms) : Prop := ∃ t, PG X tg t ∧ SG (kcm X.K T) md t b
theorem sg_name : SG K md (gName i) (bind md i) := fun c σ H m m' us x Q hc E h hq => hq _ _ (bind_ok hc E h)
theorem mg_name {x : Str} (hN : X.N.Nodup) (hi : X.N[i]? = some x) (hx : Loc X.env.scope x) (hf : X.fn x = true ∨ X.env.scope.names.lookup x = some .local := by first | exact .inl rfl | exact .inr rfl | assumption) : MG X T md (.Name x pos) (bind md i) := ⟨_, pg_name hN hi hx hf, sg_name⟩
end
section
variable {K : KC} {X : Cx} {T : KT} {md : List Bool} {W : WX} {c : Cz} {σ : St} {H H' : Hp} {Γ τ τ1 : List Ent} {us us1 vs vs' : List V} {v w : V} {p q : List Nat} {t : Tr} {ts ts' : List Tr} {k k' : Nk} {i j n : Nat} {a : Addr} {en en' : Ent} {o : Ow}
variable {st : Stmt} {rest sts sts' body : List Stmt} {g g' gb : GS} {ge gf gt gi go gv ga gs f : GE} {e b oe ie tg iter : Expr} {es : List Expr} {pos pos' : Pos} {bd : Ms → Option Ms}
/-- the j-th item beside the thing itself -/
def kidX (e : Ent) (k : Nk) (o : Ow) (ts : List Tr) (j : Nat) : Option Ent := match ts[j]? with
  | none => none
  | some t => if cp (kid o t) = true then some (.tr (kid o t)) else match e, k with
    | .al _, .tup => none
    | .al p, _ => if o = .own then some (.al (p ++ [j])) else none
    | _, _ => none
theorem EnvOk.dup (E : EnvOk K c σ H Γ (.al p :: τ) (w :: us)) : EnvOk K c σ H Γ (.al p :: .al p :: τ) (w :: w :: us) := by
  obtain ⟨Z, ws, Φ, Ψ, EE⟩ := id E
  obtain ⟨w0, e0, raw, g⟩ := EE.to 0 p rfl
  cases e0
  refine E.pushA (fun ws2 Z2 Φ2 Ψ2 EE2 => ?_) g
  obtain ⟨w1, e1, raw1, _⟩ := EE2.to 0 p rfl
  cases e1
  exact raw1
theorem EnvOk.dupC (E : EnvOk K c σ H Γ (.tr t :: τ) (w :: us)) (hc : cp t = true) : EnvOk K c σ H Γ (.tr t :: .tr t :: τ) (w :: w :: us) := by
  obtain ⟨Z, ws, Φ, Ψ, EE⟩ := E
  refine EE.swapE (τ1 := [.tr t]) (us1 := [w]) (τ1' := [.tr t, .tr t]) (us1' := [w, w]) rfl (by simp) (fun Ψ1 r zo => ?_) rfl
  have hs := RepL.isS _ r
  obtain ⟨v0, vs0, Θ1, Θ2, e1, a1, a2, ad, au⟩ := id r
  cases e1
  have n0 := Rep.cp0 _ a1 hc
  have n2 : ∀ b, ¬ Θ2 b := a2.2
  exact ⟨Z, Θ1, ⟨w, [w], Θ1, Θ1, rfl, a1, ⟨w, [], Θ1, Θ2, rfl, a1, a2, by grind, by grind⟩, by grind, by grind⟩, .same _ _ _ EE.zs hs _ fun b q => absurd q (n0 b)⟩
theorem EnvOk.kidX (E : EnvOk K c σ H Γ (en :: τ) (w :: us)) (hc : ∀ t, en = .tr t → cp t = true) (hv : viewE Γ en = some (.nd k o ts)) (hk : kidX en k o ts j = some en') :
    ∃ a vs w', w = .ref a ∧ ObjAt K k o H a vs ∧ ts.length = vs.length ∧ vs[j]? = some w' ∧ EnvOk K c σ H Γ (en' :: en :: τ) (w' :: w :: us) := by
  have hE : kidE en k o ts j = some en' := by
    unfold Mine.kidX at hk
    unfold kidE
    split at hk
    · cases hk
    · rename_i t ht
      try simp only [ht]
      split at hk
      · rename_i hcp
        rw [if_pos hcp]
        exact hk
      · rename_i hcp
        rw [if_neg hcp]
        split at hk
        · cases hk
        · rename_i p hne
          split at hk
          · rename_i ho
            cases hk
            cases k <;> simp_all
          · cases hk
        · cases hk
  have E2 : EnvOk K c σ H Γ (en :: en :: τ) (w :: w :: us) := by
    cases en with
    | no => simp [viewE] at hv
    | tr t => exact E.dupC (hc t rfl)
    | al p => exact E.dup
  exact E2.kidOf hv hE
def cpE : Ent → Bool
  | .tr t => cp t
  | _ => true
/-- for over the thing on top, which stays there -/
def loopE (k : Nk) (bd : Ms → Option Ms) (body : GS) : Nat → Nat → Ms → Option Os
  | 0, i, m => match m.s with
    | e :: s => match viewE m.g e with
      | some (.nd k' _ ts) => if k' = k ∧ ts.length = i then some (.nx ⟨m.g, s⟩) else none
      | _ => none
    | _ => none
  | r + 1, i, m => match m.s with
    | e :: s => match viewE m.g e with
      | some (.nd k' o ts) => if k' = k ∧ cpE e = true ∧ ts.length = i + (r + 1) then match kidX e k o ts i with
          | some e' => match bd ⟨m.g, e' :: e :: s⟩ with
            | some m1 => match body m1 with
              | some (.nx m2) => loopE k bd body r (i + 1) m2
              | some (.ct m2) => loopE k bd body r (i + 1) m2
              | some (.bk m2) => some (.nx ⟨m2.g, m2.s.tail⟩)
              | some (.rt t m2) => some (.rt t ⟨m2.g, m2.s.tail⟩)
              | some (.ex C g) => some (.ex C g)
              | none => none
            | none => none
          | none => none
        else none
      | _ => none
    | _ => none
/-- what a for walks: made ready, with its length -/
def ready : Ms → Option (Ms × Nk × Nat) := fun m => match m.s with
  | .tr (.nd k o ts) :: s => if k = .lst ∨ k = .tup then some (⟨m.g, .tr (kid .lnt (.nd k o ts)) :: s⟩, k, ts.length) else none
  | .al p :: s => match getG m.g p with
    | some (.nd .lst .own ts) => some (⟨m.g, .al p :: s⟩, .lst, ts.length)
    | _ => none
  | _ => none
def sFor (gs : GE) (bd : Ms → Option Ms) (body : GS) : GS := fun m => match gs m with
  | some (.ok m1) => match ready m1 with
    | some (m2, k, n) => loopE k bd body n 0 m2
    | none => none
  | some (.ex C g) => some (.ex C g)
  | none => none
theorem tail_len {s : List Ent} (E : EnvOk K c σ H Γ s us) : s.length = us.length := by
  obtain ⟨Z, ws, Φ, Ψ, EE⟩ := E
  have := RepL.len _ EE.tm
  simpa [trees] using this
theorem EnvOk.tail {s : List Ent} {x : V} (E : EnvOk K c σ H Γ s (x :: us)) : EnvOk K c σ H Γ s.tail us := by
  have := tail_len E
  match s, this with
  | e :: s, _ => exact E.drop
theorem EnvOk.tail2 {s : List Ent} {x y : V} (E : EnvOk K c σ H Γ (.tr t :: s) (y :: x :: us)) : EnvOk K c σ H Γ (.tr t :: s.tail) (y :: us) := by
  have := tail_len E
  match s, this with
  | e :: s, _ => exact (EnvOk.swap2 E).drop
/-- the abstract loop: J walks, the items come as the machine has them -/
theorem loop_ok {J : It} {tb : L2.TS} {gT : TG} {D : Ends} {w : V} {oo : Os} (hm : c.md = md) (hT : SG K md gT bd) (hB : SS K md W tb gb)
    (stop : ∀ i H Γ τ σ us e ts o, EnvOk K c σ H Γ (e :: τ) (w :: us) → viewE Γ e = some (.nd k o ts) → ts.length = i → J.stop i H)
    (step : ∀ i H Γ τ σ us e ts o e', EnvOk K c σ H Γ (e :: τ) (w :: us) → cpE e = true → viewE Γ e = some (.nd k o ts) → kidX e k o ts i = some e' → i < ts.length → J.go i H ∧ ∀ x H', J.yld i H x H' → H' = H ∧ EnvOk K c σ H Γ (e' :: e :: τ) (x :: w :: us))
    (hp : PostS K c W us D oo) : ∀ {σ : St} {H : Hp} {m : Ms} {n : Nat}, EnvOk K c σ H m.g m.s (w :: us) → loopE k bd gb n 0 m = some oo →
    ∃ Wv : Nat → Nat → St → Hp → Prop, (∃ mm, Wv 0 mm σ H) ∧ ∀ i mm σ H, Wv i mm σ H →
      (J.stop i H ∧ D.nx σ H) ∨ (J.go i H ∧ ∃ N : St → Hp → Prop, (∀ σ' H', N σ' H' → ∃ m', m' < mm ∧ Wv (i + 1) m' σ' H') ∧ ∀ x H', J.yld i H x H' → gT x σ H' fun σ2 H2 => tb { D with nx := N, ct := N, bk := D.nx } σ2 H2) := by
  intro σ H m n E hg
  refine ⟨fun i r σ H => ∃ m : Ms, EnvOk K c σ H m.g m.s (w :: us) ∧ loopE k bd gb r i m = some oo, ⟨n, m, E, hg⟩, ?_⟩
  rintro i r σ H ⟨m, E, hg⟩
  cases r with
  | zero =>
    simp only [loopE] at hg
    split at hg
    · rename_i e s hs
      split at hg
      · rename_i k' o ts hv
        split at hg
        · rename_i hl
          cases hg
          rw [hs] at E
          obtain ⟨rfl, hl⟩ := hl
          exact .inl ⟨stop i H m.g s σ us e ts o E hv hl, hp σ H E.drop⟩
        · cases hg
      · cases hg
    · cases hg
  | succ r =>
    simp only [loopE] at hg
    split at hg
    · rename_i e s hs
      split at hg
      · rename_i k' o ts hv
        split at hg
        · rename_i hl
          obtain ⟨rfl, hl⟩ := hl
          split at hg
          · rename_i e' hk
            split at hg
            · rename_i m1 h1
              rw [hs] at E
              obtain ⟨go, yld⟩ := step i H m.g s σ us e ts o e' E hl.1 hv hk (by have := hl.2; omega)
              refine .inr ⟨go, fun σ' H' => ∃ m : Ms, EnvOk K c σ' H' m.g m.s (w :: us) ∧ loopE k' bd gb r (i + 1) m = some oo, fun σ' H' z => ⟨r, by omega, z⟩, fun x H' y => ?_⟩
              obtain ⟨rfl, E1⟩ := yld x H' y
              refine hT c σ H' ⟨m.g, e' :: e :: s⟩ m1 _ x _ hm E1 h1 fun σ2 H2 E2 => ?_
              cases h2 : gb m1 with
              | none => simp [h2] at hg
              | some o2 =>
                refine hB c σ2 H2 m1 _ _ o2 hm E2 h2 ?_
                cases o2 with
                | nx m2 =>
                  simp only [h2] at hg
                  exact fun σ3 H3 E3 => ⟨m2, E3, hg⟩
                | ct m2 =>
                  simp only [h2] at hg
                  exact fun σ3 H3 E3 => ⟨m2, E3, hg⟩
                | bk m2 =>
                  simp only [h2] at hg
                  cases hg
                  exact fun σ3 H3 E3 => hp σ3 H3 E3.tail
                | rt t m2 =>
                  simp only [h2] at hg
                  cases hg
                  exact fun σ3 x3 H3 E3 => hp σ3 x3 H3 E3.tail2
                | ex C g' =>
                  simp only [h2] at hg
                  cases hg
                  exact hp
            · cases hg
          · cases hg
        · cases hg
      · cases hg
    · cases hg
theorem PI.or {tg iter : Expr} {w1 w2 : TI} (h1 : PI X tg iter w1) (h2 : PI X tg iter w2) : PI X tg iter (fun σ H R => w1 σ H R ∨ w2 σ H R) := by
  refine ⟨fun pins s σ H R I h => ?_⟩
  rcases h with h | h
  · exact h1.run pins s σ H R I h
  · exact h2.run pins s σ H R I h
theorem ready_ok {m m' : Ms} {k : Nk} {x : V} (E : EnvOk K c σ H m.g m.s (x :: us)) (h : ready m = some (m', k, n)) : EnvOk K c σ H m'.g m'.s (x :: us) ∧ ∃ e s o ts, m'.s = e :: s ∧ viewE m'.g e = some (.nd k o ts) ∧ (k = .lst ∨ k = .tup) := by
  unfold ready at h
  split at h
  · rename_i k2 o ts s hs
    split at h
    · rename_i hk
      cases h
      rw [hs] at E
      rcases hk with rfl | rfl
      · exact ⟨E.lend, _, _, _, _, rfl, rfl, .inl rfl⟩
      · exact ⟨E.lend, _, _, _, _, rfl, rfl, .inr rfl⟩
    · cases h
  · rename_i p s hs
    split at h
    · rename_i ts hg
      cases h
      rw [hs] at E
      exact ⟨E, _, _, _, _, rfl, hg, .inl rfl⟩
    · cases h
  · cases h
theorem viewObj (E : EnvOk K c σ H Γ (en :: τ) (w :: us)) (hv : viewE Γ en = some (.nd k o ts)) : ∃ a vs, w = .ref a ∧ ObjAt K k o H a vs ∧ ts.length = vs.length := by
  obtain ⟨Z, ws, Φ, Ψ, EE⟩ := E
  obtain ⟨Θ, a, vs, Ξ, rfl, ho, hl, _⟩ := EE.view (n := 0) rfl rfl hv
  exact ⟨a, vs, rfl, ho, RepL.len _ hl⟩
theorem cpE_tr (h : cpE en = true) : ∀ t, en = .tr t → cp t = true := fun t e => by subst e; exact h
theorem ms_for (hs : ME X T md W iter gs) (hT : MG X T md tg bd) (hB : MSs X T md W body gb) (hp : PassesOwn (model X.prog X.w) X.A X.env X.xe) (hc : X.calm = true)
    (hf : ∀ x, foldedSetIterable iter X.env x = pure x := by intro _; rfl) : MS X T md W (.For tg iter body [] pos) (sFor gs bd gb) := by
  obtain ⟨ti, pi, si⟩ := hs
  obtain ⟨tt, pt, st⟩ := hT
  obtain ⟨tb, pb, sb⟩ := hB
  refine ⟨_, ps_for hp hc (PI.or (pi_list pi) (pi_tup pi)) pt pb hf, fun c σ H m us D oo hm E hg hpo => ?_⟩
  simp only [sFor] at hg
  split at hg
  · rename_i m1 h1
    split at hg
    · rename_i m2 k n h2
      -- the kind is known ahead
      have hk : k = .lst ∨ k = .tup := by
        unfold ready at h2
        split at h2
        · split at h2
          · rename_i hk
            cases h2
            exact hk
          · cases h2
        · split at h2
          · cases h2
            exact .inl rfl
          · cases h2
        · cases h2
      rcases hk with rfl | rfl
      · refine .inl (si c σ H m us _ _ hm E h1 fun x H1 E1 => ?_)
        obtain ⟨E2, e, s, o, ts, hs2, hv, _⟩ := ready_ok E1 h2
        obtain ⟨a, vs, rfl, ho, _⟩ := viewObj (hs2 ▸ E2) hv
        refine ⟨a, rfl, ⟨vs, objL ho⟩, ?_⟩
        refine loop_ok hm st sb (fun i H Γ τ σ us e ts o E hv hl => ?_) (fun i H Γ τ σ us e ts o e' E hcp hv hk hi => ?_) hpo E2 hg
        · obtain ⟨a', vs', e, ho, hl2⟩ := viewObj E hv
          cases e
          exact ⟨vs', objL ho, by omega⟩
        · obtain ⟨a', vs', w', e, ho, hl2, hw, E3⟩ := EnvOk.kidX E (cpE_tr hcp) hv hk
          cases e
          refine ⟨⟨vs', w', objL ho, hw⟩, fun x H' y => ?_⟩
          obtain ⟨rfl, y⟩ := y
          have := y vs' (objL ho)
          rw [hw] at this
          cases this
          exact ⟨rfl, E3⟩
      · refine .inr (si c σ H m us _ _ hm E h1 fun x H1 E1 => ?_)
        obtain ⟨E2, e, s, o, ts, hs2, hv, _⟩ := ready_ok E1 h2
        obtain ⟨a, vs, rfl, ho, _⟩ := viewObj (hs2 ▸ E2) hv
        refine ⟨a, rfl, ⟨vs, objT ho⟩, ?_⟩
        refine loop_ok hm st sb (fun i H Γ τ σ us e ts o E hv hl => ?_) (fun i H Γ τ σ us e ts o e' E hcp hv hk hi => ?_) hpo E2 hg
        · obtain ⟨a', vs', e, ho, hl2⟩ := viewObj E hv
          cases e
          exact ⟨vs', objT ho, by omega⟩
        · obtain ⟨a', vs', w', e, ho, hl2, hw, E3⟩ := EnvOk.kidX E (cpE_tr hcp) hv hk
          cases e
          refine ⟨⟨vs', w', objT ho, hw⟩, fun x H' y => ?_⟩
          obtain ⟨rfl, y⟩ := y
          have := y vs' (objT ho)
          rw [hw] at this
          cases this
          exact ⟨rfl, E3⟩
    · cases hg
  · rename_i h1
    cases hg
    exact .inl (si c σ H m us _ _ hm E h1 fun H1 E1 => hpo σ H1 E1)
  · cases hg
/-! for over a range: no object is on the stack -/
def loopR (bd : Ms → Option Ms) (body : GS) (lo : Int) : Nat → Nat → Ms → Option Os
  | 0, _, m => some (.nx m)
  | r + 1, i, m => match bd ⟨m.g, .tr (.a (.int (lo + i))) :: m.s⟩ with
    | some m1 => match body m1 with
      | some (.nx m2) => loopR bd body lo r (i + 1) m2
      | some (.ct m2) => loopR bd body lo r (i + 1) m2
      | some (.bk m2) => some (.nx m2)
      | some (.rt t m2) => some (.rt t m2)
      | some (.ex C g) => some (.ex C g)
      | none => none
    | none => none
theorem loopR_ok {lo : Int} {tb : L2.TS} {gT : TG} {D : Ends} {oo : Os} (hm : c.md = md) (hT : SG K md gT bd) (hB : SS K md W tb gb) (hp : PostS K c W us D oo) {m : Ms} (E : EnvOk K c σ H m.g m.s us) (hg : loopR bd gb lo n 0 m = some oo) :
    ∃ Wv : Nat → Nat → St → Hp → Prop, (∃ mm, Wv 0 mm σ H) ∧ ∀ i mm σ H, Wv i mm σ H →
      ((Itr lo n).stop i H ∧ D.nx σ H) ∨ ((Itr lo n).go i H ∧ ∃ N : St → Hp → Prop, (∀ σ' H', N σ' H' → ∃ m', m' < mm ∧ Wv (i + 1) m' σ' H') ∧ ∀ x H', (Itr lo n).yld i H x H' → gT x σ H' fun σ2 H2 => tb { D with nx := N, ct := N, bk := D.nx } σ2 H2) := by
  refine ⟨fun i r σ H => i + r = n ∧ ∃ m : Ms, EnvOk K c σ H m.g m.s us ∧ loopR bd gb lo r i m = some oo, ⟨n, by omega, m, E, hg⟩, ?_⟩
  rintro i r σ H ⟨hir, m, E, hg⟩
  cases r with
  | zero =>
    simp only [loopR] at hg
    cases hg
    exact .inl ⟨by show n ≤ i; omega, hp σ H E⟩
  | succ r =>
    simp only [loopR] at hg
    split at hg
    · rename_i m1 h1
      refine .inr ⟨by show i < n; omega, fun σ' H' => i + 1 + r = n ∧ ∃ m : Ms, EnvOk K c σ' H' m.g m.s us ∧ loopR bd gb lo r (i + 1) m = some oo, fun σ' H' z => ⟨r, by omega, z⟩, fun x H' y => ?_⟩
      obtain ⟨rfl, rfl⟩ := y
      refine hT c σ H' ⟨m.g, _ :: m.s⟩ m1 _ _ _ hm (E.atom _) h1 fun σ2 H2 E2 => ?_
      cases h2 : gb m1 with
      | none => simp [h2] at hg
      | some o2 =>
        refine hB c σ2 H2 m1 _ _ o2 hm E2 h2 ?_
        cases o2 with
        | nx m2 =>
          simp only [h2] at hg
          exact fun σ3 H3 E3 => ⟨by omega, m2, E3, hg⟩
        | ct m2 =>
          simp only [h2] at hg
          exact fun σ3 H3 E3 => ⟨by omega, m2, E3, hg⟩
        | bk m2 =>
          simp only [h2] at hg
          cases hg
          exact hp
        | rt t m2 =>
          simp only [h2] at hg
          cases hg
          exact hp
        | ex C g' =>
          simp only [h2] at hg
          cases hg
          exact hp
    · cases hg
def sForR1 (ga : GE) (bd : Ms → Option Ms) (body : GS) : GS := fun m => match ga m with
  | some (.ok ⟨g', .tr (.a (.int j)) :: s⟩) => if -(2 ^ 62) ≤ j ∧ j < 2 ^ 62 then loopR bd body 0 j.toNat 0 ⟨g', s⟩ else none
  | some (.ex C g) => some (.ex C g)
  | _ => none
def sForR2 (ga : GE) (bd : Ms → Option Ms) (body : GS) : GS := fun m => match ga m with
  | some (.ok ⟨g', .tr (.a (.int j)) :: .tr (.a (.int i)) :: s⟩) => if -(2 ^ 62) ≤ i ∧ i < 2 ^ 62 ∧ -(2 ^ 62) ≤ j ∧ j < 2 ^ 62 then loopR bd body i (j - i).toNat 0 ⟨g', s⟩ else none
  | some (.ex C g) => some (.ex C g)
  | _ => none
theorem ms_forR1 {rp : Pos} (ha : MA X T md W [e] ga) (hT : MG X T md tg bd) (hB : MSs X T md W body gb) (hgl : Gl X "range") (hmg : X.mg "range" = none) (hp : PassesOwn (model X.prog X.w) X.A X.env X.xe) (hc : X.calm = true)
    (hs : starEach [e] X.env = [(false, eval e X.env)] := by rfl) (hf : ∀ x, foldedSetIterable (.Call (.Name "range" rp) [e] [] pos') X.env x = pure x := by intro _; rfl) : MS X T md W (.For tg (.Call (.Name "range" rp) [e] [] pos') body [] pos) (sForR1 ga bd gb) := by
  obtain ⟨ta, pa, sa⟩ := ha
  obtain ⟨tt, pt, st⟩ := hT
  obtain ⟨tb, pb, sb⟩ := hB
  refine ⟨_, ps_for hp hc (pi_range1 hgl hmg pa hs) pt pb hf, fun c σ H m us D oo hm E hg hpo => ?_⟩
  simp only [sForR1] at hg
  split at hg
  · rename_i g' j s h1
    split at hg
    · rename_i hb
      refine sa c σ H m us _ _ hm E h1 fun vs H1 hl E1 => ?_
      match vs, hl with
      | [x], _ =>
        have E1 : EnvOk (kcm X.K T) c σ H1 g' (.tr (.a (.int j)) :: s) (x :: us) := E1
        cases top_a E1
        exact ⟨j, rfl, hb.1, hb.2, loopR_ok hm st sb hpo (m := ⟨g', s⟩) E1.drop hg⟩
    · cases hg
  · rename_i h1
    cases hg
    exact sa c σ H m us _ _ hm E h1 fun H1 E1 => hpo σ H1 E1
  · cases hg
theorem ms_forR2 {rp : Pos} (ha : MA X T md W [e, b] ga) (hT : MG X T md tg bd) (hB : MSs X T md W body gb) (hgl : Gl X "range") (hmg : X.mg "range" = none) (hp : PassesOwn (model X.prog X.w) X.A X.env X.xe) (hc : X.calm = true)
    (hs : starEach [e, b] X.env = [(false, eval e X.env), (false, eval b X.env)] := by rfl) (hs2 : starEach [b] X.env = [(false, eval b X.env)] := by rfl) (hf : ∀ x, foldedSetIterable (.Call (.Name "range" rp) [e, b] [] pos') X.env x = pure x := by intro _; rfl) : MS X T md W (.For tg (.Call (.Name "range" rp) [e, b] [] pos') body [] pos) (sForR2 ga bd gb) := by
  obtain ⟨ta, pa, sa⟩ := ha
  obtain ⟨tt, pt, st⟩ := hT
  obtain ⟨tb, pb, sb⟩ := hB
  refine ⟨_, ps_for hp hc (pi_range2 hgl hmg pa hs hs2) pt pb hf, fun c σ H m us D oo hm E hg hpo => ?_⟩
  simp only [sForR2] at hg
  split at hg
  · rename_i g' j i s h1
    split at hg
    · rename_i hb
      refine sa c σ H m us _ _ hm E h1 fun vs H1 hl E1 => ?_
      match vs, hl with
      | [x, y], _ =>
        have E1 : EnvOk (kcm X.K T) c σ H1 g' (.tr (.a (.int j)) :: .tr (.a (.int i)) :: s) (y :: x :: us) := E1
        cases top_a E1
        cases top_a E1.drop
        exact ⟨i, j, rfl, hb, loopR_ok hm st sb hpo (m := ⟨g', s⟩) E1.drop.drop hg⟩
    · cases hg
  · rename_i h1
    cases hg
    exact sa c σ H m us _ _ hm E h1 fun H1 E1 => hpo σ H1 E1
  · cases hg
end
/-! errors whose context is None (they are raised where nothing is handled): the names of ExcCtx in place of Exc's -/
section
variable {X : Cx} {W : WX} {E : XK}
abbrev Takes (X : Cx) (W : WX) : Prop := L2N.Takes X W
abbrev PMk := L2N.PMk
theorem passAt (tk : Takes X W) (σ : L2.St) : PassesAt (L2N.CX X.prog X.w) X σ (WE W σ) := L2N.passAt tk σ
theorem takes0 : Takes X (fun _ _ _ _ => False) := by
  rintro u s ⟨_, _, _, _, _, _, _, _, _, _, _, _, _, _, _, _, z⟩
  exact z.elim
theorem passL : Passes (L2N.CX X.prog X.w) X E0 := by
  rintro _ _ _ _ _ _ _ ⟨_, _, _, _, _, _, _, _, _, _, _, _, z⟩
  exact z.elim
theorem takes_of (hs : X.stack = X.env :: X.outer) (hf : X.env.frame = some X.env.locals) (hex : X.ex = []) {E₁ : Value → Shared → Prop} (hx : X.xe = fun e s' => wpAny (model X.prog X.w) X.A (leaving X.env e) (fun _ s'' => L2N.CX X.prog X.w X.outer X.H_0 X.s_0 E e s'') E₁ s') :
    Takes X (fun cls d _ H => E cls d H) := L2N.takes_of hs hf hex hx
theorem pmk_own {x m : Str} {j : Nat} {p p2 pos : Pos} {C : Addr} {bmB : List Value} {B newId initId : String} (F : ExcBaseFacts B newId initId bmB) (q : PySem.W.excIn X.K C bmB newId = true) (gC : X.mg x = some (.ref C)) (kC : PySem.W.keepIn X.K (.ref C) = true) (r : Raises X (.ref C)) (hg : Gl X x)
    (notDb : (x == ("__debug__" : Str)) = false := by decide) : PMk X (.Call (.Name x p) [.Constant (.str m) j p2] [] pos) (fun _ H Q => Q (.ref C) none H) := L2N.pmk_own F q gC kC r hg notDb
end
section
variable {K : KC} {X : Cx} {T : KT} {md mdc : List Bool} {W : WX} {c : Cz} {σ : St} {H H' : Hp} {Γ τ τ1 : List Ent} {us us1 vs vs' : List V} {v w : V} {p q : List Nat} {t : Tr} {ts ts' : List Tr} {k k' : Nk} {i j n d : Nat} {a : Addr} {en en' : Ent} {o : Ow}
/-! a def's promise by a function on trees -/
inductive Rt | rt (r : Tr) (ts : List Tr) | ex (C : Nat) (ts : List Tr)
abbrev GF := List Tr → Option Rt
structure Cl (H H' : Hp) (F S S' F1 : Ps) : Prop where
  ob : ∀ b ob, H b = some ob → ¬ F b → H' b = some ob
  oc : ∀ b, F b → (H' b).isSome = true
  nw : ∀ b, F1 b → (F b ∨ H b = none) ∧ ¬ S' b
  s0 : ∀ b, S b → S' b
  s1 : ∀ b, S' b → S b ∨ F b ∨ H b = none
  ss : ∀ b, S' b → (H' b).isSome = true
def PostF (K : KC) (vs : List V) (H : Hp) (F S : Ps) (Q : VK) (E : XK) : Rt → Prop
  | .rt r ts' => ∀ v H' S' F1, RepL K ⟨S', fun _ => False⟩ H' .own (r :: ts') (v :: vs) F1 → Cl H H' F S S' F1 → Q v H'
  | .ex C ts' => ∀ H' S' F1, RepL K ⟨S', fun _ => False⟩ H' .own ts' vs F1 → Cl H H' F S S' F1 → E (.ref (K.et C)) none H'
/-- only what is a parameter of its own comes back -/
def outP : List Bool → List Ent → List Tr
  | [], _ => []
  | true :: bs, e :: es => e.tree :: outP bs es
  | false :: bs, _ :: es => .any :: outP bs es
  | _ :: bs, [] => .any :: outP bs []
def mdOk : List Bool → List Tr → Bool
  | [], [] => true
  | b :: bs, t :: ts => (b || cp t) && mdOk bs ts
  | _, _ => false
def spOf (K : KC) (md : List Bool) (G : GF) : Sp := fun vs H Q E => ∃ (ts : List Tr) (Z : Zn) (F : Ps) (o : Rt), RepL K Z H .own ts vs F ∧ mdOk md ts = true ∧ (∀ b, F b → ¬ Z.fz b ∧ ¬ Z.ln b) ∧ (∀ b, Z.fz b ∨ Z.ln b → (H b).isSome = true) ∧ G ts = some o ∧ PostF K vs H F Z.fz Q E o
def runF (md : List Bool) (N : Nat) (g : GS) : GF := fun ts => match g ⟨ts.map Ent.tr ++ List.replicate (N - ts.length) .no, []⟩ with
  | some (.nx m) => if escL (outP md m.g) = true then some (.rt (.a .non) (outP md m.g)) else none
  | some (.rt t m) => if esc t = true ∧ escL (outP md m.g) = true then some (.rt t (outP md m.g)) else none
  | some (.ex C g') => if escL (outP md g') = true then some (.ex C (outP md g')) else none
  | _ => none
mutual
theorem Rep.esc0 {Z : Zn} {H : Hp} : ∀ (t : Tr) {m : Ow} {v : V} {Φ : Ps}, Rep K Z H m t v Φ → m ≠ .lnt → (m = .own → esc t = true) → Rep K ⟨Z.fz, fun _ => False⟩ H m t v Φ
  | .any, _, _, _, h, _, _ => h
  | .a _, _, _, _, h, _, _ => h
  | .nd k o ts, m, v, Φ, h, hm, he => by
    obtain ⟨a, vs, Ψ, e1, ho, hl, hn⟩ := h
    have nl : eff m o ≠ .lnt := by
      cases m with
      | lnt => exact absurd rfl hm
      | frz => simp [eff]
      | own =>
        have := he rfl
        cases k <;> cases o <;> simp_all [esc, eff]
    refine ⟨a, vs, Ψ, e1, ho, RepL.esc0 ts hl nl fun q => ?_, ?_⟩
    · cases m with
      | lnt => exact absurd rfl hm
      | frz => simp [eff] at q
      | own =>
        have := he rfl
        cases k <;> cases o <;> simp_all [esc, eff, Nod]
    · cases k <;> cases eo : eff m o <;> simp_all [Nod]
theorem RepL.esc0 {Z : Zn} {H : Hp} : ∀ (ts : List Tr) {m : Ow} {vs : List V} {Φ : Ps}, RepL K Z H m ts vs Φ → m ≠ .lnt → (m = .own → escL ts = true) → RepL K ⟨Z.fz, fun _ => False⟩ H m ts vs Φ
  | [], _, _, _, h, _, _ => h
  | t :: ts, m, vs, Φ, h, hm, he => by
    obtain ⟨v', vs', Φ1, Φ2, e1, h1, h2, d1, u⟩ := h
    exact ⟨v', vs', Φ1, Φ2, e1, Rep.esc0 t h1 hm (fun q => by have := he q; simp_all [escL]), RepL.esc0 ts h2 hm (fun q => by have := he q; simp_all [escL]), d1, u⟩
end
theorem outP_ok {Z : Zn} {H : Hp} : ∀ {md : List Bool} {Γ : List Ent} {ws vs : List V} {Φ : Ps}, RepL K Z H .own (trees Γ) ws Φ → vs.length = md.length → (∀ i : Nat, md[i]? = some true → ws[i]? = vs[i]?) → ∃ Φ', RepL K Z H .own (outP md Γ) vs Φ' ∧ ∀ b, Φ' b → Φ b
  | [], Γ, ws, vs, Φ, h, l, _ => by
    match vs, l with
    | [], _ => exact ⟨fun _ => False, ⟨rfl, fun _ h => h⟩, fun _ h => h.elim⟩
  | b :: md, [], ws, vs, Φ, h, l, e => by
    match vs, l with
    | x :: vs, l =>
      obtain ⟨Φ', r, s⟩ := outP_ok (md := md) (Γ := []) (ws := []) (vs := vs) (Φ := fun _ => False) ⟨rfl, fun _ h => h⟩ (by simpa using l) (fun i hi => by
        have := e (i + 1) (by simpa using hi)
        rw [h.1] at this
        simpa using this)
      have hb : outP (b :: md) [] = .any :: outP md [] := by cases b <;> rfl
      rw [hb]
      exact ⟨Φ', ⟨x, vs, fun _ => False, Φ', rfl, fun _ h => h, r, by simp, by simp⟩, fun b q => (s b q).elim⟩
  | b :: md, en :: Γ, ws, vs, Φ, h, l, e => by
    match vs, l with
    | x :: vs, l =>
      obtain ⟨v0, ws', Φ1, Φ2, e1, h1, h2, d, u⟩ := h
      subst e1
      obtain ⟨Φ', r, s⟩ := outP_ok (md := md) (Γ := Γ) (ws := ws') (vs := vs) h2 (by simpa using l) (fun i hi => by simpa using e (i + 1) (by simpa using hi))
      cases b with
      | false => exact ⟨Φ', ⟨x, vs, fun _ => False, Φ', rfl, fun _ h => h, r, by simp, by simp⟩, fun b q => (u b).mpr (.inr (s b q))⟩
      | true =>
        have : v0 = x := by simpa using e 0 rfl
        subst this
        exact ⟨fun b => Φ1 b ∨ Φ' b, ⟨v0, vs, Φ1, Φ', rfl, h1, r, by grind, fun _ => Iff.rfl⟩, by grind⟩
theorem mdOk_len : ∀ {md : List Bool} {ts : List Tr}, mdOk md ts = true → md.length = ts.length
  | [], [], _ => rfl
  | b :: bs, t :: ts, h => by
    simp only [mdOk, Bool.and_eq_true] at h
    simp [mdOk_len h.2]
  | [], _ :: _, h => by simp [mdOk] at h
  | _ :: _, [], h => by simp [mdOk] at h
theorem RepL.anys : ∀ (n : Nat) {Z : Zn} {H : Hp}, RepL K Z H .own (List.replicate n .any) (List.replicate n .non) (fun _ => False)
  | 0, _, _ => ⟨rfl, fun _ h => h⟩
  | n + 1, _, _ => ⟨.non, _, fun _ => False, fun _ => False, rfl, fun _ h => h, RepL.anys n, by simp, by simp⟩
theorem start_ok {N : List Str} {Z : Zn} {F : Ps} (r : RepL K Z H .own ts vs F) (hl : ts.length ≤ N.length) (hmd : md.length = ts.length) (zo : ∀ b, F b → ¬ Z.fz b ∧ ¬ Z.ln b) (zs : ∀ b, Z.fz b ∨ Z.ln b → (H b).isSome = true) :
    EnvOk K ⟨H, F, Z.fz, md, vs⟩ (start N vs) H (ts.map Ent.tr ++ List.replicate (N.length - ts.length) .no) [] [] := by
  have lt := RepL.len _ r
  have es : start N vs = vs.map some ++ List.replicate (N.length - vs.length) none := by
    first | rfl | (unfold start; rfl) | (unfold start; simp)
  refine ⟨Z, vs ++ List.replicate (N.length - ts.length) .non, F, fun _ => False, ⟨?_, ⟨rfl, fun _ h => h⟩, by simp, ?_, by simp, ?_, ?_, fun b q => .inl q, fun b q => q, zs, fun b o e => ⟨o, e, fun _ => rfl⟩, ?_⟩⟩
  · have := RepL.append _ r (RepL.anys (K := K) (Z := Z) (H := H) (N.length - ts.length)) (by simp)
    have et : trees (ts.map Ent.tr ++ List.replicate (N.length - ts.length) .no) = ts ++ List.replicate (N.length - ts.length) .any := by
      have := trees_tr (ts := ts)
      simp only [trees, List.map_append, List.map_replicate] at this ⊢
      rw [this]
      rfl
    rw [et]
    exact this.cast _ (by simp)
  · intro i e he
    by_cases hi : i < ts.length
    · rw [List.getElem?_append_left (by simpa using hi)] at he
      have : ∃ t, e = .tr t := by
        simp at he
        obtain ⟨_, _, he⟩ := he
        exact ⟨_, he.symm⟩
      obtain ⟨t, rfl⟩ := this
      have hiv : i < vs.length := by omega
      refine ⟨vs[i], by rw [List.getElem?_append_left hiv, List.getElem?_eq_getElem hiv], ?_⟩
      rw [es, List.getElem?_append_left (by simpa using hiv)]
      simp [hiv]
    · rw [List.getElem?_append_right (by simpa using hi)] at he
      have := List.mem_of_getElem? he
      simp at this
      rw [this.2]
      trivial
  · rw [es]
    simp
    omega
  · intro b q
    rcases q with q | q
    · exact ⟨.inl q, zo b q⟩
    · exact q.elim
  · intro i hi
    have h1 : i < md.length := getq_lt' hi
    rw [List.getElem?_append_left (by omega)]
theorem exit_ok {Z0 : Zn} {F : Ps} {s : List Ent} (hF : ∀ b, F b → (H b).isSome = true) (hmd : md.length = vs.length) (E : EnvOk K ⟨H, F, Z0.fz, md, vs⟩ σ H' Γ s us) (he : escL (trees s) = true) (ho : escL (outP md Γ) = true) : ∃ S' F1, RepL K ⟨S', fun _ => False⟩ H' .own (trees s ++ outP md Γ) (us ++ vs) F1 ∧ Cl H H' F Z0.fz S' F1 := by
  obtain ⟨Z, ws, Φ, Ψ, sl, tm, dj, so, to, ln, zo, zf, z0, zs, st, pv⟩ := E
  obtain ⟨Φ', r, sub⟩ := outP_ok (md := md) (vs := vs) sl hmd.symm pv
  have r1 := RepL.esc0 _ r (by simp) fun _ => ho
  have r2 := RepL.esc0 _ tm (by simp) fun _ => he
  have hs1 := RepL.isS _ sl
  have hs2 := RepL.isS _ tm
  refine ⟨Z.fz, fun b => Ψ b ∨ Φ' b, RepL.append _ r2 r1 (by grind), ⟨fun b ob e n => ?_, fun b q => ?_, fun b q => ?_, z0, fun b q => zf b q, fun b q => zs b (.inl q)⟩⟩
  · obtain ⟨o', e', h⟩ := st b ob e
    rw [e', h n]
  · obtain ⟨ob, e⟩ := Option.isSome_iff_exists.mp (hF b q)
    obtain ⟨o', e', _⟩ := st b ob e
    rw [e']; rfl
  · have h := zo b (by grind)
    exact ⟨h.1, h.2.1⟩
variable {P : Program} {Wd : World} {Kf : PySem.W.Frag} {mg : Str → Option Value} {base : Heap}
/-- a def whose body is a term of the machine -/
theorem fn_sim {x qual : Str} {st : Stmt} {f : Addr} {fd : FuncData} {N ps : List Str} {k : Nat} {g : GS} (F : Fun Kf x qual st f fd) (S : FnScope N ps (defScope st)) (hps : ps.length = md.length) (hN : ps.length ≤ N.length)
    (body : ∀ (cdv : Value) (A : Around) (outer : List Env) (s : Shared) (H : Hp) (E : XK), Room k (A.deeper (PyProof.Rows.envOfC qual (defScope st) s.heap.objs.size f cdv)) →
      MSs (cxOf (L2N.CX P Wd) P Wd Kf mg base N qual (defScope st) f cdv A outer s H E) T md (fun cls d _ H => E cls d H) (defBody st) g) :
    FnOk P Wd Kf mg base (L2N.CX P Wd) (k + 1) f fd ps (spOf (kcm Kf T) md (runF md N.length g)) := by
  obtain ⟨oc, od, kV, doc, pm, an, cdv, ct, osl, rfl, inK, cdOk⟩ := F.ex
  refine fn_of inK cdOk S (fun vs H Q E h => ?_) (fun A outer s H vs Q E hr h => ?_)
  · obtain ⟨ts, Z, F, o, r, hm, _⟩ := h
    have h1 := RepL.len _ r
    have h2 := mdOk_len hm
    omega
  · obtain ⟨ts, Z, F, o, r, hm, zo, zs, hG, hp⟩ := h
    have h1 := RepL.len _ r
    have h2 := mdOk_len hm
    obtain ⟨t, pt, sim⟩ := body cdv A outer s H E hr
    refine ⟨t, pt, ?_⟩
    have E0 := start_ok (K := kcm Kf T) (N := N) (md := md) r (by omega) h2 zo zs
    simp only [runF] at hG
    cases hg : g ⟨ts.map Ent.tr ++ List.replicate (N.length - ts.length) .no, []⟩ with
    | none => simp [hg] at hG
    | some oo =>
      refine sim ⟨H, F, Z.fz, md, vs⟩ (start N vs) H ⟨ts.map Ent.tr ++ List.replicate (N.length - ts.length) Ent.no, []⟩ [] _ oo rfl E0 hg ?_
      cases oo with
      | nx m =>
        simp only [hg] at hG
        split at hG
        · rename_i he
          cases hG
          intro σ' H' E1
          have hnil : m.s = [] := by have := tail_len E1; simpa using this
          rw [hnil] at E1
          obtain ⟨S', F1, r1, cl⟩ := exit_ok (RepL.isS _ r) (by omega) (E1.atom .non) (by simp [escL, esc, Ent.tree]) he
          exact hp .non H' S' F1 r1 cl
        · cases hG
      | rt tt m =>
        simp only [hg] at hG
        split at hG
        · rename_i he
          cases hG
          intro σ' v H' E1
          have hnil : m.s = [] := by have := tail_len E1; simpa using this
          rw [hnil] at E1
          obtain ⟨S', F1, r1, cl⟩ := exit_ok (RepL.isS _ r) (by omega) E1 (by simp [escL, Ent.tree, he.1]) he.2
          exact hp v H' S' F1 r1 cl
        · cases hG
      | ex C g' =>
        simp only [hg] at hG
        split at hG
        · rename_i he
          cases hG
          intro σ' H' E1
          obtain ⟨S', F1, r1, cl⟩ := exit_ok (RepL.isS _ r) (by omega) E1 (by simp [escL]) he
          exact hp H' S' F1 r1 cl
        · cases hG
      | bk m => simp [hg] at hG
      | ct m => simp [hg] at hG
end
section
variable {K : KC} {X : Cx} {T : KT} {md mdc : List Bool} {W : WX} {c : Cz} {σ : St} {H H' : Hp} {Γ τ τ1 A B P : List Ent} {us us1 vs vs' va vb vp : List V} {v w : V} {p q : List Nat} {t : Tr} {ts ts' : List Tr} {k k' : Nk} {i j n d : Nat} {a : Addr} {en en' : Ent} {o : Ow} {Z : Zn} {ws : List V} {Φ Ψ : Ps} {G : GF}
def argT (Γ : List Ent) : List Bool → List Ent → Option (List Tr)
  | [], [] => some []
  | true :: bs, .tr t :: es => match argT Γ bs es with
    | some ts => some (t :: ts)
    | none => none
  | false :: bs, e :: es => match viewE Γ e with
    | some t => if cp (kid .lnt t) = true then match argT Γ bs es with
        | some ts => some (kid .lnt t :: ts)
        | none => none
      else none
    | none => none
  | _, _ => none
theorem argT_ok : ∀ {mdc : List Bool} {ents : List Ent} {vs : List V} {Ψa : Ps} {ts : List Tr}, RepL K Z H .own (trees ents) vs Ψa → (∀ (i : Nat) (p : List Nat) (v : V) (t : Tr), ents[i]? = some (.al p) → vs[i]? = some v → getG Γ p = some t → ∃ Θ, Rep K Z H .own t v Θ ∧ ∀ b, Θ b → Φ b) →
    argT Γ mdc ents = some ts → mdOk mdc ts = true ∧ ∃ F R : Ps, (∀ b, Ψa b ↔ F b ∨ R b) ∧ (∀ b, ¬ (F b ∧ R b)) ∧ ∀ Zc : Zn, (∀ b, Z.fz b → Zc.fz b) → (∀ b, Z.ln b ∨ R b ∨ Φ b → Zc.ln b) → RepL K Zc H .own ts vs F
  | [], [], vs, Ψa, ts, r, _, h => by
    simp only [argT] at h
    cases h
    exact ⟨rfl, fun _ => False, fun _ => False, fun b => ⟨fun q => (r.2 b q).elim, fun q => by simp at q⟩, by simp, fun Zc _ _ => ⟨r.1, fun _ h => h⟩⟩
  | [], _ :: _, _, _, _, _, _, h => by simp [argT] at h
  | true :: bs, [], _, _, _, _, _, h => by simp [argT] at h
  | false :: bs, [], _, _, _, _, _, h => by simp [argT] at h
  | true :: bs, e :: es, vs, Ψa, ts, r, hv, h => by
    obtain ⟨v, vs', Φ1, Φ2, e1, h1, h2, d, u⟩ := r
    subst e1
    cases e with
    | no => simp [argT] at h
    | al _ => simp [argT] at h
    | tr t =>
      simp only [argT] at h
      split at h
      · rename_i ts' h3
        cases h
        obtain ⟨m1, F, R, u2, d2, bld⟩ := argT_ok (mdc := bs) (ents := es) (vs := vs') h2 (fun i p v t a b => hv (i + 1) p v t (by simpa using a) (by simpa using b)) h3
        refine ⟨by simp [mdOk, m1], fun b => Φ1 b ∨ F b, R, by grind, by grind, fun Zc hf hl => ⟨v, vs', Φ1, F, rfl, Rep.fr t h1 ⟨hf, fun b q => hl b (.inl q), fun b o _ e => e, fun _ _ h => h⟩, bld Zc hf hl, by grind, fun _ => Iff.rfl⟩⟩
      · cases h
  | false :: bs, e :: es, vs, Ψa, ts, r, hv, h => by
    obtain ⟨v, vs', Φ1, Φ2, e1, h1, h2, d, u⟩ := r
    subst e1
    simp only [argT] at h
    split at h
    · rename_i t ht
      split at h
      · rename_i hc
        split at h
        · rename_i ts' h3
          cases h
          obtain ⟨m1, F, R, u2, d2, bld⟩ := argT_ok (mdc := bs) (ents := es) (vs := vs') h2 (fun i p v t a b => hv (i + 1) p v t (by simpa using a) (by simpa using b)) h3
          have vw : ∃ Θ, Rep K Z H .own t v Θ ∧ ∀ b, Θ b → Φ b ∨ Φ1 b := by
            cases e with
            | no => simp [viewE] at ht
            | tr x =>
              simp only [viewE] at ht
              cases ht
              exact ⟨Φ1, h1, fun b q => .inr q⟩
            | al p =>
              obtain ⟨Θ, z1, z2⟩ := hv 0 p v t rfl rfl ht
              exact ⟨Θ, z1, fun b q => .inl (z2 b q)⟩
          obtain ⟨Θ, z1, z2⟩ := vw
          refine ⟨by simp [mdOk, m1, hc], F, fun b => Φ1 b ∨ R b, by grind, by grind, fun Zc hf hl => ⟨v, vs', fun _ => False, F, rfl, rep_kid.mpr (Rep.lend (m := .own) t z1 hf fun b q => hl b (by grind)), bld Zc hf (fun b q => hl b (by grind)), by simp, by simp⟩⟩
        · cases h
      · cases h
    · cases h
theorem call_ok {ents s : List Ent} {G : GF} {o : Rt} {Q : VK} {E : XK} (EE : Ev K c Z ws Φ Ψ σ H Γ (ents.reverse ++ s) (vs.reverse ++ us)) (l : ents.length = vs.length) (h : argT Γ mdc ents = some ts) (hG : G ts = some o)
    (post : match o with
      | .rt r ts' => ∀ v H', ts'.length = vs.length → EnvOk K c σ H' Γ (.tr r :: (ts'.map .tr ++ s)) (v :: (vs ++ us)) → Q v H'
      | .ex C ts' => ∀ H', ts'.length = vs.length → EnvOk K c σ H' Γ (ts'.map .tr ++ s) (vs ++ us) → E (.ref (K.et C)) none H') : spOf K mdc G vs H Q E := by
  have tm' : RepL K Z H .own (trees ents.reverse ++ trees s) (vs.reverse ++ us) Ψ := by simpa [trees] using EE.tm
  obtain ⟨v1, v2, Ψ1, Ψ2, e, r1, r2, d, u⟩ := RepL.split _ tm'
  have hl1 := RepL.len _ r1
  have hlt : (trees ents.reverse).length = ents.length := by simp [trees]
  obtain ⟨rfl, rfl⟩ := List.append_inj e (by simp; omega)
  have r0 : RepL K Z H .own (trees ents) vs Ψ1 := by
    have := RepL.reverse _ r1
    have e2 : (trees ents.reverse).reverse = trees ents := by simp [trees]
    rwa [e2, List.reverse_reverse] at this
  obtain ⟨m1, F, R, u2, d2, bld⟩ := argT_ok (Φ := Φ) (Γ := Γ) r0 (fun i p v t a b g => by
    have hi : i < ents.length := getq_lt' a
    have a' : (ents.reverse ++ s)[ents.length - 1 - i]? = some (.al p) := by
      rw [List.getElem?_append_left (by simp; omega), List.getElem?_reverse (by omega), show ents.length - 1 - (ents.length - 1 - i) = i by omega]
      exact a
    obtain ⟨w, b', raw, gs⟩ := EE.to _ p a'
    rw [List.getElem?_append_left (by simp; omega), List.getElem?_reverse (by omega), show vs.length - 1 - (ents.length - 1 - i) = i by omega, b] at b'
    cases b'
    obtain ⟨w', Φ1, Φ2, raw', r, _, uu, _⟩ := RepL.path EE.sl (p := p) (t := t) (by rw [getG_getP gs]; exact g)
    cases raw.fn raw'
    exact ⟨Φ1, r, fun b q => (uu b).mpr (.inl q)⟩) h
  have hsF := RepL.isS _ EE.sl
  have hsT := RepL.isS _ EE.tm
  refine ⟨ts, ⟨Z.fz, fun b => Z.ln b ∨ R b ∨ Φ b⟩, F, o, bld _ (fun _ h => h) (fun _ h => h), m1, fun b q => ?_, fun b q => ?_, hG, ?_⟩
  · have h1 := EE.zo b (.inr ((u b).mpr (.inl ((u2 b).mpr (.inl q)))))
    refine ⟨h1.2.1, fun z => ?_⟩
    rcases z with z | z | z
    · exact h1.2.2 z
    · exact d2 b ⟨q, z⟩
    · exact EE.dj b ⟨z, (u b).mpr (.inl ((u2 b).mpr (.inl q)))⟩
  · rcases q with q | q | q | q
    · exact EE.zs b (.inl q)
    · exact EE.zs b (.inr q)
    · exact hsT b ((u b).mpr (.inl ((u2 b).mpr (.inr q))))
    · exact hsF b q
  · have chg : ∀ {H' : Hp} {S' F1 : Ps}, Cl H H' F Z.fz S' F1 → Chg Z ⟨S', Z.ln⟩ H H' Ψ1 F1 := fun {H' S' F1} cl => by
      have zF : ∀ b, F b → ¬ Z.fz b ∧ ¬ Z.ln b := fun b q => (EE.zo b (.inr ((u b).mpr (.inl ((u2 b).mpr (.inl q)))))).2
      refine ⟨cl.s0, fun _ h => h, fun b q => ?_, fun b q => .inl q, fun b q => ?_, fun b ob e n => cl.ob b ob e (fun q => n ((u2 b).mpr (.inl q))), fun b q => ?_, fun b q => ?_⟩
      · rcases cl.s1 b q with z | z | z
        · exact .inl z
        · exact .inr (.inl ((u2 b).mpr (.inl z)))
        · exact .inr (.inr z)
      · rcases q with q | q
        · exact cl.ss b q
        · obtain ⟨ob, e⟩ := Option.isSome_iff_exists.mp (EE.zs b (.inr q))
          rw [cl.ob b ob e fun z => (zF b z).2 q]
          rfl
      · by_cases z : F b
        · exact cl.oc b z
        · obtain ⟨ob, e⟩ := Option.isSome_iff_exists.mp (hsT b ((u b).mpr (.inl q)))
          rw [cl.ob b ob e z]
          rfl
      · have h1 := cl.nw b q
        refine ⟨h1.1.imp (fun z => (u2 b).mpr (.inl z)) id, h1.2, fun z => ?_⟩
        rcases h1.1 with y | y
        · exact (zF b y).2 z
        · have := EE.zs b (.inr z)
          rw [y] at this
          cases this
    have mono : ∀ {H' : Hp} {S' F1 : Ps} {xs : List Tr} {ys : List V}, RepL K ⟨S', fun _ => False⟩ H' .own xs ys F1 → RepL K ⟨S', Z.ln⟩ H' .own xs ys F1 := fun {H' S' F1 xs ys} r => RepL.fr _ r ⟨fun _ h => h, fun _ h => h.elim, fun _ _ _ h => h, fun _ _ h => h⟩
    cases o with
    | rt r ts' =>
      intro v H' S' F1 rr cl
      have hlen : ts'.length = vs.length := by have := RepL.len _ rr; simpa using this
      refine post v H' hlen ?_
      exact EE.swapX (τ1' := .tr r :: ts'.map .tr) (us1' := v :: vs) (by simp; omega) (by simp) r1 r2 d u (by
        have := mono rr
        have et : trees (.tr r :: ts'.map .tr) = r :: ts' := by
          have := trees_tr (ts := ts')
          simp only [trees, List.map_cons] at this ⊢
          rw [this]
          rfl
        rw [et]
        exact this) (chg cl) (by simp [hlen])
    | ex C ts' =>
      intro H' S' F1 rr cl
      have hlen : ts'.length = vs.length := by have := RepL.len _ rr; simpa using this
      refine post H' hlen ?_
      exact EE.swapX (τ1' := ts'.map .tr) (us1' := vs) (by simp; omega) (by simp) r1 r2 d u (by rw [trees_tr]; exact mono rr) (chg cl) (by simp [hlen])
theorem EnvOk.permM (lp : P.length = vp.length) (la : A.length = va.length) (lb : B.length = vb.length) (E : EnvOk K c σ H Γ (P ++ (A ++ (B ++ τ))) (vp ++ (va ++ (vb ++ us)))) : EnvOk K c σ H Γ (P ++ (B ++ (A ++ τ))) (vp ++ (vb ++ (va ++ us))) := by
  have lt : τ.length = us.length := by
    have := tail_len E
    simp at this
    omega
  have h := EnvOk.perm (K := K) (c := c) (σ := σ) (H := H) (Γ := Γ) (l := P.zip vp ++ (A.zip va ++ (B.zip vb ++ τ.zip us))) (l' := P.zip vp ++ (B.zip vb ++ (A.zip va ++ τ.zip us))) (by
    refine List.Perm.append_left _ ?_
    rw [← List.append_assoc, ← List.append_assoc]
    exact List.Perm.append_right _ List.perm_append_comm)
  simp only [List.map_append, List.map_fst_zip (Nat.le_of_eq lp), List.map_snd_zip (Nat.le_of_eq lp.symm), List.map_fst_zip (Nat.le_of_eq la), List.map_snd_zip (Nat.le_of_eq la.symm), List.map_fst_zip (Nat.le_of_eq lb), List.map_snd_zip (Nat.le_of_eq lb.symm), List.map_fst_zip (Nat.le_of_eq lt), List.map_snd_zip (Nat.le_of_eq lt.symm)] at h
  exact h E
end
section
variable {K : KC} {X : Cx} {T : KT} {md mdc : List Bool} {W : WX} {c : Cz} {σ : St} {H H' : Hp} {Γ τ τ1 A B P : List Ent} {us us1 vs vs' va vb vp : List V} {v w : V} {p q : List Nat} {t : Tr} {ts ts' : List Tr} {k k' : Nk} {i j n d h : Nat} {a : Addr} {en en' : Ent} {o : Ow} {Z : Zn} {ws : List V} {Φ Ψ : Ps} {G : GF} {m m' : Ms}
/-- an own argument at depth d of n is taken out of its place; the place is kept below the arguments -/
def extAt (d n : Nat) (m : Ms) : Option Ms := match m.s[d]? with
  | some (.al p) => match getG m.g p with
    | some t => some ⟨kill p (setG m.g p .any), (kill p (m.s.eraseIdx d)).take d ++ .tr t :: (((kill p (m.s.eraseIdx d)).drop d).take (n - 1 - d) ++ .al p :: (kill p (m.s.eraseIdx d)).drop (n - 1))⟩
    | none => none
  | some (.tr _) => some ⟨m.g, m.s.take n ++ .no :: m.s.drop n⟩
  | _ => none
theorem split_at {α : Type} {l : List α} {d : Nat} {x : α} (h : l[d]? = some x) : l = l.take d ++ ([x] ++ l.drop (d + 1)) := by
  have hlt := getq_lt' h
  have e := (List.getElem?_eq_some_iff.mp h).2
  have h1 : l.drop d = [x] ++ l.drop (d + 1) := by rw [List.drop_eq_getElem_cons hlt, e]; rfl
  rw [← h1, List.take_append_drop]
theorem erase_split {α : Type} {l : List α} {d : Nat} : l.eraseIdx d = l.take d ++ l.drop (d + 1) := List.eraseIdx_eq_take_drop_succ _ _
theorem EnvOk.pushNo (E : EnvOk K c σ H Γ τ us) (v : V) : EnvOk K c σ H Γ (.no :: τ) (v :: us) := by
  obtain ⟨Z, ws, Φ, Ψ, EE⟩ := E
  exact EE.swap (τ1 := []) (us1 := []) (τ1' := [.no]) (us1' := [v]) (Ψ1' := fun _ => False) rfl (by simp) (fun Ψ1 r => ⟨⟨v, [], fun _ => False, fun _ => False, rfl, fun _ h => h, ⟨rfl, fun _ h => h⟩, by simp, by simp⟩, .same _ _ _ EE.zs (fun b q => RepL.isS _ r b q) _ (by simp)⟩) rfl
theorem extAt_ok (E : EnvOk K c σ H m.g m.s us) (hd : d < n) (hn : n ≤ us.length) (h : extAt d n m = some m') : ∃ w, us[d]? = some w ∧ EnvOk K c σ H m'.g m'.s (us.take n ++ w :: us.drop n) := by
  have hl := tail_len E
  have hdu : d < us.length := by omega
  refine ⟨us[d], List.getElem?_eq_getElem hdu, ?_⟩
  have eu := split_at (List.getElem?_eq_getElem hdu)
  unfold extAt at h
  split at h
  · rename_i p hp
    split at h
    · rename_i t ht
      cases h
      have es := split_at hp
      have E1 : EnvOk K c σ H m.g (m.s.take d ++ ([.al p] ++ m.s.drop (d + 1))) (us.take d ++ ([us[d]] ++ us.drop (d + 1))) := by rw [← es, ← eu]; exact E
      have E2 := EnvOk.permA (by simp; omega) rfl E1
      rw [← erase_split, ← erase_split] at E2
      have E3 := EnvOk.ext (p := p) (t := t) (τ := m.s.eraseIdx d) (us := us.eraseIdx d) E2 ht
      -- lengths
      generalize hs' : kill p (m.s.eraseIdx d) = s' at *
      generalize hu' : us.eraseIdx d = u' at *
      have ls : s'.length = m.s.length - 1 := by rw [← hs']; simp [kill, List.length_eraseIdx]; omega
      have lu : u'.length = us.length - 1 := by rw [← hu', List.length_eraseIdx]; simp; omega
      have sp : ∀ {α : Type} (l : List α), l = l.take d ++ ((l.drop d).take (n - 1 - d) ++ l.drop (n - 1)) := fun l => by
        have : l.drop (n - 1) = (l.drop d).drop (n - 1 - d) := by rw [List.drop_drop]; congr 1; omega
        rw [this, List.take_append_drop, List.take_append_drop]
      have E4 : EnvOk K c σ H (kill p (setG m.g p .any)) ([.tr t] ++ ([.al p] ++ ((s'.take d ++ (s'.drop d).take (n - 1 - d)) ++ s'.drop (n - 1)))) ([us[d]] ++ ([us[d]] ++ ((u'.take d ++ (u'.drop d).take (n - 1 - d)) ++ u'.drop (n - 1)))) := by
        rw [List.append_assoc (s'.take d), List.append_assoc (u'.take d), ← sp s', ← sp u']
        exact E3
      have E5 := EnvOk.permM (P := [.tr t]) (vp := [us[d]]) rfl rfl (by simp; omega) E4
      rw [List.append_assoc (s'.take d), List.append_assoc (u'.take d)] at E5
      have E6 := EnvOk.permA (A := [.tr t]) (va := [us[d]]) rfl (by simp; omega) E5
      have ev : us.take n ++ us[d] :: us.drop n = u'.take d ++ ([us[d]] ++ ((u'.drop d).take (n - 1 - d) ++ ([us[d]] ++ u'.drop (n - 1)))) := by
        have h1 : u'.take d = us.take d := by rw [← hu', erase_split, List.take_append_of_le_length (by simp; omega), List.take_take]; simp
        have h2 : u'.drop d = us.drop (d + 1) := by
          rw [← hu', erase_split, List.drop_append]
          have : (us.take d).length = d := by simp; omega
          rw [this]
          simp
        have h3 : u'.drop (n - 1) = us.drop n := by
          have : u'.drop (n - 1) = (u'.drop d).drop (n - 1 - d) := by rw [List.drop_drop]; congr 1; omega
          rw [this, h2, List.drop_drop]
          congr 1
          omega
        have h4 : us.take n = us.take d ++ ([us[d]] ++ (us.drop (d + 1)).take (n - 1 - d)) := by
          have : n = d + (1 + (n - 1 - d)) := by omega
          conv => lhs; rw [this, List.take_add]
          congr 1
          rw [List.drop_eq_getElem_cons hdu, Nat.add_comm 1, List.take_succ_cons]
          rfl
        rw [h1, h2, h3, h4]
        simp
      rw [ev]
      exact E6
    · cases h
  · cases h
    have E1 := E.pushNo us[d]
    have E2 : EnvOk K c σ H m.g ([.no] ++ (m.s.take n ++ m.s.drop n)) ([us[d]] ++ (us.take n ++ us.drop n)) := by rw [List.take_append_drop, List.take_append_drop]; exact E1
    exact EnvOk.permA (A := [.no]) (va := [us[d]]) rfl (by simp; omega) E2
  · cases h
/-- behind the call: what came back at index i of n goes to its place; h things lie above -/
def resAt (h i n : Nat) (m : Ms) : Option Ms := match m.s[h + i]?, m.s[h + n]? with
  | some (.tr t), some (.al p) => match getG m.g p with
    | some .any => if esc t = true then some ⟨setG m.g p t, (m.s.eraseIdx (h + n)).eraseIdx (h + i)⟩ else none
    | _ => none
  | some (.tr _), some .no => some ⟨m.g, (m.s.eraseIdx (h + n)).eraseIdx (h + i)⟩
  | _, _ => none
theorem two_split {α : Type} {l : List α} {x y : Nat} {a b : α} (hx : l[x]? = some a) (hy : l[y]? = some b) (hxy : x < y) : l = l.take x ++ ([a] ++ ((l.drop (x + 1)).take (y - x - 1) ++ ([b] ++ l.drop (y + 1)))) ∧ (l.eraseIdx y).eraseIdx x = l.take x ++ ((l.drop (x + 1)).take (y - x - 1) ++ l.drop (y + 1)) := by
  have h1 := split_at hx
  have hyl := getq_lt' hy
  have h2 : (l.drop (x + 1))[y - x - 1]? = some b := by rw [List.getElem?_drop, show x + 1 + (y - x - 1) = y by omega]; exact hy
  have h3 := split_at h2
  have h4 : (l.drop (x + 1)).drop (y - x - 1 + 1) = l.drop (y + 1) := by rw [List.drop_drop]; congr 1; omega
  rw [h4] at h3
  refine ⟨by rw [← h3]; exact h1, ?_⟩
  rw [erase_split (l := l.eraseIdx y)]
  have e1 : (l.eraseIdx y).take x = l.take x := by rw [erase_split, List.take_append_of_le_length (by simp; omega), List.take_take]; congr 1; omega
  have e2 : (l.eraseIdx y).drop (x + 1) = (l.drop (x + 1)).take (y - x - 1) ++ l.drop (y + 1) := by
    rw [erase_split, List.drop_append]
    have hlen : (l.take y).length = y := by simp; omega
    rw [hlen, show x + 1 - y = 0 by omega, List.drop_zero]
    congr 1
    rw [List.drop_take]
    congr 1
  rw [e1, e2]
theorem resAt_ok (E : EnvOk K c σ H m.g m.s us) (hi : i < n) (hu : us[h + i]? = us[h + n]?) (hh : resAt h i n m = some m') : EnvOk K c σ H m'.g m'.s ((us.eraseIdx (h + n)).eraseIdx (h + i)) := by
  have hl := tail_len E
  unfold resAt at hh
  split at hh
  · rename_i t p h1 h2
    split at hh
    · rename_i hg
      split at hh
      · rename_i he
        cases hh
        have hlt := getq_lt' h2
        have hlt1 := getq_lt' h1
        obtain ⟨w, hw⟩ : ∃ w, us[h + n]? = some w := ⟨_, List.getElem?_eq_getElem (by omega)⟩
        have hw2 : us[h + i]? = some w := by rw [hu]; exact hw
        obtain ⟨s1, s2⟩ := two_split h1 h2 (by omega)
        obtain ⟨u1, u2⟩ := two_split hw2 hw (by omega)
        rw [s1, u1] at E
        have E1 := EnvOk.permA (A := m.s.take (h + i)) (B := [.tr t]) (va := us.take (h + i)) (vb := [w]) (by simp; omega) rfl E
        have E2 := EnvOk.permM (P := [.tr t]) (vp := [w]) (A := m.s.take (h + i) ++ (m.s.drop (h + i + 1)).take (h + n - (h + i) - 1)) (va := us.take (h + i) ++ (us.drop (h + i + 1)).take (h + n - (h + i) - 1)) (B := [.al p]) (vb := [w]) rfl (by simp; omega) rfl (by simpa [List.append_assoc] using E1)
        have E3 := (EnvOk.back E2 hg he).drop
        rw [s2, u2]
        simpa [List.append_assoc] using E3
      · cases hh
    · cases hh
  · rename_i t h1 h2
    cases hh
    have hlt := getq_lt' h2
    have hlt1 := getq_lt' h1
    obtain ⟨w, hw⟩ : ∃ w, us[h + n]? = some w := ⟨_, List.getElem?_eq_getElem (by omega)⟩
    have hw2 : us[h + i]? = some w := by rw [hu]; exact hw
    obtain ⟨s1, s2⟩ := two_split h1 h2 (by omega)
    obtain ⟨u1, u2⟩ := two_split hw2 hw (by omega)
    rw [s1, u1] at E
    have E1 := EnvOk.permA (A := m.s.take (h + i)) (B := [.tr t]) (va := us.take (h + i)) (vb := [w]) (by simp; omega) rfl E
    have E2 := EnvOk.permM (P := [.tr t]) (vp := [w]) (A := m.s.take (h + i) ++ (m.s.drop (h + i + 1)).take (h + n - (h + i) - 1)) (va := us.take (h + i) ++ (us.drop (h + i + 1)).take (h + n - (h + i) - 1)) (B := [.no]) (vb := [w]) rfl (by simp; omega) rfl (by simpa [List.append_assoc] using E1)
    have E3 := E2.drop.drop
    rw [s2, u2]
    simpa [List.append_assoc] using E3
  · cases hh
end
section
variable {K : KC} {X : Cx} {T : KT} {md mdc : List Bool} {W : WX} {c : Cz} {σ : St} {H H' : Hp} {Γ τ τ1 A B P : List Ent} {us us0 us1 vs vs' va vb vp : List V} {v w : V} {p q : List Nat} {t : Tr} {ts ts' : List Tr} {k k' : Nk} {i j n d h : Nat} {a : Addr} {en en' : Ent} {o : Ow} {Z : Zn} {ws : List V} {Φ Ψ : Ps} {G : GF} {m m' : Ms} {is : List Nat}
def extAll (n : Nat) : List Nat → Ms → Option Ms
  | [], m => some m
  | i :: is, m => match extAt (n - 1 - i) n m with
    | some m' => extAll n is m'
    | none => none
theorem extAll_ok : ∀ {is : List Nat} {m m' : Ms} {us0 : List V}, EnvOk K c σ H m.g m.s (vs.reverse ++ us0) → vs.length = n → (∀ i ∈ is, i < n) → extAll n is m = some m' → EnvOk K c σ H m'.g m'.s (vs.reverse ++ (is.reverse.map (vs.getD · .non) ++ us0))
  | [], m, m', us0, E, hl, hi, h => by
    simp only [extAll] at h
    cases h
    simpa using E
  | i :: is, m, m', us0, E, hl, hi, h => by
    simp only [extAll] at h
    split at h
    · rename_i m1 h1
      have hin := hi i List.mem_cons_self
      obtain ⟨w, hw, E1⟩ := extAt_ok E (by omega) (by simp; omega) h1
      rw [List.getElem?_append_left (by simp; omega), List.getElem?_reverse (by omega), show vs.length - 1 - (n - 1 - i) = i by omega] at hw
      have e1 : (vs.reverse ++ us0).take n = vs.reverse := by rw [List.take_append_of_le_length (by simp; omega)]; exact List.take_of_length_le (by simp; omega)
      have e2 : (vs.reverse ++ us0).drop n = us0 := by rw [List.drop_append_of_le_length (by simp; omega), List.drop_of_length_le (by simp; omega)]; rfl
      rw [e1, e2] at E1
      have := extAll_ok (is := is) (us0 := w :: us0) E1 hl (fun i h => hi i (List.mem_cons_of_mem _ h)) h
      simpa [hw] using this
    · cases h
def resAll (h : Nat) : Nat → List Nat → Ms → Option Ms
  | _, [], m => some m
  | n, i :: is, m => match resAt h i n m with
    | some m' => resAll h (n - 1) is m'
    | none => none
theorem resAll_ok {hv : List V} (hh : hv.length = h) : ∀ {is : List Nat} {n : Nat} {m m' : Ms} {vals : List V}, vals.length = n → (∀ i ∈ is, i < n) → is.Pairwise (· > ·) → EnvOk K c σ H m.g m.s (hv ++ (vals ++ (is.map (vals.getD · .non) ++ us0))) → resAll h n is m = some m' → ∃ vals' : List V, vals'.length = n - is.length ∧ EnvOk K c σ H m'.g m'.s (hv ++ (vals' ++ us0))
  | [], n, m, m', vals, hl, hi, hp, E, hr => by
    simp only [resAll] at hr
    cases hr
    exact ⟨vals, by simpa using hl, by simpa using E⟩
  | i :: is, n, m, m', vals, hl, hi, hp, E, hr => by
    simp only [resAll] at hr
    split at hr
    · rename_i m1 h1
      have hin := hi i List.mem_cons_self
      have hpw := List.pairwise_cons.mp hp
      have g1 : (hv ++ (vals ++ ((i :: is).map (vals.getD · .non) ++ us0)))[h + i]? = vals[i]? := by
        rw [List.getElem?_append_right (by omega), show h + i - hv.length = i by omega, List.getElem?_append_left (by omega)]
      have g2 : (hv ++ (vals ++ ((i :: is).map (vals.getD · .non) ++ us0)))[h + n]? = some (vals.getD i .non) := by
        rw [List.getElem?_append_right (by omega), show h + n - hv.length = n by omega, List.getElem?_append_right (by omega), show n - vals.length = 0 by omega]
        rfl
      have E1 := resAt_ok (n := n) E hin (by rw [g1, g2, List.getD_eq_getElem?_getD, List.getElem?_eq_getElem (by omega)]; rfl) h1
      have ev : ((hv ++ (vals ++ ((i :: is).map (vals.getD · .non) ++ us0))).eraseIdx (h + n)).eraseIdx (h + i) = hv ++ (vals.eraseIdx i ++ (is.map ((vals.eraseIdx i).getD · .non) ++ us0)) := by
        have e1 : (hv ++ (vals ++ ((i :: is).map (vals.getD · .non) ++ us0))).eraseIdx (h + n) = hv ++ (vals ++ (is.map (vals.getD · .non) ++ us0)) := by
          rw [List.eraseIdx_append_of_length_le (by omega), show h + n - hv.length = n by omega, List.eraseIdx_append_of_length_le (by omega), show n - vals.length = 0 by omega]
          rfl
        rw [e1, List.eraseIdx_append_of_length_le (by omega), show h + i - hv.length = i by omega, List.eraseIdx_append_of_lt_length (by omega)]
        congr 3
        refine List.map_congr_left fun x hx => ?_
        have : x < i := hpw.1 x hx
        rw [List.getD_eq_getElem?_getD, List.getD_eq_getElem?_getD, List.getElem?_eraseIdx_of_lt this]
      rw [ev] at E1
      obtain ⟨vals', l', E2⟩ := resAll_ok hh (is := is) (n := n - 1) (vals := vals.eraseIdx i) (by rw [List.length_eraseIdx, if_pos (by omega)]; omega) (fun x hx => by have := hpw.1 x hx; omega) hpw.2 E1 hr
      exact ⟨vals', by simp; omega, E2⟩
    · cases hr
theorem EnvOk.dropN : ∀ {A : List Ent} {va : List V}, A.length = va.length → EnvOk K c σ H Γ (A ++ τ) (va ++ us) → EnvOk K c σ H Γ τ us
  | [], [], _, E => E
  | e :: A, v :: va, l, E => EnvOk.dropN (by simpa using l) (EnvOk.drop E)
theorem EnvOk.dropAll {s : List Ent} (E : EnvOk K c σ H Γ s us) : EnvOk K c σ H Γ [] [] := by
  have := tail_len E
  exact EnvOk.dropN (A := s) (va := us) (τ := []) (us := []) this (by simpa using E)
/-- a call of a def by its function on trees; is: the arguments that are its own and stand at places -/
def gCall (is : List Nat) (mdc : List Bool) (G : GF) (n : Nat) : GE := fun m => match extAll n is m with
  | none => none
  | some m1 => match argT m1.g mdc (m1.s.take n).reverse with
    | none => none
    | some ts => match G ts with
      | some (.rt r ts') => match resAll 1 n is.reverse ⟨m1.g, .tr r :: (ts'.map .tr ++ m1.s.drop n)⟩ with
        | some m2 => some (.ok ⟨m2.g, m2.s.take 1 ++ m2.s.drop (1 + (n - is.length))⟩)
        | none => none
      | some (.ex C ts') => match resAll 0 n is.reverse ⟨m1.g, ts'.map .tr ++ m1.s.drop n⟩ with
        | some m2 => some (.ex C m2.g)
        | none => none
      | none => none
theorem gCall_ok (hin : ∀ i ∈ is, i < n) (hpw : is.reverse.Pairwise (· > ·)) : RA K md W n (fun σ vs H Q => spOf K mdc G vs H Q (fun cls d H => W cls d σ H)) (gCall is mdc G n) := by
  intro c σ H m us vs Q rr hc hl E hf hp
  unfold gCall at hf
  split at hf
  · cases hf
  · rename_i m1 h1
    have E1 := extAll_ok E hl hin h1
    split at hf
    · cases hf
    · rename_i ts hts
      have hlen := tail_len E1
      have hn : n ≤ m1.s.length := by rw [hlen]; simp; omega
      obtain ⟨Z, ws, Φ, Ψ, EE⟩ := E1
      have es : m1.s = (m1.s.take n).reverse.reverse ++ m1.s.drop n := by rw [List.reverse_reverse, List.take_append_drop]
      split at hf
      · rename_i r ts' hG
        split at hf
        · rename_i m2 h2
          cases hf
          refine call_ok (ents := (m1.s.take n).reverse) (s := m1.s.drop n) (o := .rt r ts') (es ▸ EE) (by simp; omega) hts hG ?_
          intro v H' l' E2
          obtain ⟨vals', lv, E3⟩ := resAll_ok (hv := [v]) (h := 1) rfl (is := is.reverse) (n := n) (m := ⟨m1.g, .tr r :: (ts'.map .tr ++ m1.s.drop n)⟩) (vals := vs) hl (fun i hi => hin i (List.mem_reverse.mp hi)) hpw E2 h2
          have lm := tail_len E3
          simp only [List.length_append, List.length_cons, List.length_nil, List.length_reverse] at lm lv
          refine hp v H' ?_
          have e3 : m2.s = m2.s.take 1 ++ ((m2.s.drop 1).take (n - is.length) ++ m2.s.drop (1 + (n - is.length))) := by
            have : m2.s.drop (1 + (n - is.length)) = (m2.s.drop 1).drop (n - is.length) := by rw [List.drop_drop]
            rw [this, List.take_append_drop, List.take_append_drop]
          rw [e3] at E3
          have E4 := EnvOk.permA (A := m2.s.take 1) (va := [v]) (by simp; omega) (by simp; omega) E3
          exact EnvOk.dropN (by simp; omega) E4
        · cases hf
      · rename_i C ts' hG
        split at hf
        · rename_i m2 h2
          cases hf
          refine call_ok (ents := (m1.s.take n).reverse) (s := m1.s.drop n) (o := .ex C ts') (es ▸ EE) (by simp; omega) hts hG ?_
          intro H' l' E2
          obtain ⟨vals', lv, E3⟩ := resAll_ok (hv := []) (h := 0) rfl (is := is.reverse) (n := n) (m := ⟨m1.g, ts'.map .tr ++ m1.s.drop n⟩) (vals := vs) hl (fun i hi => hin i (List.mem_reverse.mp hi)) hpw E2 h2
          exact hp H' E3.dropAll
        · cases hf
      · cases hf
variable {x : Str} {pp pos apos : Pos} {e oe : Expr} {es : List Expr} {ga go : GE} {kk : Nat} {f : Addr} {fd : FuncData} {ps : List Str}
theorem seqA {tA : TA} {R : St → List V → Hp → VK → Prop} {fg : GE} (sa : SA K md W n tA ga) (hf : RA K md W n R fg) : SE K md W (fun σ H Q => tA σ H fun vs H1 => R σ vs H1 Q) (gSeq ga fg) := by
  intro c σ H m us Q rr hc E hg hp
  simp only [gSeq] at hg
  split at hg
  · rename_i m1 h1
    exact sa c σ H m us _ _ hc E h1 fun vs H1 hl E1 => hf c σ H1 m1 us vs Q rr hc hl E1 hg hp
  · rename_i h1
    refine sa c σ H m us _ _ hc E hg ?_
    cases rr with
    | ex C g' => exact hp
    | ok m2 => exact absurd hg (h1 m2)
theorem me_call (F : FnOk X.prog X.w X.K X.mg X.base (L2N.CX X.prog X.w) kk f fd ps (spOf (kcm X.K T) mdc G)) (hr : Room kk X.A) (tk : Takes X W) (hg : Gl X x) (hm : X.mg x = some (.ref f)) (hk : PySem.W.keepIn X.K (.ref f) = true) (hb : Binds X.K fd ps [])
    (ha : MA X T md W (e :: es) ga) (hin : ∀ i ∈ is, i < (e :: es).length) (hpw : is.reverse.Pairwise (· > ·)) (hdb : (x == ("__debug__" : Str)) = false := by decide)
    (he : starEach (e :: es) X.env = (false, eval e X.env) :: starEach es X.env := by rfl) (hpl : (backTo pos (starEach es X.env)).any (·.1) = false := by rfl) : ME X T md W (.Call (.Name x pp) (e :: es) [] pos) (gSeq ga (gCall is mdc G (e :: es).length)) := by
  obtain ⟨t, pa, sa⟩ := ha
  exact ⟨_, pe_callS (E := WE W) F hr hg hm hk hb (fun σ => passAt tk σ) pa hdb he hpl, seqA sa (gCall_ok hin hpw)⟩
end
section
variable {K : KC} {X : Cx} {T : KT} {md mdc : List Bool} {W : WX} {c : Cz} {σ : St} {H H' : Hp} {Γ τ τ1 A B P : List Ent} {us us0 us1 vs vs' va vb vp : List V} {v w : V} {p q : List Nat} {t : Tr} {ts ts' : List Tr} {k k' : Nk} {i j n d h : Nat} {a : Addr} {en en' : Ent} {o : Ow} {Z : Zn} {ws : List V} {Φ Ψ : Ps} {G : GF} {m m' : Ms} {is : List Nat}
variable {x me : Str} {pp pos apos : Pos} {e oe : Expr} {es : List Expr} {ga go : GE} {kk : Nat} {f C : Addr} {fd : FuncData} {ps : List Str} {CXk : CXT} {sp : Sp} {ta : TE} {tA : TA} {Ew : St → XK} {pl : Sem Bool}
/-! methods, with what is raised wished for at the slots -/
def tMethS (C : Addr) (m : Str) (sp : Sp) (E : St → XK) (ta : TE) (t : TA) : TE := fun σ H Q => ta σ H fun x H1 => ∃ a dx fs, x = .ref a ∧ H1 a = some (.ins C dx fs) ∧ fs.lookup m = none ∧ t σ H1 fun vs H2 => sp (x :: vs) H2 Q (E σ)
theorem pe_methS (po : PE X oe ta) (c : Cls X.K C) (hm : Meth X.K C me f) (F : FnOk X.prog X.w X.K X.mg X.base CXk kk f fd ps sp) (hr : Room kk X.A) (hb : Binds X.K fd ps []) (hx : ∀ σ, PassesAt CXk X σ (Ew σ)) (pa : PA X (e :: es) tA)
    (hst : starEach (e :: es) X.env = (false, eval e X.env) :: starEach es X.env := by rfl) (hpl : (backTo pos (starEach es X.env)).any (·.1) = false := by rfl)
    (ht : eval (.Call (.Attribute oe me apos) (e :: es) [] pos) X.env = (do let ov ← eval oe X.env; standAt apos.atName; let (f, first) ← holding [ov] (getMethod ov me pl); callWith pos f first (backTo pos (starEach (e :: es) X.env)) (backToKw pos (keywordEach [] X.env))) := by rfl) :
    PE X (.Call (.Attribute oe me apos) (e :: es) [] pos) (tMethS C me sp Ew ta tA) := by
  constructor
  intro pins s σ H Q I hh
  refine PySem.W.methodCall_KW (pl := pl) (he := ht) (thn (po.run pins s σ H _ I hh) ?_)
  rintro u s1 ⟨xv, H1, I1, rx, ad, dx, fs, rfl, ea, lk, q1⟩
  cases (show u = Value.ref ad from rx)
  apply getmeth_ok I1 ea c hm lk
  refine PySem.W.callWith_K (first := [.ref ad]) (h₀ := X.base) I.ok.mod.kin hm.kp (thn (pa.run pos pins s1 σ H1 _ I1 q1) ?_) hst hpl
  rintro us s2 ⟨vs, H2, I2, rr, q2⟩
  exact ⟨I2.kIn, run_fnS (us := .ref ad :: us) (vs := .ref ad :: vs) F hr hb (hx σ) I2 (.cons rfl rr) q2⟩
theorem pe_methS0 (po : PE X oe ta) (c : Cls X.K C) (hm : Meth X.K C me f) (F : FnOk X.prog X.w X.K X.mg X.base CXk kk f fd ps sp) (hr : Room kk X.A) (hb : Binds X.K fd ps []) (hx : ∀ σ, PassesAt CXk X σ (Ew σ))
    (ht : eval (.Call (.Attribute oe me apos) [] [] pos) X.env = (do let ov ← eval oe X.env; standAt apos.atName; let (f, first) ← holding [ov] (getMethod ov me pl); callWith pos f first (backTo pos (starEach [] X.env)) (backToKw pos (keywordEach [] X.env))) := by rfl) :
    PE X (.Call (.Attribute oe me apos) [] [] pos) (tMethS C me sp Ew ta tNil) := by
  constructor
  intro pins s σ H Q I hh
  refine PySem.W.methodCall_KW (pl := pl) (he := ht) (thn (po.run pins s σ H _ I hh) ?_)
  rintro u s1 ⟨xv, H1, I1, rx, ad, dx, fs, rfl, ea, lk, q1⟩
  cases (show u = Value.ref ad from rx)
  apply getmeth_ok I1 ea c hm lk
  exact PySem.W.callWith_K0 (first := [.ref ad]) I1.kIn hm.kp (run_fnS (us := [.ref ad]) (vs := [.ref ad]) F hr hb (hx σ) I1 (.cons rfl .nil) q1)
/-- on top stands an instance of the class n -/
def chkI (n : Nat) : GE := fun m => match m.s with
  | e :: _ => match viewE m.g e with
    | some (.nd (.ins n' _) _ _) => if n' = n then some (.ok m) else none
    | _ => none
  | _ => none
theorem lookup_none {fl : Str} : ∀ {ns : List Str} {vs : List V}, ns.idxOf? fl = none → (ns.zip vs).lookup fl = none
  | [], _, _ => rfl
  | n :: ns, [], _ => rfl
  | n :: ns, v :: vs, h => by
    rw [List.idxOf?_cons] at h
    by_cases e : (n == fl) = true
    · simp [e] at h
    · rw [if_neg e] at h
      have e2 : (fl == n) = false := by
        have : n ≠ fl := by simpa using e
        simpa using fun q : fl = n => this q.symm
      rw [List.zip_cons_cons, List.lookup_cons, e2]
      exact lookup_none (by simpa using h)
theorem take_none {fl : Str} {ns : List Str} {k : Nat} (h : ns.idxOf? fl = none) : (ns.take k).idxOf? fl = none := by
  rw [List.idxOf?_eq_none_iff] at h ⊢
  exact fun q => h (List.mem_of_mem_take q)
theorem chkI_ok {rr : Rs} {xv : V} (E : EnvOk K c σ H m.g m.s (xv :: us)) (h : chkI n m = some rr) (hno : (K.nm n).idxOf? me = none) : rr = .ok m ∧ ∃ a dx fs, xv = .ref a ∧ H a = some (.ins (K.ct n) dx fs) ∧ fs.lookup me = none := by
  unfold chkI at h
  split at h
  · rename_i e s hs
    split at h
    · rename_i n' kf o ts hv
      split at h
      · rename_i hn
        subst hn
        cases h
        rw [hs] at E
        obtain ⟨a, vs, rfl, ⟨l, dx, ho⟩, _⟩ := viewObj E hv
        exact ⟨rfl, a, dx, _, rfl, ho, lookup_none (take_none hno)⟩
      · cases h
    · cases h
  · cases h
theorem me_meth (ho : ME X T md W oe go) (c : Cls X.K (T.ct n)) (hm : Meth X.K (T.ct n) me f) (hno : (T.nm n).idxOf? me = none) (F : FnOk X.prog X.w X.K X.mg X.base (L2N.CX X.prog X.w) kk f fd ps (spOf (kcm X.K T) mdc G)) (hr : Room kk X.A) (tk : Takes X W) (hb : Binds X.K fd ps [])
    (ha : MA X T md W (e :: es) ga) (hin : ∀ i ∈ is, i < (e :: es).length + 1) (hpw : is.reverse.Pairwise (· > ·))
    (hst : starEach (e :: es) X.env = (false, eval e X.env) :: starEach es X.env := by rfl) (hpl : (backTo pos (starEach es X.env)).any (·.1) = false := by rfl)
    (ht : eval (.Call (.Attribute oe me apos) (e :: es) [] pos) X.env = (do let ov ← eval oe X.env; standAt apos.atName; let (f, first) ← holding [ov] (getMethod ov me pl); callWith pos f first (backTo pos (starEach (e :: es) X.env)) (backToKw pos (keywordEach [] X.env))) := by rfl) :
    ME X T md W (.Call (.Attribute oe me apos) (e :: es) [] pos) (gSeq go (gSeq (chkI n) (gSeq ga (gCall is mdc G ((e :: es).length + 1))))) := by
  obtain ⟨to, po, so⟩ := ho
  obtain ⟨t, pa, sa⟩ := ha
  refine ⟨_, pe_methS (Ew := WE W) po c hm F hr hb (fun σ => passAt tk σ) pa hst hpl ht, fun c σ H m us Q rr hc E hg hp => ?_⟩
  simp only [gSeq] at hg
  split at hg
  · rename_i m1 h1
    refine so c σ H m us _ _ hc E h1 fun xv H1 E1 => ?_
    split at hg
    · rename_i m2 h2
      obtain ⟨e2, a, dx, fs, ex, ea, lk⟩ := chkI_ok E1 h2 hno
      cases e2
      refine ⟨a, dx, fs, ex, ea, lk, ?_⟩
      split at hg
      · rename_i m3 h3
        exact sa c σ H1 m1 _ _ _ hc E1 h3 fun vs H2 hl E2 => gCall_ok hin hpw c σ H2 m3 us (xv :: vs) Q rr hc (by simp [hl]) (by simpa using E2) hg hp
      · rename_i h3
        refine sa c σ H1 m1 _ _ _ hc E1 hg ?_
        cases rr with
        | ex C g' => exact hp
        | ok m2 => exact absurd hg (h3 m2)
    · rename_i h2
      obtain ⟨e2, _⟩ := chkI_ok E1 hg hno
      exact absurd (e2 ▸ hg) (h2 m1)
  · rename_i h1
    refine so c σ H m us _ _ hc E hg ?_
    cases rr with
    | ex C g' => exact hp
    | ok m2 => exact absurd hg (h1 m2)
theorem me_meth0 (ho : ME X T md W oe go) (c : Cls X.K (T.ct n)) (hm : Meth X.K (T.ct n) me f) (hno : (T.nm n).idxOf? me = none) (F : FnOk X.prog X.w X.K X.mg X.base (L2N.CX X.prog X.w) kk f fd ps (spOf (kcm X.K T) mdc G)) (hr : Room kk X.A) (tk : Takes X W) (hb : Binds X.K fd ps [])
    (hin : ∀ i ∈ is, i < 1) (hpw : is.reverse.Pairwise (· > ·))
    (ht : eval (.Call (.Attribute oe me apos) [] [] pos) X.env = (do let ov ← eval oe X.env; standAt apos.atName; let (f, first) ← holding [ov] (getMethod ov me pl); callWith pos f first (backTo pos (starEach [] X.env)) (backToKw pos (keywordEach [] X.env))) := by rfl) :
    ME X T md W (.Call (.Attribute oe me apos) [] [] pos) (gSeq go (gSeq (chkI n) (gCall is mdc G 1))) := by
  obtain ⟨to, po, so⟩ := ho
  refine ⟨_, pe_methS0 (Ew := WE W) po c hm F hr hb (fun σ => passAt tk σ) ht, fun c σ H m us Q rr hc E hg hp => ?_⟩
  simp only [gSeq] at hg
  split at hg
  · rename_i m1 h1
    refine so c σ H m us _ _ hc E h1 fun xv H1 E1 => ?_
    split at hg
    · rename_i m2 h2
      obtain ⟨e2, a, dx, fs, ex, ea, lk⟩ := chkI_ok E1 h2 hno
      cases e2
      exact ⟨a, dx, fs, ex, ea, lk, gCall_ok hin hpw c σ H1 m1 us [xv] Q rr hc rfl E1 hg hp⟩
    · rename_i h2
      obtain ⟨e2, _⟩ := chkI_ok E1 hg hno
      exact absurd (e2 ▸ hg) (h2 m1)
  · rename_i h1
    refine so c σ H m us _ _ hc E hg ?_
    cases rr with
    | ex C g' => exact hp
    | ok m2 => exact absurd hg (h1 m2)
/-! a new instance -/
def gMake (n : Nat) (mdc : List Bool) (G : GF) (l : Nat) : GE := fun m => match argT m.g (true :: mdc) (.tr (.nd (.ins n 0) .own []) :: (m.s.take l).reverse) with
  | none => none
  | some ts => match G ts with
    | some (.rt (.a .non) (t :: _)) => some (.ok ⟨m.g, .tr t :: m.s.drop l⟩)
    | some (.ex C _) => some (.ex C m.g)
    | _ => none
theorem EnvOk.newIns {pa dx : Addr} (E : EnvOk K c σ H Γ τ us) (hp : H pa = none) (hd : H dx = none) (ne : dx ≠ pa) : EnvOk K c σ (upd (upd H dx (.own pa)) pa (.ins (K.ct n) dx [])) Γ (.tr (.nd (.ins n 0) .own []) :: τ) (.ref pa :: us) := by
  obtain ⟨Z, ws, Φ, Ψ, EE⟩ := E
  have hk : ∀ b ob, H b = some ob → upd (upd H dx (.own pa)) pa (.ins (K.ct n) dx []) b = some ob := fun b ob e => by
    rw [upd_ne (ne_of_none e hp), upd_ne (ne_of_none e hd)]
    exact e
  have hs : ∀ b, (H b).isSome = true → (upd (upd H dx (.own pa)) pa (.ins (K.ct n) dx []) b).isSome = true := fun b q => by
    obtain ⟨ob, e⟩ := Option.isSome_iff_exists.mp q
    rw [hk b ob e]
    rfl
  have nz : ∀ b, Z.fz b ∨ Z.ln b → b ≠ pa := fun b q e => by have := EE.zs b q; rw [e, hp] at this; cases this
  refine EE.swapE (τ1 := []) (us1 := []) (τ1' := [.tr (.nd (.ins n 0) .own [])]) (us1' := [.ref pa]) rfl (by simp) (fun Ψ1 r zo => ?_) rfl
  have n0 : ∀ b, ¬ Ψ1 b := r.2
  refine ⟨Z, fun b => b = pa, ⟨.ref pa, [], fun b => b = pa, fun _ => False, rfl, ⟨pa, [], fun _ => False, rfl, ⟨by simp, dx, by simp [upd_same]⟩, ⟨rfl, fun _ h => h⟩, .mk (by simp) (by simp) (by simp) rfl⟩, ⟨rfl, fun _ h => h⟩, by simp, by simp⟩, ⟨fun _ h => h, fun _ h => h, fun _ h => .inl h, fun _ h => .inl h, fun b q => hs b (EE.zs b q), fun b ob e _ => hk b ob e, fun b q => absurd q (n0 b), fun b q => ?_⟩⟩
  have : b = pa := q
  subst this
  exact ⟨.inr hp, fun z => nz b (.inl z) rfl, fun z => nz b (.inr z) rfl⟩
theorem gMake_ok {xa dx : Addr} {l : Nat} {Q : VK} {rr : Rs} {Ex : XK} (E : EnvOk K c σ H m.g m.s (vs.reverse ++ us)) (hl : vs.length = l) (hf : gMake n mdc G l m = some rr) (hp : PostE K c W σ us Q rr) (hE : ∀ C H', W (.ref (K.et C)) none σ H' → Ex (.ref (K.et C)) none H') (hx : H xa = none) (hd : H dx = none) (ne : dx ≠ xa) :
    spOf K (true :: mdc) G (.ref xa :: vs) (upd (upd H dx (.own xa)) xa (.ins (K.ct n) dx [])) (fun v H2 => v = .non ∧ Q (.ref xa) H2) Ex := by
  unfold gMake at hf
  split at hf
  · cases hf
  · rename_i ts hts
    have hlen := tail_len E
    have hn : l ≤ m.s.length := by rw [hlen]; simp; omega
    have E1 := E.newIns (n := n) hx hd ne
    have es : m.s = (m.s.take l).reverse.reverse ++ m.s.drop l := by rw [List.reverse_reverse, List.take_append_drop]
    rw [es] at E1
    have E2 := EnvOk.permA (A := [.tr (.nd (.ins n 0) .own [])]) (B := (m.s.take l).reverse.reverse) (va := [.ref xa]) (vb := vs.reverse) rfl (by simp; omega) E1
    obtain ⟨Z, ws, Φ, Ψ, EE⟩ := E2
    split at hf
    · rename_i t rest hG
      cases hf
      refine call_ok (ents := .tr (.nd (.ins n 0) .own []) :: (m.s.take l).reverse) (s := m.s.drop l) (vs := .ref xa :: vs) (us := us) (o := .rt (.a .non) (t :: rest)) (by simpa using EE) (by simp; omega) hts hG ?_
      intro v H' l' E3
      have ev := top_a E3
      refine ⟨ev, hp _ _ ?_⟩
      have E4 := E3.drop
      have E5 : EnvOk K c σ H' m.g ([.tr t] ++ (rest.map .tr ++ m.s.drop l)) ([.ref xa] ++ (vs ++ us)) := by simpa using E4
      have E6 := EnvOk.permA (A := [.tr t]) (va := [.ref xa]) rfl (by simp at l' ⊢; omega) E5
      exact EnvOk.dropN (by simp at l' ⊢; omega) E6
    · rename_i C rest hG
      cases hf
      refine call_ok (ents := .tr (.nd (.ins n 0) .own []) :: (m.s.take l).reverse) (s := m.s.drop l) (vs := .ref xa :: vs) (us := us) (o := .ex C rest) (by simpa using EE) (by simp; omega) hts hG ?_
      intro H' l' E3
      exact hE C H' (hp H' E3.dropAll)
    · cases hf
end
section
variable {K : KC} {X : Cx} {T : KT} {md mdc : List Bool} {W : WX} {c : Cz} {σ σ' : St} {H H' : Hp} {Γ τ τ1 A B P : List Ent} {us us0 us1 vs vs' : List V} {v w : V} {p q : List Nat} {t : Tr} {ts ts' : List Tr} {k k' : Nk} {i j n d h : Nat} {a : Addr} {en en' : Ent} {o : Ow} {Z : Zn} {ws : List V} {Φ Ψ : Ps} {m m' : Ms} {g ge gt gs ga : GE} {e tg iter elt : Expr} {bd : Ms → Option Ms}
/-! the machine's own reading: the same in every context -/
def wpE (K : KC) (md : List Bool) (W : WX) (g : GE) : TE := fun σ H Q => ∃ c m us r, c.md = md ∧ EnvOk K c σ H m.g m.s us ∧ g m = some r ∧ PostE K c W σ us Q r
theorem ME.pe (h : ME X T md W e g) : PE X e (wpE (kcm X.K T) md W g) := by
  obtain ⟨t, p, s⟩ := h
  exact ⟨fun pins st σ H Q I ⟨c, m, us, r, hc, E, hg, hp⟩ => p.run pins st σ H Q I (s c σ H m us Q r hc E hg hp)⟩
def wpT (K : KC) (md : List Bool) (W : WX) (g : GE) : TT := fun σ H Q => ∃ c m us r, c.md = md ∧ EnvOk K c σ H m.g m.s us ∧ g m = some r ∧ PostT K c W σ us Q r
theorem MT.pt (h : MT X T md W e g) : PT X e (wpT (kcm X.K T) md W g) := by
  obtain ⟨t, p, s⟩ := h
  exact ⟨fun pins st σ H Q I ⟨c, m, us, r, hc, E, hg, hp⟩ => p.run pins st σ H Q I (s c σ H m us Q r hc E hg hp)⟩
abbrev WF : WX := fun _ _ _ _ => False
theorem EnvOk.reσ (E : EnvOk K c σ H Γ τ us) (hl : σ'.length = σ.length) (h : ∀ (i : Nat) (e : Ent), Γ[i]? = some e → e = .no ∨ σ'[i]? = σ[i]?) : EnvOk K c σ' H Γ τ us := by
  obtain ⟨Z, ws, Φ, Ψ, sl, tm, dj, so, to, ln, zo, zf, z0, zs, st, pv⟩ := E
  refine ⟨Z, ws, Φ, Ψ, ⟨sl, tm, dj, fun i e he => ?_, to, by rw [hl]; exact ln, zo, zf, z0, zs, st, pv⟩⟩
  have h1 := so i e he
  rcases h i e he with h2 | h2
  · subst h2
    trivial
  · cases e with
    | no => trivial
    | tr t =>
      obtain ⟨x, a, b⟩ := h1
      exact ⟨x, a, by rw [h2]; exact b⟩
    | al p =>
      obtain ⟨x, a, b⟩ := h1
      exact ⟨x, by rw [h2]; exact a, b⟩
/-- a slot is forgotten -/
def clr (i : Nat) (m : Ms) : Ms := ⟨(m.g.map (killR i)).set i .no, m.s.map (killR i)⟩
theorem EnvOk.clr (E : EnvOk K c σ H m.g m.s us) (hi : i < m.g.length) : EnvOk K c σ H (clr i m).g (clr i m).s us := by
  obtain ⟨Z, ws, Φ, Ψ, sl, tm, dj, so, to, ln, zo, zf, z0, zs, st, pv⟩ := E
  have hlt : i < (trees m.g).length := by simpa [trees] using hi
  obtain ⟨v', Φ1, Φ2, e2, r, d, u, r2, _⟩ := RepL.at_ _ sl (i := i) (t := (trees m.g)[i]) (List.getElem?_eq_getElem hlt)
  have et : trees ((m.g.map (killR i)).set i .no) = (trees m.g).set i .any := by
    have := trees_killR (Γ := m.g) (i := i)
    simp only [trees, List.map_set] at this ⊢
    rw [this]
    rfl
  refine ⟨Z, ws, Φ2, Ψ, ⟨by show RepL _ _ _ _ (trees ((m.g.map (killR i)).set i .no)) _ _; rw [et]; exact r2, ?_, by grind, ?_, ?_, by simp [Mine.clr, ln], by grind, zf, z0, zs, st, pv⟩⟩
  · show RepL K Z H .own (trees (m.s.map (killR i))) us Ψ
    rw [trees_killR]
    exact tm
  · intro j e he
    by_cases hj : i = j
    · subst hj
      have he : ((m.g.map (killR i)).set i .no)[i]? = some e := he
      rw [List.getElem?_set_self (by simpa using hi)] at he
      cases he
      trivial
    · have he : ((m.g.map (killR i)).set i .no)[j]? = some e := he
      rw [List.getElem?_set_ne hj] at he
      obtain ⟨e', he', rfl⟩ := killR_at he
      have h1 := so j e' he'
      cases e' with
      | no => trivial
      | tr x => exact h1
      | al q =>
        obtain ⟨x1, x2, x3, x4⟩ := h1
        by_cases hq : q.head? = some i
        · simp only [killR, hq, if_true]
          trivial
        · simp only [killR, hq, if_false]
          exact ⟨x1, x2, x3, by show (getG ((m.g.map (killR i)).set i .no) q).isSome = true; rw [getG_ne hq]; exact x4⟩
  · intro j q hj
    obtain ⟨e', he', hk⟩ := killR_at hj
    cases e' with
    | no => simp [killR] at hk
    | tr _ => simp [killR] at hk
    | al r =>
      by_cases hq : r.head? = some i
      · simp [killR, hq] at hk
      · simp only [killR, hq, if_false] at hk
        cases hk
        obtain ⟨w1, s1, s2, s3⟩ := to j q he'
        exact ⟨w1, s1, s2, by show (getG ((m.g.map (killR i)).set i .no) q).isSome = true; rw [getG_ne hq]; exact s3⟩
/-- a target of a comprehension whose names are the slots cv -/
def SGW (K : KC) (md : List Bool) (cv : List Nat) (t : TG) (b : Ms → Option Ms) : Prop := ∀ (c : Cz) (σ : St) (H : Hp) (m m' : Ms) (us : List V) (x : V) (Q : St → Hp → Prop), c.md = md → EnvOk K c (wipe σ cv) H m.g m.s (x :: us) → b m = some m' → (∀ σ2, wipe σ2 cv = wipe σ cv → EnvOk K c σ2 H m'.g m'.s us → Q σ2 H) → t x (wipe σ cv) H Q
theorem sgw_name : SGW K md [i] (gName i) (bind md i) := fun c σ H m m' us x Q hc E h hq => by
  refine hq _ ?_ (bind_ok hc E h)
  simp [wipe, List.set_set]
def clrs : List Nat → Ms → Ms
  | [], m => m
  | i :: is, m => clrs is (clr i m)
def allNo (Γ : List Ent) : List Nat → Bool
  | [] => true
  | i :: is => (match Γ[i]? with
    | some .no => true
    | _ => false) && allNo Γ is
/-- one turn: the item is on top, the new list at depth d below it -/
def lcTurn (cv : List Nat) (bd : Ms → Option Ms) (gt ge : GE) (d : Nat) (m : Ms) : Option Ms := match bd m with
  | none => none
  | some m1 => match gt m1 with
    | some (.ok ⟨g2, .tr (.a (.bl true)) :: s2⟩) => match ge ⟨g2, s2⟩ with
      | some (.ok ⟨g3, .tr y :: s3⟩) => match s3[d]? with
        | some (.tr (.nd .lst .own acc)) => if esc y = true ∧ acc.length < sizeLine ∧ (∀ i ∈ cv, i < g3.length) then some (clrs cv ⟨g3, s3.set d (.tr (.nd .lst .own (acc ++ [y])))⟩) else none
        | _ => none
      | _ => none
    | some (.ok ⟨g2, .tr (.a (.bl false)) :: s2⟩) => if ∀ i ∈ cv, i < g2.length then some (clrs cv ⟨g2, s2⟩) else none
    | _ => none
theorem clrs_ok : ∀ {cv : List Nat} {m : Ms}, EnvOk K c σ H m.g m.s us → (∀ i ∈ cv, i < m.g.length) → EnvOk K c σ H (clrs cv m).g (clrs cv m).s us
  | [], m, E, _ => E
  | i :: cv, m, E, h => clrs_ok (cv := cv) (m := clr i m) (E.clr (h i List.mem_cons_self)) (fun j hj => by simpa [clr] using h j (List.mem_cons_of_mem _ hj))
end
section
variable {K : KC} {X : Cx} {T : KT} {md mdc : List Bool} {W : WX} {c : Cz} {σ σ' σ2 : St} {H H' : Hp} {Γ τ τ1 A B P : List Ent} {us us0 us1 vs vs' : List V} {v w : V} {p q : List Nat} {t : Tr} {ts ts' : List Tr} {k k' : Nk} {i j n d h : Nat} {a D : Addr} {en en' : Ent} {o : Ow} {Z : Zn} {ws : List V} {Φ Ψ : Ps} {m m' : Ms} {g ge gt gs ga : GE} {e b tg iter elt : Expr} {bd : Ms → Option Ms} {cv : List Nat}
theorem wipe_get : ∀ {cv : List Nat} {i : Nat}, i ∉ cv → (wipe σ cv)[i]? = σ[i]?
  | [], _, _ => rfl
  | v :: cv, i, h => by
    simp only [List.mem_cons, not_or] at h
    unfold wipe
    rw [List.getElem?_set_ne (fun e => h.1 e.symm), wipe_get h.2]
theorem clr_no {m : Ms} (h : (clr j m).g[i]? = some e') (hm : m.g[i]? = some .no ∨ i = j) : e' = .no := by
  unfold clr at h
  simp only at h
  by_cases hj : j = i
  · subst hj
    by_cases hl : j < (m.g.map (killR j)).length
    · rw [List.getElem?_set_self hl] at h
      cases h
      rfl
    · rw [List.getElem?_eq_none (by simpa using hl)] at h
      cases h
  · rw [List.getElem?_set_ne hj] at h
    obtain ⟨x, hx, rfl⟩ := killR_at h
    rcases hm with hm | hm
    · rw [hm] at hx
      cases hx
      rfl
    · exact absurd hm.symm hj
theorem clrs_no : ∀ {cv : List Nat} {m : Ms} {i : Nat} {e : Ent}, (clrs cv m).g[i]? = some e → (m.g[i]? = some .no ∨ i ∈ cv) → e = .no
  | [], m, i, e, h, hm => by
    rcases hm with hm | hm
    · rw [show (clrs [] m).g = m.g from rfl, hm] at h
      cases h
      rfl
    · simp at hm
  | j :: cv, m, i, e, h, hm => by
    refine clrs_no (cv := cv) (m := clr j m) h ?_
    by_cases hi : i ∈ cv
    · exact .inr hi
    · left
      have hj : m.g[i]? = some .no ∨ i = j := by
        rcases hm with hm | hm
        · exact .inl hm
        · rcases List.mem_cons.mp hm with hm | hm
          · exact .inr hm
          · exact absurd hm hi
      have hlen : ∀ {cv : List Nat} {m : Ms}, (clrs cv m).g.length = m.g.length := by
        intro cv
        induction cv with
        | nil => intro m; rfl
        | cons x cv ih => intro m; rw [show clrs (x :: cv) m = clrs cv (clr x m) from rfl, ih]; simp [clr]
      have hlt := getq_lt' h
      rw [hlen] at hlt
      have : i < (clr j m).g.length := by simpa [clr] using hlt
      have h2 := List.getElem?_eq_getElem this
      rw [h2, clr_no h2 hj]
theorem backσ (E : EnvOk K c σ2 H (clrs cv m).g (clrs cv m).s us) (hw : wipe σ2 cv = wipe σ cv) : EnvOk K c (wipe σ cv) H (clrs cv m).g (clrs cv m).s us := by
  refine E.reσ (by rw [← hw, wipe_length]) fun i e he => ?_
  by_cases hi : i ∈ cv
  · exact .inl (clrs_no he (.inr hi))
  · right
    rw [← hw, wipe_get hi]
/-- the list at depth d gets one more item, that on top -/
theorem EnvOk.appAt {s : List Ent} {y : Tr} {yv : V} {acc : List Tr} (E : EnvOk K c σ H Γ (.tr y :: s) (yv :: us)) (hs : s[d]? = some (.tr (.nd .lst .own acc))) (hu : us[d]? = some (.ref D)) (he : esc y = true) :
    ∃ vs, H D = some (.lst vs) ∧ acc.length = vs.length ∧ EnvOk K c σ (upd H D (.lst (vs ++ [yv]))) Γ (s.set d (.tr (.nd .lst .own (acc ++ [y])))) us := by
  obtain ⟨Z, ws, Φ, Ψ, EE⟩ := id E
  obtain ⟨Θ, a, vs, Ξ, ea, ho, hlr, hn⟩ := EE.view (n := d + 1) (e := .tr (.nd .lst .own acc)) (v := .ref D) (by simpa using hs) (by simpa using hu) rfl
  cases ea
  have ho : H D = some (.lst vs) := ho
  have hn : Nod Z .lst .own D acc Ξ Θ := hn
  have hesc := (hn.own (by simp)).2.2
  refine ⟨vs, ho, RepL.len _ hlr, ?_⟩
  have s1 := split_at hs
  have u1 := split_at hu
  have hl := tail_len E
  have lus : s.length = us.length := by simpa using hl
  have hds := getq_lt' hs
  have E1 : EnvOk K c σ H Γ ([.tr y] ++ (s.take d ++ ([.tr (.nd .lst .own acc)] ++ s.drop (d + 1)))) ([yv] ++ (us.take d ++ ([.ref D] ++ us.drop (d + 1)))) := by rw [← s1, ← u1]; exact E
  have E2 := EnvOk.permM (P := [.tr y]) (vp := [yv]) rfl (by simp; omega) rfl E1
  have E3 := EnvOk.permA (A := [.tr y]) (B := [.tr (.nd .lst .own acc)]) (va := [yv]) (vb := [.ref D]) rfl rfl E2
  have E4 := EnvOk.mut (k := .lst) (k' := .lst) (ts := acc) (ts' := acc ++ [y]) (outs := []) (vouts := []) (vs' := vs ++ [yv]) (ob := .lst (vs ++ [yv])) (τ1 := [.tr y]) (us1 := [yv]) (τ := s.take d ++ s.drop (d + 1)) (us := us.take d ++ us.drop (d + 1)) E3 (by simp) (by simp) rfl ho
    (fun Z Ψa Ψb r1 r2 dd => ⟨_, by simpa [Ent.tree] using RepL.append _ r1 r2 dd, fun b q => q⟩) (by simpa using RepL.len _ hlr) rfl (escL_app hesc he) upd_same
  have E5 := EnvOk.permA (A := [.tr (.nd .lst .own (acc ++ [y]))]) (B := s.take d) (τ := s.drop (d + 1)) (va := [.ref D]) (vb := us.take d) (us := us.drop (d + 1)) rfl (by simp; omega) (by simpa using E4)
  have e6 : s.set d (.tr (.nd .lst .own (acc ++ [y]))) = s.take d ++ ([.tr (.nd .lst .own (acc ++ [y]))] ++ s.drop (d + 1)) := by
    rw [List.set_eq_take_append_cons_drop, if_pos hds]
    rfl
  rw [e6, u1]
  simpa using E5
theorem lcTurn_ok {gT : TG} {tt : TT} {te : TE} {s : List Ent} {x : V} {Nx : Hp → Prop} (hm : c.md = md) (hT : SGW K md cv gT bd) (hTt : ST K md WF tt gt) (hTe : SE K md WF te ge) (E : EnvOk K c (wipe σ cv) H Γ s (x :: us)) (hD : us[d]? = some (.ref D))
    (ht : lcTurn cv bd gt ge d ⟨Γ, s⟩ = some m') (hN : ∀ H', EnvOk K c (wipe σ cv) H' m'.g m'.s us → Nx H') :
    gT x (wipe σ cv) H fun σ2 H2 => wipe σ2 cv = wipe σ cv ∧ tt σ2 H2 fun b H3 => if b = true then te σ2 H3 fun y H4 => ∃ acc, H4 D = some (.lst acc) ∧ acc.length < sizeLine ∧ Nx (upd H4 D (.lst (acc ++ [y]))) else Nx H3 := by
  unfold lcTurn at ht
  split at ht
  · cases ht
  · rename_i m1 h1
    refine hT c σ H ⟨Γ, s⟩ m1 us x _ hm E h1 fun σ2 hw E2 => ⟨hw, ?_⟩
    split at ht
    · rename_i g2 s2 h2
      refine hTt c σ2 H m1 us _ _ hm E2 h2 fun H3 E3 => iteT ?_
      split at ht
      · rename_i g3 y s3 h3
        refine hTe c σ2 H3 ⟨g2, s2⟩ us _ _ hm E3 h3 fun yv H4 E4 => ?_
        split at ht
        · rename_i acc hacc
          split at ht
          · rename_i hc
            cases ht
            obtain ⟨vs, ho, hl, E5⟩ := EnvOk.appAt E4 hacc hD hc.1
            refine ⟨vs, ho, by rw [← hl]; exact hc.2.1, hN _ ?_⟩
            exact backσ (clrs_ok (m := ⟨g3, s3.set d (.tr (.nd .lst .own (acc ++ [y])))⟩) E5 hc.2.2) hw
          · cases ht
        · cases ht
      · cases ht
    · rename_i g2 s2 h2
      refine hTt c σ2 H m1 us _ _ hm E2 h2 fun H3 E3 => iteF ?_
      split at ht
      · rename_i hc
        cases ht
        exact hN _ (backσ (clrs_ok (m := ⟨g2, s2⟩) E3 hc) hw)
      · cases ht
    · cases ht
/-! over a range -/
def lcR (cv : List Nat) (bd : Ms → Option Ms) (gt ge : GE) (lo : Int) : Nat → Nat → Ms → Option Ms
  | 0, _, m => some m
  | r + 1, i, m => match lcTurn cv bd gt ge 0 ⟨m.g, .tr (.a (.int (lo + i))) :: m.s⟩ with
    | some m' => lcR cv bd gt ge lo r (i + 1) m'
    | none => none
theorem lcR_ok {gT : TG} {tt : TT} {te : TE} {lo : Int} {Q : VK} (hm : c.md = md) (hT : SGW K md cv gT bd) (hTt : ST K md WF tt gt) (hTe : SE K md WF te ge) {m : Ms} (E : EnvOk K c (wipe σ cv) H m.g m.s (.ref D :: us)) (hg : lcR cv bd gt ge lo n 0 m = some m') (hQ : ∀ H', EnvOk K c (wipe σ cv) H' m'.g m'.s (.ref D :: us) → Q (.ref D) H') :
    ∃ Wv : Nat → Nat → Hp → Prop, (∃ mm, Wv 0 mm H) ∧ ∀ i mm H, Wv i mm H →
      ((Itr lo n).stop i H ∧ Q (.ref D) H) ∨ ((Itr lo n).go i H ∧ ∃ Nx : Hp → Prop, (∀ H', Nx H' → ∃ m', m' < mm ∧ Wv (i + 1) m' H') ∧ ∀ x H', (Itr lo n).yld i H x H' → gT x (wipe σ cv) H' fun σ2 H2 => wipe σ2 cv = wipe σ cv ∧ tt σ2 H2 fun b H3 =>
        if b = true then te σ2 H3 fun y H4 => ∃ acc, H4 D = some (.lst acc) ∧ acc.length < sizeLine ∧ Nx (upd H4 D (.lst (acc ++ [y]))) else Nx H3) := by
  refine ⟨fun i r H => i + r = n ∧ ∃ m : Ms, EnvOk K c (wipe σ cv) H m.g m.s (.ref D :: us) ∧ lcR cv bd gt ge lo r i m = some m', ⟨n, by omega, m, E, hg⟩, ?_⟩
  rintro i r H ⟨hir, m, E, hg⟩
  cases r with
  | zero =>
    simp only [lcR] at hg
    cases hg
    exact .inl ⟨by show n ≤ i; omega, hQ H E⟩
  | succ r =>
    simp only [lcR] at hg
    split at hg
    · rename_i m1 h1
      refine .inr ⟨by show i < n; omega, fun H' => i + 1 + r = n ∧ ∃ m : Ms, EnvOk K c (wipe σ cv) H' m.g m.s (.ref D :: us) ∧ lcR cv bd gt ge lo r (i + 1) m = some m', fun H' z => ⟨r, by omega, z⟩, fun x H' y => ?_⟩
      obtain ⟨rfl, rfl⟩ := y
      exact lcTurn_ok (d := 0) hm hT hTt hTe (E.atom _) rfl h1 fun H2 E2 => ⟨by omega, m1, E2, hg⟩
    · cases hg
/-! over a list or tuple -/
def lcL (k : Nk) (cv : List Nat) (bd : Ms → Option Ms) (gt ge : GE) : Nat → Nat → Ms → Option Ms
  | 0, i, m => match m.s with
    | e :: _ => match viewE m.g e with
      | some (.nd k' _ ts) => if k' = k ∧ ts.length = i then some m else none
      | _ => none
    | _ => none
  | r + 1, i, m => match m.s with
    | e :: s => match viewE m.g e with
      | some (.nd k' o ts) => if k' = k ∧ cpE e = true ∧ ts.length = i + (r + 1) then match kidX e k o ts i with
          | some e' => match lcTurn cv bd gt ge 1 ⟨m.g, e' :: e :: s⟩ with
            | some m' => lcL k cv bd gt ge r (i + 1) m'
            | none => none
          | none => none
        else none
      | _ => none
    | _ => none
theorem lcL_ok {J : It} {gT : TG} {tt : TT} {te : TE} {Q : VK} {w : V} (hm : c.md = md) (hT : SGW K md cv gT bd) (hTt : ST K md WF tt gt) (hTe : SE K md WF te ge)
    (stop : ∀ i H Γ τ σ us e ts o, EnvOk K c σ H Γ (e :: τ) (w :: us) → viewE Γ e = some (.nd k o ts) → ts.length = i → J.stop i H)
    (step : ∀ i H Γ τ σ us e ts o e', EnvOk K c σ H Γ (e :: τ) (w :: us) → cpE e = true → viewE Γ e = some (.nd k o ts) → kidX e k o ts i = some e' → i < ts.length → J.go i H ∧ ∀ x H', J.yld i H x H' → H' = H ∧ EnvOk K c σ H Γ (e' :: e :: τ) (x :: w :: us))
    {m : Ms} (E : EnvOk K c (wipe σ cv) H m.g m.s (w :: .ref D :: us)) (hg : lcL k cv bd gt ge n 0 m = some m') (hQ : ∀ H', EnvOk K c (wipe σ cv) H' m'.g m'.s (w :: .ref D :: us) → Q (.ref D) H') :
    ∃ Wv : Nat → Nat → Hp → Prop, (∃ mm, Wv 0 mm H) ∧ ∀ i mm H, Wv i mm H →
      (J.stop i H ∧ Q (.ref D) H) ∨ (J.go i H ∧ ∃ Nx : Hp → Prop, (∀ H', Nx H' → ∃ m', m' < mm ∧ Wv (i + 1) m' H') ∧ ∀ x H', J.yld i H x H' → gT x (wipe σ cv) H' fun σ2 H2 => wipe σ2 cv = wipe σ cv ∧ tt σ2 H2 fun b H3 =>
        if b = true then te σ2 H3 fun y H4 => ∃ acc, H4 D = some (.lst acc) ∧ acc.length < sizeLine ∧ Nx (upd H4 D (.lst (acc ++ [y]))) else Nx H3) := by
  refine ⟨fun i r H => ∃ m : Ms, EnvOk K c (wipe σ cv) H m.g m.s (w :: .ref D :: us) ∧ lcL k cv bd gt ge r i m = some m', ⟨n, m, E, hg⟩, ?_⟩
  rintro i r H ⟨m, E, hg⟩
  cases r with
  | zero =>
    simp only [lcL] at hg
    split at hg
    · rename_i e s hs
      split at hg
      · rename_i k' o ts hv
        split at hg
        · rename_i hl
          cases hg
          obtain ⟨rfl, hl⟩ := hl
          exact .inl ⟨stop i H m'.g s (wipe σ cv) _ e ts o (hs ▸ E) hv hl, hQ H E⟩
        · cases hg
      · cases hg
    · cases hg
  | succ r =>
    simp only [lcL] at hg
    split at hg
    · rename_i e s hs
      split at hg
      · rename_i k' o ts hv
        split at hg
        · rename_i hl
          obtain ⟨rfl, hl⟩ := hl
          split at hg
          · rename_i e' hk
            split at hg
            · rename_i m1 h1
              obtain ⟨go, yld⟩ := step i H m.g s (wipe σ cv) _ e ts o e' (hs ▸ E) hl.1 hv hk (by have := hl.2; omega)
              refine .inr ⟨go, fun H' => ∃ m : Ms, EnvOk K c (wipe σ cv) H' m.g m.s (w :: .ref D :: us) ∧ lcL k' cv bd gt ge r (i + 1) m = some m', fun H' z => ⟨r, by omega, z⟩, fun x H' y => ?_⟩
              obtain ⟨rfl, E1⟩ := yld x H' y
              exact lcTurn_ok (d := 1) hm hT hTt hTe E1 rfl h1 fun H2 E2 => ⟨m1, E2, hg⟩
            · cases hg
          · cases hg
        · cases hg
      · cases hg
    · cases hg
end
section
variable {K : KC} {X : Cx} {T : KT} {md mdc : List Bool} {W : WX} {c : Cz} {σ σ' σ2 : St} {H H' : Hp} {Γ τ τ1 A B P : List Ent} {us us0 us1 vs vs' : List V} {v w : V} {p q : List Nat} {t : Tr} {ts ts' : List Tr} {k k' : Nk} {i j n d h : Nat} {a D : Addr} {en en' : Ent} {o : Ow} {Z : Zn} {ws : List V} {Φ Ψ : Ps} {m m' : Ms} {g ge gt gs ga : GE} {e b tg iter elt : Expr} {ifs : List Expr} {bd : Ms → Option Ms} {cv : List Nat} {gT : TG} {tt : TT} {te : TE} {pos pos' rp : Pos} {scope : Scope} {own : List (Str × Nat)}
theorem allNo_ok : ∀ {cv : List Nat}, allNo Γ cv = true → ∀ i ∈ cv, Γ[i]? = some .no
  | [], _, i, hi => by simp at hi
  | j :: cv, h, i, hi => by
    simp only [allNo, Bool.and_eq_true] at h
    rcases List.mem_cons.mp hi with z | z
    · subst z
      have := h.1
      split at this
      · rename_i h1
        exact h1
      · cases this
    · exact allNo_ok h.2 i z
theorem toW (E : EnvOk K c σ H Γ τ us) (h : allNo Γ cv = true) : EnvOk K c (wipe σ cv) H Γ τ us := by
  refine E.reσ (by rw [wipe_length]) fun i e he => ?_
  by_cases hi : i ∈ cv
  · have := allNo_ok h i hi
    rw [this] at he
    cases he
    exact .inl rfl
  · exact .inr (wipe_get hi)
theorem fromW (E : EnvOk K c (wipe σ cv) H Γ τ us) (h : allNo Γ cv = true) : EnvOk K c σ H Γ τ us := by
  refine E.reσ (by rw [wipe_length]) fun i e he => ?_
  by_cases hi : i ∈ cv
  · have := allNo_ok h i hi
    rw [this] at he
    cases he
    exact .inl rfl
  · exact .inr (wipe_get hi).symm
theorem st_yes : ST K md W tYes (gC (.bl true)) := by
  intro c σ H m us Q rr hc E hg hp
  cases hg
  exact hp H E
/-- [elt for tg in iter if ..]: over a list or tuple -/
def gLc (cv : List Nat) (gs : GE) (bd : Ms → Option Ms) (gt ge : GE) : GE := fun m => match gs m with
  | some (.ok m1) => match ready m1 with
    | some (m2, k, n) => match m2.s with
      | e :: s => if allNo m2.g cv = true then match lcL k cv bd gt ge n 0 ⟨m2.g, e :: .tr (.nd .lst .own []) :: s⟩ with
          | some m3 => if allNo m3.g cv = true then some (.ok ⟨m3.g, m3.s.tail⟩) else none
          | none => none
        else none
      | _ => none
    | none => none
  | some (.ex C g) => some (.ex C g)
  | none => none
theorem EnvOk.empty {s : List Ent} (E : EnvOk K c σ H Γ s us) (hD : H D = none) : EnvOk K c σ (upd H D (.lst [])) Γ (.tr (.nd .lst .own []) :: s) (.ref D :: us) :=
  EnvOk.new (ts := []) (vs := []) (k := .lst) E rfl hD rfl fun o => upd_same
theorem ready_kind {m m' : Ms} (h : ready m = some (m', k, n)) : k = .lst ∨ k = .tup := by
  unfold ready at h
  split at h
  · split at h
    · rename_i hk
      cases h
      exact hk
    · cases h
  · split at h
    · cases h
      exact .inl rfl
    · cases h
  · cases h
theorem stopL {aa : Addr} : ∀ i H Γ τ σ us e ts o, EnvOk K c σ H Γ (e :: τ) (.ref aa :: us) → viewE Γ e = some (.nd .lst o ts) → ts.length = i → (Itl K.K aa).stop i H := fun i H Γ τ σ us e ts o E hv hl => by
  obtain ⟨a', vs', e, ho, hl2⟩ := viewObj E hv
  cases e
  exact ⟨vs', objL ho, by omega⟩
theorem stepL {aa : Addr} : ∀ i H Γ τ σ us e ts o e', EnvOk K c σ H Γ (e :: τ) (.ref aa :: us) → cpE e = true → viewE Γ e = some (.nd .lst o ts) → kidX e .lst o ts i = some e' → i < ts.length → (Itl K.K aa).go i H ∧ ∀ x H', (Itl K.K aa).yld i H x H' → H' = H ∧ EnvOk K c σ H Γ (e' :: e :: τ) (x :: .ref aa :: us) := fun i H Γ τ σ us e ts o e' E hcp hv hk hi => by
  obtain ⟨a', vs', w', e, ho, hl2, hw, E3⟩ := EnvOk.kidX E (cpE_tr hcp) hv hk
  cases e
  refine ⟨⟨vs', w', objL ho, hw⟩, fun x H' y => ?_⟩
  obtain ⟨rfl, y⟩ := y
  have := y vs' (objL ho)
  rw [hw] at this
  cases this
  exact ⟨rfl, E3⟩
theorem stopT {aa : Addr} : ∀ i H Γ τ σ us e ts o, EnvOk K c σ H Γ (e :: τ) (.ref aa :: us) → viewE Γ e = some (.nd .tup o ts) → ts.length = i → (Itt K.K aa).stop i H := fun i H Γ τ σ us e ts o E hv hl => by
  obtain ⟨a', vs', e, ho, hl2⟩ := viewObj E hv
  cases e
  exact ⟨vs', objT ho, by omega⟩
theorem stepT {aa : Addr} : ∀ i H Γ τ σ us e ts o e', EnvOk K c σ H Γ (e :: τ) (.ref aa :: us) → cpE e = true → viewE Γ e = some (.nd .tup o ts) → kidX e .tup o ts i = some e' → i < ts.length → (Itt K.K aa).go i H ∧ ∀ x H', (Itt K.K aa).yld i H x H' → H' = H ∧ EnvOk K c σ H Γ (e' :: e :: τ) (x :: .ref aa :: us) := fun i H Γ τ σ us e ts o e' E hcp hv hk hi => by
  obtain ⟨a', vs', w', e, ho, hl2, hw, E3⟩ := EnvOk.kidX E (cpE_tr hcp) hv hk
  cases e
  refine ⟨⟨vs', w', objT ho, hw⟩, fun x H' y => ?_⟩
  obtain ⟨rfl, y⟩ := y
  have := y vs' (objT ho)
  rw [hw] at this
  cases this
  exact ⟨rfl, E3⟩
theorem se_lc {tl : TE} (si : SE K md W tl gs) (hT : SGW K md cv gT bd) (hTt : ST K md WF tt gt) (hTe : SE K md WF te ge) : SE K md W (tLc (fun σ H R => iList K.K tl σ H R ∨ iTup K.K tl σ H R) gT tt te cv) (gLc cv gs bd gt ge) := by
  intro c σ H m us Q rr hm E hg hp
  simp only [gLc] at hg
  split at hg
  · rename_i m1 h1
    split at hg
    · rename_i m2 k n h2
      split at hg
      · rename_i e s hs
        split at hg
        · rename_i hn1
          split at hg
          · rename_i m3 h3
            split at hg
            · rename_i hn2
              cases hg
              rcases ready_kind h2 with rfl | rfl
              · refine .inl (si c σ H m us _ _ hm E h1 fun x H1 E1 => ?_)
                obtain ⟨E2, e2, s2, o, ts, hs2, hv, _⟩ := ready_ok E1 h2
                rw [hs] at hs2
                cases hs2
                rw [hs] at E2
                obtain ⟨aa, vs, rfl, ho, _⟩ := viewObj E2 hv
                refine ⟨aa, rfl, ⟨vs, objL ho⟩, fun D hD => ?_⟩
                have E3 := EnvOk.swap2 ((toW E2 hn1).empty hD)
                exact lcL_ok hm hT hTt hTe stopL stepL (m := ⟨m2.g, e :: .tr (.nd .lst .own []) :: s⟩) E3 h3 fun H' E4 => hp _ H' (fromW E4 hn2).tail
              · refine .inr (si c σ H m us _ _ hm E h1 fun x H1 E1 => ?_)
                obtain ⟨E2, e2, s2, o, ts, hs2, hv, _⟩ := ready_ok E1 h2
                rw [hs] at hs2
                cases hs2
                rw [hs] at E2
                obtain ⟨aa, vs, rfl, ho, _⟩ := viewObj E2 hv
                refine ⟨aa, rfl, ⟨vs, objT ho⟩, fun D hD => ?_⟩
                have E3 := EnvOk.swap2 ((toW E2 hn1).empty hD)
                exact lcL_ok hm hT hTt hTe stopT stepT (m := ⟨m2.g, e :: .tr (.nd .lst .own []) :: s⟩) E3 h3 fun H' E4 => hp _ H' (fromW E4 hn2).tail
            · cases hg
          · cases hg
        · cases hg
      · cases hg
    · cases hg
  · rename_i h1
    cases hg
    exact .inl (si c σ H m us _ _ hm E h1 hp)
  · cases hg
def gLcR1 (cv : List Nat) (ga : GE) (bd : Ms → Option Ms) (gt ge : GE) : GE := fun m => match ga m with
  | some (.ok ⟨g', .tr (.a (.int j)) :: s⟩) => if -(2 ^ 62) ≤ j ∧ j < 2 ^ 62 ∧ allNo g' cv = true then match lcR cv bd gt ge 0 j.toNat 0 ⟨g', .tr (.nd .lst .own []) :: s⟩ with
      | some m3 => if allNo m3.g cv = true then some (.ok m3) else none
      | none => none
    else none
  | some (.ex C g) => some (.ex C g)
  | _ => none
def gLcR2 (cv : List Nat) (ga : GE) (bd : Ms → Option Ms) (gt ge : GE) : GE := fun m => match ga m with
  | some (.ok ⟨g', .tr (.a (.int j)) :: .tr (.a (.int i)) :: s⟩) => if -(2 ^ 62) ≤ i ∧ i < 2 ^ 62 ∧ -(2 ^ 62) ≤ j ∧ j < 2 ^ 62 ∧ allNo g' cv = true then match lcR cv bd gt ge i (j - i).toNat 0 ⟨g', .tr (.nd .lst .own []) :: s⟩ with
      | some m3 => if allNo m3.g cv = true then some (.ok m3) else none
      | none => none
    else none
  | some (.ex C g) => some (.ex C g)
  | _ => none
theorem se_lcR1 {ta : TA} (sa : SA K md W 1 ta ga) (hT : SGW K md cv gT bd) (hTt : ST K md WF tt gt) (hTe : SE K md WF te ge) : SE K md W (tLc (iRng1 ta) gT tt te cv) (gLcR1 cv ga bd gt ge) := by
  intro c σ H m us Q rr hm E hg hp
  simp only [gLcR1] at hg
  split at hg
  · rename_i g' j s h1
    split at hg
    · rename_i hb
      split at hg
      · rename_i m3 h3
        split at hg
        · rename_i hn2
          cases hg
          refine sa c σ H m us _ _ hm E h1 fun vs H1 hl E1 => ?_
          match vs, hl with
          | [x], _ =>
            have E1 : EnvOk K c σ H1 g' (.tr (.a (.int j)) :: s) (x :: us) := E1
            cases top_a E1
            refine ⟨j, rfl, hb.1, hb.2.1, fun D hD => ?_⟩
            exact lcR_ok hm hT hTt hTe (m := ⟨g', .tr (.nd .lst .own []) :: s⟩) ((toW E1.drop hb.2.2).empty hD) h3 fun H' E4 => hp _ H' (fromW E4 hn2)
        · cases hg
      · cases hg
    · cases hg
  · rename_i h1
    cases hg
    exact sa c σ H m us _ _ hm E h1 hp
  · cases hg
theorem se_lcR2 {ta : TA} (sa : SA K md W 2 ta ga) (hT : SGW K md cv gT bd) (hTt : ST K md WF tt gt) (hTe : SE K md WF te ge) : SE K md W (tLc (iRng2 ta) gT tt te cv) (gLcR2 cv ga bd gt ge) := by
  intro c σ H m us Q rr hm E hg hp
  simp only [gLcR2] at hg
  split at hg
  · rename_i g' j i s h1
    split at hg
    · rename_i hb
      split at hg
      · rename_i m3 h3
        split at hg
        · rename_i hn2
          cases hg
          refine sa c σ H m us _ _ hm E h1 fun vs H1 hl E1 => ?_
          match vs, hl with
          | [x, y], _ =>
            have E1 : EnvOk K c σ H1 g' (.tr (.a (.int j)) :: .tr (.a (.int i)) :: s) (y :: x :: us) := E1
            cases top_a E1
            cases top_a E1.drop
            refine ⟨i, j, rfl, ⟨hb.1, hb.2.1, hb.2.2.1, hb.2.2.2.1⟩, fun D hD => ?_⟩
            exact lcR_ok hm hT hTt hTe (m := ⟨g', .tr (.nd .lst .own []) :: s⟩) ((toW E1.drop.drop hb.2.2.2.2).empty hD) h3 fun H' E4 => hp _ H' (fromW E4 hn2)
        · cases hg
      · cases hg
    · cases hg
  · rename_i h1
    cases hg
    exact sa c σ H m us _ _ hm E h1 hp
  · cases hg
end
section
variable {K : KC} {X : Cx} {T : KT} {md mdc : List Bool} {W : WX} {c : Cz} {σ σ' σ2 : St} {H H' : Hp} {Γ τ : List Ent} {us vs : List V} {v w : V} {i j n : Nat} {m m' : Ms} {g ge gt gs ga gk : GE} {e b tg iter elt cnd : Expr} {es : List Expr} {pos pos' rp : Pos} {scope : Scope} {x y : Str} {G : GF} {kk : Nat} {f C : Addr} {fd : FuncData} {ps : List Str} {pp apos : Pos} {me : Str} {is : List Nat}
theorem se_wp : SE K md W (wpE K md W g) g := fun c σ H m us Q r hc E hg hp => ⟨c, m, us, r, hc, E, hg, hp⟩
theorem st_wp : ST K md W (wpT K md W g) g := fun c σ H m us Q r hc E hg hp => ⟨c, m, us, r, hc, E, hg, hp⟩
/-! comprehensions -/
theorem me_lc (hs : ME X T md W iter gs) (ok : BlkOk X.N X.env.scope scope [(x, i)]) (hg : ∀ (s : Shared) (H : Hp) (C : Addr) (cl : List (Str × Addr)) (fp : List Addr), PG (X.blk s H scope (compEnvC scope cl C X.env) fp) tg (gName i))
    (ht : ∀ (s : Shared) (H : Hp) (C : Addr) (cl : List (Str × Addr)) (fp : List Addr), MT (X.blk s H scope (compEnvC scope cl C X.env) fp) T md WF cnd gt) (he : ∀ (s : Shared) (H : Hp) (C : Addr) (cl : List (Str × Addr)) (fp : List Addr), ME (X.blk s H scope (compEnvC scope cl C X.env) fp) T md WF elt ge)
    (hc : X.calm = true) (hN : X.N.Nodup) (hf : ∀ x, foldedSetIterable iter X.env x = pure x := by intro _; rfl) : ME X T md W (.ListComp elt [⟨tg, iter, [cnd], 0⟩] scope pos) (gLc [i] gs (bind md i) gt ge) := by
  obtain ⟨ti, pi, si⟩ := hs
  exact ⟨_, pe_lc (te := wpE (kcm X.K T) md WF ge) (tt := wpT (kcm X.K T) md WF gt) hc hN (PI.or (pi_list pi) (pi_tup pi)) ok hg (fun s H C cl fp => pts_one (ht s H C cl fp).pt) (fun s H C cl fp => (he s H C cl fp).pe) hf, se_lc si sgw_name st_wp se_wp⟩
theorem me_lc0 (hs : ME X T md W iter gs) (ok : BlkOk X.N X.env.scope scope [(x, i)]) (hg : ∀ (s : Shared) (H : Hp) (C : Addr) (cl : List (Str × Addr)) (fp : List Addr), PG (X.blk s H scope (compEnvC scope cl C X.env) fp) tg (gName i))
    (he : ∀ (s : Shared) (H : Hp) (C : Addr) (cl : List (Str × Addr)) (fp : List Addr), ME (X.blk s H scope (compEnvC scope cl C X.env) fp) T md WF elt ge)
    (hc : X.calm = true) (hN : X.N.Nodup) (hf : ∀ x, foldedSetIterable iter X.env x = pure x := by intro _; rfl) : ME X T md W (.ListComp elt [⟨tg, iter, [], 0⟩] scope pos) (gLc [i] gs (bind md i) (gC (.bl true)) ge) := by
  obtain ⟨ti, pi, si⟩ := hs
  exact ⟨_, pe_lc (te := wpE (kcm X.K T) md WF ge) hc hN (PI.or (pi_list pi) (pi_tup pi)) ok hg (fun s H C cl fp => pts_nil) (fun s H C cl fp => (he s H C cl fp).pe) hf, se_lc si sgw_name st_yes se_wp⟩
theorem me_lcR10 (ha : MA X T md W [e] ga) (ok : BlkOk X.N X.env.scope scope [(x, i)]) (hg : ∀ (s : Shared) (H : Hp) (C : Addr) (cl : List (Str × Addr)) (fp : List Addr), PG (X.blk s H scope (compEnvC scope cl C X.env) fp) tg (gName i))
    (he : ∀ (s : Shared) (H : Hp) (C : Addr) (cl : List (Str × Addr)) (fp : List Addr), ME (X.blk s H scope (compEnvC scope cl C X.env) fp) T md WF elt ge)
    (hgl : Gl X "range") (hmg : X.mg "range" = none) (hc : X.calm = true) (hN : X.N.Nodup) (hs : starEach [e] X.env = [(false, eval e X.env)] := by rfl) (hf : ∀ x, foldedSetIterable (.Call (.Name "range" rp) [e] [] pos') X.env x = pure x := by intro _; rfl) : ME X T md W (.ListComp elt [⟨tg, .Call (.Name "range" rp) [e] [] pos', [], 0⟩] scope pos) (gLcR1 [i] ga (bind md i) (gC (.bl true)) ge) := by
  obtain ⟨ti, pi, si⟩ := ha
  exact ⟨_, pe_lc (te := wpE (kcm X.K T) md WF ge) hc hN (pi_range1 hgl hmg pi hs) ok hg (fun s H C cl fp => pts_nil) (fun s H C cl fp => (he s H C cl fp).pe) hf, se_lcR1 si sgw_name st_yes se_wp⟩
theorem me_lcR2 (ha : MA X T md W [e, b] ga) (ok : BlkOk X.N X.env.scope scope [(x, i)]) (hg : ∀ (s : Shared) (H : Hp) (C : Addr) (cl : List (Str × Addr)) (fp : List Addr), PG (X.blk s H scope (compEnvC scope cl C X.env) fp) tg (gName i))
    (ht : ∀ (s : Shared) (H : Hp) (C : Addr) (cl : List (Str × Addr)) (fp : List Addr), MT (X.blk s H scope (compEnvC scope cl C X.env) fp) T md WF cnd gt) (he : ∀ (s : Shared) (H : Hp) (C : Addr) (cl : List (Str × Addr)) (fp : List Addr), ME (X.blk s H scope (compEnvC scope cl C X.env) fp) T md WF elt ge)
    (hgl : Gl X "range") (hmg : X.mg "range" = none) (hc : X.calm = true) (hN : X.N.Nodup) (hs : starEach [e, b] X.env = [(false, eval e X.env), (false, eval b X.env)] := by rfl) (hs2 : starEach [b] X.env = [(false, eval b X.env)] := by rfl) (hf : ∀ x, foldedSetIterable (.Call (.Name "range" rp) [e, b] [] pos') X.env x = pure x := by intro _; rfl) : ME X T md W (.ListComp elt [⟨tg, .Call (.Name "range" rp) [e, b] [] pos', [cnd], 0⟩] scope pos) (gLcR2 [i] ga (bind md i) gt ge) := by
  obtain ⟨ti, pi, si⟩ := ha
  exact ⟨_, pe_lc (te := wpE (kcm X.K T) md WF ge) (tt := wpT (kcm X.K T) md WF gt) hc hN (pi_range2 hgl hmg pi hs hs2) ok hg (fun s H C cl fp => pts_one (ht s H C cl fp).pt) (fun s H C cl fp => (he s H C cl fp).pe) hf, se_lcR2 si sgw_name st_wp se_wp⟩
/-- a statement by its own rule, from a value's term: the rule of the statement, and the machine's term of the value -/
theorem ms_asgOf {st : Stmt} {te : TE} (hp : PS X st (tAsg te (gName i))) (s : SE (kcm X.K T) md W te ge) : MS X T md W st (sSet md i ge) := ⟨_, hp, ss_set s⟩
/-! constants of a class -/
theorem me_cval {u : Value} {mc : Value} (he : PE X e (tC (.ref C))) (r : ClX.CRead X.K C mc) (k : ClX.CVal X.K C mc me v u) (hb : attributeBase e me X.env (eval e X.env) = eval e X.env := by rfl) : ME X T md W (.Attribute e me pos) (gC v) := by
  refine ⟨_, ClX.pe_cval he hb, fun c σ H m us Q rr hc E hg hp => ?_⟩
  cases hg
  exact ⟨C, mc, v, u, rfl, r, k, hp v H (E.atom v)⟩
/-! calls that let nothing out -/
def noEx (g : GE) : GE := fun m => match g m with
  | some (.ok m') => some (.ok m')
  | _ => none
theorem noEx_ok {R : St → List V → Hp → VK → Prop} (h : RA K md WF n R g) : RA K md W n R (noEx g) := by
  intro c σ H m us vs Q rr hc hl E hf hp
  unfold noEx at hf
  split at hf
  · rename_i m2 h2
    cases hf
    exact h c σ H m us vs Q (.ok m2) hc hl E h2 hp
  · cases hf
theorem spOf_E0 (hin : ∀ i ∈ is, i < n) (hpw : is.reverse.Pairwise (· > ·)) : RA K md W n (fun _ vs H Q => spOf K mdc G vs H Q E0) (noEx (gCall is mdc G n)) := noEx_ok (gCall_ok (W := WF) hin hpw)
theorem me_make (M : Mk X.K (T.ct n) f) (F : FnOk X.prog X.w X.K X.mg X.base (L2N.CX X.prog X.w) kk f fd ps (spOf (kcm X.K T) (true :: mdc) G)) (hr : Room (kk + 1) X.A) (hg : Gl X x) (hm : X.mg x = some (.ref (T.ct n))) (hb : Binds X.K fd ps []) (ha : MA X T md W (e :: es) ga)
    (hdb : (x == ("__debug__" : Str)) = false := by decide) (he : starEach (e :: es) X.env = (false, eval e X.env) :: starEach es X.env := by rfl) (hpl : (backTo pos (starEach es X.env)).any (·.1) = false := by rfl) :
    ME X T md W (.Call (.Name x pp) (e :: es) [] pos) (gSeq ga (noEx (gMake n mdc G (e :: es).length))) := by
  obtain ⟨t, pa, sa⟩ := ha
  refine ⟨_, pe_make M F hr hg hm hb .nil passL pa hdb he hpl, ?_⟩
  refine seqA sa (noEx_ok (R := fun _ vs H1 Q => ∀ x dx, H1 x = none → H1 dx = none → dx ≠ x → spOf (kcm X.K T) (true :: mdc) G (.ref x :: (vs ++ [])) (upd (upd H1 dx (.own x)) x (.ins (T.ct n) dx [])) (fun v H2 => v = .non ∧ Q (.ref x) H2) E0) ?_)
  intro c σ H m us vs Q rr hc hl E hf hp xa dx h1 h2 h3
  rw [List.append_nil]
  exact gMake_ok E hl hf hp (fun _ _ h => h) h1 h2 h3
def MKw (X : Cx) (T : KT) (md : List Bool) (W : WX) (kws : List Keyword) (g : GE) : Prop := ∃ t, PK X kws t ∧ SA (kcm X.K T) md W kws.length t g
theorem mk_nil : MKw X T md W [] gNil := ⟨_, pk_nil, fun c σ H m us Q rr hc E hg hp => by
  cases hg
  exact hp [] H rfl E⟩
theorem mk_cons {kws : List Keyword} {nm : Option Str} {kpos : Pos} (ha : ME X T md W e ge) (hr : MKw X T md W kws gk) : MKw X T md W (⟨nm, e, kpos⟩ :: kws) (gSeq ge gk) := by
  obtain ⟨t, p, s⟩ := ha
  obtain ⟨t', p', s'⟩ := hr
  refine ⟨_, pk_cons p p', fun c σ H m us Q rr hc E hg hp => ?_⟩
  simp only [gSeq] at hg
  split at hg
  · rename_i m1 h1
    refine s c σ H m us _ _ hc E h1 fun x H1 E1 => s' c σ H1 m1 _ _ _ hc E1 hg ?_
    cases rr with
    | ex C g' => exact hp
    | ok m2 => exact fun vs H2 hl E2 => hp (x :: vs) H2 (by simp [hl]) (by simpa using E2)
  · rename_i h1
    refine s c σ H m us _ _ hc E hg ?_
    cases rr with
    | ex C g' => exact hp
    | ok m2 => exact absurd hg (h1 m2)
theorem seqAK {tA tK : TA} {R : List V → Hp → VK → Prop} {fg : GE} {n2 : Nat} (sa : SA K md W n tA ga) (sk : SA K md W n2 tK gk) (hf : RA K md W (n + n2) (fun _ => R) fg) : SE K md W (fun σ H Q => tA σ H fun vs H1 => tK σ H1 fun zs H2 => vs.length = n ∧ zs.length = n2 ∧ R (vs ++ zs) H2 Q) (gSeq ga (gSeq gk fg)) := by
  intro c σ H m us Q rr hc E hg hp
  simp only [gSeq] at hg
  split at hg
  · rename_i m1 h1
    refine sa c σ H m us _ _ hc E h1 fun vs H1 hl E1 => ?_
    split at hg
    · rename_i m2 h2
      refine sk c σ H1 m1 _ _ _ hc E1 h2 fun zs H2 hz E2 => ⟨hl, hz, ?_⟩
      exact hf c σ H2 m2 us (vs ++ zs) Q rr hc (by simp [hl, hz]) (by simpa using E2) hg hp
    · rename_i h2
      refine sk c σ H1 m1 _ _ _ hc E1 hg ?_
      cases rr with
      | ex C g' => exact hp
      | ok m2 => exact absurd hg (h2 m2)
  · rename_i h1
    refine sa c σ H m us _ _ hc E hg ?_
    cases rr with
    | ex C g' => exact hp
    | ok m2 => exact absurd hg (h1 m2)
theorem me_makeK {ks : List Str} {kws : List Keyword} {gg : List Value → List Value → List Value} (M : Mk X.K (T.ct n) f) (F : FnOk X.prog X.w X.K X.mg X.base (L2N.CX X.prog X.w) kk f fd ps (spOf (kcm X.K T) (true :: mdc) G)) (hr : Room (kk + 1) X.A) (hg : Gl X x) (hm : X.mg x = some (.ref (T.ct n))) (hb : KBn X.K fd ps ((e :: es).length + 1) ks gg (fun vs zs => vs ++ zs)) (ha : MA X T md W (e :: es) ga) (hkw : MKw X T md W kws gk) (hlk : ks.length = kws.length)
    (hall : (backToKw pos (keywordEach kws X.env)).all (·.1.isSome) = true := by rfl) (hks : (backToKw pos (keywordEach kws X.env)).filterMap (·.1) = ks := by rfl) (hdb : (x == ("__debug__" : Str)) = false := by decide)
    (he : starEach (e :: es) X.env = (false, eval e X.env) :: starEach es X.env := by rfl) (hpl : ((backTo pos (starEach (e :: es) X.env)).any (·.1) || (backToKw pos (keywordEach kws X.env)).any (·.1.isNone)) = false := by rfl) :
    ME X T md W (.Call (.Name x pp) (e :: es) kws pos) (gSeq ga (gSeq gk (noEx (gMake n mdc G ((e :: es).length + kws.length))))) := by
  obtain ⟨t, pa, sa⟩ := ha
  obtain ⟨tk, pk, sk⟩ := hkw
  refine ⟨_, pe_makeK M F hr hg hm hb passL pa pk hall hks hdb he hpl, ?_⟩
  rw [hlk]
  refine seqAK sa sk (noEx_ok (R := fun _ ws H1 Q => ∀ x dx, H1 x = none → H1 dx = none → dx ≠ x → spOf (kcm X.K T) (true :: mdc) G (.ref x :: ws) (upd (upd H1 dx (.own x)) x (.ins (T.ct n) dx [])) (fun v H2 => v = .non ∧ Q (.ref x) H2) E0) ?_)
  intro c σ H m us vs Q rr hc hl E hf hp xa dx h1 h2 h3
  exact gMake_ok E hl hf hp (fun _ _ h => h) h1 h2 h3
theorem me_callN {ks : List Str} {kws : List Keyword} {gg : List Value → List Value → List Value} (F : FnOk X.prog X.w X.K X.mg X.base (L2N.CX X.prog X.w) kk f fd ps (spOf (kcm X.K T) mdc G)) (hr : Room kk X.A) (hg : Gl X x) (hm : X.mg x = some (.ref f)) (hk : PySem.W.keepIn X.K (.ref f) = true) (hb : KBn X.K fd ps (e :: es).length ks gg (fun vs zs => vs ++ zs)) (ha : MA X T md W (e :: es) ga) (hkw : MKw X T md W kws gk) (hlk : ks.length = kws.length) (hin : ∀ i ∈ is, i < (e :: es).length + kws.length) (hpw : is.reverse.Pairwise (· > ·))
    (hall : (backToKw pos (keywordEach kws X.env)).all (·.1.isSome) = true := by rfl) (hks : (backToKw pos (keywordEach kws X.env)).filterMap (·.1) = ks := by rfl) (hdb : (x == ("__debug__" : Str)) = false := by decide)
    (he : starEach (e :: es) X.env = (false, eval e X.env) :: starEach es X.env := by rfl) (hpl : ((backTo pos (starEach (e :: es) X.env)).any (·.1) || (backToKw pos (keywordEach kws X.env)).any (·.1.isNone)) = false := by rfl) :
    ME X T md W (.Call (.Name x pp) (e :: es) kws pos) (gSeq ga (gSeq gk (noEx (gCall is mdc G ((e :: es).length + kws.length))))) := by
  obtain ⟨t, pa, sa⟩ := ha
  obtain ⟨tk, pk, sk⟩ := hkw
  refine ⟨_, pe_callN F hr hg hm hk hb passL pa pk hall hks hdb he hpl, ?_⟩
  rw [hlk]
  exact seqAK sa sk (spOf_E0 hin hpw)
end
/-! static methods and class constants, read off the class -/
structure SMet (K : PySem.W.Frag) (C : Addr) (m : Str) (g : Addr) : Prop where
  rd : ClX.CRead K C (.type "type")
  at_ : ∃ p rest, PySem.W.findCls K (.ref C) (.type "type") m = some (.get (.builtin "staticmethod.__get__") (.ref p) .none (.ref C)) ∧ PySem.W.recIn K p "staticmethod" = some (.ref g :: rest)
  kp : PySem.W.keepIn K (.ref g) = true
def tSMeth (C : Addr) (sp : Sp) (dvs : List V) (E : XK) (ta : TE) (t : TA) : TE := fun σ H Q => ta σ H fun x H1 => x = .ref C ∧ t σ H1 fun vs H2 => sp (vs ++ dvs) H2 Q E
section
variable {X : Cx} {CX : CXT} {k : Nat} {C g : Addr} {sp : Sp} {E : XK} {o e : Expr} {es : List Expr} {m : Str} {pos apos : Pos} {ta : TE} {t : TA} {pl : Sem Bool} {fd : FuncData} {ps : List Str} {ds : List Value} {dvs : List V}
theorem pe_smeth (he : PE X o ta) (c : SMet X.K C m g) (F : FnOk X.prog X.w X.K X.mg X.base CX k g fd ps sp) (hr : Room k X.A) (hb : Binds X.K fd ps ds) (hd : Vals dvs ds) (hx : Passes CX X E) (ha : PA X (e :: es) t)
    (hst : starEach (e :: es) X.env = (false, eval e X.env) :: starEach es X.env := by rfl) (hpl : (backTo pos (starEach es X.env)).any (·.1) = false := by rfl)
    (ht : eval (.Call (.Attribute o m apos) (e :: es) [] pos) X.env = (do
      let ov ← eval o X.env
      standAt apos.atName
      let (f, first) ← holding [ov] (getMethod ov m pl)
      callWith pos f first (backTo pos (starEach (e :: es) X.env)) (backToKw pos (keywordEach [] X.env))) := by rfl) :
    PE X (.Call (.Attribute o m apos) (e :: es) [] pos) (tSMeth C sp dvs E ta t) := by
  refine ⟨fun pins s σ H Q I h => ?_⟩
  refine PySem.W.methodCall_KW (pl := pl) (thn (he.run pins s σ H _ I h) fun u s1 ⟨x, H1, I1, rx, ex, q⟩ => ?_) ht
  subst ex
  obtain rfl : u = Value.ref C := rx
  obtain ⟨p, rest, h1, h2⟩ := c.at_
  refine PySem.W.method_cls I1.kIn c.rd.ga (PySem.W.cls_bind I1.kIn c.rd.rd h1 (wpAny_call (PySem.W.sm_get (s := { s1 with toks := s1.toks + 1 }) I1.kIn h2 (PySem.W.handed_on rfl ?_))))
  have I2 := I1.tok (s1.toks + 1)
  refine PySem.W.callWith_K (h₀ := X.base) I2.ok.mod.kin c.kp (thn (ha.run pos pins _ σ H1 _ I2 q) fun us s3 ⟨vs, H2, I3, rv, q2⟩ => ⟨I3.kIn, ?_⟩) hst hpl
  exact run_fn F hr hb hd hx I3 rv q2
end
section
variable {K : KC} {X : Cx} {T : KT} {md mdc : List Bool} {W : WX} {c : Cz} {σ σ' σ2 : St} {H H' : Hp} {Γ τ : List Ent} {us vs : List V} {v w : V} {i j n : Nat} {m m' : Ms} {g ge gt gs ga gk gv go gi fo : GE} {gb : GS} {e b tg iter elt cnd oe ie : Expr} {es : List Expr} {pos pos' rp tpos : Pos} {x y : Str} {G : GF} {kk : Nat} {f C : Addr} {fd : FuncData} {ps : List Str} {pp apos : Pos} {me fl : Str} {is : List Nat} {pl : Sem Bool} {ts : List Tr} {t : Tr} {sts : List Stmt} {st : Stmt}
/-! static methods -/
theorem me_smeth (he : PE X oe (tC (.ref C))) (cm : SMet X.K C me f) (F : FnOk X.prog X.w X.K X.mg X.base (L2N.CX X.prog X.w) kk f fd ps (spOf (kcm X.K T) mdc G)) (hr : Room kk X.A) (hb : Binds X.K fd ps []) (ha : MA X T md W (e :: es) ga) (hin : ∀ i ∈ is, i < (e :: es).length) (hpw : is.reverse.Pairwise (· > ·))
    (hst : starEach (e :: es) X.env = (false, eval e X.env) :: starEach es X.env := by rfl) (hpl : (backTo pos (starEach es X.env)).any (·.1) = false := by rfl)
    (ht : eval (.Call (.Attribute oe me apos) (e :: es) [] pos) X.env = (do let ov ← eval oe X.env; standAt apos.atName; let (f, first) ← holding [ov] (getMethod ov me pl); callWith pos f first (backTo pos (starEach (e :: es) X.env)) (backToKw pos (keywordEach [] X.env))) := by rfl) :
    ME X T md W (.Call (.Attribute oe me apos) (e :: es) [] pos) (gSeq ga (noEx (gCall is mdc G (e :: es).length))) := by
  obtain ⟨t, pa, sa⟩ := ha
  refine ⟨_, pe_smeth he cm F hr hb .nil passL pa hst hpl ht, fun c σ H m us Q rr hc E hg hp => ⟨rfl, ?_⟩⟩
  have := seqA sa (spOf_E0 (mdc := mdc) (G := G) (W := W) hin hpw) c σ H m us Q rr hc E hg hp
  simpa using this
/-! several names at once -/
def bindAll (md : List Bool) : List Nat → Ms → Option Ms
  | [], m => some m
  | i :: is, m => match bind md i m with
    | some m' => bindAll md is m'
    | none => none
def tNames : List Nat → TGs
  | [] => L2.gNil
  | i :: is => gCons (gName i) (tNames is)
theorem bindAll_ok (hc : c.md = md) : ∀ {is : List Nat} {xs : List V} {m m' : Ms} {σ : St} {Q : St → Hp → Prop}, xs.length = is.length → EnvOk K c σ H m.g m.s (xs ++ us) → bindAll md is m = some m' → (∀ σ', EnvOk K c σ' H m'.g m'.s us → Q σ' H) → tNames is xs σ H Q
  | [], [], m, m', σ, Q, _, E, h, hq => by
    simp only [bindAll] at h
    cases h
    exact ⟨rfl, hq σ E⟩
  | i :: is, x :: xs, m, m', σ, Q, hl, E, h, hq => by
    simp only [bindAll] at h
    split at h
    · rename_i m1 h1
      exact ⟨x, xs, rfl, bindAll_ok hc (by simpa using hl) (bind_ok hc E h1) h hq⟩
    · cases h
  | [], _ :: _, _, _, _, _, hl, _, _, _ => by simp at hl
  | _ :: _, [], _, _, _, _, hl, _, _, _ => by simp at hl
def unpkP (md : List Bool) : List Nat → Nat → Ms → Option Ms
  | [], _, m => some ⟨m.g, m.s.tail⟩
  | i :: is, j, m => match m.s with
    | .al p :: s => match getG m.g p with
      | some (.nd .lst .own ts) => match kidX (.al p) .lst .own ts j with
        | some e' => match bind md i ⟨m.g, e' :: .al p :: s⟩ with
          | some m' => unpkP md is (j + 1) m'
          | none => none
        | none => none
      | _ => none
    | _ => none
def unpk (md : List Bool) (is : List Nat) : Ms → Option Ms := fun m => match m.s with
  | .tr (.nd k o ts) :: s => if (k = .lst ∨ k = .tup) ∧ ts.length = is.length then bindAll md is ⟨m.g, (ts.map (kid o)).map Ent.tr ++ s⟩ else none
  | .al p :: s => match getG m.g p with
    | some (.nd .lst .own ts) => if ts.length = is.length then unpkP md is 0 ⟨m.g, .al p :: s⟩ else none
    | _ => none
  | _ => none
theorem unpkP_ok {aa : Addr} (hc : c.md = md) (hH : H aa = some (.lst vs)) : ∀ {is : List Nat} {j : Nat} {m m' : Ms} {σ : St} {Q : St → Hp → Prop}, j + is.length = vs.length → EnvOk K c σ H m.g m.s (.ref aa :: us) → unpkP md is j m = some m' → (∀ σ', EnvOk K c σ' H m'.g m'.s us → Q σ' H) → tNames is (vs.drop j) σ H Q
  | [], j, m, m', σ, Q, hl, E, h, hq => by
    simp only [unpkP] at h
    cases h
    exact ⟨List.drop_of_length_le (by simp at hl; omega), hq σ E.tail⟩
  | i :: is, j, m, m', σ, Q, hl, E, h, hq => by
    simp only [unpkP] at h
    split at h
    · rename_i p s hs
      split at h
      · rename_i ts hg
        split at h
        · rename_i e' hk
          split at h
          · rename_i m1 h1
            rw [hs] at E
            obtain ⟨a', vs', w', ea, ho, hl2, hw, E1⟩ := EnvOk.kidX E (fun t q => by cases q) (k := .lst) (o := .own) (ts := ts) hg hk
            cases ea
            have ho : H aa = some (.lst vs') := ho
            rw [hH] at ho
            cases ho
            have hjl := getq_lt' hw
            have ed : vs.drop j = w' :: vs.drop (j + 1) := by rw [List.drop_eq_getElem_cons hjl, (List.getElem?_eq_some_iff.mp hw).2]
            rw [ed]
            exact ⟨w', _, rfl, unpkP_ok hc hH (by simp at hl; omega) (bind_ok hc E1 h1) h hq⟩
          · cases h
        · cases h
      · cases h
    · cases h
theorem zip_rev {α β : Type} : ∀ {l : List α} {r : List β}, l.length = r.length → l.reverse.zip r.reverse = (l.zip r).reverse
  | [], [], _ => rfl
  | a :: l, b :: r, h => by
    rw [List.reverse_cons, List.reverse_cons, List.zip_cons_cons, List.reverse_cons, List.zip_append (by simpa using h), zip_rev (by simpa using h)]
    rfl
theorem EnvOk.revs {s : List Ent} (hl : ts.length = vs.length) (E : EnvOk K c σ H Γ (ts.reverse.map Ent.tr ++ s) (vs.reverse ++ us)) : EnvOk K c σ H Γ (ts.map Ent.tr ++ s) (vs ++ us) := by
  have lt : s.length = us.length := by
    have := tail_len E
    simp at this
    omega
  have h := EnvOk.perm (K := K) (c := c) (σ := σ) (H := H) (Γ := Γ) (l := (ts.map Ent.tr).reverse.zip vs.reverse ++ s.zip us) (l' := (ts.map Ent.tr).zip vs ++ s.zip us) (by
    refine List.Perm.append_right _ ?_
    rw [zip_rev (by simpa using hl)]
    exact List.reverse_perm _)
  have l1 : (ts.map Ent.tr).length = vs.length := by simpa using hl
  simp only [List.map_append, List.map_fst_zip (Nat.le_of_eq l1), List.map_snd_zip (Nat.le_of_eq l1.symm), List.map_fst_zip (Nat.le_of_eq lt), List.map_snd_zip (Nat.le_of_eq lt.symm)] at h
  rw [List.map_fst_zip (by simp; omega), List.map_snd_zip (by simp; omega)] at h
  exact h (by simpa using E)
theorem PG.or {t1 t2 : TG} (h1 : PG X tg t1) (h2 : PG X tg t2) : PG X tg (fun v σ H Q => t1 v σ H Q ∨ t2 v σ H Q) := by
  refine ⟨fun pins s σ H v u Q I r h => ?_⟩
  rcases h with h | h
  · exact h1.run pins s σ H v u Q I r h
  · exact h2.run pins s σ H v u Q I r h
theorem sg_unp : SG K md (fun v σ H Q => gTup K.K is.length (tNames is) v σ H Q ∨ gLst K.K is.length (tNames is) v σ H Q) (unpk md is) := by
  intro c σ H m m' us x Q hc E h hq
  unfold unpk at h
  split at h
  · rename_i k o ts s hs
    split at h
    · rename_i hk
      rw [hs] at E
      obtain ⟨ad, vs, rfl, ho, hl, _, E1⟩ := EnvOk.items (ts' := ts.map (kid o)) E (by rfl) (by rfl)
      have E2 := EnvOk.revs (ts := ts.map (kid o)) (by simpa using hl) E1
      rcases hk.1 with rfl | rfl
      · exact .inr ⟨ad, vs, rfl, objL ho, by omega, bindAll_ok (m := ⟨m.g, (ts.map (kid o)).map Ent.tr ++ s⟩) hc (by omega) E2 h fun σ' E3 => hq σ' H E3⟩
      · exact .inl ⟨ad, vs, rfl, objT ho, by omega, bindAll_ok (m := ⟨m.g, (ts.map (kid o)).map Ent.tr ++ s⟩) hc (by omega) E2 h fun σ' E3 => hq σ' H E3⟩
    · cases h
  · rename_i p s hs
    split at h
    · rename_i ts hg
      split at h
      · rename_i hl
        rw [hs] at E
        obtain ⟨ad, vs, rfl, ho, hl2⟩ := viewObj E (k := .lst) (o := .own) (ts := ts) hg
        have hb := unpkP_ok (m := ⟨m.g, .al p :: s⟩) (j := 0) hc ho (by omega) E h (fun σ' E3 => hq σ' H E3)
        exact .inr ⟨ad, vs, rfl, objL ho, by omega, by simpa using hb⟩
      · cases h
    · cases h
  · cases h
theorem mg_unp (h1 : PG X tg (gTup X.K is.length (tNames is))) (h2 : PG X tg (gLst X.K is.length (tNames is))) : MG X T md tg (unpk md is) := ⟨_, PG.or h1 h2, sg_unp⟩
/-- target = e, by the target's machine -/
def sAsg (ge : GE) (bd : Ms → Option Ms) : GS := fun m => match ge m with
  | some (.ok m1) => match bd m1 with
    | some m2 => some (.nx m2)
    | none => none
  | some (.ex C g) => some (.ex C g)
  | none => none
theorem ms_asg {bd : Ms → Option Ms} (h : ME X T md W e ge) (hT : MG X T md tg bd) (hp : ∀ {te : TE} {g : TG}, PE X e te → PG X tg g → PS X (.Assign [tg] e pos) (tAsg te g)) : MS X T md W (.Assign [tg] e pos) (sAsg ge bd) := by
  obtain ⟨t, p, s⟩ := h
  obtain ⟨tt, pt, stt⟩ := hT
  refine ⟨_, hp p pt, fun c σ H m us D o hc E hg hp => ?_⟩
  simp only [sAsg] at hg
  split at hg
  · rename_i m1 h1
    split at hg
    · rename_i m2 h2
      cases hg
      exact s c σ H m us _ _ hc E h1 fun x H1 E1 => stt c σ H1 m1 m2 us x _ hc E1 h2 fun σ' H' E2 => hp σ' H' E2
    · cases hg
  · rename_i h1
    cases hg
    exact s c σ H m us _ _ hc E h1 fun H1 E1 => hp σ H1 E1
  · cases hg
/-- a, b = x, y -/
def sPar (md : List Bool) (i j : Nat) (ga : GE) : GS := fun m => match ga m with
  | some (.ok ⟨g', y :: x :: s⟩) => match bindAll md [i, j] ⟨g', x :: y :: s⟩ with
    | some m2 => some (.nx m2)
    | none => none
  | some (.ex C g) => some (.ex C g)
  | _ => none
/-! raise -/
def sRaise (C : Nat) : GS := fun m => some (.ex C m.g)
theorem ms_raise {n : Nat} (hc : X.calm = true) (tk : Takes X W) (he : PMk X e (fun _ H Q => Q (.ref (T.et n)) none H)) : MS X T md W (.Raise (some e) none pos) (sRaise n) := by
  refine ⟨_, L2N.ps_raise hc tk he, fun c σ H m us D o hc E hg hp => ?_⟩
  cases hg
  exact hp σ H E.dropAll
end
section
variable {K : KC} {X : Cx} {T : KT} {md mdc : List Bool} {W : WX} {c : Cz} {σ σ' σ2 : St} {H H' : Hp} {Γ τ : List Ent} {us vs : List V} {v w : V} {i j n : Nat} {m m' : Ms} {g ge gt gs ga gk gv go gi fo : GE} {gb : GS} {e b oe ie : Expr} {es : List Expr} {pos pos' rp tpos : Pos} {fl : Str} {tab : List (Nat × Nat)} {op : Operator}
/-! o.f op= e -/
def sFAug (tab : List (Nat × Nat)) (go gv fo : GE) : GS := fun m => match go m with
  | some (.ok ⟨g1, .al p :: s1⟩) => match getG g1 p with
    | some (.nd (.ins n k) .own ts) => match tab.lookup n with
      | some j => match ts[j]? with
        | some (.a u) => match gv ⟨g1, .tr (.a u) :: .al p :: s1⟩ with
          | some (.ok m2) => match fo m2 with
            | some (.ok ⟨g3, .tr (.a z) :: e3 :: s3⟩) => match viewE g3 e3 with
              | some (.nd (.ins n' _) _ _) => if n' = n then match stFld tab ⟨g3, e3 :: .tr (.a z) :: s3⟩ with
                  | some m4 => some (.nx m4)
                  | none => none
                else none
              | _ => none
            | _ => none
          | some (.ex C g) => some (.ex C g)
          | none => none
        | _ => none
      | none => none
    | _ => none
  | some (.ex C g) => some (.ex C g)
  | _ => none
theorem ms_faug {rd : V → V → Hp → VK → Prop} (ho : ME X T md W oe go) (hv : ME X T md W e gv) (ht : FldOk X.K T fl tab) (hf : RA2 (kcm X.K T) md W rd fo) (hp : ∀ {ta tv : TE}, PE X oe ta → PE X e tv → PS X (.AugAssign (.Attribute oe fl tpos) op e pos) (sFldAug X.K ta tv rd fl)) : MS X T md W (.AugAssign (.Attribute oe fl tpos) op e pos) (sFAug tab go gv fo) := by
  obtain ⟨to, po, so⟩ := ho
  obtain ⟨tv, pv, sv⟩ := hv
  refine ⟨_, hp po pv, fun c σ H m us D oo hc E hg hpo => ?_⟩
  simp only [sFAug] at hg
  split at hg
  · rename_i g1 p s1 h1
    split at hg
    · rename_i n k ts hgp
      split at hg
      · rename_i j hj
        split at hg
        · rename_i u hu
          refine so c σ H m us _ _ hc E h1 fun x H1 E1 => ?_
          have E1 : EnvOk (kcm X.K T) c σ H1 g1 (.al p :: s1) (x :: us) := E1
          have hk : kidX (.al p) (.ins n k) .own ts j = some (.tr (.a u)) := by
            unfold kidX
            rw [hu]
            simp [kid, cp]
          obtain ⟨ad, vs, w', rfl, ho, hl, hw, E2⟩ := EnvOk.kidX E1 (fun t q => by cases q) (k := .ins n k) (o := .own) (ts := ts) hgp hk
          have ew := top_a E2
          subst ew
          obtain ⟨l, dx, ho⟩ := ho
          obtain ⟨c1, c2, c3⟩ := ht n j (mem_lookup hj)
          have hjk : j < k := by
            have h1 := getq_lt' hw
            have h2 : ((T.nm n).take k).length = vs.length := l
            rw [List.length_take] at h2
            omega
          refine ⟨ad, T.ct n, dx, _, w', rfl, ho, c1, c2, by rw [lookup_zip (idx_take c3 hjk) l]; exact hw, ?_⟩
          split at hg
          · rename_i m2 h2
            refine sv c σ H1 _ _ _ _ hc E2 h2 fun y H2 E3 => ?_
            split at hg
            · rename_i g3 z e3 s3 h3
              split at hg
              · rename_i n' k3 o3 ts3 hv3
                split at hg
                · rename_i hn3
                  split at hg
                  · rename_i m4 h4
                    cases hg
                    refine hf.use hc E3 h3 fun zv H3 E4 => ?_
                    have E4 : EnvOk (kcm X.K T) c σ H3 g3 (.tr (.a z) :: e3 :: s3) (zv :: .ref ad :: us) := E4
                    have E5 := EnvOk.swap2 E4
                    obtain ⟨a', C', dx', fs', ea, hin, _, _, hlen, hD, hC⟩ := stFld_ok ht (m := ⟨g3, e3 :: .tr (.a z) :: s3⟩) E5 h4 fun H4 E6 => hpo σ H4 E6
                    cases ea
                    have : C' = T.ct n := by rw [← hn3]; exact hC n' k3 o3 ts3 e3 _ rfl hv3
                    subst this
                    exact ⟨dx', fs', hin, hlen, hD⟩
                  · cases hg
                · cases hg
              · cases hg
            · cases hg
          · rename_i h2
            cases hg
            exact sv c σ H1 _ _ _ _ hc E2 h2 fun H2 E3 => hpo σ H2 E3
          · cases hg
        · cases hg
      · cases hg
    · cases hg
  · rename_i h1
    cases hg
    exact so c σ H m us _ _ hc E h1 fun H1 E1 => hpo σ H1 E1
  · cases hg
theorem pget_list : PGet X (rIxL X.K) := by
  intro pins s σ H x y v u Q I rx ry h
  obtain ⟨p, xs, i, z, rfl, rfl, hq, he, q⟩ := h
  cases rx
  obtain ⟨t, rfl⟩ := ry
  obtain ⟨its, r, pl, hz⟩ := I.list hq
  obtain ⟨j, h1, h2, h3, h4, h5⟩ := atI_get he
  obtain ⟨w, ew, rw'⟩ := r.get h2
  have hl := r.length
  have hn := line63
  by_cases h0 : 0 ≤ i
  · have hj : i.toNat = j := Option.some.inj ((seqIndex_of h0 h5).symm.trans h1)
    exact wpAny_getItem_list pl.isList h0 (by omega) (by rw [hj]; simpa using ew) ⟨z, H, I, rw', q⟩
  · have hj : (i + (its.toArray.size : Int)).toNat = j := by
      rw [List.size_toArray, ← hl]
      exact Option.some.inj ((seqIndex_neg (by omega) h4).symm.trans h1)
    exact wpAny_getItem_list_neg pl.isList (by omega) (by rw [List.size_toArray] <;> omega) (by omega) (by rw [hj]; simpa using ew) ⟨z, H, I, rw', q⟩
/-! o[i] op= e, of a list -/
def sSAug (go gi gv fo : GE) : GS := fun m => match gSeq go gi m with
  | some (.ok ⟨g1, .tr (.a (.int x)) :: .al p :: s1⟩) => match getG g1 p with
    | some (.nd .lst .own ts) => match ixN ts.length x with
      | some j => match ts[j]? with
        | some (.a u) => match gv ⟨g1, .tr (.a u) :: .tr (.a (.int x)) :: .al p :: s1⟩ with
          | some (.ok m2) => match fo m2 with
            | some (.ok ⟨g3, .tr (.a z) :: e3 :: e4 :: s3⟩) => match stSub ⟨g3, e3 :: e4 :: .tr (.a z) :: s3⟩ with
              | some m4 => some (.nx m4)
              | none => none
            | _ => none
          | some (.ex C g) => some (.ex C g)
          | none => none
        | _ => none
      | none => none
    | _ => none
  | some (.ex C g) => some (.ex C g)
  | _ => none
theorem ms_saug {tip : TIp} (ho : ME X T md W oe go) (hi : ME X T md W ie gi) (hv : ME X T md W e gv) (hf : RA2 (kcm X.K T) md W tip fo) (hp : ∀ {to ti tv : TE}, PE X oe to → PE X ie ti → PE X e tv → PS X (.AugAssign (.Subscript oe ie tpos) op e pos) (tAugS to ti tv (rIxL X.K) tip rSetL)) : MS X T md W (.AugAssign (.Subscript oe ie tpos) op e pos) (sSAug go gi gv fo) := by
  obtain ⟨to, po, so⟩ := ho
  obtain ⟨ti, pi, si⟩ := hi
  obtain ⟨tv, pv, sv⟩ := hv
  refine ⟨_, hp po pi pv, fun c σ H m us D oo hc E hg hpo => ?_⟩
  simp only [sSAug] at hg
  cases e1 : go m with
  | none => simp [gSeq, e1] at hg
  | some r1 =>
    cases r1 with
    | ex C g' =>
      simp only [gSeq, e1] at hg
      cases hg
      exact so c σ H m us _ _ hc E e1 fun H1 E1 => hpo σ H1 E1
    | ok m1 =>
      simp only [gSeq, e1] at hg
      refine so c σ H m us _ _ hc E e1 fun x H1 E1 => ?_
      split at hg
      · rename_i g1 xi p s1 h1
        split at hg
        · rename_i ts hgp
          split at hg
          · rename_i j hj
            split at hg
            · rename_i u hu
              refine si c σ H1 m1 _ _ _ hc E1 h1 fun iv H2 E2 => ?_
              have E2 : EnvOk (kcm X.K T) c σ H2 g1 (.tr (.a (.int xi)) :: .al p :: s1) (iv :: x :: us) := E2
              have ei := top_a E2
              subst ei
              have hk : kidX (.al p) .lst .own ts j = some (.tr (.a u)) := by
                unfold kidX
                rw [hu]
                simp [kid, cp]
              obtain ⟨ad, vs, w', rfl, ho, hl, hw, E3⟩ := EnvOk.kidX E2.drop (fun t q => by cases q) (k := .lst) (o := .own) (ts := ts) hgp hk
              have ew := top_a E3
              subst ew
              have ho : H2 ad = some (.lst vs) := ho
              refine ⟨ad, vs, xi, w', rfl, rfl, .inl (.inl ho), by unfold atI; rw [← hl, hj]; exact hw, ?_⟩
              have E4 : EnvOk (kcm X.K T) c σ H2 g1 (.tr (.a w') :: .tr (.a (.int xi)) :: .al p :: s1) (w' :: .int xi :: .ref ad :: us) := E2.atom w'
              split at hg
              · rename_i m2 h2
                refine sv c σ H2 _ _ _ _ hc E4 h2 fun y H3 E5 => ?_
                split at hg
                · rename_i g3 z e3 e4 s3 h3
                  split at hg
                  · rename_i m4 h4
                    cases hg
                    refine hf.use hc E5 h3 fun zv H4 E6 => ?_
                    have E6 : EnvOk (kcm X.K T) c σ H4 g3 ([.tr (.a z)] ++ ([e3, e4] ++ s3)) ([zv] ++ ([.int xi, .ref ad] ++ us)) := E6
                    have E7 := EnvOk.permA (A := [.tr (.a z)]) (B := [e3, e4]) (va := [zv]) (vb := [.int xi, .ref ad]) rfl rfl E6
                    exact stSub_ok (m := ⟨g3, e3 :: e4 :: .tr (.a z) :: s3⟩) E7 h4 fun H5 E8 => hpo σ H5 E8
                  · cases hg
                · cases hg
              · rename_i h2
                cases hg
                exact sv c σ H2 _ _ _ _ hc E4 h2 fun H3 E5 => hpo σ H3 E5
              · cases hg
            · cases hg
          · cases hg
        · cases hg
      · rename_i h1
        cases hg
        exact si c σ H1 m1 _ _ _ hc E1 h1 fun H2 E2 => hpo σ H2 E2
      · cases hg
end
section
variable {K : KC} {X : Cx} {T : KT} {md mdc : List Bool} {W : WX} {c : Cz} {σ : St} {H : Hp} {us : List V} {i n j : Nat} {m : Ms} {g ga gb gc ge gt gs f f' : GE} {e a b cc tg iter elt cnd : Expr} {pos pos' rp py spos : Pos} {scope : Scope} {x y fl : Str} {r r' : R2} {tab : List (Nat × Nat)} {Kf : PySem.W.Frag}
theorem FldOk.nil : FldOk Kf T fl [] := fun n j h => by simp at h
theorem FldOk.cons (h1 : Cls Kf (T.ct n)) (h2 : NoAttr Kf (T.ct n) fl) (h3 : (T.nm n).idxOf? fl = some j) (h : FldOk Kf T fl tab) : FldOk Kf T fl ((n, j) :: tab) := fun n' j' q => by
  rcases List.mem_cons.mp q with z | z
  · cases z
    exact ⟨h1, h2, h3⟩
  · exact h n' j' z
/-! a < b < c -/
def gChain (ga gb f gc f' : GE) : GE := fun m => match gSeq ga gb m with
  | some (.ok ⟨g1, .tr (.a v) :: s1⟩) => match f ⟨g1, .tr (.a v) :: s1⟩ with
    | some (.ok ⟨g2, .tr (.a (.bl true)) :: s2⟩) => match gc ⟨g2, .tr (.a v) :: s2⟩ with
      | some (.ok m3) => f' m3
      | some (.ex C g) => some (.ex C g)
      | none => none
    | some (.ok ⟨g2, .tr (.a (.bl false)) :: s2⟩) => some (.ok ⟨g2, .tr (.a (.bl false)) :: s2⟩)
    | _ => none
  | some (.ex C g) => some (.ex C g)
  | _ => none
theorem se_chain {ta tb tc : TE} (sa : SE K md W ta ga) (sb : SE K md W tb gb) (hf : RA2 K md W r f) (sc : SE K md W tc gc) (hf' : RA2 K md W r' f') : SE K md W (tChain r r' ta tb tc) (gChain ga gb f gc f') := by
  intro c σ H m us Q rr hc E hg hp
  simp only [gChain] at hg
  cases e1 : ga m with
  | none => simp [gSeq, e1] at hg
  | some r1 =>
    cases r1 with
    | ex C g' =>
      simp only [gSeq, e1] at hg
      cases hg
      exact sa c σ H m us _ _ hc E e1 hp
    | ok m1 =>
      simp only [gSeq, e1] at hg
      refine sa c σ H m us _ _ hc E e1 fun x H1 E1 => ?_
      split at hg
      · rename_i g1 v s1 h1
        refine sb c σ H1 m1 _ _ _ hc E1 h1 fun y H2 E2 => ?_
        have E2 : EnvOk K c σ H2 g1 (.tr (.a v) :: s1) (y :: x :: us) := E2
        have ey := top_a E2
        subst ey
        split at hg
        · rename_i g2 s2 h2
          refine hf.use hc E2 h2 fun z H3 E3 => ⟨true, top_bl E3, iteT ?_⟩
          have E4 : EnvOk K c σ H3 g2 (.tr (.a y) :: s2) (y :: us) := E3.drop.atom y
          split at hg
          · rename_i m3 h3
            exact sc c σ H3 ⟨g2, _⟩ _ _ _ hc E4 h3 fun w H4 E5 => hf'.use hc E5 hg hp
          · rename_i h3
            cases hg
            exact sc c σ H3 ⟨g2, _⟩ _ _ _ hc E4 h3 hp
          · cases hg
        · rename_i g2 s2 h2
          cases hg
          exact hf.use hc E2 h2 fun z H3 E3 => ⟨false, top_bl E3, iteF (hp _ _ (top_bl E3 ▸ E3))⟩
        · cases hg
      · rename_i h1
        cases hg
        exact sb c σ H1 m1 _ _ _ hc E1 h1 hp
      · cases hg
theorem mt_chain (ha : ME X T md W a ga) (hb : ME X T md W b gb) (hf : RA2 (kcm X.K T) md W r f) (hcc : ME X T md W cc gc) (hf' : RA2 (kcm X.K T) md W r' f') (hp : ∀ {ta tb tc : TE}, PE X a ta → PE X b tb → PE X cc tc → PT X e (tTest (tChain r r' ta tb tc))) : MT X T md W e (gChain ga gb f gc f') := by
  obtain ⟨ta, pa, sa⟩ := ha
  obtain ⟨tb, pb, sb⟩ := hb
  obtain ⟨tc, pc, sc⟩ := hcc
  exact ⟨_, hp pa pb pc, st_of (se_chain sa sb hf sc hf')⟩
/-! name = [..] -/
theorem ms_lc {k : Nat} (hs : ME X T md W iter gs) (ok : BlkOk X.N X.env.scope scope [(x, i)]) (hg : ∀ (s : Shared) (H : Hp) (C : Addr) (cl : List (Str × Addr)) (fp : List Addr), PG (X.blk s H scope (compEnvC scope cl C X.env) fp) tg (gName i))
    (ht : ∀ (s : Shared) (H : Hp) (C : Addr) (cl : List (Str × Addr)) (fp : List Addr), MT (X.blk s H scope (compEnvC scope cl C X.env) fp) T md WF cnd gt) (he : ∀ (s : Shared) (H : Hp) (C : Addr) (cl : List (Str × Addr)) (fp : List Addr), ME (X.blk s H scope (compEnvC scope cl C X.env) fp) T md WF elt ge)
    (hc : X.calm = true) (hN : X.N.Nodup) (hy : X.N[k]? = some y) (hyl : X.env.scope.names.lookup y = some .local) (hsw : swapsWith (.ListComp elt [⟨tg, iter, [cnd], 0⟩] scope pos) (some (.Name y py)) spos.line X.env = pure true) (hf : ∀ x, foldedSetIterable iter X.env x = pure x := by intro _; rfl) :
    MS X T md W (.Assign [.Name y py] (.ListComp elt [⟨tg, iter, [cnd], 0⟩] scope pos) spos) (sSet md k (gLc [i] gs (bind md i) gt ge)) := by
  obtain ⟨ti, pi, si⟩ := hs
  exact ms_asgOf (ps_setLc (te := wpE (kcm X.K T) md WF ge) (tt := wpT (kcm X.K T) md WF gt) hc hN hy hyl hsw (PI.or (pi_list pi) (pi_tup pi)) ok hg (fun s H C cl fp => pts_one (ht s H C cl fp).pt) (fun s H C cl fp => (he s H C cl fp).pe) hf) (se_lc si sgw_name st_wp se_wp)
theorem ms_lc0 {k : Nat} (hs : ME X T md W iter gs) (ok : BlkOk X.N X.env.scope scope [(x, i)]) (hg : ∀ (s : Shared) (H : Hp) (C : Addr) (cl : List (Str × Addr)) (fp : List Addr), PG (X.blk s H scope (compEnvC scope cl C X.env) fp) tg (gName i))
    (he : ∀ (s : Shared) (H : Hp) (C : Addr) (cl : List (Str × Addr)) (fp : List Addr), ME (X.blk s H scope (compEnvC scope cl C X.env) fp) T md WF elt ge)
    (hc : X.calm = true) (hN : X.N.Nodup) (hy : X.N[k]? = some y) (hyl : X.env.scope.names.lookup y = some .local) (hsw : swapsWith (.ListComp elt [⟨tg, iter, [], 0⟩] scope pos) (some (.Name y py)) spos.line X.env = pure true) (hf : ∀ x, foldedSetIterable iter X.env x = pure x := by intro _; rfl) :
    MS X T md W (.Assign [.Name y py] (.ListComp elt [⟨tg, iter, [], 0⟩] scope pos) spos) (sSet md k (gLc [i] gs (bind md i) (gC (.bl true)) ge)) := by
  obtain ⟨ti, pi, si⟩ := hs
  exact ms_asgOf (ps_setLc (te := wpE (kcm X.K T) md WF ge) hc hN hy hyl hsw (PI.or (pi_list pi) (pi_tup pi)) ok hg (fun s H C cl fp => pts_nil) (fun s H C cl fp => (he s H C cl fp).pe) hf) (se_lc si sgw_name st_yes se_wp)
theorem ms_lcR10 {k : Nat} (ha : MA X T md W [e] ga) (ok : BlkOk X.N X.env.scope scope [(x, i)]) (hg : ∀ (s : Shared) (H : Hp) (C : Addr) (cl : List (Str × Addr)) (fp : List Addr), PG (X.blk s H scope (compEnvC scope cl C X.env) fp) tg (gName i))
    (he : ∀ (s : Shared) (H : Hp) (C : Addr) (cl : List (Str × Addr)) (fp : List Addr), ME (X.blk s H scope (compEnvC scope cl C X.env) fp) T md WF elt ge)
    (hgl : Gl X "range") (hmg : X.mg "range" = none) (hc : X.calm = true) (hN : X.N.Nodup) (hy : X.N[k]? = some y) (hyl : X.env.scope.names.lookup y = some .local) (hsw : swapsWith (.ListComp elt [⟨tg, .Call (.Name "range" rp) [e] [] pos', [], 0⟩] scope pos) (some (.Name y py)) spos.line X.env = pure true) (hs : starEach [e] X.env = [(false, eval e X.env)] := by rfl) (hf : ∀ x, foldedSetIterable (.Call (.Name "range" rp) [e] [] pos') X.env x = pure x := by intro _; rfl) :
    MS X T md W (.Assign [.Name y py] (.ListComp elt [⟨tg, .Call (.Name "range" rp) [e] [] pos', [], 0⟩] scope pos) spos) (sSet md k (gLcR1 [i] ga (bind md i) (gC (.bl true)) ge)) := by
  obtain ⟨ti, pi, si⟩ := ha
  exact ms_asgOf (ps_setLc (te := wpE (kcm X.K T) md WF ge) hc hN hy hyl hsw (pi_range1 hgl hmg pi hs) ok hg (fun s H C cl fp => pts_nil) (fun s H C cl fp => (he s H C cl fp).pe) hf) (se_lcR1 si sgw_name st_yes se_wp)
theorem ms_lcR2 {k : Nat} (ha : MA X T md W [e, b] ga) (ok : BlkOk X.N X.env.scope scope [(x, i)]) (hg : ∀ (s : Shared) (H : Hp) (C : Addr) (cl : List (Str × Addr)) (fp : List Addr), PG (X.blk s H scope (compEnvC scope cl C X.env) fp) tg (gName i))
    (ht : ∀ (s : Shared) (H : Hp) (C : Addr) (cl : List (Str × Addr)) (fp : List Addr), MT (X.blk s H scope (compEnvC scope cl C X.env) fp) T md WF cnd gt) (he : ∀ (s : Shared) (H : Hp) (C : Addr) (cl : List (Str × Addr)) (fp : List Addr), ME (X.blk s H scope (compEnvC scope cl C X.env) fp) T md WF elt ge)
    (hgl : Gl X "range") (hmg : X.mg "range" = none) (hc : X.calm = true) (hN : X.N.Nodup) (hy : X.N[k]? = some y) (hyl : X.env.scope.names.lookup y = some .local) (hsw : swapsWith (.ListComp elt [⟨tg, .Call (.Name "range" rp) [e, b] [] pos', [cnd], 0⟩] scope pos) (some (.Name y py)) spos.line X.env = pure true) (hs : starEach [e, b] X.env = [(false, eval e X.env), (false, eval b X.env)] := by rfl) (hs2 : starEach [b] X.env = [(false, eval b X.env)] := by rfl) (hf : ∀ x, foldedSetIterable (.Call (.Name "range" rp) [e, b] [] pos') X.env x = pure x := by intro _; rfl) :
    MS X T md W (.Assign [.Name y py] (.ListComp elt [⟨tg, .Call (.Name "range" rp) [e, b] [] pos', [cnd], 0⟩] scope pos) spos) (sSet md k (gLcR2 [i] ga (bind md i) gt ge)) := by
  obtain ⟨ti, pi, si⟩ := ha
  exact ms_asgOf (ps_setLc (te := wpE (kcm X.K T) md WF ge) (tt := wpT (kcm X.K T) md WF gt) hc hN hy hyl hsw (pi_range2 hgl hmg pi hs hs2) ok hg (fun s H C cl fp => pts_one (ht s H C cl fp).pt) (fun s H C cl fp => (he s H C cl fp).pe) hf) (se_lcR2 si sgw_name st_wp se_wp)
def fAddI : GE := fP2 (FI cT fun i j => .int (i + j))
def fSubI : GE := fP2 (FI cT fun i j => .int (i - j))
theorem fAddI_ip : RA2 K md W (ipI fun i j => i + j) fAddI := fI_ok0 (h := fun i j => .int (i + j))
theorem fSubI_ip : RA2 K md W (ipI fun i j => i - j) fSubI := fI_ok0 (h := fun i j => .int (i - j))
theorem fAddI_r : RA2 K md W rAdd fAddI := fI_ok0 (h := fun i j => .int (i + j))
end
section
variable {K : KC} {X : Cx} {T : KT} {md mdc : List Bool} {W : WX} {c : Cz} {σ : St} {H : Hp} {us : List V} {i n j : Nat} {m : Ms} {g : GE} {e : Expr} {fl : Str} {tab : List (Nat × Nat)} {gT : TG} {tt : TT} {tk tv : TE} {cv : List Nat}
theorem PE.or {t1 t2 : TE} (h1 : PE X e t1) (h2 : PE X e t2) : PE X e (fun σ H Q => t1 σ H Q ∨ t2 σ H Q) := by
  refine ⟨fun pins s σ H Q I h => ?_⟩
  rcases h with h | h
  · exact h1.run pins s σ H Q I h
  · exact h2.run pins s σ H Q I h
theorem ObjAt.dnew {K : KC} {H : Hp} {a : Addr} {ks : List Key} {vs : List V} (hl : ks.length = vs.length) (h : H a = some (.dK (ks.zip vs))) (o : Ow) : ObjAt K (.dct ks) o H a vs := by
  cases o
  · exact ⟨hl, h⟩
  · exact ⟨hl, .inl h⟩
  · exact ⟨hl, .inl h⟩
/-- {.. for n in x.f}, the dict x.f being empty -/
def gDc0 (i : Nat) (tab : List (Nat × Nat)) : GE := fun m => match gSeq (gVar i) (fFld tab) m with
  | some (.ok ⟨_, e :: _⟩) => match viewE m.g e with
    | some (.nd (.dct []) _ []) => some (.ok ⟨m.g, .tr (.nd (.dct []) .own []) :: m.s⟩)
    | _ => none
  | _ => none
theorem me_dc0 (ht : FldOk X.K T fl tab) (hp : PE X e (tDc (iKeys (tFld X.K (tVar i) fl)) gT tt tk tv cv)) : ME X T md W e (gDc0 i tab) := by
  refine ⟨_, PE.or (pe_lock hp) hp, fun c σ H m us Q rr hc E hg hpo => ?_⟩
  unfold gDc0 at hg
  split at hg
  · rename_i g1 en s1 h1
    split at hg
    · rename_i o hv
      cases hg
      -- the slot and the field
      have key : ∃ x w', σ[i]? = some (some x) ∧ (∃ a nn dx fs, x = .ref a ∧ H a = some (.ins (T.ct nn) dx fs) ∧ Cls X.K (T.ct nn) ∧ NoAttr X.K (T.ct nn) fl ∧ fs.lookup fl = some w') ∧ g1 = m.g ∧ EnvOk (kcm X.K T) c σ H m.g (en :: s1) (w' :: us) := by
        simp only [gSeq] at h1
        split at h1
        · rename_i m0 h0
          have hx : ∃ x, σ[i]? = some (some x) ∧ EnvOk (kcm X.K T) c σ H m0.g m0.s (x :: us) ∧ m0.g = m.g := by
            simp only [gVar] at h0
            split at h0
            · rename_i t ht'
              by_cases hcp : cp t = true
              · rw [if_pos hcp] at h0
                cases h0
                obtain ⟨v, q1, E1⟩ := E.var ht' hcp
                exact ⟨v, q1, E1, rfl⟩
              · rw [if_neg hcp] at h0
                cases h0
                obtain ⟨v, q1, E1⟩ := E.varP ht'
                exact ⟨v, q1, E1, rfl⟩
            · rename_i p ht'
              cases h0
              obtain ⟨v, q1, E1⟩ := E.varA ht'
              exact ⟨v, q1, E1, rfl⟩
            · cases h0
          obtain ⟨x, q1, E1, eg⟩ := hx
          simp only [fFld] at h1
          split at h1
          · rename_i e0 s0 hs0
            split at h1
            · rename_i nn k o ts hv0
              split at h1
              · rename_i j hj
                split at h1
                · rename_i e' hk
                  cases h1
                  rw [hs0] at E1
                  obtain ⟨ad, vs, w', rfl, ho, hl, hw, E2⟩ := E1.kidOf hv0 hk
                  obtain ⟨l, dx, ho⟩ := ho
                  obtain ⟨c1, c2, c3⟩ := ht nn j (mem_lookup hj)
                  have hjk : j < k := by
                    have h1 := getq_lt' hw
                    have h2 : ((T.nm nn).take k).length = vs.length := l
                    rw [List.length_take] at h2
                    omega
                  refine ⟨_, w', q1, ⟨ad, nn, dx, _, rfl, ho, c1, c2, by rw [lookup_zip (idx_take c3 hjk) l]; exact hw⟩, eg, by rw [← eg]; exact E2⟩
                · cases h1
              · cases h1
            · cases h1
          · cases h1
        · rename_i h0
          exact absurd h1 (h0 _)
      obtain ⟨x, w', q1, ⟨a, nn, dx, fs, rfl, ha, c1, c2, lk⟩, rfl, E1⟩ := key
      obtain ⟨d, vs, rfl, ho, hl⟩ := viewObj E1 hv
      have ho : Rd H d (.dK []) := by
        have ho := ObjAt.rd ho
        have e0 : vs = [] := by simpa using hl.symm
        rw [e0] at ho
        simpa using ho.2
      have nad : a ≠ d := fun q => by rcases ho with z | ⟨_, z⟩ <;> rw [q, z] at ha <;> cases ha
      have key2 : ∀ (H1 : Hp) (od : Obj) (Q' : VK), H1 d = some (.frz od (.dK [])) → H1 a = H a → (∀ N, H1 N = none → H1 d = some (.frz od (.dK [])) ∧ Q' (.ref N) (upd H1 N (.dK []))) → tDc (iKeys (tFld X.K (tVar i) fl)) gT tt tk tv cv σ H1 Q' := by
        intro H1 od Q' hd hea hq
        refine ⟨_, q1, a, T.ct nn, dx, fs, .ref d, rfl, by rw [hea]; exact ha, c1, c2, lk, d, od, rfl, .inl ⟨[], hd, fun N hN => ?_⟩⟩
        have nNd : N ≠ d := fun q => by rw [q, hd] at hN; cases hN
        refine ⟨fun i mm H' => i = 0 ∧ H' = upd H1 N (.dK []), ⟨0, rfl, rfl⟩, ?_⟩
        rintro i mm H' ⟨rfl, rfl⟩
        exact .inl ⟨⟨by rw [upd_ne (Ne.symm nNd)]; exact hd, Nat.le_refl _⟩, (hq N hN).2⟩
      rcases ho with ho | ⟨od, ho⟩
      · refine .inl ⟨d, .dK [], ho, trivial, fun od => key2 _ od _ upd_same (upd_ne nad) fun N hN => ⟨upd_same, ?_⟩⟩
        have nNd : N ≠ d := fun q => by rw [q, upd_same] at hN; cases hN
        have hN0 : H N = none := by rw [upd_ne nNd] at hN; exact hN
        refine ⟨by rw [upd_ne (Ne.symm nNd), upd_same], ?_⟩
        have eH : upd (upd (upd H d (.frz od (.dK []))) N (.dK [])) d (.dK []) = upd H N (.dK []) := by
          funext b
          unfold upd
          by_cases h1 : b = d
          · subst h1
            simp [Ne.symm nNd, ho]
          · by_cases h2 : b = N
            · simp [h1, h2]
            · simp [h1, h2]
        rw [eH]
        exact hpo _ _ (EnvOk.new (ts := []) (vs := []) (k := .dct []) (τ := m.s) E rfl hN0 rfl (ObjAt.dnew rfl upd_same))
      · exact .inr (key2 H od Q ho rfl fun N hN => ⟨ho, hpo _ _ (EnvOk.new (ts := []) (vs := []) (k := .dct []) (τ := m.s) E rfl hN rfl (ObjAt.dnew rfl upd_same))⟩)
    · cases hg
  · cases hg
/-- {} -/
def gD0 : GE := fun m => some (.ok ⟨m.g, .tr (.nd (.dct []) .own []) :: m.s⟩)
theorem me_d0 {pos : Pos} : ME X T md W (.Dict [] [] pos) gD0 := by
  refine ⟨_, pe_dnewK, fun c σ H m us Q rr hc E hg hpo => ?_⟩
  cases hg
  exact fun p hp => hpo _ _ (EnvOk.new (ts := []) (vs := []) (k := .dct []) (τ := m.s) E rfl hp rfl (ObjAt.dnew rfl upd_same))
end
section
variable {K : KC} {X : Cx} {T : KT} {md mdc : List Bool} {W : WX} {c : Cz} {σ : St} {H H' : Hp} {Γ τ : List Ent} {us vs ws wq : List V} {v w wp : V} {p q r : List Nat} {t : Tr} {ts : List Tr} {i j n : Nat} {Z : Zn} {qs : List (List Nat)}
/-! defs that keep the addresses below a parameter of their own: ghosts are aliases that lie at the bottom of the stack -/
abbrev GG := List Tr → List (List Nat) → Option (Rt × List Ent)
def Gh (H : Hp) (vs : List V) (qs : List (List Nat)) (wq : List V) (es : List Ent) : Prop := ∀ (i : Nat) (q : List Nat), es[i]? = some (.al q) → qs[i]? = some q → ∃ w, wq[i]? = some w ∧ Raw H vs q w
def PostG (K : KC) (vs : List V) (H : Hp) (F S : Ps) (qs : List (List Nat)) (wq : List V) (Q : VK) (E : XK) : Rt × List Ent → Prop
  | (.rt r ts', es) => ∀ v H' S' F1, RepL K ⟨S', fun _ => False⟩ H' .own (r :: ts') (v :: vs) F1 → Cl H H' F S S' F1 → Gh H' vs qs wq es → Q v H'
  | (.ex C ts', _) => ∀ H' S' F1, RepL K ⟨S', fun _ => False⟩ H' .own ts' vs F1 → Cl H H' F S S' F1 → E (.ref (K.et C)) none H'
def spOfG (K : KC) (md : List Bool) (G : GG) : Sp := fun vs H Q E => ∃ (ts : List Tr) (Z : Zn) (F : Ps) (qs : List (List Nat)) (wq : List V) (o : Rt × List Ent), RepL K Z H .own ts vs F ∧ mdOk md ts = true ∧ (∀ b, F b → ¬ Z.fz b ∧ ¬ Z.ln b) ∧ (∀ b, Z.fz b ∨ Z.ln b → (H b).isSome = true) ∧ qs.length = wq.length ∧
  (∀ (i : Nat) (q : List Nat), qs[i]? = some q → (∃ w, wq[i]? = some w ∧ Raw H vs q w) ∧ (getP ts q).isSome = true ∧ ∃ h, q.head? = some h ∧ md[h]? = some true) ∧ G ts qs = some o ∧ PostG K vs H F Z.fz qs wq Q E o
def runG (md : List Bool) (N : Nat) (g : GS) : GG := fun ts qs => match g ⟨ts.map Ent.tr ++ List.replicate (N - ts.length) .no, qs.map Ent.al⟩ with
  | some (.nx m) => if escL (outP md m.g) = true then some (.rt (.a .non) (outP md m.g), m.s) else none
  | some (.rt t m) => if esc t = true ∧ escL (outP md m.g) = true then some (.rt t (outP md m.g), m.s) else none
  | some (.ex C g') => if escL (outP md g') = true then some (.ex C (outP md g'), []) else none
  | _ => none
theorem Raw.app {xs : List V} : ∀ {q : List Nat} {vs : List V} {w : V}, Raw H vs q w → Raw H (vs ++ xs) q w
  | [], _, _, h => h
  | [i], vs, w, h => by
    have h : vs[i]? = some w := h
    show (vs ++ xs)[i]? = some w
    rw [List.getElem?_append_left (getq_lt' h)]
    exact h
  | i :: j :: q, vs, w, h => by
    obtain ⟨v, us, e, kd, h⟩ := h
    exact ⟨v, us, by rw [List.getElem?_append_left (getq_lt' e)]; exact e, kd, h⟩
theorem Raw.headEq {i : Nat} {q : List Nat} (h : Raw H ws (i :: q) w) (e : ws[i]? = vs[i]?) : Raw H vs (i :: q) w := by
  match q, h with
  | [], h =>
    show vs[i]? = some w
    rw [← e]
    exact h
  | j :: q, h =>
    obtain ⟨v, us, e1, kd, h⟩ := h
    exact ⟨v, us, by rw [← e]; exact e1, kd, h⟩
theorem startG_ok {N : List Str} {F : Ps} (r : RepL K Z H .own ts vs F) (hl : ts.length ≤ N.length) (hmd : md.length = ts.length) (zo : ∀ b, F b → ¬ Z.fz b ∧ ¬ Z.ln b) (zs : ∀ b, Z.fz b ∨ Z.ln b → (H b).isSome = true) (hq : qs.length = wq.length) (gh : ∀ (i : Nat) (q : List Nat), qs[i]? = some q → (∃ w, wq[i]? = some w ∧ Raw H vs q w) ∧ (getP ts q).isSome = true) :
    EnvOk K ⟨H, F, Z.fz, md, vs⟩ (start N vs) H (ts.map Ent.tr ++ List.replicate (N.length - ts.length) .no) (qs.map Ent.al) wq := by
  have E := start_ok (K := K) (N := N) (md := md) r hl hmd zo zs
  -- the slots' values are the arguments', then nothing
  have key : ∀ (l : List (List Nat)) (u : List V), l.length = u.length → (∀ (i : Nat) (q : List Nat), l[i]? = some q → (∃ w, u[i]? = some w ∧ Raw H vs q w) ∧ (getP ts q).isSome = true) → EnvOk K ⟨H, F, Z.fz, md, vs⟩ (start N vs) H (ts.map Ent.tr ++ List.replicate (N.length - ts.length) .no) (l.map Ent.al) u := by
    intro l
    induction l with
    | nil =>
      intro u hu _
      match u, hu with
      | [], _ => exact E
    | cons q l ih =>
      intro u hu hg
      match u, hu with
      | x :: u, hu =>
        have h0 := hg 0 q rfl
        obtain ⟨w, e0, raw⟩ := h0.1
        cases e0
        have E1 := ih u (by simpa using hu) fun i q' hi => by simpa using hg (i + 1) q' (by simpa using hi)
        have hg0 : (getG (ts.map Ent.tr ++ List.replicate (N.length - ts.length) .no) q).isSome = true := by
          match q, h0.2 with
          | i :: q, h2 =>
            have hi : ∃ y, ts[i]? = some y := by
              cases e : ts[i]? with
              | some y => exact ⟨y, rfl⟩
              | none => cases q <;> simp [getP, e] at h2
            obtain ⟨y, hy⟩ := hi
            rw [getP_getT hy] at h2
            simp only [getG]
            rw [List.getElem?_append_left (by simpa using getq_lt' hy), List.getElem?_map, hy]
            exact h2
          | [], h2 => simp [getP] at h2
        refine E1.pushA (fun ws2 Z2 Φ2 Ψ2 EE => ?_) hg0
        -- ws2 has the arguments' values, read off the slots
        match q, raw, h0.2 with
        | i :: q, raw, h2 =>
          refine raw.headEq ?_
          have hi : ∃ y, ts[i]? = some y := by
            cases e : ts[i]? with
            | some y => exact ⟨y, rfl⟩
            | none => cases q <;> simp [getP, e] at h2
          obtain ⟨y, hy⟩ := hi
          have hlt := getq_lt' hy
          have lt := RepL.len _ r
          obtain ⟨x1, x2, x3⟩ := EE.so i (.tr y) (by rw [List.getElem?_append_left (by simpa using hlt), List.getElem?_map, hy]; rfl)
          have es : (start N vs)[i]? = some (some vs[i]) := by
            show (vs.map some ++ List.replicate (N.length - vs.length) none)[i]? = _
            rw [List.getElem?_append_left (by simp; omega)]
            simp [show i < vs.length by omega]
          rw [es] at x3
          cases x3
          rw [x2, List.getElem?_eq_getElem (by omega)]
        | [], raw, _ => exact raw
  exact key qs wq hq gh
theorem gh_ok {F S : Ps} {H0 : Hp} {es : List Ent} (E : EnvOk K ⟨H0, F, S, md, vs⟩ σ H' Γ es wq) (hq : ∀ (i : Nat) (q : List Nat), qs[i]? = some q → ∃ h, q.head? = some h ∧ md[h]? = some true) : Gh H' vs qs wq es := by
  obtain ⟨Z, ws, Φ, Ψ, EE⟩ := E
  intro i q hi hqi
  obtain ⟨w, e1, raw, _⟩ := EE.to i q hi
  obtain ⟨h, hh, hm⟩ := hq i q hqi
  refine ⟨w, e1, ?_⟩
  match q, hh, raw with
  | x :: q, hh, raw =>
    cases hh
    exact raw.headEq (EE.pv _ hm)
variable {P : Program} {Wd : World} {Kf : PySem.W.Frag} {mg : Str → Option Value} {base : Heap}
theorem fn_simG {x qual : Str} {st : Stmt} {f : Addr} {fd : FuncData} {N ps : List Str} {k : Nat} {g : GS} (F : Fun Kf x qual st f fd) (S : FnScope N ps (defScope st)) (hps : ps.length = md.length) (hN : ps.length ≤ N.length)
    (body : ∀ (cdv : Value) (A : Around) (outer : List Env) (s : Shared) (H : Hp) (E : XK), Room k (A.deeper (PyProof.Rows.envOfC qual (defScope st) s.heap.objs.size f cdv)) →
      MSs (cxOf (L2N.CX P Wd) P Wd Kf mg base N qual (defScope st) f cdv A outer s H E) T md (fun cls d _ H => E cls d H) (defBody st) g) :
    FnOk P Wd Kf mg base (L2N.CX P Wd) (k + 1) f fd ps (spOfG (kcm Kf T) md (runG md N.length g)) := by
  obtain ⟨oc, od, kV, doc, pm, an, cdv, ct, osl, rfl, inK, cdOk⟩ := F.ex
  refine fn_of inK cdOk S (fun vs H Q E h => ?_) (fun A outer s H vs Q E hr h => ?_)
  · obtain ⟨ts, Z, F, qs, wq, o, r, hm, _⟩ := h
    have h1 := RepL.len _ r
    have h2 := mdOk_len hm
    omega
  · obtain ⟨ts, Z, F, qs, wq, o, r, hm, zo, zs, hlq, gh, hG, hp⟩ := h
    have h1 := RepL.len _ r
    have h2 := mdOk_len hm
    obtain ⟨t, pt, sim⟩ := body cdv A outer s H E hr
    refine ⟨t, pt, ?_⟩
    have E0 := startG_ok (K := kcm Kf T) (N := N) (md := md) r (by omega) h2 zo zs hlq fun i q hi => ⟨(gh i q hi).1, (gh i q hi).2.1⟩
    have ghh : ∀ (i : Nat) (q : List Nat), qs[i]? = some q → ∃ h, q.head? = some h ∧ md[h]? = some true := fun i q hi => (gh i q hi).2.2
    simp only [runG] at hG
    cases hg : g ⟨ts.map Ent.tr ++ List.replicate (N.length - ts.length) .no, qs.map Ent.al⟩ with
    | none => simp [hg] at hG
    | some oo =>
      refine sim ⟨H, F, Z.fz, md, vs⟩ (start N vs) H ⟨ts.map Ent.tr ++ List.replicate (N.length - ts.length) Ent.no, qs.map Ent.al⟩ wq _ oo rfl E0 hg ?_
      cases oo with
      | nx m =>
        simp only [hg] at hG
        split at hG
        · rename_i he
          cases hG
          intro σ' H' E1
          obtain ⟨S', F1, r1, cl⟩ := exit_ok (RepL.isS _ r) (by omega) (E1.dropAll.atom .non) (by simp [escL, esc, Ent.tree]) he
          exact hp .non H' S' F1 r1 cl (gh_ok E1 ghh)
        · cases hG
      | rt tt m =>
        simp only [hg] at hG
        split at hG
        · rename_i he
          cases hG
          intro σ' v H' E1
          have l1 := tail_len E1
          have E2 : EnvOk (kcm Kf T) ⟨H, F, Z.fz, md, vs⟩ σ' H' m.g [.tr tt] [v] := by
            have := EnvOk.permA (A := [.tr tt]) (B := m.s) (τ := []) (va := [v]) (vb := wq) (us := []) rfl (by simpa using l1) (by simpa using E1)
            exact EnvOk.dropN (by simpa using l1) this
          obtain ⟨S', F1, r1, cl⟩ := exit_ok (RepL.isS _ r) (by omega) E2 (by simp [escL, Ent.tree, he.1]) he.2
          exact hp v H' S' F1 r1 cl (gh_ok E1.drop ghh)
        · cases hG
      | ex C g' =>
        simp only [hg] at hG
        split at hG
        · rename_i he
          cases hG
          intro σ' H' E1
          obtain ⟨S', F1, r1, cl⟩ := exit_ok (RepL.isS _ r) (by omega) E1 (by simp [escL]) he
          exact hp H' S' F1 r1 cl
        · cases hG
      | bk m => simp [hg] at hG
      | ct m => simp [hg] at hG
/-- an alias below a place that is held on top comes back -/
theorem EnvOk.reAl (E : EnvOk K c σ H Γ (.al p :: τ) (wp :: us)) (hr : Raw H [wp] (0 :: r) w) (hne : r ≠ []) (hi : σ[i]? = some (some w)) (hn : Γ[i]? = some .no) (hg : (getG Γ (p ++ r)).isSome = true) : EnvOk K c σ H (Γ.set i (.al (p ++ r))) (.al p :: τ) (wp :: us) := by
  obtain ⟨Z, ws, Φ, Ψ, sl, tm, dj, so, to, ln, zo, zf, z0, zs, st, pv⟩ := E
  obtain ⟨w0, e0, raw0, g0⟩ := to 0 p rfl
  cases e0
  have hil := getq_lt' hn
  have et : trees (Γ.set i (.al (p ++ r))) = trees Γ := by
    simp only [trees, List.map_set]
    exact set_same (by simp [hn, Ent.tree])
  have gg : ∀ {q : List Nat}, (getG Γ q).isSome = true → (getG (Γ.set i (.al (p ++ r))) q).isSome = true := fun {q} h => by
    cases q with
    | nil => simp [getG] at h
    | cons x q =>
      obtain ⟨y, hy⟩ := head_tr h
      have : i ≠ x := fun e => by subst e; rw [hn] at hy; cases hy
      simp only [getG] at h ⊢
      rw [List.getElem?_set_ne this]
      exact h
  have rawj : Raw H ws (p ++ r) w := by
    match r, hne, hr with
    | j :: r, _, hr =>
      obtain ⟨v, us2, e, kd, h⟩ := hr
      have e : wp = v := by simpa using e
      subst e
      exact raw0.join kd h
  refine ⟨Z, ws, Φ, Ψ, ⟨by rw [et]; exact sl, tm, dj, fun j e he => ?_, fun j q hj => ?_, by simp [ln], zo, zf, z0, zs, st, pv⟩⟩
  · by_cases hj : i = j
    · subst hj
      rw [List.getElem?_set_self hil] at he
      cases he
      exact ⟨w, hi, rawj, gg hg⟩
    · rw [List.getElem?_set_ne hj] at he
      have h1 := so j e he
      cases e with
      | no => trivial
      | tr x => exact h1
      | al q =>
        obtain ⟨x1, x2, x3, x4⟩ := h1
        exact ⟨x1, x2, x3, gg x4⟩
  · obtain ⟨w1, s1, s2, s3⟩ := to j q hj
    exact ⟨w1, s1, s2, gg s3⟩
end
section
variable {K : KC} {X : Cx} {T : KT} {md mdc : List Bool} {W : WX} {c : Cz} {σ : St} {H H' : Hp} {Γ τ : List Ent} {us vs ws wq : List V} {v w wp : V} {p q r : List Nat} {t : Tr} {ts : List Tr} {i j n : Nat} {Z : Zn} {qs : List (List Nat)} {Φ Ψ : Ps} {m m' : Ms} {G : GG}
def rel : List Nat → List Nat → Option (List Nat)
  | [], r => some r
  | _, [] => none
  | i :: p, j :: q => if i = j then rel p q else none
theorem rel_eq : ∀ {p q r : List Nat}, rel p q = some r → q = p ++ r
  | [], q, r, h => by simpa [rel] using h
  | i :: p, [], r, h => by simp [rel] at h
  | i :: p, j :: q, r, h => by
    simp only [rel] at h
    split at h
    · rename_i e
      rw [e, rel_eq h]
      rfl
    · cases h
def ghosts (p : List Nat) : Nat → List Ent → List (Nat × List Nat)
  | _, [] => []
  | i, .al q :: es => match rel p q with
    | some (j :: r) => (i, j :: r) :: ghosts p (i + 1) es
    | _ => ghosts p (i + 1) es
  | i, .no :: es => ghosts p (i + 1) es
  | i, .tr _ :: es => ghosts p (i + 1) es
theorem ghosts_at : ∀ {es : List Ent} {k : Nat} {x : Nat × List Nat}, x ∈ ghosts p k es → k ≤ x.1 ∧ es[x.1 - k]? = some (.al (p ++ x.2)) ∧ x.2 ≠ []
  | [], k, x, h => by simp [ghosts] at h
  | e :: es, k, x, h => by
    have step : x ∈ ghosts p (k + 1) es → k ≤ x.1 ∧ (e :: es)[x.1 - k]? = some (.al (p ++ x.2)) ∧ x.2 ≠ [] := fun h => by
      obtain ⟨h1, h2, h3⟩ := ghosts_at h
      refine ⟨by omega, ?_, h3⟩
      rw [show x.1 - k = (x.1 - (k + 1)) + 1 by omega]
      simpa using h2
    cases e with
    | no => exact step (by simpa [ghosts] using h)
    | tr _ => exact step (by simpa [ghosts] using h)
    | al q =>
      simp only [ghosts] at h
      split at h
      · rename_i j r hr
        rcases List.mem_cons.mp h with z | z
        · subst z
          refine ⟨Nat.le_refl _, ?_, by simp⟩
          simp [rel_eq hr]
        · exact step z
      · exact step h
def reAls (p : List Nat) : List (Nat × List Nat) → List Ent → List Ent → List Ent
  | (i, r) :: gl, Ent.al q :: es, Γ => match Γ[i]?, (getG Γ (p ++ r)).isSome, decide (q = 0 :: r) with
    | some .no, true, true => reAls p gl es (Γ.set i (Ent.al (p ++ r)))
    | _, _, _ => reAls p gl es Γ
  | _ :: gl, _ :: es, Γ => reAls p gl es Γ
  | _, _, Γ => Γ
theorem reAls_ok : ∀ {gl : List (Nat × List Nat)} {es : List Ent} {Γ : List Ent}, EnvOk K c σ H Γ (Ent.al p :: τ) (wp :: us) → (∀ (k i : Nat) (r q : List Nat), gl[k]? = some (i, r) → es[k]? = some (Ent.al q) → q = 0 :: r → r ≠ [] ∧ ∃ w, σ[i]? = some (some w) ∧ Raw H [wp] (0 :: r) w) → EnvOk K c σ H (reAls p gl es Γ) (Ent.al p :: τ) (wp :: us)
  | [], es, Γ, E, _ => by cases es <;> exact E
  | x :: gl, [], Γ, E, _ => E
  | (i, r) :: gl, e :: es, Γ, E, h => by
    have next : ∀ (k i : Nat) (r q : List Nat), gl[k]? = some (i, r) → es[k]? = some (Ent.al q) → q = 0 :: r → r ≠ [] ∧ ∃ w, σ[i]? = some (some w) ∧ Raw H [wp] (0 :: r) w := fun k i r q h1 h2 h3 => h (k + 1) i r q (by simpa using h1) (by simpa using h2) h3
    cases e with
    | no => exact (by simp only [reAls]; exact reAls_ok (gl := gl) (es := es) E next)
    | tr _ => exact (by simp only [reAls]; exact reAls_ok (gl := gl) (es := es) E next)
    | al q =>
      unfold reAls
      split
      · rename_i h1 h2 h3
        have hq : q = 0 :: r := of_decide_eq_true h3
        obtain ⟨hne, w, hw, raw⟩ := h 0 i r q rfl rfl hq
        exact reAls_ok (E.reAl raw hne hw h1 h2) next
      · exact reAls_ok E next
theorem call_core {ents s : List Ent} (EE : Ev K c Z ws Φ Ψ σ H Γ (ents.reverse ++ s) (vs.reverse ++ us)) (l : ents.length = vs.length) (h : argT Γ mdc ents = some ts) :
    ∃ (Zc : Zn) (F : Ps), Zc.fz = Z.fz ∧ RepL K Zc H .own ts vs F ∧ mdOk mdc ts = true ∧ (∀ b, F b → ¬ Zc.fz b ∧ ¬ Zc.ln b) ∧ (∀ b, Zc.fz b ∨ Zc.ln b → (H b).isSome = true) ∧
      (∀ r ts' v H' S' F1, RepL K ⟨S', fun _ => False⟩ H' .own (r :: ts') (v :: vs) F1 → Cl H H' F Z.fz S' F1 → ts'.length = vs.length ∧ EnvOk K c σ H' Γ (.tr r :: (ts'.map .tr ++ s)) (v :: (vs ++ us))) ∧
      (∀ ts' H' S' F1, RepL K ⟨S', fun _ => False⟩ H' .own ts' vs F1 → Cl H H' F Z.fz S' F1 → ts'.length = vs.length ∧ EnvOk K c σ H' Γ (ts'.map .tr ++ s) (vs ++ us)) := by
  have tm' : RepL K Z H .own (trees ents.reverse ++ trees s) (vs.reverse ++ us) Ψ := by simpa [trees] using EE.tm
  obtain ⟨v1, v2, Ψ1, Ψ2, e, r1, r2, d, u⟩ := RepL.split _ tm'
  have hl1 := RepL.len _ r1
  have hlt : (trees ents.reverse).length = ents.length := by simp [trees]
  obtain ⟨rfl, rfl⟩ := List.append_inj e (by simp; omega)
  have r0 : RepL K Z H .own (trees ents) vs Ψ1 := by
    have := RepL.reverse _ r1
    have e2 : (trees ents.reverse).reverse = trees ents := by simp [trees]
    rwa [e2, List.reverse_reverse] at this
  obtain ⟨m1, F, R, u2, d2, bld⟩ := argT_ok (Φ := Φ) (Γ := Γ) r0 (fun i p v t a b g => by
    have hi : i < ents.length := getq_lt' a
    have a' : (ents.reverse ++ s)[ents.length - 1 - i]? = some (.al p) := by
      rw [List.getElem?_append_left (by simp; omega), List.getElem?_reverse (by omega), show ents.length - 1 - (ents.length - 1 - i) = i by omega]
      exact a
    obtain ⟨w, b', raw, gs⟩ := EE.to _ p a'
    rw [List.getElem?_append_left (by simp; omega), List.getElem?_reverse (by omega), show vs.length - 1 - (ents.length - 1 - i) = i by omega, b] at b'
    cases b'
    obtain ⟨w', Φ1, Φ2, raw', r, _, uu, _⟩ := RepL.path EE.sl (p := p) (t := t) (by rw [getG_getP gs]; exact g)
    cases raw.fn raw'
    exact ⟨Φ1, r, fun b q => (uu b).mpr (.inl q)⟩) h
  have hsF := RepL.isS _ EE.sl
  have hsT := RepL.isS _ EE.tm
  refine ⟨⟨Z.fz, fun b => Z.ln b ∨ R b ∨ Φ b⟩, F, rfl, bld _ (fun _ h => h) (fun _ h => h), m1, fun b q => ?_, fun b q => ?_, ?_⟩
  · have h1 := EE.zo b (.inr ((u b).mpr (.inl ((u2 b).mpr (.inl q)))))
    refine ⟨h1.2.1, fun z => ?_⟩
    rcases z with z | z | z
    · exact h1.2.2 z
    · exact d2 b ⟨q, z⟩
    · exact EE.dj b ⟨z, (u b).mpr (.inl ((u2 b).mpr (.inl q)))⟩
  · rcases q with q | q | q | q
    · exact EE.zs b (.inl q)
    · exact EE.zs b (.inr q)
    · exact hsT b ((u b).mpr (.inl ((u2 b).mpr (.inr q))))
    · exact hsF b q
  · have chg : ∀ {H' : Hp} {S' F1 : Ps}, Cl H H' F Z.fz S' F1 → Chg Z ⟨S', Z.ln⟩ H H' Ψ1 F1 := fun {H' S' F1} cl => by
      have zF : ∀ b, F b → ¬ Z.fz b ∧ ¬ Z.ln b := fun b q => (EE.zo b (.inr ((u b).mpr (.inl ((u2 b).mpr (.inl q)))))).2
      refine ⟨cl.s0, fun _ h => h, fun b q => ?_, fun b q => .inl q, fun b q => ?_, fun b ob e n => cl.ob b ob e (fun q => n ((u2 b).mpr (.inl q))), fun b q => ?_, fun b q => ?_⟩
      · rcases cl.s1 b q with z | z | z
        · exact .inl z
        · exact .inr (.inl ((u2 b).mpr (.inl z)))
        · exact .inr (.inr z)
      · rcases q with q | q
        · exact cl.ss b q
        · obtain ⟨ob, e⟩ := Option.isSome_iff_exists.mp (EE.zs b (.inr q))
          rw [cl.ob b ob e fun z => (zF b z).2 q]
          rfl
      · by_cases z : F b
        · exact cl.oc b z
        · obtain ⟨ob, e⟩ := Option.isSome_iff_exists.mp (hsT b ((u b).mpr (.inl q)))
          rw [cl.ob b ob e z]
          rfl
      · have h1 := cl.nw b q
        refine ⟨h1.1.imp (fun z => (u2 b).mpr (.inl z)) id, h1.2, fun z => ?_⟩
        rcases h1.1 with y | y
        · exact (zF b y).2 z
        · have := EE.zs b (.inr z)
          rw [y] at this
          cases this
    have mono : ∀ {H' : Hp} {S' F1 : Ps} {xs : List Tr} {ys : List V}, RepL K ⟨S', fun _ => False⟩ H' .own xs ys F1 → RepL K ⟨S', Z.ln⟩ H' .own xs ys F1 := fun {H' S' F1 xs ys} r => RepL.fr _ r ⟨fun _ h => h, fun _ h => h.elim, fun _ _ _ h => h, fun _ _ h => h⟩
    refine ⟨fun r ts' v H' S' F1 rr cl => ?_, fun ts' H' S' F1 rr cl => ?_⟩
    · have hlen : ts'.length = vs.length := by have := RepL.len _ rr; simpa using this
      refine ⟨hlen, ?_⟩
      exact EE.swapX (τ1' := .tr r :: ts'.map .tr) (us1' := v :: vs) (by simp; omega) (by simp) r1 r2 d u (by
        have := mono rr
        have et : trees (.tr r :: ts'.map .tr) = r :: ts' := by
          have := trees_tr (ts := ts')
          simp only [trees, List.map_cons] at this ⊢
          rw [this]
          rfl
        rw [et]
        exact this) (chg cl) (by simp [hlen])
    · have hlen : ts'.length = vs.length := by have := RepL.len _ rr; simpa using this
      refine ⟨hlen, ?_⟩
      exact EE.swapX (τ1' := ts'.map .tr) (us1' := vs) (by simp; omega) (by simp) r1 r2 d u (by rw [trees_tr]; exact mono rr) (chg cl) (by simp [hlen])
/-- what is handed to such a def -/
theorem callG_ok {ents s : List Ent} {o : Rt × List Ent} {Q : VK} {E : XK} (EE : Ev K c Z ws Φ Ψ σ H Γ (ents.reverse ++ s) (vs.reverse ++ us)) (l : ents.length = vs.length) (h : argT Γ mdc ents = some ts) (hq : qs.length = wq.length)
    (gh : ∀ (i : Nat) (q : List Nat), qs[i]? = some q → (∃ w, wq[i]? = some w ∧ Raw H vs q w) ∧ (getP ts q).isSome = true ∧ ∃ h, q.head? = some h ∧ mdc[h]? = some true) (hG : G ts qs = some o)
    (post : match o with
      | (.rt r ts', es) => ∀ v H', ts'.length = vs.length → Gh H' vs qs wq es → EnvOk K c σ H' Γ (.tr r :: (ts'.map .tr ++ s)) (v :: (vs ++ us)) → Q v H'
      | (.ex C ts', _) => ∀ H', ts'.length = vs.length → EnvOk K c σ H' Γ (ts'.map .tr ++ s) (vs ++ us) → E (.ref (K.et C)) none H') : spOfG K mdc G vs H Q E := by
  obtain ⟨Zc, F, ez, r0, m0, zo, zs, c1, c2⟩ := call_core EE l h
  refine ⟨ts, Zc, F, qs, wq, o, r0, m0, zo, zs, hq, gh, hG, ?_⟩
  obtain ⟨o1, es⟩ := o
  cases o1 with
  | rt r ts' =>
    intro v H' S' F1 rr cl g
    rw [ez] at cl
    obtain ⟨x1, x2⟩ := c1 r ts' v H' S' F1 rr cl
    exact post v H' x1 g x2
  | ex C ts' =>
    intro H' S' F1 rr cl
    rw [ez] at cl
    obtain ⟨x1, x2⟩ := c2 ts' H' S' F1 rr cl
    exact post H' x1 x2
/-- a call of a def whose first argument is its own and stands at a place; aliases below that place live on -/
def gCallG (mdc : List Bool) (G : GG) (n : Nat) : GE := fun m => match m.s[n - 1]? with
  | some (.al p) => match extAt (n - 1) n m with
    | some m1 => match argT m1.g mdc (m1.s.take n).reverse, mdc[0]? with
      | some ts, some true => if ((ghosts p 0 m.g).all fun x => (getP ts (0 :: x.2)).isSome) = true then match G ts ((ghosts p 0 m.g).map fun x => 0 :: x.2) with
        | some (.rt r ts', es) => match resAt 2 0 n ⟨m1.g, .al p :: .tr r :: (ts'.map .tr ++ m1.s.drop n)⟩ with
          | some m2 => match m2.s with
            | .al p2 :: s2 => if p2 = p then some (.ok ⟨reAls p (ghosts p 0 m.g) es m2.g, s2.take 1 ++ s2.drop n⟩) else none
            | _ => none
          | none => none
        | some (.ex C ts', _) => match resAt 0 0 n ⟨m1.g, ts'.map .tr ++ m1.s.drop n⟩ with
          | some m2 => some (.ex C m2.g)
          | none => none
        | none => none
        else none
      | _, _ => none
    | none => none
  | _ => none
def slv (σ : St) (i : Nat) : V := match σ[i]? with
  | some (some w) => w
  | _ => .non
theorem extAt_al (h : extAt i n m = some m') (hp : m.s[i]? = some (.al p)) (hi : i < n) (hn : n ≤ m.s.length) : m'.s[n]? = some (.al p) := by
  unfold extAt at h
  rw [hp] at h
  simp only at h
  split at h
  · cases h
    have ls : (kill p (m.s.eraseIdx i)).length = m.s.length - 1 := by simp [kill, List.length_eraseIdx]; omega
    generalize kill p (m.s.eraseIdx i) = s' at *
    simp only
    rw [List.getElem?_append_right (by simp; omega)]
    have e1 : n - (s'.take i).length = (n - 1 - i) + 1 := by simp; omega
    rw [e1, List.getElem?_cons_succ, List.getElem?_append_right (by simp; omega)]
    have e2 : n - 1 - i - ((s'.drop i).take (n - 1 - i)).length = 0 := by simp; omega
    rw [e2]
    rfl
  · cases h
theorem gCallG_ok (hn0 : 0 < n) : RA K md W n (fun σ vs H Q => spOfG K mdc G vs H Q (fun cls d H => W cls d σ H)) (gCallG mdc G n) := by
  intro c σ H m us vs Q rr hc hl E hf hp
  unfold gCallG at hf
  split at hf
  · rename_i p hpn
    split at hf
    · rename_i m1 h1
      have hlE := tail_len E
      obtain ⟨wp, hwp, E1⟩ := extAt_ok E (by omega) (by simp; omega) h1
      have hwv : vs[0]? = some wp := by
        rw [List.getElem?_append_left (by simp; omega), List.getElem?_reverse (by omega), show vs.length - 1 - (n - 1) = 0 by omega] at hwp
        exact hwp
      have e1 : (vs.reverse ++ us).take n = vs.reverse := by rw [List.take_append_of_le_length (by simp; omega)]; exact List.take_of_length_le (by simp; omega)
      have e2 : (vs.reverse ++ us).drop n = us := by rw [List.drop_append_of_le_length (by simp; omega), List.drop_of_length_le (by simp; omega)]; rfl
      rw [e1, e2] at E1
      have hal := extAt_al h1 hpn (by omega) (by rw [hlE]; simp; omega)
      split at hf
      · rename_i ts hts hmd
        split at hf
        · rename_i hall
          have hlen := tail_len E1
          have hn : n ≤ m1.s.length := by rw [hlen]; simp; omega
          have es : m1.s = (m1.s.take n).reverse.reverse ++ m1.s.drop n := by rw [List.reverse_reverse, List.take_append_drop]
          -- the ghosts' values
          have raws : ∀ x ∈ ghosts p 0 m.g, σ[x.1]? = some (some (slv σ x.1)) ∧ Raw H vs (0 :: x.2) (slv σ x.1) ∧ x.2 ≠ [] := by
            intro x hx
            obtain ⟨_, h2, h3⟩ := ghosts_at hx
            obtain ⟨Z, ws, Φ, Ψ, EE⟩ := E
            obtain ⟨w1, y1, y2, y3⟩ := EE.to _ p hpn
            rw [hwp] at y1
            cases y1
            obtain ⟨w, z1, z2, z3⟩ := EE.so _ _ h2
            have z1 : σ[x.1]? = some (some w) := by simpa using z1
            have ev : slv σ x.1 = w := by simp [slv, z1]
            rw [ev]
            refine ⟨z1, ?_, h3⟩
            obtain ⟨xi, xr⟩ := x
            match xr, h3, z2 with
            | j :: r, _, z2 =>
              have pne : p ≠ [] := fun e => by subst e; exact y2
              obtain ⟨wp', us', k1, k2, k3⟩ := z2.split pne
              cases y2.fn k1
              exact ⟨wp, us', hwv, k2, k3⟩
          have gq : ∀ (i : Nat) (q : List Nat), ((ghosts p 0 m.g).map fun x => 0 :: x.2)[i]? = some q → (∃ w, ((ghosts p 0 m.g).map fun x => slv σ x.1)[i]? = some w ∧ Raw H vs q w) ∧ (getP ts q).isSome = true ∧ ∃ h, q.head? = some h ∧ mdc[h]? = some true := by
            intro i q hi
            rw [List.getElem?_map] at hi
            cases hx : (ghosts p 0 m.g)[i]? with
            | none => simp [hx] at hi
            | some x =>
              simp only [hx, Option.map_some, Option.some.injEq] at hi
              subst hi
              have hm := List.mem_of_getElem? hx
              exact ⟨⟨slv σ x.1, by simp [hx], (raws x hm).2.1⟩, List.all_eq_true.mp hall x hm, 0, rfl, hmd⟩
          obtain ⟨Z, ws, Φ, Ψ, EE⟩ := E1
          split at hf
          · rename_i r ts' ens hG
            split at hf
            · rename_i m2 h2
              split at hf
              · rename_i p2 s2 hs2
                split at hf
                · rename_i hpp
                  subst hpp
                  cases hf
                  refine callG_ok (ents := (m1.s.take n).reverse) (s := m1.s.drop n) (o := (.rt r ts', ens)) (wq := (ghosts p2 0 m.g).map fun x => slv σ x.1) (es ▸ EE) (by simp; omega) hts (by simp) gq hG ?_
                  intro v H' l' hgh E2
                  -- the place once more
                  have hd0 : (m1.s.drop n) = .al p2 :: m1.s.drop (n + 1) := by
                    rw [List.drop_eq_getElem_cons (getq_lt' hal), (List.getElem?_eq_some_iff.mp hal).2]
                  have E2b : EnvOk K c σ H' m1.g (.al p2 :: .tr r :: (ts'.map .tr ++ m1.s.drop n)) (wp :: v :: (vs ++ (wp :: us))) := by
                    have hg : (getG m1.g p2).isSome = true := by
                      obtain ⟨_, _, _, _, EE2⟩ := E2
                      obtain ⟨_, _, _, h3⟩ := EE2.to (1 + n) p2 (by rw [Nat.add_comm, List.getElem?_cons_succ, List.getElem?_append_right (by simp; omega), hd0]; simp [l', hl])
                      exact h3
                    refine E2.pushA (fun ws2 Z2 Φ2 Ψ2 EE2 => ?_) hg
                    obtain ⟨w3, k1, k2, k3⟩ := EE2.to (1 + n) p2 (by rw [Nat.add_comm, List.getElem?_cons_succ, List.getElem?_append_right (by simp; omega), hd0]; simp [l', hl])
                    have : w3 = wp := by
                      rw [Nat.add_comm, List.getElem?_cons_succ, List.getElem?_append_right (by omega), hl, Nat.sub_self] at k1
                      simpa using k1.symm
                    exact this ▸ k2
                  have E3 := resAt_ok (h := 2) (i := 0) (n := n) (m := ⟨m1.g, .al p2 :: .tr r :: (ts'.map .tr ++ m1.s.drop n)⟩) E2b (by omega) (by
                    have a1 : (wp :: v :: (vs ++ (wp :: us)))[2 + 0]? = some wp := by
                      show (vs ++ (wp :: us))[0]? = _
                      rw [List.getElem?_append_left (by omega)]
                      exact hwv
                    have a2 : (wp :: v :: (vs ++ (wp :: us)))[2 + n]? = some wp := by
                      rw [Nat.add_comm]
                      show (vs ++ (wp :: us))[n]? = _
                      rw [List.getElem?_append_right (by omega), hl, Nat.sub_self]
                      rfl
                    rw [a1, a2]) h2
                  have ev : ((wp :: v :: (vs ++ (wp :: us))).eraseIdx (2 + n)).eraseIdx (2 + 0) = wp :: v :: (vs.eraseIdx 0 ++ us) := by
                    rw [Nat.add_comm 2 n]
                    show wp :: v :: ((vs ++ (wp :: us)).eraseIdx n).eraseIdx 0 = _
                    rw [List.eraseIdx_append_of_length_le (by omega), hl, Nat.sub_self]
                    show wp :: v :: (vs ++ us).eraseIdx 0 = _
                    rw [List.eraseIdx_append_of_lt_length (by omega)]
                  rw [ev, hs2] at E3
                  have E4 := reAls_ok (gl := ghosts p2 0 m.g) (es := ens) E3 (fun k i r q g1 g2 g3 => by
                    have hm := List.mem_of_getElem? g1
                    obtain ⟨x1, _, x3⟩ := raws _ hm
                    obtain ⟨w, y1, y2⟩ := hgh k q g2 (by rw [List.getElem?_map, g1, g3]; rfl)
                    rw [List.getElem?_map, g1] at y1
                    cases y1
                    refine ⟨x3, _, x1, ?_⟩
                    rw [g3] at y2
                    exact y2.headEq (by rw [hwv]; rfl))
                  have E5 := E4.drop
                  have lm := tail_len E5
                  simp only [List.length_cons, List.length_append, List.length_eraseIdx] at lm
                  rw [if_pos (by omega)] at lm
                  refine hp v H' ?_
                  have e3 : s2 = s2.take 1 ++ ((s2.drop 1).take (n - 1) ++ s2.drop n) := by
                    have : s2.drop n = (s2.drop 1).drop (n - 1) := by rw [List.drop_drop]; congr 1; omega
                    rw [this, List.take_append_drop, List.take_append_drop]
                  rw [e3] at E5
                  have lve : (vs.eraseIdx 0).length = n - 1 := by rw [List.length_eraseIdx, if_pos (by omega), hl]
                  have E6 := EnvOk.permA (A := s2.take 1) (va := [v]) (by simp; omega) (by simp; omega) E5
                  exact EnvOk.dropN (by simp; omega) E6
                · cases hf
              · cases hf
            · cases hf
          · rename_i C ts' ens hG
            split at hf
            · rename_i m2 h2
              cases hf
              refine callG_ok (ents := (m1.s.take n).reverse) (s := m1.s.drop n) (o := (.ex C ts', ens)) (wq := (ghosts p 0 m.g).map fun x => slv σ x.1) (es ▸ EE) (by simp; omega) hts (by simp) gq hG ?_
              intro H' l' E2
              have E3 := resAt_ok (h := 0) (i := 0) (n := n) (m := ⟨m1.g, ts'.map .tr ++ m1.s.drop n⟩) E2 (by omega) (by
                rw [Nat.zero_add, Nat.zero_add, List.getElem?_append_left (by omega), hwv, List.getElem?_append_right (by omega), hl, Nat.sub_self]
                rfl) h2
              exact hp H' E3.dropAll
            · cases hf
          · cases hf
        · cases hf
      · cases hf
    · cases hf
  · cases hf
variable {x me : Str} {pp pos apos : Pos} {e oe : Expr} {es : List Expr} {ga go : GE} {kk : Nat} {f C : Addr} {fd : FuncData} {ps : List Str} {pl : Sem Bool}
theorem me_methG (ho : ME X T md W oe go) (c : Cls X.K (T.ct n)) (hm : Meth X.K (T.ct n) me f) (hno : (T.nm n).idxOf? me = none) (F : FnOk X.prog X.w X.K X.mg X.base (L2N.CX X.prog X.w) kk f fd ps (spOfG (kcm X.K T) mdc G)) (hr : Room kk X.A) (tk : Takes X W) (hb : Binds X.K fd ps [])
    (ha : MA X T md W (e :: es) ga) 
    (hst : starEach (e :: es) X.env = (false, eval e X.env) :: starEach es X.env := by rfl) (hpl : (backTo pos (starEach es X.env)).any (·.1) = false := by rfl)
    (ht : eval (.Call (.Attribute oe me apos) (e :: es) [] pos) X.env = (do let ov ← eval oe X.env; standAt apos.atName; let (f, first) ← holding [ov] (getMethod ov me pl); callWith pos f first (backTo pos (starEach (e :: es) X.env)) (backToKw pos (keywordEach [] X.env))) := by rfl) :
    ME X T md W (.Call (.Attribute oe me apos) (e :: es) [] pos) (gSeq go (gSeq (chkI n) (gSeq ga (gCallG mdc G ((e :: es).length + 1))))) := by
  obtain ⟨to, po, so⟩ := ho
  obtain ⟨t, pa, sa⟩ := ha
  refine ⟨_, pe_methS (Ew := WE W) po c hm F hr hb (fun σ => passAt tk σ) pa hst hpl ht, fun c σ H m us Q rr hc E hg hp => ?_⟩
  simp only [gSeq] at hg
  split at hg
  · rename_i m1 h1
    refine so c σ H m us _ _ hc E h1 fun xv H1 E1 => ?_
    split at hg
    · rename_i m2 h2
      obtain ⟨e2, a, dx, fs, ex, ea, lk⟩ := chkI_ok E1 h2 hno
      cases e2
      refine ⟨a, dx, fs, ex, ea, lk, ?_⟩
      split at hg
      · rename_i m3 h3
        exact sa c σ H1 m1 _ _ _ hc E1 h3 fun vs H2 hl E2 => gCallG_ok (by simp) c σ H2 m3 us (xv :: vs) Q rr hc (by simp [hl]) (by simpa using E2) hg hp
      · rename_i h3
        refine sa c σ H1 m1 _ _ _ hc E1 hg ?_
        cases rr with
        | ex C g' => exact hp
        | ok m2 => exact absurd hg (h3 m2)
    · rename_i h2
      obtain ⟨e2, _⟩ := chkI_ok E1 hg hno
      exact absurd (e2 ▸ hg) (h2 m1)
  · rename_i h1
    refine so c σ H m us _ _ hc E hg ?_
    cases rr with
    | ex C g' => exact hp
    | ok m2 => exact absurd hg (h1 m2)
end
section
variable {K : KC} {X : Cx} {T : KT} {md : List Bool} {W : WX} {c : Cz} {σ : St} {H H' : Hp} {Γ τ : List Ent} {us vs : List V} {v w : V} {p q : List Nat} {t : Tr} {ts ts' : List Tr} {i j : Nat} {ks : List Key} {k : Key}
variable {g : GS} {gi go gv ga gb : GE} {e a b o ie : Expr} {pos pos' : Pos}
/-! dicts by int and str keys: reads and stores -/
def keyOf : V → Option Key
  | .int i => some (.inl i)
  | .str s => some (.inr s)
  | _ => none
theorem keyOf_kV (h : keyOf v = some k) : v = kV k := by
  cases v <;> simp [keyOf] at h <;> subst h <;> rfl
def kix (k : Key) : List Key → Option Nat
  | [] => none
  | x :: ks => if x = k then some 0 else (kix k ks).map (· + 1)
theorem kix_at : ∀ {ks : List Key} {j : Nat}, kix k ks = some j → ks[j]? = some k
  | [], _, h => by simp [kix] at h
  | x :: ks, j, h => by
    simp only [kix] at h
    split at h
    · rename_i e
      cases h
      simp [e]
    · simp only [Option.map_eq_some_iff] at h
      obtain ⟨j', h1, rfl⟩ := h
      simpa using kix_at h1
theorem kix_none : ∀ {ks : List Key}, kix k ks = none → k ∉ ks
  | [], _ => by simp
  | x :: ks, h => by
    simp only [kix] at h
    split at h
    · cases h
    · rename_i e
      have := kix_none (by simpa using h)
      simp [this, Ne.symm e]
theorem valV_zip : ∀ {ks : List Key} {vs : List V} {j : Nat}, kix k ks = some j → ks.length = vs.length → valV (ks.zip vs) k = vs[j]?
  | [], _, _, h, _ => by simp [kix] at h
  | x :: ks, [], _, _, l => by simp at l
  | x :: ks, y :: vs, j, h, l => by
    simp only [kix] at h
    rw [List.zip_cons_cons]
    by_cases e : x = k
    · rw [if_pos e] at h
      cases h
      rw [valV_pos e]
      rfl
    · rw [if_neg e] at h
      simp only [Option.map_eq_some_iff] at h
      obtain ⟨j', h1, rfl⟩ := h
      rw [valV_neg e, valV_zip h1 (by simpa using l)]
      simp
def rIxD : R2 := fun x y H Q => ∃ a v, x = .ref a ∧ DGet H a y (some v) ∧ Q v H
theorem ix_dict (hu : X.A.units + 1 < cLine) : IxR X rIxD := by
  intro value slice pins s σ H x y v u Q I rx ry h hs
  obtain ⟨a, w, rfl, g, q⟩ := h
  cases rx
  exact PyProof.Rows.tail_any (dict_typeIs I g) PySem.F.slot_dict_getitem.lookup (d_getItem hu I g ry fun w' s3 I3 rw' => ⟨w, H, I3, rw', q⟩) hs
def fIxK : GE := fun m => match m.s with
  | .tr (.a y) :: e :: s => match viewE m.g e with
    | some (.nd (.dct ks) o ts) => match keyOf y with
      | some k => match kix k ks with
        | some j => match kidE e (.dct ks) o ts j with
          | some e' => some (.ok ⟨m.g, e' :: s⟩)
          | none => none
        | none => none
      | none => none
    | _ => none
  | _ => none
theorem fIxK_ok : RA2 K md W rIxD fIxK := by
  refine .mk fun c σ H m us x y Q rr hc E hf hp => ?_
  simp only [fIxK] at hf
  split at hf
  · rename_i y e s hs
    rw [hs] at E
    have ey := top_a E
    subst ey
    have E1 := E.drop
    split at hf
    · rename_i ks o ts hv
      split at hf
      · rename_i k hk0
        split at hf
        · rename_i j hj
          split at hf
          · rename_i e' hk
            cases hf
            obtain ⟨ad, vs, w', rfl, ho, hl, hw, E2⟩ := E1.kidOf hv hk
            have ho := ObjAt.rd ho
            refine ⟨ad, w', rfl, ?_, hp w' H E2⟩
            rw [keyOf_kV hk0]
            have e : valV (ks.zip vs) k = some w' := by rw [valV_zip hj ho.1, hw]
            exact .inl ⟨_, k, ho.2, rfl, e.symm⟩
          · cases hf
        · cases hf
      · cases hf
    · cases hf
  · cases hf
/-- o[i]: lists, tuples, dicts -/
def fIxA : GE := gOr fIx fIxK
theorem me_ixA (hu : X.A.units + 64 < cLine) (ha : ME X T md W a ga) (hb : ME X T md W b gb) (hs : PlainIx b) : ME X T md W (.Subscript a b pos) (gSeq (gSeq ga gb) fIxA) := me_ix ((ix_list.or ix_tup).or (ix_dict (by omega))) (fIx_ok.or fIxK_ok) ha hb hs
theorem putK_set : ∀ {ks : List Key} {vs : List V} {j : Nat}, ks.Nodup → kix k ks = some j → ks.length = vs.length → putK (ks.zip vs) k v = ks.zip (vs.set j v) := by
  intro ks vs j nd h l
  have hm : ∃ y, (k, y) ∈ ks.zip vs := by
    obtain ⟨h3, h4⟩ := List.getElem?_eq_some_iff.mp (kix_at h)
    have h5 : (ks.zip vs)[j]'(by simp; omega) = (ks[j], vs[j]) := by simp
    rw [h4] at h5
    exact ⟨_, h5 ▸ List.getElem_mem _⟩
  obtain ⟨y, hy⟩ := hm
  unfold putK
  rw [if_pos (by rw [List.any_eq_true]; exact ⟨_, hy, by simp⟩)]
  clear hy
  induction ks generalizing vs j with
  | nil => simp [kix] at h
  | cons x ks ih =>
    cases vs with
    | nil => simp at l
    | cons z vs =>
      simp only [kix] at h
      have nd' := List.nodup_cons.mp nd
      by_cases e : x = k
      · subst e
        rw [if_pos rfl] at h
        cases h
        rw [List.zip_cons_cons, List.map_cons, if_pos rfl, List.set_cons_zero, List.zip_cons_cons]
        congr 1
        have : ∀ kv ∈ ks.zip vs, (if kv.1 = x then (kv.1, v) else kv) = kv := by
          intro kv hkv
          rw [if_neg]
          intro q
          exact nd'.1 (q ▸ (List.of_mem_zip hkv).1)
        rw [List.map_congr_left this]
        simp
      · rw [if_neg e] at h
        simp only [Option.map_eq_some_iff] at h
        obtain ⟨j', h1, rfl⟩ := h
        rw [List.zip_cons_cons, List.map_cons, if_neg e, List.set_cons_succ, List.zip_cons_cons, ih nd'.2 h1 (by simpa using l)]
theorem putK_app {ks : List Key} {vs : List V} (h : kix k ks = none) (l : ks.length = vs.length) : putK (ks.zip vs) k v = (ks ++ [k]).zip (vs ++ [v]) := by
  unfold putK
  rw [if_neg]
  · rw [List.zip_append l]
    rfl
  · rw [List.any_eq_true]
    rintro ⟨kv, hkv, e⟩
    have : kv.1 = k := by simpa using e
    exact kix_none h (this ▸ (List.of_mem_zip hkv).1)
def rSetD : TSet := fun o i v H Q => ∃ a H', o = .ref a ∧ DPut H a i v H' ∧ Q H'
theorem set_dict (hu : X.A.units + 1 < cLine) : PSet X rSetD := by
  intro pins s σ H o i v ov iv u Q I ro ri rv h
  obtain ⟨a, H', rfl, g, q⟩ := h
  cases ro
  exact d_setItem hu I g ri rv fun s' I' => ⟨H', I', q⟩
theorem PSet.or {t t' : TSet} (h : PSet X t) (h' : PSet X t') : PSet X (fun o i v H Q => t o i v H Q ∨ t' o i v H Q) := by
  intro pins s σ H o i v ov iv u Q I ro ri rv q
  rcases q with q | q
  · exact h pins s σ H o i v ov iv u Q I ro ri rv q
  · exact h' pins s σ H o i v ov iv u Q I ro ri rv q
def stSubK : Ms → Option Ms := fun m => match m.s with
  | .tr (.a y) :: .al p :: .tr t :: s => match getG m.g p, keyOf y with
    | some (.nd (.dct ks) .own ts), some k => if esc t = true ∧ ks.Nodup ∧ ks.length < 100000 then match kix k ks with
        | some j => some ⟨(setG m.g p (.nd (.dct ks) .own (ts.set j t))).map (killJ (p ++ [j])), s.map (killJ (p ++ [j]))⟩
        | none => some ⟨kill p (setG m.g p (.nd (.dct (ks ++ [k])) .own (ts ++ [t]))), kill p s⟩
      else none
    | _, _ => none
  | _ => none
theorem stSubK_ok {m m' : Ms} {x y z : V} {Q : Hp → Prop} (E : EnvOk K c σ H m.g m.s (z :: y :: x :: us)) (h : stSubK m = some m') (hq : ∀ H', EnvOk K c σ H' m'.g m'.s us → Q H') : rSetD y z x H Q := by
  unfold stSubK at h
  split at h
  · rename_i yv p t s hs
    split at h
    · rename_i ks ts k hg hk
      split at h
      · rename_i he
        rw [hs] at E
        have ez := top_a E
        subst ez
        have E1 := E.drop
        have hes := E1.escAt hg (by simp)
        obtain ⟨Z, ws, Φ, Ψ, EE⟩ := id E1
        obtain ⟨Θ, a, vs, Ξ, rfl, ho, hlr, hn⟩ := EE.view (n := 0) (e := .al p) rfl rfl hg
        have ho : ks.length = vs.length ∧ H a = some (.dK (ks.zip vs)) := ho
        have hlen := RepL.len _ hlr
        have hz : (ks.zip vs).length < sizeLine := by
          have : (100000 : Nat) ≤ sizeLine := by decide
          simp
          omega
        rw [keyOf_kV hk]
        refine ⟨a, _, rfl, DPut.k ho.2 hz, ?_⟩
        split at h
        · rename_i j hj
          cases h
          refine hq _ ?_
          rw [putK_set he.2.1 hj ho.1]
          have hjl : j < ts.length := by
            have := getq_lt' (kix_at hj)
            omega
          obtain ⟨a', e, E2⟩ := EnvOk.setIn (j := j) (ob := .dK (ks.zip (vs.set j x))) E1 hg (by simp) hjl he.1 (fun a2 vs2 ho2 e2 => by
            cases e2
            have ho2 : ks.length = vs2.length ∧ H a = some (.dK (ks.zip vs2)) := ho2
            have ev : vs = vs2 := by
              have h3 : ks.zip vs = ks.zip vs2 := by
                have := ho.2.symm.trans ho2.2
                simpa using this
              have h4 := congrArg (List.map Prod.snd) h3
              rwa [List.map_snd_zip (by omega), List.map_snd_zip (by omega)] at h4
            subst ev
            exact ⟨by simpa using ho.1, upd_same⟩)
          cases e
          exact E2
        · rename_i hj
          cases h
          refine hq _ ?_
          rw [putK_app hj ho.1]
          obtain ⟨a', e, E2⟩ := EnvOk.modP (ins := [t]) (us1 := [x]) (outs := []) (vouts := []) (k' := .dct (ks ++ [k])) (ts' := ts ++ [t]) (ob := .dK ((ks ++ [k]).zip (vs ++ [x]))) (τ := s) (us := us) E1 rfl hg (by simp) (by simp) (fun a2 vs2 e2 ho2 l2 => by
            cases e2
            have ho2 : ks.length = vs2.length ∧ H a = some (.dK (ks.zip vs2)) := ho2
            have ev : vs = vs2 := by
              have h3 : ks.zip vs = ks.zip vs2 := by
                have := ho.2.symm.trans ho2.2
                simpa using this
              have h4 := congrArg (List.map Prod.snd) h3
              rwa [List.map_snd_zip (by omega), List.map_snd_zip (by omega)] at h4
            subst ev
            exact ⟨vs ++ [x], by simpa using l2, ⟨by simpa using ho.1, upd_same⟩, fun Z Ψa Ψb r1 r2 d => ⟨_, by simpa using RepL.append _ r1 r2 d, fun b q => q⟩⟩) rfl (by
              rw [escL_all] at hes ⊢
              intro y hy
              rcases List.mem_append.mp hy with z | z
              · exact hes y z
              · rw [List.mem_singleton.mp z]; exact he.1)
          cases e
          simpa using E2
      · cases h
    · cases h
  · cases h
/-- o[i] = v: lists, dicts -/
def stSubA : Ms → Option Ms := fun m => match stSub m with
  | none => stSubK m
  | r => r
def rSetA : TSet := fun o i v H Q => rSetL o i v H Q ∨ rSetD o i v H Q
theorem set_A (hu : X.A.units + 64 < cLine) : PSet X rSetA := PSet.or set_list (set_dict (by omega))
theorem stSubA_ok {m m' : Ms} {x y z : V} {Q : Hp → Prop} (E : EnvOk K c σ H m.g m.s (z :: y :: x :: us)) (h : stSubA m = some m') (hq : ∀ H', EnvOk K c σ H' m'.g m'.s us → Q H') : rSetA y z x H Q := by
  unfold stSubA at h
  split at h
  · exact .inr (stSubK_ok E h hq)
  · rename_i r hr
    exact .inl (stSub_ok E h hq)
def sSubA (gv go gi : GE) : GS := fun m => match gSeq (gSeq gv go) gi m with
  | some (.ok m') => match stSubA m' with
    | some m2 => some (.nx m2)
    | none => none
  | some (.ex C g) => some (.ex C g)
  | none => none
theorem ms_subA {spos tpos : Pos} (hv : ME X T md W e gv) (ho : ME X T md W o go) (hi : ME X T md W ie gi) (h : ∀ {to ti te : TE}, PE X o to → PE X ie ti → PE X e te → PS X (.Assign [.Subscript o ie spos] e tpos) (tAsg te (gSub to ti rSetA))) : MS X T md W (.Assign [.Subscript o ie spos] e tpos) (sSubA gv go gi) := by
  obtain ⟨tv, pv, sv⟩ := hv
  obtain ⟨to, po, so⟩ := ho
  obtain ⟨ti, pi, si⟩ := hi
  refine ⟨_, h po pi pv, fun c σ H m us D oo hc E hg hp => ?_⟩
  simp only [sSubA, gSeq] at hg
  cases e1 : gv m with
  | none => simp [e1] at hg
  | some r1 =>
    cases r1 with
    | ex C g' =>
      simp only [e1] at hg
      cases hg
      exact sv c σ H m us _ _ hc E e1 fun H1 E1 => hp σ H1 E1
    | ok m1 =>
      simp only [e1] at hg
      refine sv c σ H m us _ _ hc E e1 fun x H1 E1 => ?_
      cases e2 : go m1 with
      | none => simp [e2] at hg
      | some r2 =>
        cases r2 with
        | ex C g' =>
          simp only [e2] at hg
          cases hg
          exact so c σ H1 m1 _ _ _ hc E1 e2 fun H2 E2 => hp σ H2 E2
        | ok m2 =>
          simp only [e2] at hg
          refine so c σ H1 m1 _ _ _ hc E1 e2 fun y H2 E2 => ?_
          cases e3 : gi m2 with
          | none => simp [e3] at hg
          | some r3 =>
            cases r3 with
            | ex C g' =>
              simp only [e3] at hg
              cases hg
              exact si c σ H2 m2 _ _ _ hc E2 e3 fun H3 E3 => hp σ H3 E3
            | ok m3 =>
              simp only [e3] at hg
              refine si c σ H2 m2 _ _ _ hc E2 e3 fun z H3 E3 => ?_
              split at hg
              · rename_i m4 h4
                cases hg
                exact stSubA_ok E3 h4 fun H4 E4 => hp σ H4 E4
              · cases hg
end
section
variable {K : KC} {X : Cx} {T : KT} {W : WX} {c : Cz} {σ : St} {H H' : Hp} {a p : Addr} {fs : List Int} {n : Nat} {N : List Str} {t : L2.TS} {g : GS} {m : Ms} {Q : VK} {D : Ends}
/-! the law itself: behind its first row the drawn row is a list of its own -/
abbrev iT (i : Int) : Tr := .a (.int i)
abbrev bT (b : Bool) : Tr := .a (.bl b)
def feedT (fs : List Int) : Tr := .nd .lst .own (fs.map iT)
def feedG (n : Nat) (fs : List Int) : Ms := ⟨.no :: .tr (feedT fs) :: List.replicate n .no, []⟩
abbrev cLaw : Cz := ⟨fun _ => none, fun _ => False, fun _ => False, [false], []⟩
theorem repL_atoms {Z : Zn} : ∀ {us : List V}, RepL K Z H .own (us.map Tr.a) us fun _ => False
  | [] => ⟨rfl, fun _ h => h⟩
  | u :: us => ⟨u, us, fun _ => False, fun _ => False, rfl, ⟨rfl, fun _ h => h⟩, repL_atoms, by simp, by simp⟩
theorem feed_ok (hN : N.length = n + 2) (h : H p = some (.lst (fs.map V.int))) : EnvOk K cLaw ((start N [.ref a]).set 1 (some (.ref p))) H (feedG n fs).g (feedG n fs).s [] := by
  have es : start N [.ref a] = [some (.ref a)] ++ List.replicate (n + 1) none := by
    show [V.ref a].map some ++ List.replicate (N.length - [V.ref a].length) none = _
    simp [hN]
  have ess : (start N [.ref a]).set 1 (some (.ref p)) = some (.ref a) :: some (.ref p) :: List.replicate n none := by
    rw [es]
    rfl
  rw [ess]
  have em : fs.map iT = (fs.map V.int).map Tr.a := by simp
  have rf : Rep K ⟨fun _ => False, fun _ => False⟩ H .own (feedT fs) (.ref p) fun b => b = p := by
    refine ⟨p, fs.map V.int, fun _ => False, rfl, h, by rw [em]; exact repL_atoms, ?_⟩
    refine ⟨by simp, fun q => q, ?_⟩
    rw [escL_all, em]
    intro y hy
    obtain ⟨z, _, rfl⟩ := List.mem_map.mp hy
    rfl
  have tr : trees (feedG n fs).g = .any :: feedT fs :: List.replicate n .any := by
    simp [feedG, trees, Ent.tree]
  refine ⟨⟨fun _ => False, fun _ => False⟩, .ref a :: .ref p :: List.replicate n .non, fun b => b = p, fun _ => False, ⟨?_, ⟨rfl, fun _ h => h⟩, by simp, ?_, ?_, by simp [feedG], fun b _ => ⟨.inr rfl, fun q => q, fun q => q⟩, fun b q => q.elim, fun b q => q, fun b q => (by simp at q), fun b o q => (by cases q), ?_⟩⟩
  · rw [tr]
    exact ⟨_, _, fun _ => False, fun b => b = p, rfl, fun _ h => h, ⟨_, _, fun b => b = p, fun _ => False, rfl, rf, RepL.anys n, by simp, by simp⟩, by simp, by simp⟩
  · intro i e he
    match i with
    | 0 => cases he; trivial
    | 1 => cases he; exact ⟨_, rfl, rfl⟩
    | i + 2 =>
      have he : (List.replicate n Ent.no)[i]? = some e := he
      have := List.mem_of_getElem? he
      simp at this
      rw [this.2]
      trivial
  · intro i q hi
    simp [feedG] at hi
  · intro i hi
    match i with
    | 0 => cases hi
    | i + 1 => simp at hi
theorem law_end (s : SS K [false] WF t g) (hN : N.length = n + 2) (h : H p = some (.lst (fs.map V.int))) (hg : g (feedG n fs) = some (.rt (bT true) m)) (hq : ∀ H', Q (.bl true) H') : t { nx := fun _ H' => Q .non H', rt := Q } ((start N [.ref a]).set 1 (some (.ref p))) H := by
  refine s cLaw _ H (feedG n fs) [] _ _ rfl (feed_ok hN h) hg ?_
  intro σ' v H' E
  have := top_a E
  subst this
  exact hq H'
end
section
variable {T : KT} {P : Program} {Wd : World} {Kf : PySem.W.Frag} {mg : Str → Option Value} {base : Heap} {Fe : List Int → Prop} {n k : Nat} {N : List Str}
def spLaw (K : PySem.W.Frag) : Sp := fun vs H Q _ => ∃ (a : Addr) (ns : List Int), vs = [.ref a] ∧ SqL K H a (ns.map V.int) ∧ ns.length ≤ 63 ∧ ∀ H', Q (.bl true) H'
theorem law_sim {x qual y : Str} {st st0 : Stmt} {rest : List Stmt} {f : Addr} {fd : FuncData} {g : GS} (F : Fun Kf x qual st f fd) (S : FnScope N [y] (defScope st)) (hN : N.length = n + 2) (hb : defBody st = st0 :: rest)
    (body : ∀ (cdv : Value) (A : Around) (outer : List Env) (s : Shared) (H : Hp) (E : XK), Room k (A.deeper (PyProof.Rows.envOfC qual (defScope st) s.heap.objs.size f cdv)) →
      (∃ t0, PS (cxOf CX0 P Wd Kf mg base N qual (defScope st) f cdv A outer s H E).nox st0 t0 ∧ ∀ (a : Addr) (ns : List Int) (H : Hp) (D : Ends), SqL Kf H a (ns.map V.int) → ns.length ≤ 63 →
        (∀ H' p fs, H' p = some (.lst (fs.map V.int)) → Fe fs → D.nx ((start N [.ref a]).set 1 (some (.ref p))) H') → t0 D (start N [.ref a]) H) ∧
      MSs (cxOf CX0 P Wd Kf mg base N qual (defScope st) f cdv A outer s H E).nox T [false] WF rest g)
    (pl : ∀ fs, Fe fs → ∃ m, g (feedG n fs) = some (.rt (bT true) m)) : FnOk P Wd Kf mg base CX0 (k + 1) f fd [y] (spLaw Kf) := by
  refine F.ok S (fun vs H Q E h => ?_) (fun cdv A outer s H vs Q E hr h => ?_)
  · obtain ⟨a, ns, rfl, _⟩ := h
    rfl
  · obtain ⟨a, ns, rfl, hS, hl, kk⟩ := h
    obtain ⟨⟨t0, p0, s0⟩, t, pt, st⟩ := body cdv A outer s H E hr
    rw [hb]
    refine ⟨_, pss_cons p0 pt, ?_⟩
    refine s0 a ns H _ hS hl fun H' p fs h1 hf => ?_
    obtain ⟨m, hm⟩ := pl fs hf
    exact law_end st hN h1 hm kk
end
/-! frames: what a call leaves as it was -/
abbrev tl (x : Str) : List Nat := x.cps.toList
def Fr (S : List Addr) (H H' : Hp) : Prop := ∀ b o, H b = some o → ∃ o', H' b = some o' ∧ (b ∉ S → o' = o)
section
variable {S : List Addr} {H H0 H1 H2 H' : Hp} {a b p : Addr} {o o' : HO} {K : PySem.W.Frag} {xs : List V}
theorem Fr.refl (S : List Addr) (H : Hp) : Fr S H H := fun _ o h => ⟨o, h, fun _ => rfl⟩
theorem Fr.trans (f : Fr S H0 H1) (g : Fr S H1 H2) : Fr S H0 H2 := fun b o h => by
  obtain ⟨o1, h1, e1⟩ := f b o h
  obtain ⟨o2, h2, e2⟩ := g b o1 h1
  exact ⟨o2, h2, fun n => (e2 n).trans (e1 n)⟩
theorem Fr.get (f : Fr S H H') (h : H b = some o) (n : b ∉ S) : H' b = some o := by
  obtain ⟨o1, h1, e1⟩ := f b o h
  rw [h1, e1 n]
theorem Fr.up1 (f : Fr S H0 H1) (g : Fr [a] H1 H2) (ha : a ∈ S ∨ H0 a = none) : Fr S H0 H2 := fun b o h => by
  obtain ⟨o1, h1, e1⟩ := f b o h
  obtain ⟨o2, h2, e2⟩ := g b o1 h1
  refine ⟨o2, h2, fun n => ?_⟩
  by_cases e : b = a
  · subst e
    rcases ha with ha | ha
    · exact absurd ha n
    · rw [ha] at h
      cases h
  · rw [e2 (by simpa using e), e1 n]
theorem Fr.new (np : H p = none) : Fr [] H (upd H p o) := fun b u e => ⟨u, by rw [upd_ne (ne_of_none e np)]; exact e, fun _ => rfl⟩
theorem Fr.mut : Fr [a] H (upd H a o) := fun b u e => by
  by_cases h : b = a
  · subst h
    exact ⟨o, upd_same, fun n => absurd (by simp) n⟩
  · exact ⟨u, by rw [upd_ne h]; exact e, fun _ => rfl⟩
theorem gen_new (np : H p = none) (e : upd H p o = H2) : Fr [] H H2 ∧ H2 p = some o := by
  subst e
  exact ⟨Fr.new np, upd_same⟩
theorem gen_upd (e : upd H a o = H2) : Fr [a] H H2 ∧ H2 a = some o := by
  subst e
  exact ⟨Fr.mut, upd_same⟩
theorem Fr.seq (f : Fr S H H') (h : SqL K H a xs) (n : a ∉ S) : SqL K H' a xs := by
  rcases h with (h | ⟨o, h⟩) | h
  · exact .inl (.inl (f.get h n))
  · exact .inl (.inr ⟨o, f.get h n⟩)
  · exact .inr h
theorem Fr.seq0 (f : Fr [] H H') (h : SqL K H a xs) : SqL K H' a xs := f.seq h (by simp)
theorem sq (h : H a = some (.lst xs)) : SqL K H a xs := .inl (.inl h)
end
theorem sz {n : Nat} (h : n < 100000) : n < sizeLine := Nat.lt_of_lt_of_le h (by decide)
theorem map_get {α β : Type} {f : α → β} {l : List α} {i : Nat} {y : β} (h : (l.map f)[i]? = some y) : ∃ x, l[i]? = some x ∧ y = f x := by
  rw [List.getElem?_map] at h
  cases e : l[i]? with
  | none =>
    rw [e] at h
    cases h
  | some x =>
    rw [e] at h
    exact ⟨x, rfl, (Option.some.inj h).symm⟩
theorem getq_lt {α : Type} {l : List α} {i : Nat} {x : α} (h : l[i]? = some x) : i < l.length := (List.getElem?_eq_some_iff.mp h).1
theorem inV_int {k : Int} : ∀ {ds : List Int}, inV (.int k) (ds.map V.int) = decide (k ∈ ds)
  | [] => rfl
  | d :: ds => by
    have e := inV_int (k := k) (ds := ds)
    unfold inV at e ⊢
    rw [List.map_cons, List.any_cons, e]
    show ((d == k) || _) = _
    by_cases h : d = k
    · rw [decide_eq_true (show k ∈ d :: ds by rw [h]; exact List.mem_cons_self), show (d == k) = true from beq_iff_eq.mpr h, Bool.true_or]
    · have h2 : (d == k) = false := by simpa using h
      rw [h2, Bool.false_or]
      by_cases h3 : k ∈ ds
      · rw [decide_eq_true h3, decide_eq_true (List.mem_cons_of_mem _ h3)]
      · rw [decide_eq_false h3, decide_eq_false (by simp; exact ⟨fun q => h q.symm, h3⟩)]
theorem Fr.sub {S S' : List Addr} {H H' : Hp} (f : Fr S' H H') (h : ∀ a ∈ S', a ∈ S) : Fr S H H' := fun b o e => by
  obtain ⟨o', h1, h2⟩ := f b o e
  exact ⟨o', h1, fun n => h2 fun q => n (h b q)⟩
/-! pure lemmas: trees of plain data, comprehensions that change nothing -/
section
variable {cv : List Nat} {bd : Ms → Option Ms} {gt ge : GE} {lo : Int} {g s : List Ent} {n : Nat} {k : Nk} {o : Ow} {ts : List Tr} {e : Ent} {α : Type}
@[simp] theorem escL_iT (xs : List Int) : escL (xs.map iT) = true := by
  rw [escL_all]
  intro y hy
  obtain ⟨z, _, rfl⟩ := List.mem_map.mp hy
  rfl
@[simp] theorem cpL_iT : ∀ (xs : List Int), cpL (xs.map iT) = true
  | [] => rfl
  | x :: xs => by
    show (cp (iT x) && cpL (xs.map iT)) = true
    rw [cpL_iT xs]
    rfl
theorem escL_map {f : α → Tr} {xs : List α} (h : ∀ x, esc (f x) = true) : escL (xs.map f) = true := by
  rw [escL_all]
  intro y hy
  obtain ⟨z, _, rfl⟩ := List.mem_map.mp hy
  exact h z
/-- [F x for x in range if P x], when a turn changes nothing but the list -/
theorem lcR_go (P : Nat → Bool) (F : Nat → Tr) (turn : ∀ i acc, i < n → acc.length ≤ i → lcTurn cv bd gt ge 0 ⟨g, .tr (.a (.int (lo + i))) :: .tr (.nd .lst .own acc) :: s⟩ = some ⟨g, .tr (.nd .lst .own (if P i = true then acc ++ [F i] else acc)) :: s⟩) :
    ∀ r i acc, i + r = n → acc.length ≤ i → lcR cv bd gt ge lo r i ⟨g, .tr (.nd .lst .own acc) :: s⟩ = some ⟨g, .tr (.nd .lst .own (acc ++ ((List.range' i r).filter P).map F)) :: s⟩
  | 0, i, acc, h, _ => by simp [lcR]
  | r + 1, i, acc, h, hl => by
    simp only [lcR]
    rw [turn i acc (by omega) hl]
    simp only
    rw [lcR_go P F turn r (i + 1) _ (by omega) (by split <;> (try simp) <;> omega)]
    rw [List.range'_succ, List.filter_cons]
    split <;> simp
theorem lcR_is (P : Nat → Bool) (F : Nat → Tr) (turn : ∀ i acc, i < n → acc.length ≤ i → lcTurn cv bd gt ge 0 ⟨g, .tr (.a (.int (lo + i))) :: .tr (.nd .lst .own acc) :: s⟩ = some ⟨g, .tr (.nd .lst .own (if P i = true then acc ++ [F i] else acc)) :: s⟩) :
    lcR cv bd gt ge lo n 0 ⟨g, .tr (.nd .lst .own []) :: s⟩ = some ⟨g, .tr (.nd .lst .own (((List.range n).filter P).map F)) :: s⟩ := by
  rw [lcR_go P F turn n 0 [] (by omega) (by simp), List.range_eq_range']
  simp
/-- [F x for x in a list if P x] -/
theorem lcL_go (P : Nat → Bool) (F : Nat → Tr) (hv : viewE g e = some (.nd k o ts)) (hc : cpE e = true) (turn : ∀ i acc, i < ts.length → acc.length ≤ i → ∃ e', kidX e k o ts i = some e' ∧ lcTurn cv bd gt ge 1 ⟨g, e' :: e :: .tr (.nd .lst .own acc) :: s⟩ = some ⟨g, e :: .tr (.nd .lst .own (if P i = true then acc ++ [F i] else acc)) :: s⟩) :
    ∀ r i acc, i + r = ts.length → acc.length ≤ i → lcL k cv bd gt ge r i ⟨g, e :: .tr (.nd .lst .own acc) :: s⟩ = some ⟨g, e :: .tr (.nd .lst .own (acc ++ ((List.range' i r).filter P).map F)) :: s⟩
  | 0, i, acc, h, _ => by
    simp only [lcL, hv]
    rw [if_pos ⟨trivial, by omega⟩]
    simp
  | r + 1, i, acc, h, hl => by
    obtain ⟨e', h1, h2⟩ := turn i acc (by omega) hl
    simp only [lcL, hv]
    rw [if_pos ⟨trivial, hc, by omega⟩, h1]
    simp only
    rw [h2]
    simp only
    rw [lcL_go P F hv hc turn r (i + 1) _ (by omega) (by split <;> (try simp) <;> omega)]
    rw [List.range'_succ, List.filter_cons]
    split <;> simp
end
/-! the machine's functions as rewriting rules: each step first looks at what stands before it -/
section
variable {a a' : Option Rs} {b g h : GE} {m : Ms} {Γ s : List Ent} {C : Nat} {p : Prop} [Decidable p] {x y : Bool} {t : Tr} {v : V} {md : List Bool} {i : Nat} {gs gs' : GS} {o o' : Option Os}
def bE (a : Option Rs) (b : GE) : Option Rs := match a with
  | some (.ok m) => b m
  | r => r
theorem gSeq_e : gSeq g b m = bE (g m) b := rfl
theorem bE_ok : bE (some (.ok m)) b = b m := rfl
theorem bE_ex : bE (some (.ex C Γ)) b = some (.ex C Γ) := rfl
theorem bE_ite : bE (if p then a else a') b = if p then bE a b else bE a' b := by split <;> rfl
theorem gNil_e : gNil m = some (.ok m) := rfl
theorem gC_e : gC v m = some (.ok ⟨m.g, .tr (.a v) :: m.s⟩) := rfl
/-- two ways that leave two truth values are one -/
theorem ok_ite : (if p then some (Rs.ok ⟨Γ, .tr (.a (.bl x)) :: s⟩) else some (Rs.ok ⟨Γ, .tr (.a (.bl y)) :: s⟩)) = some (Rs.ok ⟨Γ, .tr (.a (.bl (if p then x else y))) :: s⟩) := by split <;> rfl
def varE (e : Option Ent) (i : Nat) (Γ s : List Ent) : Option Rs := match e with
  | some (.tr t) => if cp t = true then some (.ok ⟨Γ, .tr t :: s⟩) else some (.ok ⟨Γ, .al [i] :: s⟩)
  | some (.al p) => some (.ok ⟨Γ, .al p :: s⟩)
  | _ => none
theorem gVar_e : gVar i m = varE m.g[i]? i m.g m.s := rfl
theorem varE_tr : varE (some (.tr t)) i Γ s = some (.ok ⟨Γ, (if cp t = true then .tr t else .al [i]) :: s⟩) := by
  unfold varE
  split
  · split <;> simp_all
  · simp_all
  · simp_all
theorem varE_al {q : List Nat} : varE (some (.al q)) i Γ s = some (.ok ⟨Γ, .al q :: s⟩) := rfl
def nE (a : Option Rs) : Option Rs := match a with
  | some (.ok ⟨g', .tr (.a (.bl b)) :: s'⟩) => some (.ok ⟨g', .tr (.a (.bl (!b))) :: s'⟩)
  | some (.ex C g') => some (.ex C g')
  | _ => none
theorem gNot_e : gNot g m = nE (g m) := rfl
theorem nE_ok : nE (some (.ok ⟨Γ, .tr (.a (.bl x)) :: s⟩)) = some (.ok ⟨Γ, .tr (.a (.bl (!x))) :: s⟩) := rfl
theorem nE_ite : nE (if p then a else a') = if p then nE a else nE a' := by split <;> rfl
def aE (a : Option Rs) (h : GE) : Option Rs := match a with
  | some (.ok ⟨g', .tr (.a (.bl true)) :: s'⟩) => h ⟨g', s'⟩
  | some (.ok ⟨g', .tr (.a (.bl false)) :: s'⟩) => some (.ok ⟨g', .tr (.a (.bl false)) :: s'⟩)
  | some (.ex C g') => some (.ex C g')
  | _ => none
theorem gAnd_e : gAnd g h m = aE (g m) h := rfl
theorem aE_ok : aE (some (.ok ⟨Γ, .tr (.a (.bl x)) :: s⟩)) h = if x = true then h ⟨Γ, s⟩ else some (.ok ⟨Γ, .tr (.a (.bl false)) :: s⟩) := by cases x <;> rfl
theorem aE_ite : aE (if p then a else a') h = if p then aE a h else aE a' h := by split <;> rfl
theorem aE_ex : aE (some (.ex C Γ)) h = some (.ex C Γ) := rfl
def oE (a : Option Rs) (h : GE) : Option Rs := match a with
  | some (.ok ⟨g', .tr (.a (.bl false)) :: s'⟩) => h ⟨g', s'⟩
  | some (.ok ⟨g', .tr (.a (.bl true)) :: s'⟩) => some (.ok ⟨g', .tr (.a (.bl true)) :: s'⟩)
  | some (.ex C g') => some (.ex C g')
  | _ => none
theorem gOrB_e : gOrB g h m = oE (g m) h := rfl
theorem oE_ok : oE (some (.ok ⟨Γ, .tr (.a (.bl x)) :: s⟩)) h = if x = true then some (.ok ⟨Γ, .tr (.a (.bl true)) :: s⟩) else h ⟨Γ, s⟩ := by cases x <;> rfl
theorem oE_ite : oE (if p then a else a') h = if p then oE a h else oE a' h := by split <;> rfl
theorem oE_ex : oE (some (.ex C Γ)) h = some (.ex C Γ) := rfl
def iE (a : Option Rs) (g h : GE) : Option Rs := match a with
  | some (.ok ⟨g', .tr (.a (.bl true)) :: s'⟩) => g ⟨g', s'⟩
  | some (.ok ⟨g', .tr (.a (.bl false)) :: s'⟩) => h ⟨g', s'⟩
  | some (.ex C g') => some (.ex C g')
  | _ => none
theorem gIf_e : gIf b g h m = iE (b m) g h := rfl
theorem iE_ok : iE (some (.ok ⟨Γ, .tr (.a (.bl x)) :: s⟩)) g h = if x = true then g ⟨Γ, s⟩ else h ⟨Γ, s⟩ := by cases x <;> rfl
theorem iE_ite : iE (if p then a else a') g h = if p then iE a g h else iE a' g h := by split <;> rfl
def xE (a : Option Rs) : Option Rs := match a with
  | some (.ok m') => some (.ok m')
  | _ => none
theorem noEx_e : noEx g m = xE (g m) := rfl
theorem xE_ok : xE (some (.ok m)) = some (.ok m) := rfl
/-! statements -/
def bS (o : Option Os) (g : GS) : Option Os := match o with
  | some (.nx m') => g m'
  | r => r
theorem sSeq_e : sSeq gs gs' m = bS (gs m) gs' := rfl
theorem bS_nx : bS (some (.nx m)) gs = gs m := rfl
theorem bS_rt : bS (some (.rt t m)) gs = some (.rt t m) := rfl
theorem bS_bk : bS (some (.bk m)) gs = some (.bk m) := rfl
theorem bS_ct : bS (some (.ct m)) gs = some (.ct m) := rfl
theorem bS_ex : bS (some (.ex C Γ)) gs = some (.ex C Γ) := rfl
theorem bS_ite : bS (if p then o else o') gs = if p then bS o gs else bS o' gs := by split <;> rfl
theorem sNil_e : sNil m = some (.nx m) := rfl
def iS (a : Option Rs) (g h : GS) : Option Os := match a with
  | some (.ok ⟨g', .tr (.a (.bl true)) :: s'⟩) => g ⟨g', s'⟩
  | some (.ok ⟨g', .tr (.a (.bl false)) :: s'⟩) => h ⟨g', s'⟩
  | some (.ex C g') => some (.ex C g')
  | _ => none
theorem sIf_e : sIf g gs gs' m = iS (g m) gs gs' := rfl
theorem iS_ok : iS (some (.ok ⟨Γ, .tr (.a (.bl x)) :: s⟩)) gs gs' = if x = true then gs ⟨Γ, s⟩ else gs' ⟨Γ, s⟩ := by cases x <;> rfl
theorem iS_ex : iS (some (.ex C Γ)) gs gs' = some (.ex C Γ) := rfl
theorem iS_ite : iS (if p then a else a') gs gs' = if p then iS a gs gs' else iS a' gs gs' := by split <;> rfl
def rS (a : Option Rs) : Option Os := match a with
  | some (.ok ⟨g, .tr t :: s⟩) => some (.rt t ⟨g, s⟩)
  | some (.ex C g) => some (.ex C g)
  | _ => none
theorem sRet_e : sRet g m = rS (g m) := rfl
theorem rS_ok : rS (some (.ok ⟨Γ, .tr t :: s⟩)) = some (.rt t ⟨Γ, s⟩) := rfl
theorem rS_ex : rS (some (.ex C Γ)) = some (.ex C Γ) := rfl
theorem rS_ite : rS (if p then a else a') = if p then rS a else rS a' := by split <;> rfl
def eS (a : Option Rs) : Option Os := match a with
  | some (.ok ⟨g, _ :: s⟩) => some (.nx ⟨g, s⟩)
  | some (.ex C g) => some (.ex C g)
  | _ => none
theorem sExpr_e : sExpr g m = eS (g m) := rfl
theorem eS_ok {e : Ent} : eS (some (.ok ⟨Γ, e :: s⟩)) = some (.nx ⟨Γ, s⟩) := rfl
theorem eS_ex : eS (some (.ex C Γ)) = some (.ex C Γ) := rfl
theorem eS_ite : eS (if p then a else a') = if p then eS a else eS a' := by split <;> rfl
def nxO (m : Option Ms) : Option Os := match m with
  | some m' => some (.nx m')
  | none => none
theorem nxO_some : nxO (some m) = some (.nx m) := rfl
/-- an expression, then something with the state -/
def kS (a : Option Rs) (f : Ms → Option Ms) : Option Os := match a with
  | some (.ok m1) => nxO (f m1)
  | some (.ex C g) => some (.ex C g)
  | none => none
theorem kS_ok {f : Ms → Option Ms} : kS (some (.ok m)) f = nxO (f m) := rfl
theorem kS_ex {f : Ms → Option Ms} : kS (some (.ex C Γ)) f = some (.ex C Γ) := rfl
theorem kS_ite {f : Ms → Option Ms} : kS (if p then a else a') f = if p then kS a f else kS a' f := by split <;> rfl
theorem sSet_e : sSet md i g m = kS (g m) (bind md i) := by
  unfold sSet kS nxO
  cases g m with
  | none => rfl
  | some r => cases r <;> rfl
theorem sAsg_e {f : Ms → Option Ms} : sAsg g f m = kS (g m) f := by
  unfold sAsg kS nxO
  cases g m with
  | none => rfl
  | some r => cases r <;> rfl
theorem sSubA_e : sSubA g b h m = kS (gSeq (gSeq g b) h m) stSubA := by
  unfold sSubA kS nxO
  cases gSeq (gSeq g b) h m with
  | none => rfl
  | some r => cases r <;> rfl
theorem sFldS_e {tab : List (Nat × Nat)} : sFldS tab g b m = kS (gSeq g b m) (stFld tab) := by
  unfold sFldS kS nxO
  cases gSeq g b m with
  | none => rfl
  | some r => cases r <;> rfl
theorem bind_tr (h1 : md.getD i false = false) (h2 : i < Γ.length) : bind md i ⟨Γ, .tr t :: s⟩ = some ⟨(Γ.map (killR i)).set i (.tr t), s.map (killR i)⟩ := by
  unfold bind
  rw [if_neg (by rw [h1]; simpa using h2)]
theorem bind_al {q : List Nat} (h1 : md.getD i false = false) (h2 : i < Γ.length) (h3 : q.head? ≠ some i) : bind md i ⟨Γ, .al q :: s⟩ = some ⟨(Γ.map (killR i)).set i (.al q), s.map (killR i)⟩ := by
  unfold bind
  rw [if_neg (by rw [h1]; simpa using h2)]
  simp only
  rw [if_neg h3]
/-! loops -/
theorem sForR1_e {bd : Ms → Option Ms} {n : Int} (e : g m = some (.ok ⟨Γ, .tr (.a (.int n)) :: s⟩)) (h1 : -(2 ^ 62) ≤ n) (h2 : n < 2 ^ 62) : sForR1 g bd gs m = loopR bd gs 0 n.toNat 0 ⟨Γ, s⟩ := by
  unfold sForR1
  rw [e]
  simp only
  rw [if_pos ⟨h1, h2⟩]
theorem sForR2_e {bd : Ms → Option Ms} {n k : Int} (e : g m = some (.ok ⟨Γ, .tr (.a (.int n)) :: .tr (.a (.int k)) :: s⟩)) (h1 : -(2 ^ 62) ≤ n) (h2 : n < 2 ^ 62) (h3 : -(2 ^ 62) ≤ k) (h4 : k < 2 ^ 62) : sForR2 g bd gs m = loopR bd gs k (n - k).toNat 0 ⟨Γ, s⟩ := by
  unfold sForR2
  rw [e]
  simp only
  rw [if_pos ⟨h3, h4, h1, h2⟩]
/-- a for over a range: an invariant; a turn may leave -/
theorem loopR_go {bd : Ms → Option Ms} {lo : Int} {n : Nat} (I : Nat → Ms → Prop) (Q : Os → Prop) (fin : ∀ m, I n m → Q (.nx m))
    (turn : ∀ i m, i < n → I i m → ∃ m1 o, bd ⟨m.g, .tr (.a (.int (lo + i))) :: m.s⟩ = some m1 ∧ gs m1 = some o ∧ (match o with | .nx m2 => I (i + 1) m2 | .ct m2 => I (i + 1) m2 | .bk m2 => Q (.nx m2) | o => Q o)) :
    ∀ r i m, i + r = n → I i m → ∃ o, loopR bd gs lo r i m = some o ∧ Q o
  | 0, i, m, e, h => ⟨_, rfl, fin m (by rw [← e]; exact h)⟩
  | r + 1, i, m, e, h => by
    obtain ⟨m1, o, h1, h2, h3⟩ := turn i m (by omega) h
    have e1 : loopR bd gs lo (r + 1) i m = (match gs m1 with
      | some (.nx m2) => loopR bd gs lo r (i + 1) m2
      | some (.ct m2) => loopR bd gs lo r (i + 1) m2
      | some (.bk m2) => some (.nx m2)
      | some (.rt t m2) => some (.rt t m2)
      | some (.ex C g) => some (.ex C g)
      | none => none) := by
      show (match bd ⟨m.g, .tr (.a (.int (lo + i))) :: m.s⟩ with | some m1 => _ | none => none) = _
      rw [h1]
      try simp only
      all_goals
        generalize gs m1 = q
        cases q with
        | none => rfl
        | some o => cases o <;> rfl
    rw [e1, h2]
    cases o with
    | nx m2 => exact loopR_go I Q fin turn r (i + 1) m2 (by omega) h3
    | ct m2 => exact loopR_go I Q fin turn r (i + 1) m2 (by omega) h3
    | bk m2 => exact ⟨_, rfl, h3⟩
    | rt t m2 => exact ⟨_, rfl, h3⟩
    | ex C g => exact ⟨_, rfl, h3⟩
theorem loopR_inv {bd : Ms → Option Ms} {lo : Int} {n : Nat} (I : Nat → Ms → Prop) (Q : Os → Prop) (h0 : I 0 m) (fin : ∀ m, I n m → Q (.nx m))
    (turn : ∀ i m, i < n → I i m → ∃ m1 o, bd ⟨m.g, .tr (.a (.int (lo + i))) :: m.s⟩ = some m1 ∧ gs m1 = some o ∧ (match o with | .nx m2 => I (i + 1) m2 | .ct m2 => I (i + 1) m2 | .bk m2 => Q (.nx m2) | o => Q o)) :
    ∃ o, loopR bd gs lo n 0 m = some o ∧ Q o := loopR_go I Q fin turn n 0 m (by omega) h0
end
/-! calls and comprehensions as rewriting rules -/
section
variable {is : List Nat} {mdc md : List Bool} {G : GF} {n k : Nat} {m m1 : Ms} {Γ s : List Ent} {ts : List Tr} {gs ga gt ge gb gc f f' : GE} {v : V} {p : Prop} [Decidable p] {b : Bool}
def c3 (x : Option Rt) (is : List Nat) (n : Nat) (m1 : Ms) : Option Rs := match x with
  | some (.rt r ts') => match resAll 1 n is.reverse ⟨m1.g, .tr r :: (ts'.map .tr ++ m1.s.drop n)⟩ with
    | some m2 => some (.ok ⟨m2.g, m2.s.take 1 ++ m2.s.drop (1 + (n - is.length))⟩)
    | none => none
  | some (.ex C ts') => match resAll 0 n is.reverse ⟨m1.g, ts'.map .tr ++ m1.s.drop n⟩ with
    | some m2 => some (.ex C m2.g)
    | none => none
  | none => none
theorem c3_ite {x x' : Option Rt} : c3 (if p then x else x') is n m1 = if p then c3 x is n m1 else c3 x' is n m1 := by split <;> rfl
theorem c3_rt {r : Tr} : c3 (some (.rt r ts)) is n m1 = match resAll 1 n is.reverse ⟨m1.g, .tr r :: (ts.map .tr ++ m1.s.drop n)⟩ with
    | some m2 => some (.ok ⟨m2.g, m2.s.take 1 ++ m2.s.drop (1 + (n - is.length))⟩)
    | none => none := by
  rfl
theorem c3_ex {C : Nat} : c3 (some (.ex C ts)) is n m1 = match resAll 0 n is.reverse ⟨m1.g, ts.map .tr ++ m1.s.drop n⟩ with
    | some m2 => some (.ex C m2.g)
    | none => none := by
  rfl
def c2 (x : Option (List Tr)) (is : List Nat) (G : GF) (n : Nat) (m1 : Ms) : Option Rs := match x with
  | none => none
  | some ts => c3 (G ts) is n m1
theorem c2_some : c2 (some ts) is G n m1 = c3 (G ts) is n m1 := rfl
def c1 (x : Option Ms) (is : List Nat) (mdc : List Bool) (G : GF) (n : Nat) : Option Rs := match x with
  | none => none
  | some m1 => c2 (argT m1.g mdc (m1.s.take n).reverse) is G n m1
theorem c1_some : c1 (some m1) is mdc G n = c2 (argT m1.g mdc (m1.s.take n).reverse) is G n m1 := rfl
theorem gCall_e : gCall is mdc G n m = c1 (extAll n is m) is mdc G n := by
  unfold gCall c1
  cases extAll n is m with
  | none => rfl
  | some m1 =>
    simp only
    unfold c2
    cases argT m1.g mdc (m1.s.take n).reverse with
    | none => rfl
    | some ts =>
      simp only
      unfold c3
      cases G ts with
      | none => rfl
      | some r =>
        cases r with
        | rt r ts' => first | rfl | (simp only; done) | (simp only; split <;> simp_all)
        | ex C ts' => first | rfl | (simp only; done) | (simp only; split <;> simp_all)
def k2 (x : Option Rt) (l : Nat) (m : Ms) : Option Rs := match x with
  | some (.rt (.a .non) (t :: _)) => some (.ok ⟨m.g, .tr t :: m.s.drop l⟩)
  | some (.ex C _) => some (.ex C m.g)
  | _ => none
theorem k2_rt {t : Tr} {l : Nat} : k2 (some (.rt (.a .non) (t :: ts))) l m = some (.ok ⟨m.g, .tr t :: m.s.drop l⟩) := rfl
theorem k2_ex {C : Nat} {l : Nat} : k2 (some (.ex C ts)) l m = some (.ex C m.g) := rfl
theorem k2_ite {x x' : Option Rt} {l : Nat} : k2 (if p then x else x') l m = if p then k2 x l m else k2 x' l m := by split <;> rfl
def k1 (x : Option (List Tr)) (G : GF) (l : Nat) (m : Ms) : Option Rs := match x with
  | none => none
  | some ts => k2 (G ts) l m
theorem k1_some {l : Nat} : k1 (some ts) G l m = k2 (G ts) l m := rfl
theorem gMake_e {l : Nat} : gMake n mdc G l m = k1 (argT m.g (true :: mdc) (.tr (.nd (.ins n 0) .own []) :: (m.s.take l).reverse)) G l m := by
  unfold gMake k1
  generalize argT m.g (true :: mdc) (.tr (.nd (.ins n 0) .own []) :: (m.s.take l).reverse) = q
  cases q with
  | none => rfl
  | some ts => first | rfl | (simp only; unfold k2; rfl)
/-! chains of comparisons of plain values -/
def h2 (x : Option Rs) (v : V) (gc f' : GE) : Option Rs := match x with
  | some (.ok ⟨g2, .tr (.a (.bl true)) :: s2⟩) => match gc ⟨g2, .tr (.a v) :: s2⟩ with
    | some (.ok m3) => f' m3
    | some (.ex C g) => some (.ex C g)
    | none => none
  | some (.ok ⟨g2, .tr (.a (.bl false)) :: s2⟩) => some (.ok ⟨g2, .tr (.a (.bl false)) :: s2⟩)
  | _ => none
theorem h2_ok : h2 (some (.ok ⟨Γ, .tr (.a (.bl b)) :: s⟩)) v gc f' = if b = true then bE (gc ⟨Γ, .tr (.a v) :: s⟩) f' else some (.ok ⟨Γ, .tr (.a (.bl false)) :: s⟩) := by
  cases b
  · rfl
  · simp only [h2, bE, if_true]
    cases gc ⟨Γ, .tr (.a v) :: s⟩ with
    | none => rfl
    | some r => cases r <;> rfl
def h1 (x : Option Rs) (f gc f' : GE) : Option Rs := match x with
  | some (.ok ⟨g1, .tr (.a v) :: s1⟩) => h2 (f ⟨g1, .tr (.a v) :: s1⟩) v gc f'
  | some (.ex C g) => some (.ex C g)
  | _ => none
theorem h1_ok : h1 (some (.ok ⟨Γ, .tr (.a v) :: s⟩)) f gc f' = h2 (f ⟨Γ, .tr (.a v) :: s⟩) v gc f' := rfl
theorem gChain_e : gChain ga gb f gc f' m = h1 (bE (ga m) gb) f gc f' := by
  unfold gChain h1
  rw [gSeq_e]
  rfl
/-! comprehensions that change nothing but the new list -/
theorem clr_set (h1 : Γ[k]? = some .no) (h2 : Γ.map (killR k) = Γ) {e : Ent} : ((Γ.set k e).map (killR k)).set k .no = Γ := by
  rw [List.map_set, h2, List.set_set]
  exact set_same h1
/-- one turn: the name k gets e -/
theorem lcTurn_is {e : Ent} {d : Nat} {acc : List Tr} {y : Tr} (hmd : md.getD k false = false) (hk : Γ[k]? = some .no) (hΓ : Γ.map (killR k) = Γ) (hs : s.map (killR k) = s) (hne : (∃ t, e = .tr t) ∨ ∃ q, e = .al q ∧ q.head? ≠ some k)
    (hd : s[d]? = some (.tr (.nd .lst .own acc))) (hl : acc.length < sizeLine) (ht : gt ⟨Γ.set k e, s⟩ = some (.ok ⟨Γ.set k e, .tr (.a (.bl b)) :: s⟩)) (he : b = true → ge ⟨Γ.set k e, s⟩ = some (.ok ⟨Γ.set k e, .tr y :: s⟩) ∧ esc y = true) :
    lcTurn [k] (bind md k) gt ge d ⟨Γ, e :: s⟩ = some ⟨Γ, if b = true then s.set d (.tr (.nd .lst .own (acc ++ [y]))) else s⟩ := by
  have hlt := getq_lt' hk
  have hb : bind md k ⟨Γ, e :: s⟩ = some ⟨Γ.set k e, s⟩ := by
    rcases hne with ⟨t, rfl⟩ | ⟨q, rfl, hq⟩
    · rw [bind_tr hmd hlt, hΓ, hs]
    · rw [bind_al hmd hlt hq, hΓ, hs]
  unfold lcTurn
  rw [hb]
  simp only
  rw [ht]
  cases b with
  | false =>
    simp only
    rw [if_pos (by intro i hi; rw [List.mem_singleton.mp hi, List.length_set]; exact hlt)]
    simp only [clrs, clr]
    rw [clr_set hk hΓ, hs]
    simp
  | true =>
    obtain ⟨h1, h2⟩ := he rfl
    simp only
    rw [h1]
    simp only
    rw [hd]
    simp only
    rw [if_pos ⟨h2, hl, by intro i hi; rw [List.mem_singleton.mp hi, List.length_set]; exact hlt⟩]
    simp only [clrs, clr]
    rw [clr_set hk hΓ, List.map_set, hs]
    simp [killR]
theorem allNo1 (hk : Γ[k]? = some .no) : allNo Γ [k] = true := by simp [allNo, hk]
/-- the items that a range has -/
def rng (lo : Int) (n : Nat) : List Int := (List.range n).map fun (i : Nat) => lo + (i : Int)
theorem lcR_pure {lo : Int} (hmd : md.getD k false = false) (hk : Γ[k]? = some .no) (hΓ : Γ.map (killR k) = Γ) (hs : s.map (killR k) = s) (hn : n ≤ 100000) (P : Int → Bool) (F : Int → Tr)
    (ht : ∀ x s', lo ≤ x → x < lo + n → gt ⟨Γ.set k (.tr (.a (.int x))), s'⟩ = some (.ok ⟨Γ.set k (.tr (.a (.int x))), .tr (.a (.bl (P x))) :: s'⟩))
    (he : ∀ x s', lo ≤ x → x < lo + n → P x = true → ge ⟨Γ.set k (.tr (.a (.int x))), s'⟩ = some (.ok ⟨Γ.set k (.tr (.a (.int x))), .tr (F x) :: s'⟩) ∧ esc (F x) = true) :
    lcR [k] (bind md k) gt ge lo n 0 ⟨Γ, .tr (.nd .lst .own []) :: s⟩ = some ⟨Γ, .tr (.nd .lst .own (((rng lo n).filter P).map F)) :: s⟩ := by
  have key := lcR_is (cv := [k]) (bd := bind md k) (gt := gt) (ge := ge) (lo := lo) (g := Γ) (s := s) (n := n) (fun i => P (lo + (i : Int))) (fun i => F (lo + (i : Int))) (fun i acc hi hl => by
    have hx1 : lo ≤ lo + (i : Int) := by omega
    have hx2 : lo + (i : Int) < lo + n := by omega
    rw [lcTurn_is (y := F (lo + (i : Int))) (b := P (lo + (i : Int))) (acc := acc) hmd hk hΓ (by simp [hs, killR]) (.inl ⟨_, rfl⟩) rfl (Nat.lt_of_lt_of_le (by omega : acc.length < 100000) (by decide)) (ht _ _ hx1 hx2) (fun q => he _ _ hx1 hx2 q)]
    split <;> rfl)
  rw [key]
  congr 4
  unfold rng
  rw [List.filter_map, List.map_map]
  rfl
theorem gLcR1_is {j : Int} (e : ga m = some (.ok ⟨Γ, .tr (.a (.int j)) :: s⟩)) (hj : j ≤ 100000) (hj0 : -100000 ≤ j) (hmd : md.getD k false = false) (hk : Γ[k]? = some .no) (hΓ : Γ.map (killR k) = Γ) (hs : s.map (killR k) = s) (P : Int → Bool) (F : Int → Tr)
    (ht : ∀ x s', 0 ≤ x → x < j → gt ⟨Γ.set k (.tr (.a (.int x))), s'⟩ = some (.ok ⟨Γ.set k (.tr (.a (.int x))), .tr (.a (.bl (P x))) :: s'⟩))
    (he : ∀ x s', 0 ≤ x → x < j → P x = true → ge ⟨Γ.set k (.tr (.a (.int x))), s'⟩ = some (.ok ⟨Γ.set k (.tr (.a (.int x))), .tr (F x) :: s'⟩) ∧ esc (F x) = true) :
    gLcR1 [k] ga (bind md k) gt ge m = some (.ok ⟨Γ, .tr (.nd .lst .own (((rng 0 j.toNat).filter P).map F)) :: s⟩) := by
  unfold gLcR1
  rw [e]
  simp only
  rw [if_pos ⟨by omega, by omega, allNo1 hk⟩, lcR_pure hmd hk hΓ hs (by omega) P F (fun x s' h1 h2 => ht x s' h1 (by omega)) (fun x s' h1 h2 => he x s' h1 (by omega))]
  simp only
  rw [if_pos (allNo1 hk)]
theorem gLcR2_is {i j : Int} (e : ga m = some (.ok ⟨Γ, .tr (.a (.int j)) :: .tr (.a (.int i)) :: s⟩)) (hi : -100000 ≤ i) (hi2 : i ≤ 100000) (hj : j ≤ 100000) (hj0 : -100000 ≤ j) (hij : j - i ≤ 100000) (hmd : md.getD k false = false) (hk : Γ[k]? = some .no) (hΓ : Γ.map (killR k) = Γ) (hs : s.map (killR k) = s) (P : Int → Bool) (F : Int → Tr)
    (ht : ∀ x s', i ≤ x → x < j → gt ⟨Γ.set k (.tr (.a (.int x))), s'⟩ = some (.ok ⟨Γ.set k (.tr (.a (.int x))), .tr (.a (.bl (P x))) :: s'⟩))
    (he : ∀ x s', i ≤ x → x < j → P x = true → ge ⟨Γ.set k (.tr (.a (.int x))), s'⟩ = some (.ok ⟨Γ.set k (.tr (.a (.int x))), .tr (F x) :: s'⟩) ∧ esc (F x) = true) :
    gLcR2 [k] ga (bind md k) gt ge m = some (.ok ⟨Γ, .tr (.nd .lst .own (((rng i (j - i).toNat).filter P).map F)) :: s⟩) := by
  unfold gLcR2
  rw [e]
  simp only
  rw [if_pos ⟨by omega, by omega, by omega, by omega, allNo1 hk⟩, lcR_pure hmd hk hΓ hs (by omega) P F (fun x s' h1 h2 => ht x s' h1 (by omega)) (fun x s' h1 h2 => he x s' h1 (by omega))]
  simp only
  rw [if_pos (allNo1 hk)]
/-- over a list or tuple; X j: how its j-th item comes -/
theorem gLcW_is {e : Ent} {kd : Nk} {o : Ow} {s1 : List Ent} (hg : gs m = some (.ok m1)) (hr : ready m1 = some (⟨Γ, e :: s⟩, kd, ts.length)) (hv : viewE Γ e = some (.nd kd o ts)) (hc : cpE e = true) (hl : ts.length ≤ 100000)
    (hmd : md.getD k false = false) (hk : Γ[k]? = some .no) (hΓ : Γ.map (killR k) = Γ) (hs : s.map (killR k) = s) (hke : killR k e = e) (X : Nat → Ent) (P : Nat → Bool) (F : Nat → Tr)
    (hX : ∀ j, j < ts.length → kidX e kd o ts j = some (X j) ∧ ((∃ t, X j = .tr t) ∨ ∃ q, X j = .al q ∧ q.head? ≠ some k))
    (R : List Ent → Prop) (hR : ∀ acc, R (e :: .tr (.nd .lst .own acc) :: s))
    (ht : ∀ j s', R s' → j < ts.length → gt ⟨Γ.set k (X j), s'⟩ = some (.ok ⟨Γ.set k (X j), .tr (.a (.bl (P j))) :: s'⟩))
    (he : ∀ j s', R s' → j < ts.length → P j = true → ge ⟨Γ.set k (X j), s'⟩ = some (.ok ⟨Γ.set k (X j), .tr (F j) :: s'⟩) ∧ esc (F j) = true) :
    gLc [k] gs (bind md k) gt ge m = some (.ok ⟨Γ, .tr (.nd .lst .own (((List.range ts.length).filter P).map F)) :: s⟩) := by
  unfold gLc
  rw [hg]
  simp only
  rw [hr]
  simp only
  rw [if_pos (allNo1 hk)]
  have key := lcL_go (cv := [k]) (bd := bind md k) (gt := gt) (ge := ge) (g := Γ) (s := s) (k := kd) (o := o) (ts := ts) (e := e) P F hv hc (fun j acc hj hacc => by
    obtain ⟨h1, h2⟩ := hX j hj
    refine ⟨X j, h1, ?_⟩
    rw [lcTurn_is (y := F j) (b := P j) (acc := acc) hmd hk hΓ (by rw [List.map_cons, List.map_cons, hs, hke]; rfl) h2 rfl (Nat.lt_of_lt_of_le (by omega : acc.length < 100000) (by decide)) (ht j _ (hR acc) hj) (fun q => he j _ (hR acc) hj q)]
    split <;> rfl) ts.length 0 [] (by omega) (by simp)
  rw [key]
  simp only
  rw [if_pos (allNo1 hk), List.nil_append, List.tail_cons, ← List.range_eq_range']
end
/-! a def's end -/
def fR (md : List Bool) (o : Option Os) : Option Rt := match o with
  | some (.nx m) => if escL (outP md m.g) = true then some (.rt (.a .non) (outP md m.g)) else none
  | some (.rt t m) => if esc t = true ∧ escL (outP md m.g) = true then some (.rt t (outP md m.g)) else none
  | some (.ex C g') => if escL (outP md g') = true then some (.ex C (outP md g')) else none
  | _ => none
section
variable {md : List Bool} {o o' : Option Os} {p : Prop} [Decidable p] {m : Ms} {t : Tr} {C N : Nat} {g : List Ent} {gs : GS} {ts : List Tr}
def nos : Nat → List Ent
  | 0 => []
  | n + 1 => .no :: nos n
theorem nos_e : ∀ n, nos n = List.replicate n .no
  | 0 => rfl
  | n + 1 => by
    rw [nos, nos_e n]
    rfl
theorem runF_e : runF md N gs ts = fR md (gs ⟨ts.map Ent.tr ++ nos (N - ts.length), []⟩) := by
  rw [nos_e]
  unfold runF fR
  rfl
theorem fR_ite : fR md (if p then o else o') = if p then fR md o else fR md o' := by split <;> rfl
theorem fR_nx : fR md (some (.nx m)) = if escL (outP md m.g) = true then some (.rt (.a .non) (outP md m.g)) else none := rfl
theorem fR_rt : fR md (some (.rt t m)) = if esc t = true ∧ escL (outP md m.g) = true then some (.rt t (outP md m.g)) else none := rfl
theorem fR_ex : fR md (some (.ex C g)) = if escL (outP md g) = true then some (.ex C (outP md g)) else none := rfl
theorem rt_ite {x y : V} : (if p then some (Rt.rt (.a x) ts) else some (Rt.rt (.a y) ts)) = some (Rt.rt (.a (if p then x else y)) ts) := by split <;> rfl
theorem int_ite {x y : Int} : (if p then V.int x else V.int y) = V.int (if p then x else y) := by split <;> rfl
theorem bl_ite {x y : Bool} : (if p then V.bl x else V.bl y) = V.bl (if p then x else y) := by split <;> rfl
end
/-! an argument that is handed on after all of them have been read -/
section
variable {K : KC} {X : Cx} {T : KT} {md : List Bool} {W : WX} {g : GE} {es : List Expr} {d : Nat}
def fMvD (md : List Bool) (d : Nat) : GE := fun m => match m.s[d]? with
  | some (.tr _) => some (.ok m)
  | some e => match fMv md ⟨m.g, e :: m.s.eraseIdx d⟩ with
    | some (.ok ⟨g', e' :: s'⟩) => some (.ok ⟨g', s'.take d ++ e' :: s'.drop d⟩)
    | _ => none
  | none => none
theorem fMvD_ok {c : Cz} {σ : St} {H : Hp} {m m' : Ms} {us : List V} (E : EnvOk K c σ H m.g m.s us) (hf : fMvD md d m = some (.ok m')) : EnvOk K c σ H m'.g m'.s us := by
  have hl := tail_len E
  unfold fMvD at hf
  split at hf
  · cases hf
    exact E
  · rename_i e hn he
    split at hf
    · rename_i g' e' s' h1
      cases hf
      have hlt := getq_lt' he
      have hdu : d < us.length := by omega
      have es := split_at he
      have eu := split_at (List.getElem?_eq_getElem hdu)
      rw [es, eu] at E
      have E1 := EnvOk.permA (A := m.s.take d) (B := [e]) (va := us.take d) (vb := [us[d]]) (by simp; omega) rfl E
      have E2 : EnvOk K c σ H m.g (e :: m.s.eraseIdx d) (us[d] :: us.eraseIdx d) := by
        rw [erase_split, erase_split]
        exact E1
      have E3 : EnvOk K c σ H g' (e' :: s') (us[d] :: us.eraseIdx d) := fMv_ok (m := ⟨m.g, e :: m.s.eraseIdx d⟩) E2 h1
      have hl2 := tail_len E3
      have hle : (us.eraseIdx d).length = us.length - 1 := by rw [List.length_eraseIdx]; simp; omega
      simp only [List.length_cons] at hl2
      have E4 : EnvOk K c σ H g' ([e'] ++ (s'.take d ++ s'.drop d)) ([us[d]] ++ ((us.eraseIdx d).take d ++ (us.eraseIdx d).drop d)) := by
        rw [List.take_append_drop, List.take_append_drop]
        exact E3
      have E5 := EnvOk.permA (A := [e']) (B := s'.take d) (va := [us[d]]) (vb := (us.eraseIdx d).take d) rfl (by simp; omega) E4
      have e1 : (us.eraseIdx d).take d = us.take d := by rw [erase_split, List.take_append_of_le_length (by simp; omega), List.take_take]; congr 1; omega
      have e2 : (us.eraseIdx d).drop d = us.drop (d + 1) := by
        rw [erase_split, List.drop_append]
        have : (us.take d).length = d := by simp; omega
        rw [this]
        simp
      rw [e1, e2] at E5
      rw [eu]
      exact E5
    · cases hf
  · cases hf
theorem ma_mvd (h : MA X T md W es g) : MA X T md W es (gSeq g (fMvD md d)) := by
  obtain ⟨t, p, s⟩ := h
  refine ⟨t, p, fun c σ H m us Q rr hc E hg hp => ?_⟩
  simp only [gSeq] at hg
  split at hg
  · rename_i m1 h1
    refine s c σ H m us _ _ hc E h1 fun vs H1 hl E1 => ?_
    cases rr with
    | ex C g' =>
      exfalso
      unfold fMvD at hg
      split at hg
      · cases hg
      · split at hg <;> cases hg
      · cases hg
    | ok m2 => exact hp vs H1 hl (fMvD_ok E1 hg)
  · rename_i h1
    refine s c σ H m us _ _ hc E hg ?_
    cases rr with
    | ex C g' => exact hp
    | ok m2 => exact absurd hg (h1 m2)
end
/-! comprehensions over a list of encoded things, steps of statements -/
section
variable {md : List Bool} {k n : Nat} {m m1 : Ms} {Γ s : List Ent} {gs gt ge : GE} {e : Ent} {kd : Nk} {o : Ow} {α : Type}
def atO (xs : List α) (f : α → β) (d : β) (j : Nat) : β := match xs[j]? with
  | some x => f x
  | none => d
theorem atO_map {β : Type} (xs : List α) (p : α → Bool) (F : α → β) (d : β) : ((List.range xs.length).filter (atO xs p false)).map (atO xs F d) = (xs.filter p).map F := by
  have key : ∀ (ys pre : List α), xs = pre ++ ys → ((List.range' pre.length ys.length).filter (atO xs p false)).map (atO xs F d) = (ys.filter p).map F := by
    intro ys
    induction ys with
    | nil => intro pre _; simp
    | cons y ys ih =>
      intro pre hx
      have h1 : ∀ {γ : Type} (f : α → γ) (d : γ), atO xs f d pre.length = f y := fun {γ} f d => by
        unfold atO
        rw [hx]
        simp
      have h2 := ih (pre ++ [y]) (by simp [hx])
      rw [List.length_append, List.length_singleton] at h2
      rw [List.length_cons, List.range'_succ, List.filter_cons, List.filter_cons, h1]
      split
      · rw [List.map_cons, List.map_cons, h1, h2]
      · exact h2
  have := key xs [] rfl
  rw [List.range_eq_range']
  exact this
theorem gLcAW_is {xs : List α} {enc : α → Tr} (hg : gs m = some (.ok m1)) (hr : ready m1 = some (⟨Γ, e :: s⟩, kd, xs.length)) (hv : viewE Γ e = some (.nd kd o (xs.map enc))) (hc : cpE e = true) (hl : xs.length ≤ 100000)
    (hmd : md.getD k false = false) (hk : Γ[k]? = some .no) (hΓ : Γ.map (killR k) = Γ) (hs : s.map (killR k) = s) (hke : killR k e = e) (hcp : ∀ x ∈ xs, cp (kid o (enc x)) = true) (p : α → Bool) (F : α → Tr)
    (R : List Ent → Prop) (hR : ∀ acc, R (e :: .tr (.nd .lst .own acc) :: s))
    (ht : ∀ x ∈ xs, ∀ s', R s' → gt ⟨Γ.set k (.tr (kid o (enc x))), s'⟩ = some (.ok ⟨Γ.set k (.tr (kid o (enc x))), .tr (.a (.bl (p x))) :: s'⟩))
    (he : ∀ x ∈ xs, ∀ s', R s' → p x = true → ge ⟨Γ.set k (.tr (kid o (enc x))), s'⟩ = some (.ok ⟨Γ.set k (.tr (kid o (enc x))), .tr (F x) :: s'⟩) ∧ esc (F x) = true) :
    gLc [k] gs (bind md k) gt ge m = some (.ok ⟨Γ, .tr (.nd .lst .own ((xs.filter p).map F)) :: s⟩) := by
  have at_ : ∀ {γ : Type} (f : α → γ) (d : γ) {j : Nat} {x : α}, xs[j]? = some x → atO xs f d j = f x := fun {γ} f d {j x} h => by unfold atO; rw [h]
  have hx : ∀ j, j < (xs.map enc).length → ∃ x ∈ xs, xs[j]? = some x := fun j hj => by
    have hj' : j < xs.length := by simpa using hj
    exact ⟨xs[j], List.getElem_mem hj', List.getElem?_eq_getElem hj'⟩
  rw [gLcW_is (s1 := []) (s := s) (Γ := Γ) (e := e) (kd := kd) (ts := xs.map enc) hg (by rw [List.length_map]; exact hr) hv hc (by simpa using hl) hmd hk hΓ hs hke (fun j => .tr (atO xs (fun x => kid o (enc x)) .any j)) (atO xs p false) (atO xs F .any)
    (fun j hj => by
      obtain ⟨x, hm, hx⟩ := hx j hj
      refine ⟨?_, .inl ⟨_, rfl⟩⟩
      rw [at_ _ _ hx]
      unfold kidX
      rw [List.getElem?_map, hx]
      simp only [Option.map_some]
      rw [if_pos (hcp x hm)])
    R hR (fun j s' hr hj => by
      obtain ⟨x, hm, hx⟩ := hx j hj
      rw [at_ _ _ hx, at_ _ _ hx]
      exact ht x hm s' hr)
    (fun j s' hr hj hp => by
      obtain ⟨x, hm, hx⟩ := hx j hj
      rw [at_ _ _ hx] at hp ⊢
      rw [at_ _ _ hx]
      exact he x hm s' hr hp)]
  rw [List.length_map, atO_map]
theorem gLcA_is {xs : List α} {enc : α → Tr} (hg : gs m = some (.ok m1)) (hr : ready m1 = some (⟨Γ, e :: s⟩, kd, xs.length)) (hv : viewE Γ e = some (.nd kd o (xs.map enc))) (hc : cpE e = true) (hl : xs.length ≤ 100000)
    (hmd : md.getD k false = false) (hk : Γ[k]? = some .no) (hΓ : Γ.map (killR k) = Γ) (hs : s.map (killR k) = s) (hke : killR k e = e) (hcp : ∀ x ∈ xs, cp (kid o (enc x)) = true) (p : α → Bool) (F : α → Tr)
    (ht : ∀ x ∈ xs, ∀ s', gt ⟨Γ.set k (.tr (kid o (enc x))), s'⟩ = some (.ok ⟨Γ.set k (.tr (kid o (enc x))), .tr (.a (.bl (p x))) :: s'⟩))
    (he : ∀ x ∈ xs, ∀ s', p x = true → ge ⟨Γ.set k (.tr (kid o (enc x))), s'⟩ = some (.ok ⟨Γ.set k (.tr (kid o (enc x))), .tr (F x) :: s'⟩) ∧ esc (F x) = true) :
    gLc [k] gs (bind md k) gt ge m = some (.ok ⟨Γ, .tr (.nd .lst .own ((xs.filter p).map F)) :: s⟩) := gLcAW_is hg hr hv hc hl hmd hk hΓ hs hke hcp p F (fun _ => True) (fun _ => trivial) (fun x h s' _ => ht x h s') (fun x h s' _ => he x h s')
/-- the same where the source changes nothing -/
theorem gLcP_is {xs : List α} {enc : α → Tr} (e0 e : Ent) (kd : Nk) (o : Ow) (hg : gs ⟨Γ, s⟩ = some (.ok ⟨Γ, e0 :: s⟩)) (hr : ready ⟨Γ, e0 :: s⟩ = some (⟨Γ, e :: s⟩, kd, xs.length)) (hv : viewE Γ e = some (.nd kd o (xs.map enc))) (hc : cpE e = true) (hl : xs.length ≤ 100000)
    (hmd : md.getD k false = false) (hk : Γ[k]? = some .no) (hΓ : Γ.map (killR k) = Γ) (hs : s.map (killR k) = s) (hke : killR k e = e) (hcp : ∀ x ∈ xs, cp (kid o (enc x)) = true) (p : α → Bool) (F : α → Tr)
    (ht : ∀ x ∈ xs, ∀ s', gt ⟨Γ.set k (.tr (kid o (enc x))), s'⟩ = some (.ok ⟨Γ.set k (.tr (kid o (enc x))), .tr (.a (.bl (p x))) :: s'⟩))
    (he : ∀ x ∈ xs, ∀ s', p x = true → ge ⟨Γ.set k (.tr (kid o (enc x))), s'⟩ = some (.ok ⟨Γ.set k (.tr (kid o (enc x))), .tr (F x) :: s'⟩) ∧ esc (F x) = true) :
    gLc [k] gs (bind md k) gt ge ⟨Γ, s⟩ = some (.ok ⟨Γ, .tr (.nd .lst .own ((xs.filter p).map F)) :: s⟩) := gLcA_is hg hr hv hc hl hmd hk hΓ hs hke hcp p F ht he
theorem gLcR1P {ga : GE} {j : Int} (e : ga ⟨Γ, s⟩ = some (.ok ⟨Γ, .tr (.a (.int j)) :: s⟩)) (hj : j ≤ 100000) (hj0 : -100000 ≤ j) (hmd : md.getD k false = false) (hk : Γ[k]? = some .no) (hΓ : Γ.map (killR k) = Γ) (hs : s.map (killR k) = s) (P : Int → Bool) (F : Int → Tr)
    (ht : ∀ x s', 0 ≤ x → x < j → gt ⟨Γ.set k (.tr (.a (.int x))), s'⟩ = some (.ok ⟨Γ.set k (.tr (.a (.int x))), .tr (.a (.bl (P x))) :: s'⟩))
    (he : ∀ x s', 0 ≤ x → x < j → P x = true → ge ⟨Γ.set k (.tr (.a (.int x))), s'⟩ = some (.ok ⟨Γ.set k (.tr (.a (.int x))), .tr (F x) :: s'⟩) ∧ esc (F x) = true) :
    gLcR1 [k] ga (bind md k) gt ge ⟨Γ, s⟩ = some (.ok ⟨Γ, .tr (.nd .lst .own (((rng 0 j.toNat).filter P).map F)) :: s⟩) := gLcR1_is e hj hj0 hmd hk hΓ hs P F ht he
theorem gLcR2P {ga : GE} {i j : Int} (e : ga ⟨Γ, s⟩ = some (.ok ⟨Γ, .tr (.a (.int j)) :: .tr (.a (.int i)) :: s⟩)) (hi : -100000 ≤ i) (hi2 : i ≤ 100000) (hj : j ≤ 100000) (hj0 : -100000 ≤ j) (hij : j - i ≤ 100000) (hmd : md.getD k false = false) (hk : Γ[k]? = some .no) (hΓ : Γ.map (killR k) = Γ) (hs : s.map (killR k) = s) (P : Int → Bool) (F : Int → Tr)
    (ht : ∀ x s', i ≤ x → x < j → gt ⟨Γ.set k (.tr (.a (.int x))), s'⟩ = some (.ok ⟨Γ.set k (.tr (.a (.int x))), .tr (.a (.bl (P x))) :: s'⟩))
    (he : ∀ x s', i ≤ x → x < j → P x = true → ge ⟨Γ.set k (.tr (.a (.int x))), s'⟩ = some (.ok ⟨Γ.set k (.tr (.a (.int x))), .tr (F x) :: s'⟩) ∧ esc (F x) = true) :
    gLcR2 [k] ga (bind md k) gt ge ⟨Γ, s⟩ = some (.ok ⟨Γ, .tr (.nd .lst .own (((rng i (j - i).toNat).filter P).map F)) :: s⟩) := gLcR2_is e hi hi2 hj hj0 hij hmd hk hΓ hs P F ht he
theorem filt_true (l : List α) : l.filter (fun _ => true) = l := List.filter_eq_self.mpr fun _ _ => rfl
end
/-! lists of ints as trees -/
abbrev rowT (r : List Int) : Tr := .nd .lst .own (r.map iT)
abbrev tupT (r : List Int) : Tr := .nd .tup .own (r.map iT)
def gz (xs : List Int) (i : Int) : Int := xs.getD i.toNat 0
theorem getD_of {α : Type} {xs : List α} {i : Nat} {d : α} (h : i < xs.length) : xs[i]? = some (xs.getD i d) := by
  rw [List.getD_eq_getElem?_getD, List.getElem?_eq_getElem h]
  rfl
theorem ixN_len {n : Nat} {i : Int} (h0 : 0 ≤ i) (h : i < n) : ixN n i = some i.toNat := by
  unfold ixN
  rw [if_pos h0, if_pos (by omega)]
theorem gz_get {xs : List Int} {i : Int} (h0 : 0 ≤ i) (h : i < xs.length) : xs[i.toNat]? = some (gz xs i) := getD_of (by omega)
theorem set_iT (xs : List Int) (i : Nat) (v : Int) : (xs.map iT).set i (.a (.int v)) = (xs.set i v).map iT := by simp
theorem mapk_iT (o : Ow) (xs : List Int) : (xs.map iT).map (kid o) = xs.map iT := by
  rw [List.map_map]
  rfl
theorem kidc_iT (o : Ow) : (kid o ∘ iT) = iT := rfl
theorem set_rowT (M : List (List Int)) (i : Nat) (r : List Int) : (M.map rowT).set i (.nd .lst .own (r.map iT)) = (M.set i r).map rowT := by simp
@[simp] theorem escL_row (M : List (List Int)) : escL (M.map rowT) = true := escL_map fun _ => rfl
theorem app_iT (xs : List Int) (x : Int) : xs.map iT ++ [.a (.int x)] = (xs ++ [x]).map iT := by simp
theorem app_map (xs ys : List Int) : xs.map iT ++ ys.map iT = (xs ++ ys).map iT := by simp
theorem kidL_iT (o : Ow) : ∀ xs : List Int, kidL o (xs.map iT) = xs.map iT
  | [] => rfl
  | x :: xs => by
    show kid o (iT x) :: kidL o (xs.map iT) = _
    rw [kidL_iT o xs]
    rfl
section
variable {Γ s : List Ent} {m : Ms} {x y z : Int} {n : Nat} {xs : List Int} {o : Ow}
theorem fMul_int (h : cMul x y = true) : fMul ⟨Γ, .tr (.a (.int y)) :: .tr (.a (.int x)) :: s⟩ = some (.ok ⟨Γ, .tr (.a (.int (x * y))) :: s⟩) := by
  simp [fMul, gOr, fP2, viewE, FI, h]
theorem flat_rep (n : Nat) (z : Tr) : (List.replicate n [z]).flatten = List.replicate n z := by
  induction n with
  | zero => rfl
  | succ n ih => rw [List.replicate_succ, List.flatten_cons, ih, List.replicate_succ]; rfl
theorem fMul_rep (h0 : 0 ≤ y) (h1 : y ≤ 100000) : fMul ⟨Γ, .tr (.a (.int y)) :: .tr (.nd .lst .own [.a (.int z)]) :: s⟩ = some (.ok ⟨Γ, .tr (rowT (List.replicate y.toNat z)) :: s⟩) := by
  have hs : (100000 : Nat) < sizeLine := by decide
  have e : fMul ⟨Γ, .tr (.a (.int y)) :: .tr (.nd .lst .own [.a (.int z)]) :: s⟩ = fRep ⟨Γ, .tr (.a (.int y)) :: .tr (.nd .lst .own [.a (.int z)]) :: s⟩ := rfl
  rw [e]
  unfold fRep
  simp only [viewE]
  rw [if_pos ⟨rfl, by omega, by omega, by show 1 * y.toNat ≤ sizeLine; omega⟩]
  have e2 : (List.replicate y.toNat (([.a (.int z)] : List Tr).map (kid .own))).flatten = (List.replicate y.toNat z).map iT := by
    rw [show (([.a (.int z)] : List Tr).map (kid .own)) = [iT z] from rfl, flat_rep, List.map_replicate]
  rw [e2]
  have e3 : mkN .lst ((List.replicate y.toNat z).map iT) = some (rowT (List.replicate y.toNat z)) := by
    unfold mkN
    rw [if_neg (by decide), if_pos (escL_iT _)]
  rw [e3]
theorem rng_map_const (n : Nat) (lo : Int) {β : Type} (c : β) : (rng lo n).map (fun _ => c) = List.replicate n c := by
  unfold rng
  rw [List.map_map]
  apply List.ext_getElem
  · simp
  · intro i h1 h2
    simp
theorem mem_rng {lo : Int} {n : Nat} {x : Int} : x ∈ rng lo n ↔ lo ≤ x ∧ x < lo + n := by
  unfold rng
  rw [List.mem_map]
  constructor
  · rintro ⟨i, hi, rfl⟩
    have := List.mem_range.mp hi
    omega
  · rintro ⟨h1, h2⟩
    exact ⟨(x - lo).toNat, List.mem_range.mpr (by omega), by omega⟩
theorem rng_len (lo : Int) (n : Nat) : (rng lo n).length = n := by simp [rng]
theorem gz_set {xs : List Int} {i j v : Int} (h0 : 0 ≤ i) (h1 : i < xs.length) (j0 : 0 ≤ j) : gz (xs.set i.toNat v) j = if j = i then v else gz xs j := by
  unfold gz
  rw [List.getD_eq_getElem?_getD, List.getD_eq_getElem?_getD]
  by_cases e : j = i
  · rw [if_pos e, e, List.getElem?_set_self (by omega)]
    rfl
  · rw [if_neg e, List.getElem?_set_ne (by omega)]
theorem ext_gz {xs ys : List Int} (h : xs.length = ys.length) (e : ∀ i : Int, 0 ≤ i → i < xs.length → gz xs i = gz ys i) : xs = ys := by
  apply List.ext_getElem h
  intro i h1 h2
  have := e i (by omega) (by omega)
  unfold gz at this
  rw [List.getD_eq_getElem?_getD, List.getD_eq_getElem?_getD] at this
  simpa [h1, h2] using this
end
/-! data that may be compared -/
def Sh (n : Nat) (d : PyData) : Prop := d.canLay0 = true ∧ d.depth ≤ n
def ShAll (n : Nat) (ds : List PyData) : Prop := ∀ d ∈ ds, Sh n d
theorem canLayAll_of : ∀ (ds : List PyData), (∀ d ∈ ds, d.canLay0 = true) → PyData.canLayAll0 ds = true
  | [], _ => by simp only [PyData.canLayAll0]
  | d :: ds, h => by
    rw [PyData.canLayAll0, h d List.mem_cons_self, canLayAll_of ds fun x hx => h x (List.mem_cons_of_mem _ hx)]
    rfl
theorem depthAll_le {n : Nat} : ∀ (ds : List PyData), (∀ d ∈ ds, d.depth ≤ n) → PyData.depthAll ds ≤ n
  | [], _ => by simp only [PyData.depthAll]; exact Nat.zero_le _
  | d :: ds, h => by
    rw [PyData.depthAll]
    have h1 := h d List.mem_cons_self
    have h2 := depthAll_le ds fun x hx => h x (List.mem_cons_of_mem _ hx)
    omega
theorem Sh.tup {n : Nat} {ds : List PyData} (h : ShAll n ds) : Sh (n + 1) (.tuple ds) := by
  refine ⟨by rw [PyData.canLay0]; exact canLayAll_of ds fun d hd => (h d hd).1, ?_⟩
  rw [PyData.depth]
  have := depthAll_le ds fun d hd => (h d hd).2
  omega
theorem Sh.lst {n : Nat} {ds : List PyData} (h : ShAll n ds) : Sh (n + 1) (.list ds) := by
  refine ⟨by rw [PyData.canLay0]; exact canLayAll_of ds fun d hd => (h d hd).1, ?_⟩
  rw [PyData.depth]
  have := depthAll_le ds fun d hd => (h d hd).2
  omega
theorem Sh.int {n : Nat} (i : Int) : Sh n (.int i) := ⟨by simp only [PyData.canLay0], by simp only [PyData.depth]; exact Nat.zero_le _⟩
theorem Sh.bool {n : Nat} (b : Bool) : Sh n (.bool b) := ⟨by simp only [PyData.canLay0], by simp only [PyData.depth]; exact Nat.zero_le _⟩
theorem Sh.non {n : Nat} : Sh n .none := ⟨by simp only [PyData.canLay0], by simp only [PyData.depth]; exact Nat.zero_le _⟩
theorem Sh.str {n : Nat} {x : Str} (h : PyData.strOk x = true) : Sh n (.str x) := ⟨by simp only [PyData.canLay0]; exact h, by simp only [PyData.depth]; exact Nat.zero_le _⟩
theorem Sh.mono {n m : Nat} {d : PyData} (h : Sh n d) (l : n ≤ m) : Sh m d := ⟨h.1, Nat.le_trans h.2 l⟩
theorem ShAll.nil {n : Nat} : ShAll n [] := fun _ h => absurd h (by simp)
theorem ShAll.cons {n : Nat} {d : PyData} {ds : List PyData} (h : Sh n d) (k : ShAll n ds) : ShAll n (d :: ds) := fun x hx => by
  rcases List.mem_cons.mp hx with q | q
  · rw [q]
    exact h
  · exact k x q
theorem ShAll.map {α : Type} {n : Nat} {f : α → PyData} {l : List α} (h : ∀ x, Sh n (f x)) : ShAll n (l.map f) := fun d hd => by
  obtain ⟨x, _, rfl⟩ := List.mem_map.mp hd
  exact h x
theorem Sh.shaped {d : PyData} (h : Sh 64 d) : SeqAt.shaped d = true := by
  unfold SeqAt.shaped
  rw [h.1, decide_eq_true h.2]
  rfl
/-! comparing plain data -/
structure DD {α : Type} [DecidableEq α] (n : Nat) (dd : α → PyData) : Prop where
  sh : ∀ x, Sh n (dd x)
  eq : ∀ x y, PyData.eqv (dd x) (dd y) = decide (x = y)
theorem dd_int : DD 0 PyData.int := ⟨fun i => .int i, fun x y => by
  simp only [PyData.eqv]
  by_cases h : x = y <;> simp [h]⟩
section
variable {α : Type} [DecidableEq α] {n : Nat} {dd : α → PyData} {neg : Bool} {o o' : Ow}
theorem dd_all (h : DD n dd) : ∀ xs ys : List α, PyData.eqvAll (xs.map dd) (ys.map dd) = decide (xs = ys)
  | [], [] => by simp [PyData.eqvAll]
  | [], _ :: _ => by simp [PyData.eqvAll]
  | _ :: _, [] => by simp [PyData.eqvAll]
  | a :: r, b :: t => by
    simp only [List.map_cons, PyData.eqvAll, h.eq, dd_all h r t]
    by_cases h1 : a = b <;> by_cases h2 : r = t <;> simp [h1, h2]
theorem dd_list (h : DD n dd) : DD (n + 1) (fun xs : List α => .list (xs.map dd)) := ⟨fun _ => .lst (.map h.sh), fun x y => by
  simp only [PyData.eqv]
  exact dd_all h x y⟩
theorem dd_tup (h : DD n dd) : DD (n + 1) (fun xs : List α => .tuple (xs.map dd)) := ⟨fun _ => .tup (.map h.sh), fun x y => by
  simp only [PyData.eqv]
  exact dd_all h x y⟩
theorem toDL_map {enc : α → Tr} (h : ∀ x, toD (enc x) = some (dd x)) : ∀ xs : List α, toDL (xs.map enc) = some (xs.map dd)
  | [] => rfl
  | x :: xs => by
    rw [List.map_cons, toDL, h x, toDL_map h xs]
    rfl
theorem toD_iT (x : Int) : toD (iT x) = some (.int x) := rfl
theorem toD_row (r : List Int) : toD (.nd .lst o (r.map iT)) = some (.list (r.map .int)) := by
  rw [toD, toDL_map toD_iT]
theorem toD_tup (r : List Int) : toD (.nd .tup o (r.map iT)) = some (.tuple (r.map .int)) := by
  rw [toD, toDL_map toD_iT]
theorem toD_mat (M : List (List Int)) : toD (.nd .lst o (M.map rowT)) = some (.list (M.map fun r => .list (r.map .int))) := by
  rw [toD, toDL_map (dd := fun r => .list (r.map .int)) fun r => toD_row r]
theorem feq_of {k k' : Nk} {ts us : List Tr} {x y : α} (h : DD n dd) (hn : n ≤ 64) (h1 : toD (.nd k o ts) = some (dd x)) (h2 : toD (.nd k' o' us) = some (dd y)) : FEq neg (.nd k o ts) (.nd k' o' us) = some (.bl (if neg then !decide (x = y) else decide (x = y))) := by
  unfold FEq
  simp only [h1, h2, ((h.sh x).mono hn).shaped, ((h.sh y).mono hn).shaped, h.eq, true_and, if_true]
end
section
variable {neg : Bool} {o o' : Ow} {Γ s : List Ent} {e : Ent}
theorem FEq_row (r q : List Int) : FEq neg (.nd .lst o (r.map iT)) (.nd .lst o' (q.map iT)) = some (.bl (if neg then !decide (r = q) else decide (r = q))) := feq_of (dd_list dd_int) (by decide) (toD_row r) (toD_row q)
theorem FEq_tup (r q : List Int) : FEq neg (.nd .tup o (r.map iT)) (.nd .tup o' (q.map iT)) = some (.bl (if neg then !decide (r = q) else decide (r = q))) := feq_of (dd_tup dd_int) (by decide) (toD_tup r) (toD_tup q)
theorem FEq_mat (r q : List (List Int)) : FEq neg (.nd .lst o (r.map rowT)) (.nd .lst o' (q.map rowT)) = some (.bl (if neg then !decide (r = q) else decide (r = q))) := feq_of (dd_list (dd_list dd_int)) (by decide) (toD_mat r) (toD_mat q)
theorem FEq_pair (a b c d : Int) : FEq neg (.nd .tup o [.a (.int a), .a (.int b)]) (.nd .tup o' [.a (.int c), .a (.int d)]) = some (.bl (if neg then !decide (a = c ∧ b = d) else decide (a = c ∧ b = d))) := by
  have := FEq_tup (neg := neg) (o := o) (o' := o') [a, b] [c, d]
  simpa using this
theorem FEq_int (a b : Int) : FEq neg (.a (.int a)) (.a (.int b)) = some (.bl (if neg then !decide (a = b) else decide (a = b))) := by
  unfold FEq
  simp [scal]
theorem FEq_str (a b : Str) : FEq neg (.a (.str a)) (.a (.str b)) = some (.bl (if neg then !decide (a = b) else decide (a = b))) := by
  unfold FEq
  simp [scal]
theorem FEq_bl (a b : Bool) : FEq neg (.a (.bl a)) (.a (.bl b)) = some (.bl (if neg then !decide (a = b) else decide (a = b))) := by
  unfold FEq
  simp [scal]
theorem atoms_map {α : Type} {f : α → V} : ∀ xs : List α, atoms (xs.map fun x => Tr.a (f x)) = some (xs.map f)
  | [] => rfl
  | x :: xs => by
    rw [List.map_cons, atoms, atoms_map xs]
    rfl
theorem FIn_int (x : Int) (xs : List Int) (k : Nk) (hk : k = .lst ∨ k = .tup) : FIn neg (.a (.int x)) (.nd k o (xs.map iT)) = some (.bl (if neg then !decide (x ∈ xs) else decide (x ∈ xs))) := by
  have h1 : atoms (xs.map iT) = some (xs.map V.int) := atoms_map (f := V.int) xs
  have h2 : (xs.map V.int).all flatV = true := by simp [flatV]
  rcases hk with rfl | rfl
  all_goals
    unfold FIn
    simp only [h1]
    rw [if_pos ⟨rfl, h2⟩, inV_int]
theorem FIn_l (x : Int) (xs : List Int) : FIn neg (.a (.int x)) (.nd .lst o (xs.map iT)) = some (.bl (if neg then !decide (x ∈ xs) else decide (x ∈ xs))) := FIn_int x xs _ (.inl rfl)
theorem FIn_t (x : Int) (xs : List Int) : FIn neg (.a (.int x)) (.nd .tup o (xs.map iT)) = some (.bl (if neg then !decide (x ∈ xs) else decide (x ∈ xs))) := FIn_int x xs _ (.inr rfl)
end
/-! loops that look through things and may leave with an answer -/
section
variable {md : List Bool} {k n : Nat} {Γ s : List Ent} {gs : GS} {lo : Int} {t : Tr} {α : Type}
theorem bind_set {e : Ent} {u : Tr} (hmd : md.getD k false = false) (hk : k < Γ.length) (hΓ : Γ.map (killR k) = Γ) (hs : s.map (killR k) = s) : bind md k ⟨Γ.set k e, .tr u :: s⟩ = some ⟨Γ.set k (.tr u), s⟩ := by
  rw [bind_tr hmd (by rw [List.length_set]; exact hk), hs, List.map_set, hΓ, List.set_set]
theorem set_self (hk : k < Γ.length) : ∃ e, Γ = Γ.set k e := ⟨Γ[k], by rw [List.set_getElem_self]⟩
theorem rng_succ (lo : Int) (n : Nat) : rng lo (n + 1) = lo :: rng (lo + 1) n := by
  unfold rng
  rw [List.range_succ_eq_map, List.map_cons, List.map_map]
  congr 1
  · simp
  · apply List.map_congr_left
    intro i _
    simp only [Function.comp, Nat.succ_eq_add_one]
    omega
theorem loopR_allT (hmd : md.getD k false = false) (hk : k < Γ.length) (hΓ : Γ.map (killR k) = Γ) (hs : s.map (killR k) = s) (p : Int → Bool)
    (hb : ∀ x, lo ≤ x → x < lo + n → gs ⟨Γ.set k (.tr (iT x)), s⟩ = some (if p x = true then .nx ⟨Γ.set k (.tr (iT x)), s⟩ else .rt t ⟨Γ.set k (.tr (iT x)), s⟩)) :
    ∃ e, (Γ[k]? = some e ∨ ∃ t, e = .tr t) ∧ loopR (bind md k) gs lo n 0 ⟨Γ, s⟩ = some (if (rng lo n).all p = true then .nx ⟨Γ.set k e, s⟩ else .rt t ⟨Γ.set k e, s⟩) := by
  have key : ∀ r i e, i + r = n → ∃ e', (e' = e ∨ ∃ t, e' = .tr t) ∧ loopR (bind md k) gs lo r i ⟨Γ.set k e, s⟩ = some (if (rng (lo + i) r).all p = true then .nx ⟨Γ.set k e', s⟩ else .rt t ⟨Γ.set k e', s⟩) := by
    intro r
    induction r with
    | zero =>
      intro i e hi
      exact ⟨e, .inl rfl, rfl⟩
    | succ r ih =>
      intro i e hi
      obtain ⟨e2, q2, h2⟩ := ih (i + 1) (.tr (iT (lo + i))) (by omega)
      unfold loopR
      simp only [bind_set hmd hk hΓ hs]
      have hb1 := hb (lo + i) (by omega) (by omega)
      rw [show lo + ((i + 1 : Nat) : Int) = lo + i + 1 by omega] at h2
      rw [rng_succ]
      by_cases hp : p (lo + i) = true
      · rw [if_pos hp] at hb1
        refine ⟨e2, .inr (q2.elim (fun z => ⟨_, z⟩) id), ?_⟩
        rw [hb1]
        simp only
        rw [h2]
        simp [hp]
      · rw [if_neg hp] at hb1
        refine ⟨.tr (iT (lo + i)), .inr ⟨_, rfl⟩, ?_⟩
        rw [hb1]
        simp [hp]
  have he : Γ = Γ.set k Γ[k] := by rw [List.set_getElem_self]
  obtain ⟨e', q, h⟩ := key n 0 Γ[k] (by omega)
  rw [← he] at h
  refine ⟨e', q.imp (fun z => by rw [z]; exact List.getElem?_eq_getElem hk) id, h.trans ?_⟩
  simp
theorem loopR_all (hmd : md.getD k false = false) (hk : k < Γ.length) (hΓ : Γ.map (killR k) = Γ) (hs : s.map (killR k) = s) (p : Int → Bool)
    (hb : ∀ x, lo ≤ x → x < lo + n → gs ⟨Γ.set k (.tr (iT x)), s⟩ = some (if p x = true then .nx ⟨Γ.set k (.tr (iT x)), s⟩ else .rt t ⟨Γ.set k (.tr (iT x)), s⟩)) :
    ∃ e, loopR (bind md k) gs lo n 0 ⟨Γ, s⟩ = some (if (rng lo n).all p = true then .nx ⟨Γ.set k e, s⟩ else .rt t ⟨Γ.set k e, s⟩) := by
  obtain ⟨e, _, h⟩ := loopR_allT (lo := lo) (n := n) (gs := gs) (t := t) hmd hk hΓ hs p hb
  exact ⟨e, h⟩
theorem loopE_all {xs : List α} {enc : α → Tr} (e : Ent) (kd : Nk) (o : Ow) (hmd : md.getD k false = false) (hk : k < Γ.length) (hΓ : Γ.map (killR k) = Γ) (hs : s.map (killR k) = s) (hke : killR k e = e) (hc : cpE e = true)
    (hv : ∀ e', viewE (Γ.set k e') e = some (.nd kd o (xs.map enc))) (hcp : ∀ x ∈ xs, cp (kid o (enc x)) = true) (p : α → Bool)
    (hb : ∀ x ∈ xs, gs ⟨Γ.set k (.tr (kid o (enc x))), e :: s⟩ = some (if p x = true then .nx ⟨Γ.set k (.tr (kid o (enc x))), e :: s⟩ else .rt t ⟨Γ.set k (.tr (kid o (enc x))), e :: s⟩)) :
    ∃ e', loopE kd (bind md k) gs xs.length 0 ⟨Γ, e :: s⟩ = some (if xs.all p = true then .nx ⟨Γ.set k e', s⟩ else .rt t ⟨Γ.set k e', s⟩) := by
  have key : ∀ ys pre e1, xs = pre ++ ys → ∃ e', loopE kd (bind md k) gs ys.length pre.length ⟨Γ.set k e1, e :: s⟩ = some (if ys.all p = true then .nx ⟨Γ.set k e', s⟩ else .rt t ⟨Γ.set k e', s⟩) := by
    intro ys
    induction ys with
    | nil =>
      intro pre e1 hx
      refine ⟨e1, ?_⟩
      show loopE kd (bind md k) gs 0 pre.length ⟨Γ.set k e1, e :: s⟩ = _
      unfold loopE
      simp only [hv]
      rw [if_pos ⟨trivial, by rw [hx]; simp⟩]
      rfl
    | cons y ys ih =>
      intro pre e1 hx
      obtain ⟨e2, h2⟩ := ih (pre ++ [y]) (.tr (kid o (enc y))) (by simp [hx])
      rw [List.length_append, List.length_singleton] at h2
      have hmem : y ∈ xs := by rw [hx]; simp
      show ∃ e', loopE kd (bind md k) gs (ys.length + 1) pre.length ⟨Γ.set k e1, e :: s⟩ = _
      unfold loopE
      simp only [hv]
      rw [if_pos ⟨trivial, hc, by rw [hx]; simp⟩]
      have hk1 : kidX e kd o (xs.map enc) pre.length = some (.tr (kid o (enc y))) := by
        unfold kidX
        rw [hx]
        simp [hcp y hmem]
      rw [hk1]
      simp only [bind_set hmd hk hΓ (show (e :: s).map (killR k) = e :: s by rw [List.map_cons, hke, hs])]
      have hb1 := hb y hmem
      by_cases hp : p y = true
      · rw [if_pos hp] at hb1
        refine ⟨e2, ?_⟩
        rw [hb1]
        simp only
        rw [h2]
        simp [hp]
      · rw [if_neg hp] at hb1
        refine ⟨.tr (kid o (enc y)), ?_⟩
        rw [hb1]
        simp [hp]
  obtain ⟨e1, he⟩ := set_self hk
  obtain ⟨e', h⟩ := key xs [] e1 rfl
  rw [← he] at h
  exact ⟨e', h⟩
theorem loopR_nx {bd : Ms → Option Ms} {m : Ms} (I : Nat → Ms → Prop) (h0 : I 0 m) (turn : ∀ i m, i < n → I i m → ∃ m1 m2, bd ⟨m.g, .tr (.a (.int (lo + i))) :: m.s⟩ = some m1 ∧ gs m1 = some (.nx m2) ∧ I (i + 1) m2) : ∃ m', loopR bd gs lo n 0 m = some (.nx m') ∧ I n m' := by
  obtain ⟨o, h1, m', rfl, h2⟩ := loopR_inv (bd := bd) (gs := gs) (lo := lo) (n := n) I (fun o => ∃ m', o = .nx m' ∧ I n m') h0 (fun m h => ⟨m, rfl, h⟩) (fun i m hi h => by
    obtain ⟨m1, m2, h1, h2, h3⟩ := turn i m hi h
    exact ⟨m1, _, h1, h2, h3⟩)
  exact ⟨m', h1, h2⟩
end
/-! isinstance of plain things -/
theorem kit_int_int : kitB "int" "int" = some true := by decide +kernel
theorem kit_int_bool : kitB "int" "bool" = some false := by decide +kernel
theorem kit_int_str : kitB "int" "str" = some false := by decide +kernel
theorem kit_int_list : kitB "int" "list" = some false := by decide +kernel
theorem kit_int_tuple : kitB "int" "tuple" = some false := by decide +kernel
theorem kit_int_dict : kitB "int" "dict" = some false := by decide +kernel
theorem kit_bool_int : kitB "bool" "int" = some true := by decide +kernel
theorem kit_bool_bool : kitB "bool" "bool" = some true := by decide +kernel
theorem kit_bool_str : kitB "bool" "str" = some false := by decide +kernel
theorem kit_bool_list : kitB "bool" "list" = some false := by decide +kernel
theorem kit_bool_tuple : kitB "bool" "tuple" = some false := by decide +kernel
theorem kit_bool_dict : kitB "bool" "dict" = some false := by decide +kernel
theorem kit_str_int : kitB "str" "int" = some false := by decide +kernel
theorem kit_str_bool : kitB "str" "bool" = some false := by decide +kernel
theorem kit_str_str : kitB "str" "str" = some true := by decide +kernel
theorem kit_str_list : kitB "str" "list" = some false := by decide +kernel
theorem kit_str_tuple : kitB "str" "tuple" = some false := by decide +kernel
theorem kit_str_dict : kitB "str" "dict" = some false := by decide +kernel
theorem kit_list_int : kitB "list" "int" = some false := by decide +kernel
theorem kit_list_bool : kitB "list" "bool" = some false := by decide +kernel
theorem kit_list_str : kitB "list" "str" = some false := by decide +kernel
theorem kit_list_list : kitB "list" "list" = some true := by decide +kernel
theorem kit_list_tuple : kitB "list" "tuple" = some false := by decide +kernel
theorem kit_list_dict : kitB "list" "dict" = some false := by decide +kernel
theorem kit_tuple_int : kitB "tuple" "int" = some false := by decide +kernel
theorem kit_tuple_bool : kitB "tuple" "bool" = some false := by decide +kernel
theorem kit_tuple_str : kitB "tuple" "str" = some false := by decide +kernel
theorem kit_tuple_list : kitB "tuple" "list" = some false := by decide +kernel
theorem kit_tuple_tuple : kitB "tuple" "tuple" = some true := by decide +kernel
theorem kit_tuple_dict : kitB "tuple" "dict" = some false := by decide +kernel
theorem kit_dict_int : kitB "dict" "int" = some false := by decide +kernel
theorem kit_dict_bool : kitB "dict" "bool" = some false := by decide +kernel
theorem kit_dict_str : kitB "dict" "str" = some false := by decide +kernel
theorem kit_dict_list : kitB "dict" "list" = some false := by decide +kernel
theorem kit_dict_tuple : kitB "dict" "tuple" = some false := by decide +kernel
theorem kit_dict_dict : kitB "dict" "dict" = some true := by decide +kernel
theorem kit_NoneType_int : kitB "NoneType" "int" = some false := by decide +kernel
theorem kit_NoneType_bool : kitB "NoneType" "bool" = some false := by decide +kernel
theorem kit_NoneType_str : kitB "NoneType" "str" = some false := by decide +kernel
theorem kit_NoneType_list : kitB "NoneType" "list" = some false := by decide +kernel
theorem kit_NoneType_tuple : kitB "NoneType" "tuple" = some false := by decide +kernel
theorem kit_NoneType_dict : kitB "NoneType" "dict" = some false := by decide +kernel
/-! places in short lists -/
theorem ixL_1_0 : ixN 1 0 = some 0 := rfl
theorem ixL_2_0 : ixN 2 0 = some 0 := rfl
theorem ixL_2_1 : ixN 2 1 = some 1 := rfl
theorem ixL_3_0 : ixN 3 0 = some 0 := rfl
theorem ixL_3_1 : ixN 3 1 = some 1 := rfl
theorem ixL_3_2 : ixN 3 2 = some 2 := rfl
theorem ixL_4_0 : ixN 4 0 = some 0 := rfl
theorem ixL_4_1 : ixN 4 1 = some 1 := rfl
theorem ixL_4_2 : ixN 4 2 = some 2 := rfl
theorem ixL_4_3 : ixN 4 3 = some 3 := rfl
theorem ixL_5_0 : ixN 5 0 = some 0 := rfl
theorem ixL_5_1 : ixN 5 1 = some 1 := rfl
theorem ixL_5_2 : ixN 5 2 = some 2 := rfl
theorem ixL_5_3 : ixN 5 3 = some 3 := rfl
theorem ixL_5_4 : ixN 5 4 = some 4 := rfl
theorem ixL_6_0 : ixN 6 0 = some 0 := rfl
theorem ixL_6_1 : ixN 6 1 = some 1 := rfl
theorem ixL_6_2 : ixN 6 2 = some 2 := rfl
theorem ixL_6_3 : ixN 6 3 = some 3 := rfl
theorem ixL_6_4 : ixN 6 4 = some 4 := rfl
theorem ixL_6_5 : ixN 6 5 = some 5 := rfl
theorem ixL_7_0 : ixN 7 0 = some 0 := rfl
theorem ixL_7_1 : ixN 7 1 = some 1 := rfl
theorem ixL_7_2 : ixN 7 2 = some 2 := rfl
theorem ixL_7_3 : ixN 7 3 = some 3 := rfl
theorem ixL_7_4 : ixN 7 4 = some 4 := rfl
theorem ixL_7_5 : ixN 7 5 = some 5 := rfl
theorem ixL_7_6 : ixN 7 6 = some 6 := rfl
theorem ixL_8_0 : ixN 8 0 = some 0 := rfl
theorem ixL_8_1 : ixN 8 1 = some 1 := rfl
theorem ixL_8_2 : ixN 8 2 = some 2 := rfl
theorem ixL_8_3 : ixN 8 3 = some 3 := rfl
theorem ixL_8_4 : ixN 8 4 = some 4 := rfl
theorem ixL_8_5 : ixN 8 5 = some 5 := rfl
theorem ixL_8_6 : ixN 8 6 = some 6 := rfl
theorem ixL_8_7 : ixN 8 7 = some 7 := rfl
theorem ixL_9_0 : ixN 9 0 = some 0 := rfl
theorem ixL_9_1 : ixN 9 1 = some 1 := rfl
theorem ixL_9_2 : ixN 9 2 = some 2 := rfl
theorem ixL_9_3 : ixN 9 3 = some 3 := rfl
theorem ixL_9_4 : ixN 9 4 = some 4 := rfl
theorem ixL_9_5 : ixN 9 5 = some 5 := rfl
theorem ixL_9_6 : ixN 9 6 = some 6 := rfl
theorem ixL_9_7 : ixN 9 7 = some 7 := rfl
theorem ixL_9_8 : ixN 9 8 = some 8 := rfl
theorem ixL_10_0 : ixN 10 0 = some 0 := rfl
theorem ixL_10_1 : ixN 10 1 = some 1 := rfl
theorem ixL_10_2 : ixN 10 2 = some 2 := rfl
theorem ixL_10_3 : ixN 10 3 = some 3 := rfl
theorem ixL_10_4 : ixN 10 4 = some 4 := rfl
theorem ixL_10_5 : ixN 10 5 = some 5 := rfl
theorem ixL_10_6 : ixN 10 6 = some 6 := rfl
theorem ixL_10_7 : ixN 10 7 = some 7 := rfl
theorem ixL_10_8 : ixN 10 8 = some 8 := rfl
theorem ixL_10_9 : ixN 10 9 = some 9 := rfl
theorem ixL_11_0 : ixN 11 0 = some 0 := rfl
theorem ixL_11_1 : ixN 11 1 = some 1 := rfl
theorem ixL_11_2 : ixN 11 2 = some 2 := rfl
theorem ixL_11_3 : ixN 11 3 = some 3 := rfl
theorem ixL_11_4 : ixN 11 4 = some 4 := rfl
theorem ixL_11_5 : ixN 11 5 = some 5 := rfl
theorem ixL_11_6 : ixN 11 6 = some 6 := rfl
theorem ixL_11_7 : ixN 11 7 = some 7 := rfl
theorem ixL_11_8 : ixN 11 8 = some 8 := rfl
theorem ixL_11_9 : ixN 11 9 = some 9 := rfl
theorem ixL_11_10 : ixN 11 10 = some 10 := rfl
theorem ixL_12_0 : ixN 12 0 = some 0 := rfl
theorem ixL_12_1 : ixN 12 1 = some 1 := rfl
theorem ixL_12_2 : ixN 12 2 = some 2 := rfl
theorem ixL_12_3 : ixN 12 3 = some 3 := rfl
theorem ixL_12_4 : ixN 12 4 = some 4 := rfl
theorem ixL_12_5 : ixN 12 5 = some 5 := rfl
theorem ixL_12_6 : ixN 12 6 = some 6 := rfl
theorem ixL_12_7 : ixN 12 7 = some 7 := rfl
theorem ixL_12_8 : ixN 12 8 = some 8 := rfl
theorem ixL_12_9 : ixN 12 9 = some 9 := rfl
theorem ixL_12_10 : ixN 12 10 = some 10 := rfl
theorem ixL_12_11 : ixN 12 11 = some 11 := rfl
theorem cMul_l {i j : Int} (h1 : -(2 ^ 64) < i) (h2 : i < 2 ^ 64) : cMul i j = true := decide_eq_true (.inl ⟨h1, h2⟩)
/-! try .. except X as e, and isinstance(e, Y) in its suite -/
section
variable {X : Cx} {T : KT} {md : List Bool} {W Wout : WX} {c : Value} {i : Nat} {x n : Str} {body suite : List Stmt} {b₀ : Stmt} {np pos pos' : Pos} {gb : GS} {tab : List (Nat × Bool)} {gsu : Nat → Addr → GS}
end
/-! a name that a comprehension takes for its own: what it held is forgotten -/
section
variable {X : Cx} {T : KT} {md : List Bool} {W : WX} {i : Nat} {e : Expr} {st : Stmt} {g : GE} {gs : GS}
def gClr (i : Nat) (g : GE) : GE := fun m => if i < m.g.length then g (clr i m) else none
def sClr (i : Nat) (g : GS) : GS := fun m => if i < m.g.length then g (clr i m) else none
theorem me_clr (h : ME X T md W e g) : ME X T md W e (gClr i g) := by
  obtain ⟨t, p, s⟩ := h
  refine ⟨t, p, fun c σ H m us Q r hc E hg hp => ?_⟩
  unfold gClr at hg
  split at hg
  · rename_i hi
    exact s c σ H (clr i m) us Q r hc (E.clr hi) hg hp
  · cases hg
theorem ms_clr (h : MS X T md W st gs) : MS X T md W st (sClr i gs) := by
  obtain ⟨t, p, s⟩ := h
  refine ⟨t, p, fun c σ H m us D o hc E hg hp => ?_⟩
  unfold sClr at hg
  split at hg
  · rename_i hi
    exact s c σ H (clr i m) us D o hc (E.clr hi) hg hp
  · cases hg
end
/-! two dicts without entries are equal -/
section
variable {K : KC} {md : List Bool} {W : WX}
def FEqE : Tr → Tr → Option V
  | .nd (.dct []) .own [], .nd (.dct []) .own [] => some (.bl true)
  | _, _ => none
def fEqE : GE := fP2 FEqE
end
/-! a loop that leaves at the first that it looks for -/
section
variable {md : List Bool} {k n : Nat} {Γ s : List Ent} {gs : GS} {lo : Int}
end
/-! things that no store can forget -/
theorem killR_tr {i : Nat} {t : Tr} : killR i (.tr t) = .tr t := rfl
theorem killR_no {i : Nat} : killR i .no = .no := rfl
theorem killR_al {i : Nat} {q : List Nat} : killR i (.al q) = if q.head? = some i then .no else .al q := rfl
theorem killE_tr {p : List Nat} {t : Tr} : killE p (.tr t) = .tr t := rfl
theorem killE_no {p : List Nat} : killE p .no = .no := rfl
theorem killE_al {p q : List Nat} : killE p (.al q) = if nbel p q = true then .al q else .no := rfl
theorem killJ_tr {p : List Nat} {t : Tr} : killJ p (.tr t) = .tr t := rfl
theorem killJ_no {p : List Nat} : killJ p .no = .no := rfl
theorem killJ_al {p q : List Nat} : killJ p (.al q) = if pre p q = true then .no else .al q := rfl
structure Nal (x : Ent) : Prop where
  kr : ∀ i, killR i x = x
  ke : ∀ p, killE p x = x
  kj : ∀ p, killJ p x = x
theorem nal_no : Nal .no := ⟨fun _ => rfl, fun _ => rfl, fun _ => rfl⟩
theorem nal_tr {t : Tr} : Nal (.tr t) := ⟨fun _ => rfl, fun _ => rfl, fun _ => rfl⟩
section
variable {K : KC} {X : Cx} {T : KT} {md : List Bool} {W : WX} {g ge : GE} {te t : TE} {e : Expr} {pos p p2 : Pos} {lo hi : Option Expr}
end
/-! sum, any, all, min, max, sorted of lists of atoms; extend -/
def intsT : List Tr → Option (List Int)
  | [] => some []
  | .a (.int i) :: ts => match intsT ts with
    | some ns => some (i :: ns)
    | none => none
  | _ => none
section
variable {K : KC} {X : Cx} {T : KT} {md : List Bool} {W : WX} {c : Cz} {σ : St} {H : Hp} {Γ τ : List Ent} {us : List V}
theorem intsT_ok {Z : Zn} {H : Hp} {m : Ow} : ∀ {ts : List Tr} {vs : List V} {ns : List Int} {Φ : Ps}, RepL K Z H m ts vs Φ → intsT ts = some ns → vs = ns.map V.int
  | [], _, _, _, h, e => by
    obtain ⟨rfl, _⟩ := h
    cases e
    rfl
  | t :: ts, vs, ns, _, h, e => by
    obtain ⟨v, vs', Φ1, Φ2, rfl, h1, h2, _, _⟩ := h
    unfold intsT at e
    split at e
    · rename_i hq; cases hq
    · rename_i i ts' heq
      cases heq
      split at e
      · rename_i ns' hn
        cases e
        rw [h1.1, intsT_ok h2 hn]
        rfl
      · cases e
    · cases e
/-! sorted(ints) -/
def sortI (ns : List Int) : List Int := ns.mergeSort (fun a b => decide (a ≤ b))
theorem sortI_perm (ns : List Int) : (sortI ns).Perm ns := List.mergeSort_perm ns _
theorem sortI_sorted (ns : List Int) : (sortI ns).Pairwise (· ≤ ·) := by
  have h := List.pairwise_mergeSort (le := fun a b : Int => decide (a ≤ b)) (by intro a b c; simp; omega) (by intro a b; simp; omega) ns
  exact h.imp fun {a b} e => by simpa using e
theorem sortI_uniq {ns ns' : List Int} (h1 : ns'.Perm ns) (h2 : ns'.Pairwise (· ≤ ·)) : ns' = sortI ns :=
  List.Perm.eq_of_pairwise (fun a b _ _ h3 h4 => Int.le_antisymm h3 h4) h2 (sortI_sorted ns) (h1.trans (sortI_perm ns).symm)
theorem EnvOk.atoms : ∀ (xs : List V), EnvOk K c σ H Γ τ us → EnvOk K c σ H Γ (xs.map (fun v => Ent.tr (.a v)) ++ τ) (xs ++ us)
  | [], E => E
  | x :: xs, E => (EnvOk.atoms xs E).atom x
theorem escL_atoms {α : Type} (f : α → V) (xs : List α) : escL (xs.map fun x => Tr.a (f x)) = true := by
  rw [escL_all]
  intro t ht
  obtain ⟨x, _, rfl⟩ := List.mem_map.mp ht
  rfl
theorem EnvOk.newAtoms {pa : Addr} (E : EnvOk K c σ H Γ τ us) (ns : List Int) (hp : H pa = none) : EnvOk K c σ (upd H pa (.lst (ns.map V.int))) Γ (.tr (.nd .lst .own (ns.map fun i => .a (.int i))) :: τ) (.ref pa :: us) := by
  have E1 := EnvOk.atoms (ns.reverse.map V.int) E
  have e : (fun v => Ent.tr (Tr.a v)) ∘ V.int = Ent.tr ∘ fun i : Int => Tr.a (V.int i) := rfl
  refine EnvOk.new (ts := ns.map fun i => .a (.int i)) (vs := ns.map V.int) (k := .lst) ?_ (by simp) hp (by simp [mkN, escL_atoms V.int]) fun o => upd_same
  simpa [List.map_reverse, e] using E1
def fSrt : GE := fun m => match m.s with
  | e :: s => match viewE m.g e with
    | some (.nd .lst _ ts) => match intsT ts with
      | some ns => some (.ok ⟨m.g, .tr (.nd .lst .own ((sortI ns).map fun i => .a (.int i))) :: s⟩)
      | none => none
    | _ => none
  | _ => none
theorem fSrt_ok : RA K md W 1 (fun _ => rSortedI K.K) fSrt := by
  intro c σ H m us vs Q rr hc hl E hf hp
  match vs, hl with
  | [x], _ =>
    simp only [fSrt] at hf
    split at hf
    · rename_i ex s hs
      rw [hs] at E
      split at hf
      · rename_i o ts hv
        split at hf
        · rename_i ns hn
          cases hf
          obtain ⟨Z, ws, Φ, Ψ, EE⟩ := id E
          obtain ⟨Θ1, ad, vs, Ξ, rfl, ho, hl, _⟩ := EE.view (n := 0) rfl rfl hv
          have := intsT_ok hl hn
          subst this
          refine ⟨ad, ns, rfl, objL ho, fun ns' p h1 h2 nl => hp _ _ ?_⟩
          rw [sortI_uniq h1 h2]
          exact EnvOk.newAtoms (E.drop) _ nl
        · cases hf
      · cases hf
    · cases hf
end
/-! a dict that is lent or frozen, locked while it is walked -/
/-- the same call, the thing at d being ob all the while -/
def Cz.pin (c : Cz) (d : Addr) (ob : HO) (z : Prop) : Cz := ⟨fun b => if b = d then some ob else c.H0 b, fun b => b ≠ d ∧ c.F0 b, fun b => c.S0 b ∨ (b = d ∧ z), c.md, c.vs⟩
section
variable {K : KC} {Z : Zn} {H : Hp} {d : Addr} {ob ob' : HO} {od : Obj} {kvs : List (Key × V)} {c : Cz} {ws us : List V} {Φ Ψ : Ps} {σ : St} {Γ τ : List Ent}
def LkP (ob ob' : HO) (od : Obj) (kvs : List (Key × V)) : Prop := (ob = .dK kvs ∧ ob' = .frz od (.dK kvs)) ∨ (ob = .frz od (.dK kvs) ∧ ob' = .dK kvs)
theorem LkP.rd {kv : List (Key × V)} (h : LkP ob ob' od kvs) (e : H d = some ob) (r : Rd H d (.dK kv)) : Rd (upd H d ob') d (.dK kv) := by
  have ek : kv = kvs := by
    rcases r with r | ⟨o, r⟩ <;> rw [e] at r <;> rcases h with ⟨rfl, _⟩ | ⟨rfl, _⟩ <;> cases r <;> rfl
  subst ek
  rcases h with ⟨_, rfl⟩ | ⟨_, rfl⟩
  · exact .inr ⟨od, upd_same⟩
  · exact .inl upd_same
theorem LkP.tsk (h : LkP ob ob' od kvs) (e : H d = some ob) : TSK K H (upd H d ob') := fun a xs q => by
  by_cases ea : a = d
  · rw [ea, e] at q
    rcases h with ⟨rfl, _⟩ | ⟨rfl, _⟩ <;> cases q
  · rw [upd_ne ea]; exact q
theorem LkP.obj {k : Nk} {o : Ow} {a : Addr} {vs : List V} (h : LkP ob ob' od kvs) (e : H d = some ob) (ho : ObjAt K k o H a vs) (hn : k ≠ .tup → o = .own → a ≠ d) : ObjAt K k o (upd H d ob') a vs := by
  by_cases ea : a = d
  · subst ea
    have no : k ≠ .tup → o ≠ .own := fun hk q => hn hk q rfl
    cases k with
    | lst =>
      have ho : H a = some (.lst vs) := ho
      rw [e] at ho
      rcases h with ⟨rfl, _⟩ | ⟨rfl, _⟩ <;> cases ho
    | tup => exact ho.imp (h.tsk (K := K) e a vs) id
    | ins n j =>
      obtain ⟨_, dx, ho⟩ := ho
      rw [e] at ho
      rcases h with ⟨rfl, _⟩ | ⟨rfl, _⟩ <;> cases ho
    | dcT ks =>
      obtain ⟨bs, _, _, _, _, _, _, ho⟩ := ho
      rw [e] at ho
      rcases h with ⟨rfl, _⟩ | ⟨rfl, _⟩ <;> cases ho
    | sti l =>
      obtain ⟨_, _, ho⟩ := ho
      rw [e] at ho
      rcases h with ⟨rfl, _⟩ | ⟨rfl, _⟩ <;> cases ho
    | dct ks =>
      have := no (by simp)
      cases o with
      | own => exact absurd rfl this
      | frz => exact ⟨ho.1, h.rd e ho.2⟩
      | lnt => exact ⟨ho.1, h.rd e ho.2⟩
  · exact ho.fr (fun _ ob q => by rw [upd_ne ea]; exact q) (h.tsk e)
theorem Nod.self {k : Nk} {a : Addr} {ts : List Tr} (h : Nod Z k .own a ts Ψ Φ) (hk : k ≠ .tup) : Φ a := by
  cases k <;> simp_all [Nod]
mutual
theorem Rep.lk : ∀ (t : Tr) {m : Ow} {v : V} {Φ : Ps}, Rep K Z H m t v Φ → LkP ob ob' od kvs → H d = some ob → ¬ Φ d → Rep K Z (upd H d ob') m t v Φ
  | .any, _, _, _, h, _, _, _ => h
  | .a _, _, _, _, h, _, _, _ => h
  | .nd k o ts, m, v, Φ, h, l, e, nd => by
    obtain ⟨a, vs, Ψ, e1, ho, hl, hn⟩ := h
    refine ⟨a, vs, Ψ, e1, l.obj e ho fun hk eo ea => ?_, RepL.lk ts hl l e fun q => ?_, hn⟩
    · rw [eo] at hn
      exact nd (ea ▸ hn.self hk)
    · by_cases eo : eff m o = .own
      · exact nd (hn.sub eo _ q)
      · exact RepL.no0 ts eo hl _ q
theorem RepL.lk : ∀ (ts : List Tr) {m : Ow} {vs : List V} {Φ : Ps}, RepL K Z H m ts vs Φ → LkP ob ob' od kvs → H d = some ob → ¬ Φ d → RepL K Z (upd H d ob') m ts vs Φ
  | [], _, _, _, h, _, _, _ => h
  | t :: ts, m, vs, Φ, h, l, e, nd => by
    obtain ⟨v, vs', Φ1, Φ2, e1, h1, h2, d1, u⟩ := h
    exact ⟨v, vs', Φ1, Φ2, e1, Rep.lk t h1 l e (fun q => nd ((u _).mpr (.inl q))), RepL.lk ts h2 l e (fun q => nd ((u _).mpr (.inr q))), d1, u⟩
end
theorem Ev.at_ (E : Ev K (c.pin d ob z) Z ws Φ Ψ σ H Γ τ us) : H d = some ob := by
  obtain ⟨o', h1, h2⟩ := E.st d ob (by show (if d = d then some ob else c.H0 d) = some ob; rw [if_pos rfl])
  rw [h1, h2 fun q => q.1 rfl]
end
/-! x in d; for x in d -/
section
variable {K : KC} {X : Cx} {T : KT} {md : List Bool} {W : WX} {c : Cz} {σ : St} {H : Hp} {us : List V} {i : Nat} {bd : Ms → Option Ms} {gb : GS} {gs g : GE} {te : TE} {tg iter : Expr} {body : List Stmt} {pos : Pos} {oo : Os}
theorem valV_zip0 : ∀ {ks : List Key} {vs : List V} {k : Key}, kix k ks = none → valV (ks.zip vs) k = none
  | [], _, _, _ => rfl
  | x :: ks, [], _, _ => rfl
  | x :: ks, y :: vs, k, h => by
    have h0 := kix_none h
    have ne : ¬ x = k := fun e => h0 (by simp [e])
    simp only [kix, if_neg ne, Option.map_eq_none_iff] at h
    rw [List.zip_cons_cons, valV_neg ne, valV_zip0 h]
def FInD (neg : Bool) : Tr → Tr → Option V
  | .a x, .nd (.dct ks) _ _ => match keyOf x with
    | some k => some (.bl (if neg then !(kix k ks).isSome else (kix k ks).isSome))
    | none => none
  | _, _ => none
def rInK (neg : Bool) : R2 := fun x y H Q => ∃ a o, y = .ref a ∧ DGet H a x o ∧ Q (.bl (if neg then !o.isSome else o.isSome)) H
theorem op_inK (hu : X.A.units + 1 < cLine) : OpR X (compareOp .In) (rInK false) := by
  intro pins s σ H x y v u Q I rx ry h
  obtain ⟨a, o, rfl, g, q⟩ := h
  cases ry
  exact d_in hu I g rx fun s' I' => ⟨.bl o.isSome, H, I', rfl, q⟩
theorem op_notInK (hu : X.A.units + 1 < cLine) : OpR X (compareOp .NotIn) (rInK true) := by
  intro pins s σ H x y v u Q I rx ry h
  obtain ⟨a, o, rfl, g, q⟩ := h
  cases ry
  exact d_notIn hu I g rx fun s' I' => ⟨.bl (!o.isSome), H, I', rfl, q⟩
theorem fInD_ok {neg : Bool} : RA2 K md W (rInK neg) (fP2 (FInD neg)) := fP2_ok fun Z H x y tx ty u Φ Ψ Q r1 r2 e q => by
  unfold FInD at e
  split at e
  · rename_i v ks o ts
    split at e
    · rename_i k hk
      cases e
      obtain ⟨rfl, _⟩ := r1
      obtain ⟨ad, vs', Ξ, rfl, ho, hl, _⟩ := r2
      obtain ⟨l, hr⟩ := ObjAt.rd ho
      have e : (valV (ks.zip vs') k).isSome = (kix k ks).isSome := by
        cases hj : kix k ks with
        | none => rw [valV_zip0 hj]; rfl
        | some j =>
          rw [valV_zip hj l]
          have := getq_lt' (kix_at hj)
          rw [List.getElem?_eq_getElem (by omega)]
          rfl
      rw [← e] at q
      exact ⟨ad, _, rfl, .inl ⟨_, k, hr, keyOf_kV hk, rfl⟩, q⟩
    · cases e
  · cases e
def fInA : GE := gOr fIn (fP2 (FInD false))
def fNotInA : GE := gOr fNotIn (fP2 (FInD true))
theorem op_inA (hu : X.A.units + 64 < cLine) : OpR X (compareOp .In) (fun x y H Q => rIn X.K false x y H Q ∨ rInK false x y H Q) := op_in_seq.or (op_inK (by omega))
theorem op_notInA (hu : X.A.units + 64 < cLine) : OpR X (compareOp .NotIn) (fun x y H Q => rIn X.K true x y H Q ∨ rInK true x y H Q) := op_notIn_seq.or (op_notInK (by omega))
theorem fInA_ok : RA2 K md W (fun x y H Q => rIn K.K false x y H Q ∨ rInK false x y H Q) fInA := fIn_ok.or fInD_ok
theorem fNotInA_ok : RA2 K md W (fun x y H Q => rIn K.K true x y H Q ∨ rInK true x y H Q) fNotInA := fIn_ok.or fInD_ok
/-! for x in d: d a name or a name's field, lent or frozen -/
def Src (X : Cx) (T : KT) (te : TE) (gs : GE) : Prop := ∀ (c : Cz) (σ : St) (H : Hp) (m : Ms) (us : List V) (en : Ent) (s1 g1 : List Ent), EnvOk (kcm X.K T) c σ H m.g m.s us → gs m = some (.ok ⟨g1, en :: s1⟩) →
  g1 = m.g ∧ ∃ w, EnvOk (kcm X.K T) c σ H m.g (en :: s1) (w :: us) ∧ ∀ (H1 : Hp) (Q : VK), (∀ b C dx fs, H b = some (.ins C dx fs) → H1 b = some (.ins C dx fs)) → Q w H1 → te σ H1 Q
theorem src_var : Src X T (tVar i) (gVar i) := by
  intro c σ H m us en s1 g1 E h0
  simp only [gVar] at h0
  split at h0
  · rename_i t ht'
    by_cases hcp : cp t = true
    · rw [if_pos hcp] at h0
      cases h0
      obtain ⟨v, q1, E1⟩ := E.var ht' hcp
      exact ⟨rfl, v, E1, fun H1 Q _ q => ⟨v, q1, q⟩⟩
    · rw [if_neg hcp] at h0
      cases h0
      obtain ⟨v, q1, E1⟩ := E.varP ht'
      exact ⟨rfl, v, E1, fun H1 Q _ q => ⟨v, q1, q⟩⟩
  · rename_i p ht'
    cases h0
    obtain ⟨v, q1, E1⟩ := E.varA ht'
    exact ⟨rfl, v, E1, fun H1 Q _ q => ⟨v, q1, q⟩⟩
  · cases h0
theorem src_fld {fl : Str} {tab : List (Nat × Nat)} (h : Src X T te gs) (ht : FldOk X.K T fl tab) : Src X T (tFld X.K te fl) (gSeq gs (fFld tab)) := by
  intro c σ H m us en s1 g1 E h1
  simp only [gSeq] at h1
  split at h1
  · rename_i m0 h0
    simp only [fFld] at h1
    split at h1
    · rename_i e0 s0 hs0
      split at h1
      · rename_i nn k o ts hv0
        split at h1
        · rename_i j hj
          split at h1
          · rename_i e' hk
            cases h1
            obtain ⟨eg, w, E1, q1⟩ := h c σ H m us e0 _ m0.g E (by rw [h0, ← hs0])
            rw [eg] at hv0
            obtain ⟨ad, vs, w', rfl, ho, hl, hw, E2⟩ := E1.kidOf hv0 hk
            obtain ⟨l, dx, ho⟩ := ho
            obtain ⟨c1, c2, c3⟩ := ht nn j (mem_lookup hj)
            have hjk : j < k := by
              have h1 := getq_lt' hw
              have h2 : ((T.nm nn).take k).length = vs.length := l
              rw [List.length_take] at h2
              omega
            refine ⟨eg, w', E2, fun H1 Q hi q => q1 H1 _ hi ⟨ad, T.ct nn, dx, _, w', rfl, hi _ _ _ _ ho, c1, c2, by rw [lookup_zip (idx_take c3 hjk) l]; exact hw, q⟩⟩
          · cases h1
        · cases h1
      · cases h1
    · cases h1
  · rename_i h0
    exact absurd h1 (h0 _)
theorem PS.or {st : Stmt} {t1 t2 : L2.TS} (h1 : PS X st t1) (h2 : PS X st t2) : PS X st (fun D σ H => t1 D σ H ∨ t2 D σ H) := by
  refine ⟨fun pins s σ H D I h => ?_⟩
  rcases h with h | h
  · exact h1.run pins s σ H D I h
  · exact h2.run pins s σ H D I h
end
/-! walks: more general laws; keys that are walked; slices -/
section
variable {bd : Ms → Option Ms} {gs : GS} {lo : Int} {n : Nat} {t : Tr}
end
section
variable {α : Type}
theorem intsT_map (xs : List Int) : intsT (xs.map iT) = some xs := by
  induction xs with
  | nil => rfl
  | cons x xs ih => simp only [List.map_cons, intsT, ih]
end
section
variable {α : Type} {gs : GS} {bd : Ms → Option Ms} {t : Tr} {s : List Ent}
end
/-! try with several clauses, no names; is not True -/
section
variable {X : Cx} {T : KT} {md : List Bool} {W : WX} {body : List Stmt} {pos : Pos} {gb : GS}
end
section
variable {K : KC} {md : List Bool} {W : WX}
def fNotB : GE := fP2 (FIsB true)
end
/-! tuples of the written part; x in o by an own __contains__ -/
section
variable {K : KC} {X : Cx} {T : KT} {md : List Bool} {W : WX} {t : Tr} {ts : List Tr} {v : V} {vs : List V} {a : Addr} {e : Expr} {pos : Pos}
def ConM (K : KC) (t : Tr) (v : V) : Prop := ∀ (m : Ow) (Z : Zn) (H : Hp), Rep K Z H m t v (fun _ => False)
def ConL (K : KC) (ts : List Tr) (vs : List V) : Prop := ∀ (m : Ow) (Z : Zn) (H : Hp), RepL K Z H m ts vs (fun _ => False)
theorem con_a : ConM K (.a v) v := fun _ _ _ => ⟨rfl, fun _ h => h⟩
theorem con_nil : ConL K [] [] := fun _ _ _ => ⟨rfl, fun _ h => h⟩
theorem con_cons (h : ConM K t v) (r : ConL K ts vs) : ConL K (t :: ts) (v :: vs) := fun m Z H => ⟨v, vs, _, _, rfl, h m Z H, r m Z H, by simp, by simp⟩
theorem eff_frz (m : Ow) : eff m .frz = .frz := by cases m <;> rfl
theorem con_tup (h : SqT K.K (fun _ => none) a vs) (r : ConL K ts vs) : ConM K (.nd .tup .frz ts) (.ref a) := fun m Z H => by
  refine ⟨a, vs, fun _ => False, rfl, .inr h, r _ Z H, ?_⟩
  rw [eff_frz]
  exact fun b h => h
/-- a tuple of the written part -/
theorem sqt_w {K : PySem.W.Frag} {a : Addr} {its : Array Value} {n : Nat} {od : Option Addr} {sl : Array (Option Value)} {vs : List V} (h : K.lookup a = some ⟨.type "tuple", od, .seq its n, sl⟩) (hs : its.size ≤ sizeLine) (r : Vals vs its.toList) : SqT K (fun _ => none) a vs := .inr ⟨_, its, n, h, rfl, rfl, hs, r⟩
def gCon (t : Tr) : GE := fun m => some (.ok ⟨m.g, .tr t :: m.s⟩)
theorem EnvOk.con {c : Cz} {σ : St} {H : Hp} {Γ τ : List Ent} {us : List V} (E : EnvOk K c σ H Γ τ us) (h : ConM K t v) : EnvOk K c σ H Γ (.tr t :: τ) (v :: us) := by
  obtain ⟨Z, ws, Φ, Ψ, EE⟩ := E
  refine EE.swapE (τ1 := []) (us1 := []) (τ1' := [.tr t]) (us1' := [v]) rfl (by simp) (fun Ψ1 r zo => ?_) rfl
  have n0 : ∀ b, ¬ Ψ1 b := r.2
  exact ⟨Z, fun _ => False, ⟨v, [], _, _, rfl, h .own Z H, ⟨rfl, fun _ h => h⟩, by simp, by simp⟩, ⟨fun _ h => h, fun _ h => h, fun _ h => .inl h, fun _ h => .inl h, fun b q => EE.zs b q, fun b ob e _ => e, fun b q => absurd q (n0 b), fun b q => q.elim⟩⟩
/-- C.f, a tuple of the written part -/
theorem me_cvalT {u : Value} {mc : Value} {C : Addr} {me : Str} (he : PE X e (tC (.ref C))) (r : ClX.CRead X.K C mc) (k : ClX.CVal X.K C mc me v u) (rt : ConM (kcm X.K T) t v) (hb : attributeBase e me X.env (eval e X.env) = eval e X.env := by rfl) : ME X T md W (.Attribute e me pos) (gCon t) := by
  refine ⟨_, ClX.pe_cval he hb, fun c σ H m us Q rr hc E hg hp => ?_⟩
  cases hg
  exact ⟨C, mc, v, u, rfl, r, k, hp v H (E.con rt)⟩
/-- o.f, a constant of o's class -/
inductive ConTab (K : PySem.W.Frag) (T : KT) (f : Str) : List (Nat × Tr) → Prop
  | nil : ConTab K T f []
  | cons {n : Nat} {t : Tr} {v : V} {u : Value} {l : List (Nat × Tr)} (c : Cls K (T.ct n)) (k : Con K (T.ct n) f v u) (h : ConM (kcm K T) t v) (no : (T.nm n).idxOf? f = none) (r : ConTab K T f l) : ConTab K T f ((n, t) :: l)
def fCon (tab : List (Nat × Tr)) : GE := fun m => match m.s with
  | e :: s => match viewE m.g e with
    | some (.nd (.ins n _) _ _) => match tab.lookup n with
      | some t => some (.ok ⟨m.g, .tr t :: s⟩)
      | none => none
    | _ => none
  | _ => none
theorem ConTab.get {K : PySem.W.Frag} {f : Str} {tab : List (Nat × Tr)} (h : ConTab K T f tab) {n : Nat} {t : Tr} (e : tab.lookup n = some t) : ∃ v u, Cls K (T.ct n) ∧ Con K (T.ct n) f v u ∧ ConM (kcm K T) t v ∧ (T.nm n).idxOf? f = none := by
  induction h with
  | nil => simp at e
  | @cons n' t' v u l c k h no r ih =>
    by_cases q : n = n'
    · subst q
      simp at e
      subst e
      exact ⟨v, u, c, k, h, no⟩
    · rw [List.lookup_cons, beq_false_of_ne q] at e
      exact ih e
theorem me_iCon {f : Str} {tab : List (Nat × Tr)} {go : GE} (ho : ME X T md W e go) (ht : ConTab X.K T f tab) (hb : attributeBase e f X.env (eval e X.env) = eval e X.env := by rfl) : ME X T md W (.Attribute e f pos) (gSeq go (fCon tab)) := by
  obtain ⟨te, pe, se⟩ := ho
  refine ⟨_, pe_con pe hb, fun c σ H m us Q rr hc E hg hp => ?_⟩
  simp only [gSeq] at hg
  split at hg
  · rename_i m1 h1
    refine se c σ H m us _ _ hc E h1 fun x H1 E1 => ?_
    unfold fCon at hg
    split at hg
    · rename_i en s hs
      split at hg
      · rename_i n k o ts hv
        split at hg
        · rename_i t hl
          cases hg
          rw [hs] at E1
          obtain ⟨a, vs, rfl, ⟨l, dx, hob⟩, _⟩ := viewObj E1 hv
          obtain ⟨v, u, c1, k1, cm, no⟩ := ht.get hl
          exact ⟨a, _, dx, _, v, u, rfl, hob, c1, k1, lookup_none (take_none no), hp v H1 (E1.drop.con cm)⟩
        · cases hg
      · cases hg
    · cases hg
  · rename_i h1
    refine se c σ H m us _ _ hc E hg ?_
    cases rr with
    | ex C g' => exact hp
    | ok m2 => exact absurd hg (h1 m2)
end
/-! own __contains__ -/
section
variable {X : Cx} {pins : List (Addr × Obj)} {σ : St} {H : Hp} {s : Shared} {a C dx f : Addr} {fs : List (Str × V)}
theorem inst_of (I : Inv X pins σ H s) (e : H a = some (.ins C dx fs)) : ∃ od, PySem.W.InstAt s.heap a (PySem.W.instObj C dx) C (some od) := by
  obtain ⟨mA, O, r, _, _, _⟩ := ins_get I.hok e
  obtain ⟨od, ho, _⟩ := lookIn_ns O.ns
  exact ⟨od, O.obj, rfl, rfl, ho⟩
theorem contains_own {u : Value} {Q : Bool → Shared → Prop} {E : Value → Shared → Prop} (I : Inv X pins σ H s) (e : H a = some (.ins C dx fs)) (m : Meth X.K C "__contains__" f)
    (h : wpAny (model X.prog X.w) X.A (call (.ref f) [.ref a, u]) (fun v s' => ∃ b, v = .bool b ∧ Q b s') E s) : wpAny (model X.prog X.w) X.A (contains (.ref a) u) Q E s := by
  obtain ⟨od, IA⟩ := inst_of I e
  have LS := IA.type (M := model X.prog X.w)
  have LF := PySem.W.looks_findIn (M := model X.prog X.w) I.kIn m.at_
  have hf : PySem.W.typeIn X.K (.ref f) = some (.type "function") := beq_iff_eq.mp m.fn
  unfold contains
  refine wpAny_holding ?_
  dsimp only [stdlibNamesSay?]
  refine wpAny_bind (wpAny_bind (LS.here (LF.here ?_)))
  rw [if_neg (by simp)]
  unfold callSpecialUnlessNone?
  refine wpAny_bind (wpAny_bind (wpAny_bind (LS.here (LF.here ?_))))
  refine wpAny_holding (wpAny_bind ((PySem.W.bind_fn I.kIn _ hf).here ?_))
  dsimp only
  rw [if_neg (by simp)]
  refine wpAny_bind (wpAny_mono h (fun v s' hv => ?_) fun _ _ z => z)
  obtain ⟨b, rfl, q⟩ := hv
  exact wpAny_pure (wpAny_truthy_bool q)
end
section
variable {K : KC} {X : Cx} {T : KT} {md mdc : List Bool} {W : WX} {a C dx f : Addr} {fd : FuncData} {ps : List Str} {kk n : Nat} {sp : Sp} {G : GF}
def rInO (C : Addr) (sp : Sp) (neg : Bool) : R2 := fun x y H Q => ∃ a dx fs, y = .ref a ∧ H a = some (.ins C dx fs) ∧ sp [y, x] H (fun v H' => ∃ b, v = .bl b ∧ Q (.bl (if neg then !b else b)) H') (fun _ _ _ => False)
theorem op_inO (m : Meth X.K C "__contains__" f) (F : FnOk X.prog X.w X.K X.mg X.base (L2N.CX X.prog X.w) kk f fd ps sp) (hr : Room kk X.A) (hb : Binds X.K fd ps []) : OpR X (compareOp .In) (rInO C sp false) := by
  intro pins s σ H x y v u Q I rx ry h
  obtain ⟨a, dx, fs, rfl, e, h⟩ := h
  obtain rfl : u = .ref a := ry
  show wpAny _ _ (contains (.ref a) v >>= fun b => pure (Value.bool b)) _ _ _
  refine wpAny_bind (contains_own I e m (wpAny_mono (run_fnS F hr hb (passAt (W := WF) takes0 σ) I (.cons (show RelV (.ref a) (.ref a) from rfl) (.cons rx .nil)) h) (fun w s' hw => ?_) fun _ _ z => z))
  obtain ⟨v', H', I', rv, b, rfl, q⟩ := hw
  obtain rfl : w = .bool b := rv
  exact ⟨b, rfl, wpAny_pure ⟨.bl b, _, I', rfl, q⟩⟩
/-- x in o: o of the class n, its __contains__ by its function on trees -/
def fInO (n : Nat) (mdc : List Bool) (G : GF) (neg : Bool) : GE := fun m => match m.s with
  | y :: x :: s => match chkI n ⟨m.g, y :: x :: s⟩ with
    | some _ => match gCall [] mdc G 2 ⟨m.g, x :: y :: s⟩ with
      | some (.ok ⟨g', .tr (.a (.bl b)) :: s'⟩) => some (.ok ⟨g', .tr (.a (.bl (if neg then !b else b))) :: s'⟩)
      | _ => none
    | none => none
  | _ => none
theorem fInO_ok {neg : Bool} : RA2 K md W (rInO (K.ct n) (spOf K mdc G) neg) (fInO n mdc G neg) := by
  refine .mk fun c σ H m us x y Q rr hc E hf hp => ?_
  unfold fInO at hf
  split at hf
  · rename_i ey ex s hs
    rw [hs] at E
    split at hf
    · rename_i r1 h1
      have E0 := E
      unfold chkI at h1
      dsimp only at h1
      split at h1
      · rename_i n' kf o ts hv
        split at h1
        · rename_i hn
          subst hn
          obtain ⟨a, vs, rfl, ⟨l, dx, ho⟩, _⟩ := viewObj E0 hv
          refine ⟨a, dx, _, rfl, ho, ?_⟩
          have E1 : EnvOk K c σ H m.g ([ex] ++ ([ey] ++ s)) ([x] ++ ([.ref a] ++ us)) := EnvOk.permA (A := [ey]) (B := [ex]) (va := [.ref a]) (vb := [x]) rfl rfl E
          split at hf
          · rename_i g' b s' h2
            cases hf
            refine gCall_ok (W := WF) (is := []) (by simp) (by simp) c σ H ⟨m.g, ex :: ey :: s⟩ us [.ref a, x] _ _ hc rfl E1 h2 ?_
            intro v H' E3
            obtain rfl := top_a E3
            exact ⟨b, rfl, hp _ _ (E3.drop.atom _)⟩
          · cases hf
        · cases h1
      · cases h1
    · cases hf
  · cases hf
end
/-! defs called in an except suite: the promises of HotCalls by functions on trees -/
section
variable {K : KC} {X : Cx} {T : KT} {md mdc : List Bool} {W : WX} {is : List Nat} {G : GF} {n : Nat}
variable {x me : Str} {pp pos apos : Pos} {e oe : Expr} {es : List Expr} {ga go : GE} {kk : Nat} {f : Addr} {fd : FuncData} {ps : List Str} {pl : Sem Bool}
end
section
variable {md : List Bool} {T : KT}
variable {P : Program} {Wd : World} {Kf : PySem.W.Frag} {mg : Str → Option Value} {base : Heap}
end
/-! try: body, except X: one statement; raise -/
section
open PySem.Spec PyProof.Rows
variable {X : Cx} {pins : List (Addr × Obj)} {σ : L2.St} {H : Hp} {s : Shared}
variable {x : Str} {c : Value} {body : List Stmt} {st : Stmt} {np pos pos' rpos : Pos} {tb : WX → L2.TS} {ts : Addr → Value → Option Addr → L2.TS} {Wout : WX}
end
/-! try: body, except X: one statement; raise, by the machine; targets that are tuples alone -/
section
variable {K : KC} {X : Cx} {T : KT} {md : List Bool} {W : WX} {c : Value} {x : Str} {body : List Stmt} {st : Stmt} {np pos pos' rpos : Pos} {gb gs : GS} {tab : List (Nat × Bool)} {k : Nat} {is : List Nat} {tg : Expr}
def sTryRe (tab : List (Nat × Bool)) (gb gs : GS) : GS := fun m => match m.s with
  | _ :: _ => none
  | [] => match gb m with
    | some (.ex C g') => match tab.lookup C with
      | some true => match gs ⟨g', []⟩ with
        | some (.nx m2) => some (.ex C m2.g)
        | _ => none
      | some false => some (.ex C g')
      | none => none
    | r => r
/-- a, b = a tuple -/
def unpkT (md : List Bool) (is : List Nat) : Ms → Option Ms := fun m => match m.s with
  | .tr (.nd .tup o ts) :: s => if ts.length = is.length then bindAll md is ⟨m.g, (ts.map (kid o)).map Ent.tr ++ s⟩ else none
  | _ => none
end
/-! defs with a star parameter, called without stars -/
section
open PySem.Spec PyProof.Rows
variable {X : Cx} {CX : CXT} {kk : Nat} {f : Addr} {sp : Sp} {E : XK} {x : Str} {pp pos : Pos} {e : Expr} {es : List Expr} {t : TA}
end
section
variable {K : KC} {X : Cx} {T : KT} {md mdc : List Bool} {W : WX} {is : List Nat} {G : GF} {n k : Nat}
variable {x : Str} {pp pos : Pos} {e : Expr} {es : List Expr} {ga : GE} {kk : Nat} {f : Addr}
end
section
variable {md : List Bool} {T : KT}
variable {P : Program} {Wd : World} {Kf : PySem.W.Frag} {mg : Str → Option Value} {base : Heap}
end
/-! xs[a:] = ys -/
section
open PySem.Spec PyProof.Rows PySem.F
section
variable {prog : Program} {w : World} {A : Around} {E : Value → Shared → Prop} {s : Shared}
end
section
variable {X : Cx}
end
end
section
variable {K : KC} {X : Cx} {T : KT} {md : List Bool} {W : WX} {c : Cz} {σ : St} {H : Hp} {Γ τ : List Ent} {us vs : List V} {v w : V} {p : List Nat} {gv go gi : GE} {e o ie : Expr}
theorem RepL.take {Z : Zn} {m : Ow} {ts : List Tr} {vs : List V} {Φ : Ps} (n : Nat) (h : RepL K Z H m ts vs Φ) : ∃ Φ', RepL K Z H m (ts.take n) (vs.take n) Φ' ∧ ∀ b, Φ' b → Φ b := by
  have l := RepL.len _ h
  rw [← List.take_append_drop n ts] at h
  obtain ⟨v1, v2, Φ1, Φ2, e, h1, h2, d, u⟩ := RepL.split _ h
  have l1 := RepL.len _ h1
  have l2 := RepL.len _ h2
  have e1 : vs.take n = v1 := by
    rw [e, List.take_append]
    simp at l1 l2 l
    by_cases q : n ≤ ts.length
    · rw [show v1.length = n by omega, Nat.sub_self, List.take_zero, List.append_nil, List.take_of_length_le (by omega)]
    · have : v2 = [] := List.length_eq_zero_iff.mp (by omega)
      rw [this, List.take_nil, List.append_nil, List.take_of_length_le (by omega)]
  rw [e1]
  exact ⟨Φ1, h1, fun b q => (u b).mpr (.inl q)⟩
end
/-! a, b = a tuple, where an error is handled -/
section
open PySem.Spec PyProof.Rows
section
variable {prog : Program} {w : World} {A : Around} {E : Value → Shared → Prop} {s : Shared}
end
variable {X : Cx} {pos : Pos}
end
/-! walks by a supplier of items: enumerate, reversed; range with a step -/
section
variable {K : KC} {X : Cx} {T : KT} {md : List Bool} {W : WX} {c : Cz} {σ : St} {H H' : Hp} {Γ τ : List Ent} {us vs : List V} {v w : V} {n i : Nat} {gb : GS} {gs ga : GE} {tg iter e : Expr} {body : List Stmt} {pos pos' rp : Pos} {bd : Ms → Option Ms} {nx : Nat → Ms → Option Ms} {fin : Nat → Ms → Option Ms}
/-- nx i: the i-th item is put upon the thing walked; fin i: the thing walked goes, behind i items -/
def loopN (nx fin : Nat → Ms → Option Ms) (bd : Ms → Option Ms) (body : GS) : Nat → Nat → Ms → Option Os
  | 0, i, m => match fin i m with
    | some m' => some (.nx m')
    | none => none
  | r + 1, i, m => match nx i m with
    | some m0 => match bd m0 with
      | some m1 => match body m1 with
        | some (.nx m2) => loopN nx fin bd body r (i + 1) m2
        | some (.ct m2) => loopN nx fin bd body r (i + 1) m2
        | some (.bk m2) => some (.nx ⟨m2.g, m2.s.tail⟩)
        | some (.rt t m2) => some (.rt t ⟨m2.g, m2.s.tail⟩)
        | some (.ex C g) => some (.ex C g)
        | none => none
      | none => none
    | none => none
theorem loopN_ok {J : It} {tb : L2.TS} {gT : TG} {D : Ends} {w : V} {oo : Os} (hm : c.md = md) (hT : SG K md gT bd) (hB : SS K md W tb gb)
    (stop : ∀ i H σ (m m' : Ms), EnvOk K c σ H m.g m.s (w :: us) → fin i m = some m' → J.stop i H ∧ EnvOk K c σ H m'.g m'.s us)
    (step : ∀ i H σ (m m0 : Ms), EnvOk K c σ H m.g m.s (w :: us) → nx i m = some m0 → J.go i H ∧ ∀ x H', J.yld i H x H' → EnvOk K c σ H' m0.g m0.s (x :: w :: us))
    (hp : PostS K c W us D oo) : ∀ {σ : St} {H : Hp} {m : Ms} {n : Nat}, EnvOk K c σ H m.g m.s (w :: us) → loopN nx fin bd gb n 0 m = some oo →
    ∃ Wv : Nat → Nat → St → Hp → Prop, (∃ mm, Wv 0 mm σ H) ∧ ∀ i mm σ H, Wv i mm σ H →
      (J.stop i H ∧ D.nx σ H) ∨ (J.go i H ∧ ∃ N : St → Hp → Prop, (∀ σ' H', N σ' H' → ∃ m', m' < mm ∧ Wv (i + 1) m' σ' H') ∧ ∀ x H', J.yld i H x H' → gT x σ H' fun σ2 H2 => tb { D with nx := N, ct := N, bk := D.nx } σ2 H2) := by
  intro σ H m n E hg
  refine ⟨fun i r σ H => ∃ m : Ms, EnvOk K c σ H m.g m.s (w :: us) ∧ loopN nx fin bd gb r i m = some oo, ⟨n, m, E, hg⟩, ?_⟩
  rintro i r σ H ⟨m, E, hg⟩
  cases r with
  | zero =>
    simp only [loopN] at hg
    split at hg
    · rename_i m' h1
      cases hg
      obtain ⟨q1, q2⟩ := stop i H σ m m' E h1
      exact .inl ⟨q1, hp σ H q2⟩
    · cases hg
  | succ r =>
    simp only [loopN] at hg
    split at hg
    · rename_i m0 h0
      split at hg
      · rename_i m1 h1
        obtain ⟨go, yld⟩ := step i H σ m m0 E h0
        refine .inr ⟨go, fun σ' H' => ∃ m : Ms, EnvOk K c σ' H' m.g m.s (w :: us) ∧ loopN nx fin bd gb r (i + 1) m = some oo, fun σ' H' z => ⟨r, by omega, z⟩, fun x H' y => ?_⟩
        refine hT c σ H' m0 m1 _ x _ hm (yld x H' y) h1 fun σ2 H2 E2 => ?_
        cases h2 : gb m1 with
        | none => simp [h2] at hg
        | some o2 =>
          refine hB c σ2 H2 m1 _ _ o2 hm E2 h2 ?_
          cases o2 with
          | nx m2 =>
            simp only [h2] at hg
            exact fun σ3 H3 E3 => ⟨m2, E3, hg⟩
          | ct m2 =>
            simp only [h2] at hg
            exact fun σ3 H3 E3 => ⟨m2, E3, hg⟩
          | bk m2 =>
            simp only [h2] at hg
            cases hg
            exact fun σ3 H3 E3 => hp σ3 H3 E3.tail
          | rt t m2 =>
            simp only [h2] at hg
            cases hg
            exact fun σ3 x3 H3 E3 => hp σ3 x3 H3 E3.tail2
          | ex C g' =>
            simp only [h2] at hg
            cases hg
            exact hp
      · cases hg
    · cases hg
def finN (k : Nk) (off : Nat → Nat → Bool) (i : Nat) (m : Ms) : Option Ms := match m.s with
  | e :: s => match viewE m.g e with
    | some (.nd k' _ ts) => if k' = k ∧ off ts.length i = true then some ⟨m.g, s⟩ else none
    | _ => none
  | _ => none
theorem finN_ok {k : Nk} {off : Nat → Nat → Bool} {m m' : Ms} (E : EnvOk K c σ H m.g m.s (w :: us)) (h : finN k off i m = some m') : (∃ a vs o, w = .ref a ∧ ObjAt K k o H a vs ∧ off vs.length i = true) ∧ EnvOk K c σ H m'.g m'.s us := by
  unfold finN at h
  split at h
  · rename_i e s hs
    split at h
    · rename_i k' o ts hv
      split at h
      · rename_i hk
        cases h
        obtain ⟨rfl, hk⟩ := hk
        rw [hs] at E
        obtain ⟨a, vs, rfl, ho, hl⟩ := viewObj E hv
        exact ⟨⟨a, vs, o, rfl, ho, by rw [← hl]; exact hk⟩, E.drop⟩
      · cases h
    · cases h
  · cases h
/-- the items from the end -/
def nxRev (k : Nk) (n i : Nat) (m : Ms) : Option Ms := match m.s with
  | e :: s => match viewE m.g e with
    | some (.nd k' o ts) => if k' = k ∧ cpE e = true ∧ ts.length = n ∧ i < n then match kidX e k o ts (n - 1 - i) with
        | some e' => some ⟨m.g, e' :: e :: s⟩
        | none => none
      else none
    | _ => none
  | _ => none
theorem nxRev_ok {k : Nk} {m m0 : Ms} (E : EnvOk K c σ H m.g m.s (w :: us)) (h : nxRev k n i m = some m0) : ∃ a vs x o, w = .ref a ∧ ObjAt K k o H a vs ∧ i < n ∧ vs[n - 1 - i]? = some x ∧ EnvOk K c σ H m0.g m0.s (x :: w :: us) := by
  unfold nxRev at h
  split at h
  · rename_i e s hs
    split at h
    · rename_i k' o ts hv
      split at h
      · rename_i hi
        obtain ⟨rfl, h1, h2, h3⟩ := hi
        split at h
        · rename_i e' hk
          cases h
          rw [hs] at E
          obtain ⟨a, vs', w', rfl, ho, hl2, hw, E3⟩ := EnvOk.kidX E (cpE_tr h1) hv hk
          exact ⟨a, vs', w', o, rfl, ho, h3, hw, E3⟩
        · cases h
      · cases h
    · cases h
  · cases h
def lenTop (m : Ms) : Option Nat := match m.s with
  | e :: _ => match viewE m.g e with
    | some (.nd _ _ ts) => some ts.length
    | _ => none
  | _ => none
def sForRev (gs : GE) (bd : Ms → Option Ms) (body : GS) : GS := fun m => match gs m with
  | some (.ok m1) => match ready m1 with
    | some (m2, k, n) => if lenTop m2 = some n then loopN (nxRev k n) (finN k fun _ i => decide (n ≤ i)) bd body n 0 m2 else none
    | none => none
  | some (.ex C g) => some (.ex C g)
  | none => none
theorem ms_forRev (ha : ME X T md W e gs) (hT : MG X T md tg bd) (hB : MSs X T md W body gb) (hgl : Gl X "reversed") (hmg : X.mg "reversed" = none) (hp : PassesOwn (model X.prog X.w) X.A X.env X.xe) (hc : X.calm = true)
    (hs : starEach [e] X.env = [(false, eval e X.env)] := by rfl) (hf : ∀ x, foldedSetIterable (.Call (.Name "reversed" rp) [e] [] pos') X.env x = pure x := by intro _; rfl) : MS X T md W (.For tg (.Call (.Name "reversed" rp) [e] [] pos') body [] pos) (sForRev gs bd gb) := by
  obtain ⟨ti, pi, si⟩ := ha
  obtain ⟨tt, pt, st⟩ := hT
  obtain ⟨tb, pb, sb⟩ := hB
  refine ⟨_, ps_for hp hc (RT.pi_revA hgl hmg pi hs) pt pb hf, fun c σ H m us D oo hm E hg hpo => ?_⟩
  simp only [sForRev] at hg
  split at hg
  · rename_i m1 h1
    split at hg
    · rename_i m2 k n h2
      split at hg
      case isFalse => cases hg
      rename_i hlt
      refine si c σ H m us _ _ hm E h1 fun x H1 E1 => ?_
      obtain ⟨E2, e, s, o, ts, hs2, hv, hk⟩ := ready_ok E1 h2
      obtain ⟨a, vs, rfl, ho, hl⟩ := viewObj (hs2 ▸ E2) hv
      have hn : vs.length = n := by
        unfold lenTop at hlt
        rw [hs2] at hlt
        simp only [hv, Option.some.injEq] at hlt
        omega
      have key : (k = .lst → SqL X.K H1 a vs) ∧ (k = .tup → SqT X.K H1 a vs) := ⟨fun q => by subst q; exact objL ho, fun q => by subst q; exact objT ho⟩
      refine ⟨a, vs, rfl, ?_⟩
      rcases hk with rfl | rfl
      · refine .inl ⟨key.1 rfl, ?_⟩
        rw [hn]
        refine loopN_ok hm st sb (fun i H σ m m' E h => ?_) (fun i H σ m m0 E h => ?_) hpo E2 hg
        · obtain ⟨⟨a', vs', o', e', ho', hd⟩, E'⟩ := finN_ok E h
          exact ⟨by show n ≤ i; simpa using hd, E'⟩
        · obtain ⟨a', vs', x', o', e', ho', hi, hx, E3⟩ := nxRev_ok E h
          cases e'
          refine ⟨⟨hi, vs', x', objL ho', hx⟩, fun x H' y => ?_⟩
          obtain ⟨rfl, y⟩ := y
          have := y vs' (objL ho')
          rw [hx] at this
          cases this
          exact E3
      · refine .inr ⟨key.2 rfl, ?_⟩
        rw [hn]
        refine loopN_ok hm st sb (fun i H σ m m' E h => ?_) (fun i H σ m m0 E h => ?_) hpo E2 hg
        · obtain ⟨⟨a', vs', o', e', ho', hd⟩, E'⟩ := finN_ok E h
          exact ⟨by show n ≤ i; simpa using hd, E'⟩
        · obtain ⟨a', vs', x', o', e', ho', hi, hx, E3⟩ := nxRev_ok E h
          cases e'
          refine ⟨⟨hi, vs', x', objT ho', hx⟩, fun x H' y => ?_⟩
          obtain ⟨rfl, y⟩ := y
          have := y vs' (objT ho')
          rw [hx] at this
          cases this
          exact E3
    · cases hg
  · rename_i h1
    cases hg
    exact si c σ H m us _ _ hm E h1 fun H1 E1 => hpo σ H1 E1
  · cases hg
end
/-! a def that keeps the addresses below its first parameter, called -/
section
variable {K : KC} {X : Cx} {T : KT} {md mdc : List Bool} {W : WX} {G : GG} {x : Str} {pp pos : Pos} {e : Expr} {es : List Expr} {ga : GE} {kk : Nat} {f : Addr} {fd : FuncData} {ps : List Str}
end
/-! sum of a list where an error is handled; defs that keep addresses, called there -/
section
open PySem.Spec PyProof.Rows
section
variable {prog : Program} {w : World} {A : Around} {E : Value → Shared → Prop} {s : Shared}
end
variable {X : Cx}
end
section
variable {K : KC} {X : Cx} {T : KT} {md mdc : List Bool} {W : WX} {G : GG} {n : Nat}
variable {me : Str} {pos apos : Pos} {e oe : Expr} {es : List Expr} {ga go : GE} {kk : Nat} {f : Addr} {fd : FuncData} {ps : List Str} {pl : Sem Bool}
end
section
variable {K : KC} {md : List Bool} {T : KT}
variable {P : Program} {Wd : World} {Kf : PySem.W.Frag} {mg : Str → Option Value} {base : Heap}
end
/-! a comprehension over an own list of rows: its item is a place -/
section
variable {md : List Bool} {k n : Nat} {m m1 : Ms} {Γ s : List Ent} {gs gt ge : GE} {α : Type}
end
/-! a def that calls itself: no promise at depth 0 -/
section
variable {P : Program} {Wd : World} {Kf : PySem.W.Frag} {mg : Str → Option Value} {base : Heap} {T : KT} {md : List Bool}
end
/-! a caught error handed to a def -/
section
variable {K : KC} {X : Cx} {T : KT} {md mdc : List Bool} {W : WX} {is : List Nat}
end
/-! defs that are handed an error: from the body, and the call -/
section
open PySem.Spec PyProof.Rows HotX
variable {CX : CXT} {P : Program} {w : World} {Kf : PySem.W.Frag} {mg : Str → Option Value} {base : Heap} {k : Nat} {f : Addr} {T : KT} {md mdc : List Bool}
end
/-! the call of a def that is handed the error -/
section
open PySem.Spec PyProof.Rows HotX
variable {X : Cx} {T : KT} {md mdc : List Bool} {W : WX} {is : List Nat} {p : Addr × Obj} {kk : Nat} {f D : Addr} {fd : FuncData} {ps : List Str} {G : Addr → GF} {x : Str} {pp pos : Pos} {e : Expr} {es : List Expr} {ga : GE}
end
/-! list(d): the keys of a dict -/
section
variable {K : KC} {X : Cx} {T : KT} {md : List Bool} {W : WX}
end
/-! x is True, x is False, of anything -/
section
open PySem.Spec PyProof.Rows
variable {K : KC} {X : Cx} {T : KT} {md : List Bool} {W : WX}
def FIsBV (neg : Bool) : Tr → Tr → Option V
  | .a u, .a (.bl b) => some (.bl (if neg then !decide (u = .bl b) else decide (u = .bl b)))
  | .nd _ _ _, .a (.bl b) => some (.bl neg)
  | _, _ => none
def fIsBV : GE := fP2 (FIsBV false)
def fNotBV : GE := fP2 (FIsBV true)
end
/-! a walk over a list where an error is handled -/
section
open PySem.Spec PyProof.Rows HotX
section
variable {prog : Program} {w : World} {A : Around} {E : Value → Shared → Prop} {s : Shared}
end
end
section
variable {X : Cx} {T : KT} {md : List Bool} {W : WX} {gs : GE} {bd : Ms → Option Ms} {gb : GS} {iter tg : Expr} {body : List Stmt} {pos : Pos}
end
section
open PySem.Spec
variable {X : Cx} {T : KT} {md : List Bool} {W : WX} {ga : GE} {bd : Ms → Option Ms} {gb : GS} {tg : Expr} {body : List Stmt} {pos pos' rp : Pos}
end
/-! enumerate of a tuple -/
section
open PySem.Spec PyProof.Rows
open PySem.Sem (wp)
section
variable {prog : Program} {w : World} {A : Around} {E : Value → Shared → Prop} {s : Shared}
end
end
section
variable {K : KC} {X : Cx} {T : KT} {md : List Bool} {W : WX} {c : Cz} {σ : St} {H : Hp} {us : List V} {w : V} {i : Nat} {ga : GE} {bd : Ms → Option Ms} {gb : GS} {e : Expr} {body : List Stmt} {pos pos' rp : Pos}
end
/-! a look at things that are all lent for its time; a def that returns a new list of what it was lent -/
section
variable {K : KC} {X : Cx} {T : KT} {md : List Bool} {W : WX} {c : Cz} {σ : St} {H H' : Hp} {Γ τ : List Ent} {us ws : List V} {Z : Zn} {Φ Ψ : Ps} {t : TE} {g : GE}
end
section
variable {K : KC} {X : Cx} {T : KT} {md : List Bool} {W : WX} {ga : GE} {f : Addr} {fd : FuncData} {ps : List Str} {kk : Nat} {x : Str} {pp pos : Pos} {e : Expr}
end
section
variable {K : KC} {X : Cx} {T : KT} {md : List Bool} {W : WX} {ge : GE} {e : Expr}
end
section
variable {K : KC} {X : Cx} {T : KT} {md : List Bool} {W : WX} {i j d : Nat} {e : Expr} {es : List Expr} {ga g : GE} {pos pos' lp : Pos}
end
/-! a call of a def that keeps addresses, where aliases at the place itself and aliases at the bottom of the stack live on, too -/
section
variable {K : KC} {X : Cx} {T : KT} {md mdc : List Bool} {W : WX} {c : Cz} {σ : St} {H H' : Hp} {Γ τ : List Ent} {us vs ws wq : List V} {v w wp : V} {p q r : List Nat} {t : Tr} {ts : List Tr} {i j n k : Nat} {Z : Zn} {Φ Ψ : Ps} {qs : List (List Nat)} {G : GG}
end
section
variable {K : KC} {X : Cx} {T : KT} {md mdc : List Bool} {W : WX} {G : GG} {x : Str} {pp pos : Pos} {e : Expr} {es : List Expr} {ga : GE} {kk : Nat} {f : Addr} {fd : FuncData} {ps : List Str}
end
/-! xs.remove(x), deep -/
section
variable {X : Cx}
end
section
variable {K : KC} {X : Cx} {T : KT} {md : List Bool} {W : WX} {c : Cz} {σ : St} {H : Hp} {Γ s : List Ent} {L : List Tr} {ts : List Tr} {t x : Tr} {j : Nat} {p : List Nat}
end
/-! xs.count(k) -/
section
variable {K : KC} {X : Cx} {T : KT} {md : List Bool} {W : WX}
end
/-! a value of which nothing is known any more -/
section
variable {K : KC} {X : Cx} {T : KT} {md : List Bool} {W : WX} {e : Expr} {g : GE}
def fHid : GE := fun m => match m.s with
  | _ :: s => some (.ok ⟨m.g, .tr .any :: s⟩)
  | _ => none
end
section
variable {K : KC} {X : Cx} {T : KT} {md mdc : List Bool} {W : WX} {c : Cz} {σ : St} {H H' : Hp} {Γ τ : List Ent} {us vs ws wq : List V} {v w wp w0 : V} {p q r q0 : List Nat} {t : Tr} {ts : List Tr} {i j n r0 : Nat} {Z : Zn} {qs : List (List Nat)} {Φ Ψ : Ps} {m m' : Ms} {G : GG}
variable {P : Program} {Wd : World} {Kf : PySem.W.Frag} {mg : Str → Option Value} {base : Heap}

variable {x : Str} {pp pos : Pos} {e : Expr} {es : List Expr} {ga : GE} {kk : Nat} {f : Addr} {fd : FuncData} {ps : List Str}
end
/-! dicts whose keys are tuples of ints and texts (new ones or ones of the written part): in, read, store, a display of one pair -/
section
variable {X : Cx} {pins : List (Addr × Obj)} {σ : St} {H : Hp} {s : Shared} {a b : Addr} {k : List Key} {v : V} {r : Value} {l : List (List Key × Addr × V)} {A : Around} {E : Value → Shared → Prop}
end
section
variable {K : KC} {X : Cx} {T : KT} {md : List Bool} {W : WX} {c : Cz} {σ : St} {H H' : Hp} {Γ τ : List Ent} {us vs : List V} {v w : V} {p q : List Nat} {t : Tr} {ts ts' : List Tr} {i j : Nat} {ks : List (List Key)} {k : List Key}
variable {g : GS} {gi go gv ga gb : GE} {e a b o ie : Expr} {pos pos' : Pos}
/-! on trees -/
def keysA : List Tr → Option (List Key)
  | [] => some []
  | .a v :: ts => match keyOf v, keysA ts with
    | some k, some ks => some (k :: ks)
    | _, _ => none
  | _ => none
def keyT : Tr → Option (List Key)
  | .nd .tup _ ts => keysA ts
  | _ => none
def kixT (k : List Key) : List (List Key) → Option Nat
  | [] => none
  | x :: ks => if x = k then some 0 else (kixT k ks).map (· + 1)
def FInT (neg : Bool) : Tr → Tr → Option V
  | tx, .nd (.dcT ks) _ _ => match keyT tx with
    | some k => some (.bl (if neg then !(kixT k ks).isSome else (kixT k ks).isSome))
    | none => none
  | _, _ => none
def fInB : GE := gOr fInA (fP2 (FInT false))
def fNotInB : GE := gOr fNotInA (fP2 (FInT true))
end
/-! dicts with tuple keys: stores, displays of one pair -/
section
variable {K : KC} {X : Cx} {T : KT} {md : List Bool} {W : WX} {c : Cz} {σ : St} {H H' : Hp} {Γ τ : List Ent} {us vs : List V} {v w : V} {p q : List Nat} {t : Tr} {ts ts' : List Tr} {i j : Nat} {ks : List (List Key)} {k : List Key}
variable {g : GS} {gi go gv ga gb : GE} {e a b o ie : Expr} {pos pos' : Pos}
def stSubT : Ms → Option Ms := fun m => match m.s with
  | .tr y :: .al p :: .tr t :: s => match getG m.g p, keyT y with
    | some (.nd (.dcT ks) .own ts), some k => if esc t = true ∧ ks.length < 100000 then match kixT k ks with
        | some j => some ⟨(setG m.g p (.nd (.dcT ks) .own (ts.set j t))).map (killJ (p ++ [j])), s.map (killJ (p ++ [j]))⟩
        | none => some ⟨kill p (setG m.g p (.nd (.dcT (ks ++ [k])) .own (ts ++ [t]))), kill p s⟩
      else none
    | _, _ => none
  | _ => none
def stSubB : Ms → Option Ms := fun m => match stSubA m with
  | none => stSubT m
  | r => r
def sSubB (gv go gi : GE) : GS := fun m => match gSeq (gSeq gv go) gi m with
  | some (.ok m') => match stSubB m' with
    | some m2 => some (.nx m2)
    | none => none
  | some (.ex C g) => some (.ex C g)
  | none => none
end
/-! {k: v}, k a tuple -/
section
variable {K : KC} {X : Cx} {T : KT} {md : List Bool} {W : WX} {tk tv : TE} {gk gv : GE} {ke ve : Expr} {dpos : Pos}
end
section
variable {X : Cx} {T : KT} {md : List Bool} {W : WX} {gk gv : GE} {ke ve : Expr} {dpos : Pos}
def gK0 : GE := fun m => some (.ok ⟨m.g, .tr (.nd (.dcT []) .own []) :: m.s⟩)
def fPut1 : GE := fun m => match m.s with
  | .tr t :: .tr y :: .tr (.nd (.dcT []) .own []) :: s => match keyT y with
    | some k => if esc t = true then some (.ok ⟨m.g, .tr (.nd (.dcT [k]) .own [t]) :: s⟩) else none
    | none => none
  | _ => none
end
/-! written dicts of defs by texts; a property; xs[::-1] -/
section
variable {K : KC} {X : Cx} {T : KT} {md mdc : List Bool} {W : WX} {c : Cz} {σ : St} {H H' : Hp} {Γ τ : List Ent} {us vs : List V} {v w : V} {i j n kk : Nat} {m m' : Ms} {ga ge : GE} {a b e oe : Expr} {es : List Expr} {pos p1 p2 p3 p4 p5 p6 p7 p8 : Pos} {x dn z : Str} {G : GF} {d f : Addr}
/-- a def by its promise on trees -/
def DefAt (X : Cx) (T : KT) (kk : Nat) (f : Addr) (mdc : List Bool) (G : GF) : Prop :=
  PySem.W.keepIn X.K (.ref f) = true ∧ ∃ fd ps, FnOk X.prog X.w X.K X.mg X.base (L2N.CX X.prog X.w) kk f fd ps (spOf (kcm X.K T) mdc G) ∧ Binds X.K fd ps []
/-- what stands in a written dict: texts and defs -/
inductive DTab (X : Cx) (T : KT) (kk : Nat) : List DictEntry → List (Str × List Bool × GF) → Prop
  | nil : DTab X T kk [] []
  | cons {h : Int} {z : Str} {t : Tok} {f : Addr} {mdc : List Bool} {G : GF} {es : List DictEntry} {l : List (Str × List Bool × GF)} (D : DefAt X T kk f mdc G) (r : DTab X T kk es l) : DTab X T kk (⟨h, .str z t, .ref f⟩ :: es) ((z, mdc, G) :: l)
structure KDefs (X : Cx) (T : KT) (kk : Nat) (d : Addr) (es : List DictEntry) (nn : Nat) (l : List (Str × List Bool × GF)) : Prop where
  D : KDict X.K X.w d es.toArray nn
  tb : DTab X T kk es l
theorem DTab.find {es : List DictEntry} {l : List (Str × List Bool × GF)} (h : DTab X T kk es l) (z : Str) : (∀ en ∈ es, en.refKey = false) ∧ match l.lookup z with
    | some (mdc, G) => ∃ en f, es.find? (·.key.isStr z) = some en ∧ en.val = .ref f ∧ DefAt X T kk f mdc G
    | none => es.find? (·.key.isStr z) = none := by
  induction h with
  | nil => exact ⟨by simp, rfl⟩
  | @cons h z' t f mdc G es l D r ih =>
    obtain ⟨ih1, ih2⟩ := ih
    refine ⟨fun en hen => ?_, ?_⟩
    · rcases List.mem_cons.mp hen with q | q
      · subst q; rfl
      · exact ih1 en q
    · rw [List.lookup_cons, List.find?_cons]
      by_cases q : z = z'
      · subst q
        have e1 : (z == z) = true := beq_self_eq_true z
        rw [e1]
        have e2 : (⟨h, .str z t, .ref f⟩ : DictEntry).key.isStr z = true := beq_self_eq_true z
        rw [e2]
        exact ⟨_, f, rfl, rfl, D⟩
      · rw [beq_false_of_ne q]
        have e2 : (⟨h, .str z' t, .ref f⟩ : DictEntry).key.isStr z = false := beq_false_of_ne (Ne.symm q)
        rw [e2]
        exact ih2
theorem KDefs.ns {es : List DictEntry} {nn : Nat} {l : List (Str × List Bool × GF)} (D : KDefs X T kk d es nn l) (z : Str) : ∃ r, PySem.W.nsIn X.K d z = some r ∧ r.isSome = (l.lookup z).isSome ∧ ∀ mdc G, l.lookup z = some (mdc, G) → ∃ f, r = some (.ref f) ∧ DefAt X T kk f mdc G := by
  obtain ⟨h1, h2⟩ := D.tb.find z
  have hl := D.D.at_
  unfold PySem.W.nsIn
  rw [hl]
  simp only
  cases e : l.lookup z with
  | none =>
    rw [e] at h2
    simp only at h2
    rw [h2]
    simp only
    have : es.any (·.refKey) = false := by
      rw [List.any_eq_false]
      intro en hen
      simp [h1 en hen]
    rw [this]
    exact ⟨none, rfl, rfl, fun _ _ q => by cases q⟩
  | some q =>
    obtain ⟨mdc, G⟩ := q
    rw [e] at h2
    obtain ⟨en, f, h3, h4, h5⟩ := h2
    rw [h3]
    refine ⟨some en.val, rfl, rfl, fun mdc' G' q => ?_⟩
    cases q
    exact ⟨f, by rw [h4], h5⟩
def fKD (neg : Bool) (keys : List Str) : GE := fun m => match m.s with
  | .tr (.a (.str z)) :: s => some (.ok ⟨m.g, .tr (.a (.bl (if neg then !decide (z ∈ keys) else decide (z ∈ keys)))) :: s⟩)
  | _ => none
end
/-! a property read; xs[::-1] of a list of plain values -/
section
variable {K : KC} {X : Cx} {T : KT} {md mdc : List Bool} {W : WX} {c : Cz} {σ : St} {H H' : Hp} {Γ τ : List Ent} {us vs : List V} {v w : V} {i j n kk : Nat} {m m' : Ms} {ga ge : GE} {a b e oe : Expr} {pos p1 p2 p3 : Pos} {f : Str} {G : GF} {g p : Addr} {fd : FuncData} {ps : List Str}
def fRevL : GE := fun m => match m.s with
  | e :: s => match viewE m.g e with
    | some (.nd .lst o ts) => match atoms ts with
      | some us => some (.ok ⟨m.g, .tr (.nd .lst .own (us.reverse.map .a)) :: s⟩)
      | none => none
    | _ => none
  | _ => none
/-! a, b, c = x, y, z -/
def sPar3 (md : List Bool) (i j l : Nat) (ga : GE) : GS := fun m => match ga m with
  | some (.ok ⟨g', ez :: ey :: ex :: s⟩) => match bindAll md [i, j, l] ⟨g', ex :: ey :: ez :: s⟩ with
    | some m2 => some (.nx m2)
    | none => none
  | some (.ex C g') => some (.ex C g')
  | _ => none
end
/-! rules for pure proofs: several names at once, dicts with tuple keys, tables of defs -/
section
variable {md : List Bool} {i j l : Nat} {ga g b h : GE} {m m' : Ms} {Γ s : List Ent} {ex ey ez : Ent} {C : Nat}
def pS2 (a : Option Rs) (md : List Bool) (i j : Nat) : Option Os := match a with
  | some (.ok ⟨g', ey :: ex :: s⟩) => nxO (bindAll md [i, j] ⟨g', ex :: ey :: s⟩)
  | some (.ex C g') => some (.ex C g')
  | _ => none
theorem sPar_e : sPar md i j ga m = pS2 (ga m) md i j := by
  unfold sPar pS2 nxO
  rcases ga m with _ | (⟨g', _ | ⟨a, _ | ⟨b, s⟩⟩⟩ | _) <;> rfl
theorem pS2_ok : pS2 (some (.ok ⟨Γ, ey :: ex :: s⟩)) md i j = nxO (bindAll md [i, j] ⟨Γ, ex :: ey :: s⟩) := rfl
def pS3 (a : Option Rs) (md : List Bool) (i j l : Nat) : Option Os := match a with
  | some (.ok ⟨g', ez :: ey :: ex :: s⟩) => nxO (bindAll md [i, j, l] ⟨g', ex :: ey :: ez :: s⟩)
  | some (.ex C g') => some (.ex C g')
  | _ => none
theorem sPar3_e : sPar3 md i j l ga m = pS3 (ga m) md i j l := by
  unfold sPar3 pS3 nxO
  rcases ga m with _ | (⟨g', _ | ⟨a, _ | ⟨b, _ | ⟨d, s⟩⟩⟩⟩ | _) <;> rfl
theorem pS3_ok : pS3 (some (.ok ⟨Γ, ez :: ey :: ex :: s⟩)) md i j l = nxO (bindAll md [i, j, l] ⟨Γ, ex :: ey :: ez :: s⟩) := rfl
theorem sSubB_e : sSubB g b h m = kS (gSeq (gSeq g b) h m) stSubB := by
  unfold sSubB kS nxO
  split <;> first | rfl | (split <;> simp_all) | simp_all
theorem gCon_e {t : Tr} : gCon t m = some (.ok ⟨m.g, .tr t :: m.s⟩) := rfl
theorem gK0_e : gK0 m = some (.ok ⟨m.g, .tr (.nd (.dcT []) .own []) :: m.s⟩) := rfl
theorem fKD_e {neg : Bool} {keys : List Str} {z : Str} : fKD neg keys ⟨Γ, .tr (.a (.str z)) :: s⟩ = some (.ok ⟨Γ, .tr (.a (.bl (if neg then !decide (z ∈ keys) else decide (z ∈ keys)))) :: s⟩) := rfl
end
/-! the walk over a list: an invariant that speaks of what has been walked -/
section
variable {α : Type} {gs : GS} {bd : Ms → Option Ms} {s : List Ent}
theorem loopE_pre {xs : List α} {enc : α → Tr} (e : Ent) (kd : Nk) (o : Ow) (I : List α → List Ent → Prop) (hv : ∀ p Γ, I p Γ → viewE Γ e = some (.nd kd o (xs.map enc))) (hc : cpE e = true) (hcp : ∀ x ∈ xs, cp (kid o (enc x)) = true)
    (turn : ∀ p x q Γ, xs = p ++ x :: q → I p Γ → ∃ Γ1 Γ2, bd ⟨Γ, .tr (kid o (enc x)) :: e :: s⟩ = some ⟨Γ1, e :: s⟩ ∧ I (p ++ [x]) Γ2 ∧ (gs ⟨Γ1, e :: s⟩ = some (.nx ⟨Γ2, e :: s⟩) ∨ gs ⟨Γ1, e :: s⟩ = some (.ct ⟨Γ2, e :: s⟩))) {Γ : List Ent} (h0 : I [] Γ) :
    ∃ Γ', I xs Γ' ∧ loopE kd bd gs xs.length 0 ⟨Γ, e :: s⟩ = some (.nx ⟨Γ', s⟩) := by
  have key : ∀ ys pre Γ, xs = pre ++ ys → I pre Γ → ∃ Γ', I xs Γ' ∧ loopE kd bd gs ys.length pre.length ⟨Γ, e :: s⟩ = some (.nx ⟨Γ', s⟩) := by
    intro ys
    induction ys with
    | nil =>
      intro pre Γ hx h
      have hx' : pre = xs := by rw [hx, List.append_nil]
      refine ⟨Γ, hx' ▸ h, ?_⟩
      show loopE kd bd gs 0 pre.length ⟨Γ, e :: s⟩ = _
      unfold loopE
      simp only [hv pre Γ h]
      rw [if_pos ⟨trivial, by rw [hx']; simp⟩]
    | cons y ys ih =>
      intro pre Γ hx h
      have hmem : y ∈ xs := by rw [hx]; simp
      obtain ⟨Γ1, Γ2, e1, h2, e2⟩ := turn pre y ys Γ hx h
      show ∃ Γ', I xs Γ' ∧ loopE kd bd gs (ys.length + 1) pre.length ⟨Γ, e :: s⟩ = _
      have hk1 : kidX e kd o (xs.map enc) pre.length = some (.tr (kid o (enc y))) := by
        unfold kidX
        rw [hx]
        simp [hcp y hmem]
      obtain ⟨Γ', h3, e3⟩ := ih (pre ++ [y]) Γ2 (by simp [hx]) h2
      rw [List.length_append, List.length_singleton] at e3
      refine ⟨Γ', h3, ?_⟩
      unfold loopE
      simp only [hv pre Γ h]
      rw [if_pos ⟨trivial, hc, by rw [hx]; simp⟩, hk1]
      simp only [e1]
      rcases e2 with e2 | e2 <;> rw [e2] <;> exact e3
  exact key xs [] Γ rfl h0
end
/-! own operators between two things of one class; isinstance of an own class -/
section
variable {K : KC} {X : Cx} {T : KT} {md mdc : List Bool} {W : WX} {a C dx f : Addr} {fd : FuncData} {ps : List Str} {kk n : Nat} {sp : Sp} {G : GF}
end
/-! things that are walked by their own __iter__, which hands out the iterator of a field -/
section
section
variable {X : Cx}
end
section
variable {X : Cx} {tg e : Expr} {te : TE} {C f : Addr} {fd : FuncData} {j : Str} {kk : Nat} {pins : List (Addr × Obj)} {σ : St} {H : Hp} {s : Shared}
end
section
variable {K : KC} {X : Cx} {T : KT} {md mdc : List Bool} {W : WX} {c : Cz} {σ σ' σ2 : St} {H H' : Hp} {Γ τ : List Ent} {us vs : List V} {v w : V} {i n k : Nat} {m m' : Ms} {g ge gt gs ga gk : GE} {e tg iter elt cnd : Expr} {es : List Expr} {pos : Pos} {scope : Scope} {x : Str} {kk : Nat} {f : Addr} {fd : FuncData}
end
end
section
variable {K : KC} {X : Cx} {T : KT} {md : List Bool} {W : WX} {c : Cz} {σ : St} {H : Hp} {Γ τ : List Ent} {us : List V} {m : Ms} {x y : V} {go ge f : GE} {o e cl : Expr} {rr : Rs}
end
/-! isinstance of a class above -/
section
variable {K : KC} {X : Cx} {T : KT} {md mdc : List Bool} {W : WX} {n : Nat}
end
/-! list(reversed(xs)) -/
section
open PySem.Spec PyProof.Rows
end
section
open PySem.Spec PyProof.Rows
variable {X : Cx}
end
section
variable {K : KC} {X : Cx} {T : KT} {md : List Bool} {W : WX} {g : GE}
end
/-! t + u, tuples of plain values -/
section
variable {K : KC} {X : Cx} {T : KT} {md : List Bool} {W : WX} {c : Cz} {σ : St} {H : Hp} {Γ τ : List Ent} {us : List V} {ga gb : GE}
end
/-! static methods and new things that may raise -/
section
variable {K : KC} {X : Cx} {T : KT} {md mdc : List Bool} {W : WX} {g ga : GE} {e oe : Expr} {es : List Expr} {pos pp apos : Pos} {x me : Str} {G : GF} {kk n : Nat} {f C : Addr} {fd : FuncData} {ps : List Str} {is : List Nat} {sp : Sp} {ta : TE} {tA : TA} {pl : Sem Bool} {CXk : CXT} {Ew : St → XK}
end
/-! isinstance(e, T), isinstance(e, (A, B)): e the error of a suite -/
section
variable {X : Cx} {T : KT} {md : List Bool} {W : WX} {i : Nat} {a D : Addr} {oe : Obj} {pn : List (Addr × Obj)}
end
section
variable {K : KC} {X : Cx} {T : KT} {md mdc : List Bool} {W : WX} {oe : Expr} {pos apos : Pos} {me : Str} {G : GF} {kk : Nat} {f C : Addr} {fd : FuncData} {ps : List Str} {sp : Sp} {ta : TE} {pl : Sem Bool} {CXk : CXT} {Ew : St → XK}
end
/-! sorted(xs): items that are data (tuples) -/
section
variable {X : Cx}
end
section
variable {K : KC} {X : Cx} {T : KT} {md : List Bool} {W : WX} {g : GE}
end
/-! list(range(i, j)) -/
section
variable {X : Cx} {T : KT} {md : List Bool} {W : WX} {ga gb : GE}
def fLstG : GE := fun m => match m.s with
  | .tr (.a (.int j)) :: .tr (.a (.int i)) :: s => if -100000 ≤ i ∧ i ≤ 100000 ∧ -100000 ≤ j ∧ j ≤ 100000 then some (.ok ⟨m.g, .tr (.nd .lst .own ((rng i (j - i).toNat).map fun n => .a (.int n))) :: s⟩) else none
  | _ => none
theorem rgV_rng (i j : Int) : rgV i j = (rng i (j - i).toNat).map V.int := by
  unfold rgV rng
  rw [List.map_map]
  rfl
theorem me_lstRg2 {a b : Expr} {p p2 pos pos2 : Pos} (ha : ME X T md W a ga) (hb : ME X T md W b gb) (calm : X.calm = true) (g1 : Gl X "list") (m1 : X.mg "list" = none) (g2 : Gl X "range") (m2 : X.mg "range" = none)
    (na : starEach [a, b] X.env = (false, eval a X.env) :: starEach [b] X.env := by rfl)
    (nb : starEach [b] X.env = (false, eval b X.env) :: starEach [] X.env := by rfl) (hp : (backTo pos2 (starEach [b] X.env)).any (·.1) = false := by rfl)
    (nl : starEach [.Call (.Name "range" p2) [a, b] [] pos2] X.env = (false, eval (.Call (.Name "range" p2) [a, b] [] pos2) X.env) :: starEach [] X.env := by rfl) :
    ME X T md W (.Call (.Name "list" p) [.Call (.Name "range" p2) [a, b] [] pos2] [] pos) (gSeq (gSeq ga gb) fLstG) := by
  obtain ⟨ta, pa, sa⟩ := ha
  obtain ⟨tb, pb, sb⟩ := hb
  refine ⟨_, pe_listRg calm g1 m1 (prg_2 g2 m2 pa pb na nb hp) nl, fun c σ H m us Q rr hc E hg hq => ?_⟩
  simp only [gSeq] at hg
  cases e1 : ga m with
  | none => simp [e1] at hg
  | some r1 =>
    rw [e1] at hg
    cases r1 with
    | ok m1 =>
      simp only at hg
      cases e2 : gb m1 with
      | none => simp [e2] at hg
      | some r2 =>
        rw [e2] at hg
        cases r2 with
        | ok m2 =>
          simp only at hg
          refine sa c σ H m us _ _ hc E e1 fun x H1 E1 => ?_
          refine sb c σ H1 m1 (x :: us) _ _ hc E1 e2 fun y H2 E2 => ?_
          unfold fLstG at hg
          split at hg
          · rename_i j i s hs
            split at hg
            · rename_i hb
              cases hg
              rw [hs] at E2
              have hy := top_a E2
              have hx := top_a E2.drop
              subst hx hy
              refine ⟨i, j, rfl, rfl, ⟨by omega, by omega, by omega, by omega, by omega⟩, fun q hn => hq _ _ ?_⟩
              rw [rgV_rng]
              exact EnvOk.newAtoms (E2.drop.drop) _ hn
            · cases hg
          · cases hg
        | ex C g => 
          simp only at hg
          cases hg
          refine sa c σ H m us _ _ hc E e1 fun x H1 E1 => ?_
          exact sb c σ H1 m1 (x :: us) _ _ hc E1 e2 hq
    | ex C g =>
      simp only at hg
      cases hg
      exact sa c σ H m us _ _ hc E e1 hq
end
/-! sorted(set(xs)) of a list of ints -/
section
open PySem.Spec PyProof.Rows
abbrev set00 (w : World) : Obj := { cls := .type "set", dict := none, data := .set #[] 0 (.fresh 0 0 (!w.params.followText "set-order")) }
variable {P : Program} {w : World} {A : Around} {E : Value → Shared → Prop} {s : Shared}
set_option maxRecDepth 100000 in
set_option maxHeartbeats 3200000 in
theorem set_of_lst {l : Addr} {its : Array Value} (ns : List Int) {Q : Value → Shared → Prop} (calm : A.handled = none) (hl : s.heap.IsList l its) (hI : IntsAre its.toList ns) (few : ns.length + 1 < scanBound)
    (fin : ∀ (h2 : Heap) (t2 c : Nat), SetR w h2 s.heap.objs.size (fun j => decide (j ∈ ns)) c → c ≤ ns.length → (∀ b o, s.heap.get? b = some o → h2.get? b = some o) → Q (.ref s.heap.objs.size) { s with heap := h2, toks := t2 }) :
    wpAny (model P w) A (call (.type "set") [.ref l]) Q E s := by
  have eln : its.size = ns.length := (Array.length_toList).symm.trans hI.length
  obtain ⟨c, tl, mro⟩ := F.called_set.mro
  have made := F.called_set.made
  have sub := F.called_set.sub
  refine wpAny_call (codeAny_of_tree ?_)
  show wpAny _ _ (callAny (.type "set") _) _ _ _
  refine wpAny_pure ⟨Code.quiet_builtin _ (by decide +kernel), ?_⟩
  refine codeAny_builtin F.entry_type_call ?_
  rw [Around.under_plain (weight_type_call_type "set" [.ref l] []) rfl]
  have a1 := F.called_set.notType
  have a2 := F.called_set.canCreate
  have a3 := F.typeCall_set_1 (.ref l)
  repeat any_goals first | assumption | wp_step
  refine codeAny_mono (code_set_led1 (.ref l) (E := E) (Q₁ := fun ob z => ob = .ref s.heap.objs.size ∧ z = { s with heap := s.heap.push (set00 w) }) ⟨rfl, rfl⟩) fun r z hr => ?_
  match r, hr with
  | .error e, hr => exact hr
  | .ok (.ret ob), hr =>
      obtain ⟨rfl, rfl⟩ := hr
      have at0 : (s.heap.push (set00 w)).get? s.heap.objs.size = some (set00 w) := Heap.get?_push_size _ rfl
      have ty0 : Shared.TypeIs { s with heap := s.heap.push (set00 w) } (.ref s.heap.objs.size) "set" := ⟨_, at0, rfl⟩
      have b1 := F.called_set.init.lookup
      have b2 := F.called_set.init.bind (.ref s.heap.objs.size)
      repeat any_goals first | assumption | wp_step
      refine codeAny_mono (codeAny_call_builtin (R := wants (fun r2 z2 => r2 = .none ∧ ∃ h2 t2 c, z2 = { s with heap := h2, toks := t2 } ∧ SetR w h2 s.heap.objs.size (fun j => decide (j ∈ ns)) c ∧ c ≤ ns.length ∧
        (∀ b o, s.heap.get? b = some o → h2.get? b = some o)) E) F.called_set.init.plain F.entry_set_init (check_set_init_1 ty0 ?_)) fun r2 z2 hr2 => ?_
      · obtain ⟨ol, hol, hcl, nl, hdl⟩ := hl
        obtain ⟨kl, dl, tl, sl⟩ := ol
        simp only at hcl hdl
        subst hcl hdl
        have at1 : (s.heap.push (set00 w)).get? l = some { cls := .type "list", dict := dl, data := .seq its nl, slots := sl } := Heap.get?_push_of_some _ hol
        have c1 := F.sub_list_set
        have c2 := F.sub_list_frozenset
        have c3 : (Value.type "list" == Value.type "dict") = false := rfl
        have li : (s.heap.push (set00 w)).IsList l its := ⟨_, at1, rfl, nl, rfl⟩
        unfold Builtin.«set.__init__» noKeywords Builtin.Frozenset.updateFrom
        generalize hp : pyIter = p0
        wp_walk
        subst hp
        refine wpAny_pyIter_list li (wpAny_bind (wpAny_runValue ?_))
        have ll : l < s.heap.objs.size := Heap.lt_size hol
        have e0 : (s.heap.push (set00 w)).objs.size = s.heap.objs.size + 1 := Heap.size_push ..
        have calm3 : A.in1.in1.in1.handled = none := by simp [calm]
        have n1 : l ≠ (s.heap.push (set00 w)).objs.size := fun z => by
          rw [e0] at z
          exact Nat.lt_irrefl _ (Nat.lt_of_lt_of_le (z ▸ ll) (Nat.le_succ _))
        have n2 : s.heap.objs.size ∉ [(s.heap.push (set00 w)).objs.size, l] := by
          intro z
          rcases List.mem_cons.mp z with z | z
          · exact Nat.succ_ne_self _ (e0 ▸ z).symm
          · exact Nat.lt_irrefl _ (List.mem_singleton.mp z ▸ ll)
        refine set_update_ints ((Walks.list calm3 _ l n1 its).toS) s.heap.objs.size n2 ns eln few (fun i v hv => ?_) (its.size - 0) 0 _ (by omega) (Nat.zero_le _) ⟨⟨_, Heap.get?_push_size _ rfl, rfl, rfl⟩, (li.push _)⟩ ?g1 ?g2
        · have hi : i < ns.length := eln ▸ (Array.getElem?_eq_some_iff.mp hv).1
          obtain ⟨t, e⟩ := PyProof.Rows.IntsAre.int_at hI i v (by rw [Array.getElem?_toList]; exact hv)
          exact ⟨ns[i], t, List.getElem?_eq_getElem hi, by rw [e, List.getD_eq_getElem?_getD, List.getElem?_eq_getElem hi]; rfl⟩
        case g1 => exact ⟨0, Nat.le_refl 0, setR_new_at (Heap.get?_push_of_some _ at0)⟩
        case g2 =>
          intro z3 c3 mv hc R
          obtain ⟨h3, gg, dd, tt, oo⟩ := z3
          obtain rfl : gg = s.gens := mv.gens
          obtain rfl : dd = s.drawn := mv.drawn
          obtain rfl : oo = s.os := mv.os
          show wpAny _ _ _ _ _ _
          refine wpAny_pure ?_
          show wpAny _ _ (ret Value.none) _ _ _
          refine wpAny_pure ⟨rfl, h3, tt, c3, rfl, R, eln ▸ hc, fun b o e => ?_⟩
          have lb : b < s.heap.objs.size := Heap.lt_size e
          refine mv.heap b o ?_ (Heap.get?_push_of_some _ (Heap.get?_push_of_some _ e))
          intro z
          rcases List.mem_cons.mp z with z | z
          · exact Nat.lt_irrefl _ (z ▸ lb)
          · have z := List.mem_singleton.mp z
            exact Nat.lt_irrefl _ (Nat.lt_of_lt_of_le lb (Nat.le_of_lt (by rw [z]; exact e0 ▸ Nat.lt_succ_self _)))
      · match r2, hr2 with
        | .error e, hr2 => exact hr2
        | .ok (.ret q), hr2 =>
          obtain ⟨rfl, h2, t2, c, rfl, R, hc, kp⟩ := hr2
          repeat any_goals first | assumption | wp_step
          exact fin _ _ _ R hc kp
        | .ok .next, hr2 => exact hr2.elim
        | .ok .brk, hr2 => exact hr2.elim
        | .ok .cont, hr2 => exact hr2.elim
  | .ok .next, hr => exact hr.elim
  | .ok .brk, hr => exact hr.elim
  | .ok .cont, hr => exact hr.elim
end
section
variable {X : Cx}
/-- sorted(set(xs)), distinct ints -/
def tSrtSet (K : PySem.W.Frag) (ta : TE) : TE := fun σ H Q => ta σ H fun x H1 => ∃ (l : Addr) (ns : List Int), x = V.ref l ∧ SqL K H1 l (ns.map V.int) ∧ ns.length < 64 ∧ ns.Nodup ∧
  ∀ (ys : List Int) (p : Addr), ys.Perm ns → ys.Pairwise (· ≤ ·) → H1 p = none → Q (.ref p) (upd H1 p (.lst (ys.map V.int)))
open PySem.Spec PyProof.Rows in
theorem pe_srtSet {a : Expr} {ta : TE} {p p2 q pos : Pos} (calm : X.calm = true) (g1 : Gl X "sorted") (m1 : X.mg "sorted" = none) (g2 : Gl X "set") (m2 : X.mg "set" = none) (ha : PE X a ta)
    (na : starEach [a] X.env = (false, eval a X.env) :: starEach [] X.env := by rfl)
    (nb : starEach [.Call (.Name "set" p2) [a] [] q] X.env = (false, eval (.Call (.Name "set" p2) [a] [] q) X.env) :: starEach [] X.env := by rfl) : PE X (.Call (.Name "sorted" p) [.Call (.Name "set" p2) [a] [] q] [] pos) (tSrtSet X.K ta) := by
  refine ⟨fun pins s σ H Q I h => ?_⟩
  refine Call_ (ld_blt I g1 m1 boot_sorted (callWith_builtin1 (args_cons ?_ nb) nb rfl))
  refine Call_ (ld_blt I g2 m2 boot_set (callWith_type1 (args_cons (thn (ha.run pins s σ H _ I h) fun v s1 ⟨x, H1, I1, r1, l, ns, hx, hq, few, nd, fin⟩ => args_nil ?_) na) na rfl))
  subst hx
  cases r1
  obtain ⟨its, rv, pl, hz⟩ := I1.list hq
  refine set_of_lst ns (I1.ok.hd calm) pl.isList (by simpa using rv.ints) (by unfold scanBound; omega) fun h2 t2 c R hc kp => args_nil ?_
  have I2 : Inv X pins σ H1 { s1 with heap := h2, toks := t2 } := I1.kept kp
  refine sorted_set R (I2.ok.hd calm) (by omega) fun s3 p out c2 ys k3 e1 e2 hp hat hi hs hm hl => ?_
  have nil : H1 p = none := I2.hok.fresh hp
  have llen : (ys.map V.int).length ≤ sizeLine := by rw [List.length_map, hl, sizeLine_eq]; omega
  have J : Inv X pins σ (upd H1 p (.lst (ys.map V.int))) { s1 with heap := s3.heap, gens := s3.gens, drawn := s3.drawn, toks := s3.toks } :=
    Inv.call (s := { s1 with heap := h2, toks := t2 }) I2 (ch := []) (Un.laid k3 hp nil) (I2.hok.laid k3 hp ⟨llen, out.toList, c2, vals_of_ints hi, hat⟩) (by rw [e1]; exact I2.bare) fun _ z => nomatch z
  have es : s3 = { s1 with heap := s3.heap, gens := s3.gens, drawn := s3.drawn, toks := s3.toks } := by
    cases s3; cases s1; cases e2; rfl
  rw [es]
  have ndy : ys.Nodup := hs.imp fun {a b} z => Int.ne_of_lt z
  exact ⟨.ref p, _, J, rfl, fin ys p ((List.perm_ext_iff_of_nodup ndy nd).mpr fun k => by rw [hm k]; simp) (hs.imp fun {a b} z => Int.le_of_lt z) nil⟩
variable {T : KT} {md : List Bool} {W : WX} {ga gs : GE} {te : TE} {i j : Nat}
def fSrtSet : GE := fun m => match m.s with
  | e :: s => match viewE m.g e with
    | some (.nd .lst _ ts) => match intsT ts with
      | some ns => if ns.length < 64 ∧ ns.Nodup then some (.ok ⟨m.g, .tr (.nd .lst .own ((sortI ns).map fun i => .a (.int i))) :: s⟩) else none
      | none => none
    | _ => none
  | _ => none
theorem me_srtSet {a : Expr} {p p2 q pos : Pos} (ha : ME X T md W a ga) (calm : X.calm = true) (g1 : Gl X "sorted") (m1 : X.mg "sorted" = none) (g2 : Gl X "set") (m2 : X.mg "set" = none)
    (na : starEach [a] X.env = (false, eval a X.env) :: starEach [] X.env := by rfl)
    (nb : starEach [.Call (.Name "set" p2) [a] [] q] X.env = (false, eval (.Call (.Name "set" p2) [a] [] q) X.env) :: starEach [] X.env := by rfl) : ME X T md W (.Call (.Name "sorted" p) [.Call (.Name "set" p2) [a] [] q] [] pos) (gSeq ga fSrtSet) := by
  obtain ⟨ta, pa, sa⟩ := ha
  refine ⟨_, pe_srtSet calm g1 m1 g2 m2 pa na nb, fun c σ H m us Q rr hc E hg hp => ?_⟩
  simp only [gSeq] at hg
  cases e1 : ga m with
  | none => simp [e1] at hg
  | some r1 =>
    rw [e1] at hg
    cases r1 with
    | ex C g =>
      simp only at hg
      cases hg
      exact sa c σ H m us _ _ hc E e1 hp
    | ok m1 =>
      simp only at hg
      refine sa c σ H m us _ _ hc E e1 fun x H1 E1 => ?_
      unfold fSrtSet at hg
      split at hg
      · rename_i ex s hs
        rw [hs] at E1
        split at hg
        · rename_i o ts hv
          split at hg
          · rename_i ns hn
            split at hg
            · rename_i hb
              cases hg
              obtain ⟨Z, ws, Φ, Ψ, EE⟩ := id E1
              obtain ⟨Θ1, ad, vs, Ξ, rfl, ho, hl, _⟩ := EE.view (n := 0) rfl rfl hv
              have := intsT_ok hl hn
              subst this
              refine ⟨ad, ns, rfl, objL ho, hb.1, hb.2, fun ys p h1 h2 nl => hp _ _ ?_⟩
              rw [sortI_uniq h1 h2]
              exact EnvOk.newAtoms (E1.drop) _ nl
            · cases hg
          · cases hg
        · cases hg
      · cases hg
/-! sorted(d), whole numbers as keys -/
def rSrtDI : List V → Hp → VK → Prop := fun xs H Q => ∃ (a : Addr) (kvs : List (Key × V)) (ks : List Int), xs = [.ref a] ∧ Rd H a (.dK kvs) ∧ kvs.map (·.1) = ks.map Sum.inl ∧ ks.length < 64 ∧
    ∀ (ys : List Int) (p : Addr), ys.Perm ks → ys.Pairwise (· ≤ ·) → H p = none → Q (.ref p) (upd H p (.lst (ys.map V.int)))
theorem cr_sortDI (calm : X.calm = true) : CallR X (.builtin "sorted") rSrtDI := call_sortedDI calm
def intsK : List Key → Option (List Int)
  | [] => some []
  | .inl n :: r => (intsK r).map (n :: ·)
  | .inr _ :: _ => none
theorem intsK_ok : ∀ {ks : List Key} {ns : List Int}, intsK ks = some ns → ks = ns.map Sum.inl
  | [], ns, h => by cases h; rfl
  | .inl n :: r, ns, h => by
    simp only [intsK, Option.map_eq_some_iff] at h
    obtain ⟨l, h1, rfl⟩ := h
    rw [List.map_cons, ← intsK_ok h1]
  | .inr _ :: _, ns, h => by cases h
def fSrtK : GE := fun m => match m.s with
  | e :: s => match viewE m.g e with
    | some (.nd (.dct ks) _ _) => match intsK ks with
      | some ns => if ns.length < 64 then some (.ok ⟨m.g, .tr (.nd .lst .own ((sortI ns).map fun i => .a (.int i))) :: s⟩) else none
      | none => none
    | _ => none
  | _ => none
theorem fSrtK_ok {K : KC} : RA K md W 1 (fun _ => rSrtDI) fSrtK := by
  intro c σ H m us vs Q rr hc hl E hf hp
  match vs, hl with
  | [x], _ =>
    simp only [fSrtK] at hf
    split at hf
    · rename_i ex s hs
      rw [hs] at E
      split at hf
      · rename_i ks o ts hv
        split at hf
        · rename_i ns hn
          split at hf
          · rename_i few
            cases hf
            obtain ⟨Z, ws, Φ, Ψ, EE⟩ := id E
            obtain ⟨Θ1, ad, vs, Ξ, rfl, ho, hl, _⟩ := EE.view (n := 0) rfl rfl hv
            obtain ⟨l1, rd⟩ := ObjAt.rd ho
            refine ⟨ad, _, ns, rfl, rd, ?_, few, fun ys p h1 h2 nl => hp _ _ ?_⟩
            · rw [List.map_fst_zip (Nat.le_of_eq l1), intsK_ok hn]
            · rw [sortI_uniq h1 h2]
              exact EnvOk.newAtoms (E.drop) _ nl
          · cases hf
        · cases hf
      · cases hf
    · cases hf
/-! [a for a, b in d.values()]: pairs whose first is a whole number -/
def firstsI : List PyData → Option (List Int)
  | [] => some []
  | .tuple [.int n, _] :: r => (firstsI r).map (n :: ·)
  | _ :: _ => none
theorem firstsI_at {K : PySem.W.Frag} {H : Hp} : ∀ {ds : List PyData} {vs : List V} {ns : List Int}, DpAll K H vs ds → firstsI ds = some ns → vs.length = ns.length ∧ ∀ (i : Nat) (v : V), vs[i]? = some v → ∃ a n y, v = .ref a ∧ SqT K H a [.int n, y] ∧ ns[i]? = some n
  | [], _, ns, .nil, h => by cases h; exact ⟨rfl, fun i v e => by simp at e⟩
  | d :: ds, _, ns, .cons (v := v0) (vs := vs0) h0 h1, h => by
    unfold firstsI at h
    split at h
    · rename_i h2; cases h2
    · rename_i n z r h2
      cases h2
      simp only [Option.map_eq_some_iff] at h
      obtain ⟨l, h3, rfl⟩ := h
      obtain ⟨e1, e2⟩ := firstsI_at h1 h3
      refine ⟨by rw [List.length_cons, List.length_cons, e1], fun i v e => ?_⟩
      cases i with
      | zero =>
        cases e
        cases h0 with
        | tup hq hd =>
          cases hd with
          | cons p1 hd =>
            cases hd with
            | cons p2 hd =>
              cases hd
              cases p1
              exact ⟨_, n, _, rfl, hq, rfl⟩
      | succ i => exact e2 i v (by simpa using e)
    · cases h
def gLcV (i j : Nat) (gs : GE) : GE := fun m => match gs m with
  | some (.ok ⟨g1, en :: s⟩) => match viewE g1 en with
    | some (.nd (.dct _) _ ts) => match toDL ts with
      | some ds => match firstsI ds with
        | some ns => if ns.length ≤ 100000 ∧ i < g1.length ∧ j < g1.length ∧ i ≠ j then some (.ok ⟨g1, .tr (.nd .lst .own (ns.map fun n => .a (.int n))) :: s⟩) else none
        | none => none
      | none => none
    | _ => none
  | _ => none
theorem PE.or2 {e : Expr} {t1 t2 : TE} (h1 : PE X e t1) (h2 : PE X e t2) : PE X e (fun σ H Q => t1 σ H Q ∨ t2 σ H Q) := by
  refine ⟨fun pins s σ H Q I h => ?_⟩
  rcases h with h | h
  · exact h1.run pins s σ H Q I h
  · exact h2.run pins s σ H Q I h
theorem wipe2 {σ : St} {a b : Option V} (hij : i ≠ j) : wipe (((wipe σ [i, j]).set i a).set j b) [i, j] = wipe σ [i, j] := by
  simp only [wipe]
  apply List.ext_getElem?
  intro k
  simp only [List.getElem?_set, List.length_set]
  grind
theorem lcV_ok {K : PySem.W.Frag} {H : Hp} {σ : St} {Q : VK} {d : Addr} {od : Obj} {kvs : List (Key × V)} {ns : List Int} {D : Addr} (hd : H d = some (.frz od (.dK kvs))) (hD : H D = none) (hi : i < σ.length) (hj : j < σ.length) (hij : i ≠ j)
    (hl : kvs.length = ns.length) (few : ns.length ≤ 100000) (hv : ∀ (k : Nat) (x : Key) (v : V), kvs[k]? = some (x, v) → ∃ a n y, v = .ref a ∧ SqT K H a [.int n, y] ∧ ns[k]? = some n) (hQ : Q (.ref D) (upd H D (.lst (ns.map V.int)))) :
    ∃ Wv : Nat → Nat → Hp → Prop, (∃ m, Wv 0 m (upd H D (.lst []))) ∧ ∀ k m H1, Wv k m H1 →
      ((Itd d od kvs).stop k H1 ∧ Q (.ref D) H1) ∨ ((Itd d od kvs).go k H1 ∧ ∃ Nx : Hp → Prop, (∀ H', Nx H' → ∃ m', m' < m ∧ Wv (k + 1) m' H') ∧ ∀ x H', (Itd d od kvs).yld k H1 x H' → gTup K 2 (gCons (gName i) (gCons (gName j) L2.gNil)) x (wipe σ [i, j]) H' fun σ2 H2 => wipe σ2 [i, j] = wipe σ [i, j] ∧ tYes σ2 H2 fun b H3 =>
        if b = true then tVar i σ2 H3 fun y H4 => ∃ acc, H4 D = some (.lst acc) ∧ acc.length < sizeLine ∧ Nx (upd H4 D (.lst (acc ++ [y]))) else Nx H3) := by
  have ndD : d ≠ D := fun e => by rw [e, hD] at hd; cases hd
  refine ⟨fun k m H1 => k + m = ns.length ∧ H1 = upd H D (.lst ((ns.take k).map V.int)), ⟨ns.length, by omega, rfl⟩, ?_⟩
  rintro k m H1 ⟨hk, rfl⟩
  have hdd : (upd H D (.lst ((ns.take k).map V.int))) d = some (.frz od (.dK kvs)) := by rw [upd_ne ndD]; exact hd
  cases m with
  | zero =>
    refine .inl ⟨⟨hdd, by omega⟩, ?_⟩
    rw [List.take_of_length_le (by omega)]
    exact hQ
  | succ m =>
    refine .inr ⟨⟨hdd, by omega⟩, fun H' => H' = upd H D (.lst ((ns.take (k + 1)).map V.int)), fun H' e => ⟨m, by omega, by omega, e⟩, fun x H' y => ?_⟩
    obtain ⟨rfl, key, hy⟩ := y
    obtain ⟨a, n, z, rfl, hq, hn⟩ := hv k key x hy
    have stay : SqT K (upd H D (.lst ((ns.take k).map V.int))) a [.int n, z] := by
      rcases hq with (q | ⟨o, q⟩) | q
      · exact .inl (.inl (by rw [upd_ne fun e => by rw [e, hD] at q; cases q]; exact q))
      · exact .inl (.inr ⟨o, by rw [upd_ne fun e => by rw [e, hD] at q; cases q]; exact q⟩)
      · exact .inr q
    refine ⟨a, _, rfl, stay, rfl, _, _, rfl, _, _, rfl, rfl, wipe2 hij, ?_⟩
    unfold tYes
    dsimp only
    rw [if_pos rfl]
    refine ⟨.int n, ?_, _, upd_same, ?_, ?_⟩
    · have : i < (wipe σ [i, j]).length := by rw [wipe_length]; exact hi
      rw [List.getElem?_set_ne (Ne.symm hij), List.getElem?_set_self this]
    · rw [List.length_map, List.length_take, sizeLine_eq]
      omega
    · show upd (upd H D _) D _ = _
      rw [upd_upd, List.take_succ, hn]
      simp
theorem me_lcV {rcv elt tg : Expr} {apos cpos pos : Pos} {scope : Scope} {x y : Str} (he : PE X rcv te) (sr : Src X T te gs) (ok : BlkOk X.N X.env.scope scope [(x, i), (y, j)])
    (hg : ∀ (s : Shared) (H : Hp) (C : Addr) (cl : List (Str × Addr)) (fp : List Addr), PG (X.blk s H scope (compEnvC scope cl C X.env) fp) tg (gTup X.K 2 (gCons (gName i) (gCons (gName j) L2.gNil))))
    (hel : ∀ (s : Shared) (H : Hp) (C : Addr) (cl : List (Str × Addr)) (fp : List Addr), PE (X.blk s H scope (compEnvC scope cl C X.env) fp) elt (tVar i))
    (hc : X.calm = true) (hN : X.N.Nodup) (hb : attributeBase rcv "values" X.env (eval rcv X.env) = eval rcv X.env := by rfl) (hln : (apos.endLine == cpos.line) = true := by rfl)
    (hf : ∀ x, foldedSetIterable (.Call (.Attribute rcv "values" apos) [] [] cpos) X.env x = pure x := by intro _; rfl) :
    ME X T md W (.ListComp elt [⟨tg, .Call (.Attribute rcv "values" apos) [] [] cpos, [], 0⟩] scope pos) (gLcV i j gs) := by
  have pl := pe_lc (pos := pos) hc hN (pi_values (tg := tg) (apos := apos) (cpos := cpos) he hb hln) ok hg (fun s H C cl fp => pts_nil) hel hf
  refine ⟨_, PE.or2 (pe_lock pl) pl, fun c σ H m us Q rr hm E h0 hp => ?_⟩
  simp only [gLcV] at h0
  split at h0
  · rename_i g1 en s h1
    split at h0
    · rename_i ks o ts hv
      split at h0
      · rename_i ds hds
        split at h0
        · rename_i ns hns
          split at h0
          · rename_i hbd
            cases h0
            obtain ⟨rfl, w, E1, hte⟩ := sr c σ H m us _ _ _ E h1
            obtain ⟨Z, ws, Φ, Ψ, EE⟩ := id E1
            obtain ⟨Θ1, d, vs, Ξ, rfl, ho, hl, _⟩ := EE.view (n := 0) rfl rfl hv
            obtain ⟨e1, e2⟩ := firstsI_at (toDL_ok _ hl hds) hns
            obtain ⟨l1, rd⟩ := ObjAt.rd ho
            have hlz : (ks.zip vs).length = ns.length := by rw [List.length_zip, l1, Nat.min_self]; exact e1
            have hvz : ∀ (k : Nat) (x : Key) (v : V), (ks.zip vs)[k]? = some (x, v) → ∃ a n y, v = .ref a ∧ SqT X.K H a [.int n, y] ∧ ns[k]? = some n := fun k x v q => by
              rw [List.getElem?_zip_eq_some] at q
              exact e2 k v q.2
            have li : i < σ.length := by rw [EE.ln]; exact hbd.2.1
            have lj : j < σ.length := by rw [EE.ln]; exact hbd.2.2.1
            rcases rd with rd | ⟨od, rd⟩
            · refine .inl ⟨d, _, rd, trivial, fun od => ?_⟩
              refine hte _ _ (fun b C dx fs q => by rw [upd_ne (fun e => by rw [e, rd] at q; cases q)]; exact q) ⟨d, od, _, rfl, upd_same, fun D hD => ?_⟩
              have nD : D ≠ d := fun e => by rw [e, upd_same] at hD; cases hD
              have hD0 : H D = none := by rw [upd_ne nD] at hD; exact hD
              refine lcV_ok (K := X.K) (Q := fun v H' => H' d = some (.frz od (.dK (ks.zip vs))) ∧ Q v (upd H' d (.dK (ks.zip vs)))) upd_same hD li lj hbd.2.2.2 hlz hbd.1 (fun k x v q => ?_) ⟨by rw [upd_ne (Ne.symm nD)]; exact upd_same, ?_⟩
              · obtain ⟨a, n, y, r1, r2, r3⟩ := hvz k x v q
                refine ⟨a, n, y, r1, ?_, r3⟩
                rcases r2 with (r2 | ⟨o2, r2⟩) | r2
                · exact .inl (.inl (by rw [upd_ne fun e => by rw [e, rd] at r2; cases r2]; exact r2))
                · exact .inl (.inr ⟨o2, by rw [upd_ne fun e => by rw [e, rd] at r2; cases r2]; exact r2⟩)
                · exact .inr r2
              · have e3 : upd (upd (upd H d (.frz od (.dK (ks.zip vs)))) D (.lst (ns.map V.int))) d (.dK (ks.zip vs)) = upd H D (.lst (ns.map V.int)) := by
                  funext b
                  by_cases hb : b = d
                  · rw [hb, upd_same, upd_ne (Ne.symm nD), rd]
                  · rw [upd_ne hb]
                    by_cases hb2 : b = D
                    · rw [hb2, upd_same, upd_same]
                    · rw [upd_ne hb2, upd_ne hb2, upd_ne hb]
                rw [e3]
                exact hp _ _ (EnvOk.newAtoms (E1.drop) _ hD0)
            · refine .inr (hte _ _ (fun b C dx fs q => q) ⟨d, od, _, rfl, rd, fun D hD => ?_⟩)
              exact lcV_ok (K := X.K) rd hD li lj hbd.2.2.2 hlz hbd.1 hvz (hp _ _ (EnvOk.newAtoms (E1.drop) _ hD))
          · cases h0
        · cases h0
      · cases h0
    · cases h0
  · cases h0
end
/-! x < y of data; xs.index(text) -/
section
variable {X : Cx}
variable {K : KC} {T : KT} {md : List Bool} {W : WX}
end
/-! {} whose keys will be tuples -/
section
variable {X : Cx} {T : KT} {md : List Bool} {W : WX}
end
/-! text[i] -/
section
variable {K : KC} {X : Cx} {T : KT} {md : List Bool} {W : WX} {ga gb : GE} {a b : Expr} {pos : Pos}
end
def top (i : Nat) : Stmt := PySem.Challenge.pw_lotsandties_k39_copies_that_are_struck.main.body.getD i (.Pass ⟨0, 0, 0, 0⟩)
abbrev s_live_lot : Stmt := top 15
theorem sc_live_lot : FnScope ["window", "x", "lapse", "live", "lot"] ["window", "x", "lapse"] (defScope s_live_lot) := ⟨rfl, rfl, rfl, by decide +kernel, rfl, by decide +kernel, by decide +kernel⟩
abbrev s_barred_blocks : Stmt := top 16
theorem sc_barred_blocks : FnScope ["book", "committed", "closing", "window", "blocks", "x", "held"] ["book", "committed", "closing", "window"] (defScope s_barred_blocks) := ⟨rfl, rfl, rfl, by decide +kernel, rfl, by decide +kernel, by decide +kernel⟩
abbrev s_law_feed : Stmt := top 32
theorem sc_law_feed : FnScope ["_law_script", "_law_feed_here", "_law_cell", "_law_rest", "_law_k"] ["_law_script"] (defScope s_law_feed) := ⟨rfl, rfl, rfl, by decide +kernel, rfl, by decide +kernel, by decide +kernel⟩
abbrev s_law_pick : Stmt := top 33
theorem sc_law_pick : FnScope ["_law_feed_here", "_law_limit"] ["_law_feed_here", "_law_limit"] (defScope s_law_pick) := ⟨rfl, rfl, rfl, by decide +kernel, rfl, by decide +kernel, by decide +kernel⟩
abbrev s_law_moment : Stmt := top 34
theorem sc_law_moment : FnScope ["_law_image", "_law_book"] ["_law_image", "_law_book"] (defScope s_law_moment) := ⟨rfl, rfl, rfl, by decide +kernel, rfl, by decide +kernel, by decide +kernel⟩
abbrev s_law_take : Stmt := top 35
abbrev N_law_take : List Str := ["_law_image", "_law_book", "_law_feed_here", "_law_serial", "_law_wish", "_law_kinds", "_law_holdings", "_law_stamps", "_law_owners", "_law_free", "_law_x", "_law_kind", "_law_owner", "_law_later", "_law_due", "_law_touched"]
theorem sc_law_take : FnScope ["_law_image", "_law_book", "_law_feed_here", "_law_serial", "_law_wish", "_law_kinds", "_law_holdings", "_law_stamps", "_law_owners", "_law_free", "_law_x", "_law_kind", "_law_owner", "_law_later", "_law_due", "_law_touched"] ["_law_image", "_law_book", "_law_feed_here", "_law_serial", "_law_wish"] (defScope s_law_take) := ⟨rfl, rfl, rfl, by decide +kernel, rfl, by decide +kernel, by decide +kernel⟩
abbrev s_law_give : Stmt := top 36
abbrev N_law_give : List Str := ["_law_image", "_law_book", "_law_feed_here", "_law_serial", "_law_kinds", "_law_holdings", "_law_stamps", "_law_owners", "_law_held", "_law_x", "_law_at", "_law_touched"]
theorem sc_law_give : FnScope ["_law_image", "_law_book", "_law_feed_here", "_law_serial", "_law_kinds", "_law_holdings", "_law_stamps", "_law_owners", "_law_held", "_law_x", "_law_at", "_law_touched"] ["_law_image", "_law_book", "_law_feed_here", "_law_serial"] (defScope s_law_give) := ⟨rfl, rfl, rfl, by decide +kernel, rfl, by decide +kernel, by decide +kernel⟩
abbrev s_law_change : Stmt := top 37
abbrev N_law_change : List Str := ["_law_image", "_law_book", "_law_feed_here", "_law_serial", "_law_kinds", "_law_holdings", "_law_stamps", "_law_owners", "_law_held", "_law_x", "_law_at", "_law_row", "_law_old"]
theorem sc_law_change : FnScope ["_law_image", "_law_book", "_law_feed_here", "_law_serial", "_law_kinds", "_law_holdings", "_law_stamps", "_law_owners", "_law_held", "_law_x", "_law_at", "_law_row", "_law_old"] ["_law_image", "_law_book", "_law_feed_here", "_law_serial"] (defScope s_law_change) := ⟨rfl, rfl, rfl, by decide +kernel, rfl, by decide +kernel, by decide +kernel⟩
abbrev s_law_history : Stmt := top 38
abbrev N_law_history : List Str := ["_law_feed_here", "_law_many", "_law_image", "_law_kinds", "_law_x", "_law_book", "_law_moments", "_law_k", "_law_before", "_law_wish", "_law_choice", "_law_good"]
theorem sc_law_history : FnScope ["_law_feed_here", "_law_many", "_law_image", "_law_kinds", "_law_x", "_law_book", "_law_moments", "_law_k", "_law_before", "_law_wish", "_law_choice", "_law_good"] ["_law_feed_here", "_law_many"] (defScope s_law_history) := ⟨rfl, rfl, rfl, by decide +kernel, rfl, by decide +kernel, by decide +kernel⟩
abbrev s_law_lot : Stmt := top 39
theorem sc_law_lot : FnScope ["_law_feed_here", "_law_number", "_law_first_slot", "_law_blocks", "_law_lot_here", "_law_copied", "_law_revoked", "_law_x", "_law_choice", "_law_slots", "_law_slot", "_law_handed", "_law_marked"] ["_law_feed_here", "_law_number", "_law_first_slot"] (defScope s_law_lot) := ⟨rfl, rfl, rfl, by decide +kernel, rfl, by decide +kernel, by decide +kernel⟩
abbrev s_law_lot_good : Stmt := top 40
theorem sc_law_lot_good : FnScope ["_law_told", "_law_lot_here", "_law_number", "_law_copied", "_law_revoked", "_law_slots", "_law_first_slot", "_law_marked", "_law_used", "_law_x", "_law_slot"] ["_law_told"] (defScope s_law_lot_good) := ⟨rfl, rfl, rfl, by decide +kernel, rfl, by decide +kernel, by decide +kernel⟩
abbrev s_law_live : Stmt := top 41
theorem sc_law_live : FnScope ["_law_lots", "_law_x", "_law_lapsing", "_law_k", "_law_told", "_law_struck"] ["_law_lots", "_law_x", "_law_lapsing"] (defScope s_law_live) := ⟨rfl, rfl, rfl, by decide +kernel, rfl, by decide +kernel, by decide +kernel⟩
abbrev s_law_integer : Stmt := top 42
theorem sc_law_integer : FnScope ["_law_actual", "_law_due"] ["_law_actual", "_law_due"] (defScope s_law_integer) := ⟨rfl, rfl, rfl, by decide +kernel, rfl, by decide +kernel, by decide +kernel⟩
abbrev s_law_live_good : Stmt := top 43
theorem sc_law_live_good : FnScope ["_law_window", "_law_lots", "_law_x"] ["_law_window", "_law_lots"] (defScope s_law_live_good) := ⟨rfl, rfl, rfl, by decide +kernel, rfl, by decide +kernel, by decide +kernel⟩
abbrev s_law_barred : Stmt := top 44
theorem sc_law_barred : FnScope ["_law_lots", "_law_number", "_law_base", "_law_closing", "_law_barred_here", "_law_x", "_law_held", "_law_live_here"] ["_law_lots", "_law_number", "_law_base", "_law_closing"] (defScope s_law_barred) := ⟨rfl, rfl, rfl, by decide +kernel, rfl, by decide +kernel, by decide +kernel⟩
abbrev s_law_has_reuse : Stmt := top 45
theorem sc_law_has_reuse : FnScope ["_law_number"] ["_law_number"] (defScope s_law_has_reuse) := ⟨rfl, rfl, rfl, by decide +kernel, rfl, by decide +kernel, by decide +kernel⟩
abbrev s_law_has_lapse : Stmt := top 46
theorem sc_law_has_lapse : FnScope ["_law_number"] ["_law_number"] (defScope s_law_has_lapse) := ⟨rfl, rfl, rfl, by decide +kernel, rfl, by decide +kernel, by decide +kernel⟩
abbrev s_law_has_shelve : Stmt := top 47
theorem sc_law_has_shelve : FnScope ["_law_number"] ["_law_number"] (defScope s_law_has_shelve) := ⟨rfl, rfl, rfl, by decide +kernel, rfl, by decide +kernel, by decide +kernel⟩
abbrev s_law_barred_good : Stmt := top 48
theorem sc_law_barred_good : FnScope ["_law_window", "_law_lots", "_law_number", "_law_base", "_law_closing", "_law_image", "_law_told", "_law_x"] ["_law_window", "_law_lots", "_law_number", "_law_base", "_law_closing"] (defScope s_law_barred_good) := ⟨rfl, rfl, rfl, by decide +kernel, rfl, by decide +kernel, by decide +kernel⟩
abbrev s_law : Stmt := top 49
abbrev N_law : List Str := ["_law_script", "_law_feed_here", "_law_number", "_law_first", "_law_lots", "_law_k", "_law_moments", "_law_base", "_law_closing", "_law_window", "_law_told", "_law_lot_here"]
theorem sc_law : FnScope ["_law_script", "_law_feed_here", "_law_number", "_law_first", "_law_lots", "_law_k", "_law_moments", "_law_base", "_law_closing", "_law_window", "_law_told", "_law_lot_here"] ["_law_script"] (defScope s_law) := ⟨rfl, rfl, rfl, by decide +kernel, rfl, by decide +kernel, by decide +kernel⟩
abbrev s_Plan_init : Stmt := inClass (top 13) 6
theorem sc_Plan_init : FnScope ["self", "blocks", "nodes", "slots", "maps"] ["self", "blocks", "nodes", "slots"] (defScope s_Plan_init) := ⟨rfl, rfl, rfl, by decide +kernel, rfl, by decide +kernel, by decide +kernel⟩
abbrev s_Plan_map_place : Stmt := inClass (top 13) 9
theorem sc_Plan_map_place : FnScope ["self", "x"] ["self", "x"] (defScope s_Plan_map_place) := ⟨rfl, rfl, rfl, by decide +kernel, rfl, by decide +kernel, by decide +kernel⟩
abbrev s_Plan_node_block : Stmt := inClass (top 13) 10
theorem sc_Plan_node_block : FnScope ["self", "n"] ["self", "n"] (defScope s_Plan_node_block) := ⟨rfl, rfl, rfl, by decide +kernel, rfl, by decide +kernel, by decide +kernel⟩
abbrev s_Plan_data_blocks : Stmt := inClass (top 13) 11
theorem sc_Plan_data_blocks : FnScope ["self"] ["self"] (defScope s_Plan_data_blocks) := ⟨rfl, rfl, rfl, by decide +kernel, rfl, by decide +kernel, by decide +kernel⟩
abbrev s_Image_init : Stmt := inClass (top 28) 0
abbrev N_Image_init : List Str := ["self", "plan", "x"]
theorem sc_Image_init : FnScope ["self", "plan", "x"] ["self", "plan"] (defScope s_Image_init) := ⟨rfl, rfl, rfl, by decide +kernel, rfl, by decide +kernel, by decide +kernel⟩
abbrev s_Image_twin : Stmt := inClass (top 28) 3
abbrev N_Image_twin : List Str := ["self", "image", "row", "n"]
theorem sc_Image_twin : FnScope ["self", "image", "row", "n"] ["self"] (defScope s_Image_twin) := ⟨rfl, rfl, rfl, by decide +kernel, rfl, by decide +kernel, by decide +kernel⟩
abbrev s_Image_begin : Stmt := inClass (top 28) 4
theorem sc_Image_begin : FnScope ["self", "wish", "barred"] ["self", "wish", "barred"] (defScope s_Image_begin) := ⟨rfl, rfl, rfl, by decide +kernel, rfl, by decide +kernel, by decide +kernel⟩
abbrev s_Image_settle : Stmt := inClass (top 28) 5
theorem sc_Image_settle : FnScope ["self", "before", "x"] ["self", "before"] (defScope s_Image_settle) := ⟨rfl, rfl, rfl, by decide +kernel, rfl, by decide +kernel, by decide +kernel⟩
abbrev s_Image_kind : Stmt := inClass (top 28) 6
theorem sc_Image_kind : FnScope ["self", "x", "block", "at", "told"] ["self", "x"] (defScope s_Image_kind) := ⟨rfl, rfl, rfl, by decide +kernel, rfl, by decide +kernel, by decide +kernel⟩
abbrev s_Image_free_blocks : Stmt := inClass (top 28) 8
abbrev N_Image_free_blocks : List Str := ["self", "x"]
theorem sc_Image_free_blocks : FnScope ["self", "x"] ["self"] (defScope s_Image_free_blocks) := ⟨rfl, rfl, rfl, by decide +kernel, rfl, by decide +kernel, by decide +kernel⟩
abbrev s_Image_put_kind : Stmt := inClass (top 28) 9
theorem sc_Image_put_kind : FnScope ["self", "x", "kind", "block", "at"] ["self", "x", "kind"] (defScope s_Image_put_kind) := ⟨rfl, rfl, rfl, by decide +kernel, rfl, by decide +kernel, by decide +kernel⟩
abbrev s_Image_take : Stmt := inClass (top 28) 10
abbrev N_Image_take : List Str := ["self", "kind", "owner", "sums", "let", "x", "later"]
theorem sc_Image_take : FnScope ["self", "kind", "owner", "sums", "let", "x", "later"] ["self", "kind", "owner"] (defScope s_Image_take) := ⟨rfl, rfl, rfl, by decide +kernel, rfl, by decide +kernel, by decide +kernel⟩
abbrev s_Image_give : Stmt := inClass (top 28) 11
theorem sc_Image_give : FnScope ["self", "x", "owner"] ["self", "x", "owner"] (defScope s_Image_give) := ⟨rfl, rfl, rfl, by decide +kernel, rfl, by decide +kernel, by decide +kernel⟩
abbrev s_Image_fresh : Stmt := inClass (top 28) 1
abbrev N_Image_fresh : List Str := ["plan", "rows", "x", "block", "at", "root"]
theorem sc_Image_fresh : FnScope ["plan", "rows", "x", "block", "at", "root"] ["plan"] (defScope s_Image_fresh) := ⟨rfl, rfl, rfl, by decide +kernel, rfl, by decide +kernel, by decide +kernel⟩
abbrev s_Image_of_cells : Stmt := inClass (top 28) 2
abbrev N_Image_of_cells : List Str := ["plan", "rows", "image", "row", "x"]
theorem sc_Image_of_cells : FnScope ["plan", "rows", "image", "row", "x"] ["plan", "rows"] (defScope s_Image_of_cells) := ⟨rfl, rfl, rfl, by decide +kernel, rfl, by decide +kernel, by decide +kernel⟩
abbrev s_Book_init : Stmt := inClass (top 18) 1
theorem sc_Book_init : FnScope ["self", "names", "name", "chosen", "number", "weight"] ["self", "names"] (defScope s_Book_init) := ⟨rfl, rfl, rfl, by decide +kernel, rfl, by decide +kernel, by decide +kernel⟩
abbrev s_Book_contains : Stmt := inClass (top 18) 2
theorem sc_Book_contains : FnScope ["self", "name"] ["self", "name"] (defScope s_Book_contains) := ⟨rfl, rfl, rfl, by decide +kernel, rfl, by decide +kernel, by decide +kernel⟩
abbrev s_Book_of_number : Stmt := inClass (top 20) 2
theorem sc_Book_of_number : FnScope ["number", "names", "rest", "name"] ["number"] (defScope s_Book_of_number) := ⟨rfl, rfl, rfl, by decide +kernel, rfl, by decide +kernel, by decide +kernel⟩
abbrev s_Lot_init : Stmt := inClass (top 30) 0
theorem sc_Lot_init : FnScope ["self", "number", "image"] ["self", "number", "image"] (defScope s_Lot_init) := ⟨rfl, rfl, rfl, by decide +kernel, rfl, by decide +kernel, by decide +kernel⟩
abbrev s_Lot_keep_copy : Stmt := inClass (top 30) 1
theorem sc_Lot_keep_copy : FnScope ["self", "x", "slot", "write", "identity"] ["self", "x", "slot", "write", "identity"] (defScope s_Lot_keep_copy) := ⟨rfl, rfl, rfl, by decide +kernel, rfl, by decide +kernel, by decide +kernel⟩
abbrev s_Lot_keep_mark : Stmt := inClass (top 30) 2
theorem sc_Lot_keep_mark : FnScope ["self", "slot", "write", "revokes"] ["self", "slot", "write", "revokes"] (defScope s_Lot_keep_mark) := ⟨rfl, rfl, rfl, by decide +kernel, rfl, by decide +kernel, by decide +kernel⟩
abbrev s_Lot_used_slots : Stmt := inClass (top 30) 4
abbrev N_Lot_used_slots : List Str := ["self", "slots", "slot", "write"]
theorem sc_Lot_used_slots : FnScope ["self", "slots", "slot", "write"] ["self"] (defScope s_Lot_used_slots) := ⟨rfl, rfl, rfl, by decide +kernel, rfl, by decide +kernel, by decide +kernel⟩
/-- what the top has left -/
structure Txt (K : PySem.W.Frag) (mg : Str → Option Value) where
  c_Plan : Addr
  C_Plan : Cls K c_Plan
  g_Plan : mg "Plan" = some (.ref c_Plan)
  kp_Plan : PySem.W.keepIn K (.ref c_Plan) = true
  mk_Plan : PySem.W.makesIn K c_Plan = true
  n_Plan_blocks : NoAttr K c_Plan "blocks"
  n_Plan_nodes : NoAttr K c_Plan "nodes"
  n_Plan_slots : NoAttr K c_Plan "slots"
  n_Plan_maps : NoAttr K c_Plan "maps"
  n_Plan_first_node : NoAttr K c_Plan "first_node"
  n_Plan_first_data : NoAttr K c_Plan "first_data"
  r_Plan : ClX.CRead K c_Plan (.type "type")
  t_Plan_FREE : Tok
  k_Plan_FREE : ClX.CVal K c_Plan (.type "type") "FREE" (.int 0) (.int 0 t_Plan_FREE)
  t_Plan_LOGGED : Tok
  k_Plan_LOGGED : ClX.CVal K c_Plan (.type "type") "LOGGED" (.int 1) (.int 1 t_Plan_LOGGED)
  t_Plan_PLAIN : Tok
  k_Plan_PLAIN : ClX.CVal K c_Plan (.type "type") "PLAIN" (.int 2) (.int 2 t_Plan_PLAIN)
  c_Image : Addr
  C_Image : Cls K c_Image
  g_Image : mg "Image" = some (.ref c_Image)
  kp_Image : PySem.W.keepIn K (.ref c_Image) = true
  mk_Image : PySem.W.makesIn K c_Image = true
  n_Image_plan : NoAttr K c_Image "plan"
  n_Image_cells : NoAttr K c_Image "cells"
  n_Image_holdings : NoAttr K c_Image "holdings"
  n_Image_stamps : NoAttr K c_Image "stamps"
  n_Image_handles : NoAttr K c_Image "handles"
  n_Image_serial : NoAttr K c_Image "serial"
  n_Image_wish : NoAttr K c_Image "wish"
  n_Image_barred : NoAttr K c_Image "barred"
  r_Image : ClX.CRead K c_Image (.type "type")
  c_Book : Addr
  C_Book : Cls K c_Book
  g_Book : mg "Book" = some (.ref c_Book)
  kp_Book : PySem.W.keepIn K (.ref c_Book) = true
  mk_Book : PySem.W.makesIn K c_Book = true
  n_Book_names : NoAttr K c_Book "names"
  n_Book_number : NoAttr K c_Book "number"
  r_Book : ClX.CRead K c_Book (.type "type")
  c_Book_RULES : Addr
  w_Book_RULES : SqT K (fun _ => none) c_Book_RULES [(.str "copies"), (.str "mark"), (.str "words"), (.str "reuse"), (.str "late"), (.str "revoke"), (.str "lapse"), (.str "shelve"), (.str "frozen"), (.str "wait"), (.str "room"), (.str "told")]
  k_Book_RULES : ClX.CVal K c_Book (.type "type") "RULES" (.ref c_Book_RULES) (.ref c_Book_RULES)
  ki_Book_RULES : Con K c_Book "RULES" (.ref c_Book_RULES) (.ref c_Book_RULES)
  c_Lot : Addr
  C_Lot : Cls K c_Lot
  g_Lot : mg "Lot" = some (.ref c_Lot)
  kp_Lot : PySem.W.keepIn K (.ref c_Lot) = true
  mk_Lot : PySem.W.makesIn K c_Lot = true
  n_Lot_number : NoAttr K c_Lot "number"
  n_Lot_image : NoAttr K c_Lot "image"
  n_Lot_copies : NoAttr K c_Lot "copies"
  n_Lot_identities : NoAttr K c_Lot "identities"
  n_Lot_mark : NoAttr K c_Lot "mark"
  n_Lot_mark_slot : NoAttr K c_Lot "mark_slot"
  n_Lot_revokes : NoAttr K c_Lot "revokes"
  a_live_lot : Addr
  fd_live_lot : FuncData
  F_live_lot : Fun K "live_lot" "live_lot" s_live_lot a_live_lot fd_live_lot
  b_live_lot : KBn K fd_live_lot ["window", "x", "lapse"] 2 ["lapse"] (fun us ws => us ++ ws) (fun vs zs => vs ++ zs)
  m_live_lot : mg "live_lot" = some (.ref a_live_lot)
  a_barred_blocks : Addr
  fd_barred_blocks : FuncData
  F_barred_blocks : Fun K "barred_blocks" "barred_blocks" s_barred_blocks a_barred_blocks fd_barred_blocks
  b_barred_blocks : Binds K fd_barred_blocks ["book", "committed", "closing", "window"] []
  m_barred_blocks : mg "barred_blocks" = some (.ref a_barred_blocks)
  a_law_feed : Addr
  fd_law_feed : FuncData
  F_law_feed : Fun K "_law_feed" "_law_feed" s_law_feed a_law_feed fd_law_feed
  b_law_feed : Binds K fd_law_feed ["_law_script"] []
  m_law_feed : mg "_law_feed" = some (.ref a_law_feed)
  a_law_pick : Addr
  fd_law_pick : FuncData
  F_law_pick : Fun K "_law_pick" "_law_pick" s_law_pick a_law_pick fd_law_pick
  b_law_pick : Binds K fd_law_pick ["_law_feed_here", "_law_limit"] []
  m_law_pick : mg "_law_pick" = some (.ref a_law_pick)
  a_law_moment : Addr
  fd_law_moment : FuncData
  F_law_moment : Fun K "_law_moment" "_law_moment" s_law_moment a_law_moment fd_law_moment
  b_law_moment : Binds K fd_law_moment ["_law_image", "_law_book"] []
  m_law_moment : mg "_law_moment" = some (.ref a_law_moment)
  a_law_take : Addr
  fd_law_take : FuncData
  F_law_take : Fun K "_law_take" "_law_take" s_law_take a_law_take fd_law_take
  b_law_take : Binds K fd_law_take ["_law_image", "_law_book", "_law_feed_here", "_law_serial", "_law_wish"] []
  m_law_take : mg "_law_take" = some (.ref a_law_take)
  a_law_give : Addr
  fd_law_give : FuncData
  F_law_give : Fun K "_law_give" "_law_give" s_law_give a_law_give fd_law_give
  b_law_give : Binds K fd_law_give ["_law_image", "_law_book", "_law_feed_here", "_law_serial"] []
  m_law_give : mg "_law_give" = some (.ref a_law_give)
  a_law_change : Addr
  fd_law_change : FuncData
  F_law_change : Fun K "_law_change" "_law_change" s_law_change a_law_change fd_law_change
  b_law_change : Binds K fd_law_change ["_law_image", "_law_book", "_law_feed_here", "_law_serial"] []
  m_law_change : mg "_law_change" = some (.ref a_law_change)
  a_law_history : Addr
  fd_law_history : FuncData
  F_law_history : Fun K "_law_history" "_law_history" s_law_history a_law_history fd_law_history
  b_law_history : Binds K fd_law_history ["_law_feed_here", "_law_many"] []
  m_law_history : mg "_law_history" = some (.ref a_law_history)
  a_law_lot : Addr
  fd_law_lot : FuncData
  F_law_lot : Fun K "_law_lot" "_law_lot" s_law_lot a_law_lot fd_law_lot
  b_law_lot : Binds K fd_law_lot ["_law_feed_here", "_law_number", "_law_first_slot"] []
  m_law_lot : mg "_law_lot" = some (.ref a_law_lot)
  a_law_lot_good : Addr
  fd_law_lot_good : FuncData
  F_law_lot_good : Fun K "_law_lot_good" "_law_lot_good" s_law_lot_good a_law_lot_good fd_law_lot_good
  b_law_lot_good : Binds K fd_law_lot_good ["_law_told"] []
  m_law_lot_good : mg "_law_lot_good" = some (.ref a_law_lot_good)
  a_law_live : Addr
  fd_law_live : FuncData
  F_law_live : Fun K "_law_live" "_law_live" s_law_live a_law_live fd_law_live
  b_law_live : Binds K fd_law_live ["_law_lots", "_law_x", "_law_lapsing"] []
  m_law_live : mg "_law_live" = some (.ref a_law_live)
  a_law_integer : Addr
  fd_law_integer : FuncData
  F_law_integer : Fun K "_law_integer" "_law_integer" s_law_integer a_law_integer fd_law_integer
  b_law_integer : Binds K fd_law_integer ["_law_actual", "_law_due"] []
  m_law_integer : mg "_law_integer" = some (.ref a_law_integer)
  a_law_live_good : Addr
  fd_law_live_good : FuncData
  F_law_live_good : Fun K "_law_live_good" "_law_live_good" s_law_live_good a_law_live_good fd_law_live_good
  b_law_live_good : Binds K fd_law_live_good ["_law_window", "_law_lots"] []
  m_law_live_good : mg "_law_live_good" = some (.ref a_law_live_good)
  a_law_barred : Addr
  fd_law_barred : FuncData
  F_law_barred : Fun K "_law_barred" "_law_barred" s_law_barred a_law_barred fd_law_barred
  b_law_barred : Binds K fd_law_barred ["_law_lots", "_law_number", "_law_base", "_law_closing"] []
  m_law_barred : mg "_law_barred" = some (.ref a_law_barred)
  a_law_has_reuse : Addr
  fd_law_has_reuse : FuncData
  F_law_has_reuse : Fun K "_law_has_reuse" "_law_has_reuse" s_law_has_reuse a_law_has_reuse fd_law_has_reuse
  b_law_has_reuse : Binds K fd_law_has_reuse ["_law_number"] []
  m_law_has_reuse : mg "_law_has_reuse" = some (.ref a_law_has_reuse)
  a_law_has_lapse : Addr
  fd_law_has_lapse : FuncData
  F_law_has_lapse : Fun K "_law_has_lapse" "_law_has_lapse" s_law_has_lapse a_law_has_lapse fd_law_has_lapse
  b_law_has_lapse : Binds K fd_law_has_lapse ["_law_number"] []
  m_law_has_lapse : mg "_law_has_lapse" = some (.ref a_law_has_lapse)
  a_law_has_shelve : Addr
  fd_law_has_shelve : FuncData
  F_law_has_shelve : Fun K "_law_has_shelve" "_law_has_shelve" s_law_has_shelve a_law_has_shelve fd_law_has_shelve
  b_law_has_shelve : Binds K fd_law_has_shelve ["_law_number"] []
  m_law_has_shelve : mg "_law_has_shelve" = some (.ref a_law_has_shelve)
  a_law_barred_good : Addr
  fd_law_barred_good : FuncData
  F_law_barred_good : Fun K "_law_barred_good" "_law_barred_good" s_law_barred_good a_law_barred_good fd_law_barred_good
  b_law_barred_good : Binds K fd_law_barred_good ["_law_window", "_law_lots", "_law_number", "_law_base", "_law_closing"] []
  m_law_barred_good : mg "_law_barred_good" = some (.ref a_law_barred_good)
  a_law : Addr
  fd_law : FuncData
  F_law : Fun K "law" "law" s_law a_law fd_law
  b_law : Binds K fd_law ["_law_script"] []
  m_law : mg "law" = some (.ref a_law)
  a_Plan_init : Addr
  fd_Plan_init : FuncData
  F_Plan_init : Fun K "__init__" "Plan.__init__" s_Plan_init a_Plan_init fd_Plan_init
  b_Plan_init : KBn K fd_Plan_init ["self", "blocks", "nodes", "slots"] 2 ["nodes", "slots"] (fun us ws => us ++ ws) (fun vs zs => vs ++ zs)
  m_Plan_init : Mk K c_Plan a_Plan_init
  a_Plan_map_place : Addr
  fd_Plan_map_place : FuncData
  F_Plan_map_place : Fun K "map_place" "Plan.map_place" s_Plan_map_place a_Plan_map_place fd_Plan_map_place
  b_Plan_map_place : Binds K fd_Plan_map_place ["self", "x"] []
  m_Plan_map_place : Meth K c_Plan "map_place" a_Plan_map_place
  a_Plan_node_block : Addr
  fd_Plan_node_block : FuncData
  F_Plan_node_block : Fun K "node_block" "Plan.node_block" s_Plan_node_block a_Plan_node_block fd_Plan_node_block
  b_Plan_node_block : Binds K fd_Plan_node_block ["self", "n"] []
  m_Plan_node_block : Meth K c_Plan "node_block" a_Plan_node_block
  a_Plan_data_blocks : Addr
  fd_Plan_data_blocks : FuncData
  F_Plan_data_blocks : Fun K "data_blocks" "Plan.data_blocks" s_Plan_data_blocks a_Plan_data_blocks fd_Plan_data_blocks
  b_Plan_data_blocks : Binds K fd_Plan_data_blocks ["self"] []
  m_Plan_data_blocks : Meth K c_Plan "data_blocks" a_Plan_data_blocks
  a_Image_init : Addr
  fd_Image_init : FuncData
  F_Image_init : Fun K "__init__" "Image.__init__" s_Image_init a_Image_init fd_Image_init
  b_Image_init : Binds K fd_Image_init ["self", "plan"] []
  m_Image_init : Mk K c_Image a_Image_init
  a_Image_twin : Addr
  fd_Image_twin : FuncData
  F_Image_twin : Fun K "twin" "Image.twin" s_Image_twin a_Image_twin fd_Image_twin
  b_Image_twin : Binds K fd_Image_twin ["self"] []
  m_Image_twin : Meth K c_Image "twin" a_Image_twin
  a_Image_begin : Addr
  fd_Image_begin : FuncData
  F_Image_begin : Fun K "begin" "Image.begin" s_Image_begin a_Image_begin fd_Image_begin
  b_Image_begin : Binds K fd_Image_begin ["self", "wish", "barred"] []
  m_Image_begin : Meth K c_Image "begin" a_Image_begin
  a_Image_settle : Addr
  fd_Image_settle : FuncData
  F_Image_settle : Fun K "settle" "Image.settle" s_Image_settle a_Image_settle fd_Image_settle
  b_Image_settle : Binds K fd_Image_settle ["self", "before"] []
  m_Image_settle : Meth K c_Image "settle" a_Image_settle
  a_Image_kind : Addr
  fd_Image_kind : FuncData
  F_Image_kind : Fun K "kind" "Image.kind" s_Image_kind a_Image_kind fd_Image_kind
  b_Image_kind : Binds K fd_Image_kind ["self", "x"] []
  m_Image_kind : Meth K c_Image "kind" a_Image_kind
  a_Image_free_blocks : Addr
  fd_Image_free_blocks : FuncData
  F_Image_free_blocks : Fun K "free_blocks" "Image.free_blocks" s_Image_free_blocks a_Image_free_blocks fd_Image_free_blocks
  b_Image_free_blocks : Binds K fd_Image_free_blocks ["self"] []
  m_Image_free_blocks : Meth K c_Image "free_blocks" a_Image_free_blocks
  a_Image_put_kind : Addr
  fd_Image_put_kind : FuncData
  F_Image_put_kind : Fun K "put_kind" "Image.put_kind" s_Image_put_kind a_Image_put_kind fd_Image_put_kind
  b_Image_put_kind : Binds K fd_Image_put_kind ["self", "x", "kind"] []
  m_Image_put_kind : Meth K c_Image "put_kind" a_Image_put_kind
  a_Image_take : Addr
  fd_Image_take : FuncData
  F_Image_take : Fun K "take" "Image.take" s_Image_take a_Image_take fd_Image_take
  b_Image_take : Binds K fd_Image_take ["self", "kind", "owner"] []
  m_Image_take : Meth K c_Image "take" a_Image_take
  a_Image_give : Addr
  fd_Image_give : FuncData
  F_Image_give : Fun K "give" "Image.give" s_Image_give a_Image_give fd_Image_give
  b_Image_give : Binds K fd_Image_give ["self", "x", "owner"] []
  m_Image_give : Meth K c_Image "give" a_Image_give
  a_Image_fresh : Addr
  fd_Image_fresh : FuncData
  F_Image_fresh : Fun K "fresh" "Image.fresh" s_Image_fresh a_Image_fresh fd_Image_fresh
  b_Image_fresh : Binds K fd_Image_fresh ["plan"] []
  m_Image_fresh : SMet K c_Image "fresh" a_Image_fresh
  a_Image_of_cells : Addr
  fd_Image_of_cells : FuncData
  F_Image_of_cells : Fun K "of_cells" "Image.of_cells" s_Image_of_cells a_Image_of_cells fd_Image_of_cells
  b_Image_of_cells : Binds K fd_Image_of_cells ["plan", "rows"] []
  m_Image_of_cells : SMet K c_Image "of_cells" a_Image_of_cells
  a_Book_init : Addr
  fd_Book_init : FuncData
  F_Book_init : Fun K "__init__" "RuleSet.__init__" s_Book_init a_Book_init fd_Book_init
  b_Book_init : Binds K fd_Book_init ["self", "names"] []
  m_Book_init : Mk K c_Book a_Book_init
  a_Book_contains : Addr
  fd_Book_contains : FuncData
  F_Book_contains : Fun K "__contains__" "RuleSet.__contains__" s_Book_contains a_Book_contains fd_Book_contains
  b_Book_contains : Binds K fd_Book_contains ["self", "name"] []
  m_Book_contains : Meth K c_Book "__contains__" a_Book_contains
  a_Book_of_number : Addr
  fd_Book_of_number : FuncData
  F_Book_of_number : Fun K "of_number" "Book.of_number" s_Book_of_number a_Book_of_number fd_Book_of_number
  b_Book_of_number : Binds K fd_Book_of_number ["number"] []
  m_Book_of_number : SMet K c_Book "of_number" a_Book_of_number
  a_Lot_init : Addr
  fd_Lot_init : FuncData
  F_Lot_init : Fun K "__init__" "Lot.__init__" s_Lot_init a_Lot_init fd_Lot_init
  b_Lot_init : Binds K fd_Lot_init ["self", "number", "image"] []
  m_Lot_init : Mk K c_Lot a_Lot_init
  a_Lot_keep_copy : Addr
  fd_Lot_keep_copy : FuncData
  F_Lot_keep_copy : Fun K "keep_copy" "Lot.keep_copy" s_Lot_keep_copy a_Lot_keep_copy fd_Lot_keep_copy
  b_Lot_keep_copy : Binds K fd_Lot_keep_copy ["self", "x", "slot", "write", "identity"] []
  m_Lot_keep_copy : Meth K c_Lot "keep_copy" a_Lot_keep_copy
  a_Lot_keep_mark : Addr
  fd_Lot_keep_mark : FuncData
  F_Lot_keep_mark : Fun K "keep_mark" "Lot.keep_mark" s_Lot_keep_mark a_Lot_keep_mark fd_Lot_keep_mark
  b_Lot_keep_mark : Binds K fd_Lot_keep_mark ["self", "slot", "write", "revokes"] []
  m_Lot_keep_mark : Meth K c_Lot "keep_mark" a_Lot_keep_mark
  a_Lot_used_slots : Addr
  fd_Lot_used_slots : FuncData
  F_Lot_used_slots : Fun K "used_slots" "Lot.used_slots" s_Lot_used_slots a_Lot_used_slots fd_Lot_used_slots
  b_Lot_used_slots : Binds K fd_Lot_used_slots ["self"] []
  m_Lot_used_slots : Meth K c_Lot "used_slots" a_Lot_used_slots
  n_abs : mg "abs" = none
  n_bool : mg "bool" = none
  n_int : mg "int" = none
  n_isinstance : mg "isinstance" = none
  n_len : mg "len" = none
  n_list : mg "list" = none
  n_range : mg "range" = none
  n_reversed : mg "reversed" = none
  n_set : mg "set" = none
  n_sorted : mg "sorted" = none
  n_staticmethod : mg "staticmethod" = none
  n_tuple : mg "tuple" = none
  t_FOLDER : Tok
  g_FOLDER : mg "FOLDER" = some (.int 2 t_FOLDER)
  t_KIND : Tok
  g_KIND : mg "KIND" = some (.int 0 t_KIND)
  t_LINKS : Tok
  g_LINKS : mg "LINKS" = some (.int 1 t_LINKS)
  t_MAKING : Tok
  g_MAKING : mg "MAKING" = some (.int 7 t_MAKING)
  t_SUMS_BLOCK : Tok
  g_SUMS_BLOCK : mg "SUMS_BLOCK" = some (.int 0 t_SUMS_BLOCK)
  t_ROOT : Tok
  g_ROOT : mg "ROOT" = some (.int 1 t_ROOT)
  e_BadValue : Addr
  g_BadValue : mg "BadValue" = some (.ref e_BadValue)
  x_BadValue : PySem.W.excIn K e_BadValue [.type "ValueError", .type "Exception", .type "BaseException", .type "object"] "ValueError.__new__" = true
  k_BadValue : PySem.W.keepIn K (.ref e_BadValue) = true
  sb_BadValue : PySem.W.subIn K (.ref e_BadValue) (.type "BaseException") = some true
  ty_BadValue : PySem.W.typeIn K (.ref e_BadValue) = some (.type "type")
  is_BadValue : ExcC K e_BadValue
  e_OverQuota : Addr
  g_OverQuota : mg "OverQuota" = some (.ref e_OverQuota)
  x_OverQuota : PySem.W.excIn K e_OverQuota [.type "ValueError", .type "Exception", .type "BaseException", .type "object"] "ValueError.__new__" = true
  k_OverQuota : PySem.W.keepIn K (.ref e_OverQuota) = true
  sb_OverQuota : PySem.W.subIn K (.ref e_OverQuota) (.type "BaseException") = some true
  ty_OverQuota : PySem.W.typeIn K (.ref e_OverQuota) = some (.type "type")
  is_OverQuota : ExcC K e_OverQuota
  e_BlocksFull : Addr
  g_BlocksFull : mg "BlocksFull" = some (.ref e_BlocksFull)
  x_BlocksFull : PySem.W.excIn K e_BlocksFull [.type "ValueError", .type "Exception", .type "BaseException", .type "object"] "ValueError.__new__" = true
  k_BlocksFull : PySem.W.keepIn K (.ref e_BlocksFull) = true
  sb_BlocksFull : PySem.W.subIn K (.ref e_BlocksFull) (.type "BaseException") = some true
  ty_BlocksFull : PySem.W.typeIn K (.ref e_BlocksFull) = some (.type "type")
  is_BlocksFull : ExcC K e_BlocksFull
-- excs BadValue OverQuota BlocksFull
-- classes Plan Image Book Lot
def cnm : Nat → List Str
  | 0 => ["blocks", "nodes", "slots", "maps", "first_node", "first_data"]
  | 1 => ["plan", "cells", "holdings", "stamps", "handles", "serial", "wish", "barred"]
  | 2 => ["names", "number"]
  | 3 => ["number", "image", "copies", "identities", "mark", "mark_slot", "revokes"]
  | _ => []
noncomputable section
variable {P : Program} {w : World} {K : PySem.W.Frag} {mg : Str → Option Value} {base : Heap}
def kct (T : Txt K mg) : Nat → Addr
  | 0 => T.c_Plan
  | 1 => T.c_Image
  | 2 => T.c_Book
  | 3 => T.c_Lot
  | _ => 0
def ket (T : Txt K mg) : Nat → Addr
  | 0 => T.e_BadValue
  | 1 => T.e_OverQuota
  | 2 => T.e_BlocksFull
  | _ => 0
abbrev kt (P : Program) (w : World) (T : Txt K mg) : KT := ⟨P, w, kct T, cnm, ket T⟩
abbrev tab_blocks : List (Nat × Nat) := [(0, 0)]
theorem fo_blocks (T : Txt K mg) : FldOk K (kt P w T) "blocks" tab_blocks := (.cons T.C_Plan T.n_Plan_blocks (show (cnm 0).idxOf? ("blocks" : Str) = some 0 by decide +kernel) .nil)
abbrev tab_nodes : List (Nat × Nat) := [(0, 1)]
theorem fo_nodes (T : Txt K mg) : FldOk K (kt P w T) "nodes" tab_nodes := (.cons T.C_Plan T.n_Plan_nodes (show (cnm 0).idxOf? ("nodes" : Str) = some 1 by decide +kernel) .nil)
abbrev tab_slots : List (Nat × Nat) := [(0, 2)]
theorem fo_slots (T : Txt K mg) : FldOk K (kt P w T) "slots" tab_slots := (.cons T.C_Plan T.n_Plan_slots (show (cnm 0).idxOf? ("slots" : Str) = some 2 by decide +kernel) .nil)
abbrev tab_maps : List (Nat × Nat) := [(0, 3)]
theorem fo_maps (T : Txt K mg) : FldOk K (kt P w T) "maps" tab_maps := (.cons T.C_Plan T.n_Plan_maps (show (cnm 0).idxOf? ("maps" : Str) = some 3 by decide +kernel) .nil)
abbrev tab_first_node : List (Nat × Nat) := [(0, 4)]
theorem fo_first_node (T : Txt K mg) : FldOk K (kt P w T) "first_node" tab_first_node := (.cons T.C_Plan T.n_Plan_first_node (show (cnm 0).idxOf? ("first_node" : Str) = some 4 by decide +kernel) .nil)
abbrev tab_first_data : List (Nat × Nat) := [(0, 5)]
theorem fo_first_data (T : Txt K mg) : FldOk K (kt P w T) "first_data" tab_first_data := (.cons T.C_Plan T.n_Plan_first_data (show (cnm 0).idxOf? ("first_data" : Str) = some 5 by decide +kernel) .nil)
abbrev tab_plan : List (Nat × Nat) := [(1, 0)]
theorem fo_plan (T : Txt K mg) : FldOk K (kt P w T) "plan" tab_plan := (.cons T.C_Image T.n_Image_plan (show (cnm 1).idxOf? ("plan" : Str) = some 0 by decide +kernel) .nil)
abbrev tab_cells : List (Nat × Nat) := [(1, 1)]
theorem fo_cells (T : Txt K mg) : FldOk K (kt P w T) "cells" tab_cells := (.cons T.C_Image T.n_Image_cells (show (cnm 1).idxOf? ("cells" : Str) = some 1 by decide +kernel) .nil)
abbrev tab_holdings : List (Nat × Nat) := [(1, 2)]
theorem fo_holdings (T : Txt K mg) : FldOk K (kt P w T) "holdings" tab_holdings := (.cons T.C_Image T.n_Image_holdings (show (cnm 1).idxOf? ("holdings" : Str) = some 2 by decide +kernel) .nil)
abbrev tab_stamps : List (Nat × Nat) := [(1, 3)]
theorem fo_stamps (T : Txt K mg) : FldOk K (kt P w T) "stamps" tab_stamps := (.cons T.C_Image T.n_Image_stamps (show (cnm 1).idxOf? ("stamps" : Str) = some 3 by decide +kernel) .nil)
abbrev tab_handles : List (Nat × Nat) := [(1, 4)]
theorem fo_handles (T : Txt K mg) : FldOk K (kt P w T) "handles" tab_handles := (.cons T.C_Image T.n_Image_handles (show (cnm 1).idxOf? ("handles" : Str) = some 4 by decide +kernel) .nil)
abbrev tab_serial : List (Nat × Nat) := [(1, 5)]
theorem fo_serial (T : Txt K mg) : FldOk K (kt P w T) "serial" tab_serial := (.cons T.C_Image T.n_Image_serial (show (cnm 1).idxOf? ("serial" : Str) = some 5 by decide +kernel) .nil)
abbrev tab_wish : List (Nat × Nat) := [(1, 6)]
theorem fo_wish (T : Txt K mg) : FldOk K (kt P w T) "wish" tab_wish := (.cons T.C_Image T.n_Image_wish (show (cnm 1).idxOf? ("wish" : Str) = some 6 by decide +kernel) .nil)
abbrev tab_barred : List (Nat × Nat) := [(1, 7)]
theorem fo_barred (T : Txt K mg) : FldOk K (kt P w T) "barred" tab_barred := (.cons T.C_Image T.n_Image_barred (show (cnm 1).idxOf? ("barred" : Str) = some 7 by decide +kernel) .nil)
abbrev tab_names : List (Nat × Nat) := [(2, 0)]
theorem fo_names (T : Txt K mg) : FldOk K (kt P w T) "names" tab_names := (.cons T.C_Book T.n_Book_names (show (cnm 2).idxOf? ("names" : Str) = some 0 by decide +kernel) .nil)
abbrev tab_number : List (Nat × Nat) := [(2, 1), (3, 0)]
theorem fo_number (T : Txt K mg) : FldOk K (kt P w T) "number" tab_number := (.cons T.C_Book T.n_Book_number (show (cnm 2).idxOf? ("number" : Str) = some 1 by decide +kernel) (.cons T.C_Lot T.n_Lot_number (show (cnm 3).idxOf? ("number" : Str) = some 0 by decide +kernel) .nil))
abbrev tab_image : List (Nat × Nat) := [(3, 1)]
theorem fo_image (T : Txt K mg) : FldOk K (kt P w T) "image" tab_image := (.cons T.C_Lot T.n_Lot_image (show (cnm 3).idxOf? ("image" : Str) = some 1 by decide +kernel) .nil)
abbrev tab_copies : List (Nat × Nat) := [(3, 2)]
theorem fo_copies (T : Txt K mg) : FldOk K (kt P w T) "copies" tab_copies := (.cons T.C_Lot T.n_Lot_copies (show (cnm 3).idxOf? ("copies" : Str) = some 2 by decide +kernel) .nil)
abbrev tab_identities : List (Nat × Nat) := [(3, 3)]
theorem fo_identities (T : Txt K mg) : FldOk K (kt P w T) "identities" tab_identities := (.cons T.C_Lot T.n_Lot_identities (show (cnm 3).idxOf? ("identities" : Str) = some 3 by decide +kernel) .nil)
abbrev tab_mark : List (Nat × Nat) := [(3, 4)]
theorem fo_mark (T : Txt K mg) : FldOk K (kt P w T) "mark" tab_mark := (.cons T.C_Lot T.n_Lot_mark (show (cnm 3).idxOf? ("mark" : Str) = some 4 by decide +kernel) .nil)
abbrev tab_mark_slot : List (Nat × Nat) := [(3, 5)]
theorem fo_mark_slot (T : Txt K mg) : FldOk K (kt P w T) "mark_slot" tab_mark_slot := (.cons T.C_Lot T.n_Lot_mark_slot (show (cnm 3).idxOf? ("mark_slot" : Str) = some 5 by decide +kernel) .nil)
abbrev tab_revokes : List (Nat × Nat) := [(3, 6)]
theorem fo_revokes (T : Txt K mg) : FldOk K (kt P w T) "revokes" tab_revokes := (.cons T.C_Lot T.n_Lot_revokes (show (cnm 3).idxOf? ("revokes" : Str) = some 6 by decide +kernel) .nil)
abbrev tabc_RULES : List (Nat × Tr) := [(2, (.nd .tup .frz [(.a (.str "copies")), (.a (.str "mark")), (.a (.str "words")), (.a (.str "reuse")), (.a (.str "late")), (.a (.str "revoke")), (.a (.str "lapse")), (.a (.str "shelve")), (.a (.str "frozen")), (.a (.str "wait")), (.a (.str "room")), (.a (.str "told"))]))]
theorem ct_RULES (T : Txt K mg) : ConTab K (kt P w T) "RULES" tabc_RULES := (.cons T.C_Book T.ki_Book_RULES (con_tup T.w_Book_RULES (con_cons con_a (con_cons con_a (con_cons con_a (con_cons con_a (con_cons con_a (con_cons con_a (con_cons con_a (con_cons con_a (con_cons con_a (con_cons con_a (con_cons con_a (con_cons con_a con_nil))))))))))))) (show (cnm 2).idxOf? ("RULES" : Str) = none by decide +kernel) .nil)
abbrev md_live_lot : List Bool := [false, false, false]
def b_live_lot_1 : GS := (sSeq (sIf (gSeq (gSeq (gVar 1) (gSeq (gVar 4) (fFld tab_revokes))) fInA) (sSet md_live_lot 3 (gC (.int 0))) sNil)
    (sIf (gAnd (gSeq (gSeq (gVar 1) (gSeq (gVar 4) (fFld tab_copies))) fInA) (gOrB (gVar 2) (gSeq (gSeq (gVar 1) (gSeq (gVar 4) (fFld tab_revokes))) fNotInA))) (sSet md_live_lot 3 (gSeq (gVar 4) (fFld tab_number))) sNil))
def g_live_lot : GS := (sSeq (sSet md_live_lot 3 (gC (.int 0)))
    (sSeq (sFor (gVar 0) (bind md_live_lot 4) b_live_lot_1)
    (sRet (gSeq (gVar 3) (fMv md_live_lot)))))
def G_live_lot : GF := runF md_live_lot 5 g_live_lot
theorem sim_live_lot (T : Txt K mg) : FnOk P w K mg base (L2N.CX P w) 1 T.a_live_lot T.fd_live_lot ["window", "x", "lapse"] (spOf (kcm K (kt P w T)) md_live_lot G_live_lot) :=
  fn_sim T.F_live_lot sc_live_lot rfl (by decide) fun cdv A outer s H E hr =>
  (mss_cons (ms_set (i := 3) sc_live_lot.nd rfl (Or.inl rfl) (me_c pe_int))
    (mss_cons (ms_for (me_var (pv 0)) (mg_name (i := 4) sc_live_lot.nd rfl (Or.inl rfl))
    (mss_cons (ms_if (mt_cmp (op_inA hr.units) fInA_ok (me_var (pv 1)) (me_fld (me_var (pv 4)) (fo_revokes T)) rfl) (mss_one (ms_set (i := 3) sc_live_lot.nd rfl (Or.inl rfl) (me_c pe_int)))
    mss_nil)
    (mss_one (ms_if (mw_pt (mw_and (mt_cmp (op_inA hr.units) fInA_ok (me_var (pv 1)) (me_fld (me_var (pv 4)) (fo_copies T)) rfl) (mw_and1 (mw_pt (mw_or (mt_val (me_var (pv 2))) (mw_or1 (mt_cmp (op_notInA hr.units) fNotInA_ok (me_var (pv 1)) (me_fld (me_var (pv 4)) (fo_revokes T)) rfl))))))) (mss_one (ms_set (i := 3) sc_live_lot.nd rfl (Or.inl rfl) (me_fld (me_var (pv 4)) (fo_number T))))
    mss_nil))) (passes_of rfl) rfl)
    (mss_one (ms_ret (me_mv (me_var (pv 3)))))))
abbrev md_Book_contains : List Bool := [false, false]
def g_Book_contains : GS := (sRet (gSeq (gSeq (gVar 1) (gSeq (gVar 0) (fFld tab_names))) fInA))
def G_Book_contains : GF := runF md_Book_contains 2 g_Book_contains
theorem sim_Book_contains (T : Txt K mg) : FnOk P w K mg base (L2N.CX P w) 1 T.a_Book_contains T.fd_Book_contains ["self", "name"] (spOf (kcm K (kt P w T)) md_Book_contains G_Book_contains) :=
  fn_sim T.F_Book_contains sc_Book_contains rfl (by decide) fun cdv A outer s H E hr =>
  (mss_one (ms_ret (me_cmp (op_inA hr.units) fInA_ok (me_var (pv 1)) (me_fld (me_var (pv 0)) (fo_names T)) rfl)))
abbrev md_Plan_data_blocks : List Bool := [false]
def g_Plan_data_blocks : GS := (sRet (gSeq (gSeq (gSeq (gVar 0) (fFld tab_first_data)) (gSeq (gVar 0) (fFld tab_blocks))) fLstG))
def G_Plan_data_blocks : GF := runF md_Plan_data_blocks 1 g_Plan_data_blocks
theorem sim_Plan_data_blocks (T : Txt K mg) : FnOk P w K mg base (L2N.CX P w) 1 T.a_Plan_data_blocks T.fd_Plan_data_blocks ["self"] (spOf (kcm K (kt P w T)) md_Plan_data_blocks G_Plan_data_blocks) :=
  fn_sim T.F_Plan_data_blocks sc_Plan_data_blocks rfl (by decide) fun cdv A outer s H E hr =>
  (mss_one (ms_ret (me_lstRg2 (me_fld (me_var (pv 0)) (fo_first_data T)) (me_fld (me_var (pv 0)) (fo_blocks T)) rfl (by rfl) T.n_list (by rfl) T.n_range)))
abbrev md_barred_blocks : List Bool := [false, false, false, false]
def b_barred_blocks_1 : GS := (sSeq (sSet md_barred_blocks 6 (gOrB (gSeq (gSeq (gSeq (gSeq (gSeq (gVar 1) (fFld tab_holdings)) (gVar 5)) fIxA) (gC (.int 0))) fNe) (gAnd (gSeq (gSeq (gVar 2) (gC .non)) fNotN) (gSeq (gSeq (gSeq (gSeq (gSeq (gVar 2) (fFld tab_holdings)) (gVar 5)) fIxA) (gC (.int 0))) fNe))))
    (sIf (gAnd (gSeq (gSeq (gC (.str "reuse")) (gVar 0)) (fInO 2 md_Book_contains G_Book_contains false)) (gVar 6)) (sExpr (gSeq (gVar 4) (gSeq chkL (gSeq (gSeq (gVar 5) gNil) fApp)))) (sIf (gAnd (gSeq (gSeq (gC (.str "shelve")) (gVar 0)) (fInO 2 md_Book_contains G_Book_contains false)) (gSeq (gSeq (gSeq (gSeq (gVar 3) (gSeq (gVar 5) gNil)) (gSeq (gSeq (gSeq (gSeq (gC (.str "lapse")) (gVar 0)) (fInO 2 md_Book_contains G_Book_contains false)) gNil) (noEx (gCall [] md_live_lot G_live_lot 3)))) (gC (.int 0))) fNe)) (sExpr (gSeq (gVar 4) (gSeq chkL (gSeq (gSeq (gVar 5) gNil) fApp)))) sNil)))
def g_barred_blocks : GS := (sSeq (sSet md_barred_blocks 4 (gSeq gNil (fNew .lst 0)))
    (sSeq (sFor (gSeq (gSeq (gVar 1) (fFld tab_plan)) (gSeq (chkI 0) (gCall [] md_Plan_data_blocks G_Plan_data_blocks 1))) (bind md_barred_blocks 5) b_barred_blocks_1)
    (sRet (gSeq (gVar 4) (fMv md_barred_blocks)))))
def G_barred_blocks : GF := runF md_barred_blocks 7 g_barred_blocks
theorem sim_barred_blocks (T : Txt K mg) : FnOk P w K mg base (L2N.CX P w) 2 T.a_barred_blocks T.fd_barred_blocks ["book", "committed", "closing", "window"] (spOf (kcm K (kt P w T)) md_barred_blocks G_barred_blocks) :=
  fn_sim T.F_barred_blocks sc_barred_blocks rfl (by decide) fun cdv A outer s H E hr =>
  (mss_cons (ms_set (i := 4) sc_barred_blocks.nd rfl (Or.inl rfl) (me_lst ma_nil (by show 0 ≤ sizeLine; decide)))
    (mss_cons (ms_for (me_meth0 (is := []) (n := 0) (me_fld (me_var (pv 1)) (fo_plan T)) T.C_Plan T.m_Plan_data_blocks (show (cnm 0).idxOf? ("data_blocks" : Str) = none by decide +kernel) (sim_Plan_data_blocks T) (hr.mono (by decide)) (takes_of rfl rfl rfl rfl) T.b_Plan_data_blocks (by decide) (by decide)) (mg_name (i := 5) sc_barred_blocks.nd rfl (Or.inl rfl))
    (mss_cons (ms_set (i := 6) sc_barred_blocks.nd rfl (Or.inl rfl) (me_or (me_cmp (OpR.or op_ne (op_neD hr.units)) fNe_ok (me_ixA hr.units (me_fld (me_var (pv 1)) (fo_holdings T)) (me_var (pv 5)) (fun _ _ => rfl)) (me_c pe_int) (nomark _)) (me_one (me_and (me_cmp op_notN fNotN_ok (me_var (pv 2)) (me_c pe_non) (nomark _)) (me_one (me_cmp (OpR.or op_ne (op_neD hr.units)) fNe_ok (me_ixA hr.units (me_fld (me_var (pv 2)) (fo_holdings T)) (me_var (pv 5)) (fun _ _ => rfl)) (me_c pe_int) (nomark _)))))))
    (mss_one (ms_if (mw_pt (mw_and (mt_cmp (op_inO T.m_Book_contains (sim_Book_contains T) (hr.mono (by decide)) T.b_Book_contains) fInO_ok (me_c pe_str) (me_var (pv 0)) rfl) (mw_and1 (mt_val (me_var (pv 6)))))) (mss_one (ms_expr (me_bm (me_var (pv 4)) (ma_cons (me_var (pv 5)) ma_nil) fApp_ok (fun a b => pe_bm PySem.F.plainAttrs_list PySem.F.slot_list_append PySem.F.type_list_append mt_append a b))))
    (mss_one (ms_if (mw_pt (mw_and (mt_cmp (op_inO T.m_Book_contains (sim_Book_contains T) (hr.mono (by decide)) T.b_Book_contains) fInO_ok (me_c pe_str) (me_var (pv 0)) rfl) (mw_and1 (mt_cmp (OpR.or op_ne (op_neD hr.units)) fNe_ok (me_callN (is := []) (sim_live_lot T) (hr.mono (by decide)) rfl T.m_live_lot T.F_live_lot.kp T.b_live_lot (ma_cons (me_var (pv 3)) (ma_cons (me_var (pv 5)) ma_nil)) (mk_cons (me_cmp (op_inO T.m_Book_contains (sim_Book_contains T) (hr.mono (by decide)) T.b_Book_contains) fInO_ok (me_c pe_str) (me_var (pv 0)) rfl) mk_nil) rfl (by decide) (by decide)) (me_c pe_int) (nomark _))))) (mss_one (ms_expr (me_bm (me_var (pv 4)) (ma_cons (me_var (pv 5)) ma_nil) fApp_ok (fun a b => pe_bm PySem.F.plainAttrs_list PySem.F.slot_list_append PySem.F.type_list_append mt_append a b))))
    mss_nil))))) (passes_of rfl) rfl)
    (mss_one (ms_ret (me_mv (me_var (pv 4)))))))
abbrev md_law_pick : List Bool := [true, false]
def g_law_pick : GS := (sSeq (sIf (gSeq (gSeq (gSeq (gSeq (gVar 0) gNil) fLen) (gC (.int 0))) fEq) (sRet (gC (.int 0))) sNil)
    (sRet (gSeq (gSeq (gSeq (gSeq (gSeq (gVar 0) (gSeq chkL (gSeq (gSeq (gC (.int 0)) gNil) fPopA))) gNil) fInt) (gVar 1)) fMod)))
def G_law_pick : GF := runF md_law_pick 2 g_law_pick
theorem sim_law_pick (T : Txt K mg) : FnOk P w K mg base (L2N.CX P w) 1 T.a_law_pick T.fd_law_pick ["_law_feed_here", "_law_limit"] (spOf (kcm K (kt P w T)) md_law_pick G_law_pick) :=
  fn_sim T.F_law_pick sc_law_pick rfl (by decide) fun cdv A outer s H E hr =>
  (mss_cons (ms_if (mt_cmp (OpR.or op_eq (op_eqD hr.units)) fEq_ok (me_callB (CallR.or call_len call_lenR) fLen_ok (by rfl) T.n_len (by decide +kernel) (ma_cons (me_var (pv 0)) ma_nil)) (me_c pe_int) (nomark _)) (mss_one (ms_ret (me_c pe_int)))
    mss_nil)
    (mss_one (ms_ret (me_mod (me_callTy call_int1 fInt_ok (by rfl) T.n_int (by decide +kernel) (ma_cons (me_bm (me_var (pv 0)) (ma_cons (me_c pe_int) ma_nil) fPopA_ok (fun a b => pe_bm PySem.F.plainAttrs_list PySem.F.slot_list_pop PySem.F.type_list_pop mt_popAt a b)) ma_nil)) (me_var (pv 1))))))
abbrev md_Image_init : List Bool := [true, false]
def e_Image_init_1 : GE := (gSeq (gSeq (gSeq (gSeq (gC (.int 0)) gNil) (fNew .lst 1)) (gC (.int 8))) fMul)
def g_Image_init : GS := (sSeq (sFldS tab_plan (gVar 1) (gVar 0))
    (sSeq (sFldS tab_cells (gLcR1 [2] (gSeq (gSeq (gVar 1) (fFld tab_blocks)) gNil) (bind md_Image_init 2) (gC (.bl true)) e_Image_init_1) (gVar 0))
    (sSeq (sFldS tab_holdings (gSeq (gSeq (gSeq (gSeq (gC (.int 0)) gNil) (fNew .lst 1)) (gSeq (gVar 1) (fFld tab_blocks))) fMul) (gVar 0))
    (sSeq (sFldS tab_stamps (gSeq (gSeq (gSeq (gSeq (gC (.int 0)) gNil) (fNew .lst 1)) (gSeq (gVar 1) (fFld tab_blocks))) fMul) (gVar 0))
    (sSeq (sFldS tab_handles gD0 (gVar 0))
    (sSeq (sFldS tab_serial (gC (.int 0)) (gVar 0))
    (sSeq (sFldS tab_wish (gC (.int 0)) (gVar 0))
    (sFldS tab_barred (gSeq gNil (fNew .tup 0)) (gVar 0)))))))))
def G_Image_init : GF := runF md_Image_init 3 g_Image_init
theorem sim_Image_init (T : Txt K mg) : FnOk P w K mg base (L2N.CX P w) 1 T.a_Image_init T.fd_Image_init ["self", "plan"] (spOf (kcm K (kt P w T)) md_Image_init G_Image_init) :=
  fn_sim T.F_Image_init sc_Image_init rfl (by decide) fun cdv A outer s H E hr =>
  (mss_cons (ms_fld (me_var (pv 1)) (me_var (pv 0)) (fo_plan T))
    (mss_cons (ms_fld (me_lcR10 (ma_cons (me_fld (me_var (pv 1)) (fo_blocks T)) ma_nil) (blkOk_by (own := [("x", 2)]) (N := N_Image_init) (sc := defScope s_Image_init) (by decide +kernel)) (fun _ _ _ _ _ => pg_name (i := 2) sc_Image_init.nd rfl (Or.inl rfl)) (fun _ _ _ _ _ => (me_mul (me_lst (ma_cons (me_c pe_int) ma_nil) (by show 1 ≤ sizeLine; decide)) (me_c pe_int))) rfl T.n_range rfl sc_Image_init.nd) (me_var (pv 0)) (fo_cells T))
    (mss_cons (ms_fld (me_mul (me_lst (ma_cons (me_c pe_int) ma_nil) (by show 1 ≤ sizeLine; decide)) (me_fld (me_var (pv 1)) (fo_blocks T))) (me_var (pv 0)) (fo_holdings T))
    (mss_cons (ms_fld (me_mul (me_lst (ma_cons (me_c pe_int) ma_nil) (by show 1 ≤ sizeLine; decide)) (me_fld (me_var (pv 1)) (fo_blocks T))) (me_var (pv 0)) (fo_stamps T))
    (mss_cons (ms_fld me_d0 (me_var (pv 0)) (fo_handles T))
    (mss_cons (ms_fld (me_c pe_int) (me_var (pv 0)) (fo_serial T))
    (mss_cons (ms_fld (me_c pe_int) (me_var (pv 0)) (fo_wish T))
    (mss_one (ms_fld (me_tup ma_nil (by show 0 ≤ sizeLine; decide)) (me_var (pv 0)) (fo_barred T))))))))))
abbrev md_Image_twin : List Bool := [false]
def e_Image_twin_1 : GE := (gSeq (gSeq (gVar 2) gNil) fLst)
def g_Image_twin : GS := (sSeq (sSet md_Image_twin 1 (gSeq (gSeq (gSeq (gVar 0) (fFld tab_plan)) gNil) (noEx (gMake 1 (md_Image_init).tail G_Image_init 1))))
    (sSeq (sFldS tab_cells (gLc [2] (gSeq (gVar 0) (fFld tab_cells)) (bind md_Image_twin 2) (gC (.bl true)) e_Image_twin_1) (gVar 1))
    (sSeq (sFldS tab_holdings (gSeq (gSeq (gSeq (gVar 0) (fFld tab_holdings)) gNil) fLst) (gVar 1))
    (sSeq (sFldS tab_stamps (gSeq (gSeq (gSeq (gVar 0) (fFld tab_stamps)) gNil) fLst) (gVar 1))
    (sSeq (sFldS tab_handles (gDc0 0 tab_handles) (gVar 1))
    (sSeq (sFldS tab_serial (gSeq (gVar 0) (fFld tab_serial)) (gVar 1))
    (sSeq (sFldS tab_wish (gSeq (gVar 0) (fFld tab_wish)) (gVar 1))
    (sSeq (sFldS tab_barred (gSeq (gSeq (gSeq (gVar 0) (fFld tab_barred)) gNil) fTup) (gVar 1))
    (sRet (gSeq (gVar 1) (fMv md_Image_twin)))))))))))
def G_Image_twin : GF := runF md_Image_twin 4 g_Image_twin
theorem sim_Image_twin (T : Txt K mg) : FnOk P w K mg base (L2N.CX P w) 3 T.a_Image_twin T.fd_Image_twin ["self"] (spOf (kcm K (kt P w T)) md_Image_twin G_Image_twin) :=
  fn_sim T.F_Image_twin sc_Image_twin rfl (by decide) fun cdv A outer s H E hr =>
  (mss_cons (ms_set (i := 1) sc_Image_twin.nd rfl (Or.inl rfl) (me_make (n := 1) T.m_Image_init (sim_Image_init T) (hr.mono (by decide)) rfl T.g_Image T.b_Image_init (ma_cons (me_fld (me_var (pv 0)) (fo_plan T)) ma_nil)))
    (mss_cons (ms_fld (me_lc0 (me_fld (me_var (pv 0)) (fo_cells T)) (blkOk_by (own := [("row", 2)]) (N := N_Image_twin) (sc := defScope s_Image_twin) (by decide +kernel)) (fun _ _ _ _ _ => pg_name (i := 2) sc_Image_twin.nd rfl (Or.inl rfl)) (fun _ _ _ _ _ => (me_callTy call_list_of fLst_ok (by rfl) T.n_list (by decide +kernel) (ma_cons (me_var (pv 2)) ma_nil))) rfl sc_Image_twin.nd) (me_var (pv 1)) (fo_cells T))
    (mss_cons (ms_fld (me_callTy call_list_of fLst_ok (by rfl) T.n_list (by decide +kernel) (ma_cons (me_fld (me_var (pv 0)) (fo_holdings T)) ma_nil)) (me_var (pv 1)) (fo_holdings T))
    (mss_cons (ms_fld (me_callTy call_list_of fLst_ok (by rfl) T.n_list (by decide +kernel) (ma_cons (me_fld (me_var (pv 0)) (fo_stamps T)) ma_nil)) (me_var (pv 1)) (fo_stamps T))
    (mss_cons (ms_fld (me_dc0 (i := 0) (fo_handles T) (pe_dc (own := [("n", 3)]) (g := gName 3) (tt := tYes) (by rfl) sc_Image_twin.nd (pi_keys (pe_fld (pv 0) rfl)) (blkOk_by (own := [("n", 3)]) (N := N_Image_twin) (sc := defScope s_Image_twin) (by decide +kernel)) (fun _ _ _ _ _ => pg_name (i := 3) sc_Image_twin.nd rfl (Or.inl rfl)) (fun _ _ _ _ _ => pts_nil) (fun _ _ _ _ _ => (pv 3)) (fun _ _ _ _ _ => (show PE _ _ (tDGet _ _) from pe_dget (hu_of hr) (show PE _ _ (tFld K _ _) from pe_fld (pv 0) rfl) (pv 3) (fun _ _ => rfl))))) (me_var (pv 1)) (fo_handles T))
    (mss_cons (ms_fld (me_fld (me_var (pv 0)) (fo_serial T)) (me_var (pv 1)) (fo_serial T))
    (mss_cons (ms_fld (me_fld (me_var (pv 0)) (fo_wish T)) (me_var (pv 1)) (fo_wish T))
    (mss_cons (ms_fld (me_callTy call_tuple_of fTup_ok (by rfl) T.n_tuple (by decide +kernel) (ma_cons (me_fld (me_var (pv 0)) (fo_barred T)) ma_nil)) (me_var (pv 1)) (fo_barred T))
    (mss_one (ms_ret (me_mv (me_var (pv 1)))))))))))))
abbrev md_law_moment : List Bool := [false, false]
def g_law_moment : GS := (sRet (gSeq (gSeq (gSeq (gSeq (gVar 0) (gSeq (chkI 1) (gCall [] md_Image_twin G_Image_twin 1))) (gSeq (gSeq (gSeq (gSeq (gSeq (gVar 1) (gC (.int 0))) fIxA) gNil) fLst) (gSeq (gSeq (gSeq (gSeq (gSeq (gVar 1) (gC (.int 1))) fIxA) gNil) fLst) (gSeq (gSeq (gSeq (gSeq (gSeq (gVar 1) (gC (.int 2))) fIxA) gNil) fLst) gNil)))) (fNew .lst 4)) fFrz))
def G_law_moment : GF := runF md_law_moment 2 g_law_moment
theorem sim_law_moment (T : Txt K mg) : FnOk P w K mg base (L2N.CX P w) 4 T.a_law_moment T.fd_law_moment ["_law_image", "_law_book"] (spOf (kcm K (kt P w T)) md_law_moment G_law_moment) :=
  fn_sim T.F_law_moment sc_law_moment rfl (by decide) fun cdv A outer s H E hr =>
  (mss_one (ms_ret (me_frz (me_lst (ma_cons (me_meth0 (is := []) (n := 1) (me_var (pv 0)) T.C_Image T.m_Image_twin (show (cnm 1).idxOf? ("twin" : Str) = none by decide +kernel) (sim_Image_twin T) (hr.mono (by decide)) (takes_of rfl rfl rfl rfl) T.b_Image_twin (by decide) (by decide)) (ma_cons (me_callTy call_list_of fLst_ok (by rfl) T.n_list (by decide +kernel) (ma_cons (me_ixA hr.units (me_var (pv 1)) (me_c pe_int) (fun _ _ => rfl)) ma_nil)) (ma_cons (me_callTy call_list_of fLst_ok (by rfl) T.n_list (by decide +kernel) (ma_cons (me_ixA hr.units (me_var (pv 1)) (me_c pe_int) (fun _ _ => rfl)) ma_nil)) (ma_cons (me_callTy call_list_of fLst_ok (by rfl) T.n_list (by decide +kernel) (ma_cons (me_ixA hr.units (me_var (pv 1)) (me_c pe_int) (fun _ _ => rfl)) ma_nil)) ma_nil)))) (by show 4 ≤ sizeLine; decide)))))
abbrev md_Plan_map_place : List Bool := [false, false]
def g_Plan_map_place : GS := (sRet (gSeq (gSeq (gSeq (gSeq (gC (.int 2)) (gSeq (gSeq (gVar 1) (gC (.int 8))) fDiv)) fAdd) (gSeq (gSeq (gSeq (gVar 1) (gC (.int 8))) fMod) gNil)) (fNew .tup 2)))
def G_Plan_map_place : GF := runF md_Plan_map_place 2 g_Plan_map_place
theorem sim_Plan_map_place (T : Txt K mg) : FnOk P w K mg base (L2N.CX P w) 1 T.a_Plan_map_place T.fd_Plan_map_place ["self", "x"] (spOf (kcm K (kt P w T)) md_Plan_map_place G_Plan_map_place) :=
  fn_sim T.F_Plan_map_place sc_Plan_map_place rfl (by decide) fun cdv A outer s H E hr =>
  (mss_one (ms_ret (me_tup (ma_cons (me_add (me_c pe_int) (me_div (me_var (pv 1)) (me_c pe_int))) (ma_cons (me_mod (me_var (pv 1)) (me_c pe_int)) ma_nil)) (by show 2 ≤ sizeLine; decide))))
abbrev md_Image_kind : List Bool := [false, false]
def g_Image_kind : GS := (sSeq (sIf (gSeq (gSeq (gVar 1) (gSeq (gSeq (gVar 0) (fFld tab_plan)) (fFld tab_first_data))) fLt) (sRet (gC (.int 1))) sNil)
    (sSeq (sAsg (gSeq (gSeq (gVar 0) (fFld tab_plan)) (gSeq (chkI 0) (gSeq (gSeq (gVar 1) gNil) (gCall [] md_Plan_map_place G_Plan_map_place 2)))) (unpk md_Image_kind [2, 3]))
    (sSeq (sSet md_Image_kind 4 (gSeq (gSeq (gSeq (gSeq (gSeq (gVar 0) (fFld tab_cells)) (gVar 2)) fIxA) (gVar 3)) fIxA))
    (sSeq (sIf (gOrB (gSeq (gSeq (gVar 4) (gC (.int 1))) fEq) (gSeq (gSeq (gVar 4) (gC (.int 2))) fEq)) (sRet (gSeq (gVar 4) (fMv md_Image_kind))) sNil)
    (sRet (gC (.int 0)))))))
def G_Image_kind : GF := runF md_Image_kind 5 g_Image_kind
theorem sim_Image_kind (T : Txt K mg) : FnOk P w K mg base (L2N.CX P w) 2 T.a_Image_kind T.fd_Image_kind ["self", "x"] (spOf (kcm K (kt P w T)) md_Image_kind G_Image_kind) :=
  fn_sim T.F_Image_kind sc_Image_kind rfl (by decide) fun cdv A outer s H E hr =>
  (mss_cons (ms_if (mt_cmp op_lt fI_ok0 (me_var (pv 1)) (me_fld (me_fld (me_var (pv 0)) (fo_plan T)) (fo_first_data T)) (nomark _)) (mss_one (ms_ret (me_cval (pe_glob (v := .ref T.c_Plan) rfl T.g_Plan rfl) T.r_Plan T.k_Plan_LOGGED)))
    mss_nil)
    (mss_cons (ms_asg (me_meth (is := []) (n := 0) (me_fld (me_var (pv 0)) (fo_plan T)) T.C_Plan T.m_Plan_map_place (show (cnm 0).idxOf? ("map_place" : Str) = none by decide +kernel) (sim_Plan_map_place T) (hr.mono (by decide)) (takes_of rfl rfl rfl rfl) T.b_Plan_map_place (ma_cons (me_var (pv 1)) ma_nil) (by decide) (by decide)) (mg_unp (is := [2, 3]) (pg_tup (by rfl) (pgs_cons (pg_name (i := 2) sc_Image_kind.nd rfl (Or.inl rfl)) (pgs_cons (pg_name (i := 3) sc_Image_kind.nd rfl (Or.inl rfl)) pgs_nil))) (pg_lst (by rfl) (pgs_cons (pg_name (i := 2) sc_Image_kind.nd rfl (Or.inl rfl)) (pgs_cons (pg_name (i := 3) sc_Image_kind.nd rfl (Or.inl rfl)) pgs_nil)))) (fun a b => ps_asg a b))
    (mss_cons (ms_set (i := 4) sc_Image_kind.nd rfl (Or.inl rfl) (me_ixA hr.units (me_ixA hr.units (me_fld (me_var (pv 0)) (fo_cells T)) (me_var (pv 2)) (fun _ _ => rfl)) (me_var (pv 3)) (fun _ _ => rfl)))
    (mss_cons (ms_if (mw_pt (mw_or (mt_cmp (OpR.or op_eq (op_eqD hr.units)) fEq_ok (me_var (pv 4)) (me_cval (pe_glob (v := .ref T.c_Plan) rfl T.g_Plan rfl) T.r_Plan T.k_Plan_LOGGED) (nomark _)) (mw_or1 (mt_cmp (OpR.or op_eq (op_eqD hr.units)) fEq_ok (me_var (pv 4)) (me_cval (pe_glob (v := .ref T.c_Plan) rfl T.g_Plan rfl) T.r_Plan T.k_Plan_PLAIN) (nomark _))))) (mss_one (ms_ret (me_mv (me_var (pv 4)))))
    mss_nil)
    (mss_one (ms_ret (me_cval (pe_glob (v := .ref T.c_Plan) rfl T.g_Plan rfl) T.r_Plan T.k_Plan_FREE)))))))
abbrev md_Image_free_blocks : List Bool := [false]
def t_Image_free_blocks_1 : GE := (gSeq (gSeq (gSeq (gVar 0) (gSeq (chkI 1) (gSeq (gSeq (gVar 1) gNil) (gCall [] md_Image_kind G_Image_kind 2)))) (gC (.int 0))) fEq)
def e_Image_free_blocks_1 : GE := (gVar 1)
def g_Image_free_blocks : GS := (sRet (gLcR2 [1] (gSeq (gSeq (gSeq (gVar 0) (fFld tab_plan)) (fFld tab_first_data)) (gSeq (gSeq (gSeq (gVar 0) (fFld tab_plan)) (fFld tab_blocks)) gNil)) (bind md_Image_free_blocks 1) t_Image_free_blocks_1 e_Image_free_blocks_1))
def G_Image_free_blocks : GF := runF md_Image_free_blocks 2 g_Image_free_blocks
theorem sim_Image_free_blocks (T : Txt K mg) : FnOk P w K mg base (L2N.CX P w) 3 T.a_Image_free_blocks T.fd_Image_free_blocks ["self"] (spOf (kcm K (kt P w T)) md_Image_free_blocks G_Image_free_blocks) :=
  fn_sim T.F_Image_free_blocks sc_Image_free_blocks rfl (by decide) fun cdv A outer s H E hr =>
  (mss_one (ms_ret (me_lcR2 (ma_cons (me_fld (me_fld (me_var (pv 0)) (fo_plan T)) (fo_first_data T)) (ma_cons (me_fld (me_fld (me_var (pv 0)) (fo_plan T)) (fo_blocks T)) ma_nil)) (blkOk_by (own := [("x", 1)]) (N := N_Image_free_blocks) (sc := defScope s_Image_free_blocks) (by decide +kernel)) (fun _ _ _ _ _ => pg_name (i := 1) sc_Image_free_blocks.nd rfl (Or.inl rfl)) (fun _ _ _ _ _ => (mt_cmp (OpR.or op_eq (op_eqD hr.units)) fEq_ok (me_meth (is := []) (n := 1) (me_var (pv 0)) T.C_Image T.m_Image_kind (show (cnm 1).idxOf? ("kind" : Str) = none by decide +kernel) (sim_Image_kind T) (hr.mono (by decide)) takes0 T.b_Image_kind (ma_cons (me_var (pv 1)) ma_nil) (by decide) (by decide)) (me_cval (pe_glob (v := .ref T.c_Plan) rfl T.g_Plan rfl) T.r_Plan T.k_Plan_FREE) (nomark _))) (fun _ _ _ _ _ => (me_var (pv 1))) rfl T.n_range rfl sc_Image_free_blocks.nd)))
abbrev md_Image_put_kind : List Bool := [true, false, false]
def g_Image_put_kind : GS := (sSeq (sAsg (gSeq (gSeq (gVar 0) (fFld tab_plan)) (gSeq (chkI 0) (gSeq (gSeq (gVar 1) gNil) (gCall [] md_Plan_map_place G_Plan_map_place 2)))) (unpk md_Image_put_kind [3, 4]))
    (sSubA (gVar 2) (gSeq (gSeq (gSeq (gVar 0) (fFld tab_cells)) (gVar 3)) fIxA) (gVar 4)))
def GG_Image_put_kind : GG := runG md_Image_put_kind 5 g_Image_put_kind
theorem simG_Image_put_kind (T : Txt K mg) : FnOk P w K mg base (L2N.CX P w) 2 T.a_Image_put_kind T.fd_Image_put_kind ["self", "x", "kind"] (spOfG (kcm K (kt P w T)) md_Image_put_kind GG_Image_put_kind) :=
  fn_simG T.F_Image_put_kind sc_Image_put_kind rfl (by decide) fun cdv A outer s H E hr =>
  (mss_cons (ms_asg (me_meth (is := []) (n := 0) (me_fld (me_var (pv 0)) (fo_plan T)) T.C_Plan T.m_Plan_map_place (show (cnm 0).idxOf? ("map_place" : Str) = none by decide +kernel) (sim_Plan_map_place T) (hr.mono (by decide)) (takes_of rfl rfl rfl rfl) T.b_Plan_map_place (ma_cons (me_var (pv 1)) ma_nil) (by decide) (by decide)) (mg_unp (is := [3, 4]) (pg_tup (by rfl) (pgs_cons (pg_name (i := 3) sc_Image_put_kind.nd rfl (Or.inl rfl)) (pgs_cons (pg_name (i := 4) sc_Image_put_kind.nd rfl (Or.inl rfl)) pgs_nil))) (pg_lst (by rfl) (pgs_cons (pg_name (i := 3) sc_Image_put_kind.nd rfl (Or.inl rfl)) (pgs_cons (pg_name (i := 4) sc_Image_put_kind.nd rfl (Or.inl rfl)) pgs_nil)))) (fun a b => ps_asg a b))
    (mss_one (ms_subA (me_var (pv 2)) (me_ixA hr.units (me_fld (me_var (pv 0)) (fo_cells T)) (me_var (pv 3)) (fun _ _ => rfl)) (me_var (pv 4)) (fun a b c => ps_asg c (pg_sub a b (set_A hr.units))))))
abbrev md_Image_take : List Bool := [true, false, false]
def t_Image_take_1 : GE := (gOrB (gSeq (gSeq (gVar 1) (gC (.int 2))) fNe) (gSeq (gSeq (gVar 5) (gSeq (gVar 0) (fFld tab_barred))) fNotInA))
def e_Image_take_1 : GE := (gVar 5)
def t_Image_take_2 : GE := (gSeq (gSeq (gVar 5) (gSeq (gVar 0) (fFld tab_wish))) fGe)
def e_Image_take_2 : GE := (gVar 5)
def g_Image_take : GS := (sSeq (sSet md_Image_take 3 (gSeq (gSeq (gSeq (gVar 0) (fFld tab_cells)) (gC (.int 0))) fIxA))
    (sSeq (sIf (gAnd (gSeq (gSeq (gSeq (gSeq (gVar 3) (gSeq (gSeq (gC (.int 4)) (gVar 2)) fAdd)) fIxA) (gC (.int 0))) fNe) (gSeq (gSeq (gSeq (gSeq (gVar 3) (gVar 2)) fIxA) (gSeq (gSeq (gVar 3) (gSeq (gSeq (gC (.int 4)) (gVar 2)) fAdd)) fIxA)) fGe)) (sRaise 1) sNil)
    (sSeq (sClr 5 (sSet md_Image_take 4 (gLc [5] (gSeq (gVar 0) (gSeq (chkI 1) (gCall [] md_Image_free_blocks G_Image_free_blocks 1))) (bind md_Image_take 5) t_Image_take_1 e_Image_take_1)))
    (sSeq (sIf (gSeq (gSeq (gSeq (gSeq (gVar 4) gNil) fLen) (gC (.int 0))) fEq) (sRaise 2) sNil)
    (sSeq (sClr 5 (sSet md_Image_take 6 (gLc [5] (gVar 4) (bind md_Image_take 5) t_Image_take_2 e_Image_take_2)))
    (sSeq (sSet md_Image_take 5 (gSeq (gSeq (gVar 4) (gC (.int 0))) fIxA))
    (sSeq (sIf (gSeq (gSeq (gSeq (gSeq (gVar 6) gNil) fLen) (gC (.int 0))) fGt) (sSet md_Image_take 5 (gSeq (gSeq (gVar 6) (gC (.int 0))) fIxA)) sNil)
    (sSeq (sSubA (gSeq (gSeq (gSeq (gSeq (gC (.int 0)) gNil) (fNew .lst 1)) (gC (.int 8))) fMul) (gSeq (gVar 0) (fFld tab_cells)) (gVar 5))
    (sSeq (sExpr (gSeq (gVar 0) (gSeq (chkI 1) (gSeq (gSeq (gVar 5) (gSeq (gVar 1) gNil)) (gCallG md_Image_put_kind GG_Image_put_kind 3)))))
    (sSeq (sSubA (gSeq (gVar 0) (fFld tab_serial)) (gSeq (gVar 0) (fFld tab_holdings)) (gVar 5))
    (sSeq (sSubA (gSeq (gVar 0) (fFld tab_serial)) (gSeq (gVar 0) (fFld tab_stamps)) (gVar 5))
    (sSeq (sSAug (gVar 3) (gVar 2) (gC (.int 1)) fAddI)
    (sRet (gVar 5))))))))))))))
def G_Image_take : GF := runF md_Image_take 7 g_Image_take
theorem sim_Image_take (T : Txt K mg) : FnOk P w K mg base (L2N.CX P w) 4 T.a_Image_take T.fd_Image_take ["self", "kind", "owner"] (spOf (kcm K (kt P w T)) md_Image_take G_Image_take) :=
  fn_sim T.F_Image_take sc_Image_take rfl (by decide) fun cdv A outer s H E hr =>
  (mss_cons (ms_set (i := 3) sc_Image_take.nd rfl (Or.inl rfl) (me_ixA hr.units (me_fld (me_var (pv 0)) (fo_cells T)) (me_c (pe_glob (v := .int 0) rfl T.g_SUMS_BLOCK ⟨_, rfl⟩)) (fun _ _ => rfl)))
    (mss_cons (ms_if (mw_pt (mw_and (mt_cmp (OpR.or op_ne (op_neD hr.units)) fNe_ok (me_ixA hr.units (me_var (pv 3)) (me_add (me_c pe_int) (me_var (pv 2))) (fun _ _ => rfl)) (me_c pe_int) (nomark _)) (mw_and1 (mt_cmp op_ge fI_ok0 (me_ixA hr.units (me_var (pv 3)) (me_var (pv 2)) (fun _ _ => rfl)) (me_ixA hr.units (me_var (pv 3)) (me_add (me_c pe_int) (me_var (pv 2))) (fun _ _ => rfl)) (nomark _))))) (mss_one (ms_raise (n := 1) rfl (takes_of rfl rfl rfl rfl) (pmk_own PySem.F.excBase_ValueError T.x_OverQuota T.g_OverQuota T.k_OverQuota (raises_own T.sb_OverQuota T.ty_OverQuota) rfl)))
    mss_nil)
    (mss_cons (ms_clr (i := 5) (ms_lc (me_meth0 (is := []) (n := 1) (me_var (pv 0)) T.C_Image T.m_Image_free_blocks (show (cnm 1).idxOf? ("free_blocks" : Str) = none by decide +kernel) (sim_Image_free_blocks T) (hr.mono (by decide)) (takes_of rfl rfl rfl rfl) T.b_Image_free_blocks (by decide) (by decide)) (blkOk_by (own := [("x", 5)]) (N := N_Image_take) (sc := defScope s_Image_take) (by decide +kernel)) (fun _ _ _ _ _ => pg_name (i := 5) sc_Image_take.nd rfl (Or.inl rfl)) (fun _ _ _ _ _ => (mw_pt (mw_or (mt_cmp (OpR.or op_ne (op_neD hr.units)) fNe_ok (me_var (pv 1)) (me_cval (pe_glob (v := .ref T.c_Plan) rfl T.g_Plan rfl) T.r_Plan T.k_Plan_PLAIN) (nomark _)) (mw_or1 (mt_cmp (op_notInA hr.units) fNotInA_ok (me_var (pv 5)) (me_fld (me_var (pv 0)) (fo_barred T)) rfl))))) (fun _ _ _ _ _ => (me_var (pv 5))) rfl sc_Image_take.nd rfl rfl (sw_true rfl rfl rfl (by decide +kernel))))
    (mss_cons (ms_if (mt_cmp (OpR.or op_eq (op_eqD hr.units)) fEq_ok (me_callB (CallR.or call_len call_lenR) fLen_ok (by rfl) T.n_len (by decide +kernel) (ma_cons (me_var (pv 4)) ma_nil)) (me_c pe_int) (nomark _)) (mss_one (ms_raise (n := 2) rfl (takes_of rfl rfl rfl rfl) (pmk_own PySem.F.excBase_ValueError T.x_BlocksFull T.g_BlocksFull T.k_BlocksFull (raises_own T.sb_BlocksFull T.ty_BlocksFull) rfl)))
    mss_nil)
    (mss_cons (ms_clr (i := 5) (ms_lc (me_var (pv 4)) (blkOk_by (own := [("x", 5)]) (N := N_Image_take) (sc := defScope s_Image_take) (by decide +kernel)) (fun _ _ _ _ _ => pg_name (i := 5) sc_Image_take.nd rfl (Or.inl rfl)) (fun _ _ _ _ _ => (mt_cmp op_ge fI_ok0 (me_var (pv 5)) (me_fld (me_var (pv 0)) (fo_wish T)) (nomark _))) (fun _ _ _ _ _ => (me_var (pv 5))) rfl sc_Image_take.nd rfl rfl (sw_true rfl rfl rfl (by decide +kernel))))
    (mss_cons (ms_set (i := 5) sc_Image_take.nd rfl (Or.inl rfl) (me_ixA hr.units (me_var (pv 4)) (me_c pe_int) (fun _ _ => rfl)))
    (mss_cons (ms_if (mt_cmp op_gt fI_ok0 (me_callB (CallR.or call_len call_lenR) fLen_ok (by rfl) T.n_len (by decide +kernel) (ma_cons (me_var (pv 6)) ma_nil)) (me_c pe_int) (nomark _)) (mss_one (ms_set (i := 5) sc_Image_take.nd rfl (Or.inl rfl) (me_ixA hr.units (me_var (pv 6)) (me_c pe_int) (fun _ _ => rfl))))
    mss_nil)
    (mss_cons (ms_subA (me_mul (me_lst (ma_cons (me_c pe_int) ma_nil) (by show 1 ≤ sizeLine; decide)) (me_c pe_int)) (me_fld (me_var (pv 0)) (fo_cells T)) (me_var (pv 5)) (fun a b c => ps_asg c (pg_sub a b (set_A hr.units))))
    (mss_cons (ms_expr (me_methG (n := 1) (me_var (pv 0)) T.C_Image T.m_Image_put_kind (show (cnm 1).idxOf? ("put_kind" : Str) = none by decide +kernel) (simG_Image_put_kind T) (hr.mono (by decide)) (takes_of rfl rfl rfl rfl) T.b_Image_put_kind (ma_cons (me_var (pv 5)) (ma_cons (me_var (pv 1)) ma_nil))))
    (mss_cons (ms_subA (me_fld (me_var (pv 0)) (fo_serial T)) (me_fld (me_var (pv 0)) (fo_holdings T)) (me_var (pv 5)) (fun a b c => ps_asg c (pg_sub a b (set_A hr.units))))
    (mss_cons (ms_subA (me_fld (me_var (pv 0)) (fo_serial T)) (me_fld (me_var (pv 0)) (fo_stamps T)) (me_var (pv 5)) (fun a b c => ps_asg c (pg_sub a b (set_A hr.units))))
    (mss_cons (ms_saug (me_var (pv 3)) (me_var (pv 2)) (me_c pe_int) fAddI_ip (fun a b c => ps_augS a b pget_list c ip_add set_list))
    (mss_one (ms_ret (me_var (pv 5))))))))))))))))
abbrev md_law_take : List Bool := [true, true, true, false, false]
def t_law_take_1 : GE := (gSeq (gSeq (gSeq (gSeq (gVar 5) (gVar 10)) fIxA) (gC (.int 0))) fEq)
def e_law_take_1 : GE := (gVar 10)
def t_law_take_2 : GE := (gSeq (gSeq (gVar 10) (gVar 4)) fGe)
def e_law_take_2 : GE := (gVar 10)
def b_law_take_1 : GS := (sSubA (gVar 3) (gVar 7) (gVar 15))
def g_law_take : GS := (sSeq (sAsg (gVar 1) (unpk md_law_take [5, 6, 7, 8]))
    (sSeq (sClr 10 (sSet md_law_take 9 (gLcR2 [10] (gSeq (gC (.int 10)) (gSeq (gC (.int 24)) gNil)) (bind md_law_take 10) t_law_take_1 e_law_take_1)))
    (sSeq (sSet md_law_take 11 (gSeq (gSeq (gC (.int 1)) (gSeq (gSeq (gVar 2) (gSeq (gC (.int 2)) gNil)) (gCall [0] md_law_pick G_law_pick 2))) fAdd))
    (sSeq (sSet md_law_take 12 (gSeq (gSeq (gVar 2) (gSeq (gC (.int 4)) gNil)) (gCall [0] md_law_pick G_law_pick 2)))
    (sSeq (sIf (gSeq (gSeq (gSeq (gSeq (gVar 9) gNil) fLen) (gC (.int 0))) fEq) (sRet (gC (.bl true))) sNil)
    (sSeq (sClr 10 (sSet md_law_take 13 (gLc [10] (gVar 9) (bind md_law_take 10) t_law_take_2 e_law_take_2)))
    (sSeq (sSet md_law_take 14 (gSeq (gSeq (gSeq (gSeq (gVar 13) (gVar 9)) fAdd) (gC (.int 0))) fIxA))
    (sSeq (sSet md_law_take 10 (gSeq (gVar 0) (gSeq (chkI 1) (gSeq (gSeq (gVar 11) (gSeq (gVar 12) gNil)) (gCall [0] md_Image_take G_Image_take 3)))))
    (sSeq (sSubA (gSeq (gVar 11) (fMv md_law_take)) (gVar 5) (gVar 14))
    (sSeq (sSubA (gVar 3) (gVar 6) (gVar 14))
    (sSeq (sSubA (gSeq (gVar 12) (fMv md_law_take)) (gVar 8) (gVar 14))
    (sSeq (sFor (gSeq (gSeq (gSeq (gVar 14) (gSeq (gC (.int 0)) (gSeq (gSeq (gSeq (gC (.int 2)) (gSeq (gSeq (gVar 14) (gC (.int 8))) fDiv)) fAdd) gNil))) (fMvD md_law_take 2)) (fNew .lst 3)) (bind md_law_take 15) b_law_take_1)
    (sRet (gSeq (gSeq (gVar 10) (gVar 14)) fEq))))))))))))))
def G_law_take : GF := runF md_law_take 16 g_law_take
theorem sim_law_take (T : Txt K mg) : FnOk P w K mg base (L2N.CX P w) 5 T.a_law_take T.fd_law_take ["_law_image", "_law_book", "_law_feed_here", "_law_serial", "_law_wish"] (spOf (kcm K (kt P w T)) md_law_take G_law_take) :=
  fn_sim T.F_law_take sc_law_take rfl (by decide) fun cdv A outer s H E hr =>
  (mss_cons (ms_asg (me_var (pv 1)) (mg_unp (is := [5, 6, 7, 8]) (pg_tup (by rfl) (pgs_cons (pg_name (i := 5) sc_law_take.nd rfl (Or.inr rfl)) (pgs_cons (pg_name (i := 6) sc_law_take.nd rfl (Or.inl rfl)) (pgs_cons (pg_name (i := 7) sc_law_take.nd rfl (Or.inl rfl)) (pgs_cons (pg_name (i := 8) sc_law_take.nd rfl (Or.inl rfl)) pgs_nil))))) (pg_lst (by rfl) (pgs_cons (pg_name (i := 5) sc_law_take.nd rfl (Or.inr rfl)) (pgs_cons (pg_name (i := 6) sc_law_take.nd rfl (Or.inl rfl)) (pgs_cons (pg_name (i := 7) sc_law_take.nd rfl (Or.inl rfl)) (pgs_cons (pg_name (i := 8) sc_law_take.nd rfl (Or.inl rfl)) pgs_nil)))))) (fun a b => ps_asg a b))
    (mss_cons (ms_clr (i := 10) (ms_lcR2 (ma_cons (me_c pe_int) (ma_cons (me_c pe_int) ma_nil)) (blkOk_by (own := [("_law_x", 10)]) (N := N_law_take) (sc := defScope s_law_take) (by decide +kernel)) (fun _ _ _ _ _ => pg_name (i := 10) sc_law_take.nd rfl (Or.inl rfl)) (fun _ _ _ _ _ => (mt_cmp (OpR.or op_eq (op_eqD hr.units)) fEq_ok (me_ixA hr.units (me_var (pv 5)) (me_var (pv 10)) (fun _ _ => rfl)) (me_c pe_int) (nomark _))) (fun _ _ _ _ _ => (me_var (pv 10))) rfl T.n_range rfl sc_law_take.nd rfl rfl (sw_true rfl rfl rfl (by decide +kernel))))
    (mss_cons (ms_set (i := 11) sc_law_take.nd rfl (Or.inl rfl) (me_add (me_c pe_int) (me_call (is := [0]) (sim_law_pick T) (hr.mono (by decide)) (takes_of rfl rfl rfl rfl) rfl T.m_law_pick T.F_law_pick.kp T.b_law_pick (ma_cons (me_var (pv 2)) (ma_cons (me_c pe_int) ma_nil)) (by decide) (by decide))))
    (mss_cons (ms_set (i := 12) sc_law_take.nd rfl (Or.inl rfl) (me_call (is := [0]) (sim_law_pick T) (hr.mono (by decide)) (takes_of rfl rfl rfl rfl) rfl T.m_law_pick T.F_law_pick.kp T.b_law_pick (ma_cons (me_var (pv 2)) (ma_cons (me_c pe_int) ma_nil)) (by decide) (by decide)))
    (mss_cons (ms_if (mt_cmp (OpR.or op_eq (op_eqD hr.units)) fEq_ok (me_callB (CallR.or call_len call_lenR) fLen_ok (by rfl) T.n_len (by decide +kernel) (ma_cons (me_var (pv 9)) ma_nil)) (me_c pe_int) (nomark _)) (mss_one (ms_ret (me_c pe_bl)))
    mss_nil)
    (mss_cons (ms_clr (i := 10) (ms_lc (me_var (pv 9)) (blkOk_by (own := [("_law_x", 10)]) (N := N_law_take) (sc := defScope s_law_take) (by decide +kernel)) (fun _ _ _ _ _ => pg_name (i := 10) sc_law_take.nd rfl (Or.inl rfl)) (fun _ _ _ _ _ => (mt_cmp op_ge fI_ok0 (me_var (pv 10)) (me_var (pv 4)) (nomark _))) (fun _ _ _ _ _ => (me_var (pv 10))) rfl sc_law_take.nd rfl rfl (sw_true rfl rfl rfl (by decide +kernel))))
    (mss_cons (ms_set (i := 14) sc_law_take.nd rfl (Or.inl rfl) (me_ixA hr.units (me_add (me_var (pv 13)) (me_var (pv 9))) (me_c pe_int) (fun _ _ => rfl)))
    (mss_cons (ms_set (i := 10) sc_law_take.nd rfl (Or.inl rfl) (me_meth (is := [0]) (n := 1) (me_var (pv 0)) T.C_Image T.m_Image_take (show (cnm 1).idxOf? ("take" : Str) = none by decide +kernel) (sim_Image_take T) (hr.mono (by decide)) (takes_of rfl rfl rfl rfl) T.b_Image_take (ma_cons (me_var (pv 11)) (ma_cons (me_var (pv 12)) ma_nil)) (by decide) (by decide)))
    (mss_cons (ms_subA (me_mv (me_var (pv 11))) (me_var (pv 5)) (me_var (pv 14)) (fun a b c => ps_asg c (pg_sub a b (set_A hr.units))))
    (mss_cons (ms_subA (me_var (pv 3)) (me_var (pv 6)) (me_var (pv 14)) (fun a b c => ps_asg c (pg_sub a b (set_A hr.units))))
    (mss_cons (ms_subA (me_mv (me_var (pv 12))) (me_var (pv 8)) (me_var (pv 14)) (fun a b c => ps_asg c (pg_sub a b (set_A hr.units))))
    (mss_cons (ms_for (me_lst (ma_mvd (d := 2) (ma_cons (me_var (pv 14)) (ma_cons (me_c pe_int) (ma_cons (me_add (me_c pe_int) (me_div (me_var (pv 14)) (me_c pe_int))) ma_nil)))) (by show 3 ≤ sizeLine; decide)) (mg_name (i := 15) sc_law_take.nd rfl (Or.inl rfl))
    (mss_one (ms_subA (me_var (pv 3)) (me_var (pv 7)) (me_var (pv 15)) (fun a b c => ps_asg c (pg_sub a b (set_A hr.units))))) (passes_of rfl) rfl)
    (mss_one (ms_ret (me_cmp (OpR.or op_eq (op_eqD hr.units)) fEq_ok (me_var (pv 10)) (me_var (pv 14)) (nomark _))))))))))))))))
abbrev md_Image_give : List Bool := [true, false, false]
def g_Image_give : GS := (sSeq (sSubA (gSeq (gSeq (gSeq (gSeq (gC (.int 0)) gNil) (fNew .lst 1)) (gC (.int 8))) fMul) (gSeq (gVar 0) (fFld tab_cells)) (gVar 1))
    (sSeq (sExpr (gSeq (gVar 0) (gSeq (chkI 1) (gSeq (gSeq (gVar 1) (gSeq (gC (.int 0)) gNil)) (gCallG md_Image_put_kind GG_Image_put_kind 3)))))
    (sSeq (sSubA (gC (.int 0)) (gSeq (gVar 0) (fFld tab_holdings)) (gVar 1))
    (sSeq (sSubA (gC (.int 0)) (gSeq (gVar 0) (fFld tab_stamps)) (gVar 1))
    (sSAug (gSeq (gSeq (gSeq (gVar 0) (fFld tab_cells)) (gC (.int 0))) fIxA) (gVar 2) (gC (.int 1)) fSubI)))))
def G_Image_give : GF := runF md_Image_give 3 g_Image_give
theorem sim_Image_give (T : Txt K mg) : FnOk P w K mg base (L2N.CX P w) 3 T.a_Image_give T.fd_Image_give ["self", "x", "owner"] (spOf (kcm K (kt P w T)) md_Image_give G_Image_give) :=
  fn_sim T.F_Image_give sc_Image_give rfl (by decide) fun cdv A outer s H E hr =>
  (mss_cons (ms_subA (me_mul (me_lst (ma_cons (me_c pe_int) ma_nil) (by show 1 ≤ sizeLine; decide)) (me_c pe_int)) (me_fld (me_var (pv 0)) (fo_cells T)) (me_var (pv 1)) (fun a b c => ps_asg c (pg_sub a b (set_A hr.units))))
    (mss_cons (ms_expr (me_methG (n := 1) (me_var (pv 0)) T.C_Image T.m_Image_put_kind (show (cnm 1).idxOf? ("put_kind" : Str) = none by decide +kernel) (simG_Image_put_kind T) (hr.mono (by decide)) (takes_of rfl rfl rfl rfl) T.b_Image_put_kind (ma_cons (me_var (pv 1)) (ma_cons (me_cval (pe_glob (v := .ref T.c_Plan) rfl T.g_Plan rfl) T.r_Plan T.k_Plan_FREE) ma_nil))))
    (mss_cons (ms_subA (me_c pe_int) (me_fld (me_var (pv 0)) (fo_holdings T)) (me_var (pv 1)) (fun a b c => ps_asg c (pg_sub a b (set_A hr.units))))
    (mss_cons (ms_subA (me_c pe_int) (me_fld (me_var (pv 0)) (fo_stamps T)) (me_var (pv 1)) (fun a b c => ps_asg c (pg_sub a b (set_A hr.units))))
    (mss_one (ms_saug (me_ixA hr.units (me_fld (me_var (pv 0)) (fo_cells T)) (me_c (pe_glob (v := .int 0) rfl T.g_SUMS_BLOCK ⟨_, rfl⟩)) (fun _ _ => rfl)) (me_var (pv 2)) (me_c pe_int) fSubI_ip (fun a b c => ps_augS a b pget_list c ip_sub set_list)))))))
abbrev md_law_give : List Bool := [true, true, true, false]
def t_law_give_1 : GE := (gSeq (gSeq (gSeq (gSeq (gVar 4) (gVar 9)) fIxA) (gC (.int 0))) fNe)
def e_law_give_1 : GE := (gVar 9)
def b_law_give_1 : GS := (sSubA (gVar 3) (gVar 6) (gVar 11))
def g_law_give : GS := (sSeq (sAsg (gVar 1) (unpk md_law_give [4, 5, 6, 7]))
    (sSeq (sClr 9 (sSet md_law_give 8 (gLcR2 [9] (gSeq (gC (.int 10)) (gSeq (gC (.int 24)) gNil)) (bind md_law_give 9) t_law_give_1 e_law_give_1)))
    (sSeq (sSet md_law_give 10 (gSeq (gSeq (gVar 2) (gSeq (gC (.int 14)) gNil)) (gCall [0] md_law_pick G_law_pick 2)))
    (sSeq (sIf (gSeq (gSeq (gSeq (gSeq (gVar 8) gNil) fLen) (gC (.int 0))) fEq) (sRet (gC (.bl true))) sNil)
    (sSeq (sSet md_law_give 9 (gSeq (gSeq (gVar 8) (gSeq (gSeq (gVar 10) (gSeq (gSeq (gVar 8) gNil) fLen)) fMod)) fIxA))
    (sSeq (sExpr (gSeq (gVar 0) (gSeq (chkI 1) (gSeq (gSeq (gVar 9) (gSeq (gSeq (gSeq (gVar 7) (gVar 9)) fIxA) gNil)) (gCall [0] md_Image_give G_Image_give 3)))))
    (sSeq (sSubA (gC (.int 0)) (gVar 4) (gVar 9))
    (sSeq (sSubA (gC (.int 0)) (gVar 5) (gVar 9))
    (sSeq (sSubA (gC (.int 0)) (gVar 6) (gVar 9))
    (sSeq (sFor (gSeq (gSeq (gC (.int 0)) (gSeq (gSeq (gSeq (gC (.int 2)) (gSeq (gSeq (gVar 9) (gC (.int 8))) fDiv)) fAdd) gNil)) (fNew .lst 2)) (bind md_law_give 11) b_law_give_1)
    (sRet (gC (.bl true)))))))))))))
def G_law_give : GF := runF md_law_give 12 g_law_give
theorem sim_law_give (T : Txt K mg) : FnOk P w K mg base (L2N.CX P w) 4 T.a_law_give T.fd_law_give ["_law_image", "_law_book", "_law_feed_here", "_law_serial"] (spOf (kcm K (kt P w T)) md_law_give G_law_give) :=
  fn_sim T.F_law_give sc_law_give rfl (by decide) fun cdv A outer s H E hr =>
  (mss_cons (ms_asg (me_var (pv 1)) (mg_unp (is := [4, 5, 6, 7]) (pg_tup (by rfl) (pgs_cons (pg_name (i := 4) sc_law_give.nd rfl (Or.inr rfl)) (pgs_cons (pg_name (i := 5) sc_law_give.nd rfl (Or.inl rfl)) (pgs_cons (pg_name (i := 6) sc_law_give.nd rfl (Or.inl rfl)) (pgs_cons (pg_name (i := 7) sc_law_give.nd rfl (Or.inl rfl)) pgs_nil))))) (pg_lst (by rfl) (pgs_cons (pg_name (i := 4) sc_law_give.nd rfl (Or.inr rfl)) (pgs_cons (pg_name (i := 5) sc_law_give.nd rfl (Or.inl rfl)) (pgs_cons (pg_name (i := 6) sc_law_give.nd rfl (Or.inl rfl)) (pgs_cons (pg_name (i := 7) sc_law_give.nd rfl (Or.inl rfl)) pgs_nil)))))) (fun a b => ps_asg a b))
    (mss_cons (ms_clr (i := 9) (ms_lcR2 (ma_cons (me_c pe_int) (ma_cons (me_c pe_int) ma_nil)) (blkOk_by (own := [("_law_x", 9)]) (N := N_law_give) (sc := defScope s_law_give) (by decide +kernel)) (fun _ _ _ _ _ => pg_name (i := 9) sc_law_give.nd rfl (Or.inl rfl)) (fun _ _ _ _ _ => (mt_cmp (OpR.or op_ne (op_neD hr.units)) fNe_ok (me_ixA hr.units (me_var (pv 4)) (me_var (pv 9)) (fun _ _ => rfl)) (me_c pe_int) (nomark _))) (fun _ _ _ _ _ => (me_var (pv 9))) rfl T.n_range rfl sc_law_give.nd rfl rfl (sw_true rfl rfl rfl (by decide +kernel))))
    (mss_cons (ms_set (i := 10) sc_law_give.nd rfl (Or.inl rfl) (me_call (is := [0]) (sim_law_pick T) (hr.mono (by decide)) (takes_of rfl rfl rfl rfl) rfl T.m_law_pick T.F_law_pick.kp T.b_law_pick (ma_cons (me_var (pv 2)) (ma_cons (me_c pe_int) ma_nil)) (by decide) (by decide)))
    (mss_cons (ms_if (mt_cmp (OpR.or op_eq (op_eqD hr.units)) fEq_ok (me_callB (CallR.or call_len call_lenR) fLen_ok (by rfl) T.n_len (by decide +kernel) (ma_cons (me_var (pv 8)) ma_nil)) (me_c pe_int) (nomark _)) (mss_one (ms_ret (me_c pe_bl)))
    mss_nil)
    (mss_cons (ms_set (i := 9) sc_law_give.nd rfl (Or.inl rfl) (me_ixA hr.units (me_var (pv 8)) (me_mod (me_var (pv 10)) (me_callB (CallR.or call_len call_lenR) fLen_ok (by rfl) T.n_len (by decide +kernel) (ma_cons (me_var (pv 8)) ma_nil))) (fun _ _ => rfl)))
    (mss_cons (ms_expr (me_meth (is := [0]) (n := 1) (me_var (pv 0)) T.C_Image T.m_Image_give (show (cnm 1).idxOf? ("give" : Str) = none by decide +kernel) (sim_Image_give T) (hr.mono (by decide)) (takes_of rfl rfl rfl rfl) T.b_Image_give (ma_cons (me_var (pv 9)) (ma_cons (me_ixA hr.units (me_var (pv 7)) (me_var (pv 9)) (fun _ _ => rfl)) ma_nil)) (by decide) (by decide)))
    (mss_cons (ms_subA (me_c pe_int) (me_var (pv 4)) (me_var (pv 9)) (fun a b c => ps_asg c (pg_sub a b (set_A hr.units))))
    (mss_cons (ms_subA (me_c pe_int) (me_var (pv 5)) (me_var (pv 9)) (fun a b c => ps_asg c (pg_sub a b (set_A hr.units))))
    (mss_cons (ms_subA (me_c pe_int) (me_var (pv 6)) (me_var (pv 9)) (fun a b c => ps_asg c (pg_sub a b (set_A hr.units))))
    (mss_cons (ms_for (me_lst (ma_cons (me_c pe_int) (ma_cons (me_add (me_c pe_int) (me_div (me_var (pv 9)) (me_c pe_int))) ma_nil)) (by show 2 ≤ sizeLine; decide)) (mg_name (i := 11) sc_law_give.nd rfl (Or.inl rfl))
    (mss_one (ms_subA (me_var (pv 3)) (me_var (pv 6)) (me_var (pv 11)) (fun a b c => ps_asg c (pg_sub a b (set_A hr.units))))) (passes_of rfl) rfl)
    (mss_one (ms_ret (me_c pe_bl)))))))))))))
abbrev md_law_change : List Bool := [true, true, true, false]
def t_law_change_1 : GE := (gSeq (gSeq (gSeq (gSeq (gVar 4) (gVar 9)) fIxA) (gC (.int 0))) fNe)
def e_law_change_1 : GE := (gVar 9)
def g_law_change : GS := (sSeq (sAsg (gVar 1) (unpk md_law_change [4, 5, 6, 7]))
    (sSeq (sClr 9 (sSet md_law_change 8 (gLcR2 [9] (gSeq (gC (.int 5)) (gSeq (gC (.int 24)) gNil)) (bind md_law_change 9) t_law_change_1 e_law_change_1)))
    (sSeq (sSet md_law_change 9 (gSeq (gSeq (gVar 8) (gSeq (gSeq (gSeq (gSeq (gVar 2) (gSeq (gC (.int 19)) gNil)) (gCall [0] md_law_pick G_law_pick 2)) (gSeq (gSeq (gVar 8) gNil) fLen)) fMod)) fIxA))
    (sSeq (sSet md_law_change 10 (gSeq (gSeq (gVar 2) (gSeq (gC (.int 8)) gNil)) (gCall [0] md_law_pick G_law_pick 2)))
    (sSeq (sSet md_law_change 11 (gSeq (gSeq (gSeq (gVar 0) (fFld tab_cells)) (gVar 9)) fIxA))
    (sSeq (sSet md_law_change 12 (gSeq (gSeq (gVar 11) (gVar 10)) fIxA))
    (sSeq (sSubA (gSeq (gSeq (gVar 2) (gSeq (gC (.int 3)) gNil)) (gCall [0] md_law_pick G_law_pick 2)) (gVar 11) (gVar 10))
    (sSeq (sIf (gSeq (gSeq (gSeq (gSeq (gVar 11) (gVar 10)) fIxA) (gVar 12)) fNe) (sSubA (gVar 3) (gVar 6) (gVar 9)) sNil)
    (sRet (gC (.bl true)))))))))))
def G_law_change : GF := runF md_law_change 13 g_law_change
theorem sim_law_change (T : Txt K mg) : FnOk P w K mg base (L2N.CX P w) 2 T.a_law_change T.fd_law_change ["_law_image", "_law_book", "_law_feed_here", "_law_serial"] (spOf (kcm K (kt P w T)) md_law_change G_law_change) :=
  fn_sim T.F_law_change sc_law_change rfl (by decide) fun cdv A outer s H E hr =>
  (mss_cons (ms_asg (me_var (pv 1)) (mg_unp (is := [4, 5, 6, 7]) (pg_tup (by rfl) (pgs_cons (pg_name (i := 4) sc_law_change.nd rfl (Or.inr rfl)) (pgs_cons (pg_name (i := 5) sc_law_change.nd rfl (Or.inl rfl)) (pgs_cons (pg_name (i := 6) sc_law_change.nd rfl (Or.inl rfl)) (pgs_cons (pg_name (i := 7) sc_law_change.nd rfl (Or.inl rfl)) pgs_nil))))) (pg_lst (by rfl) (pgs_cons (pg_name (i := 4) sc_law_change.nd rfl (Or.inr rfl)) (pgs_cons (pg_name (i := 5) sc_law_change.nd rfl (Or.inl rfl)) (pgs_cons (pg_name (i := 6) sc_law_change.nd rfl (Or.inl rfl)) (pgs_cons (pg_name (i := 7) sc_law_change.nd rfl (Or.inl rfl)) pgs_nil)))))) (fun a b => ps_asg a b))
    (mss_cons (ms_clr (i := 9) (ms_lcR2 (ma_cons (me_c pe_int) (ma_cons (me_c pe_int) ma_nil)) (blkOk_by (own := [("_law_x", 9)]) (N := N_law_change) (sc := defScope s_law_change) (by decide +kernel)) (fun _ _ _ _ _ => pg_name (i := 9) sc_law_change.nd rfl (Or.inl rfl)) (fun _ _ _ _ _ => (mt_cmp (OpR.or op_ne (op_neD hr.units)) fNe_ok (me_ixA hr.units (me_var (pv 4)) (me_var (pv 9)) (fun _ _ => rfl)) (me_c pe_int) (nomark _))) (fun _ _ _ _ _ => (me_var (pv 9))) rfl T.n_range rfl sc_law_change.nd rfl rfl (sw_true rfl rfl rfl (by decide +kernel))))
    (mss_cons (ms_set (i := 9) sc_law_change.nd rfl (Or.inl rfl) (me_ixA hr.units (me_var (pv 8)) (me_mod (me_call (is := [0]) (sim_law_pick T) (hr.mono (by decide)) (takes_of rfl rfl rfl rfl) rfl T.m_law_pick T.F_law_pick.kp T.b_law_pick (ma_cons (me_var (pv 2)) (ma_cons (me_c pe_int) ma_nil)) (by decide) (by decide)) (me_callB (CallR.or call_len call_lenR) fLen_ok (by rfl) T.n_len (by decide +kernel) (ma_cons (me_var (pv 8)) ma_nil))) (fun _ _ => rfl)))
    (mss_cons (ms_set (i := 10) sc_law_change.nd rfl (Or.inl rfl) (me_call (is := [0]) (sim_law_pick T) (hr.mono (by decide)) (takes_of rfl rfl rfl rfl) rfl T.m_law_pick T.F_law_pick.kp T.b_law_pick (ma_cons (me_var (pv 2)) (ma_cons (me_c pe_int) ma_nil)) (by decide) (by decide)))
    (mss_cons (ms_set (i := 11) sc_law_change.nd rfl (Or.inl rfl) (me_ixA hr.units (me_fld (me_var (pv 0)) (fo_cells T)) (me_var (pv 9)) (fun _ _ => rfl)))
    (mss_cons (ms_set (i := 12) sc_law_change.nd rfl (Or.inl rfl) (me_ixA hr.units (me_var (pv 11)) (me_var (pv 10)) (fun _ _ => rfl)))
    (mss_cons (ms_subA (me_call (is := [0]) (sim_law_pick T) (hr.mono (by decide)) (takes_of rfl rfl rfl rfl) rfl T.m_law_pick T.F_law_pick.kp T.b_law_pick (ma_cons (me_var (pv 2)) (ma_cons (me_c pe_int) ma_nil)) (by decide) (by decide)) (me_var (pv 11)) (me_var (pv 10)) (fun a b c => ps_asg c (pg_sub a b (set_A hr.units))))
    (mss_cons (ms_if (mt_cmp (OpR.or op_ne (op_neD hr.units)) fNe_ok (me_ixA hr.units (me_var (pv 11)) (me_var (pv 10)) (fun _ _ => rfl)) (me_var (pv 12)) (nomark _)) (mss_one (ms_subA (me_var (pv 3)) (me_var (pv 6)) (me_var (pv 9)) (fun a b c => ps_asg c (pg_sub a b (set_A hr.units)))))
    mss_nil)
    (mss_one (ms_ret (me_c pe_bl)))))))))))
abbrev md_Image_of_cells : List Bool := [false, false]
def e_Image_of_cells_1 : GE := (gSeq (gSeq (gVar 3) gNil) fLst)
def b_Image_of_cells_1 : GS := (sIf (gSeq (gSeq (gSeq (gVar 2) (gSeq (chkI 1) (gSeq (gSeq (gVar 4) gNil) (gCall [] md_Image_kind G_Image_kind 2)))) (gC (.int 0))) fEq) (sSubA (gSeq (gSeq (gSeq (gSeq (gC (.int 0)) gNil) (fNew .lst 1)) (gC (.int 8))) fMul) (gSeq (gVar 2) (fFld tab_cells)) (gVar 4)) (sSeq (sSubA (gC (.int 1)) (gSeq (gVar 2) (fFld tab_holdings)) (gVar 4))
    (sSubA (gC (.int 1)) (gSeq (gVar 2) (fFld tab_stamps)) (gVar 4))))
def g_Image_of_cells : GS := (sSeq (sSet md_Image_of_cells 2 (gSeq (gSeq (gVar 0) gNil) (noEx (gMake 1 (md_Image_init).tail G_Image_init 1))))
    (sSeq (sFldS tab_serial (gC (.int 1)) (gVar 2))
    (sSeq (sFldS tab_cells (gLc [3] (gVar 1) (bind md_Image_of_cells 3) (gC (.bl true)) e_Image_of_cells_1) (gVar 2))
    (sSeq (sForR1 (gSeq (gSeq (gVar 0) (fFld tab_blocks)) gNil) (bind md_Image_of_cells 4) b_Image_of_cells_1)
    (sRet (gSeq (gVar 2) (fMv md_Image_of_cells)))))))
def G_Image_of_cells : GF := runF md_Image_of_cells 5 g_Image_of_cells
theorem sim_Image_of_cells (T : Txt K mg) : FnOk P w K mg base (L2N.CX P w) 3 T.a_Image_of_cells T.fd_Image_of_cells ["plan", "rows"] (spOf (kcm K (kt P w T)) md_Image_of_cells G_Image_of_cells) :=
  fn_sim T.F_Image_of_cells sc_Image_of_cells rfl (by decide) fun cdv A outer s H E hr =>
  (mss_cons (ms_set (i := 2) sc_Image_of_cells.nd rfl (Or.inl rfl) (me_make (n := 1) T.m_Image_init (sim_Image_init T) (hr.mono (by decide)) rfl T.g_Image T.b_Image_init (ma_cons (me_var (pv 0)) ma_nil)))
    (mss_cons (ms_fld (me_c pe_int) (me_var (pv 2)) (fo_serial T))
    (mss_cons (ms_fld (me_lc0 (me_var (pv 1)) (blkOk_by (own := [("row", 3)]) (N := N_Image_of_cells) (sc := defScope s_Image_of_cells) (by decide +kernel)) (fun _ _ _ _ _ => pg_name (i := 3) sc_Image_of_cells.nd rfl (Or.inl rfl)) (fun _ _ _ _ _ => (me_callTy call_list_of fLst_ok (by rfl) T.n_list (by decide +kernel) (ma_cons (me_var (pv 3)) ma_nil))) rfl sc_Image_of_cells.nd) (me_var (pv 2)) (fo_cells T))
    (mss_cons (ms_forR1 (ma_cons (me_fld (me_var (pv 0)) (fo_blocks T)) ma_nil) (mg_name (i := 4) sc_Image_of_cells.nd rfl (Or.inl rfl))
    (mss_one (ms_if (mt_cmp (OpR.or op_eq (op_eqD hr.units)) fEq_ok (me_meth (is := []) (n := 1) (me_var (pv 2)) T.C_Image T.m_Image_kind (show (cnm 1).idxOf? ("kind" : Str) = none by decide +kernel) (sim_Image_kind T) (hr.mono (by decide)) (takes_of rfl rfl rfl rfl) T.b_Image_kind (ma_cons (me_var (pv 4)) ma_nil) (by decide) (by decide)) (me_cval (pe_glob (v := .ref T.c_Plan) rfl T.g_Plan rfl) T.r_Plan T.k_Plan_FREE) (nomark _)) (mss_one (ms_subA (me_mul (me_lst (ma_cons (me_c pe_int) ma_nil) (by show 1 ≤ sizeLine; decide)) (me_c pe_int)) (me_fld (me_var (pv 2)) (fo_cells T)) (me_var (pv 4)) (fun a b c => ps_asg c (pg_sub a b (set_A hr.units)))))
    (mss_cons (ms_subA (me_c pe_int) (me_fld (me_var (pv 2)) (fo_holdings T)) (me_var (pv 4)) (fun a b c => ps_asg c (pg_sub a b (set_A hr.units))))
    (mss_one (ms_subA (me_c pe_int) (me_fld (me_var (pv 2)) (fo_stamps T)) (me_var (pv 4)) (fun a b c => ps_asg c (pg_sub a b (set_A hr.units)))))))) rfl T.n_range (passes_of rfl) rfl)
    (mss_one (ms_ret (me_mv (me_var (pv 2)))))))))
abbrev md_Plan_node_block : List Bool := [false, false]
def g_Plan_node_block : GS := (sRet (gSeq (gSeq (gSeq (gSeq (gSeq (gVar 0) (fFld tab_first_node)) (gVar 1)) fAdd) (gC (.int 1))) fSub))
def G_Plan_node_block : GF := runF md_Plan_node_block 2 g_Plan_node_block
theorem sim_Plan_node_block (T : Txt K mg) : FnOk P w K mg base (L2N.CX P w) 1 T.a_Plan_node_block T.fd_Plan_node_block ["self", "n"] (spOf (kcm K (kt P w T)) md_Plan_node_block G_Plan_node_block) :=
  fn_sim T.F_Plan_node_block sc_Plan_node_block rfl (by decide) fun cdv A outer s H E hr =>
  (mss_one (ms_ret (me_sub (me_add (me_fld (me_var (pv 0)) (fo_first_node T)) (me_var (pv 1))) (me_c pe_int))))
abbrev md_Image_fresh : List Bool := [false]
def e_Image_fresh_1 : GE := (gSeq (gSeq (gSeq (gSeq (gC (.int 0)) gNil) (fNew .lst 1)) (gC (.int 8))) fMul)
def b_Image_fresh_1 : GS := (sSeq (sAsg (gSeq (gVar 0) (gSeq (chkI 0) (gSeq (gSeq (gVar 2) gNil) (gCall [] md_Plan_map_place G_Plan_map_place 2)))) (unpk md_Image_fresh [3, 4]))
    (sSubA (gC (.int 1)) (gSeq (gSeq (gVar 1) (gVar 3)) fIxA) (gVar 4)))
def g_Image_fresh : GS := (sSeq (sClr 2 (sSet md_Image_fresh 1 (gLcR1 [2] (gSeq (gSeq (gVar 0) (fFld tab_blocks)) gNil) (bind md_Image_fresh 2) (gC (.bl true)) e_Image_fresh_1)))
    (sSeq (sForR1 (gSeq (gSeq (gVar 0) (fFld tab_first_data)) gNil) (bind md_Image_fresh 2) b_Image_fresh_1)
    (sSeq (sSet md_Image_fresh 5 (gSeq (gSeq (gVar 1) (gSeq (gVar 0) (gSeq (chkI 0) (gSeq (gSeq (gC (.int 1)) gNil) (gCall [] md_Plan_node_block G_Plan_node_block 2))))) fIxA))
    (sSeq (sSubA (gC (.int 2)) (gVar 5) (gC (.int 0)))
    (sSeq (sSubA (gC (.int 1)) (gVar 5) (gC (.int 1)))
    (sSeq (sSubA (gC (.int 1)) (gVar 5) (gC (.int 7)))
    (sRet (gSeq (gSeq (gVar 0) (gSeq (gVar 1) gNil)) (noEx (gCall [] md_Image_of_cells G_Image_of_cells 2))))))))))
def G_Image_fresh : GF := runF md_Image_fresh 6 g_Image_fresh
theorem sim_Image_fresh (T : Txt K mg) : FnOk P w K mg base (L2N.CX P w) 4 T.a_Image_fresh T.fd_Image_fresh ["plan"] (spOf (kcm K (kt P w T)) md_Image_fresh G_Image_fresh) :=
  fn_sim T.F_Image_fresh sc_Image_fresh rfl (by decide) fun cdv A outer s H E hr =>
  (mss_cons (ms_clr (i := 2) (ms_lcR10 (ma_cons (me_fld (me_var (pv 0)) (fo_blocks T)) ma_nil) (blkOk_by (own := [("x", 2)]) (N := N_Image_fresh) (sc := defScope s_Image_fresh) (by decide +kernel)) (fun _ _ _ _ _ => pg_name (i := 2) sc_Image_fresh.nd rfl (Or.inl rfl)) (fun _ _ _ _ _ => (me_mul (me_lst (ma_cons (me_c pe_int) ma_nil) (by show 1 ≤ sizeLine; decide)) (me_c pe_int))) rfl T.n_range rfl sc_Image_fresh.nd rfl rfl (sw_true rfl rfl rfl (by decide +kernel))))
    (mss_cons (ms_forR1 (ma_cons (me_fld (me_var (pv 0)) (fo_first_data T)) ma_nil) (mg_name (i := 2) sc_Image_fresh.nd rfl (Or.inl rfl))
    (mss_cons (ms_asg (me_meth (is := []) (n := 0) (me_var (pv 0)) T.C_Plan T.m_Plan_map_place (show (cnm 0).idxOf? ("map_place" : Str) = none by decide +kernel) (sim_Plan_map_place T) (hr.mono (by decide)) (takes_of rfl rfl rfl rfl) T.b_Plan_map_place (ma_cons (me_var (pv 2)) ma_nil) (by decide) (by decide)) (mg_unp (is := [3, 4]) (pg_tup (by rfl) (pgs_cons (pg_name (i := 3) sc_Image_fresh.nd rfl (Or.inl rfl)) (pgs_cons (pg_name (i := 4) sc_Image_fresh.nd rfl (Or.inl rfl)) pgs_nil))) (pg_lst (by rfl) (pgs_cons (pg_name (i := 3) sc_Image_fresh.nd rfl (Or.inl rfl)) (pgs_cons (pg_name (i := 4) sc_Image_fresh.nd rfl (Or.inl rfl)) pgs_nil)))) (fun a b => ps_asg a b))
    (mss_one (ms_subA (me_cval (pe_glob (v := .ref T.c_Plan) rfl T.g_Plan rfl) T.r_Plan T.k_Plan_LOGGED) (me_ixA hr.units (me_var (pv 1)) (me_var (pv 3)) (fun _ _ => rfl)) (me_var (pv 4)) (fun a b c => ps_asg c (pg_sub a b (set_A hr.units)))))) rfl T.n_range (passes_of rfl) rfl)
    (mss_cons (ms_set (i := 5) sc_Image_fresh.nd rfl (Or.inl rfl) (me_ixA hr.units (me_var (pv 1)) (me_meth (is := []) (n := 0) (me_var (pv 0)) T.C_Plan T.m_Plan_node_block (show (cnm 0).idxOf? ("node_block" : Str) = none by decide +kernel) (sim_Plan_node_block T) (hr.mono (by decide)) (takes_of rfl rfl rfl rfl) T.b_Plan_node_block (ma_cons (me_c (pe_glob (v := .int 1) rfl T.g_ROOT ⟨_, rfl⟩)) ma_nil) (by decide) (by decide)) (fun _ _ => rfl)))
    (mss_cons (ms_subA (me_c (pe_glob (v := .int 2) rfl T.g_FOLDER ⟨_, rfl⟩)) (me_var (pv 5)) (me_c (pe_glob (v := .int 0) rfl T.g_KIND ⟨_, rfl⟩)) (fun a b c => ps_asg c (pg_sub a b (set_A hr.units))))
    (mss_cons (ms_subA (me_c pe_int) (me_var (pv 5)) (me_c (pe_glob (v := .int 1) rfl T.g_LINKS ⟨_, rfl⟩)) (fun a b c => ps_asg c (pg_sub a b (set_A hr.units))))
    (mss_cons (ms_subA (me_c pe_int) (me_var (pv 5)) (me_c (pe_glob (v := .int 7) rfl T.g_MAKING ⟨_, rfl⟩)) (fun a b c => ps_asg c (pg_sub a b (set_A hr.units))))
    (mss_one (ms_ret (me_smeth (is := []) (pe_glob (v := .ref T.c_Image) rfl T.g_Image rfl) T.m_Image_of_cells (sim_Image_of_cells T) (hr.mono (by decide)) T.b_Image_of_cells (ma_cons (me_var (pv 0)) (ma_cons (me_var (pv 1)) ma_nil)) (by decide) (by decide))))))))))
abbrev md_Plan_init : List Bool := [true, false, false, false]
def g_Plan_init : GS := (sSeq (sIf (gNot (gChain (gC (.int 8)) (gVar 1) fLe (gC (.int 64)) fLe)) (sRaise 0) sNil)
    (sSeq (sIf (gNot (gChain (gC (.int 2)) (gVar 2) fLe (gC (.int 16)) fLe)) (sRaise 0) sNil)
    (sSeq (sIf (gNot (gChain (gVar 1) (gVar 3) fLt (gC (.int 200)) fLe)) (sRaise 0) sNil)
    (sSeq (sSet md_Plan_init 4 (gSeq (gSeq (gSeq (gSeq (gVar 1) (gC (.int 7))) fAdd) (gC (.int 8))) fDiv))
    (sSeq (sIf (gSeq (gSeq (gSeq (gSeq (gSeq (gSeq (gSeq (gSeq (gC (.int 2)) (gVar 4)) fAdd) (gVar 2)) fAdd) (gC (.int 2))) fAdd) (gVar 1)) fGt) (sRaise 0) sNil)
    (sSeq (sFldS tab_blocks (gVar 1) (gVar 0))
    (sSeq (sFldS tab_nodes (gVar 2) (gVar 0))
    (sSeq (sFldS tab_slots (gVar 3) (gVar 0))
    (sSeq (sFldS tab_maps (gSeq (gVar 4) (fMv md_Plan_init)) (gVar 0))
    (sSeq (sFldS tab_first_node (gSeq (gSeq (gC (.int 2)) (gVar 4)) fAdd) (gVar 0))
    (sFldS tab_first_data (gSeq (gSeq (gSeq (gSeq (gC (.int 2)) (gVar 4)) fAdd) (gVar 2)) fAdd) (gVar 0))))))))))))
def G_Plan_init : GF := runF md_Plan_init 5 g_Plan_init
theorem sim_Plan_init (T : Txt K mg) : FnOk P w K mg base (L2N.CX P w) 1 T.a_Plan_init T.fd_Plan_init ["self", "blocks", "nodes", "slots"] (spOf (kcm K (kt P w T)) md_Plan_init G_Plan_init) :=
  fn_sim T.F_Plan_init sc_Plan_init rfl (by decide) fun cdv A outer s H E hr =>
  (mss_cons (ms_if (mt_not (mt_chain (me_c pe_int) (me_var (pv 1)) fI_ok0 (me_c pe_int) fI_ok0 (fun a b c => pt_chain op_le op_le a b c))) (mss_one (ms_raise (n := 0) rfl (takes_of rfl rfl rfl rfl) (pmk_own PySem.F.excBase_ValueError T.x_BadValue T.g_BadValue T.k_BadValue (raises_own T.sb_BadValue T.ty_BadValue) rfl)))
    mss_nil)
    (mss_cons (ms_if (mt_not (mt_chain (me_c pe_int) (me_var (pv 2)) fI_ok0 (me_c pe_int) fI_ok0 (fun a b c => pt_chain op_le op_le a b c))) (mss_one (ms_raise (n := 0) rfl (takes_of rfl rfl rfl rfl) (pmk_own PySem.F.excBase_ValueError T.x_BadValue T.g_BadValue T.k_BadValue (raises_own T.sb_BadValue T.ty_BadValue) rfl)))
    mss_nil)
    (mss_cons (ms_if (mt_not (mt_chain (me_var (pv 1)) (me_var (pv 3)) fI_ok0 (me_c pe_int) fI_ok0 (fun a b c => pt_chain op_lt op_le a b c))) (mss_one (ms_raise (n := 0) rfl (takes_of rfl rfl rfl rfl) (pmk_own PySem.F.excBase_ValueError T.x_BadValue T.g_BadValue T.k_BadValue (raises_own T.sb_BadValue T.ty_BadValue) rfl)))
    mss_nil)
    (mss_cons (ms_set (i := 4) sc_Plan_init.nd rfl (Or.inl rfl) (me_div (me_add (me_var (pv 1)) (me_c pe_int)) (me_c pe_int)))
    (mss_cons (ms_if (mt_cmp op_gt fI_ok0 (me_add (me_add (me_add (me_c pe_int) (me_var (pv 4))) (me_var (pv 2))) (me_c pe_int)) (me_var (pv 1)) (nomark _)) (mss_one (ms_raise (n := 0) rfl (takes_of rfl rfl rfl rfl) (pmk_own PySem.F.excBase_ValueError T.x_BadValue T.g_BadValue T.k_BadValue (raises_own T.sb_BadValue T.ty_BadValue) rfl)))
    mss_nil)
    (mss_cons (ms_fld (me_var (pv 1)) (me_var (pv 0)) (fo_blocks T))
    (mss_cons (ms_fld (me_var (pv 2)) (me_var (pv 0)) (fo_nodes T))
    (mss_cons (ms_fld (me_var (pv 3)) (me_var (pv 0)) (fo_slots T))
    (mss_cons (ms_fld (me_mv (me_var (pv 4))) (me_var (pv 0)) (fo_maps T))
    (mss_cons (ms_fld (me_add (me_c pe_int) (me_var (pv 4))) (me_var (pv 0)) (fo_first_node T))
    (mss_one (ms_fld (me_add (me_add (me_c pe_int) (me_var (pv 4))) (me_var (pv 2))) (me_var (pv 0)) (fo_first_data T)))))))))))))
abbrev md_Image_settle : List Bool := [true, false]
def b_Image_settle_1 : GS := (sIf (gSeq (gSeq (gSeq (gSeq (gSeq (gVar 0) (fFld tab_holdings)) (gVar 2)) fIxA) (gSeq (gVar 0) (fFld tab_serial))) fEq) (sSubA (gSeq (gVar 0) (fFld tab_serial)) (gSeq (gVar 0) (fFld tab_stamps)) (gVar 2)) (sIf (gAnd (gSeq (gSeq (gSeq (gSeq (gSeq (gVar 0) (fFld tab_holdings)) (gVar 2)) fIxA) (gC (.int 0))) fNe) (gSeq (gSeq (gSeq (gSeq (gSeq (gVar 0) (fFld tab_cells)) (gVar 2)) fIxA) (gSeq (gSeq (gSeq (gVar 1) (fFld tab_cells)) (gVar 2)) fIxA)) fNe)) (sSubA (gSeq (gVar 0) (fFld tab_serial)) (gSeq (gVar 0) (fFld tab_stamps)) (gVar 2)) sNil))
def g_Image_settle : GS := (sForR1 (gSeq (gSeq (gSeq (gVar 0) (fFld tab_plan)) (fFld tab_blocks)) gNil) (bind md_Image_settle 2) b_Image_settle_1)
def G_Image_settle : GF := runF md_Image_settle 3 g_Image_settle
theorem sim_Image_settle (T : Txt K mg) : FnOk P w K mg base (L2N.CX P w) 1 T.a_Image_settle T.fd_Image_settle ["self", "before"] (spOf (kcm K (kt P w T)) md_Image_settle G_Image_settle) :=
  fn_sim T.F_Image_settle sc_Image_settle rfl (by decide) fun cdv A outer s H E hr =>
  (mss_one (ms_forR1 (ma_cons (me_fld (me_fld (me_var (pv 0)) (fo_plan T)) (fo_blocks T)) ma_nil) (mg_name (i := 2) sc_Image_settle.nd rfl (Or.inl rfl))
    (mss_one (ms_if (mt_cmp (OpR.or op_eq (op_eqD hr.units)) fEq_ok (me_ixA hr.units (me_fld (me_var (pv 0)) (fo_holdings T)) (me_var (pv 2)) (fun _ _ => rfl)) (me_fld (me_var (pv 0)) (fo_serial T)) (nomark _)) (mss_one (ms_subA (me_fld (me_var (pv 0)) (fo_serial T)) (me_fld (me_var (pv 0)) (fo_stamps T)) (me_var (pv 2)) (fun a b c => ps_asg c (pg_sub a b (set_A hr.units)))))
    (mss_one (ms_if (mw_pt (mw_and (mt_cmp (OpR.or op_ne (op_neD hr.units)) fNe_ok (me_ixA hr.units (me_fld (me_var (pv 0)) (fo_holdings T)) (me_var (pv 2)) (fun _ _ => rfl)) (me_c pe_int) (nomark _)) (mw_and1 (mt_cmp (OpR.or op_ne (op_neD hr.units)) fNe_ok (me_ixA hr.units (me_fld (me_var (pv 0)) (fo_cells T)) (me_var (pv 2)) (fun _ _ => rfl)) (me_ixA hr.units (me_fld (me_var (pv 1)) (fo_cells T)) (me_var (pv 2)) (fun _ _ => rfl)) (nomark _))))) (mss_one (ms_subA (me_fld (me_var (pv 0)) (fo_serial T)) (me_fld (me_var (pv 0)) (fo_stamps T)) (me_var (pv 2)) (fun a b c => ps_asg c (pg_sub a b (set_A hr.units)))))
    mss_nil)))) rfl T.n_range (passes_of rfl) rfl))
abbrev md_Image_begin : List Bool := [true, false, false]
def g_Image_begin : GS := (sSeq (sFAug tab_serial (gVar 0) (gC (.int 1)) fAddI)
    (sSeq (sFldS tab_wish (gVar 1) (gVar 0))
    (sFldS tab_barred (gSeq (gSeq (gVar 2) gNil) fTup) (gVar 0))))
def G_Image_begin : GF := runF md_Image_begin 3 g_Image_begin
theorem sim_Image_begin (T : Txt K mg) : FnOk P w K mg base (L2N.CX P w) 1 T.a_Image_begin T.fd_Image_begin ["self", "wish", "barred"] (spOf (kcm K (kt P w T)) md_Image_begin G_Image_begin) :=
  fn_sim T.F_Image_begin sc_Image_begin rfl (by decide) fun cdv A outer s H E hr =>
  (mss_cons (ms_faug (me_var (pv 0)) (me_c pe_int) (fo_serial T) fAddI_r (fun a b => ps_fldaug a b in_add))
    (mss_cons (ms_fld (me_var (pv 1)) (me_var (pv 0)) (fo_wish T))
    (mss_one (ms_fld (me_callTy call_tuple_of fTup_ok (by rfl) T.n_tuple (by decide +kernel) (ma_cons (me_var (pv 2)) ma_nil)) (me_var (pv 0)) (fo_barred T)))))
abbrev md_law_history : List Bool := [true, false]
def e_law_history_1 : GE := (gSeq (gSeq (gSeq (gSeq (gVar 4) (gC (.int 10))) fLt) gNil) fInt)
def b_law_history_1 : GS := (sSeq (sSet md_law_history 8 (gSeq (gVar 2) (gSeq (chkI 1) (gCall [] md_Image_twin G_Image_twin 1))))
    (sSeq (sSet md_law_history 9 (gSeq (gSeq (gVar 0) (gSeq (gC (.int 64)) gNil)) (gCall [0] md_law_pick G_law_pick 2)))
    (sSeq (sExpr (gSeq (gVar 2) (gSeq (chkI 1) (gSeq (gSeq (gVar 9) (gSeq (gSeq gNil (fNew .tup 0)) gNil)) (gCall [0] md_Image_begin G_Image_begin 3)))))
    (sSeq (sSet md_law_history 10 (gSeq (gSeq (gVar 0) (gSeq (gC (.int 8)) gNil)) (gCall [0] md_law_pick G_law_pick 2)))
    (sSeq (sIf (gSeq (gSeq (gVar 10) (gC (.int 4))) fLt) (sSet md_law_history 11 (gSeq (gSeq (gVar 2) (gSeq (gVar 5) (gSeq (gVar 0) (gSeq (gSeq (gSeq (gC (.int 2)) (gVar 7)) fAdd) (gSeq (gVar 9) gNil))))) (gCall [0, 1, 2] md_law_take G_law_take 5))) (sIf (gSeq (gSeq (gVar 10) (gC (.int 6))) fLt) (sSet md_law_history 11 (gSeq (gSeq (gVar 2) (gSeq (gVar 5) (gSeq (gVar 0) (gSeq (gSeq (gSeq (gC (.int 2)) (gVar 7)) fAdd) gNil)))) (gCall [0, 1, 2] md_law_give G_law_give 4))) (sSet md_law_history 11 (gSeq (gSeq (gVar 2) (gSeq (gVar 5) (gSeq (gVar 0) (gSeq (gSeq (gSeq (gC (.int 2)) (gVar 7)) fAdd) gNil)))) (gCall [0, 1, 2] md_law_change G_law_change 4)))))
    (sSeq (sExpr (gSeq (gVar 2) (gSeq (chkI 1) (gSeq (gSeq (gVar 8) gNil) (gCall [0] md_Image_settle G_Image_settle 2)))))
    (sSeq (sIf (gNot (gVar 11)) (sRet (gSeq gNil (fNew .lst 0))) sNil)
    (sExpr (gSeq (gVar 6) (gSeq chkL (gSeq (gSeq (gSeq (gSeq (gVar 2) (gSeq (gVar 5) gNil)) (gCall [] md_law_moment G_law_moment 2)) gNil) fApp)))))))))))
def g_law_history : GS := (sSeq (sSet md_law_history 2 (gSeq (gSeq (gSeq (gSeq (gSeq (gC (.int 24)) gNil) (gSeq (gSeq (gC (.int 5)) (gSeq (gC (.int 30)) gNil)) (noEx (gMake 0 (md_Plan_init).tail G_Plan_init 3)))) fFrz) gNil) (noEx (gCall [] md_Image_fresh G_Image_fresh 1))))
    (sSeq (sSet md_law_history 3 (gLcR1 [4] (gSeq (gC (.int 24)) gNil) (bind md_law_history 4) (gC (.bl true)) e_law_history_1))
    (sSeq (sSet md_law_history 5 (gSeq (gSeq (gSeq (gVar 3) (gSeq (gSeq (gSeq (gVar 3) gNil) fLst) (gSeq (gSeq (gSeq (gVar 3) gNil) fLst) (gSeq gD0 gNil)))) (fMvD md_law_history 3)) (fNew .lst 4)))
    (sSeq (sSet md_law_history 6 (gSeq (gSeq (gSeq (gSeq (gVar 2) (gSeq (gVar 5) gNil)) (gCall [] md_law_moment G_law_moment 2)) gNil) (fNew .lst 1)))
    (sSeq (sForR1 (gSeq (gVar 1) gNil) (bind md_law_history 7) b_law_history_1)
    (sRet (gSeq (gVar 6) (fMv md_law_history))))))))
def G_law_history : GF := runF md_law_history 12 g_law_history
theorem sim_law_history (T : Txt K mg) : FnOk P w K mg base (L2N.CX P w) 6 T.a_law_history T.fd_law_history ["_law_feed_here", "_law_many"] (spOf (kcm K (kt P w T)) md_law_history G_law_history) :=
  fn_sim T.F_law_history sc_law_history rfl (by decide) fun cdv A outer s H E hr =>
  (mss_cons (ms_set (i := 2) sc_law_history.nd rfl (Or.inl rfl) (me_smeth (is := []) (pe_glob (v := .ref T.c_Image) rfl T.g_Image rfl) T.m_Image_fresh (sim_Image_fresh T) (hr.mono (by decide)) T.b_Image_fresh (ma_cons (me_frz (me_makeK (n := 0) T.m_Plan_init (sim_Plan_init T) (hr.mono (by decide)) rfl T.g_Plan T.b_Plan_init (ma_cons (me_c pe_int) ma_nil) (mk_cons (me_c pe_int) (mk_cons (me_c pe_int) mk_nil)) rfl)) ma_nil) (by decide) (by decide)))
    (mss_cons (ms_lcR10 (ma_cons (me_c pe_int) ma_nil) (blkOk_by (own := [("_law_x", 4)]) (N := N_law_history) (sc := defScope s_law_history) (by decide +kernel)) (fun _ _ _ _ _ => pg_name (i := 4) sc_law_history.nd rfl (Or.inl rfl)) (fun _ _ _ _ _ => (me_callTy call_int1 fInt_ok (by rfl) T.n_int (by decide +kernel) (ma_cons (me_cmp op_lt fI_ok0 (me_var (pv 4)) (me_c pe_int) (nomark _)) ma_nil))) rfl T.n_range rfl sc_law_history.nd rfl rfl (sw_true rfl rfl rfl (by decide +kernel)))
    (mss_cons (ms_set (i := 5) sc_law_history.nd rfl (Or.inl rfl) (me_lst (ma_mvd (d := 3) (ma_cons (me_var (pv 3)) (ma_cons (me_callTy call_list_of fLst_ok (by rfl) T.n_list (by decide +kernel) (ma_cons (me_var (pv 3)) ma_nil)) (ma_cons (me_callTy call_list_of fLst_ok (by rfl) T.n_list (by decide +kernel) (ma_cons (me_var (pv 3)) ma_nil)) (ma_cons me_d0 ma_nil))))) (by show 4 ≤ sizeLine; decide)))
    (mss_cons (ms_set (i := 6) sc_law_history.nd rfl (Or.inl rfl) (me_lst (ma_cons (me_call (is := []) (sim_law_moment T) (hr.mono (by decide)) (takes_of rfl rfl rfl rfl) rfl T.m_law_moment T.F_law_moment.kp T.b_law_moment (ma_cons (me_var (pv 2)) (ma_cons (me_var (pv 5)) ma_nil)) (by decide) (by decide)) ma_nil) (by show 1 ≤ sizeLine; decide)))
    (mss_cons (ms_forR1 (ma_cons (me_var (pv 1)) ma_nil) (mg_name (i := 7) sc_law_history.nd rfl (Or.inl rfl))
    (mss_cons (ms_set (i := 8) sc_law_history.nd rfl (Or.inl rfl) (me_meth0 (is := []) (n := 1) (me_var (pv 2)) T.C_Image T.m_Image_twin (show (cnm 1).idxOf? ("twin" : Str) = none by decide +kernel) (sim_Image_twin T) (hr.mono (by decide)) (takes_of rfl rfl rfl rfl) T.b_Image_twin (by decide) (by decide)))
    (mss_cons (ms_set (i := 9) sc_law_history.nd rfl (Or.inl rfl) (me_call (is := [0]) (sim_law_pick T) (hr.mono (by decide)) (takes_of rfl rfl rfl rfl) rfl T.m_law_pick T.F_law_pick.kp T.b_law_pick (ma_cons (me_var (pv 0)) (ma_cons (me_c pe_int) ma_nil)) (by decide) (by decide)))
    (mss_cons (ms_expr (me_meth (is := [0]) (n := 1) (me_var (pv 2)) T.C_Image T.m_Image_begin (show (cnm 1).idxOf? ("begin" : Str) = none by decide +kernel) (sim_Image_begin T) (hr.mono (by decide)) (takes_of rfl rfl rfl rfl) T.b_Image_begin (ma_cons (me_var (pv 9)) (ma_cons (me_tup ma_nil (by show 0 ≤ sizeLine; decide)) ma_nil)) (by decide) (by decide)))
    (mss_cons (ms_set (i := 10) sc_law_history.nd rfl (Or.inl rfl) (me_call (is := [0]) (sim_law_pick T) (hr.mono (by decide)) (takes_of rfl rfl rfl rfl) rfl T.m_law_pick T.F_law_pick.kp T.b_law_pick (ma_cons (me_var (pv 0)) (ma_cons (me_c pe_int) ma_nil)) (by decide) (by decide)))
    (mss_cons (ms_if (mt_cmp op_lt fI_ok0 (me_var (pv 10)) (me_c pe_int) (nomark _)) (mss_one (ms_set (i := 11) sc_law_history.nd rfl (Or.inl rfl) (me_call (is := [0, 1, 2]) (sim_law_take T) (hr.mono (by decide)) (takes_of rfl rfl rfl rfl) rfl T.m_law_take T.F_law_take.kp T.b_law_take (ma_cons (me_var (pv 2)) (ma_cons (me_var (pv 5)) (ma_cons (me_var (pv 0)) (ma_cons (me_add (me_c pe_int) (me_var (pv 7))) (ma_cons (me_var (pv 9)) ma_nil))))) (by decide) (by decide))))
    (mss_one (ms_if (mt_cmp op_lt fI_ok0 (me_var (pv 10)) (me_c pe_int) (nomark _)) (mss_one (ms_set (i := 11) sc_law_history.nd rfl (Or.inl rfl) (me_call (is := [0, 1, 2]) (sim_law_give T) (hr.mono (by decide)) (takes_of rfl rfl rfl rfl) rfl T.m_law_give T.F_law_give.kp T.b_law_give (ma_cons (me_var (pv 2)) (ma_cons (me_var (pv 5)) (ma_cons (me_var (pv 0)) (ma_cons (me_add (me_c pe_int) (me_var (pv 7))) ma_nil)))) (by decide) (by decide))))
    (mss_one (ms_set (i := 11) sc_law_history.nd rfl (Or.inl rfl) (me_call (is := [0, 1, 2]) (sim_law_change T) (hr.mono (by decide)) (takes_of rfl rfl rfl rfl) rfl T.m_law_change T.F_law_change.kp T.b_law_change (ma_cons (me_var (pv 2)) (ma_cons (me_var (pv 5)) (ma_cons (me_var (pv 0)) (ma_cons (me_add (me_c pe_int) (me_var (pv 7))) ma_nil)))) (by decide) (by decide)))))))
    (mss_cons (ms_expr (me_meth (is := [0]) (n := 1) (me_var (pv 2)) T.C_Image T.m_Image_settle (show (cnm 1).idxOf? ("settle" : Str) = none by decide +kernel) (sim_Image_settle T) (hr.mono (by decide)) (takes_of rfl rfl rfl rfl) T.b_Image_settle (ma_cons (me_var (pv 8)) ma_nil) (by decide) (by decide)))
    (mss_cons (ms_if (mt_not (mt_val (me_var (pv 11)))) (mss_one (ms_ret (me_lst ma_nil (by show 0 ≤ sizeLine; decide))))
    mss_nil)
    (mss_one (ms_expr (me_bm (me_var (pv 6)) (ma_cons (me_call (is := []) (sim_law_moment T) (hr.mono (by decide)) (takes_of rfl rfl rfl rfl) rfl T.m_law_moment T.F_law_moment.kp T.b_law_moment (ma_cons (me_var (pv 2)) (ma_cons (me_var (pv 5)) ma_nil)) (by decide) (by decide)) ma_nil) fApp_ok (fun a b => pe_bm PySem.F.plainAttrs_list PySem.F.slot_list_append PySem.F.type_list_append mt_append a b))))))))))) rfl T.n_range (passes_of rfl) rfl)
    (mss_one (ms_ret (me_mv (me_var (pv 6))))))))))
abbrev md_Lot_keep_mark : List Bool := [true, false, false, false]
def g_Lot_keep_mark : GS := (sSeq (sFldS tab_mark_slot (gVar 1) (gVar 0))
    (sSeq (sFldS tab_mark (gVar 2) (gVar 0))
    (sFldS tab_revokes (gSeq (gSeq (gVar 3) gNil) fTup) (gVar 0))))
def G_Lot_keep_mark : GF := runF md_Lot_keep_mark 4 g_Lot_keep_mark
theorem sim_Lot_keep_mark (T : Txt K mg) : FnOk P w K mg base (L2N.CX P w) 1 T.a_Lot_keep_mark T.fd_Lot_keep_mark ["self", "slot", "write", "revokes"] (spOf (kcm K (kt P w T)) md_Lot_keep_mark G_Lot_keep_mark) :=
  fn_sim T.F_Lot_keep_mark sc_Lot_keep_mark rfl (by decide) fun cdv A outer s H E hr =>
  (mss_cons (ms_fld (me_var (pv 1)) (me_var (pv 0)) (fo_mark_slot T))
    (mss_cons (ms_fld (me_var (pv 2)) (me_var (pv 0)) (fo_mark T))
    (mss_one (ms_fld (me_callTy call_tuple_of fTup_ok (by rfl) T.n_tuple (by decide +kernel) (ma_cons (me_var (pv 3)) ma_nil)) (me_var (pv 0)) (fo_revokes T)))))
abbrev md_Lot_keep_copy : List Bool := [true, false, false, false, false]
def g_Lot_keep_copy : GS := (sSeq (sSubA (gSeq (gSeq (gVar 2) (gSeq (gVar 3) gNil)) (fNew .tup 2)) (gSeq (gVar 0) (fFld tab_copies)) (gVar 1))
    (sSubA (gVar 4) (gSeq (gVar 0) (fFld tab_identities)) (gVar 1)))
def G_Lot_keep_copy : GF := runF md_Lot_keep_copy 5 g_Lot_keep_copy
theorem sim_Lot_keep_copy (T : Txt K mg) : FnOk P w K mg base (L2N.CX P w) 1 T.a_Lot_keep_copy T.fd_Lot_keep_copy ["self", "x", "slot", "write", "identity"] (spOf (kcm K (kt P w T)) md_Lot_keep_copy G_Lot_keep_copy) :=
  fn_sim T.F_Lot_keep_copy sc_Lot_keep_copy rfl (by decide) fun cdv A outer s H E hr =>
  (mss_cons (ms_subA (me_tup (ma_cons (me_var (pv 2)) (ma_cons (me_var (pv 3)) ma_nil)) (by show 2 ≤ sizeLine; decide)) (me_fld (me_var (pv 0)) (fo_copies T)) (me_var (pv 1)) (fun a b c => ps_asg c (pg_sub a b (set_A hr.units))))
    (mss_one (ms_subA (me_var (pv 4)) (me_fld (me_var (pv 0)) (fo_identities T)) (me_var (pv 1)) (fun a b c => ps_asg c (pg_sub a b (set_A hr.units))))))
abbrev md_Lot_init : List Bool := [true, false, false]
def g_Lot_init : GS := (sSeq (sFldS tab_number (gVar 1) (gVar 0))
    (sSeq (sFldS tab_image (gVar 2) (gVar 0))
    (sSeq (sFldS tab_copies gD0 (gVar 0))
    (sSeq (sFldS tab_identities gD0 (gVar 0))
    (sSeq (sFldS tab_mark (gC (.int 0)) (gVar 0))
    (sSeq (sFldS tab_mark_slot (gSeq (gC (.int 1)) fNeg) (gVar 0))
    (sFldS tab_revokes (gSeq gNil (fNew .tup 0)) (gVar 0))))))))
def G_Lot_init : GF := runF md_Lot_init 3 g_Lot_init
theorem sim_Lot_init (T : Txt K mg) : FnOk P w K mg base (L2N.CX P w) 1 T.a_Lot_init T.fd_Lot_init ["self", "number", "image"] (spOf (kcm K (kt P w T)) md_Lot_init G_Lot_init) :=
  fn_sim T.F_Lot_init sc_Lot_init rfl (by decide) fun cdv A outer s H E hr =>
  (mss_cons (ms_fld (me_var (pv 1)) (me_var (pv 0)) (fo_number T))
    (mss_cons (ms_fld (me_var (pv 2)) (me_var (pv 0)) (fo_image T))
    (mss_cons (ms_fld me_d0 (me_var (pv 0)) (fo_copies T))
    (mss_cons (ms_fld me_d0 (me_var (pv 0)) (fo_identities T))
    (mss_cons (ms_fld (me_c pe_int) (me_var (pv 0)) (fo_mark T))
    (mss_cons (ms_fld (me_neg (me_c pe_int)) (me_var (pv 0)) (fo_mark_slot T))
    (mss_one (ms_fld (me_tup ma_nil (by show 0 ≤ sizeLine; decide)) (me_var (pv 0)) (fo_revokes T)))))))))
abbrev md_law_lot : List Bool := [true, false, false]
def b_law_lot_1 : GS := (sSeq (sSet md_law_lot 8 (gSeq (gSeq (gVar 0) (gSeq (gC (.int 5)) gNil)) (gCall [0] md_law_pick G_law_pick 2)))
    (sSeq (sIf (gOrB (gSeq (gSeq (gVar 8) (gC (.int 1))) fEq) (gSeq (gSeq (gVar 8) (gC (.int 3))) fEq)) (sExpr (gSeq (gVar 5) (gSeq chkL (gSeq (gSeq (gVar 7) gNil) fApp)))) sNil)
    (sIf (gOrB (gSeq (gSeq (gVar 8) (gC (.int 2))) fEq) (gSeq (gSeq (gVar 8) (gC (.int 3))) fEq)) (sExpr (gSeq (gVar 6) (gSeq chkL (gSeq (gSeq (gVar 7) gNil) fApp)))) sNil)))
def b_law_lot_2 : GS := (sSeq (sSet md_law_lot 10 (gSeq (gSeq (gVar 2) (gSeq (gSeq (gC (.int 3)) (gSeq (gSeq (gC (.int 17)) (gVar 7)) fSub)) fMul)) fAdd))
    (sSeq (sExpr (gSeq (gVar 9) (gSeq chkL (gSeq (gSeq (gSeq (gVar 10) (fMv md_law_lot)) gNil) fApp))))
    (sExpr (gSeq (gVar 4) (gSeq (chkI 3) (gSeq (gSeq (gVar 7) (gSeq (gVar 10) (gSeq (gSeq (gSeq (gC (.int 100)) (gVar 7)) fAdd) (gSeq (gSeq (gSeq (gVar 1) (gSeq (gVar 7) gNil)) (fNew .tup 2)) gNil)))) (gCall [0] md_Lot_keep_copy G_Lot_keep_copy 5)))))))
def g_law_lot : GS := (sSeq (sSet md_law_lot 3 (gSeq (gSeq (gC (.int 10)) (gSeq (gC (.int 11)) (gSeq (gC (.int 12)) (gSeq (gC (.int 13)) (gSeq (gC (.int 14)) (gSeq (gC (.int 15)) (gSeq (gC (.int 16)) (gSeq (gC (.int 17)) gNil)))))))) (fNew .lst 8)))
    (sSeq (sSet md_law_lot 4 (gSeq (gSeq (gVar 1) (gSeq (gC .non) gNil)) (noEx (gMake 3 (md_Lot_init).tail G_Lot_init 2))))
    (sSeq (sSet md_law_lot 5 (gSeq gNil (fNew .lst 0)))
    (sSeq (sSet md_law_lot 6 (gSeq gNil (fNew .lst 0)))
    (sSeq (sFor (gVar 3) (bind md_law_lot 7) b_law_lot_1)
    (sSeq (sSet md_law_lot 9 (gSeq gNil (fNew .lst 0)))
    (sSeq (sForRev (gVar 5) (bind md_law_lot 7) b_law_lot_2)
    (sSeq (sSet md_law_lot 11 (gSeq (gSeq (gVar 6) gNil) fLst))
    (sSeq (sSet md_law_lot 12 (gSeq (gSeq (gSeq (gSeq (gVar 0) (gSeq (gC (.int 4)) gNil)) (gCall [0] md_law_pick G_law_pick 2)) (gC (.int 1))) fNe))
    (sSeq (sIf (gVar 12) (sSeq (sExpr (gSeq (gVar 4) (gSeq (chkI 3) (gSeq (gSeq (gSeq (gSeq (gVar 2) (gC (.int 1))) fAdd) (gSeq (gC (.int 7)) (gSeq (gVar 11) gNil))) (gCall [0] md_Lot_keep_mark G_Lot_keep_mark 4)))))
    (sExpr (gSeq (gVar 9) (gSeq chkL (gSeq (gSeq (gSeq (gSeq (gVar 2) (gC (.int 1))) fAdd) gNil) fApp))))) (sExpr (gSeq (gVar 4) (gSeq (chkI 3) (gSeq (gSeq (gSeq (gC (.int 1)) fNeg) (gSeq (gC (.int 7)) (gSeq (gVar 11) gNil))) (gCall [0] md_Lot_keep_mark G_Lot_keep_mark 4))))))
    (sSeq (sExpr (gSeq (gVar 11) (gSeq chkL (gSeq (gSeq (gC (.int 23)) gNil) fApp))))
    (sRet (gSeq (gSeq (gSeq (gVar 4) (fMv md_law_lot)) (gSeq (gVar 1) (gSeq (gSeq (gVar 5) (fMv md_law_lot)) (gSeq (gSeq (gVar 6) (fMv md_law_lot)) (gSeq (gSeq (gSeq (gVar 9) gNil) fSrt) (gSeq (gVar 2) (gSeq (gSeq (gVar 12) (fMv md_law_lot)) gNil))))))) (fNew .lst 7))))))))))))))
def G_law_lot : GF := runF md_law_lot 13 g_law_lot
theorem sim_law_lot (T : Txt K mg) : FnOk P w K mg base (L2N.CX P w) 3 T.a_law_lot T.fd_law_lot ["_law_feed_here", "_law_number", "_law_first_slot"] (spOf (kcm K (kt P w T)) md_law_lot G_law_lot) :=
  fn_sim T.F_law_lot sc_law_lot rfl (by decide) fun cdv A outer s H E hr =>
  (mss_cons (ms_set (i := 3) sc_law_lot.nd rfl (Or.inl rfl) (me_lst (ma_cons (me_c pe_int) (ma_cons (me_c pe_int) (ma_cons (me_c pe_int) (ma_cons (me_c pe_int) (ma_cons (me_c pe_int) (ma_cons (me_c pe_int) (ma_cons (me_c pe_int) (ma_cons (me_c pe_int) ma_nil)))))))) (by show 8 ≤ sizeLine; decide)))
    (mss_cons (ms_set (i := 4) sc_law_lot.nd rfl (Or.inl rfl) (me_make (n := 3) T.m_Lot_init (sim_Lot_init T) (hr.mono (by decide)) rfl T.g_Lot T.b_Lot_init (ma_cons (me_var (pv 1)) (ma_cons (me_c pe_non) ma_nil))))
    (mss_cons (ms_set (i := 5) sc_law_lot.nd rfl (Or.inl rfl) (me_lst ma_nil (by show 0 ≤ sizeLine; decide)))
    (mss_cons (ms_set (i := 6) sc_law_lot.nd rfl (Or.inl rfl) (me_lst ma_nil (by show 0 ≤ sizeLine; decide)))
    (mss_cons (ms_for (me_var (pv 3)) (mg_name (i := 7) sc_law_lot.nd rfl (Or.inl rfl))
    (mss_cons (ms_set (i := 8) sc_law_lot.nd rfl (Or.inl rfl) (me_call (is := [0]) (sim_law_pick T) (hr.mono (by decide)) (takes_of rfl rfl rfl rfl) rfl T.m_law_pick T.F_law_pick.kp T.b_law_pick (ma_cons (me_var (pv 0)) (ma_cons (me_c pe_int) ma_nil)) (by decide) (by decide)))
    (mss_cons (ms_if (mw_pt (mw_or (mt_cmp (OpR.or op_eq (op_eqD hr.units)) fEq_ok (me_var (pv 8)) (me_c pe_int) (nomark _)) (mw_or1 (mt_cmp (OpR.or op_eq (op_eqD hr.units)) fEq_ok (me_var (pv 8)) (me_c pe_int) (nomark _))))) (mss_one (ms_expr (me_bm (me_var (pv 5)) (ma_cons (me_var (pv 7)) ma_nil) fApp_ok (fun a b => pe_bm PySem.F.plainAttrs_list PySem.F.slot_list_append PySem.F.type_list_append mt_append a b))))
    mss_nil)
    (mss_one (ms_if (mw_pt (mw_or (mt_cmp (OpR.or op_eq (op_eqD hr.units)) fEq_ok (me_var (pv 8)) (me_c pe_int) (nomark _)) (mw_or1 (mt_cmp (OpR.or op_eq (op_eqD hr.units)) fEq_ok (me_var (pv 8)) (me_c pe_int) (nomark _))))) (mss_one (ms_expr (me_bm (me_var (pv 6)) (ma_cons (me_var (pv 7)) ma_nil) fApp_ok (fun a b => pe_bm PySem.F.plainAttrs_list PySem.F.slot_list_append PySem.F.type_list_append mt_append a b))))
    mss_nil)))) (passes_of rfl) rfl)
    (mss_cons (ms_set (i := 9) sc_law_lot.nd rfl (Or.inl rfl) (me_lst ma_nil (by show 0 ≤ sizeLine; decide)))
    (mss_cons (ms_forRev (me_var (pv 5)) (mg_name (i := 7) sc_law_lot.nd rfl (Or.inl rfl))
    (mss_cons (ms_set (i := 10) sc_law_lot.nd rfl (Or.inl rfl) (me_add (me_var (pv 2)) (me_mul (me_c pe_int) (me_sub (me_c pe_int) (me_var (pv 7))))))
    (mss_cons (ms_expr (me_bm (me_var (pv 9)) (ma_cons (me_mv (me_var (pv 10))) ma_nil) fApp_ok (fun a b => pe_bm PySem.F.plainAttrs_list PySem.F.slot_list_append PySem.F.type_list_append mt_append a b)))
    (mss_one (ms_expr (me_meth (is := [0]) (n := 3) (me_var (pv 4)) T.C_Lot T.m_Lot_keep_copy (show (cnm 3).idxOf? ("keep_copy" : Str) = none by decide +kernel) (sim_Lot_keep_copy T) (hr.mono (by decide)) (takes_of rfl rfl rfl rfl) T.b_Lot_keep_copy (ma_cons (me_var (pv 7)) (ma_cons (me_var (pv 10)) (ma_cons (me_add (me_c pe_int) (me_var (pv 7))) (ma_cons (me_tup (ma_cons (me_var (pv 1)) (ma_cons (me_var (pv 7)) ma_nil)) (by show 2 ≤ sizeLine; decide)) ma_nil)))) (by decide) (by decide)))))) rfl T.n_reversed (passes_of rfl) rfl)
    (mss_cons (ms_set (i := 11) sc_law_lot.nd rfl (Or.inl rfl) (me_callTy call_list_of fLst_ok (by rfl) T.n_list (by decide +kernel) (ma_cons (me_var (pv 6)) ma_nil)))
    (mss_cons (ms_set (i := 12) sc_law_lot.nd rfl (Or.inl rfl) (me_cmp (OpR.or op_ne (op_neD hr.units)) fNe_ok (me_call (is := [0]) (sim_law_pick T) (hr.mono (by decide)) (takes_of rfl rfl rfl rfl) rfl T.m_law_pick T.F_law_pick.kp T.b_law_pick (ma_cons (me_var (pv 0)) (ma_cons (me_c pe_int) ma_nil)) (by decide) (by decide)) (me_c pe_int) (nomark _)))
    (mss_cons (ms_if (mt_val (me_var (pv 12))) (mss_cons (ms_expr (me_meth (is := [0]) (n := 3) (me_var (pv 4)) T.C_Lot T.m_Lot_keep_mark (show (cnm 3).idxOf? ("keep_mark" : Str) = none by decide +kernel) (sim_Lot_keep_mark T) (hr.mono (by decide)) (takes_of rfl rfl rfl rfl) T.b_Lot_keep_mark (ma_cons (me_add (me_var (pv 2)) (me_c pe_int)) (ma_cons (me_c pe_int) (ma_cons (me_var (pv 11)) ma_nil))) (by decide) (by decide)))
    (mss_one (ms_expr (me_bm (me_var (pv 9)) (ma_cons (me_add (me_var (pv 2)) (me_c pe_int)) ma_nil) fApp_ok (fun a b => pe_bm PySem.F.plainAttrs_list PySem.F.slot_list_append PySem.F.type_list_append mt_append a b)))))
    (mss_one (ms_expr (me_meth (is := [0]) (n := 3) (me_var (pv 4)) T.C_Lot T.m_Lot_keep_mark (show (cnm 3).idxOf? ("keep_mark" : Str) = none by decide +kernel) (sim_Lot_keep_mark T) (hr.mono (by decide)) (takes_of rfl rfl rfl rfl) T.b_Lot_keep_mark (ma_cons (me_neg (me_c pe_int)) (ma_cons (me_c pe_int) (ma_cons (me_var (pv 11)) ma_nil))) (by decide) (by decide)))))
    (mss_cons (ms_expr (me_bm (me_var (pv 11)) (ma_cons (me_c pe_int) ma_nil) fApp_ok (fun a b => pe_bm PySem.F.plainAttrs_list PySem.F.slot_list_append PySem.F.type_list_append mt_append a b)))
    (mss_one (ms_ret (me_lst (ma_cons (me_mv (me_var (pv 4))) (ma_cons (me_var (pv 1)) (ma_cons (me_mv (me_var (pv 5))) (ma_cons (me_mv (me_var (pv 6))) (ma_cons (me_callB cr_sortedI fSrt_ok (by rfl) T.n_sorted (by decide +kernel) (ma_cons (me_var (pv 9)) ma_nil)) (ma_cons (me_var (pv 2)) (ma_cons (me_mv (me_var (pv 12))) ma_nil))))))) (by show 7 ≤ sizeLine; decide)))))))))))))))
abbrev md_Lot_used_slots : List Bool := [false]
def t_Lot_used_slots_1 : GE := (gSeq (gSeq (gVar 2) (gSeq (gC (.int 1)) fNeg)) fNe)
def e_Lot_used_slots_1 : GE := (gVar 2)
def g_Lot_used_slots : GS := (sSeq (sSet md_Lot_used_slots 1 (gSeq (gSeq (gLcV 2 3 (gSeq (gVar 0) (fFld tab_copies))) (gSeq (gSeq (gSeq (gVar 0) (fFld tab_mark_slot)) gNil) (fNew .lst 1))) fAdd))
    (sRet (gSeq (gLc [2] (gVar 1) (bind md_Lot_used_slots 2) t_Lot_used_slots_1 e_Lot_used_slots_1) fSrtSet)))
def G_Lot_used_slots : GF := runF md_Lot_used_slots 4 g_Lot_used_slots
theorem sim_Lot_used_slots (T : Txt K mg) : FnOk P w K mg base (L2N.CX P w) 1 T.a_Lot_used_slots T.fd_Lot_used_slots ["self"] (spOf (kcm K (kt P w T)) md_Lot_used_slots G_Lot_used_slots) :=
  fn_sim T.F_Lot_used_slots sc_Lot_used_slots rfl (by decide) fun cdv A outer s H E hr =>
  (mss_cons (ms_set (i := 1) sc_Lot_used_slots.nd rfl (Or.inl rfl) (me_add (me_lcV (pe_fld (pv 0) rfl) (src_fld src_var (fo_copies T)) (blkOk_by (own := [("slot", 2), ("write", 3)]) (N := N_Lot_used_slots) (sc := defScope s_Lot_used_slots) (by decide +kernel)) (fun _ _ _ _ _ => pg_tup (by rfl) (pgs_cons (pg_name (i := 2) sc_Lot_used_slots.nd rfl (Or.inl rfl)) (pgs_cons (pg_name (i := 3) sc_Lot_used_slots.nd rfl (Or.inl rfl)) pgs_nil))) (fun _ _ _ _ _ => (pv 2)) (by rfl) sc_Lot_used_slots.nd) (me_lst (ma_cons (me_fld (me_var (pv 0)) (fo_mark_slot T)) ma_nil) (by show 1 ≤ sizeLine; decide))))
    (mss_one (ms_ret (me_srtSet (me_lc (me_var (pv 1)) (blkOk_by (own := [("slot", 2)]) (N := N_Lot_used_slots) (sc := defScope s_Lot_used_slots) (by decide +kernel)) (fun _ _ _ _ _ => pg_name (i := 2) sc_Lot_used_slots.nd rfl (Or.inl rfl)) (fun _ _ _ _ _ => (mt_cmp (OpR.or op_ne (op_neD hr.units)) fNe_ok (me_var (pv 2)) (me_neg (me_c pe_int)) (nomark _))) (fun _ _ _ _ _ => (me_var (pv 2))) rfl sc_Lot_used_slots.nd) (by rfl) (by rfl) T.n_sorted (by rfl) T.n_set))))
abbrev md_law_lot_good : List Bool := [false]
def b_law_lot_good_1 : GS := (sIf (gOrB (gSeq (gSeq (gSeq (gSeq (gSeq (gVar 1) (fFld tab_copies)) (gVar 9)) fIxA) (gSeq (gSeq (gSeq (gSeq (gVar 6) (gSeq (gSeq (gC (.int 3)) (gSeq (gSeq (gC (.int 17)) (gVar 9)) fSub)) fMul)) fAdd) (gSeq (gSeq (gSeq (gC (.int 100)) (gVar 9)) fAdd) gNil)) (fNew .tup 2))) fNe) (gSeq (gSeq (gSeq (gSeq (gSeq (gVar 1) (fFld tab_identities)) (gVar 9)) fIxA) (gSeq (gSeq (gSeq (gVar 2) (fMv md_law_lot_good)) (gSeq (gVar 9) gNil)) (fNew .tup 2))) fNe)) (sRet (gC (.bl false))) sNil)
def g_law_lot_good : GS := (sSeq (sAsg (gVar 0) (unpk md_law_lot_good [1, 2, 3, 4, 5, 6, 7]))
    (sSeq (sSet md_law_lot_good 8 (gSeq (gVar 1) (gSeq (chkI 3) (gCall [] md_Lot_used_slots G_Lot_used_slots 1))))
    (sSeq (sIf (gOrB (gNot (gSeq (gSeq (gVar 8) (gSeq (gC (.ty "list")) gNil)) fIsi)) (gOrB (gSeq (gSeq (gVar 8) (gVar 5)) fNe) (gOrB (gSeq (gSeq (gSeq (gVar 1) (fFld tab_number)) (gVar 2)) fNe) (gSeq (gSeq (gSeq (gVar 1) (fFld tab_image)) (gC .non)) fNotN)))) (sRet (gC (.bl false))) sNil)
    (sSeq (sIf (gOrB (gSeq (gSeq (gSeq (gSeq (gSeq (gVar 1) (fFld tab_copies)) gNil) fSrtK) (gVar 3)) fNe) (gOrB (gSeq (gSeq (gSeq (gSeq (gSeq (gVar 1) (fFld tab_identities)) gNil) fSrtK) (gVar 3)) fNe) (gSeq (gSeq (gSeq (gVar 1) (fFld tab_mark)) (gC (.int 7))) fNe))) (sRet (gC (.bl false))) sNil)
    (sSeq (sFor (gVar 3) (bind md_law_lot_good 9) b_law_lot_good_1)
    (sSeq (sSet md_law_lot_good 10 (gSeq (gC (.int 1)) fNeg))
    (sSeq (sIf (gVar 7) (sSet md_law_lot_good 10 (gSeq (gSeq (gVar 6) (gC (.int 1))) fAdd)) sNil)
    (sRet (gAnd (gSeq (gSeq (gSeq (gVar 1) (fFld tab_mark_slot)) (gVar 10)) fEq) (gAnd (gSeq (gSeq (gSeq (gVar 1) (fFld tab_revokes)) (gSeq (gC (.ty "tuple")) gNil)) fIsi) (gSeq (gSeq (gSeq (gSeq (gSeq (gVar 1) (fFld tab_revokes)) gNil) fLst) (gVar 4)) fEq)))))))))))
def G_law_lot_good : GF := runF md_law_lot_good 11 g_law_lot_good
theorem sim_law_lot_good (T : Txt K mg) : FnOk P w K mg base (L2N.CX P w) 2 T.a_law_lot_good T.fd_law_lot_good ["_law_told"] (spOf (kcm K (kt P w T)) md_law_lot_good G_law_lot_good) :=
  fn_sim T.F_law_lot_good sc_law_lot_good rfl (by decide) fun cdv A outer s H E hr =>
  (mss_cons (ms_asg (me_var (pv 0)) (mg_unp (is := [1, 2, 3, 4, 5, 6, 7]) (pg_tup (by rfl) (pgs_cons (pg_name (i := 1) sc_law_lot_good.nd rfl (Or.inl rfl)) (pgs_cons (pg_name (i := 2) sc_law_lot_good.nd rfl (Or.inl rfl)) (pgs_cons (pg_name (i := 3) sc_law_lot_good.nd rfl (Or.inl rfl)) (pgs_cons (pg_name (i := 4) sc_law_lot_good.nd rfl (Or.inl rfl)) (pgs_cons (pg_name (i := 5) sc_law_lot_good.nd rfl (Or.inl rfl)) (pgs_cons (pg_name (i := 6) sc_law_lot_good.nd rfl (Or.inl rfl)) (pgs_cons (pg_name (i := 7) sc_law_lot_good.nd rfl (Or.inl rfl)) pgs_nil)))))))) (pg_lst (by rfl) (pgs_cons (pg_name (i := 1) sc_law_lot_good.nd rfl (Or.inl rfl)) (pgs_cons (pg_name (i := 2) sc_law_lot_good.nd rfl (Or.inl rfl)) (pgs_cons (pg_name (i := 3) sc_law_lot_good.nd rfl (Or.inl rfl)) (pgs_cons (pg_name (i := 4) sc_law_lot_good.nd rfl (Or.inl rfl)) (pgs_cons (pg_name (i := 5) sc_law_lot_good.nd rfl (Or.inl rfl)) (pgs_cons (pg_name (i := 6) sc_law_lot_good.nd rfl (Or.inl rfl)) (pgs_cons (pg_name (i := 7) sc_law_lot_good.nd rfl (Or.inl rfl)) pgs_nil))))))))) (fun a b => ps_asg a b))
    (mss_cons (ms_set (i := 8) sc_law_lot_good.nd rfl (Or.inl rfl) (me_meth0 (is := []) (n := 3) (me_var (pv 1)) T.C_Lot T.m_Lot_used_slots (show (cnm 3).idxOf? ("used_slots" : Str) = none by decide +kernel) (sim_Lot_used_slots T) (hr.mono (by decide)) (takes_of rfl rfl rfl rfl) T.b_Lot_used_slots (by decide) (by decide)))
    (mss_cons (ms_if (mw_pt (mw_or (mt_not (mt_val (me_callB (CallR.or call_isi (CallR.or call_isiT call_isiK)) fIsi_ok (by rfl) T.n_isinstance (by decide +kernel) (ma_cons (me_var (pv 8)) (ma_cons (me_c (pe_bltn (v := .ty "list") (u := .type "list") (by rfl) T.n_list (by decide +kernel) rfl)) ma_nil))))) (mw_or (mt_cmp (OpR.or op_ne (op_neD hr.units)) fNe_ok (me_var (pv 8)) (me_var (pv 5)) (nomark _)) (mw_or (mt_cmp (OpR.or op_ne (op_neD hr.units)) fNe_ok (me_fld (me_var (pv 1)) (fo_number T)) (me_var (pv 2)) (nomark _)) (mw_or1 (mt_cmp op_notN fNotN_ok (me_fld (me_var (pv 1)) (fo_image T)) (me_c pe_non) (nomark _))))))) (mss_one (ms_ret (me_c pe_bl)))
    mss_nil)
    (mss_cons (ms_if (mw_pt (mw_or (mt_cmp (OpR.or op_ne (op_neD hr.units)) fNe_ok (me_callB (cr_sortDI (by rfl)) fSrtK_ok (by rfl) T.n_sorted (by decide +kernel) (ma_cons (me_fld (me_var (pv 1)) (fo_copies T)) ma_nil)) (me_var (pv 3)) (nomark _)) (mw_or (mt_cmp (OpR.or op_ne (op_neD hr.units)) fNe_ok (me_callB (cr_sortDI (by rfl)) fSrtK_ok (by rfl) T.n_sorted (by decide +kernel) (ma_cons (me_fld (me_var (pv 1)) (fo_identities T)) ma_nil)) (me_var (pv 3)) (nomark _)) (mw_or1 (mt_cmp (OpR.or op_ne (op_neD hr.units)) fNe_ok (me_fld (me_var (pv 1)) (fo_mark T)) (me_c pe_int) (nomark _)))))) (mss_one (ms_ret (me_c pe_bl)))
    mss_nil)
    (mss_cons (ms_for (me_var (pv 3)) (mg_name (i := 9) sc_law_lot_good.nd rfl (Or.inl rfl))
    (mss_one (ms_if (mw_pt (mw_or (mt_cmp (OpR.or op_ne (op_neD hr.units)) fNe_ok (me_ixA hr.units (me_fld (me_var (pv 1)) (fo_copies T)) (me_var (pv 9)) (fun _ _ => rfl)) (me_tup (ma_cons (me_add (me_var (pv 6)) (me_mul (me_c pe_int) (me_sub (me_c pe_int) (me_var (pv 9))))) (ma_cons (me_add (me_c pe_int) (me_var (pv 9))) ma_nil)) (by show 2 ≤ sizeLine; decide)) (nomark _)) (mw_or1 (mt_cmp (OpR.or op_ne (op_neD hr.units)) fNe_ok (me_ixA hr.units (me_fld (me_var (pv 1)) (fo_identities T)) (me_var (pv 9)) (fun _ _ => rfl)) (me_tup (ma_cons (me_mv (me_var (pv 2))) (ma_cons (me_var (pv 9)) ma_nil)) (by show 2 ≤ sizeLine; decide)) (nomark _))))) (mss_one (ms_ret (me_c pe_bl)))
    mss_nil)) (passes_of rfl) rfl)
    (mss_cons (ms_set (i := 10) sc_law_lot_good.nd rfl (Or.inl rfl) (me_neg (me_c pe_int)))
    (mss_cons (ms_if (mt_val (me_var (pv 7))) (mss_one (ms_set (i := 10) sc_law_lot_good.nd rfl (Or.inl rfl) (me_add (me_var (pv 6)) (me_c pe_int))))
    mss_nil)
    (mss_one (ms_ret (me_and (me_cmp (OpR.or op_eq (op_eqD hr.units)) fEq_ok (me_fld (me_var (pv 1)) (fo_mark_slot T)) (me_var (pv 10)) (nomark _)) (me_and (me_callB (CallR.or call_isi (CallR.or call_isiT call_isiK)) fIsi_ok (by rfl) T.n_isinstance (by decide +kernel) (ma_cons (me_fld (me_var (pv 1)) (fo_revokes T)) (ma_cons (me_c (pe_bltn (v := .ty "tuple") (u := .type "tuple") (by rfl) T.n_tuple (by decide +kernel) rfl)) ma_nil))) (me_one (me_cmp (OpR.or op_eq (op_eqD hr.units)) fEq_ok (me_callTy call_list_of fLst_ok (by rfl) T.n_list (by decide +kernel) (ma_cons (me_fld (me_var (pv 1)) (fo_revokes T)) ma_nil)) (me_var (pv 4)) (nomark _))))))))))))))
abbrev md_law_live : List Bool := [false, false, false]
def b_law_live_1 : GS := (sSeq (sSet md_law_live 4 (gSeq (gSeq (gVar 0) (gSeq (gSeq (gSeq (gSeq (gSeq (gSeq (gVar 0) gNil) fLen) (gC (.int 1))) fSub) (gVar 3)) fSub)) fIxA))
    (sSeq (sSet md_law_live 5 (gAnd (gSeq (gSeq (gVar 1) (gSeq (gSeq (gVar 4) (gC (.int 3))) fIxA)) fInA) (gNot (gVar 2))))
    (sSeq (sIf (gAnd (gSeq (gSeq (gVar 1) (gSeq (gSeq (gVar 4) (gC (.int 2))) fIxA)) fInA) (gNot (gVar 5))) (sRet (gSeq (gSeq (gVar 4) (gC (.int 1))) fIxA)) sNil)
    (sIf (gSeq (gSeq (gVar 1) (gSeq (gSeq (gVar 4) (gC (.int 3))) fIxA)) fInA) (sRet (gC (.int 0))) sNil))))
def g_law_live : GS := (sSeq (sForR1 (gSeq (gSeq (gSeq (gVar 0) gNil) fLen) gNil) (bind md_law_live 3) b_law_live_1)
    (sRet (gC (.int 0))))
def G_law_live : GF := runF md_law_live 6 g_law_live
theorem sim_law_live (T : Txt K mg) : FnOk P w K mg base (L2N.CX P w) 1 T.a_law_live T.fd_law_live ["_law_lots", "_law_x", "_law_lapsing"] (spOf (kcm K (kt P w T)) md_law_live G_law_live) :=
  fn_sim T.F_law_live sc_law_live rfl (by decide) fun cdv A outer s H E hr =>
  (mss_cons (ms_forR1 (ma_cons (me_callB (CallR.or call_len call_lenR) fLen_ok (by rfl) T.n_len (by decide +kernel) (ma_cons (me_var (pv 0)) ma_nil)) ma_nil) (mg_name (i := 3) sc_law_live.nd rfl (Or.inl rfl))
    (mss_cons (ms_set (i := 4) sc_law_live.nd rfl (Or.inl rfl) (me_ixA hr.units (me_var (pv 0)) (me_sub (me_sub (me_callB (CallR.or call_len call_lenR) fLen_ok (by rfl) T.n_len (by decide +kernel) (ma_cons (me_var (pv 0)) ma_nil)) (me_c pe_int)) (me_var (pv 3))) (fun _ _ => rfl)))
    (mss_cons (ms_set (i := 5) sc_law_live.nd rfl (Or.inl rfl) (me_and (me_cmp (op_inA hr.units) fInA_ok (me_var (pv 1)) (me_ixA hr.units (me_var (pv 4)) (me_c pe_int) (fun _ _ => rfl)) rfl) (me_one (me_not (me_var (pv 2))))))
    (mss_cons (ms_if (mw_pt (mw_and (mt_cmp (op_inA hr.units) fInA_ok (me_var (pv 1)) (me_ixA hr.units (me_var (pv 4)) (me_c pe_int) (fun _ _ => rfl)) rfl) (mw_and1 (mt_not (mt_val (me_var (pv 5))))))) (mss_one (ms_ret (me_ixA hr.units (me_var (pv 4)) (me_c pe_int) (fun _ _ => rfl))))
    mss_nil)
    (mss_one (ms_if (mt_cmp (op_inA hr.units) fInA_ok (me_var (pv 1)) (me_ixA hr.units (me_var (pv 4)) (me_c pe_int) (fun _ _ => rfl)) rfl) (mss_one (ms_ret (me_c pe_int)))
    mss_nil))))) rfl T.n_range (passes_of rfl) rfl)
    (mss_one (ms_ret (me_c pe_int))))
abbrev md_law_integer : List Bool := [false, false]
def g_law_integer : GS := (sRet (gAnd (gSeq (gSeq (gVar 0) (gSeq (gC (.ty "int")) gNil)) fIsi) (gAnd (gNot (gSeq (gSeq (gVar 0) (gSeq (gC (.ty "bool")) gNil)) fIsi)) (gSeq (gSeq (gVar 0) (gVar 1)) fEq))))
def G_law_integer : GF := runF md_law_integer 2 g_law_integer
theorem sim_law_integer (T : Txt K mg) : FnOk P w K mg base (L2N.CX P w) 1 T.a_law_integer T.fd_law_integer ["_law_actual", "_law_due"] (spOf (kcm K (kt P w T)) md_law_integer G_law_integer) :=
  fn_sim T.F_law_integer sc_law_integer rfl (by decide) fun cdv A outer s H E hr =>
  (mss_one (ms_ret (me_and (me_callB (CallR.or call_isi (CallR.or call_isiT call_isiK)) fIsi_ok (by rfl) T.n_isinstance (by decide +kernel) (ma_cons (me_var (pv 0)) (ma_cons (me_c (pe_bltn (v := .ty "int") (u := .type "int") (by rfl) T.n_int (by decide +kernel) rfl)) ma_nil))) (me_and (me_not (me_callB (CallR.or call_isi (CallR.or call_isiT call_isiK)) fIsi_ok (by rfl) T.n_isinstance (by decide +kernel) (ma_cons (me_var (pv 0)) (ma_cons (me_c (pe_bltn (v := .ty "bool") (u := .type "bool") (by rfl) T.n_bool (by decide +kernel) rfl)) ma_nil)))) (me_one (me_cmp (OpR.or op_eq (op_eqD hr.units)) fEq_ok (me_var (pv 0)) (me_var (pv 1)) (nomark _)))))))
abbrev md_law_live_good : List Bool := [false, false]
def b_law_live_good_1 : GS := (sSeq (sIf (gNot (gSeq (gSeq (gSeq (gSeq (gVar 0) (gSeq (gVar 2) gNil)) (gSeq (gSeq (gC (.bl true)) gNil) (noEx (gCall [] md_live_lot G_live_lot 3)))) (gSeq (gSeq (gSeq (gVar 1) (gSeq (gVar 2) (gSeq (gC (.bl true)) gNil))) (gCall [] md_law_live G_law_live 3)) gNil)) (gCall [] md_law_integer G_law_integer 2))) (sRet (gC (.bl false))) sNil)
    (sIf (gNot (gSeq (gSeq (gSeq (gSeq (gVar 0) (gSeq (gVar 2) gNil)) (gSeq (gSeq (gC (.bl false)) gNil) (noEx (gCall [] md_live_lot G_live_lot 3)))) (gSeq (gSeq (gSeq (gVar 1) (gSeq (gVar 2) (gSeq (gC (.bl false)) gNil))) (gCall [] md_law_live G_law_live 3)) gNil)) (gCall [] md_law_integer G_law_integer 2))) (sRet (gC (.bl false))) sNil))
def g_law_live_good : GS := (sSeq (sForR1 (gSeq (gC (.int 24)) gNil) (bind md_law_live_good 2) b_law_live_good_1)
    (sRet (gC (.bl true))))
def G_law_live_good : GF := runF md_law_live_good 3 g_law_live_good
theorem sim_law_live_good (T : Txt K mg) : FnOk P w K mg base (L2N.CX P w) 2 T.a_law_live_good T.fd_law_live_good ["_law_window", "_law_lots"] (spOf (kcm K (kt P w T)) md_law_live_good G_law_live_good) :=
  fn_sim T.F_law_live_good sc_law_live_good rfl (by decide) fun cdv A outer s H E hr =>
  (mss_cons (ms_forR1 (ma_cons (me_c pe_int) ma_nil) (mg_name (i := 2) sc_law_live_good.nd rfl (Or.inl rfl))
    (mss_cons (ms_if (mt_not (mt_val (me_call (is := []) (sim_law_integer T) (hr.mono (by decide)) (takes_of rfl rfl rfl rfl) rfl T.m_law_integer T.F_law_integer.kp T.b_law_integer (ma_cons (me_callN (is := []) (sim_live_lot T) (hr.mono (by decide)) rfl T.m_live_lot T.F_live_lot.kp T.b_live_lot (ma_cons (me_var (pv 0)) (ma_cons (me_var (pv 2)) ma_nil)) (mk_cons (me_c pe_bl) mk_nil) rfl (by decide) (by decide)) (ma_cons (me_call (is := []) (sim_law_live T) (hr.mono (by decide)) (takes_of rfl rfl rfl rfl) rfl T.m_law_live T.F_law_live.kp T.b_law_live (ma_cons (me_var (pv 1)) (ma_cons (me_var (pv 2)) (ma_cons (me_c pe_bl) ma_nil))) (by decide) (by decide)) ma_nil)) (by decide) (by decide)))) (mss_one (ms_ret (me_c pe_bl)))
    mss_nil)
    (mss_one (ms_if (mt_not (mt_val (me_call (is := []) (sim_law_integer T) (hr.mono (by decide)) (takes_of rfl rfl rfl rfl) rfl T.m_law_integer T.F_law_integer.kp T.b_law_integer (ma_cons (me_callN (is := []) (sim_live_lot T) (hr.mono (by decide)) rfl T.m_live_lot T.F_live_lot.kp T.b_live_lot (ma_cons (me_var (pv 0)) (ma_cons (me_var (pv 2)) ma_nil)) (mk_cons (me_c pe_bl) mk_nil) rfl (by decide) (by decide)) (ma_cons (me_call (is := []) (sim_law_live T) (hr.mono (by decide)) (takes_of rfl rfl rfl rfl) rfl T.m_law_live T.F_law_live.kp T.b_law_live (ma_cons (me_var (pv 1)) (ma_cons (me_var (pv 2)) (ma_cons (me_c pe_bl) ma_nil))) (by decide) (by decide)) ma_nil)) (by decide) (by decide)))) (mss_one (ms_ret (me_c pe_bl)))
    mss_nil))) rfl T.n_range (passes_of rfl) rfl)
    (mss_one (ms_ret (me_c pe_bl))))
abbrev md_law_has_reuse : List Bool := [false]
def g_law_has_reuse : GS := (sRet (gSeq (gSeq (gSeq (gSeq (gSeq (gSeq (gSeq (gSeq (gVar 0) (gC (.int 8))) fDiv) gNil) fInt) (gC (.int 2))) fMod) (gC (.int 1))) fEq))
def G_law_has_reuse : GF := runF md_law_has_reuse 1 g_law_has_reuse
theorem sim_law_has_reuse (T : Txt K mg) : FnOk P w K mg base (L2N.CX P w) 1 T.a_law_has_reuse T.fd_law_has_reuse ["_law_number"] (spOf (kcm K (kt P w T)) md_law_has_reuse G_law_has_reuse) :=
  fn_sim T.F_law_has_reuse sc_law_has_reuse rfl (by decide) fun cdv A outer s H E hr =>
  (mss_one (ms_ret (me_cmp (OpR.or op_eq (op_eqD hr.units)) fEq_ok (me_mod (me_callTy call_int1 fInt_ok (by rfl) T.n_int (by decide +kernel) (ma_cons (me_div (me_var (pv 0)) (me_c pe_int)) ma_nil)) (me_c pe_int)) (me_c pe_int) (nomark _))))
abbrev md_law_has_shelve : List Bool := [false]
def g_law_has_shelve : GS := (sRet (gSeq (gSeq (gSeq (gSeq (gSeq (gSeq (gSeq (gSeq (gVar 0) (gC (.int 128))) fDiv) gNil) fInt) (gC (.int 2))) fMod) (gC (.int 1))) fEq))
def G_law_has_shelve : GF := runF md_law_has_shelve 1 g_law_has_shelve
theorem sim_law_has_shelve (T : Txt K mg) : FnOk P w K mg base (L2N.CX P w) 1 T.a_law_has_shelve T.fd_law_has_shelve ["_law_number"] (spOf (kcm K (kt P w T)) md_law_has_shelve G_law_has_shelve) :=
  fn_sim T.F_law_has_shelve sc_law_has_shelve rfl (by decide) fun cdv A outer s H E hr =>
  (mss_one (ms_ret (me_cmp (OpR.or op_eq (op_eqD hr.units)) fEq_ok (me_mod (me_callTy call_int1 fInt_ok (by rfl) T.n_int (by decide +kernel) (ma_cons (me_div (me_var (pv 0)) (me_c pe_int)) ma_nil)) (me_c pe_int)) (me_c pe_int) (nomark _))))
abbrev md_law_has_lapse : List Bool := [false]
def g_law_has_lapse : GS := (sRet (gSeq (gSeq (gSeq (gSeq (gSeq (gSeq (gSeq (gSeq (gVar 0) (gC (.int 64))) fDiv) gNil) fInt) (gC (.int 2))) fMod) (gC (.int 1))) fEq))
def G_law_has_lapse : GF := runF md_law_has_lapse 1 g_law_has_lapse
theorem sim_law_has_lapse (T : Txt K mg) : FnOk P w K mg base (L2N.CX P w) 1 T.a_law_has_lapse T.fd_law_has_lapse ["_law_number"] (spOf (kcm K (kt P w T)) md_law_has_lapse G_law_has_lapse) :=
  fn_sim T.F_law_has_lapse sc_law_has_lapse rfl (by decide) fun cdv A outer s H E hr =>
  (mss_one (ms_ret (me_cmp (OpR.or op_eq (op_eqD hr.units)) fEq_ok (me_mod (me_callTy call_int1 fInt_ok (by rfl) T.n_int (by decide +kernel) (ma_cons (me_div (me_var (pv 0)) (me_c pe_int)) ma_nil)) (me_c pe_int)) (me_c pe_int) (nomark _))))
abbrev md_law_barred : List Bool := [false, false, false, false]
def b_law_barred_1 : GS := (sSeq (sSet md_law_barred 6 (gOrB (gSeq (gSeq (gSeq (gSeq (gSeq (gSeq (gVar 2) (gC (.int 1))) fIxA) (gVar 5)) fIxA) (gC (.int 0))) fNe) (gAnd (gSeq (gSeq (gVar 3) (gC .non)) fNotN) (gSeq (gSeq (gSeq (gSeq (gSeq (gSeq (gVar 3) (gC (.int 1))) fIxA) (gVar 5)) fIxA) (gC (.int 0))) fNe))))
    (sSeq (sSet md_law_barred 7 (gC (.int 0)))
    (sSeq (sIf (gSeq (gSeq (gVar 1) gNil) (gCall [] md_law_has_shelve G_law_has_shelve 1)) (sSet md_law_barred 7 (gSeq (gSeq (gVar 0) (gSeq (gVar 5) (gSeq (gSeq (gSeq (gVar 1) gNil) (gCall [] md_law_has_lapse G_law_has_lapse 1)) gNil))) (gCall [] md_law_live G_law_live 3))) sNil)
    (sIf (gOrB (gAnd (gSeq (gSeq (gVar 1) gNil) (gCall [] md_law_has_reuse G_law_has_reuse 1)) (gVar 6)) (gSeq (gSeq (gVar 7) (gC (.int 0))) fNe)) (sExpr (gSeq (gVar 4) (gSeq chkL (gSeq (gSeq (gVar 5) gNil) fApp)))) sNil))))
def g_law_barred : GS := (sSeq (sSet md_law_barred 4 (gSeq gNil (fNew .lst 0)))
    (sSeq (sForR2 (gSeq (gC (.int 10)) (gSeq (gC (.int 24)) gNil)) (bind md_law_barred 5) b_law_barred_1)
    (sRet (gSeq (gVar 4) (fMv md_law_barred)))))
def G_law_barred : GF := runF md_law_barred 8 g_law_barred
theorem sim_law_barred (T : Txt K mg) : FnOk P w K mg base (L2N.CX P w) 2 T.a_law_barred T.fd_law_barred ["_law_lots", "_law_number", "_law_base", "_law_closing"] (spOf (kcm K (kt P w T)) md_law_barred G_law_barred) :=
  fn_sim T.F_law_barred sc_law_barred rfl (by decide) fun cdv A outer s H E hr =>
  (mss_cons (ms_set (i := 4) sc_law_barred.nd rfl (Or.inl rfl) (me_lst ma_nil (by show 0 ≤ sizeLine; decide)))
    (mss_cons (ms_forR2 (ma_cons (me_c pe_int) (ma_cons (me_c pe_int) ma_nil)) (mg_name (i := 5) sc_law_barred.nd rfl (Or.inl rfl))
    (mss_cons (ms_set (i := 6) sc_law_barred.nd rfl (Or.inl rfl) (me_or (me_cmp (OpR.or op_ne (op_neD hr.units)) fNe_ok (me_ixA hr.units (me_ixA hr.units (me_var (pv 2)) (me_c pe_int) (fun _ _ => rfl)) (me_var (pv 5)) (fun _ _ => rfl)) (me_c pe_int) (nomark _)) (me_one (me_and (me_cmp op_notN fNotN_ok (me_var (pv 3)) (me_c pe_non) (nomark _)) (me_one (me_cmp (OpR.or op_ne (op_neD hr.units)) fNe_ok (me_ixA hr.units (me_ixA hr.units (me_var (pv 3)) (me_c pe_int) (fun _ _ => rfl)) (me_var (pv 5)) (fun _ _ => rfl)) (me_c pe_int) (nomark _)))))))
    (mss_cons (ms_set (i := 7) sc_law_barred.nd rfl (Or.inl rfl) (me_c pe_int))
    (mss_cons (ms_if (mt_val (me_call (is := []) (sim_law_has_shelve T) (hr.mono (by decide)) (takes_of rfl rfl rfl rfl) rfl T.m_law_has_shelve T.F_law_has_shelve.kp T.b_law_has_shelve (ma_cons (me_var (pv 1)) ma_nil) (by decide) (by decide))) (mss_one (ms_set (i := 7) sc_law_barred.nd rfl (Or.inl rfl) (me_call (is := []) (sim_law_live T) (hr.mono (by decide)) (takes_of rfl rfl rfl rfl) rfl T.m_law_live T.F_law_live.kp T.b_law_live (ma_cons (me_var (pv 0)) (ma_cons (me_var (pv 5)) (ma_cons (me_call (is := []) (sim_law_has_lapse T) (hr.mono (by decide)) (takes_of rfl rfl rfl rfl) rfl T.m_law_has_lapse T.F_law_has_lapse.kp T.b_law_has_lapse (ma_cons (me_var (pv 1)) ma_nil) (by decide) (by decide)) ma_nil))) (by decide) (by decide))))
    mss_nil)
    (mss_one (ms_if (mw_pt (mw_or (mw_pt (mw_and (mt_val (me_call (is := []) (sim_law_has_reuse T) (hr.mono (by decide)) (takes_of rfl rfl rfl rfl) rfl T.m_law_has_reuse T.F_law_has_reuse.kp T.b_law_has_reuse (ma_cons (me_var (pv 1)) ma_nil) (by decide) (by decide))) (mw_and1 (mt_val (me_var (pv 6)))))) (mw_or1 (mt_cmp (OpR.or op_ne (op_neD hr.units)) fNe_ok (me_var (pv 7)) (me_c pe_int) (nomark _))))) (mss_one (ms_expr (me_bm (me_var (pv 4)) (ma_cons (me_var (pv 5)) ma_nil) fApp_ok (fun a b => pe_bm PySem.F.plainAttrs_list PySem.F.slot_list_append PySem.F.type_list_append mt_append a b))))
    mss_nil))))) rfl T.n_range (passes_of rfl) rfl)
    (mss_one (ms_ret (me_mv (me_var (pv 4)))))))
abbrev md_Book_init : List Bool := [true, false]
def b_Book_init_1 : GS := (sIf (gSeq (gSeq (gVar 2) (gSeq (gVar 0) (fCon tabc_RULES))) fNotInA) (sRaise 0) sNil)
def b_Book_init_2 : GS := (sSeq (sIf (gSeq (gSeq (gVar 2) (gVar 1)) fInA) (sSeq (sExpr (gSeq (gVar 3) (gSeq chkL (gSeq (gSeq (gVar 2) gNil) fApp))))
    (sSet md_Book_init 4 (gSeq (gSeq (gVar 4) (gVar 5)) fAdd))) sNil)
    (sSet md_Book_init 5 (gSeq (gSeq (gVar 5) (gC (.int 2))) fMul)))
def g_Book_init : GS := (sSeq (sFor (gVar 1) (bind md_Book_init 2) b_Book_init_1)
    (sSeq (sSet md_Book_init 3 (gSeq gNil (fNew .lst 0)))
    (sSeq (sSet md_Book_init 4 (gC (.int 0)))
    (sSeq (sSet md_Book_init 5 (gC (.int 1)))
    (sSeq (sFor (gSeq (gVar 0) (fCon tabc_RULES)) (bind md_Book_init 2) b_Book_init_2)
    (sSeq (sFldS tab_names (gSeq (gSeq (gVar 3) gNil) fTup) (gVar 0))
    (sFldS tab_number (gSeq (gVar 4) (fMv md_Book_init)) (gVar 0))))))))
def G_Book_init : GF := runF md_Book_init 6 g_Book_init
theorem sim_Book_init (T : Txt K mg) : FnOk P w K mg base (L2N.CX P w) 1 T.a_Book_init T.fd_Book_init ["self", "names"] (spOf (kcm K (kt P w T)) md_Book_init G_Book_init) :=
  fn_sim T.F_Book_init sc_Book_init rfl (by decide) fun cdv A outer s H E hr =>
  (mss_cons (ms_for (me_var (pv 1)) (mg_name (i := 2) sc_Book_init.nd rfl (Or.inl rfl))
    (mss_one (ms_if (mt_cmp (op_notInA hr.units) fNotInA_ok (me_var (pv 2)) (me_iCon (me_var (pv 0)) (ct_RULES T)) rfl) (mss_one (ms_raise (n := 0) rfl (takes_of rfl rfl rfl rfl) (pmk_own PySem.F.excBase_ValueError T.x_BadValue T.g_BadValue T.k_BadValue (raises_own T.sb_BadValue T.ty_BadValue) rfl)))
    mss_nil)) (passes_of rfl) rfl)
    (mss_cons (ms_set (i := 3) sc_Book_init.nd rfl (Or.inl rfl) (me_lst ma_nil (by show 0 ≤ sizeLine; decide)))
    (mss_cons (ms_set (i := 4) sc_Book_init.nd rfl (Or.inl rfl) (me_c pe_int))
    (mss_cons (ms_set (i := 5) sc_Book_init.nd rfl (Or.inl rfl) (me_c pe_int))
    (mss_cons (ms_for (me_iCon (me_var (pv 0)) (ct_RULES T)) (mg_name (i := 2) sc_Book_init.nd rfl (Or.inl rfl))
    (mss_cons (ms_if (mt_cmp (op_inA hr.units) fInA_ok (me_var (pv 2)) (me_var (pv 1)) rfl) (mss_cons (ms_expr (me_bm (me_var (pv 3)) (ma_cons (me_var (pv 2)) ma_nil) fApp_ok (fun a b => pe_bm PySem.F.plainAttrs_list PySem.F.slot_list_append PySem.F.type_list_append mt_append a b)))
    (mss_one (ms_set (i := 4) sc_Book_init.nd rfl (Or.inl rfl) (me_add (me_var (pv 4)) (me_var (pv 5))))))
    mss_nil)
    (mss_one (ms_set (i := 5) sc_Book_init.nd rfl (Or.inl rfl) (me_mul (me_var (pv 5)) (me_c pe_int))))) (passes_of rfl) rfl)
    (mss_cons (ms_fld (me_callTy call_tuple_of fTup_ok (by rfl) T.n_tuple (by decide +kernel) (ma_cons (me_var (pv 3)) ma_nil)) (me_var (pv 0)) (fo_names T))
    (mss_one (ms_fld (me_mv (me_var (pv 4))) (me_var (pv 0)) (fo_number T)))))))))
abbrev md_Book_of_number : List Bool := [false]
def b_Book_of_number_1 : GS := (sSeq (sIf (gSeq (gSeq (gSeq (gSeq (gVar 2) (gC (.int 2))) fMod) (gC (.int 1))) fEq) (sExpr (gSeq (gVar 1) (gSeq chkL (gSeq (gSeq (gVar 3) gNil) fApp)))) sNil)
    (sSet md_Book_of_number 2 (gSeq (gSeq (gVar 2) (gC (.int 2))) fDiv)))
def g_Book_of_number : GS := (sSeq (sIf (gNot (gChain (gC (.int 0)) (gVar 0) fLe (gC (.int 4096)) fLt)) (sRaise 0) sNil)
    (sSeq (sSet md_Book_of_number 1 (gSeq gNil (fNew .lst 0)))
    (sSeq (sSet md_Book_of_number 2 (gVar 0))
    (sSeq (sFor (gCon (.nd .tup .frz [(.a (.str "copies")), (.a (.str "mark")), (.a (.str "words")), (.a (.str "reuse")), (.a (.str "late")), (.a (.str "revoke")), (.a (.str "lapse")), (.a (.str "shelve")), (.a (.str "frozen")), (.a (.str "wait")), (.a (.str "room")), (.a (.str "told"))])) (bind md_Book_of_number 3) b_Book_of_number_1)
    (sRet (gSeq (gSeq (gVar 1) gNil) (noEx (gMake 2 (md_Book_init).tail G_Book_init 1))))))))
def G_Book_of_number : GF := runF md_Book_of_number 4 g_Book_of_number
theorem sim_Book_of_number (T : Txt K mg) : FnOk P w K mg base (L2N.CX P w) 3 T.a_Book_of_number T.fd_Book_of_number ["number"] (spOf (kcm K (kt P w T)) md_Book_of_number G_Book_of_number) :=
  fn_sim T.F_Book_of_number sc_Book_of_number rfl (by decide) fun cdv A outer s H E hr =>
  (mss_cons (ms_if (mt_not (mt_chain (me_c pe_int) (me_var (pv 0)) fI_ok0 (me_c pe_int) fI_ok0 (fun a b c => pt_chain op_le op_lt a b c))) (mss_one (ms_raise (n := 0) rfl (takes_of rfl rfl rfl rfl) (pmk_own PySem.F.excBase_ValueError T.x_BadValue T.g_BadValue T.k_BadValue (raises_own T.sb_BadValue T.ty_BadValue) rfl)))
    mss_nil)
    (mss_cons (ms_set (i := 1) sc_Book_of_number.nd rfl (Or.inl rfl) (me_lst ma_nil (by show 0 ≤ sizeLine; decide)))
    (mss_cons (ms_set (i := 2) sc_Book_of_number.nd rfl (Or.inl rfl) (me_var (pv 0)))
    (mss_cons (ms_for (me_cvalT (pe_glob (v := .ref T.c_Book) rfl T.g_Book rfl) T.r_Book T.k_Book_RULES (con_tup T.w_Book_RULES (con_cons con_a (con_cons con_a (con_cons con_a (con_cons con_a (con_cons con_a (con_cons con_a (con_cons con_a (con_cons con_a (con_cons con_a (con_cons con_a (con_cons con_a (con_cons con_a con_nil)))))))))))))) (mg_name (i := 3) sc_Book_of_number.nd rfl (Or.inl rfl))
    (mss_cons (ms_if (mt_cmp (OpR.or op_eq (op_eqD hr.units)) fEq_ok (me_mod (me_var (pv 2)) (me_c pe_int)) (me_c pe_int) (nomark _)) (mss_one (ms_expr (me_bm (me_var (pv 1)) (ma_cons (me_var (pv 3)) ma_nil) fApp_ok (fun a b => pe_bm PySem.F.plainAttrs_list PySem.F.slot_list_append PySem.F.type_list_append mt_append a b))))
    mss_nil)
    (mss_one (ms_set (i := 2) sc_Book_of_number.nd rfl (Or.inl rfl) (me_div (me_var (pv 2)) (me_c pe_int))))) (passes_of rfl) rfl)
    (mss_one (ms_ret (me_make (n := 2) T.m_Book_init (sim_Book_init T) (hr.mono (by decide)) rfl T.g_Book T.b_Book_init (ma_cons (me_var (pv 1)) ma_nil))))))))
abbrev md_law_barred_good : List Bool := [false, false, false, false, false]
def b_law_barred_good_1 : GS := (sIf (gOrB (gNot (gSeq (gSeq (gVar 7) (gSeq (gC (.ty "int")) gNil)) fIsi)) (gSeq (gSeq (gVar 7) (gSeq (gC (.ty "bool")) gNil)) fIsi)) (sRet (gC (.bl false))) sNil)
def g_law_barred_good : GS := (sSeq (sSet md_law_barred_good 5 (gC .non))
    (sSeq (sIf (gSeq (gSeq (gVar 4) (gC .non)) fNotN) (sSet md_law_barred_good 5 (gSeq (gSeq (gVar 4) (gC (.int 0))) fIxA)) sNil)
    (sSeq (sSet md_law_barred_good 6 (gSeq (gSeq (gSeq (gSeq (gVar 2) gNil) (noEx (gCall [] md_Book_of_number G_Book_of_number 1))) (gSeq (gSeq (gSeq (gVar 3) (gC (.int 0))) fIxA) (gSeq (gVar 5) (gSeq (gVar 0) gNil)))) (gCall [] md_barred_blocks G_barred_blocks 4)))
    (sSeq (sIf (gOrB (gNot (gSeq (gSeq (gVar 6) (gSeq (gC (.ty "list")) gNil)) fIsi)) (gSeq (gSeq (gVar 6) (gSeq (gSeq (gVar 1) (gSeq (gVar 2) (gSeq (gVar 3) (gSeq (gVar 4) gNil)))) (gCall [] md_law_barred G_law_barred 4))) fNe)) (sRet (gC (.bl false))) sNil)
    (sSeq (sFor (gVar 6) (bind md_law_barred_good 7) b_law_barred_good_1)
    (sRet (gC (.bl true))))))))
def G_law_barred_good : GF := runF md_law_barred_good 8 g_law_barred_good
theorem sim_law_barred_good (T : Txt K mg) : FnOk P w K mg base (L2N.CX P w) 4 T.a_law_barred_good T.fd_law_barred_good ["_law_window", "_law_lots", "_law_number", "_law_base", "_law_closing"] (spOf (kcm K (kt P w T)) md_law_barred_good G_law_barred_good) :=
  fn_sim T.F_law_barred_good sc_law_barred_good rfl (by decide) fun cdv A outer s H E hr =>
  (mss_cons (ms_set (i := 5) sc_law_barred_good.nd rfl (Or.inl rfl) (me_c pe_non))
    (mss_cons (ms_if (mt_cmp op_notN fNotN_ok (me_var (pv 4)) (me_c pe_non) (nomark _)) (mss_one (ms_set (i := 5) sc_law_barred_good.nd rfl (Or.inl rfl) (me_ixA hr.units (me_var (pv 4)) (me_c pe_int) (fun _ _ => rfl))))
    mss_nil)
    (mss_cons (ms_set (i := 6) sc_law_barred_good.nd rfl (Or.inl rfl) (me_call (is := []) (sim_barred_blocks T) (hr.mono (by decide)) (takes_of rfl rfl rfl rfl) rfl T.m_barred_blocks T.F_barred_blocks.kp T.b_barred_blocks (ma_cons (me_smeth (is := []) (pe_glob (v := .ref T.c_Book) rfl T.g_Book rfl) T.m_Book_of_number (sim_Book_of_number T) (hr.mono (by decide)) T.b_Book_of_number (ma_cons (me_var (pv 2)) ma_nil) (by decide) (by decide)) (ma_cons (me_ixA hr.units (me_var (pv 3)) (me_c pe_int) (fun _ _ => rfl)) (ma_cons (me_var (pv 5)) (ma_cons (me_var (pv 0)) ma_nil)))) (by decide) (by decide)))
    (mss_cons (ms_if (mw_pt (mw_or (mt_not (mt_val (me_callB (CallR.or call_isi (CallR.or call_isiT call_isiK)) fIsi_ok (by rfl) T.n_isinstance (by decide +kernel) (ma_cons (me_var (pv 6)) (ma_cons (me_c (pe_bltn (v := .ty "list") (u := .type "list") (by rfl) T.n_list (by decide +kernel) rfl)) ma_nil))))) (mw_or1 (mt_cmp (OpR.or op_ne (op_neD hr.units)) fNe_ok (me_var (pv 6)) (me_call (is := []) (sim_law_barred T) (hr.mono (by decide)) (takes_of rfl rfl rfl rfl) rfl T.m_law_barred T.F_law_barred.kp T.b_law_barred (ma_cons (me_var (pv 1)) (ma_cons (me_var (pv 2)) (ma_cons (me_var (pv 3)) (ma_cons (me_var (pv 4)) ma_nil)))) (by decide) (by decide)) (nomark _))))) (mss_one (ms_ret (me_c pe_bl)))
    mss_nil)
    (mss_cons (ms_for (me_var (pv 6)) (mg_name (i := 7) sc_law_barred_good.nd rfl (Or.inl rfl))
    (mss_one (ms_if (mw_pt (mw_or (mt_not (mt_val (me_callB (CallR.or call_isi (CallR.or call_isiT call_isiK)) fIsi_ok (by rfl) T.n_isinstance (by decide +kernel) (ma_cons (me_var (pv 7)) (ma_cons (me_c (pe_bltn (v := .ty "int") (u := .type "int") (by rfl) T.n_int (by decide +kernel) rfl)) ma_nil))))) (mw_or1 (mt_val (me_callB (CallR.or call_isi (CallR.or call_isiT call_isiK)) fIsi_ok (by rfl) T.n_isinstance (by decide +kernel) (ma_cons (me_var (pv 7)) (ma_cons (me_c (pe_bltn (v := .ty "bool") (u := .type "bool") (by rfl) T.n_bool (by decide +kernel) rfl)) ma_nil))))))) (mss_one (ms_ret (me_c pe_bl)))
    mss_nil)) (passes_of rfl) rfl)
    (mss_one (ms_ret (me_c pe_bl))))))))
abbrev md_law : List Bool := [false]
def b_law_1 : GS := (sExpr (gSeq (gVar 4) (gSeq chkL (gSeq (gSeq (gSeq (gSeq (gSeq (gVar 1) (gSeq (gSeq (gSeq (gVar 3) (gVar 5)) fAdd) (gSeq (gSeq (gSeq (gC (.int 33)) (gVar 5)) fMul) gNil))) (gCall [0] md_law_lot G_law_lot 3)) fFrz) gNil) fApp))))
def e_law_1 : GE := (gSeq (gSeq (gVar 10) (gC (.int 0))) fIxA)
def b_law_2 : GS := (sIf (gNot (gSeq (gSeq (gVar 10) gNil) (gCall [] md_law_lot_good G_law_lot_good 1))) (sRet (gC (.bl false))) sNil)
def b_law_3 : GS := (sIf (gNot (gSeq (gSeq (gVar 10) gNil) (gCall [] md_law_lot_good G_law_lot_good 1))) (sRet (gC (.bl false))) sNil)
def e_law_2 : GE := (gSeq (gVar 11) (fFld tab_number))
def e_law_3 : GE := (gSeq (gSeq (gVar 3) (gVar 5)) fAdd)
def g_law : GS := (sSeq (sSet md_law 2 (gSeq (gSeq (gSeq (gSeq (gVar 1) (gSeq (gC (.int 64)) gNil)) (gCall [0] md_law_pick G_law_pick 2)) (gSeq (gSeq (gC (.int 64)) (gSeq (gSeq (gVar 1) (gSeq (gC (.int 64)) gNil)) (gCall [0] md_law_pick G_law_pick 2))) fMul)) fAdd))
    (sSeq (sSet md_law 3 (gSeq (gSeq (gC (.int 1)) (gSeq (gSeq (gVar 1) (gSeq (gC (.int 900)) gNil)) (gCall [0] md_law_pick G_law_pick 2))) fAdd))
    (sSeq (sSet md_law 4 (gSeq gNil (fNew .lst 0)))
    (sSeq (sForR1 (gSeq (gSeq (gSeq (gVar 1) (gSeq (gC (.int 7)) gNil)) (gCall [0] md_law_pick G_law_pick 2)) gNil) (bind md_law 5) b_law_1)
    (sSeq (sSet md_law 6 (gSeq (gSeq (gVar 1) (gSeq (gSeq (gSeq (gVar 1) (gSeq (gC (.int 9)) gNil)) (gCall [0] md_law_pick G_law_pick 2)) gNil)) (gCall [0] md_law_history G_law_history 2)))
    (sSeq (sIf (gSeq (gSeq (gSeq (gSeq (gVar 6) gNil) fLen) (gC (.int 0))) fEq) (sRet (gC (.bl false))) sNil)
    (sSeq (sSet md_law 7 (gSeq (gSeq (gVar 6) (gSeq (gSeq (gVar 1) (gSeq (gSeq (gSeq (gVar 6) gNil) fLen) gNil)) (gCall [0] md_law_pick G_law_pick 2))) fIxA))
    (sSeq (sSet md_law 8 (gSeq (gSeq (gVar 6) (gSeq (gSeq (gVar 1) (gSeq (gSeq (gSeq (gVar 6) gNil) fLen) gNil)) (gCall [0] md_law_pick G_law_pick 2))) fIxA))
    (sSeq (sClr 10 (sSet md_law 9 (gLc [10] (gVar 4) (bind md_law 10) (gC (.bl true)) e_law_1)))
    (sSeq (sFor (gVar 4) (bind md_law 10) b_law_2)
    (sSeq (sIf (gOrB (gNot (gSeq (gSeq (gVar 9) (gSeq (gVar 4) gNil)) (gCall [] md_law_live_good G_law_live_good 2))) (gNot (gSeq (gSeq (gVar 9) (gSeq (gVar 4) (gSeq (gVar 2) (gSeq (gVar 7) (gSeq (gC .non) gNil))))) (gCall [] md_law_barred_good G_law_barred_good 5)))) (sRet (gC (.bl false))) sNil)
    (sSeq (sIf (gOrB (gNot (gSeq (gSeq (gVar 9) (gSeq (gVar 4) (gSeq (gVar 2) (gSeq (gVar 7) (gSeq (gVar 8) gNil))))) (gCall [] md_law_barred_good G_law_barred_good 5))) (gNot (gSeq (gSeq (gSeq gNil (fNew .lst 0)) (gSeq (gSeq gNil (fNew .lst 0)) (gSeq (gVar 2) (gSeq (gVar 7) (gSeq (gVar 8) gNil))))) (gCall [] md_law_barred_good G_law_barred_good 5)))) (sRet (gC (.bl false))) sNil)
    (sSeq (sFor (gVar 4) (bind md_law 10) b_law_3)
    (sRet (gSeq (gSeq (gLc [11] (gVar 9) (bind md_law 11) (gC (.bl true)) e_law_2) (gClr 5 (gLcR1 [5] (gSeq (gSeq (gSeq (gVar 4) gNil) fLen) gNil) (bind md_law 5) (gC (.bl true)) e_law_3))) fEq)))))))))))))))
/-! the drawn row, and what is drawn of it -/
def Feed (fs : List Int) : Prop := fs.length ≤ 5000 ∧ ∀ x ∈ fs, 0 ≤ x ∧ x < 1000000
theorem Feed.tail {x : Int} {fs : List Int} (h : Feed (x :: fs)) : Feed fs := ⟨by have := h.1; simp at this; omega, fun y hy => h.2 y (List.mem_cons_of_mem _ hy)⟩
def sp_law_feed (K : PySem.W.Frag) : Sp := fun vs H Q _ => ∃ (a : Addr) (ns : List Int), vs = [.ref a] ∧ SqL K H a (ns.map V.int) ∧ ns.length ≤ 63 ∧
  ∀ H' p fs, Fr [] H H' → H p = none → H' p = some (.lst (fs.map V.int)) → Feed fs → Q (.ref p) H'
theorem mem_app1 {P : Int → Prop} {fs : List Int} {y : Int} (h : ∀ x ∈ fs, P x) (hy : P y) : ∀ x ∈ fs ++ [y], P x := fun x hx => by
  rcases List.mem_append.mp hx with q | q
  · exact h x q
  · rw [List.mem_singleton.mp q]
    exact hy
theorem map_app1 {fs : List Int} {y : Int} : fs.map V.int ++ [V.int y] = (fs ++ [y]).map V.int := by simp
theorem ok_law_feed (T : Txt K mg) : FnOk P w K mg base CX0 1 T.a_law_feed T.fd_law_feed ["_law_script"] (sp_law_feed K) := by
  refine T.F_law_feed.ok sc_law_feed (fun vs H Q E h => ?_) (fun cdv A outer s H vs Q E hr h => ?_)
  · obtain ⟨a, ns, rfl, _⟩ := h
    rfl
  · obtain ⟨a, ns, rfl, hS, hl, k⟩ := h
    refine ⟨_, (pss_cons (ps_set (i := 1) sc_law_feed.nd rfl (Or.inl rfl) (pe_lst pa_nil))
        (pss_cons (ps_for PassesOwn.never rfl (pi_list (pv 0)) (pg_name (i := 2) sc_law_feed.nd rfl (Or.inl rfl))
        (pss_cons (ps_set (i := 3) sc_law_feed.nd rfl (Or.inl rfl) (pe_callB call_abs (by rfl) T.n_abs (by decide +kernel) (pa_cons (pv 2) pa_nil)))
        (C8.pss_cut (ps_if (pt_cmpR op_lt (pv 3) (pe_op op_pow pe_int pe_int) (nomark _)) (pss_cons (ps_set (i := 3) sc_law_feed.nd rfl (Or.inl rfl) (pe_op op_mod (pe_callTy call_int1 (by rfl) T.n_int (by decide +kernel) (pa_cons (pe_op op_add (pe_op op_mul (pv 3) pe_int) pe_int) pa_nil)) pe_int))
        (pss_cons (ps_expr (pe_bm PySem.F.plainAttrs_list PySem.F.slot_list_append PySem.F.type_list_append mt_append (pv 1) (pa_cons (pe_op op_mod (pe_callTy call_int1 (by rfl) T.n_int (by decide +kernel) (pa_cons (pe_op op_add (pe_op op_mul (pv 3) pe_int) pe_int) pa_nil)) pe_int) pa_nil)))
        (pss_one (ps_set (i := 3) sc_law_feed.nd rfl (Or.inl rfl) pe_int)))) pss_nil)
        (pss_one (ps_for PassesOwn.never rfl (pi_range1 rfl T.n_range (pa_cons pe_int pa_nil)) (pg_name (i := 4) sc_law_feed.nd rfl (Or.inl rfl))
        (pss_one (ps_if (pt_cmpR op_gt (pv 3) pe_int (nomark _)) (pss_cons (ps_expr (pe_bm PySem.F.plainAttrs_list PySem.F.slot_list_append PySem.F.type_list_append mt_append (pv 1) (pa_cons (pe_op op_mod (pe_callTy call_int1 (by rfl) T.n_int (by decide +kernel) (pa_cons (pv 3) pa_nil)) pe_int) pa_nil)))
        (pss_one (ps_set (i := 3) sc_law_feed.nd rfl (Or.inl rfl) (pe_op op_fdiv (pv 3) pe_int)))) pss_nil)))))))
        (pss_one (ps_ret (pv 1))))), ?_⟩
    refine ⟨by decide, fun p np => ?_⟩
    generalize hH : upd H p _ = H1
    obtain ⟨f1, h1⟩ := gen_new np hH
    refine ⟨_, rfl, a, rfl, ⟨_, f1.seq0 hS⟩, for_list (K := K) (a := a) (xs := ns.map V.int) (fun i σ H2 => ∃ (fs : List Int) (u v x : Option V), σ = [some (.ref a), some (.ref p), u, v, x] ∧ Fr [] H H2 ∧ H2 p = some (.lst (fs.map V.int)) ∧ fs.length ≤ 61 * i ∧ ∀ x ∈ fs, 0 ≤ x ∧ x < 1000000) ?_ ?_ ?_ ?_⟩
    · exact ⟨[], none, none, none, rfl, f1, h1, by simp, by simp⟩
    · rintro i σ H2 _ ⟨fs, u, v, x, rfl, f2, _⟩
      exact f2.seq0 hS
    · rintro i y σ H2 hi ⟨fs, u, v, x, rfl, f2, h2, hf, hb⟩
      obtain ⟨z, hz, rfl⟩ := map_get hi
      have hil := getq_lt hz
      refine ⟨_, rfl, _, rfl, ?_⟩
      have hr0 : 0 ≤ (if z < 0 then -z else z) := by split <;> omega
      generalize (if z < 0 then -z else z) = r at hr0
      refine ⟨fun σ H3 => ∃ (r : Int) (fs : List Int), σ = [some (.ref a), some (.ref p), some (.int z), some (.int r), x] ∧ Fr [] H H3 ∧ H3 p = some (.lst (fs.map V.int)) ∧ 0 ≤ r ∧ fs.length ≤ 61 * i + 1 ∧ ∀ x ∈ fs, 0 ≤ x ∧ x < 1000000, ?_, ?_⟩
      · refine ⟨_, rfl, _, _, rfl, rfl, ⟨by decide, by decide, by decide⟩, _, _, rfl, rfl, _, rfl, ?_⟩
        refine ite2 (fun c => ?_) (fun c => ?_)
        · refine ⟨_, rfl, _, _, rfl, rfl, .inr ⟨by decide, by decide⟩, _, _, rfl, rfl, .inl ⟨_, rfl, _, _, rfl, rfl, (by show (0 : Int) < 2147483647; decide), ?_⟩⟩
          refine ⟨_, rfl, .inl ⟨rfl, _, sq h2⟩, _, rfl, _, _, rfl, rfl, .inr ⟨by decide, by decide⟩, _, _, rfl, rfl, .inl ⟨_, rfl, _, _, rfl, rfl, (by show (0 : Int) < 999983; decide), p, _, _, rfl, rfl, h2, sz (by simp; omega), ?_⟩⟩
          generalize hH3 : upd H2 p _ = H3
          obtain ⟨f3, h3⟩ := gen_upd hH3
          rw [map_app1] at h3
          refine ⟨0, _, rfl, f2.up1 f3 (.inr np), h3, by decide, by simp; omega, mem_app1 hb ?_⟩
          exact ⟨Int.emod_nonneg _ (by decide), Int.lt_trans (Int.emod_lt_of_pos _ (by decide)) (by decide)⟩
        · exact ⟨r, fs, rfl, f2, h2, hr0, by omega, hb⟩
      · rintro σ H3 ⟨r, fs, rfl, f3, h3, hr1, hf1, hb1⟩
        refine ⟨60, rfl, by decide, by decide, for_range (n := 60) (fun j σ H4 => ∃ (r : Int) (fs : List Int) (x : Option V), σ = [some (.ref a), some (.ref p), some (.int z), some (.int r), x] ∧ Fr [] H H4 ∧ H4 p = some (.lst (fs.map V.int)) ∧ 0 ≤ r ∧ fs.length ≤ 61 * i + 1 + j ∧ ∀ x ∈ fs, 0 ≤ x ∧ x < 1000000) ?_ ?_ ?_⟩
        · exact ⟨r, fs, x, rfl, f3, h3, hr1, by omega, hb1⟩
        · rintro j σ H4 hj ⟨r, fs, x, rfl, f4, h4, hr2, hf2, hb2⟩
          refine ⟨_, rfl, _, _, rfl, rfl, _, rfl, ?_⟩
          refine ite2 (fun c => ?_) (fun c => ?_)
          · refine ⟨_, rfl, .inl ⟨rfl, _, sq h4⟩, _, rfl, .inl ⟨_, rfl, _, _, rfl, rfl, (by show (0 : Int) < 1000; decide), p, _, _, rfl, rfl, h4, sz (by simp; omega), ?_⟩⟩
            generalize hH5 : upd H4 p _ = H5
            obtain ⟨f5, h5⟩ := gen_upd hH5
            rw [map_app1] at h5
            refine ⟨_, rfl, _, _, rfl, rfl, ⟨by decide, by decide⟩, _, _, _, rfl, f4.up1 f5 (.inr np), h5, Int.ediv_nonneg hr2 (by decide), by simp; omega, mem_app1 hb2 ?_⟩
            exact ⟨Int.emod_nonneg _ (by decide), Int.lt_trans (Int.emod_lt_of_pos _ (by decide)) (by decide)⟩
          · exact ⟨r, fs, _, rfl, f4, h4, hr2, by omega, hb2⟩
        · rintro σ H4 ⟨r, fs, x, rfl, f4, h4, hr2, hf2, hb2⟩
          exact ⟨fs, _, _, _, rfl, f4, h4, by omega, hb2⟩
    · rintro σ H2 ⟨fs, u, v, x, rfl, f2, h2, hf, hb⟩
      rw [List.length_map] at hf
      exact ⟨_, rfl, k H2 p fs f2 np h2 ⟨by omega, hb⟩⟩

def LawIs : Prop := ∀ fs, Feed fs → ∃ m, g_law (feedG 10 fs) = some (.rt (bT true) m)
theorem ok_law_of (pl : LawIs) (T : Txt K mg) : FnOk P w K mg base CX0 7 T.a_law T.fd_law ["_law_script"] (spLaw K) :=
  law_sim (Fe := Feed) (T := kt P w T) (n := 10) (g := g_law) T.F_law sc_law rfl rfl (fun cdv A outer s H E hr =>
  ⟨⟨_, (ps_set (i := 1) sc_law.nd rfl (Or.inl rfl) (pe_call (ok_law_feed T) (hr.mono (by decide)) rfl T.m_law_feed T.F_law_feed.kp T.b_law_feed .nil pass0 (pa_cons (pv 0) pa_nil))), fun a ns H D hS hl k => ⟨_, rfl, a, ns, rfl, hS, hl, fun H1 p fs1 _ _ h1 hf1 => k H1 p fs1 h1 hf1⟩⟩,
  (mss_cons (ms_set (i := 2) sc_law.nd rfl (Or.inl rfl) (me_add (me_call (is := [0]) (sim_law_pick T) (hr.mono (by decide)) takes0 rfl T.m_law_pick T.F_law_pick.kp T.b_law_pick (ma_cons (me_var (pv 1)) (ma_cons (me_c pe_int) ma_nil)) (by decide) (by decide)) (me_mul (me_c pe_int) (me_call (is := [0]) (sim_law_pick T) (hr.mono (by decide)) takes0 rfl T.m_law_pick T.F_law_pick.kp T.b_law_pick (ma_cons (me_var (pv 1)) (ma_cons (me_c pe_int) ma_nil)) (by decide) (by decide)))))
    (mss_cons (ms_set (i := 3) sc_law.nd rfl (Or.inr rfl) (me_add (me_c pe_int) (me_call (is := [0]) (sim_law_pick T) (hr.mono (by decide)) takes0 rfl T.m_law_pick T.F_law_pick.kp T.b_law_pick (ma_cons (me_var (pv 1)) (ma_cons (me_c pe_int) ma_nil)) (by decide) (by decide))))
    (mss_cons (ms_set (i := 4) sc_law.nd rfl (Or.inl rfl) (me_lst ma_nil (by show 0 ≤ sizeLine; decide)))
    (mss_cons (ms_forR1 (ma_cons (me_call (is := [0]) (sim_law_pick T) (hr.mono (by decide)) takes0 rfl T.m_law_pick T.F_law_pick.kp T.b_law_pick (ma_cons (me_var (pv 1)) (ma_cons (me_c pe_int) ma_nil)) (by decide) (by decide)) ma_nil) (mg_name (i := 5) sc_law.nd rfl (Or.inl rfl))
    (mss_one (ms_expr (me_bm (me_var (pv 4)) (ma_cons (me_frz (me_call (is := [0]) (sim_law_lot T) (hr.mono (by decide)) takes0 rfl T.m_law_lot T.F_law_lot.kp T.b_law_lot (ma_cons (me_var (pv 1)) (ma_cons (me_add (me_var (pv 3)) (me_var (pv 5))) (ma_cons (me_mul (me_c pe_int) (me_var (pv 5))) ma_nil))) (by decide) (by decide))) ma_nil) fApp_ok (fun a b => pe_bm PySem.F.plainAttrs_list PySem.F.slot_list_append PySem.F.type_list_append mt_append a b)))) rfl T.n_range PassesOwn.never rfl)
    (mss_cons (ms_set (i := 6) sc_law.nd rfl (Or.inl rfl) (me_call (is := [0]) (sim_law_history T) (hr.mono (by decide)) takes0 rfl T.m_law_history T.F_law_history.kp T.b_law_history (ma_cons (me_var (pv 1)) (ma_cons (me_call (is := [0]) (sim_law_pick T) (hr.mono (by decide)) takes0 rfl T.m_law_pick T.F_law_pick.kp T.b_law_pick (ma_cons (me_var (pv 1)) (ma_cons (me_c pe_int) ma_nil)) (by decide) (by decide)) ma_nil)) (by decide) (by decide)))
    (mss_cons (ms_if (mt_cmp (OpR.or op_eq (op_eqD hr.units)) fEq_ok (me_callB (CallR.or call_len call_lenR) fLen_ok (by rfl) T.n_len (by decide +kernel) (ma_cons (me_var (pv 6)) ma_nil)) (me_c pe_int) (nomark _)) (mss_one (ms_ret (me_c pe_bl)))
    mss_nil)
    (mss_cons (ms_set (i := 7) sc_law.nd rfl (Or.inl rfl) (me_ixA hr.units (me_var (pv 6)) (me_call (is := [0]) (sim_law_pick T) (hr.mono (by decide)) takes0 rfl T.m_law_pick T.F_law_pick.kp T.b_law_pick (ma_cons (me_var (pv 1)) (ma_cons (me_callB (CallR.or call_len call_lenR) fLen_ok (by rfl) T.n_len (by decide +kernel) (ma_cons (me_var (pv 6)) ma_nil)) ma_nil)) (by decide) (by decide)) (fun _ _ => rfl)))
    (mss_cons (ms_set (i := 8) sc_law.nd rfl (Or.inl rfl) (me_ixA hr.units (me_var (pv 6)) (me_call (is := [0]) (sim_law_pick T) (hr.mono (by decide)) takes0 rfl T.m_law_pick T.F_law_pick.kp T.b_law_pick (ma_cons (me_var (pv 1)) (ma_cons (me_callB (CallR.or call_len call_lenR) fLen_ok (by rfl) T.n_len (by decide +kernel) (ma_cons (me_var (pv 6)) ma_nil)) ma_nil)) (by decide) (by decide)) (fun _ _ => rfl)))
    (mss_cons (ms_clr (i := 10) (ms_lc0 (me_var (pv 4)) (blkOk_by (own := [("_law_told", 10)]) (N := N_law) (sc := defScope s_law) (by decide +kernel)) (fun _ _ _ _ _ => pg_name (i := 10) sc_law.nd rfl (Or.inl rfl)) (fun _ _ _ _ _ => (me_ixA hr.units (me_var (pv 10)) (me_c pe_int) (fun _ _ => rfl))) rfl sc_law.nd rfl rfl (sw_true rfl rfl rfl (by decide +kernel))))
    (mss_cons (ms_for (me_var (pv 4)) (mg_name (i := 10) sc_law.nd rfl (Or.inl rfl))
    (mss_one (ms_if (mt_not (mt_val (me_call (is := []) (sim_law_lot_good T) (hr.mono (by decide)) takes0 rfl T.m_law_lot_good T.F_law_lot_good.kp T.b_law_lot_good (ma_cons (me_var (pv 10)) ma_nil) (by decide) (by decide)))) (mss_one (ms_ret (me_c pe_bl)))
    mss_nil)) PassesOwn.never rfl)
    (mss_cons (ms_if (mw_pt (mw_or (mt_not (mt_val (me_call (is := []) (sim_law_live_good T) (hr.mono (by decide)) takes0 rfl T.m_law_live_good T.F_law_live_good.kp T.b_law_live_good (ma_cons (me_var (pv 9)) (ma_cons (me_var (pv 4)) ma_nil)) (by decide) (by decide)))) (mw_or1 (mt_not (mt_val (me_call (is := []) (sim_law_barred_good T) (hr.mono (by decide)) takes0 rfl T.m_law_barred_good T.F_law_barred_good.kp T.b_law_barred_good (ma_cons (me_var (pv 9)) (ma_cons (me_var (pv 4)) (ma_cons (me_var (pv 2)) (ma_cons (me_var (pv 7)) (ma_cons (me_c pe_non) ma_nil))))) (by decide) (by decide))))))) (mss_one (ms_ret (me_c pe_bl)))
    mss_nil)
    (mss_cons (ms_if (mw_pt (mw_or (mt_not (mt_val (me_call (is := []) (sim_law_barred_good T) (hr.mono (by decide)) takes0 rfl T.m_law_barred_good T.F_law_barred_good.kp T.b_law_barred_good (ma_cons (me_var (pv 9)) (ma_cons (me_var (pv 4)) (ma_cons (me_var (pv 2)) (ma_cons (me_var (pv 7)) (ma_cons (me_var (pv 8)) ma_nil))))) (by decide) (by decide)))) (mw_or1 (mt_not (mt_val (me_call (is := []) (sim_law_barred_good T) (hr.mono (by decide)) takes0 rfl T.m_law_barred_good T.F_law_barred_good.kp T.b_law_barred_good (ma_cons (me_lst ma_nil (by show 0 ≤ sizeLine; decide)) (ma_cons (me_lst ma_nil (by show 0 ≤ sizeLine; decide)) (ma_cons (me_var (pv 2)) (ma_cons (me_var (pv 7)) (ma_cons (me_var (pv 8)) ma_nil))))) (by decide) (by decide))))))) (mss_one (ms_ret (me_c pe_bl)))
    mss_nil)
    (mss_cons (ms_for (me_var (pv 4)) (mg_name (i := 10) sc_law.nd rfl (Or.inl rfl))
    (mss_one (ms_if (mt_not (mt_val (me_call (is := []) (sim_law_lot_good T) (hr.mono (by decide)) takes0 rfl T.m_law_lot_good T.F_law_lot_good.kp T.b_law_lot_good (ma_cons (me_var (pv 10)) ma_nil) (by decide) (by decide)))) (mss_one (ms_ret (me_c pe_bl)))
    mss_nil)) PassesOwn.never rfl)
    (mss_one (ms_ret (me_cmp (OpR.or op_eq (op_eqD hr.units)) fEq_ok (me_lc0 (me_var (pv 9)) (blkOk_by (own := [("_law_lot_here", 11)]) (N := N_law) (sc := defScope s_law) (by decide +kernel)) (fun _ _ _ _ _ => pg_name (i := 11) sc_law.nd rfl (Or.inl rfl)) (fun _ _ _ _ _ => (me_fld (me_var (pv 11)) (fo_number T))) rfl sc_law.nd) (me_clr (i := 5) (me_lcR10 (ma_cons (me_callB (CallR.or call_len call_lenR) fLen_ok (by rfl) T.n_len (by decide +kernel) (ma_cons (me_var (pv 4)) ma_nil)) ma_nil) (blkOk_by (own := [("_law_k", 5)]) (N := N_law) (sc := defScope s_law) (by decide +kernel)) (fun _ _ _ _ _ => pg_name (i := 5) sc_law.nd rfl (Or.inl rfl)) (fun _ _ _ _ _ => (me_add (me_var (pv 3)) (me_var (pv 5)))) rfl T.n_range rfl sc_law.nd)) (nomark _)))))))))))))))))⟩) pl
-- level 7
end
local macro_rules | `(tactic| simp! [$xs,*]) => `(tactic| simp [gSeq_e, bE_ok, bE_ex, bE_ite, gNil_e, gC_e, ok_ite, gVar_e, varE_tr, varE_al, gNot_e, nE_ok, nE_ite, gAnd_e, aE_ok, aE_ite, aE_ex, gOrB_e, oE_ok, oE_ite, oE_ex, gIf_e, iE_ok, iE_ite, noEx_e, xE_ok, sSeq_e, bS_nx, bS_rt, bS_bk, bS_ct, bS_ex, bS_ite, sNil_e, sIf_e, iS_ok, iS_ex, iS_ite, sRet_e, rS_ok, rS_ex, rS_ite, sExpr_e, eS_ok, eS_ex, eS_ite, nxO_some, kS_ok, kS_ex, kS_ite, sSet_e, sAsg_e, sSubA_e, sFldS_e, gCall_e, c1_some, c2_some, c3_rt, c3_ex, c3_ite, gMake_e, k1_some, k2_rt, k2_ex, k2_ite, gChain_e, h1_ok, h2_ok, sPar_e, pS2_ok, sPar3_e, pS3_ok, sSubB_e, gCon_e, gK0_e, fKD_e, runF_e, fR_ite, fR_nx, fR_rt, fR_ex, rt_ite, int_ite, bl_ite, nos, fP1, fP2, FI, cT, viewE, kidE, kidX, kid, eff, cp, cpL, esc, escL, fFld, fIxA, fIx, fIxK, gOr, fNew, popN, mkN, fMv, fFrz, outP, Ent.tree, extAll, extAt, argT, resAll, resAt, getG, getT, getP, setG, setT, kill, killR_tr, killR_no, killR_al, killE_tr, killE_no, killE_al, killJ_tr, killJ_no, killJ_al, pre, nbel, chkI, chkL, List.lookup, fAdd, fSub, fDiv, fMod, fLt, fLe, fGt, fGe, cMul, cPos, cDiv, fEq, fNe, FEq_int, FEq_row, FEq_tup, FEq_pair, FEq_mat, FEq_str, FEq_bl, fIn, fNotIn, fInA, fNotInA, FInD, kit_int_int, kit_int_bool, kit_int_str, kit_int_list, kit_int_tuple, kit_int_dict, kit_bool_int, kit_bool_bool, kit_bool_str, kit_bool_list, kit_bool_tuple, kit_bool_dict, kit_str_int, kit_str_bool, kit_str_str, kit_str_list, kit_str_tuple, kit_str_dict, kit_list_int, kit_list_bool, kit_list_str, kit_list_list, kit_list_tuple, kit_list_dict, kit_tuple_int, kit_tuple_bool, kit_tuple_str, kit_tuple_list, kit_tuple_tuple, kit_tuple_dict, kit_dict_int, kit_dict_bool, kit_dict_str, kit_dict_list, kit_dict_tuple, kit_dict_dict, kit_NoneType_int, kit_NoneType_bool, kit_NoneType_str, kit_NoneType_list, kit_NoneType_tuple, kit_NoneType_dict, FIn_l, FIn_t, ixL_1_0, ixL_2_0, ixL_2_1, ixL_3_0, ixL_3_1, ixL_3_2, ixL_4_0, ixL_4_1, ixL_4_2, ixL_4_3, ixL_5_0, ixL_5_1, ixL_5_2, ixL_5_3, ixL_5_4, ixL_6_0, ixL_6_1, ixL_6_2, ixL_6_3, ixL_6_4, ixL_6_5, ixL_7_0, ixL_7_1, ixL_7_2, ixL_7_3, ixL_7_4, ixL_7_5, ixL_7_6, ixL_8_0, ixL_8_1, ixL_8_2, ixL_8_3, ixL_8_4, ixL_8_5, ixL_8_6, ixL_8_7, ixL_9_0, ixL_9_1, ixL_9_2, ixL_9_3, ixL_9_4, ixL_9_5, ixL_9_6, ixL_9_7, ixL_9_8, ixL_10_0, ixL_10_1, ixL_10_2, ixL_10_3, ixL_10_4, ixL_10_5, ixL_10_6, ixL_10_7, ixL_10_8, ixL_10_9, ixL_11_0, ixL_11_1, ixL_11_2, ixL_11_3, ixL_11_4, ixL_11_5, ixL_11_6, ixL_11_7, ixL_11_8, ixL_11_9, ixL_11_10, ixL_12_0, ixL_12_1, ixL_12_2, ixL_12_3, ixL_12_4, ixL_12_5, ixL_12_6, ixL_12_7, ixL_12_8, ixL_12_9, ixL_12_10, ixL_12_11, fIsN, fNotN, FIs, fIsB, FIsB, fIsBV, FIsBV, fNotBV, fNotB, fLen, FLen, fInt, FInt, fIsi, FIsi, tyN, fApp, fPopA, fPop, stSubA, stSub, stSubK, stFld, unpk, unpkT, sTryRe, bindAll, unpkP, sRaise, sRetN, sFAug, sSAug, sAug, fAddI, fSubI, bind, fNeg, FNeg, fTup, fLst, itemsE, kidL, kidL_iT, gClr, sClr, clr, fEqE, FEqE, mapk_iT, kidc_iT, set_iT, set_rowT, -List.map_set, -List.map_append, app_iT, app_map, FS, fCat, -getElem?_pos, List.getElem?_cons_zero, fMvD, fHid, CMul, gDc0, gD0, ready, cpE, fInB, fNotInB, FInT, keyT, keysA, keyOf, stSubB, stSubT, fPut1, fInO, fCon, fRevL, atoms, $xs,*])
local macro_rules | `(tactic| simp! []) => `(tactic| simp [gSeq_e, bE_ok, bE_ex, bE_ite, gNil_e, gC_e, ok_ite, gVar_e, varE_tr, varE_al, gNot_e, nE_ok, nE_ite, gAnd_e, aE_ok, aE_ite, aE_ex, gOrB_e, oE_ok, oE_ite, oE_ex, gIf_e, iE_ok, iE_ite, noEx_e, xE_ok, sSeq_e, bS_nx, bS_rt, bS_bk, bS_ct, bS_ex, bS_ite, sNil_e, sIf_e, iS_ok, iS_ex, iS_ite, sRet_e, rS_ok, rS_ex, rS_ite, sExpr_e, eS_ok, eS_ex, eS_ite, nxO_some, kS_ok, kS_ex, kS_ite, sSet_e, sAsg_e, sSubA_e, sFldS_e, gCall_e, c1_some, c2_some, c3_rt, c3_ex, c3_ite, gMake_e, k1_some, k2_rt, k2_ex, k2_ite, gChain_e, h1_ok, h2_ok, sPar_e, pS2_ok, sPar3_e, pS3_ok, sSubB_e, gCon_e, gK0_e, fKD_e, runF_e, fR_ite, fR_nx, fR_rt, fR_ex, rt_ite, int_ite, bl_ite, nos, fP1, fP2, FI, cT, viewE, kidE, kidX, kid, eff, cp, cpL, esc, escL, fFld, fIxA, fIx, fIxK, gOr, fNew, popN, mkN, fMv, fFrz, outP, Ent.tree, extAll, extAt, argT, resAll, resAt, getG, getT, getP, setG, setT, kill, killR_tr, killR_no, killR_al, killE_tr, killE_no, killE_al, killJ_tr, killJ_no, killJ_al, pre, nbel, chkI, chkL, List.lookup, fAdd, fSub, fDiv, fMod, fLt, fLe, fGt, fGe, cMul, cPos, cDiv, fEq, fNe, FEq_int, FEq_row, FEq_tup, FEq_pair, FEq_mat, FEq_str, FEq_bl, fIn, fNotIn, fInA, fNotInA, FInD, kit_int_int, kit_int_bool, kit_int_str, kit_int_list, kit_int_tuple, kit_int_dict, kit_bool_int, kit_bool_bool, kit_bool_str, kit_bool_list, kit_bool_tuple, kit_bool_dict, kit_str_int, kit_str_bool, kit_str_str, kit_str_list, kit_str_tuple, kit_str_dict, kit_list_int, kit_list_bool, kit_list_str, kit_list_list, kit_list_tuple, kit_list_dict, kit_tuple_int, kit_tuple_bool, kit_tuple_str, kit_tuple_list, kit_tuple_tuple, kit_tuple_dict, kit_dict_int, kit_dict_bool, kit_dict_str, kit_dict_list, kit_dict_tuple, kit_dict_dict, kit_NoneType_int, kit_NoneType_bool, kit_NoneType_str, kit_NoneType_list, kit_NoneType_tuple, kit_NoneType_dict, FIn_l, FIn_t, ixL_1_0, ixL_2_0, ixL_2_1, ixL_3_0, ixL_3_1, ixL_3_2, ixL_4_0, ixL_4_1, ixL_4_2, ixL_4_3, ixL_5_0, ixL_5_1, ixL_5_2, ixL_5_3, ixL_5_4, ixL_6_0, ixL_6_1, ixL_6_2, ixL_6_3, ixL_6_4, ixL_6_5, ixL_7_0, ixL_7_1, ixL_7_2, ixL_7_3, ixL_7_4, ixL_7_5, ixL_7_6, ixL_8_0, ixL_8_1, ixL_8_2, ixL_8_3, ixL_8_4, ixL_8_5, ixL_8_6, ixL_8_7, ixL_9_0, ixL_9_1, ixL_9_2, ixL_9_3, ixL_9_4, ixL_9_5, ixL_9_6, ixL_9_7, ixL_9_8, ixL_10_0, ixL_10_1, ixL_10_2, ixL_10_3, ixL_10_4, ixL_10_5, ixL_10_6, ixL_10_7, ixL_10_8, ixL_10_9, ixL_11_0, ixL_11_1, ixL_11_2, ixL_11_3, ixL_11_4, ixL_11_5, ixL_11_6, ixL_11_7, ixL_11_8, ixL_11_9, ixL_11_10, ixL_12_0, ixL_12_1, ixL_12_2, ixL_12_3, ixL_12_4, ixL_12_5, ixL_12_6, ixL_12_7, ixL_12_8, ixL_12_9, ixL_12_10, ixL_12_11, fIsN, fNotN, FIs, fIsB, FIsB, fIsBV, FIsBV, fNotBV, fNotB, fLen, FLen, fInt, FInt, fIsi, FIsi, tyN, fApp, fPopA, fPop, stSubA, stSub, stSubK, stFld, unpk, unpkT, sTryRe, bindAll, unpkP, sRaise, sRetN, sFAug, sSAug, sAug, fAddI, fSubI, bind, fNeg, FNeg, fTup, fLst, itemsE, kidL, kidL_iT, gClr, sClr, clr, fEqE, FEqE, mapk_iT, kidc_iT, set_iT, set_rowT, -List.map_set, -List.map_append, app_iT, app_map, FS, fCat, -getElem?_pos, List.getElem?_cons_zero, fMvD, fHid, CMul, gDc0, gD0, ready, cpE, fInB, fNotInB, FInT, keyT, keysA, keyOf, stSubB, stSubT, fPut1, fInO, fCon, fRevL, atoms])
/-! images as plain data -/
structure Pl where
  b : Int
  n : Int
  s : Int
  mp : Int
  fn : Int
  fd : Int
abbrev plT (o : Ow) (P : Pl) : Tr := .nd (.ins 0 6) o [iT P.b, iT P.n, iT P.s, iT P.mp, iT P.fn, iT P.fd]
abbrev matT (M : List (List Int)) : Tr := .nd .lst .own (M.map rowT)
abbrev imgT (o : Ow) (P : Pl) (M : List (List Int)) (hs ss : List Int) (se wi : Int) (ba : List Int) : Tr := .nd (.ins 1 8) o [plT .frz P, matT M, rowT hs, rowT ss, .nd (.dct []) .own [], iT se, iT wi, tupT ba]
def zero8 : List Int := List.replicate 8 0
theorem z8L {Γ s : List Ent} : fMul ⟨Γ, .tr (.a (.int 8)) :: .tr (.nd .lst .own [.a (.int 0)]) :: s⟩ = some (.ok ⟨Γ, .tr (rowT zero8) :: s⟩) := fMul_rep (by decide) (by decide)
theorem z8len : zero8.length = 8 := rfl
def rowZ (M : List (List Int)) (j : Int) : List Int := M.getD j.toNat []
def cellZ (M : List (List Int)) (j c : Int) : Int := gz (rowZ M j) c
def kindZ (fd : Int) (M : List (List Int)) (x : Int) : Int := if x < fd then 1 else if cellZ M (2 + x / 8) (x % 8) = 1 ∨ cellZ M (2 + x / 8) (x % 8) = 2 then cellZ M (2 + x / 8) (x % 8) else 0
structure PWf (P : Pl) : Prop where
  b1 : 8 ≤ P.b
  b2 : P.b ≤ 64
  f1 : 0 ≤ P.fd
  f2 : P.fd ≤ P.b
structure MWf (b : Int) (M : List (List Int)) : Prop where
  len : (M.length : Int) = b
  row : ∀ r ∈ M, r.length = 8
theorem MWf.get {b : Int} {M : List (List Int)} (w : MWf b M) {j : Int} (h0 : 0 ≤ j) (h1 : j < b) : M[j.toNat]? = some (rowZ M j) := by
  have hl := w.len
  exact getD_of (by omega)
theorem MWf.get8 {b : Int} {M : List (List Int)} (w : MWf b M) {j : Int} (h0 : 0 ≤ j) (h1 : j < b) : (rowZ M j).length = 8 := w.row _ (List.mem_of_getElem? (w.get h0 h1))
theorem MWf.cell {b : Int} {M : List (List Int)} (w : MWf b M) {j c : Int} (h0 : 0 ≤ j) (h1 : j < b) (c0 : 0 ≤ c) (c1 : c < 8) : (rowZ M j)[c.toNat]? = some (cellZ M j c) := by
  have := w.get8 h0 h1
  exact gz_get c0 (by omega)
theorem MWf.ix {b : Int} {M : List (List Int)} (w : MWf b M) {j : Int} (h0 : 0 ≤ j) (h1 : j < b) : ixN M.length j = some j.toNat := ixN_len h0 (by have := w.len; omega)
theorem MWf.set {b : Int} {M : List (List Int)} (w : MWf b M) {j : Nat} {r : List Int} (h : r.length = 8) : MWf b (M.set j r) := ⟨by rw [List.length_set]; exact w.len, fun x hx => by
  rcases List.mem_or_eq_of_mem_set hx with z | z
  · exact w.row x z
  · rw [z]; exact h⟩
section
variable {P : Pl} {M : List (List Int)} {hs ss ba : List Int} {se wi x : Int} {o : Ow}
theorem G_map_place : G_Plan_map_place [plT o P, iT x] = some (.rt (.nd .tup .own [iT (2 + x / 8), iT (x % 8)]) [.any, .any]) := by rfl
theorem G_kind (p : PWf P) (w : MWf P.b M) (h0 : 0 ≤ x) (h1 : x < P.b) : G_Image_kind [imgT .lnt P M hs ss se wi ba, iT x] = some (.rt (iT (kindZ P.fd M x)) [.any, .any]) ∧ G_Image_kind [imgT .frz P M hs ss se wi ba, iT x] = some (.rt (iT (kindZ P.fd M x)) [.any, .any]) := by
  obtain ⟨b1, b2, b3, b4⟩ := p
  have key := @G_map_place P x .frz
  have a1 := w.ix (j := 2 + x / 8) (by omega) (by omega)
  have a2 := w.get (j := 2 + x / 8) (by omega) (by omega)
  have a3 := w.cell (j := 2 + x / 8) (c := x % 8) (by omega) (by omega) (by omega) (by omega)
  have a4 := w.get8 (j := 2 + x / 8) (by omega) (by omega)
  have a5 := ixN_len (n := 8) (i := x % 8) (by omega) (by omega)
  unfold kindZ
  by_cases h : x < P.fd
  · constructor <;> simp! [G_Image_kind, g_Image_kind, h]
  · constructor <;> simp! [G_Image_kind, g_Image_kind, h, key, a1, a2, a3, a4, a5]
theorem G_begin {ba2 : List Int} : G_Image_begin [imgT .own P M hs ss se wi ba, iT x, tupT ba2] = some (.rt (.a .non) [imgT .own P M hs ss (se + 1) x ba2, .any, .any]) := by
  simp! [G_Image_begin, g_Image_begin]
theorem G_init (p : PWf P) : G_Image_init [.nd (.ins 1 0) .own [], plT .frz P] = some (.rt (.a .non) [imgT .own P (List.replicate P.b.toNat zero8) (List.replicate P.b.toNat 0) (List.replicate P.b.toNat 0) 0 0 [], .any]) := by
  obtain ⟨b1, b2, b3, b4⟩ := p
  have z8 := @z8L
  have zb := fun {Γ s z} => @fMul_rep Γ s P.b z (by omega) (by omega)
  simp! [G_Image_init, g_Image_init]
  rw [gLcR1P (j := P.b) (by simp! []) (by omega) (by omega) rfl rfl rfl rfl (fun _ => true) (fun _ => rowT zero8) (fun x s' _ _ => rfl) (fun x s' _ _ _ => ⟨by simp! [e_Image_init_1, z8], rfl⟩), filt_true, rng_map_const]
  simp! [zb]
theorem G_twin (w : MWf P.b M) (p : PWf P) : G_Image_twin [imgT .lnt P M hs ss se wi ba] = some (.rt (imgT .own P M hs ss se wi ba) [.any]) := by
  have hi := @G_init P p
  have hl := w.len
  obtain ⟨b1, b2, b3, b4⟩ := p
  simp! [G_Image_twin, g_Image_twin, hi]
  rw [gLcP_is (xs := M) (enc := rowT) (.tr (.nd .lst .lnt (M.map rowT))) (.tr (.nd .lst .lnt (M.map rowT))) .lst .lnt (by simp! []) (by simp! []) rfl rfl (by omega) rfl rfl rfl rfl rfl (fun x _ => rfl) (fun _ => true) rowT (fun x _ s' => rfl) (fun x _ s' _ => ⟨by simp! [e_Image_twin_1], by simp! []⟩), filt_true]
  simp! []
theorem G_free (p : PWf P) (w : MWf P.b M) : G_Image_free_blocks [imgT .lnt P M hs ss se wi ba] = some (.rt (rowT ((rng P.fd (P.b - P.fd).toNat).filter (fun x => decide (kindZ P.fd M x = 0)))) [.any]) := by
  have hk := fun {x} => @G_kind P M hs ss ba se wi x p w
  have hl := w.len
  obtain ⟨b1, b2, b3, b4⟩ := p
  simp! [G_Image_free_blocks, g_Image_free_blocks]
  rw [gLcR2P (i := P.fd) (j := P.b) (by simp! []) (by omega) (by omega) (by omega) (by omega) (by omega) rfl rfl rfl rfl (fun x => decide (kindZ P.fd M x = 0)) iT (fun x s' h1 h2 => by have hk := (hk (x := x) (by omega) h2).1; simp! [t_Image_free_blocks_1, hk]) (fun x s' h1 h2 _ => ⟨by simp! [e_Image_free_blocks_1], rfl⟩)]
  simp! []
def putK (M : List (List Int)) (x kd : Int) : List (List Int) := M.set (2 + x / 8).toNat ((rowZ M (2 + x / 8)).set (x % 8).toNat kd)
theorem GG_put_kind {kd : Int} {qs : List (List Nat)} (hq : qs = [] ∨ qs = [[0, 1, 0]]) (p : PWf P) (w : MWf P.b M) (h0 : 0 ≤ x) (h1 : x < P.b) : GG_Image_put_kind [imgT .own P M hs ss se wi ba, iT x, iT kd] qs = some (.rt (.a .non) [imgT .own P (putK M x kd) hs ss se wi ba, .any, .any], qs.map .al) := by
  obtain ⟨b1, b2, b3, b4⟩ := p
  have key := @G_map_place P x .frz
  have a1 := w.ix (j := 2 + x / 8) (by omega) (by omega)
  have a2 := w.get (j := 2 + x / 8) (by omega) (by omega)
  have a3 := w.cell (j := 2 + x / 8) (c := x % 8) (by omega) (by omega) (by omega) (by omega)
  have a4 := w.get8 (j := 2 + x / 8) (by omega) (by omega)
  have a5 := ixN_len (n := 8) (i := x % 8) (by omega) (by omega)
  have a6 : ¬ (2 + x / 8).toNat = 0 := by omega
  rcases hq with rfl | rfl
  · simp! [GG_Image_put_kind, g_Image_put_kind, runG, key, a1, a2, a3, a4, a5, putK]
  · simp! [GG_Image_put_kind, g_Image_put_kind, runG, key, a1, a2, a3, a4, a5, putK, a6]
/-- the block that is given out -/
def letZ (P : Pl) (M : List (List Int)) (ba : List Int) (kd : Int) : List Int := ((rng P.fd (P.b - P.fd).toNat).filter (fun x => decide (kindZ P.fd M x = 0))).filter (fun x => decide (kd ≠ 2) || !decide (x ∈ ba))
def pickZ (l : List Int) (wi : Int) : Int := if (l.filter (fun x => decide (wi ≤ x))).length > 0 then gz (l.filter (fun x => decide (wi ≤ x))) 0 else gz l 0
theorem pick_mem {l : List Int} {wi : Int} (h : l.length ≠ 0) : pickZ l wi ∈ l := by
  unfold pickZ
  split
  · rename_i h1
    have : gz (l.filter (fun x => decide (wi ≤ x))) 0 ∈ l.filter (fun x => decide (wi ≤ x)) := by
      have := gz_get (xs := l.filter (fun x => decide (wi ≤ x))) (i := 0) (by omega) (by omega)
      exact List.mem_of_getElem? this
    exact (List.mem_filter.mp this).1
  · have := gz_get (xs := l) (i := 0) (by omega) (by omega)
    exact List.mem_of_getElem? this
theorem mem_let {P : Pl} {M : List (List Int)} {ba : List Int} {kd x : Int} (h : x ∈ letZ P M ba kd) : P.fd ≤ x ∧ x < P.b ∧ kindZ P.fd M x = 0 := by
  unfold letZ at h
  have h2 := List.mem_filter.mp (List.mem_filter.mp h).1
  have h3 := mem_rng.mp h2.1
  exact ⟨h3.1, by omega, by simpa using h2.2⟩
theorem let_len (P : Pl) (M : List (List Int)) (ba : List Int) (kd : Int) : (letZ P M ba kd).length ≤ (P.b - P.fd).toNat := by
  unfold letZ
  refine Nat.le_trans (List.length_filter_le _ _) (Nat.le_trans (List.length_filter_le _ _) ?_)
  rw [rng_len]
  exact Nat.le_refl _
def sumZ (M : List (List Int)) (ow d : Int) : List (List Int) := M.set 0 ((rowZ M 0).set ow.toNat (cellZ M 0 ow + d))
theorem G_take {kd ow : Int} (p : PWf P) (w : MWf P.b M) (l1 : (hs.length : Int) = P.b) (l2 : (ss.length : Int) = P.b) (o0 : 0 ≤ ow) (o1 : ow < 4) (hf : 2 ≤ P.fd) (hq : ¬ (cellZ M 0 (4 + ow) ≠ 0 ∧ cellZ M 0 (4 + ow) ≤ cellZ M 0 ow)) (hl : (letZ P M ba kd).length ≠ 0) :
    G_Image_take [imgT .own P M hs ss se wi ba, iT kd, iT ow] = some (.rt (iT (pickZ (letZ P M ba kd) wi)) [imgT .own P (sumZ (putK (M.set (pickZ (letZ P M ba kd) wi).toNat zero8) (pickZ (letZ P M ba kd) wi) kd) ow 1) (hs.set (pickZ (letZ P M ba kd) wi).toNat se) (ss.set (pickZ (letZ P M ba kd) wi).toNat se) se wi ba, .any, .any]) := by
  have hfr := @G_free P M hs ss ba se wi p w
  have hm := mem_let (pick_mem (wi := wi) hl)
  have hll := let_len P M ba kd
  have hp := p
  obtain ⟨b1, b2, b3, b4⟩ := p
  have a1 := w.ix (j := 0) (by omega) (by omega)
  have a2 := w.get (j := 0) (by omega) (by omega)
  have a3 := w.cell (j := 0) (c := 4 + ow) (by omega) (by omega) (by omega) (by omega)
  have a4 := w.get8 (j := 0) (by omega) (by omega)
  have a5 := ixN_len (n := 8) (i := 4 + ow) (by omega) (by omega)
  have a6 := w.cell (j := 0) (c := ow) (by omega) (by omega) (by omega) (by omega)
  have a7 := ixN_len (n := 8) (i := ow) (by omega) (by omega)
  simp only [Int.toNat_zero] at a1 a2 a3 a6
  have z8 := @z8L
  have hq1 : (!(decide (cellZ M 0 (4 + ow) = 0)) && decide (cellZ M 0 (4 + ow) ≤ cellZ M 0 ow)) = false := by
    by_cases h1 : cellZ M 0 (4 + ow) = 0 <;> by_cases h2 : cellZ M 0 (4 + ow) ≤ cellZ M 0 ow <;> simp_all
  unfold G_Image_take g_Image_take
  simp! [a1, a2, a3, a4, a5, a6, a7]
  rw [if_neg (by simpa using hq)]
  generalize hL0 : (rng P.fd (P.b - P.fd).toNat).filter (fun x => decide (kindZ P.fd M x = 0)) = L0 at hfr
  have hL : letZ P M ba kd = L0.filter (fun x => decide (kd ≠ 2) || !decide (x ∈ ba)) := by rw [← hL0]; rfl
  have hl0 : L0.length ≤ 64 := by
    have h1 := List.length_filter_le (fun x => decide (kindZ P.fd M x = 0)) (rng P.fd (P.b - P.fd).toNat)
    rw [hL0, rng_len] at h1
    omega
  rw [gLcP_is (xs := L0) (enc := iT) (.tr (rowT L0)) (.tr (.nd .lst .lnt (L0.map iT))) .lst .lnt (by simp! [hfr]) (by simp! []) rfl rfl (by omega) rfl rfl rfl rfl rfl (fun x _ => rfl) (fun x => decide (kd ≠ 2) || !decide (x ∈ ba)) iT (fun x _ s' => by by_cases h : kd = 2 <;> simp! [t_Image_take_1, h]) (fun x _ s' _ => ⟨by simp! [e_Image_take_1], by simp! []⟩), ← hL]
  generalize letZ P M ba kd = L at *
  simp! [hl]
  rw [gLcP_is (xs := L) (enc := iT) (.al [4]) (.al [4]) .lst .own (by simp! []) (by simp! []) rfl rfl (by omega) rfl rfl rfl rfl rfl (fun x _ => rfl) (fun x => decide (wi ≤ x)) iT (fun x _ s' => by simp! [t_Image_take_2]) (fun x _ s' _ => ⟨by simp! [e_Image_take_2], by simp! []⟩)]
  have g0 := gz_get (xs := L) (i := 0) (by omega) (by omega)
  simp only [Int.toNat_zero] at g0
  have g1 := ixN_len (n := L.length) (i := 0) (by omega) (by omega)
  simp only [Int.toNat_zero] at g1
  generalize hLL : L.filter (fun x => decide (wi ≤ x)) = LL at *
  have hX : (if LL.length > 0 then gz LL 0 else gz L 0) = pickZ L wi := by unfold pickZ; rw [hLL]
  have w1 : MWf P.b (M.set (pickZ L wi).toNat zero8) := w.set z8len
  have hpk := @GG_put_kind P (M.set (pickZ L wi).toNat zero8) hs ss ba se wi (pickZ L wi) kd [[0, 1, 0]] (.inr rfl) hp w1 (by omega) (by omega)
  have w2 : MWf P.b (putK (M.set (pickZ L wi).toNat zero8) (pickZ L wi) kd) := w1.set (by rw [List.length_set]; exact w1.get8 (by omega) (by omega))
  have c1 := ixN_len (n := M.length) (i := pickZ L wi) (by omega) (by have := w.len; omega)
  have c2 := ixN_len (n := hs.length) (i := pickZ L wi) (by omega) (by omega)
  have c3 := ixN_len (n := ss.length) (i := pickZ L wi) (by omega) (by omega)
  have c4 : ¬ (pickZ L wi).toNat = 0 := by omega
  have hM : 0 < M.length := by have := w.len; omega
  have d2 := w2.get (j := 0) (by omega) (by omega)
  have d3 := w2.cell (j := 0) (c := ow) (by omega) (by omega) (by omega) (by omega)
  have d4 := w2.get8 (j := 0) (by omega) (by omega)
  simp only [Int.toNat_zero] at d2 d3
  by_cases h : LL.length > 0
  · have g2 := gz_get (xs := LL) (i := 0) (by omega) (by omega)
    have g3 := ixN_len (n := LL.length) (i := 0) (by omega) (by omega)
    simp only [Int.toNat_zero] at g2 g3
    rw [if_pos h] at hX
    simp! [g0, g1, g2, g3, h, hX, z8, c1, c2, c3, c4, d2, d3, d4, a7, hM, hpk, gCallG, ghosts, rel, reAls, sumZ]
  · rw [if_neg h] at hX
    simp! [g0, g1, h, hX, z8, c1, c2, c3, c4, d2, d3, d4, a7, hM, hpk, gCallG, ghosts, rel, reAls, sumZ]
theorem G_give {ow : Int} (p : PWf P) (w : MWf P.b M) (l1 : (hs.length : Int) = P.b) (l2 : (ss.length : Int) = P.b) (o0 : 0 ≤ ow) (o1 : ow < 4) (h0 : 2 ≤ x) (h1 : x < P.b) :
    G_Image_give [imgT .own P M hs ss se wi ba, iT x, iT ow] = some (.rt (.a .non) [imgT .own P (sumZ (putK (M.set x.toNat zero8) x 0) ow (-1)) (hs.set x.toNat 0) (ss.set x.toNat 0) se wi ba, .any, .any]) := by
  have hp := p
  obtain ⟨b1, b2, b3, b4⟩ := p
  have w1 : MWf P.b (M.set x.toNat zero8) := w.set z8len
  have hpk := @GG_put_kind P (M.set x.toNat zero8) hs ss ba se wi x 0 [] (.inl rfl) hp w1 (by omega) (by omega)
  have w2 : MWf P.b (putK (M.set x.toNat zero8) x 0) := w1.set (by rw [List.length_set]; exact w1.get8 (by omega) (by omega))
  have c1 := ixN_len (n := M.length) (i := x) (by omega) (by have := w.len; omega)
  have c2 := ixN_len (n := hs.length) (i := x) (by omega) (by omega)
  have c3 := ixN_len (n := ss.length) (i := x) (by omega) (by omega)
  have c5 := w2.ix (j := 0) (by omega) (by omega)
  have d2 := w2.get (j := 0) (by omega) (by omega)
  have d3 := w2.cell (j := 0) (c := ow) (by omega) (by omega) (by omega) (by omega)
  have d4 := w2.get8 (j := 0) (by omega) (by omega)
  have d5 := ixN_len (n := 8) (i := ow) (by omega) (by omega)
  simp only [Int.toNat_zero] at d2 d3 c5
  have z8 := @z8L
  unfold G_Image_give g_Image_give
  simp! [z8, c1, c2, c3, c5, d2, d3, d4, d5, hpk, gCallG, ghosts, rel, reAls, sumZ]
  rfl
/-- stamps behind a deed -/
def stZ (hs ss : List Int) (se : Int) (M M0 : List (List Int)) (x : Int) : Int := if gz hs x = se then se else if gz hs x ≠ 0 ∧ rowZ M x ≠ rowZ M0 x then se else gz ss x
theorem G_settle {M0 : List (List Int)} {hs0 ss0 ba0 : List Int} {se0 wi0 : Int} (p : PWf P) (w : MWf P.b M) (w0 : MWf P.b M0) (l1 : (hs.length : Int) = P.b) (l2 : (ss.length : Int) = P.b) :
    ∃ ss' : List Int, G_Image_settle [imgT .own P M hs ss se wi ba, imgT .lnt P M0 hs0 ss0 se0 wi0 ba0] = some (.rt (.a .non) [imgT .own P M hs ss' se wi ba, .any]) ∧ ss'.length = ss.length ∧ ∀ x, 0 ≤ x → x < P.b → gz ss' x = stZ hs ss se M M0 x := by
  obtain ⟨b1, b2, b3, b4⟩ := p
  unfold G_Image_settle g_Image_settle
  rw [runF_e, sForR1_e (n := P.b) (Γ := [.tr (imgT .own P M hs ss se wi ba), .tr (imgT .lnt P M0 hs0 ss0 se0 wi0 ba0), .no]) (s := []) (by simp! []) (by omega) (by omega)]
  obtain ⟨o, h1, h2⟩ := loopR_inv (m := ⟨[.tr (imgT .own P M hs ss se wi ba), .tr (imgT .lnt P M0 hs0 ss0 se0 wi0 ba0), .no], []⟩) (bd := bind md_Image_settle 2) (gs := b_Image_settle_1) (lo := 0) (n := P.b.toNat)
    (fun i m => ∃ e ss1, m = ⟨[.tr (imgT .own P M hs ss1 se wi ba), .tr (imgT .lnt P M0 hs0 ss0 se0 wi0 ba0), e], []⟩ ∧ ss1.length = ss.length ∧ ∀ x, 0 ≤ x → x < P.b → gz ss1 x = if x < i then stZ hs ss se M M0 x else gz ss x)
    (fun o => ∃ e ss1, o = .nx ⟨[.tr (imgT .own P M hs ss1 se wi ba), .tr (imgT .lnt P M0 hs0 ss0 se0 wi0 ba0), e], []⟩ ∧ ss1.length = ss.length ∧ ∀ x, 0 ≤ x → x < P.b → gz ss1 x = stZ hs ss se M M0 x)
    ⟨_, ss, rfl, rfl, fun x h1 _ => by rw [if_neg (by omega)]⟩
    (by
      rintro m ⟨e, ss1, rfl, hl, hx⟩
      exact ⟨e, ss1, rfl, hl, fun x h1 h2 => by rw [hx x h1 h2, if_pos (by omega)]⟩)
    (by
      rintro i m hi ⟨e, ss1, rfl, hl, hx⟩
      have hb : bind md_Image_settle 2 ⟨[.tr (imgT .own P M hs ss1 se wi ba), .tr (imgT .lnt P M0 hs0 ss0 se0 wi0 ba0), e], [.tr (.a (.int (0 + i)))]⟩ = some ⟨[.tr (imgT .own P M hs ss1 se wi ba), .tr (imgT .lnt P M0 hs0 ss0 se0 wi0 ba0), .tr (iT i)], []⟩ := by
        simp! []
      have a1 := ixN_len (n := hs.length) (i := (i : Int)) (by omega) (by omega)
      have a2 := ixN_len (n := ss1.length) (i := (i : Int)) (by omega) (by omega)
      have a3 := w.ix (j := (i : Int)) (by omega) (by omega)
      have a4 := w0.ix (j := (i : Int)) (by omega) (by omega)
      have a5 := w.get (j := (i : Int)) (by omega) (by omega)
      have a6 := w0.get (j := (i : Int)) (by omega) (by omega)
      have a7 := gz_get (xs := hs) (i := (i : Int)) (by omega) (by omega)
      simp only [Int.toNat_natCast] at a1 a2 a3 a4 a5 a6 a7
      have upd : ∀ v, stZ hs ss se M M0 i = v → ∀ x, 0 ≤ x → x < P.b → gz (ss1.set i v) x = if x < ((i + 1 : Nat) : Int) then stZ hs ss se M M0 x else gz ss x := fun v hv x h1 h2 => by
        have := gz_set (xs := ss1) (i := (i : Int)) (j := x) (v := v) (by omega) (by omega) h1
        simp only [Int.toNat_natCast] at this
        rw [this]
        by_cases c : x = i
        · rw [if_pos c, if_pos (by omega), c, hv]
        · rw [if_neg c, hx x h1 h2]
          by_cases c2 : x < i
          · rw [if_pos c2, if_pos (by omega)]
          · rw [if_neg c2, if_neg (by omega)]
      by_cases c1 : gz hs i = se
      · refine ⟨_, .nx ⟨[.tr (imgT .own P M hs (ss1.set i se) se wi ba), .tr (imgT .lnt P M0 hs0 ss0 se0 wi0 ba0), .tr (iT i)], []⟩, hb, by simp! [b_Image_settle_1, a1, a2, a3, a4, a5, a6, a7, c1], _, _, rfl, by simpa using hl, upd se (by unfold stZ; rw [if_pos c1])⟩
      · by_cases c2 : gz hs i ≠ 0 ∧ rowZ M i ≠ rowZ M0 i
        · refine ⟨_, .nx ⟨[.tr (imgT .own P M hs (ss1.set i se) se wi ba), .tr (imgT .lnt P M0 hs0 ss0 se0 wi0 ba0), .tr (iT i)], []⟩, hb, by simp! [b_Image_settle_1, a1, a2, a3, a4, a5, a6, a7, c1, c2.1, c2.2, FEq_row], _, _, rfl, by simpa using hl, upd se (by unfold stZ; rw [if_neg c1, if_pos c2])⟩
        · refine ⟨_, .nx ⟨[.tr (imgT .own P M hs ss1 se wi ba), .tr (imgT .lnt P M0 hs0 ss0 se0 wi0 ba0), .tr (iT i)], []⟩, hb, ?_, _, _, rfl, hl, fun x h1 h2 => ?_⟩
          · by_cases c3 : gz hs i = 0
            · have c1' : ¬ (0 : Int) = se := c3 ▸ c1
              simp! [b_Image_settle_1, a1, a2, a3, a4, a5, a6, a7, c1', c3]
            · have c4 : rowZ M i = rowZ M0 i := Classical.not_not.mp fun q => c2 ⟨c3, q⟩
              simp! [b_Image_settle_1, a1, a2, a3, a4, a5, a6, a7, c1, c3, c4, FEq_row]
          · rw [hx x h1 h2]
            by_cases c : x = i
            · rw [if_neg (by omega), if_pos (by omega), c]
              unfold stZ
              rw [if_neg c1, if_neg c2]
            · by_cases c5 : x < i
              · rw [if_pos c5, if_pos (by omega)]
              · rw [if_neg c5, if_neg (by omega)])
  obtain ⟨e, ss1, rfl, h3, h4⟩ := h2
  rw [h1]
  exact ⟨ss1, by simp! [], h3, h4⟩
end
/-! the plan of 24 blocks; numbers that are drawn -/
abbrev P24 : Pl := ⟨24, 5, 30, 3, 5, 10⟩
theorem p24 : PWf P24 := ⟨by decide, by decide, by decide, by decide⟩
theorem G_pick {fs : List Int} {n : Int} (hf : Feed fs) (hn : 0 < n) : ∃ c fs', G_law_pick [rowT fs, iT n] = some (.rt (iT c) [rowT fs', .any]) ∧ 0 ≤ c ∧ c < n ∧ Feed fs' := by
  cases fs with
  | nil => exact ⟨0, [], by simp! [G_law_pick, g_law_pick], by omega, hn, hf⟩
  | cons x fs =>
    have h0 := (hf.2 x List.mem_cons_self)
    have hp : seqIndex? 0 (fs.length + 1) = some 0 := by simp [seqIndex?]
    have h1 : ¬ ((fs.length : Int) + 1 = 0) := by omega
    exact ⟨x % n, fs, by simp! [G_law_pick, g_law_pick, hp, hn, h1], Int.emod_nonneg _ (by omega), Int.emod_lt_of_pos _ hn, hf.tail⟩
theorem filt_eq {L : List Int} {p q : Int → Bool} (h : ∀ x ∈ L, p x = q x) : L.filter p = L.filter q := List.filter_congr h
/-! rows and kinds behind a deed -/
section
variable {M : List (List Int)} {i j x y c d ow kd X : Int} {r : List Int}
theorem rowZ_set (h0 : 0 ≤ i) (h1 : i < M.length) (j0 : 0 ≤ j) : rowZ (M.set i.toNat r) j = if j = i then r else rowZ M j := by
  unfold rowZ
  rw [List.getD_eq_getElem?_getD, List.getD_eq_getElem?_getD]
  by_cases e : j = i
  · rw [if_pos e, e, List.getElem?_set_self (by omega)]
    rfl
  · rw [if_neg e, List.getElem?_set_ne (by omega)]
def deedM (M : List (List Int)) (X kd ow d : Int) : List (List Int) := sumZ (putK (M.set X.toNat zero8) X kd) ow d
theorem deed_w (w : MWf 24 M) (h0 : 10 ≤ X) (h1 : X < 24) : MWf 24 (deedM M X kd ow d) := by
  have w1 : MWf 24 (M.set X.toNat zero8) := w.set z8len
  have w2 : MWf 24 (putK (M.set X.toNat zero8) X kd) := w1.set (by rw [List.length_set]; exact w1.get8 (by omega) (by omega))
  exact w2.set (by rw [List.length_set]; exact w2.get8 (by omega) (by omega))
theorem deed_row (w : MWf 24 M) (h0 : 10 ≤ X) (h1 : X < 24) (j0 : 0 ≤ j) (hj : j ≠ X) : rowZ (deedM M X kd ow d) j = if j = 0 then (rowZ M 0).set ow.toNat (cellZ M 0 ow + d) else if j = 2 + X / 8 then (rowZ M j).set (X % 8).toNat kd else rowZ M j := by
  have w1 : MWf 24 (M.set X.toNat zero8) := w.set z8len
  have w2 : MWf 24 (putK (M.set X.toNat zero8) X kd) := w1.set (by rw [List.length_set]; exact w1.get8 (by omega) (by omega))
  have l := w.len
  have l1 := w1.len
  have l2 := w2.len
  have e2 : ∀ k, 0 ≤ k → k ≠ X → rowZ (putK (M.set X.toNat zero8) X kd) k = if k = 2 + X / 8 then (rowZ M k).set (X % 8).toNat kd else rowZ M k := fun k k0 kX => by
    unfold putK
    rw [rowZ_set (by omega) (by omega) k0]
    by_cases e : k = 2 + X / 8
    · rw [if_pos e, if_pos e, rowZ_set (by omega) (by omega) (by omega), if_neg (by omega), e]
    · rw [if_neg e, if_neg e, rowZ_set (by omega) (by omega) k0, if_neg kX]
  have e3 := e2 0 (by omega) (by omega)
  rw [if_neg (by omega)] at e3
  unfold deedM sumZ
  have e4 : cellZ (putK (M.set X.toNat zero8) X kd) 0 ow = cellZ M 0 ow := by unfold cellZ; rw [e3]
  rw [e4, e3, show (0 : Nat) = (0 : Int).toNat from rfl, rowZ_set (by omega) (by omega) j0]
  by_cases e : j = 0
  · rw [if_pos e, if_pos e]
  · rw [if_neg e, if_neg e, e2 j j0 hj]
theorem gz_set8 (hr : r.length = 8) (h0 : 0 ≤ i) (h1 : i < 8) (j0 : 0 ≤ j) : gz (r.set i.toNat c) j = if j = i then c else gz r j := gz_set h0 (by omega) j0
theorem deed_kind (w : MWf 24 M) (h0 : 10 ≤ X) (h1 : X < 24) (hk : kd = 0 ∨ kd = 1 ∨ kd = 2) (y0 : 0 ≤ y) (y1 : y < 24) : kindZ 10 (deedM M X kd ow d) y = if y = X then kd else kindZ 10 M y := by
  unfold kindZ
  by_cases e : y < 10
  · rw [if_pos e, if_pos e, if_neg (by omega)]
  · rw [if_neg e, if_neg e]
    have key : cellZ (deedM M X kd ow d) (2 + y / 8) (y % 8) = if y = X then kd else cellZ M (2 + y / 8) (y % 8) := by
      unfold cellZ
      rw [deed_row w h0 h1 (by omega) (by omega), if_neg (by omega)]
      by_cases e2 : 2 + y / 8 = 2 + X / 8
      · rw [if_pos e2, gz_set8 (w.get8 (by omega) (by omega)) (by omega) (by omega) (by omega)]
        by_cases e3 : y = X
        · rw [if_pos e3, if_pos (by rw [e3])]
        · rw [if_neg e3, if_neg (by omega)]
      · rw [if_neg e2, if_neg (by omega)]
    rw [key]
    by_cases e3 : y = X
    · rw [if_pos e3, if_pos e3]
      rcases hk with rfl | rfl | rfl <;> simp
    · rw [if_neg e3, if_neg e3]
theorem set_ne (hr : r.length = 8) (h0 : 0 ≤ i) (h1 : i < 8) (h : gz r i ≠ c) : r.set i.toNat c ≠ r := fun q => by
  have := gz_set8 (c := c) hr h0 h1 h0
  rw [q, if_pos rfl] at this
  exact h this
end
/-! a dict of ints -/
section
variable {k k' : Key} {ks : List Key} {j : Nat}
theorem kix_get : ∀ {ks : List Key} {j : Nat}, kix k ks = some j → ks[j]? = some k
  | [], j, h => by simp [kix] at h
  | x :: ks, j, h => by
    unfold kix at h
    split at h
    · rename_i e
      cases h
      rw [e]; rfl
    · cases hq : kix k ks with
      | none => rw [hq] at h; cases h
      | some q =>
        rw [hq] at h
        cases h
        simpa using kix_get hq
theorem kix_app : ∀ {ks : List Key}, kix k (ks ++ [k']) = (match kix k ks with
    | some j => some j
    | none => if k' = k then some ks.length else none)
  | [] => by simp [kix]
  | x :: ks => by
    have ih := kix_app (ks := ks)
    rw [List.cons_append]
    unfold kix
    by_cases e : x = k
    · rw [if_pos e, if_pos e]
    · rw [if_neg e, if_neg e, ih]
      cases kix k ks with
      | some j => rfl
      | none => by_cases q : k' = k <;> simp [q]
theorem kixN : ∀ {ks : List Key}, kix k ks = none → k ∉ ks
  | [], _ => by simp
  | x :: ks, h => by
    unfold kix at h
    split at h
    · cases h
    · rename_i e
      cases hq : kix k ks with
      | some q => rw [hq] at h; cases h
      | none =>
        have := kixN hq
        intro q
        rcases List.mem_cons.mp q with z | z
        · exact e z.symm
        · exact this z
structure DJ (n : Int) (kk : List Key) (vv ks : List Int) : Prop where
  nd : kk.Nodup
  len : kk.length = vv.length
  bd : (kk.length : Int) ≤ n
  own : ∀ x, 10 ≤ x → x < 24 → gz ks x ≠ 0 → ∃ j ow, kix (.inl x) kk = some j ∧ vv[j]? = some ow ∧ 0 ≤ ow ∧ ow < 4
end
section
variable {ks vv : List Int} {se X kd ow : Int} {kk : List Key}
def dput (kk : List Key) (vv : List Int) (x ow : Int) : List Key × List Int := match kix (.inl x) kk with
  | some j => (kk, vv.set j ow)
  | none => (kk ++ [.inl x], vv ++ [ow])
theorem dput_ok (d : DJ se kk vv ks) (x0 : 10 ≤ X) (x1 : X < 24) (lk : ks.length = 24) (o0 : 0 ≤ ow) (o1 : ow < 4) (q0 : kd ≠ 0) : DJ (se + 1) (dput kk vv X ow).1 (dput kk vv X ow).2 (ks.set X.toNat kd) := by
  have gk : ∀ x, 0 ≤ x → gz (ks.set X.toNat kd) x = if x = X then kd else gz ks x := fun x q => gz_set (by omega) (by omega) q
  have hl := d.len
  unfold dput
  cases hx : kix (.inl X) kk with
  | some j =>
    have hj := kix_get hx
    have hjl := getq_lt' hj
    refine ⟨d.nd, by simpa using d.len, by have := d.bd; show (kk.length : Int) ≤ _; omega, fun y y0 y1 hy => ?_⟩
    rw [gk y (by omega)] at hy
    by_cases e : y = X
    · exact ⟨j, ow, by rw [e]; exact hx, by simp only [List.getElem?_set]; rw [if_pos trivial, if_pos (by omega)], o0, o1⟩
    · rw [if_neg e] at hy
      obtain ⟨j2, w2, h1, h2, h3, h4⟩ := d.own y y0 y1 hy
      refine ⟨j2, w2, h1, ?_, h3, h4⟩
      have hne : j ≠ j2 := fun q => by
        have := kix_get h1
        rw [← q, hj] at this
        cases this
        exact e rfl
      simp only [List.getElem?_set_ne hne]
      exact h2
  | none =>
    have hn := kixN hx
    refine ⟨?_, by simpa using d.len, by have := d.bd; show ((kk ++ [Sum.inl X]).length : Int) ≤ _; rw [List.length_append, List.length_singleton]; omega, fun y y0 y1 hy => ?_⟩
    · show (kk ++ [Sum.inl X]).Nodup
      rw [List.nodup_append]
      exact ⟨d.nd, by simp, fun a ha b hb q => by rw [List.mem_singleton.mp hb] at q; exact hn (q ▸ ha)⟩
    · show ∃ j ow', kix (.inl y) (kk ++ [.inl X]) = some j ∧ (vv ++ [ow])[j]? = some ow' ∧ _
      rw [gk y (by omega)] at hy
      by_cases e : y = X
      · refine ⟨kk.length, ow, ?_, by rw [hl]; simp, o0, o1⟩
        rw [kix_app, e, hx, if_pos rfl]
      · rw [if_neg e] at hy
        obtain ⟨j2, w2, h1, h2, h3, h4⟩ := d.own y y0 y1 hy
        refine ⟨j2, w2, by rw [kix_app, h1], ?_, h3, h4⟩
        rw [List.getElem?_append_left (getq_lt' h2)]
        exact h2
theorem DJ.drop (d : DJ se kk vv ks) (x0 : 10 ≤ X) (x1 : X < 24) (lk : ks.length = 24) : DJ (se + 1) kk vv (ks.set X.toNat 0) := by
  refine ⟨d.nd, d.len, by have := d.bd; omega, fun y y0 y1 hy => d.own y y0 y1 fun q => hy ?_⟩
  rw [gz_set (by omega) (by omega) (by omega)]
  split
  · rfl
  · exact q
end
/-! a fresh store of 24 blocks -/
def h0L : List Int := [1, 1, 1, 1, 1, 1, 1, 1, 1, 1, 0, 0, 0, 0, 0, 0, 0, 0, 0, 0, 0, 0, 0, 0]
def z8 : List Int := [0, 0, 0, 0, 0, 0, 0, 0]
def M0L : List (List Int) := [z8, z8, [1, 1, 1, 1, 1, 1, 1, 1], [1, 1, 0, 0, 0, 0, 0, 0], z8, [2, 1, 0, 0, 0, 0, 0, 1], z8, z8, z8, z8, z8, z8, z8, z8, z8, z8, z8, z8, z8, z8, z8, z8, z8, z8]
theorem G_plan24 : G_Plan_init [.nd (.ins 0 0) .own [], iT 24, iT 5, iT 30] = some (.rt (.a .non) [plT .own P24, .any, .any, .any]) := by rfl
theorem G_fresh24 : G_Image_fresh [.nd (.ins 0 6) .frz [iT 24, iT 5, iT 30, iT 3, iT 5, iT 10]] = some (.rt (imgT .own P24 M0L h0L h0L 1 0 []) [.any]) := by rfl
/-! k39: what the law keeps of an image -/
structure Mo where
  M : List (List Int)
  hs : List Int
  ss : List Int
  se : Int
  wi : Int
  ks : List Int
abbrev moT (m : Mo) : Tr := .nd .lst .frz [imgT .own P24 m.M m.hs m.ss m.se m.wi [], rowT m.ks, rowT m.hs, rowT m.ss]
structure MoOk (m : Mo) : Prop where
  w : MWf 24 m.M
  lh : m.hs.length = 24
  ls : m.ss.length = 24
  lk : m.ks.length = 24
  kd : ∀ x, 0 ≤ x → x < 24 → gz m.ks x = kindZ 10 m.M x
  held : ∀ x, 0 ≤ x → x < 24 → (gz m.ks x = 0 ↔ gz m.hs x = 0)
section
variable {m m' : Mo} {x : Int}
theorem G_moment {M : List (List Int)} {hs ss ks bh bs vv : List Int} {se wi : Int} {kk : List Key} (w : MWf 24 M) : G_law_moment [imgT .lnt P24 M hs ss se wi [], .nd .lst .lnt [rowT ks, rowT bh, rowT bs, .nd (.dct kk) .own (vv.map iT)]] =
    some (.rt (.nd .lst .frz [imgT .own P24 M hs ss se wi [], rowT ks, rowT bh, rowT bs]) [.any, .any]) := by
  have ht := @G_twin P24 M hs ss [] se wi w p24
  have h1 : ixN 4 1 = some 1 := rfl
  have h2 : ixN 4 2 = some 2 := rfl
  have h3 : ixN 4 0 = some 0 := rfl
  simp! [G_law_moment, g_law_moment, ht, h1, h2, h3]
end
/-! the image and the law's book -/
/-- the image and the law's book -/
structure J (M : List (List Int)) (hs ss : List Int) (se : Int) (ks : List Int) (kk : List Key) (vv : List Int) : Prop where
  w : MWf 24 M
  lh : hs.length = 24
  ls : ss.length = 24
  lk : ks.length = 24
  kd : ∀ x, 0 ≤ x → x < 24 → gz ks x = kindZ 10 M x
  lim : ∀ o, 0 ≤ o → o < 4 → cellZ M 0 (4 + o) = 0
  held : ∀ x, 0 ≤ x → x < 24 → (gz ks x = 0 ↔ gz hs x = 0)
  hb : ∀ x, 0 ≤ x → x < 24 → gz hs x ≤ se
  s0 : 1 ≤ se
  d : DJ se kk vv ks
abbrev bookT (ks bh bs : List Int) (kk : List Key) (vv : List Int) : Tr := .nd .lst .own [rowT ks, rowT bh, rowT bs, .nd (.dct kk) .own (vv.map iT)]
/-- behind a block taken (kd) or given back (0), before stamps are set -/
theorem J.deed {M : List (List Int)} {hs ss ks vv : List Int} {se X kd ow d nh : Int} {kk kk' : List Key} {vv' : List Int} (h : J M hs ss se ks kk vv) (x0 : 10 ≤ X) (x1 : X < 24) (hk : kd = 0 ∨ kd = 1 ∨ kd = 2) (hne : gz ks X ≠ kd) (o0 : 0 ≤ ow) (o1 : ow < 4) (hd : d ≠ 0) (hn : nh = if kd = 0 then 0 else se + 1)
    (hd2 : DJ (se + 1) kk' vv' (ks.set X.toNat kd)) :
    J (deedM M X kd ow d) (hs.set X.toNat nh) (((ss.set X.toNat nh).set 0 (se + 1)).set (2 + X / 8).toNat (se + 1)) (se + 1) (ks.set X.toNat kd) kk' vv' ∧
    ∀ x, 0 ≤ x → x < 24 → stZ (hs.set X.toNat nh) (ss.set X.toNat nh) (se + 1) (deedM M X kd ow d) M x = gz (((ss.set X.toNat nh).set 0 (se + 1)).set (2 + X / 8).toNat (se + 1)) x := by
  have lh := h.lh
  have ls := h.ls
  have lk := h.lk
  have s0 := h.s0
  have gh : ∀ x, 0 ≤ x → gz (hs.set X.toNat nh) x = if x = X then nh else gz hs x := fun x q => gz_set (by omega) (by omega) q
  have gk : ∀ x, 0 ≤ x → gz (ks.set X.toNat kd) x = if x = X then kd else gz ks x := fun x q => gz_set (by omega) (by omega) q
  have gs : ∀ x, 0 ≤ x → gz (ss.set X.toNat nh) x = if x = X then nh else gz ss x := fun x q => gz_set (by omega) (by omega) q
  have gb : ∀ x, 0 ≤ x → gz (((ss.set X.toNat nh).set 0 (se + 1)).set (2 + X / 8).toNat (se + 1)) x = if x = 2 + X / 8 then se + 1 else if x = 0 then se + 1 else if x = X then nh else gz ss x := fun x q => by
    rw [gz_set (by omega) (by simp; omega) q, show (0 : Nat) = (0 : Int).toNat from rfl, gz_set (by omega) (by simp; omega) q, gs x q]
  have r0 := fun j (q : 0 ≤ j) (n : j ≠ X) => @deed_row M j d ow kd X h.w x0 x1 q n
  constructor
  · refine ⟨deed_w h.w x0 x1, by simpa using lh, by simpa using ls, by simpa using lk, fun x q1 q2 => ?_, fun o q1 q2 => ?_, fun x q1 q2 => ?_, fun x q1 q2 => ?_, by omega, hd2⟩
    · rw [gk x q1, deed_kind h.w x0 x1 hk q1 q2, h.kd x q1 q2]
    · have := r0 0 (by omega) (by omega)
      rw [if_pos rfl] at this
      unfold cellZ
      rw [this, gz_set8 (h.w.get8 (by omega) (by omega)) o0 (by omega) (by omega), if_neg (by omega)]
      exact h.lim o q1 q2
    · rw [gk x q1, gh x q1]
      by_cases e : x = X
      · rw [if_pos e, if_pos e, hn]
        split <;> omega
      · rw [if_neg e, if_neg e]
        exact h.held x q1 q2
    · rw [gh x q1, hn]
      have := h.hb x q1 q2
      split
      · split <;> omega
      · omega
  · intro x q1 q2
    rw [gb x q1]
    unfold stZ
    rw [gh x q1, gs x q1]
    by_cases e : x = X
    · rw [if_pos e, if_pos e, if_neg (show ¬ x = 2 + X / 8 by omega), if_neg (show ¬ x = 0 by omega), hn]
      split
      · rw [if_neg (by omega), if_neg (by simp)]
      · rw [if_pos rfl]
    · rw [if_neg e, if_neg e]
      have hb := h.hb x q1 q2
      rw [if_neg (show ¬ gz hs x = se + 1 by omega), r0 x q1 e]
      have fixed : x < 10 → gz hs x ≠ 0 := fun q z => by
        have h1 := (h.held x q1 q2).mpr z
        have h2 := h.kd x q1 q2
        unfold kindZ at h2
        rw [if_pos q] at h2
        omega
      by_cases e0 : x = 0
      · have e3 : (rowZ M 0).set ow.toNat (cellZ M 0 ow + d) ≠ rowZ M x := by
          rw [e0]
          exact set_ne (h.w.get8 (by omega) (by omega)) o0 (by omega) (by unfold cellZ; omega)
        rw [if_pos e0, if_neg (show ¬ x = 2 + X / 8 by omega), if_pos e0, if_pos ⟨fixed (by omega), e3⟩]
      · rw [if_neg e0]
        by_cases e1 : x = 2 + X / 8
        · have e3 : (rowZ M x).set (X % 8).toNat kd ≠ rowZ M x := by
            refine set_ne (h.w.get8 (by omega) (by omega)) (by omega) (by omega) fun q => ?_
            apply hne
            rw [h.kd X (by omega) x1]
            unfold kindZ cellZ
            rw [if_neg (by omega), ← e1, q]
            rcases hk with rfl | rfl | rfl <;> simp
          rw [if_pos e1, if_pos e1, if_pos ⟨fixed (by omega), e3⟩]
        · rw [if_neg e1, if_neg e1, if_neg (by simp), if_neg e0]
/-! the deeds -/
section
variable {M : List (List Int)} {hs ss ks vv fs : List Int} {se wi x X kd ow : Int} {kk : List Key}
/-- the law's free blocks are the image's -/
theorem free_eq (h : J M hs ss se ks kk vv) : (rng 10 14).filter (fun x => decide (gz ks x = 0)) = (rng P24.fd (P24.b - P24.fd).toNat).filter (fun x => decide (kindZ P24.fd M x = 0)) := by
  show (rng 10 14).filter (fun x => decide (gz ks x = 0)) = (rng 10 14).filter (fun x => decide (kindZ 10 M x = 0))
  refine filt_eq fun x hx => ?_
  have := mem_rng.mp hx
  rw [h.kd x (by omega) (by omega)]
def DeedIs (G : GF) (args : List Tr) (an : List Tr) (M : List (List Int)) (se wi : Int) : Prop := ∃ M' hs' ss' bs' ks' kk' vv' fs', G args = some (.rt (bT true) ([imgT .own P24 M' hs' ss' (se + 1) wi [], bookT ks' hs' bs' kk' vv', rowT fs'] ++ an)) ∧ Feed fs' ∧ J M' hs' bs' (se + 1) ks' kk' vv' ∧ ss'.length = 24 ∧ ∀ x, 0 ≤ x → x < 24 → stZ hs' ss' (se + 1) M' M x = gz bs' x
/-- nothing was done -/
theorem J.still (h : J M hs ss se ks kk vv) : J M hs ss (se + 1) ks kk vv ∧ ∀ x, 0 ≤ x → x < 24 → stZ hs ss (se + 1) M M x = gz ss x := by
  have s0 := h.s0
  refine ⟨⟨h.w, h.lh, h.ls, h.lk, h.kd, h.lim, h.held, fun x q1 q2 => by have := h.hb x q1 q2; omega, by omega, h.d.nd, h.d.len, by have := h.d.bd; omega, h.d.own⟩, fun x q1 q2 => ?_⟩
  have := h.hb x q1 q2
  unfold stZ
  rw [if_neg (by omega), if_neg (by simp)]
theorem deed_take (h : J M hs ss se ks kk vv) (hse : se ≤ 1000) (hf : Feed fs) : DeedIs G_law_take [imgT .own P24 M hs ss (se + 1) wi [], bookT ks hs ss kk vv, rowT fs, iT (se + 1), iT wi] [.any, .any] M se wi := by
  obtain ⟨c, fs1, p1, c0, c1, hf1⟩ := G_pick (n := 2) hf (by decide)
  obtain ⟨ow, fs2, p2, o0, o1, hf2⟩ := G_pick (n := 4) hf1 (by decide)
  have hfr := free_eq h
  generalize hL : (rng 10 14).filter (fun x => decide (gz ks x = 0)) = L at hfr
  have hLl : L.length ≤ 14 := by
    rw [← hL]
    refine Nat.le_trans (List.length_filter_le _ _) ?_
    rw [rng_len]
    exact Nat.le_refl _
  have hlz : ∀ k, letZ P24 M [] k = L := fun k => by
    unfold letZ
    rw [← hfr]
    exact List.filter_eq_self.mpr fun _ _ => by simp
  unfold DeedIs G_law_take g_law_take
  simp! []
  rw [gLcR2P (i := 10) (j := 24) (by simp! []) (by omega) (by omega) (by omega) (by omega) (by omega) rfl rfl rfl rfl (fun x => decide (gz ks x = 0)) iT (fun x s' h1 h2 => by
    have a1 := ixN_len (n := ks.length) (i := x) (by omega) (by have := h.lk; omega)
    have a2 := gz_get (xs := ks) (i := x) (by omega) (by have := h.lk; omega)
    simp! [t_law_take_1, a1, a2]) (fun x s' h1 h2 _ => ⟨by simp! [e_law_take_1], rfl⟩), show (rng 10 ((24 : Int) - 10).toNat).filter (fun x => decide (gz ks x = 0)) = L from hL]
  simp! [p1, p2]
  by_cases hLe : L = []
  · rw [if_pos hLe]
    obtain ⟨j1, j2⟩ := h.still
    exact ⟨M, hs, ss, ss, ks, kk, vv, fs2, rfl, hf2, j1, h.ls, j2⟩
  · rw [if_neg hLe]
    have hL0 : L.length ≠ 0 := fun q => hLe (List.length_eq_zero_iff.mp q)
    rw [gLcP_is (xs := L) (enc := iT) (.al [9]) (.al [9]) .lst .own (by simp! []) (by simp! []) rfl rfl (by omega) rfl rfl rfl rfl rfl (fun x _ => rfl) (fun x => decide (wi ≤ x)) iT (fun x _ s' => by simp! [t_law_take_2]) (fun x _ s' _ => ⟨by simp! [e_law_take_2], by simp! []⟩)]
    have hX : (L.filter (fun x => decide (wi ≤ x)) ++ L)[0]? = some (pickZ L wi) := by
      unfold pickZ
      by_cases hq : (L.filter (fun x => decide (wi ≤ x))).length > 0
      · rw [if_pos hq, List.getElem?_append_left hq]
        exact gz_get (xs := L.filter (fun x => decide (wi ≤ x))) (i := 0) (by omega) (by omega)
      · rw [if_neg hq, List.length_eq_zero_iff.mp (by omega : (L.filter (fun x => decide (wi ≤ x))).length = 0), List.nil_append]
        exact gz_get (xs := L) (i := 0) (by omega) (by omega)
    have hm := mem_let (P := P24) (M := M) (ba := []) (kd := 1 + c) (x := pickZ L wi) (by rw [hlz]; exact pick_mem hL0)
    have ht := @G_take P24 M hs ss [] (se + 1) wi (1 + c) ow p24 h.w (by rw [h.lh]; rfl) (by rw [h.ls]; rfl) o0 o1 (by decide) (fun q => q.1 (h.lim ow o0 o1)) (by rw [hlz]; exact hL0)
    rw [hlz] at ht
    have hLL := List.length_filter_le (fun x => decide (wi ≤ x)) L
    generalize pickZ L wi = X at *
    generalize L.filter (fun x => decide (wi ≤ x)) = LL at *
    have hcl : LL.length + L.length ≤ sizeLine := Nat.le_trans (by omega : LL.length + L.length ≤ 100) (by decide)
    have g0 := ixN_len (n := LL.length + L.length) (i := 0) (by omega) (by omega)
    obtain ⟨x0, x1, xk⟩ := hm
    have x0 : 10 ≤ X := x0
    have x1 : X < 24 := x1
    have lh := h.lh
    have ls := h.ls
    have lk := h.lk
    have hxk : gz ks X = 0 := by rw [h.kd X (by omega) x1]; exact xk
    have a1 := ixN_len (n := 24) (i := X) (by omega) (by omega)
    have a2 := ixN_len (n := 24) (i := 2 + X / 8) (by omega) (by omega)
    have a3 := h.d.nd
    have a4 : kk.length < 100000 := by have := h.d.bd; omega
    have a5 : ixN 24 0 = some 0 := rfl
    have jd := J.deed (X := X) (kd := 1 + c) (ow := ow) (d := 1) (nh := se + 1) (kk' := (dput kk vv X ow).1) (vv' := (dput kk vv X ow).2) h x0 x1 (by omega) (by omega) o0 o1 (by omega) (by rw [if_neg (by omega)]) (dput_ok h.d x0 x1 lk o0 o1 (by omega))
    refine ⟨_, _, _, _, _, _, _, fs2, ?_, hf2, jd.1, by simpa using ls, jd.2⟩
    unfold dput
    cases hx : kix (.inl X) kk with
    | some j => simp! [hcl, g0, hX, ht, lh, ls, lk, a1, a2, a3, a4, a5, hx, sFor, loopE, kidX, keyOf, b_law_take_1, deedM]
    | none => simp! [hcl, g0, hX, ht, lh, ls, lk, a1, a2, a3, a4, a5, hx, sFor, loopE, kidX, keyOf, b_law_take_1, deedM]
theorem deed_give (h : J M hs ss se ks kk vv) (hse : se ≤ 1000) (hf : Feed fs) : DeedIs G_law_give [imgT .own P24 M hs ss (se + 1) wi [], bookT ks hs ss kk vv, rowT fs, iT (se + 1)] [.any] M se wi := by
  obtain ⟨c, fs1, p1, c0, c1, hf1⟩ := G_pick (n := 14) hf (by decide)
  unfold DeedIs G_law_give g_law_give
  simp! []
  generalize hL : (rng 10 14).filter (fun x => !decide (gz ks x = 0)) = L
  have hLl : L.length ≤ 14 := by
    rw [← hL]
    refine Nat.le_trans (List.length_filter_le _ _) ?_
    rw [rng_len]
    exact Nat.le_refl _
  rw [gLcR2P (i := 10) (j := 24) (by simp! []) (by omega) (by omega) (by omega) (by omega) (by omega) rfl rfl rfl rfl (fun x => !decide (gz ks x = 0)) iT (fun x s' h1 h2 => by
    have a1 := ixN_len (n := ks.length) (i := x) (by omega) (by have := h.lk; omega)
    have a2 := gz_get (xs := ks) (i := x) (by omega) (by have := h.lk; omega)
    simp! [t_law_give_1, a1, a2]) (fun x s' h1 h2 _ => ⟨by simp! [e_law_give_1], rfl⟩), show (rng 10 ((24 : Int) - 10).toNat).filter (fun x => !decide (gz ks x = 0)) = L from hL]
  simp! [p1]
  by_cases hLe : L = []
  · rw [if_pos hLe]
    obtain ⟨j1, j2⟩ := h.still
    exact ⟨M, hs, ss, ss, ks, kk, vv, fs1, rfl, hf1, j1, h.ls, j2⟩
  · rw [if_neg hLe]
    have hL0 : L.length ≠ 0 := fun q => hLe (List.length_eq_zero_iff.mp q)
    have hm0 : 0 ≤ c % (L.length : Int) := Int.emod_nonneg _ (by omega)
    have hm1 : c % (L.length : Int) < L.length := Int.emod_lt_of_pos _ (by omega)
    have g0 := ixN_len hm0 hm1
    have hX := gz_get (xs := L) hm0 hm1
    have hmem : gz L (c % (L.length : Int)) ∈ L := List.mem_of_getElem? hX
    generalize gz L (c % (L.length : Int)) = X at *
    rw [← hL] at hmem
    obtain ⟨hm2, hxk⟩ := List.mem_filter.mp hmem
    have hm3 := mem_rng.mp hm2
    have x0 : 10 ≤ X := hm3.1
    have x1 : X < 24 := by omega
    have hxk : gz ks X ≠ 0 := by simpa using hxk
    obtain ⟨j, ow, hx, hv, o0, o1⟩ := h.d.own X x0 x1 hxk
    have ht := @G_give P24 M hs ss [] (se + 1) wi X ow p24 h.w (by rw [h.lh]; rfl) (by rw [h.ls]; rfl) o0 o1 (by omega) x1
    have lh := h.lh
    have ls := h.ls
    have lk := h.lk
    have a1 := ixN_len (n := 24) (i := X) (by omega) (by omega)
    have a2 := ixN_len (n := 24) (i := 2 + X / 8) (by omega) (by omega)
    have a5 : ixN 24 0 = some 0 := rfl
    have a6 : 0 < L.length := by omega
    have jd := J.deed (X := X) (kd := 0) (ow := ow) (d := -1) (nh := 0) (kk' := kk) (vv' := vv) h x0 x1 (.inl rfl) hxk o0 o1 (by omega) rfl (h.d.drop x0 x1 lk)
    refine ⟨_, _, _, _, _, _, _, fs1, ?_, hf1, jd.1, by simpa using ls, jd.2⟩
    simp! [a6, g0, hX, ht, hv, lh, ls, lk, a1, a2, a5, hx, sFor, loopE, kidX, keyOf, b_law_give_1, deedM]
/-- a cell of a held block is changed -/
theorem J.change {v a : Int} (h : J M hs ss se ks kk vv) (x0 : 5 ≤ X) (x1 : X < 24) (hxk : gz ks X ≠ 0) (a0 : 0 ≤ a) (a1 : a < 8) :
    J (M.set X.toNat ((rowZ M X).set a.toNat v)) hs (if v = cellZ M X a then ss else ss.set X.toNat (se + 1)) (se + 1) ks kk vv ∧
    ∀ x, 0 ≤ x → x < 24 → stZ hs ss (se + 1) (M.set X.toNat ((rowZ M X).set a.toNat v)) M x = gz (if v = cellZ M X a then ss else ss.set X.toNat (se + 1)) x := by
  have lh := h.lh
  have ls := h.ls
  have lk := h.lk
  have s0 := h.s0
  have l := h.w.len
  have r8 := h.w.get8 (j := X) (by omega) (by omega)
  have rw_ : ∀ j, 0 ≤ j → rowZ (M.set X.toNat ((rowZ M X).set a.toNat v)) j = if j = X then (rowZ M X).set a.toNat v else rowZ M j := fun j q => rowZ_set (by omega) (by omega) q
  constructor
  · refine ⟨h.w.set (by simpa using r8), lh, by split <;> simpa using ls, lk, fun x q1 q2 => ?_, fun o q1 q2 => ?_, h.held, fun x q1 q2 => by have := h.hb x q1 q2; omega, by omega, h.d.nd, h.d.len, by have := h.d.bd; omega, h.d.own⟩
    · rw [h.kd x q1 q2]
      unfold kindZ cellZ
      by_cases e : x < 10
      · rw [if_pos e, if_pos e]
      · rw [rw_ _ (by omega), if_neg (show ¬ 2 + x / 8 = X by omega)]
    · unfold cellZ
      rw [rw_ _ (by omega), if_neg (show ¬ (0 : Int) = X by omega)]
      exact h.lim o q1 q2
  · intro x q1 q2
    have hb := h.hb x q1 q2
    unfold stZ
    rw [if_neg (by omega), rw_ x q1]
    by_cases c : v = cellZ M X a
    · rw [if_pos c]
      have e2 : (rowZ M X).set a.toNat v = rowZ M X := ext_gz (by simp) fun i i0 i1 => by
        rw [gz_set8 r8 a0 a1 i0]
        split
        · rename_i e
          rw [c, e]; rfl
        · rfl
      rw [e2, if_neg]
      rintro ⟨_, q⟩
      split at q
      · rename_i e; exact q (by rw [e])
      · exact q rfl
    · rw [if_neg c, gz_set (by omega) (by omega) q1]
      by_cases e : x = X
      · rw [if_pos e, if_pos e, if_pos]
        refine ⟨fun z => hxk ?_, ?_⟩
        · rw [← e]
          exact (h.held x q1 q2).mpr z
        · rw [e]
          exact set_ne r8 a0 a1 fun z => c z.symm
      · rw [if_neg e, if_neg e, if_neg (by simp)]
theorem deed_change (h : J M hs ss se ks kk vv) (hf : Feed fs) : DeedIs G_law_change [imgT .own P24 M hs ss (se + 1) wi [], bookT ks hs ss kk vv, rowT fs, iT (se + 1)] [.any] M se wi := by
  obtain ⟨c, fs1, p1, c0, c1, hf1⟩ := G_pick (n := 19) hf (by decide)
  obtain ⟨a, fs2, p2, a0, a1, hf2⟩ := G_pick (n := 8) hf1 (by decide)
  obtain ⟨v, fs3, p3, v0, v1, hf3⟩ := G_pick (n := 3) hf2 (by decide)
  unfold DeedIs G_law_change g_law_change
  simp! []
  generalize hL : (rng 5 19).filter (fun x => !decide (gz ks x = 0)) = L
  have hLl : L.length ≤ 19 := by
    rw [← hL]
    refine Nat.le_trans (List.length_filter_le _ _) ?_
    rw [rng_len]
    exact Nat.le_refl _
  have h5 : (5 : Int) ∈ L := by
    rw [← hL]
    refine List.mem_filter.mpr ⟨mem_rng.mpr (by omega), ?_⟩
    have := h.kd 5 (by omega) (by omega)
    unfold kindZ at this
    rw [if_pos (by omega)] at this
    rw [this]
    rfl
  have hL0 : 0 < L.length := List.length_pos_of_mem h5
  rw [gLcR2P (i := 5) (j := 24) (by simp! []) (by omega) (by omega) (by omega) (by omega) (by omega) rfl rfl rfl rfl (fun x => !decide (gz ks x = 0)) iT (fun x s' h1 h2 => by
    have a1 := ixN_len (n := ks.length) (i := x) (by omega) (by have := h.lk; omega)
    have a2 := gz_get (xs := ks) (i := x) (by omega) (by have := h.lk; omega)
    simp! [t_law_change_1, a1, a2]) (fun x s' h1 h2 _ => ⟨by simp! [e_law_change_1], rfl⟩), show (rng 5 ((24 : Int) - 5).toNat).filter (fun x => !decide (gz ks x = 0)) = L from hL]
  have hm0 : 0 ≤ c % (L.length : Int) := Int.emod_nonneg _ (by omega)
  have hm1 : c % (L.length : Int) < L.length := Int.emod_lt_of_pos _ (by omega)
  have g0 := ixN_len hm0 hm1
  have hX := gz_get (xs := L) hm0 hm1
  have hmem : gz L (c % (L.length : Int)) ∈ L := List.mem_of_getElem? hX
  generalize gz L (c % (L.length : Int)) = X at *
  rw [← hL] at hmem
  obtain ⟨hm2, hxk⟩ := List.mem_filter.mp hmem
  have hm3 := mem_rng.mp hm2
  have x0 : 5 ≤ X := hm3.1
  have x1 : X < 24 := by omega
  have hxk : gz ks X ≠ 0 := by simpa using hxk
  have ls := h.ls
  have b1 := h.w.ix (j := X) (by omega) x1
  have b2 := h.w.get (j := X) (by omega) x1
  have b3 := h.w.get8 (j := X) (by omega) x1
  have b4 := h.w.cell (j := X) (c := a) (by omega) x1 a0 a1
  have b5 := ixN_len (n := 8) (i := a) a0 (by omega)
  have b6 := ixN_len (n := 24) (i := X) (by omega) (by omega)
  have b7 : X.toNat < M.length := by have := h.w.len; omega
  have b8 : a.toNat < 8 := by omega
  have jd := J.change (v := v) h x0 x1 hxk a0 a1
  refine ⟨_, _, ss, _, _, _, _, fs3, ?_, hf3, jd.1, ls, jd.2⟩
  by_cases cv : v = cellZ M X a
  · rw [if_pos cv]
    simp! [p1, p2, p3, hL0, g0, hX, b1, b2, b3, b4, b5, b6, b7, b8, ls, cv]
  · rw [if_neg cv]
    simp! [p1, p2, p3, hL0, g0, hX, b1, b2, b3, b4, b5, b6, b7, b8, ls, cv]
end
/-! the law -/
theorem j0 : J M0L h0L h0L 1 h0L [] [] := by
  refine ⟨⟨rfl, by decide⟩, rfl, rfl, rfl, fun x q1 q2 => ?_, fun o q1 q2 => ?_, fun x q1 q2 => Iff.rfl, fun x q1 q2 => ?_, by decide, by simp, rfl, by decide, fun x q1 q2 hx => ?_⟩
  · have : ∀ i : Fin 24, gz h0L (i.val : Int) = kindZ 10 M0L (i.val : Int) := by decide +kernel
    have h := this ⟨x.toNat, by omega⟩
    simpa [show ((x.toNat : Nat) : Int) = x by omega] using h
  · have : ∀ i : Fin 4, cellZ M0L 0 (4 + (i.val : Int)) = 0 := by decide +kernel
    have h := this ⟨o.toNat, by omega⟩
    simpa [show ((o.toNat : Nat) : Int) = o by omega] using h
  · have : ∀ i : Fin 24, gz h0L (i.val : Int) ≤ 1 := by decide +kernel
    have h := this ⟨x.toNat, by omega⟩
    simpa [show ((x.toNat : Nat) : Int) = x by omega] using h
  · have : ∀ i : Fin 14, gz h0L (10 + (i.val : Int)) = 0 := by decide +kernel
    have h : gz h0L (10 + (((x - 10).toNat : Nat) : Int)) = 0 := this ⟨(x - 10).toNat, by omega⟩
    rw [show 10 + (((x - 10).toNat : Nat) : Int) = x by omega] at h
    exact absurd h hx
theorem J.mo {M : List (List Int)} {hs ss ks vv : List Int} {se wi : Int} {kk : List Key} (h : J M hs ss se ks kk vv) : MoOk ⟨M, hs, ss, se, wi, ks⟩ := ⟨h.w, h.lh, h.ls, h.lk, h.kd, h.held⟩
theorem G_history {fs : List Int} {k : Int} (hf : Feed fs) (k0 : 0 ≤ k) (k1 : k ≤ 18) : ∃ fs' ms, G_law_history [rowT fs, iT k] = some (.rt (.nd .lst .own (ms.map moT)) [rowT fs', .any]) ∧ Feed fs' ∧ ms ≠ [] ∧ ms.length ≤ 100 ∧ ∀ m ∈ ms, MoOk m := by
  unfold G_law_history g_law_history
  simp! [G_plan24, G_fresh24]
  rw [gLcR1P (j := 24) (by simp! []) (by omega) (by omega) rfl rfl rfl rfl (fun _ => true) (fun x => iT (if x < 10 then 1 else 0)) (fun x s' h1 h2 => rfl) (fun x s' h1 h2 _ => ⟨by by_cases c : x < 10 <;> simp! [e_law_history_1, c], rfl⟩), filt_true, show (rng 0 ((24 : Int)).toNat).map (fun x => iT (if x < 10 then 1 else 0)) = h0L.map iT from rfl]
  have hm := @G_moment M0L h0L h0L h0L h0L h0L [] 1 0 [] j0.w
  simp only [List.map_nil] at hm
  simp! [hm]
  rw [sForR1_e (n := k) (Γ := [.tr (rowT fs), .tr (iT k), .tr (imgT .own P24 M0L h0L h0L 1 0 []), .tr .any, .no, .tr (bookT h0L h0L h0L [] []), .tr (.nd .lst .own [moT ⟨M0L, h0L, h0L, 1, 0, h0L⟩]), .no, .no, .no, .no, .no]) (s := []) (by simp! []) (by omega) (by omega)]
  obtain ⟨m', h1, h2⟩ := loopR_nx (bd := bind md_law_history 7) (gs := b_law_history_1) (lo := 0) (n := k.toNat) (m := ⟨[.tr (rowT fs), .tr (iT k), .tr (imgT .own P24 M0L h0L h0L 1 0 []), .tr .any, .no, .tr (bookT h0L h0L h0L [] []), .tr (.nd .lst .own [moT ⟨M0L, h0L, h0L, 1, 0, h0L⟩]), .no, .no, .no, .no, .no], []⟩)
    (fun i m => ∃ (fs' : List Int) (M : List (List Int)) (hs ss ks : List Int) (se wi : Int) (kk : List Key) (vv : List Int) (ms : List Mo) (e7 e8 e9 e10 e11 : Ent), m = ⟨[.tr (rowT fs'), .tr (iT k), .tr (imgT .own P24 M hs ss se wi []), .tr .any, .no, .tr (bookT ks hs ss kk vv), .tr (.nd .lst .own (ms.map moT)), e7, e8, e9, e10, e11], []⟩ ∧ Feed fs' ∧ J M hs ss se ks kk vv ∧ se = 1 + (i : Int) ∧ ms ≠ [] ∧ ms.length ≤ i + 1 ∧ (∀ m ∈ ms, MoOk m) ∧ ((e8 = .no ∧ e9 = .no ∧ e10 = .no ∧ e11 = .no) ∨ ∃ t8 t9 t10 t11, e8 = .tr t8 ∧ e9 = .tr t9 ∧ e10 = .tr t10 ∧ e11 = .tr t11))
    ⟨fs, M0L, h0L, h0L, h0L, 1, 0, [], [], [⟨M0L, h0L, h0L, 1, 0, h0L⟩], _, _, _, _, _, rfl, hf, j0, rfl, by simp, by simp, fun m hm => by rw [List.mem_singleton.mp hm]; exact j0.mo, .inl ⟨rfl, rfl, rfl, rfl⟩⟩
    (by
      rintro i m hi ⟨fs', M, hs, ss, ks, se, wi, kk, vv, ms, e7, e8, e9, e10, e11, rfl, hf', hj, hse, hms, hml, hmo, hE⟩
      obtain ⟨wi2, fs1, p1, c0, c1, hf1⟩ := G_pick (n := 64) hf' (by decide)
      obtain ⟨ch, fs2, p2, d0, d1, hf2⟩ := G_pick (n := 8) hf1 (by decide)
      have hb : bind md_law_history 7 ⟨[.tr (rowT fs'), .tr (iT k), .tr (imgT .own P24 M hs ss se wi []), .tr .any, .no, .tr (bookT ks hs ss kk vv), .tr (.nd .lst .own (ms.map moT)), e7, e8, e9, e10, e11], [.tr (.a (.int (0 + i)))]⟩ = some ⟨[.tr (rowT fs'), .tr (iT k), .tr (imgT .own P24 M hs ss se wi []), .tr .any, .no, .tr (bookT ks hs ss kk vv), .tr (.nd .lst .own (ms.map moT)), .tr (iT i), e8, e9, e10, e11], []⟩ := by
        rcases hE with ⟨rfl, rfl, rfl, rfl⟩ | ⟨t8, t9, t10, t11, rfl, rfl, rfl, rfl⟩ <;> simp! []
      have ht := @G_twin P24 M hs ss [] se wi hj.w p24
      have hbe := @G_begin P24 M hs ss [] se wi wi2 []
      simp only [tupT, List.map_nil] at hbe
      have dt := deed_take (wi := wi2) hj (by omega) hf2
      have dg := deed_give (wi := wi2) hj (by omega) hf2
      have dc := deed_change (wi := wi2) hj hf2
      have hkk : (2 + (i : Int)) = se + 1 := by omega
      have hsz : ms.length < sizeLine := Nat.lt_of_lt_of_le (m := 100) (by omega) (by decide)
      by_cases ch1 : ch < 4
      · skip
        obtain ⟨M', hs', ss', bs', ks', kk', vv', fs3, e1, hf3, j3, l3, st3⟩ := dt
        obtain ⟨ss2, s1, s2, s3⟩ := @G_settle P24 M' hs' ss' [] (se + 1) wi2 M hs ss [] se wi p24 j3.w hj.w (by rw [j3.lh]; rfl) (by rw [l3]; rfl)
        have e2 : ss2 = bs' := ext_gz (by rw [s2, l3, j3.ls]) fun x q1 q2 => by
          have q3 : x < 24 := by rw [s2, l3] at q2; omega
          rw [s3 x q1 q3, st3 x q1 q3]
        subst e2
        simp only [List.cons_append, List.nil_append] at e1
        have hm := @G_moment M' hs' ss2 ks' hs' ss2 vv' (se + 1) wi2 kk' j3.w
        refine ⟨_, ⟨[.tr (rowT fs3), .tr (iT k), .tr (imgT .own P24 M' hs' ss2 (se + 1) wi2 []), .tr .any, .no, .tr (bookT ks' hs' ss2 kk' vv'), .tr (.nd .lst .own ((ms ++ [(⟨M', hs', ss2, se + 1, wi2, ks'⟩ : Mo)]).map moT)), .tr (iT i), .tr (imgT .own P24 M hs ss se wi []), .tr (iT wi2), .tr (iT ch), .tr (bT true)], []⟩, hb, ?_, ⟨fs3, M', hs', ss2, ks', se + 1, wi2, kk', vv', ms ++ [(⟨M', hs', ss2, se + 1, wi2, ks'⟩ : Mo)], _, _, _, _, _, rfl, hf3, j3, by omega, by simp, by simp; omega, fun m hm => ?_, .inr ⟨_, _, _, _, rfl, rfl, rfl, rfl⟩⟩⟩
        · rcases hE with ⟨rfl, rfl, rfl, rfl⟩ | ⟨t8, t9, t10, t11, rfl, rfl, rfl, rfl⟩ <;> simp! [b_law_history_1, ht, p1, p2, hbe, ch1, hkk, e1, s1, hm, hsz, List.map_append (f := moT) (l₁ := ms)]
        · rcases List.mem_append.mp hm with q | q
          · exact hmo m q
          · rw [List.mem_singleton.mp q]
            exact j3.mo
      · by_cases ch2 : ch < 6
        · skip
          obtain ⟨M', hs', ss', bs', ks', kk', vv', fs3, e1, hf3, j3, l3, st3⟩ := dg
          obtain ⟨ss2, s1, s2, s3⟩ := @G_settle P24 M' hs' ss' [] (se + 1) wi2 M hs ss [] se wi p24 j3.w hj.w (by rw [j3.lh]; rfl) (by rw [l3]; rfl)
          have e2 : ss2 = bs' := ext_gz (by rw [s2, l3, j3.ls]) fun x q1 q2 => by
            have q3 : x < 24 := by rw [s2, l3] at q2; omega
            rw [s3 x q1 q3, st3 x q1 q3]
          subst e2
          simp only [List.cons_append, List.nil_append] at e1
          have hm := @G_moment M' hs' ss2 ks' hs' ss2 vv' (se + 1) wi2 kk' j3.w
          refine ⟨_, ⟨[.tr (rowT fs3), .tr (iT k), .tr (imgT .own P24 M' hs' ss2 (se + 1) wi2 []), .tr .any, .no, .tr (bookT ks' hs' ss2 kk' vv'), .tr (.nd .lst .own ((ms ++ [(⟨M', hs', ss2, se + 1, wi2, ks'⟩ : Mo)]).map moT)), .tr (iT i), .tr (imgT .own P24 M hs ss se wi []), .tr (iT wi2), .tr (iT ch), .tr (bT true)], []⟩, hb, ?_, ⟨fs3, M', hs', ss2, ks', se + 1, wi2, kk', vv', ms ++ [(⟨M', hs', ss2, se + 1, wi2, ks'⟩ : Mo)], _, _, _, _, _, rfl, hf3, j3, by omega, by simp, by simp; omega, fun m hm => ?_, .inr ⟨_, _, _, _, rfl, rfl, rfl, rfl⟩⟩⟩
          · rcases hE with ⟨rfl, rfl, rfl, rfl⟩ | ⟨t8, t9, t10, t11, rfl, rfl, rfl, rfl⟩ <;> simp! [b_law_history_1, ht, p1, p2, hbe, ch1, ch2, hkk, e1, s1, hm, hsz, List.map_append (f := moT) (l₁ := ms)]
          · rcases List.mem_append.mp hm with q | q
            · exact hmo m q
            · rw [List.mem_singleton.mp q]
              exact j3.mo
        · skip
          obtain ⟨M', hs', ss', bs', ks', kk', vv', fs3, e1, hf3, j3, l3, st3⟩ := dc
          obtain ⟨ss2, s1, s2, s3⟩ := @G_settle P24 M' hs' ss' [] (se + 1) wi2 M hs ss [] se wi p24 j3.w hj.w (by rw [j3.lh]; rfl) (by rw [l3]; rfl)
          have e2 : ss2 = bs' := ext_gz (by rw [s2, l3, j3.ls]) fun x q1 q2 => by
            have q3 : x < 24 := by rw [s2, l3] at q2; omega
            rw [s3 x q1 q3, st3 x q1 q3]
          subst e2
          simp only [List.cons_append, List.nil_append] at e1
          have hm := @G_moment M' hs' ss2 ks' hs' ss2 vv' (se + 1) wi2 kk' j3.w
          refine ⟨_, ⟨[.tr (rowT fs3), .tr (iT k), .tr (imgT .own P24 M' hs' ss2 (se + 1) wi2 []), .tr .any, .no, .tr (bookT ks' hs' ss2 kk' vv'), .tr (.nd .lst .own ((ms ++ [(⟨M', hs', ss2, se + 1, wi2, ks'⟩ : Mo)]).map moT)), .tr (iT i), .tr (imgT .own P24 M hs ss se wi []), .tr (iT wi2), .tr (iT ch), .tr (bT true)], []⟩, hb, ?_, ⟨fs3, M', hs', ss2, ks', se + 1, wi2, kk', vv', ms ++ [(⟨M', hs', ss2, se + 1, wi2, ks'⟩ : Mo)], _, _, _, _, _, rfl, hf3, j3, by omega, by simp, by simp; omega, fun m hm => ?_, .inr ⟨_, _, _, _, rfl, rfl, rfl, rfl⟩⟩⟩
          · rcases hE with ⟨rfl, rfl, rfl, rfl⟩ | ⟨t8, t9, t10, t11, rfl, rfl, rfl, rfl⟩ <;> simp! [b_law_history_1, ht, p1, p2, hbe, ch1, ch2, hkk, e1, s1, hm, hsz, List.map_append (f := moT) (l₁ := ms)]
          · rcases List.mem_append.mp hm with q | q
            · exact hmo m q
            · rw [List.mem_singleton.mp q]
              exact j3.mo)
  obtain ⟨fs', M, hs, ss, ks, se, wi, kk, vv, ms, e7, e8, e9, e10, e11, rfl, hf', hj, hse, hms, hml, hmo, hE⟩ := h2
  rw [h1]
  exact ⟨fs', ms, by simp! [], hf', hms, by omega, hmo⟩
/-! books: their rows of names, texts -/
section
variable {neg : Bool} {o : Ow}
abbrev aS (x : Str) : Tr := .a (.str x)
theorem kidL_str : ∀ (xs : List Str), kidL o (xs.map aS) = xs.map aS
  | [] => rfl
  | x :: xs => by rw [List.map_cons, kidL, kidL_str xs]; rfl
theorem cpL_str : ∀ (xs : List Str), cpL (xs.map aS) = true
  | [] => rfl
  | x :: xs => by rw [List.map_cons, cpL, cpL_str xs]; rfl
theorem escL_str : ∀ (xs : List Str), escL (xs.map aS) = true
  | [] => rfl
  | x :: xs => by rw [List.map_cons, escL, escL_str xs]; rfl
theorem inV_str : ∀ (x : Str) (xs : List Str), inV (.str x) (xs.map V.str) = decide (x ∈ xs)
  | x, [] => by simp [inV]
  | x, y :: xs => by
    have ih := inV_str x xs
    simp only [inV, List.map_cons, List.any_cons] at ih ⊢
    rw [ih]
    by_cases h : x = y
    · simp [h, eqV]
    · have h2 : y ≠ x := fun q => h q.symm
      simp [h, h2, eqV]
theorem FIn_ts (x : Str) (xs : List Str) : FIn neg (.a (.str x)) (.nd .tup o (xs.map aS)) = some (.bl (if neg then !decide (x ∈ xs) else decide (x ∈ xs))) := by
  have h1 : atoms (xs.map aS) = some (xs.map V.str) := atoms_map (f := V.str) xs
  have h2 : (xs.map V.str).all flatV = true := by simp [flatV]
  unfold FIn
  simp only [h1]
  rw [if_pos ⟨rfl, h2⟩, inV_str]
theorem FIn_ls (x : Str) (xs : List Str) : FIn neg (.a (.str x)) (.nd .lst o (xs.map aS)) = some (.bl (if neg then !decide (x ∈ xs) else decide (x ∈ xs))) := by
  have h1 : atoms (xs.map aS) = some (xs.map V.str) := atoms_map (f := V.str) xs
  have h2 : (xs.map V.str).all flatV = true := by simp [flatV]
  unfold FIn
  simp only [h1]
  rw [if_pos ⟨rfl, h2⟩, inV_str]
abbrev namesT (ns : List Str) : Tr := .nd .tup .own (ns.map aS)
abbrev bkT (ns : List Str) (num : Int) : Tr := .nd (.ins 2 2) .lnt [namesT ns, .a (.int num)]
theorem P_contains (ns : List Str) (num : Int) (x : Str) : G_Book_contains [bkT ns num, aS x] = some (.rt (.a (.bl (decide (x ∈ ns)))) [.any, .any]) := by
  simp! [G_Book_contains, g_Book_contains, kidL_str, FIn_ts]
abbrev RL : List Str := ["copies", "mark", "words", "reuse", "late", "revoke", "lapse", "shelve", "frozen", "wait", "room", "told"]
theorem nodup_RL : RL.Nodup := by decide +kernel
theorem sub_filter {α : Type} [DecidableEq α] {l r : List α} (h : List.Sublist l r) : r.Nodup → r.filter (fun x => decide (x ∈ l)) = l := by
  induction h with
  | slnil => intro _; rfl
  | cons a hs ih =>
    intro hn
    rw [List.nodup_cons] at hn
    rw [List.filter_cons_of_neg (by simpa using fun hm => hn.1 (hs.subset hm))]
    exact ih hn.2
  | cons_cons a hs ih =>
    rename_i l1 l2
    intro hn
    rw [List.nodup_cons] at hn
    rw [List.filter_cons_of_pos (by simp)]
    congr 1
    rw [show l2.filter (fun x => decide (x ∈ a :: l1)) = l2.filter (fun x => decide (x ∈ l1)) from List.filter_congr fun x hx => by
      have : x ≠ a := fun e => hn.1 (e ▸ hx)
      simp [this]]
    exact ih hn.2
theorem sub_len {ns : List Str} (h : List.Sublist ns RL) : ns.length ≤ 12 := h.length_le
abbrev lsT (o : Ow) (ns : List Str) : Tr := .nd .lst o (ns.map aS)
theorem kidc_aS (o : Ow) : kid o ∘ aS = aS := rfl
abbrev rlT (o : Ow) : Tr := .nd .tup o [aS "copies", aS "mark", aS "words", aS "reuse", aS "late", aS "revoke", aS "lapse", aS "shelve", aS "frozen", aS "wait", aS "room", aS "told"]
end
/-! books by their names -/
section
def bits : List Str → Int → List Str
  | [], _ => []
  | x :: r, n => if n % 2 = 1 then x :: bits r (n / 2) else bits r (n / 2)
theorem bits_sub : ∀ (xs : List Str) (n : Int), List.Sublist (bits xs n) xs
  | [], _ => List.Sublist.refl _
  | x :: r, n => by
    unfold bits
    split
    · exact (bits_sub r (n / 2)).cons_cons x
    · exact (bits_sub r (n / 2)).cons x
/-- the number of the rules for which p holds; w: the weight of the next one -/
def nB (p : Str → Bool) : List Str → Int → Int → Int
  | [], _, n => n
  | x :: r, w, n => nB p r (w * 2) (if p x then n + w else n)
def dbN (w : Int) : Nat → Int
  | 0 => w
  | n + 1 => dbN (w * 2) n
theorem dbN_s : ∀ (n : Nat) (w : Int), dbN w (n + 1) = dbN w n * 2
  | 0, _ => rfl
  | n + 1, w => by
    show dbN (w * 2) (n + 1) = dbN (w * 2) n * 2
    exact dbN_s n (w * 2)
theorem dbN_le : ∀ n : Nat, n ≤ 11 → 0 ≤ dbN 1 n ∧ dbN 1 n ≤ 2048 := by decide
theorem nB_app (p : Str → Bool) : ∀ (xs : List Str) (x : Str) (w n : Int), nB p (xs ++ [x]) w n = (if p x then nB p xs w n + dbN w xs.length else nB p xs w n)
  | [], x, w, n => by simp [nB, dbN]
  | y :: r, x, w, n => by
    show nB p (r ++ [x]) (w * 2) _ = _
    rw [nB_app p r x]
    rfl
abbrev prs (xs : List Str) (x : Str) : Bool := decide (x ∈ xs)
abbrev numB (xs : List Str) : Int := nB (prs xs) RL 1 0
theorem P_init_l {xs : List Str} (hR : ∀ x ∈ xs, x ∈ RL) (hl : xs.length ≤ 100000) : G_Book_init [.nd (.ins 2 0) .own [], .nd .lst .lnt (xs.map aS)] = some (.rt (.a .non) [.nd (.ins 2 2) .own [namesT (RL.filter fun x => decide (x ∈ xs)), .a (.int (numB xs))], .any]) := by
  obtain ⟨Γ1, ⟨e1, n1, rfl⟩, h1⟩ := loopE_pre (gs := b_Book_init_1) (bd := bind md_Book_init 2) (s := []) (xs := xs) (enc := aS) (.tr (.nd .lst .lnt (xs.map aS))) .lst .lnt
    (fun p Γ => ∃ (e2 : Ent), Nal e2 ∧ Γ = [.tr (.nd (.ins 2 0) .own []), .tr (.nd .lst .lnt (xs.map aS)), e2, .no, .no, .no])
    (fun p Γ ⟨_, _, e⟩ => by rw [e]; rfl) rfl (fun x _ => rfl) (Γ := [.tr (.nd (.ins 2 0) .own []), .tr (.nd .lst .lnt (xs.map aS)), .no, .no, .no, .no])
    (by
      rintro p x q Γ hx ⟨e2, n2, rfl⟩
      have hx : x ∈ RL := hR x (by rw [hx]; simp)
      have hf : FIn true (aS x) (rlT .frz) = some (.bl false) := (FIn_ts (neg := true) (o := .frz) x RL).trans (by rw [decide_eq_true hx]; rfl)
      have hf2 : FIn true (aS x) (rlT .own) = some (.bl false) := (FIn_ts (neg := true) (o := .own) x RL).trans (by rw [decide_eq_true hx]; rfl)
      refine ⟨_, _, by simp! [n2.kr]; rfl, ⟨.tr (aS x), nal_tr, rfl⟩, .inl ?_⟩
      simp! [b_Book_init_1, hf, hf2])
    ⟨.no, nal_no, rfl⟩
  obtain ⟨Γ', ⟨e2, n2, rfl⟩, h2⟩ := loopE_pre (gs := b_Book_init_2) (bd := bind md_Book_init 2) (s := []) (xs := RL) (enc := aS) (.tr (rlT .own)) .tup .own
    (fun p Γ => ∃ (e2 : Ent), Nal e2 ∧ Γ = [.tr (.nd (.ins 2 0) .own []), .tr (.nd .lst .lnt (xs.map aS)), e2, .tr (lsT .own (p.filter fun x => decide (x ∈ xs))), .tr (.a (.int (nB (prs xs) p 1 0))), .tr (.a (.int (dbN 1 p.length)))])
    (fun p Γ ⟨_, _, e⟩ => by rw [e]; rfl) rfl (fun x _ => rfl) (Γ := [.tr (.nd (.ins 2 0) .own []), .tr (.nd .lst .lnt (xs.map aS)), e1, .tr (lsT .own []), .tr (.a (.int 0)), .tr (.a (.int 1))])
    (by
      rintro p x q Γ hx ⟨e2, n2, rfl⟩
      have hl : p.length ≤ 11 := by have := congrArg List.length hx; simp at this; omega
      have hw := dbN_le p.length hl
      have hm : cMul (dbN 1 p.length) 2 = true := decide_eq_true (by unfold CMul; omega)
      have hp : (p.filter fun x => decide (x ∈ xs)).length < sizeLine := by
        have := List.length_filter_le (fun x => decide (x ∈ xs)) p
        have : (100000 : Nat) < sizeLine := by decide
        omega
      have w2 : dbN 1 (p ++ [x]).length = dbN 1 p.length * 2 := by
        rw [List.length_append, List.length_singleton, dbN_s]
      have hnb := nB_app (prs xs) p x 1 0
      rw [List.filter_append, hnb, w2]
      generalize dbN 1 p.length = wt at *
      generalize nB (prs xs) p 1 0 = num at *
      generalize p.filter (fun x => decide (x ∈ xs)) = acc at hp
      by_cases z : x ∈ xs
      · refine ⟨_, _, by simp! [n2.kr]; rfl, ⟨.tr (aS x), nal_tr, rfl⟩, .inl ?_⟩
        simp! [b_Book_init_2, FIn_ls, z, hp, fMul_int hm]
        rw [List.map_append]
        rfl
      · refine ⟨_, _, by simp! [n2.kr]; rfl, ⟨.tr (aS x), nal_tr, rfl⟩, .inl ?_⟩
        simp! [b_Book_init_2, FIn_ls, z, fMul_int hm])
    ⟨e1, n1, rfl⟩
  have h2 : loopE .tup (bind md_Book_init 2) b_Book_init_2 12 0 ⟨[.tr (.nd (.ins 2 0) .own []), .tr (.nd .lst .lnt (xs.map aS)), e1, .tr (.nd .lst .own []), .tr (.a (.int 0)), .tr (.a (.int 1))], [.tr (rlT .own)]⟩ = _ := h2
  rw [show numB xs = nB (prs xs) RL 1 0 from rfl]
  generalize (RL.filter fun x => decide (x ∈ xs)) = R at *
  generalize nB (prs xs) RL 1 0 = N at *
  have hk := kidL_str (o := .lnt) xs
  have hk2 := kidL_str (o := .own) xs
  simp! [G_Book_init, g_Book_init, sFor, h1, h2, n1.kr, n2.kr, kidc_aS, cpL_str, escL_str, hk, hk2]
end
/-! the law's helpers -/
section
def dvN (n : Int) : Nat → Int
  | 0 => n
  | k + 1 => dvN (n / 2) k
theorem dvN_s : ∀ (k : Nat) (n : Int), dvN n (k + 1) = dvN n k / 2
  | 0, _ => rfl
  | k + 1, n => by
    show dvN (n / 2) (k + 1) = dvN (n / 2) k / 2
    exact dvN_s k (n / 2)
theorem bits_app : ∀ (xs : List Str) (x : Str) (n : Int), bits (xs ++ [x]) n = if dvN n xs.length % 2 = 1 then bits xs n ++ [x] else bits xs n
  | [], x, n => by simp [bits, dvN]
  | y :: r, x, n => by
    show bits (y :: (r ++ [x])) n = _
    unfold bits
    rw [bits_app r x]
    show _ = if dvN (n / 2) r.length % 2 = 1 then _ else _
    split <;> split <;> rfl
theorem P_of_number {n : Int} (h0 : 0 ≤ n) (h1 : n < 4096) : G_Book_of_number [.a (.int n)] = some (.rt (.nd (.ins 2 2) .own [namesT (bits RL n), .a (.int (numB (bits RL n)))]) [.any]) := by
  obtain ⟨Γ', ⟨e3, n3, rfl⟩, h2⟩ := loopE_pre (gs := b_Book_of_number_1) (bd := bind md_Book_of_number 3) (s := []) (xs := RL) (enc := aS) (.tr (rlT .own)) .tup .own
    (fun p Γ => ∃ e3 : Ent, Nal e3 ∧ Γ = [.tr (.a (.int n)), .tr (lsT .own (bits p n)), .tr (.a (.int (dvN n p.length))), e3])
    (fun p Γ ⟨_, _, e⟩ => by rw [e]; rfl) rfl (fun x _ => rfl) (Γ := [.tr (.a (.int n)), .tr (lsT .own []), .tr (.a (.int n)), .no])
    (by
      rintro p x q Γ hx ⟨e3, n3, rfl⟩
      have hp : (bits p n).length < sizeLine := by
        have h100 : (100000 : Nat) < sizeLine := by decide
        have := (bits_sub p n).length_le
        have := congrArg List.length hx
        simp at this
        omega
      rw [List.length_append, List.length_singleton, dvN_s, bits_app]
      generalize bits p n = acc at *
      generalize dvN n p.length = rest at *
      by_cases z : rest % 2 = 1
      · refine ⟨_, _, by simp! [n3.kr]; rfl, ⟨.tr (aS x), nal_tr, rfl⟩, .inl ?_⟩
        simp! [b_Book_of_number_1, z, hp]
        rw [List.map_append]
        rfl
      · refine ⟨_, _, by simp! [n3.kr]; rfl, ⟨.tr (aS x), nal_tr, rfl⟩, .inl ?_⟩
        simp! [b_Book_of_number_1, z])
    ⟨.no, nal_no, rfl⟩
  have h2 : loopE .tup (bind md_Book_of_number 3) b_Book_of_number_1 12 0 ⟨[.tr (.a (.int n)), .tr (.nd .lst .own []), .tr (.a (.int n)), .no], [.tr (rlT .own)]⟩ = _ := h2
  have hs := bits_sub RL n
  have hi := P_init_l (xs := bits RL n) (fun x hx => hs.subset hx) (by have := sub_len hs; omega)
  rw [sub_filter hs nodup_RL] at hi
  have hk := kidL_str (o := .frz) (bits RL n)
  generalize numB (bits RL n) = N at *
  generalize bits RL n = R at *
  simp! [G_Book_of_number, g_Book_of_number, sFor, h0, h1, h2, hi, hk, kidc_aS, escL_str, cpL_str]

theorem mem_bits : ∀ (xs : List Str) (n : Int) (i : Nat) (x : Str), xs.Nodup → xs[i]? = some x → (x ∈ bits xs n ↔ dvN n i % 2 = 1)
  | [], _, i, x, _, h => by simp at h
  | y :: r, n, 0, x, hn, h => by
    cases h
    have h1 := (List.nodup_cons.mp hn).1
    have h2 : y ∉ bits r (n / 2) := fun q => h1 ((bits_sub r (n / 2)).subset q)
    unfold bits dvN
    by_cases c : n % 2 = 1
    · simp [c]
    · simp [c, h2]
  | y :: r, n, i + 1, x, hn, h => by
    have h0 := List.nodup_cons.mp hn
    have hx : r[i]? = some x := by simpa using h
    have ih := mem_bits r (n / 2) i x h0.2 hx
    have ne : x ≠ y := fun e => h0.1 (e ▸ List.mem_of_getElem? hx)
    show x ∈ (if n % 2 = 1 then y :: bits r (n / 2) else bits r (n / 2)) ↔ dvN (n / 2) i % 2 = 1
    rw [← ih]
    by_cases c : n % 2 = 1
    · simp [c, ne]
    · simp [c]
section
variable {n : Int}
theorem has_reuse : decide (("reuse" : Str) ∈ bits RL n) = decide (n / 8 % 2 = 1) := by
  have h := mem_bits RL n 3 "reuse" nodup_RL rfl
  have e : dvN n 3 = n / 8 := by unfold dvN dvN dvN dvN; omega
  rw [e] at h
  exact decide_eq_decide.mpr h
theorem has_lapse : decide (("lapse" : Str) ∈ bits RL n) = decide (n / 64 % 2 = 1) := by
  have h := mem_bits RL n 6 "lapse" nodup_RL rfl
  have e : dvN n 6 = n / 64 := by unfold dvN dvN dvN dvN dvN dvN dvN; omega
  rw [e] at h
  exact decide_eq_decide.mpr h
theorem has_shelve : decide (("shelve" : Str) ∈ bits RL n) = decide (n / 128 % 2 = 1) := by
  have h := mem_bits RL n 7 "shelve" nodup_RL rfl
  have e : dvN n 7 = n / 128 := by unfold dvN dvN dvN dvN dvN dvN dvN dvN; omega
  rw [e] at h
  exact decide_eq_decide.mpr h
theorem P_has (n : Int) : G_law_has_reuse [iT n] = some (.rt (bT (decide (n / 8 % 2 = 1))) [.any]) ∧ G_law_has_lapse [iT n] = some (.rt (bT (decide (n / 64 % 2 = 1))) [.any]) ∧ G_law_has_shelve [iT n] = some (.rt (bT (decide (n / 128 % 2 = 1))) [.any]) := by
  refine ⟨?_, ?_, ?_⟩
  · simp! [G_law_has_reuse, g_law_has_reuse]
  · simp! [G_law_has_lapse, g_law_has_lapse]
  · simp! [G_law_has_shelve, g_law_has_shelve]
end
end
/-! lots -/
theorem rev_loopE {α : Type} {xs : List α} {enc : α → Tr} (e0 e : Ent) (o : Ow) {ga : GE} {bd : Ms → Option Ms} {body : GS} {m : Ms} {Γ : List Ent} (J : List α → List Ent → Prop)
    (ha : ga m = some (.ok ⟨Γ, [e0]⟩)) (hr : ready ⟨Γ, [e0]⟩ = some (⟨Γ, [e]⟩, .lst, xs.length)) (hv : ∀ p Γ, J p Γ → viewE Γ e = some (.nd .lst o (xs.map enc))) (hc : cpE e = true) (hcp : ∀ x ∈ xs, cp (kid o (enc x)) = true) (h0 : J [] Γ)
    (turn : ∀ p x q Γ, xs.reverse = p ++ x :: q → J p Γ → ∃ Γ1 Γ2, bd ⟨Γ, [.tr (kid o (enc x)), e]⟩ = some ⟨Γ1, [e]⟩ ∧ body ⟨Γ1, [e]⟩ = some (.nx ⟨Γ2, [e]⟩) ∧ J (p ++ [x]) Γ2) :
    ∃ Γ', J xs.reverse Γ' ∧ sForRev ga bd body m = some (.nx ⟨Γ', []⟩) := by
  have key : ∀ q p Γ, xs.reverse = p ++ q → J p Γ → ∃ Γ', J xs.reverse Γ' ∧ loopN (nxRev .lst xs.length) (finN .lst fun _ i => decide (xs.length ≤ i)) bd body q.length p.length ⟨Γ, [e]⟩ = some (.nx ⟨Γ', []⟩) := by
    intro q
    induction q with
    | nil =>
      intro p Γ hp hj
      rw [List.append_nil] at hp
      have hl := congrArg List.length hp
      rw [List.length_reverse] at hl
      refine ⟨Γ, hp ▸ hj, ?_⟩
      unfold loopN
      simp [finN, hv _ _ hj, hl]
    | cons x q ih =>
      intro p Γ hp hj
      obtain ⟨Γ1, Γ2, b1, b2, b3⟩ := turn p x q Γ hp hj
      obtain ⟨Γ', q1, q2⟩ := ih (p ++ [x]) Γ2 (by rw [hp]; simp) b3
      refine ⟨Γ', q1, ?_⟩
      have hl := congrArg List.length hp
      rw [List.length_reverse, List.length_append, List.length_cons] at hl
      have hlt : p.length < xs.length := by omega
      have hx : xs[xs.length - 1 - p.length]'(by omega) = x := by
        have h1 : xs.reverse[p.length]? = some x := by rw [hp]; simp
        rw [List.getElem?_reverse hlt] at h1
        have h2 := List.getElem?_eq_getElem (l := xs) (i := xs.length - 1 - p.length) (by omega)
        rw [h2] at h1
        exact Option.some.inj h1
      have hn : nxRev .lst xs.length p.length ⟨Γ, [e]⟩ = some ⟨Γ, [.tr (kid o (enc x)), e]⟩ := by
        have hm : x ∈ xs := hx ▸ List.getElem_mem _
        have hcp' := hcp x hm
        have h5 : xs.length - 1 - p.length < xs.length := by omega
        simp [nxRev, hv _ _ hj, hc, kidX, hlt, h5, hx, hcp']
      unfold loopN
      rw [List.length_append] at q2
      simp only [List.length_cons, hn, b1, b2]
      exact q2
  obtain ⟨Γ', q1, q2⟩ := key xs.reverse [] Γ rfl h0
  refine ⟨Γ', q1, ?_⟩
  unfold sForRev
  rw [List.length_reverse] at q2
  have hl : lenTop ⟨Γ, [e]⟩ = some xs.length := by simp [lenTop, hv _ _ h0]
  simp only [ha, hr, hl]
  exact q2
structure Lt where
  n : Int
  f : Int
  cp : List Int
  rv : List Int
  mkd : Bool
abbrev R8 : List Int := [10, 11, 12, 13, 14, 15, 16, 17]
def slZ (f x : Int) : Int := f + 3 * (17 - x)
structure LtOk (l : Lt) : Prop where
  c : List.Sublist l.cp R8
  r : List.Sublist l.rv R8
  f0 : 0 ≤ l.f
  f1 : l.f ≤ 1000
abbrev pairT (a b : Int) : Tr := .nd .tup .own [iT a, iT b]
/-- a lot with the copies L -/
abbrev lobT (o : Ow) (n f : Int) (L : List Int) (w s : Int) (rv : List Int) : Tr := .nd (.ins 3 7) o [iT n, .a .non, .nd (.dct (L.map Sum.inl)) .own (L.map fun x => pairT (slZ f x) (100 + x)), .nd (.dct (L.map Sum.inl)) .own (L.map fun x => pairT n x), iT w, iT s, tupT rv]
/-- the copied blocks, the last first -/
def cpR (l : Lt) : List Int := l.cp.reverse
def msZ (l : Lt) : Int := if l.mkd = true then l.f + 1 else -1
def slL (l : Lt) : List Int := (cpR l).map (slZ l.f) ++ if l.mkd = true then [l.f + 1] else []
abbrev lobF (o : Ow) (l : Lt) : Tr := lobT o l.n l.f (cpR l) 7 (msZ l) l.rv
abbrev toldT (o : Ow) (l : Lt) : Tr := .nd .lst o [lobF .own l, iT l.n, rowT l.cp, rowT l.rv, rowT (sortI (slL l)), iT l.f, bT l.mkd]
theorem R8_nd : R8.Nodup := by decide
theorem R8_mem {x : Int} (h : x ∈ R8) : 10 ≤ x ∧ x ≤ 17 := by
  have : ∀ y ∈ R8, 10 ≤ y ∧ y ≤ 17 := by decide
  exact this x h
theorem kix_no : ∀ {L : List Int} {x : Int}, x ∉ L → kix (.inl x) (L.map Sum.inl) = none
  | [], _, _ => rfl
  | y :: L, x, h => by
    simp only [List.mem_cons, not_or] at h
    have h1 : ¬ (Sum.inl y : Key) = .inl x := fun e => h.1 (Sum.inl.inj e).symm
    show kix (.inl x) (Sum.inl y :: L.map Sum.inl) = none
    unfold kix
    rw [if_neg h1, kix_no h.2]
    rfl
theorem kix_yes : ∀ {L : List Int} {x : Int}, x ∈ L → ∃ j, kix (.inl x) (L.map Sum.inl) = some j ∧ L[j]? = some x
  | [], _, h => by simp at h
  | y :: L, x, h => by
    by_cases e : y = x
    · exact ⟨0, by show kix (.inl x) (Sum.inl y :: L.map Sum.inl) = some 0; unfold kix; rw [if_pos (by rw [e])], by rw [e]; rfl⟩
    · have hx : x ∈ L := by
        rcases List.mem_cons.mp h with z | z
        · exact absurd z.symm e
        · exact z
      obtain ⟨j, h1, h2⟩ := kix_yes hx
      refine ⟨j + 1, ?_, by simpa using h2⟩
      show kix (.inl x) (Sum.inl y :: L.map Sum.inl) = some (j + 1)
      unfold kix
      rw [if_neg (fun z => e (Sum.inl.inj z)), h1]
      rfl
theorem nd_keys {L : List Int} (h : L.Nodup) : (L.map (Sum.inl : Int → Key)).Nodup := List.Pairwise.map _ (fun a b n e => n (Sum.inl.inj e)) h
section
variable {n f w s x : Int} {L rv : List Int}
theorem P_keep_copy (hL : L.Nodup) (h8 : L.length ≤ 8) (hx : x ∉ L) {ct : Tr} (hct : ct = pairT n x) : G_Lot_keep_copy [lobT .own n f L w s rv, iT x, iT (slZ f x), iT (100 + x), ct] = some (.rt (.a .non) [lobT .own n f (L ++ [x]) w s rv, .any, .any, .any, .any]) := by
  have h1 := kix_no hx
  have h2 := nd_keys hL
  have h3 : L.length < 100000 := by omega
  subst hct
  rw [show lobT .own n f (L ++ [x]) w s rv = .nd (.ins 3 7) .own [iT n, .a .non, .nd (.dct (L.map Sum.inl ++ [Sum.inl x])) .own (L.map (fun x => pairT (slZ f x) (100 + x)) ++ [pairT (slZ f x) (100 + x)]), .nd (.dct (L.map Sum.inl ++ [Sum.inl x])) .own (L.map (fun x => pairT n x) ++ [pairT n x]), iT w, iT s, tupT rv] by simp]
  simp! [G_Lot_keep_copy, g_Lot_keep_copy, h1, h2, h3, keyOf]
theorem P_keep_mark {q : List Int} {a b : Int} : G_Lot_keep_mark [lobT .own n f L w s rv, iT a, iT b, .nd .lst .lnt (q.map iT)] = some (.rt (.a .non) [lobT .own n f L b a q, .any, .any, .any]) := by
  simp! [G_Lot_keep_mark, g_Lot_keep_mark]
end
/-! a lot is made -/
section
variable {n f : Int}
theorem P_law_lot {fs : List Int} (hf : Feed fs) (f0 : 0 ≤ f) (f1 : f ≤ 1000) : ∃ fs' l, G_law_lot [rowT fs, iT n, iT f] = some (.rt (toldT .own l) [rowT fs', .any, .any]) ∧ Feed fs' ∧ LtOk l ∧ l.n = n ∧ l.f = f := by
  obtain ⟨Γ', ⟨fs1, cq, rv, e7, e8, n7, n8, hf1, hc, hr, rfl⟩, h1⟩ := loopE_pre (gs := b_law_lot_1) (bd := bind md_law_lot 7) (s := []) (xs := R8) (enc := iT) (.al [3]) .lst .own
    (fun p Γ => ∃ (fs1 cq rv : List Int) (e7 e8 : Ent), Nal e7 ∧ Nal e8 ∧ Feed fs1 ∧ List.Sublist cq p ∧ List.Sublist rv p ∧ Γ = [.tr (rowT fs1), .tr (iT n), .tr (iT f), .tr (rowT R8), .tr (lobT .own n f [] 0 (-1) []), .tr (rowT cq), .tr (rowT rv), e7, e8, .no, .no, .no, .no])
    (fun p Γ ⟨_, _, _, _, _, _, _, _, _, _, e⟩ => by rw [e]; rfl) rfl (fun x _ => rfl) (Γ := [.tr (rowT fs), .tr (iT n), .tr (iT f), .tr (rowT R8), .tr (lobT .own n f [] 0 (-1) []), .tr (rowT []), .tr (rowT []), .no, .no, .no, .no, .no, .no])
    (by
      rintro p x q Γ hx ⟨fs1, cq, rv, e7, e8, n7, n8, hf1, hc, hr, rfl⟩
      obtain ⟨c, fs2, p1, c0, c1, hf2⟩ := G_pick (n := 5) hf1 (by decide)
      have hp : p.length ≤ 8 := by
        have := congrArg List.length hx
        simp at this
        omega
      have z1 : cq.length < sizeLine := Nat.lt_of_le_of_lt (Nat.le_trans hc.length_le hp) (by decide)
      have z2 : rv.length < sizeLine := Nat.lt_of_le_of_lt (Nat.le_trans hr.length_le hp) (by decide)
      have up := fun {l : List Int} (h : List.Sublist l p) => h.trans (List.sublist_append_left p [x])
      have ap := fun {l : List Int} (h : List.Sublist l p) => h.append (List.Sublist.refl [x])
      have hcc : c = 0 ∨ c = 1 ∨ c = 2 ∨ c = 3 ∨ c = 4 := by omega
      rcases hcc with rfl | rfl | rfl | rfl | rfl
      · refine ⟨_, _, by simp! [n7.kr, n8.kr]; rfl, ⟨fs2, cq, rv, .tr (iT x), .tr (iT 0), nal_tr, nal_tr, hf2, up hc, up hr, rfl⟩, .inl ?_⟩
        simp! [b_law_lot_1, p1]
      · refine ⟨_, _, by simp! [n7.kr, n8.kr]; rfl, ⟨fs2, cq ++ [x], rv, .tr (iT x), .tr (iT 1), nal_tr, nal_tr, hf2, ap hc, up hr, rfl⟩, .inl ?_⟩
        simp! [b_law_lot_1, p1, z1]
      · refine ⟨_, _, by simp! [n7.kr, n8.kr]; rfl, ⟨fs2, cq, rv ++ [x], .tr (iT x), .tr (iT 2), nal_tr, nal_tr, hf2, up hc, ap hr, rfl⟩, .inl ?_⟩
        simp! [b_law_lot_1, p1, z2]
      · refine ⟨_, _, by simp! [n7.kr, n8.kr]; rfl, ⟨fs2, cq ++ [x], rv ++ [x], .tr (iT x), .tr (iT 3), nal_tr, nal_tr, hf2, ap hc, ap hr, rfl⟩, .inl ?_⟩
        simp! [b_law_lot_1, p1, z1, z2]
      · refine ⟨_, _, by simp! [n7.kr, n8.kr]; rfl, ⟨fs2, cq, rv, .tr (iT x), .tr (iT 4), nal_tr, nal_tr, hf2, up hc, up hr, rfl⟩, .inl ?_⟩
        simp! [b_law_lot_1, p1])
    ⟨fs, [], [], .no, .no, nal_no, nal_no, hf, List.Sublist.refl _, List.Sublist.refl _, rfl⟩
  have h1 : loopE .lst (bind md_law_lot 7) b_law_lot_1 8 0 ⟨[.tr (rowT fs), .tr (iT n), .tr (iT f), .tr (.nd .lst .own [iT 10, iT 11, iT 12, iT 13, iT 14, iT 15, iT 16, iT 17]), .tr (lobT .own n f [] 0 (-1) []), .tr (.nd .lst .own []), .tr (.nd .lst .own []), .no, .no, .no, .no, .no, .no], [.al [3]]⟩ = _ := h1
  have cnd : cq.Nodup := hc.nodup R8_nd
  have c8 : cq.length ≤ 8 := hc.length_le
  obtain ⟨Γ', ⟨e7', e10, n7', n10, rfl⟩, h2⟩ := rev_loopE (xs := cq) (enc := iT) (ga := gVar 5) (bd := bind md_law_lot 7) (body := b_law_lot_2) (.al [5]) (.al [5]) .own (m := ⟨[.tr (rowT fs1), .tr (iT n), .tr (iT f), .tr (rowT R8), .tr (lobT .own n f [] 0 (-1) []), .tr (rowT cq), .tr (rowT rv), e7, e8, .tr (rowT []), .no, .no, .no], []⟩)
    (Γ := [.tr (rowT fs1), .tr (iT n), .tr (iT f), .tr (rowT R8), .tr (lobT .own n f [] 0 (-1) []), .tr (rowT cq), .tr (rowT rv), e7, e8, .tr (rowT []), .no, .no, .no])
    (fun p Γ => ∃ e7 e10, Nal e7 ∧ Nal e10 ∧ Γ = [.tr (rowT fs1), .tr (iT n), .tr (iT f), .tr (rowT R8), .tr (lobT .own n f p 0 (-1) []), .tr (rowT cq), .tr (rowT rv), e7, e8, .tr (rowT (p.map (slZ f))), e10, .no, .no])
    rfl (by simp! []) (fun p Γ ⟨_, _, _, _, e⟩ => by rw [e]; rfl) rfl (fun x _ => rfl) ⟨e7, .no, n7, nal_no, rfl⟩
    (by
      rintro p x q Γ hx ⟨e7, e10, n7, n10, rfl⟩
      have hl := congrArg List.length hx
      rw [List.length_reverse, List.length_append] at hl
      have hnd : (p ++ x :: q).Nodup := hx ▸ (List.reverse_perm cq).nodup_iff.mpr cnd
      have hpn : p.Nodup := (List.nodup_append.mp hnd).1
      have hxp : x ∉ p := fun h => (List.nodup_append.mp hnd).2.2 x h x (by simp) rfl
      have hxm : x ∈ cq := by
        have : x ∈ cq.reverse := by rw [hx]; simp
        simpa using this
      obtain ⟨x0, x1⟩ := R8_mem (hc.subset hxm)
      have mu := fun {Γ s} => @fMul_int Γ s 3 (17 - x) (cMul_l (by decide) (by decide))
      have z1 : (p.map (slZ f)).length < sizeLine := Nat.lt_of_le_of_lt (by rw [List.length_map]; omega) (by decide : 8 < sizeLine)
      have z2 : p.length < sizeLine := Nat.lt_of_le_of_lt (by omega) (by decide : 8 < sizeLine)
      have hk : G_Lot_keep_copy [lobT .own n f p 0 (-1) [], iT x, iT (f + 3 * (17 - x)), iT (100 + x), pairT n x] = _ := P_keep_copy hpn (by omega) hxp (ct := pairT n x) rfl
      have es : slZ f x = f + 3 * (17 - x) := rfl
      refine ⟨_, _, by simp! [n7.kr, n8.kr, n10.kr]; rfl, ?_, ⟨.tr (iT x), .tr (iT (slZ f x)), nal_tr, nal_tr, rfl⟩⟩
      simp! [b_law_lot_2, mu, z1, z2, hk, es, n8.kr, n8.ke, n8.kj, n10.kr, n10.ke]
      rw [List.map_append]
      rfl)
  obtain ⟨c, fs2, p1, c0, c1, hf2⟩ := G_pick (n := 4) hf1 (by decide)
  have hi : G_Lot_init [.nd (.ins 3 0) .own [], iT n, .a .non] = some (.rt (.a .non) [lobT .own n f [] 0 (-1) [], .any, .any]) := by simp! [G_Lot_init, g_Lot_init]
  have z1 : cq.length < sizeLine := Nat.lt_of_le_of_lt c8 (by decide)
  have z2 : rv.length < sizeLine := Nat.lt_of_le_of_lt (hr.length_le) (by decide : 8 < sizeLine)
  have hm := fun a b => @P_keep_mark n f 0 (-1) cq.reverse [] rv a b
  refine ⟨fs2, ⟨n, f, cq, rv, !decide (c = 1)⟩, ?_, hf2, ⟨hc, hr, f0, f1⟩, rfl, rfl⟩
  unfold G_law_lot g_law_lot
  simp! [sFor, hi, h1, n7.kr, n8.kr]
  rw [show (rowT []) = .nd .lst .own [] from rfl] at h2
  erw [h2]
  have hsl : ∀ b, slL ⟨n, f, cq, rv, b⟩ = cq.reverse.map (slZ f) ++ if b = true then [f + 1] else [] := fun b => rfl
  have hcr : ∀ b, cpR ⟨n, f, cq, rv, b⟩ = cq.reverse := fun b => rfl
  have zS : (cq.reverse.map (slZ f)).length < sizeLine := by rw [List.length_map, List.length_reverse]; exact z1
  generalize cq.reverse.map (slZ f) = S at *
  have i1 := intsT_map (S ++ [f + 1])
  have i2 := intsT_map S
  have hm1 := hm (f + 1) 7
  have hm2 := hm (-1) 7
  by_cases hc1 : c = 1
  · simp! [p1, hc1, hm2, z1, z2, zS, n7'.kr, n7'.ke, n8.kr, n8.ke, n8.kj, n10.kr, n10.ke, fSrt, i2, hsl, hcr, msZ]
  · simp! [p1, hc1, hm1, z1, z2, zS, n7'.kr, n7'.ke, n8.kr, n8.ke, n8.kj, n10.kr, n10.ke, fSrt, i1, hsl, hcr, msZ]
end
/-! the slots of a lot -/
theorem toDL_pairs (g h : Int → Int) : ∀ L : List Int, toDL (L.map fun x => pairT (g x) (h x)) = some (L.map fun x => .tuple [.int (g x), .int (h x)])
  | [] => rfl
  | x :: L => by
    have ih := toDL_pairs g h L
    rw [List.map_cons, List.map_cons]
    unfold toDL
    rw [ih]
    rfl
theorem firstsI_pairs (g h : Int → Int) : ∀ L : List Int, firstsI (L.map fun x => PyData.tuple [.int (g x), .int (h x)]) = some (L.map g)
  | [] => rfl
  | x :: L => by
    have ih := firstsI_pairs g h L
    rw [List.map_cons, List.map_cons]
    unfold firstsI
    rw [ih]
    rfl
theorem intsK_inl : ∀ L : List Int, intsK (L.map Sum.inl) = some L
  | [] => rfl
  | x :: L => by
    have ih := intsK_inl L
    rw [List.map_cons]
    unfold intsK
    rw [ih]
    rfl
section
variable {l : Lt}
theorem LtOk.nd (h : LtOk l) : l.cp.Nodup := h.c.nodup R8_nd
theorem LtOk.len (h : LtOk l) : l.cp.length ≤ 8 := h.c.length_le
theorem LtOk.mem (h : LtOk l) {x : Int} (hx : x ∈ l.cp) : 10 ≤ x ∧ x ≤ 17 := R8_mem (h.c.subset hx)
theorem LtOk.srt (h : LtOk l) : sortI (cpR l) = l.cp := by
  refine (sortI_uniq (List.reverse_perm l.cp).symm ?_).symm
  have : R8.Pairwise (· ≤ ·) := by decide
  exact this.sublist h.c
theorem slL_len (h : LtOk l) : (slL l).length ≤ 9 := by
  unfold slL cpR
  have := h.len
  rw [List.length_append, List.length_map, List.length_reverse]
  split <;> simp <;> omega
theorem slL_nd (h : LtOk l) : (slL l).Nodup := by
  unfold slL cpR
  rw [List.nodup_append]
  refine ⟨List.Pairwise.map _ (fun a b n e => n (by unfold slZ at e; omega)) ((List.reverse_perm l.cp).nodup_iff.mpr h.nd), by split <;> simp, fun a ha b hb e => ?_⟩
  split at hb
  · obtain ⟨x, hx, rfl⟩ := List.mem_map.mp ha
    rw [List.mem_singleton] at hb
    unfold slZ at e
    omega
  · simp at hb
theorem slL_filter (h : LtOk l) : ((cpR l).map (slZ l.f) ++ [msZ l]).filter (fun x => !decide (x = -1)) = slL l := by
  have f0 := h.f0
  unfold cpR
  rw [List.filter_append]
  have h1 : (l.cp.reverse.map (slZ l.f)).filter (fun x => !decide (x = -1)) = l.cp.reverse.map (slZ l.f) := by
    refine List.filter_eq_self.mpr fun y hy => ?_
    obtain ⟨x, hx, rfl⟩ := List.mem_map.mp hy
    have := h.mem (by simpa using hx : x ∈ l.cp)
    simp
    unfold slZ
    omega
  rw [h1]
  unfold slL cpR msZ
  by_cases hm : l.mkd = true
  · rw [if_pos hm, if_pos hm]
    have : ¬ (l.f + 1 = -1) := by omega
    simp [this]
  · rw [if_neg hm, if_neg hm]
    rfl
theorem P_used (h : LtOk l) : G_Lot_used_slots [lobF .frz l] = some (.rt (rowT (sortI (slL l))) [.any]) := by
  have e1 := toDL_pairs (slZ l.f) (fun x => 100 + x) (cpR l)
  have e2 := firstsI_pairs (slZ l.f) (fun x => 100 + x) (cpR l)
  have e3 := h.len
  have e0 : (cpR l).length = l.cp.length := List.length_reverse
  have hl := slL_len h
  have hn := slL_nd h
  have hfl := slL_filter h
  have e4 : ((cpR l).map (slZ l.f)).length ≤ 8 := by rw [List.length_map, e0]; exact e3
  have few : (cpR l).length ≤ 100000 := by rw [e0]; omega
  show G_Lot_used_slots [lobT .frz l.n l.f (cpR l) 7 (msZ l) l.rv] = _
  generalize (cpR l) = L at *
  generalize msZ l = ms at *
  have zz : L.length ≤ 8 := by rw [List.length_map] at e4; exact e4
  generalize L.map (slZ l.f) = A at *
  have em : A.map (fun n => Tr.a (V.int n)) = A.map iT := rfl
  have e5 : (A ++ [ms]).length ≤ 9 := by rw [List.length_append, List.length_singleton]; omega
  have e6 := intsT_map (slL l)
  have e7 : (slL l).length < 64 := by omega
  have z : A.length + 1 ≤ sizeLine := Nat.le_trans (by omega : A.length + 1 ≤ 9) (by decide)
  have few2 : A.length ≤ 100000 := by omega
  unfold G_Lot_used_slots g_Lot_used_slots
  simp! [gLcV, e1, e2, few, few2, z, em]
  rw [gLcP_is (xs := A ++ [ms]) (enc := iT) (.al [1]) (.al [1]) .lst .own (by simp! []) (by simp! []) rfl (by simp! []) (by omega) rfl rfl rfl rfl rfl (fun x _ => rfl) (fun x => !decide (x = -1)) iT (fun x _ s' => by simp! [t_Lot_used_slots_1]) (fun x _ s' _ => ⟨by simp! [e_Lot_used_slots_1], by simp! []⟩), hfl]
  simp! [fSrtSet, e6, e7, hn]
end
/-! a lot is as it was kept -/
section
variable {l : Lt}
theorem P_lot_good (h : LtOk l) : G_law_lot_good [toldT .frz l] = some (.rt (bT true) [.any]) := by
  have hu := P_used h
  have hl := slL_len h
  have hs : (sortI (slL l)).length ≤ 9 := by rw [(sortI_perm _).length_eq]; exact hl
  have hk := intsK_inl (cpR l)
  have hr := h.srt
  have few : (cpR l).length < 64 := by have := h.len; rw [show (cpR l).length = l.cp.length from List.length_reverse]; omega
  have few2 : l.cp.length < 64 := by have := h.len; omega
  obtain ⟨e', he⟩ := loopE_all (md := md_law_lot_good) (k := 9) (Γ := [.tr (toldT .frz l), .tr (lobF .frz l), .tr (iT l.n), .tr (.nd .lst .frz (l.cp.map iT)), .tr (.nd .lst .frz (l.rv.map iT)), .tr (.nd .lst .frz ((sortI (slL l)).map iT)), .tr (iT l.f), .tr (bT l.mkd), .tr (rowT (sortI (slL l))), .no, .no]) (s := []) (gs := b_law_lot_good_1) (t := bT false) (xs := l.cp) (enc := iT) (.tr (.nd .lst .frz (l.cp.map iT))) .lst .frz rfl (by simp) rfl rfl rfl rfl (fun e' => rfl) (fun x _ => rfl) (fun _ => true) (fun x hx => by
    obtain ⟨j, j1, j2⟩ := kix_yes (L := (cpR l)) (x := x) (by simpa [cpR] using hx)
    have mu := fun {Γ s} => @fMul_int Γ s 3 (17 - x) (cMul_l (by decide) (by decide))
    have es : slZ l.f x = l.f + 3 * (17 - x) := rfl
    have a1 : ((cpR l).map fun x => pairT (slZ l.f x) (100 + x))[j]? = some (pairT (slZ l.f x) (100 + x)) := by rw [List.getElem?_map, j2]; rfl
    have a2 : ((cpR l).map fun x => pairT l.n x)[j]? = some (pairT l.n x) := by rw [List.getElem?_map, j2]; rfl
    simp! [b_law_lot_good_1, mu, j1, j2, a1, a2, es, keyOf])
  rw [if_pos (by simp)] at he
  unfold G_law_lot_good g_law_lot_good
  simp! [hu, fSrtK, sFor, hk, hr, few, he]
  unfold msZ
  by_cases c : l.mkd = true
  · rw [if_pos c, if_pos c]
  · rw [if_neg c, if_neg c]
end
/-! the last copy that is not struck -/
def liveO (la : Bool) (x : Int) : List Lt → Option Int
  | [] => none
  | l :: r => if x ∈ l.cp ∧ (la = true ∨ x ∉ l.rv) then some l.n else if x ∈ l.rv then some 0 else liveO la x r
def liveZ (la : Bool) (x : Int) (ls : List Lt) : Int := (liveO la x ls.reverse).getD 0
theorem liveZ_app (la : Bool) (x : Int) (p : List Lt) (l : Lt) : liveZ la x (p ++ [l]) = if x ∈ l.cp ∧ (la = true ∨ x ∉ l.rv) then l.n else if x ∈ l.rv then 0 else liveZ la x p := by
  unfold liveZ
  rw [List.reverse_append]
  show (liveO la x (l :: p.reverse)).getD 0 = _
  conv => lhs; unfold liveO
  split
  · rfl
  · split <;> rfl
theorem kix_isSome {L : List Int} {x : Int} : (kix (.inl x) (L.map Sum.inl)).isSome = decide (x ∈ L) := by
  by_cases h : x ∈ L
  · obtain ⟨j, h1, _⟩ := kix_yes h
    simp [h1, h]
  · simp [kix_no h, h]
theorem mem_cpR {l : Lt} {x : Int} : x ∈ cpR l ↔ x ∈ l.cp := by simp [cpR]
theorem FIn_dct {neg : Bool} {x : Int} {ks : List Key} {o : Ow} {ts : List Tr} : FIn neg (.a (.int x)) (.nd (.dct ks) o ts) = none := rfl
abbrev winT (o : Ow) (ls : List Lt) : Tr := .nd .lst o (ls.map (lobF .frz))
abbrev lotsT (o : Ow) (ls : List Lt) : Tr := .nd .lst o (ls.map (toldT .frz))
section
variable {ls : List Lt} {x : Int} {la : Bool}
theorem P_live_lot : G_live_lot [winT .lnt ls, iT x, bT la] = some (.rt (iT (liveZ la x ls)) [.any, .any, .any]) := by
  obtain ⟨Γ', ⟨e4, n4, rfl⟩, h1⟩ := loopE_pre (gs := b_live_lot_1) (bd := bind md_live_lot 4) (s := []) (xs := ls) (enc := lobF .frz) (.tr (winT .lnt ls)) .lst .lnt
    (fun p Γ => ∃ (e4 : Ent), Nal e4 ∧ Γ = [.tr (winT .lnt ls), .tr (iT x), .tr (bT la), .tr (iT (liveZ la x p)), e4])
    (fun p Γ ⟨_, _, e⟩ => by rw [e]; rfl) rfl (fun x _ => rfl) (Γ := [.tr (winT .lnt ls), .tr (iT x), .tr (bT la), .tr (iT 0), .no])
    (by
      rintro p l q Γ hx ⟨e4, n4, rfl⟩
      refine ⟨_, _, by simp! [n4.kr]; rfl, ⟨.tr (lobF .frz l), nal_tr, rfl⟩, .inl ?_⟩
      rw [liveZ_app]
      have k1 := @kix_isSome (cpR l) x
      have k2 := @mem_cpR l x
      by_cases c1 : x ∈ l.cp <;> by_cases c2 : x ∈ l.rv <;> cases la <;> simp! [b_live_lot_1, k1, k2, c1, c2, keyOf, FIn_dct, FInD])
    ⟨.no, nal_no, rfl⟩
  simp! [G_live_lot, g_live_lot, sFor, h1]
theorem liveO_cons (l : Lt) (r : List Lt) : liveO la x (l :: r) = if x ∈ l.cp ∧ (la = true ∨ x ∉ l.rv) then some l.n else if x ∈ l.rv then some 0 else liveO la x r := rfl
theorem lv_turn {tt : List Tr} {t0 t4 t5 t6 : Tr} {n i : Int} {cq rv : List Int} {e4 e5 : Ent} (n4 : Nal e4) (n5 : Nal e5) (i0 : 0 ≤ i) (i1 : i < tt.length) (hT : tt[((tt.length : Int) - 1 - i).toNat]? = some (.nd .lst .frz [t0, iT n, rowT cq, rowT rv, t4, t5, t6])) :
    b_law_live_1 ⟨[.tr (.nd .lst .lnt tt), .tr (iT x), .tr (bT la), .tr (iT i), e4, e5], []⟩ = some (if x ∈ cq ∧ (la = true ∨ x ∉ rv) then .rt (iT n) ⟨[.tr (.nd .lst .lnt tt), .tr (iT x), .tr (bT la), .tr (iT i), .tr (.nd .lst .frz [t0, iT n, rowT cq, rowT rv, t4, t5, t6]), .tr (bT (decide (x ∈ rv) && !la))], []⟩
      else if x ∈ rv then .rt (iT 0) ⟨[.tr (.nd .lst .lnt tt), .tr (iT x), .tr (bT la), .tr (iT i), .tr (.nd .lst .frz [t0, iT n, rowT cq, rowT rv, t4, t5, t6]), .tr (bT (decide (x ∈ rv) && !la))], []⟩
      else .nx ⟨[.tr (.nd .lst .lnt tt), .tr (iT x), .tr (bT la), .tr (iT i), .tr (.nd .lst .frz [t0, iT n, rowT cq, rowT rv, t4, t5, t6]), .tr (bT (decide (x ∈ rv) && !la))], []⟩) := by
  have a1 := ixN_len (n := tt.length) (i := (tt.length : Int) - 1 - i) (by omega) (by omega)
  generalize hk : ((tt.length : Int) - 1 - i) = k at *
  by_cases c1 : x ∈ cq <;> by_cases c2 : x ∈ rv <;> cases la <;> simp! [b_law_live_1, hk, a1, hT, c1, c2, n4.kr, n5.kr]
theorem lv_loop : ∃ o, loopR (bind md_law_live 3) b_law_live_1 0 ls.length 0 ⟨[.tr (.nd .lst .lnt (ls.map (toldT .frz))), .tr (iT x), .tr (bT la), .no, .no, .no], []⟩ = some o ∧
    ∃ e3 e4 e5 : Ent, (o = .nx ⟨[.tr (.nd .lst .lnt (ls.map (toldT .frz))), .tr (iT x), .tr (bT la), e3, e4, e5], []⟩ ∧ liveO la x ls.reverse = none) ∨ ∃ v, o = .rt (iT v) ⟨[.tr (.nd .lst .lnt (ls.map (toldT .frz))), .tr (iT x), .tr (bT la), e3, e4, e5], []⟩ ∧ liveO la x ls.reverse = some v := by
  have ht : (ls.map (toldT .frz)).length = ls.length := List.length_map _
  exact loopR_inv (bd := bind md_law_live 3) (gs := b_law_live_1) (lo := 0) (n := ls.length) (m := ⟨[.tr (.nd .lst .lnt (ls.map (toldT .frz))), .tr (iT x), .tr (bT la), .no, .no, .no], []⟩)
    (fun i m => ∃ e3 e4 e5 : Ent, Nal e3 ∧ Nal e4 ∧ Nal e5 ∧ m = ⟨[.tr (.nd .lst .lnt (ls.map (toldT .frz))), .tr (iT x), .tr (bT la), e3, e4, e5], []⟩ ∧ liveO la x ls.reverse = liveO la x (ls.reverse.drop i))
    (fun o => ∃ e3 e4 e5 : Ent, (o = .nx ⟨[.tr (.nd .lst .lnt (ls.map (toldT .frz))), .tr (iT x), .tr (bT la), e3, e4, e5], []⟩ ∧ liveO la x ls.reverse = none) ∨ ∃ v, o = .rt (iT v) ⟨[.tr (.nd .lst .lnt (ls.map (toldT .frz))), .tr (iT x), .tr (bT la), e3, e4, e5], []⟩ ∧ liveO la x ls.reverse = some v)
    ⟨.no, .no, .no, nal_no, nal_no, nal_no, rfl, rfl⟩
    (by
      rintro m ⟨e3, e4, e5, n3, n4, n5, rfl, h⟩
      rw [List.drop_eq_nil_of_le (by rw [List.length_reverse]; exact Nat.le_refl _)] at h
      exact ⟨e3, e4, e5, .inl ⟨rfl, h⟩⟩)
    (by
      rintro i m hi ⟨e3, e4, e5, n3, n4, n5, rfl, h⟩
      have a4 : ls[ls.length - 1 - i]? = some (ls[ls.length - 1 - i]'(by omega)) := List.getElem?_eq_getElem _
      have a3 : ls.reverse.drop i = (ls[ls.length - 1 - i]'(by omega)) :: ls.reverse.drop (i + 1) := by
        rw [List.drop_eq_getElem_cons (by rw [List.length_reverse]; exact hi)]
        congr 1
        rw [List.getElem_reverse]
      generalize ls[ls.length - 1 - i]'(by omega) = l at *
      rw [a3, liveO_cons] at h
      have tn := @lv_turn x la (ls.map (toldT .frz)) (lobF .own l) (rowT (sortI (slL l))) (iT l.f) (bT l.mkd) l.n i l.cp l.rv e4 e5 n4 n5 (by omega) (by rw [ht]; omega) (by
        rw [ht, show ((ls.length : Int) - 1 - i).toNat = ls.length - 1 - i by omega, List.getElem?_map, a4]
        rfl)
      rw [show (0 : Int) + (i : Int) = i by omega]
      by_cases c1 : x ∈ l.cp ∧ (la = true ∨ x ∉ l.rv)
      · rw [if_pos c1] at h tn
        exact ⟨_, _, by simp! [n3.kr, n4.kr, n5.kr], tn, _, _, _, .inr ⟨l.n, rfl, h⟩⟩
      · rw [if_neg c1] at h tn
        by_cases c2 : x ∈ l.rv
        · rw [if_pos c2] at h tn
          exact ⟨_, _, by simp! [n3.kr, n4.kr, n5.kr], tn, _, _, _, .inr ⟨0, rfl, h⟩⟩
        · rw [if_neg c2] at h tn
          exact ⟨_, _, by simp! [n3.kr, n4.kr, n5.kr], tn, _, _, _, nal_tr, nal_tr, nal_tr, rfl, h⟩)
theorem P_live_tt {tt : List Tr} {o : Os} {n : Nat} {r : Option Int} (ht : tt.length = n) (hl : n ≤ 100) (h1 : loopR (bind md_law_live 3) b_law_live_1 0 n 0 ⟨[.tr (.nd .lst .lnt tt), .tr (iT x), .tr (bT la), .no, .no, .no], []⟩ = some o)
    (h2 : ∃ e3 e4 e5 : Ent, (o = .nx ⟨[.tr (.nd .lst .lnt tt), .tr (iT x), .tr (bT la), e3, e4, e5], []⟩ ∧ r = none) ∨ ∃ v, o = .rt (iT v) ⟨[.tr (.nd .lst .lnt tt), .tr (iT x), .tr (bT la), e3, e4, e5], []⟩ ∧ r = some v) :
    G_law_live [.nd .lst .lnt tt, iT x, bT la] = some (.rt (iT (r.getD 0)) [.any, .any, .any]) := by
  have hz : (n : Int).toNat = n := by omega
  have b1 : -(2 ^ 62) ≤ (n : Int) := by omega
  have b2 : (n : Int) < 2 ^ 62 := by omega
  have hs : sForR1 (gSeq (gSeq (gSeq (gVar 0) gNil) (fP1 FLen)) gNil) (bind md_law_live 3) b_law_live_1 ⟨[.tr (.nd .lst .lnt tt), .tr (iT x), .tr (bT la), .no, .no, .no], []⟩ = some o := by
    rw [sForR1_e (n := (n : Int)) (Γ := [.tr (.nd .lst .lnt tt), .tr (iT x), .tr (bT la), .no, .no, .no]) (s := []) (by simp! [ht]) b1 b2, hz, h1]
  unfold G_law_live
  rw [runF_e]
  unfold g_law_live
  rw [sSeq_e]
  show fR _ (bS (sForR1 _ _ _ ⟨[.tr (.nd .lst .lnt tt), .tr (iT x), .tr (bT la), .no, .no, .no], []⟩) _) = _
  erw [hs]
  obtain ⟨e3, e4, e5, q⟩ := h2
  rcases q with ⟨rfl, rfl⟩ | ⟨v, rfl, rfl⟩
  · rw [bS_nx]
    rfl
  · rw [bS_rt]
    rfl
theorem P_law_live (hl : ls.length ≤ 100) : G_law_live [lotsT .lnt ls, iT x, bT la] = some (.rt (iT (liveZ la x ls)) [.any, .any, .any]) := by
  obtain ⟨o, h1, h2⟩ := @lv_loop ls x la
  exact P_live_tt (List.length_map _) hl h1 h2
end
/-! both readings of the lots agree -/
noncomputable def b_law_live_good_1F (h1 h2 h3 : GF) : GS := (sSeq (sIf (gNot (gSeq (gSeq (gSeq (gSeq (gVar 0) (gSeq (gVar 2) gNil)) (gSeq (gSeq (gC (.bl true)) gNil) (noEx (gCall [] md_live_lot h1 3)))) (gSeq (gSeq (gSeq (gVar 1) (gSeq (gVar 2) (gSeq (gC (.bl true)) gNil))) (gCall [] md_law_live h2 3)) gNil)) (gCall [] md_law_integer h3 2))) (sRet (gC (.bl false))) sNil)
    (sIf (gNot (gSeq (gSeq (gSeq (gSeq (gVar 0) (gSeq (gVar 2) gNil)) (gSeq (gSeq (gC (.bl false)) gNil) (noEx (gCall [] md_live_lot h1 3)))) (gSeq (gSeq (gSeq (gVar 1) (gSeq (gVar 2) (gSeq (gC (.bl false)) gNil))) (gCall [] md_law_live h2 3)) gNil)) (gCall [] md_law_integer h3 2))) (sRet (gC (.bl false))) sNil))
theorem b_law_live_good_1_F : b_law_live_good_1 = b_law_live_good_1F G_live_lot G_law_live G_law_integer := rfl
section
variable {ls : List Lt} {x : Int} {la : Bool}
theorem P_integer {a b : Int} : G_law_integer [iT a, iT b] = some (.rt (bT (decide (a = b))) [.any, .any]) := by
  simp! [G_law_integer, g_law_integer]
theorem lg_turn {h1 h2 h3 : GF} {A B : List Tr} {r : Int → Bool → Int} (q1 : ∀ x la, h1 [.nd .lst .lnt A, iT x, bT la] = some (.rt (iT (r x la)) [.any, .any, .any])) (q2 : ∀ x la, h2 [.nd .lst .lnt B, iT x, bT la] = some (.rt (iT (r x la)) [.any, .any, .any])) (q3 : ∀ a b, h3 [iT a, iT b] = some (.rt (bT (decide (a = b))) [.any, .any])) (x : Int) :
    b_law_live_good_1F h1 h2 h3 ⟨[.tr (.nd .lst .lnt A), .tr (.nd .lst .lnt B), .tr (iT x)], []⟩ = some (.nx ⟨[.tr (.nd .lst .lnt A), .tr (.nd .lst .lnt B), .tr (iT x)], []⟩) := by
  simp! [b_law_live_good_1F, q1, q2, q3]
theorem lg_all {A B : List Tr} {r : Int → Bool → Int} (q1 : ∀ x la, G_live_lot [.nd .lst .lnt A, iT x, bT la] = some (.rt (iT (r x la)) [.any, .any, .any])) (q2 : ∀ x la, G_law_live [.nd .lst .lnt B, iT x, bT la] = some (.rt (iT (r x la)) [.any, .any, .any])) :
    G_law_live_good [.nd .lst .lnt A, .nd .lst .lnt B] = some (.rt (bT true) [.any, .any]) := by
  obtain ⟨e', he⟩ := loopR_all (md := md_law_live_good) (k := 2) (n := 24) (lo := 0) (Γ := [.tr (.nd .lst .lnt A), .tr (.nd .lst .lnt B), .no]) (s := []) (gs := b_law_live_good_1) (t := bT false) rfl (by simp) rfl rfl (fun _ => true) (fun x h0 h1 => by
    rw [b_law_live_good_1_F]
    exact lg_turn q1 q2 (@P_integer) x)
  rw [if_pos (by simp)] at he
  unfold G_law_live_good
  rw [runF_e]
  unfold g_law_live_good
  rw [sSeq_e]
  show fR _ (bS (sForR1 _ _ _ ⟨[.tr (.nd .lst .lnt A), .tr (.nd .lst .lnt B), .no], []⟩) _) = _
  rw [sForR1_e (n := 24) (Γ := [.tr (.nd .lst .lnt A), .tr (.nd .lst .lnt B), .no]) (s := []) (by simp! []) (by decide) (by decide), show (24 : Int).toNat = 24 from rfl, he, bS_nx]
  rfl
theorem P_live_good (hl : ls.length ≤ 100) : G_law_live_good [winT .lnt ls, lotsT .lnt ls] = some (.rt (bT true) [.any, .any]) :=
  lg_all (r := fun x la => liveZ la x ls) (fun x la => @P_live_lot ls x la) (fun x la => @P_law_live ls x la hl)
end
/-! barred blocks -/
noncomputable def b_barred_blocks_1F (h1 h2 : GF) : GS := (sSeq (sSet md_barred_blocks 6 (gOrB (gSeq (gSeq (gSeq (gSeq (gSeq (gVar 1) (fFld tab_holdings)) (gVar 5)) fIxA) (gC (.int 0))) fNe) (gAnd (gSeq (gSeq (gVar 2) (gC .non)) fNotN) (gSeq (gSeq (gSeq (gSeq (gSeq (gVar 2) (fFld tab_holdings)) (gVar 5)) fIxA) (gC (.int 0))) fNe))))
    (sIf (gAnd (gSeq (gSeq (gC (.str "reuse")) (gVar 0)) (fInO 2 md_Book_contains h1 false)) (gVar 6)) (sExpr (gSeq (gVar 4) (gSeq chkL (gSeq (gSeq (gVar 5) gNil) fApp)))) (sIf (gAnd (gSeq (gSeq (gC (.str "shelve")) (gVar 0)) (fInO 2 md_Book_contains h1 false)) (gSeq (gSeq (gSeq (gSeq (gVar 3) (gSeq (gVar 5) gNil)) (gSeq (gSeq (gSeq (gSeq (gC (.str "lapse")) (gVar 0)) (fInO 2 md_Book_contains h1 false)) gNil) (noEx (gCall [] md_live_lot h2 3)))) (gC (.int 0))) fNe)) (sExpr (gSeq (gVar 4) (gSeq chkL (gSeq (gSeq (gVar 5) gNil) fApp)))) sNil)))
theorem b_barred_blocks_1_F : b_barred_blocks_1 = b_barred_blocks_1F G_Book_contains G_live_lot := rfl
section
variable {M M' : List (List Int)} {hs ss hs' ss' acc : List Int} {se wi se' wi' x lv : Int} {re sh la : Bool} {h1 h2 h3 h4 : GF} {W bk : List Tr} {e6 : Ent}
def heldB (hs : List Int) (c : Option (List Int)) (x : Int) : Bool := !decide (gz hs x = 0) || (match c with
  | some hs' => !decide (gz hs' x = 0)
  | none => false)
theorem P_data : G_Plan_data_blocks [plT .frz P24] = some (.rt (rowT (rng 10 14)) [.any]) := by
  have : (24 : Int).toNat - (10 : Int).toNat = 14 := by decide
  simp! [G_Plan_data_blocks, g_Plan_data_blocks, fLstG]
theorem bb_turn0 (n6 : Nal e6) (x0 : 0 ≤ x) (x1 : x < 24) (lh : hs.length = 24) (ha : acc.length ≤ 14) (q1 : h1 [.nd (.ins 2 2) .lnt bk, aS "reuse"] = some (.rt (bT re) [.any, .any])) (q2 : h1 [.nd (.ins 2 2) .lnt bk, aS "shelve"] = some (.rt (bT sh) [.any, .any])) (q3 : h1 [.nd (.ins 2 2) .lnt bk, aS "lapse"] = some (.rt (bT la) [.any, .any])) (q4 : h2 [.nd .lst .lnt W, iT x, bT la] = some (.rt (iT lv) [.any, .any, .any])) {e : Ent} (ne : Nal e) :
    b_barred_blocks_1F h1 h2 ⟨[.tr (.nd (.ins 2 2) .lnt bk), .tr (imgT .frz P24 M hs ss se wi []), .tr (.a .non), .tr (.nd .lst .lnt W), .tr (rowT acc), .tr (iT x), e6], [e]⟩ =
      some (.nx ⟨[.tr (.nd (.ins 2 2) .lnt bk), .tr (imgT .frz P24 M hs ss se wi []), .tr (.a .non), .tr (.nd .lst .lnt W), .tr (rowT (if ((re && heldB hs none x) || (sh && !decide (lv = 0))) = true then acc ++ [x] else acc)), .tr (iT x), .tr (bT (heldB hs none x))], [e]⟩) := by
  have a1 := ixN_len (n := 24) (i := x) x0 (by omega)
  have a2 := gz_get (xs := hs) x0 (by omega)
  have hsz : acc.length < sizeLine := Nat.lt_of_le_of_lt ha (by decide)
  unfold heldB
  by_cases c1 : gz hs x = 0 <;> by_cases c2 : lv = 0 <;> cases re <;> cases sh <;> simp! [b_barred_blocks_1F, a1, a2, lh, hsz, q1, q2, q3, q4, c1, c2, n6.kr, n6.ke, ne.kr, ne.ke, ne.kj]
theorem bb_turn1 (n6 : Nal e6) (x0 : 0 ≤ x) (x1 : x < 24) (lh : hs.length = 24) (lh' : hs'.length = 24) (ha : acc.length ≤ 14) (q1 : h1 [.nd (.ins 2 2) .lnt bk, aS "reuse"] = some (.rt (bT re) [.any, .any])) (q2 : h1 [.nd (.ins 2 2) .lnt bk, aS "shelve"] = some (.rt (bT sh) [.any, .any])) (q3 : h1 [.nd (.ins 2 2) .lnt bk, aS "lapse"] = some (.rt (bT la) [.any, .any])) (q4 : h2 [.nd .lst .lnt W, iT x, bT la] = some (.rt (iT lv) [.any, .any, .any])) {e : Ent} (ne : Nal e) :
    b_barred_blocks_1F h1 h2 ⟨[.tr (.nd (.ins 2 2) .lnt bk), .tr (imgT .frz P24 M hs ss se wi []), .tr (imgT .frz P24 M' hs' ss' se' wi' []), .tr (.nd .lst .lnt W), .tr (rowT acc), .tr (iT x), e6], [e]⟩ =
      some (.nx ⟨[.tr (.nd (.ins 2 2) .lnt bk), .tr (imgT .frz P24 M hs ss se wi []), .tr (imgT .frz P24 M' hs' ss' se' wi' []), .tr (.nd .lst .lnt W), .tr (rowT (if ((re && heldB hs (some hs') x) || (sh && !decide (lv = 0))) = true then acc ++ [x] else acc)), .tr (iT x), .tr (bT (heldB hs (some hs') x))], [e]⟩) := by
  have a1 := ixN_len (n := 24) (i := x) x0 (by omega)
  have a2 := gz_get (xs := hs) x0 (by omega)
  have a3 := gz_get (xs := hs') x0 (by omega)
  have hsz : acc.length < sizeLine := Nat.lt_of_le_of_lt ha (by decide)
  unfold heldB
  by_cases c1 : gz hs x = 0 <;> by_cases c3 : gz hs' x = 0 <;> by_cases c2 : lv = 0 <;> cases re <;> cases sh <;> simp! [b_barred_blocks_1F, a1, a2, a3, lh, lh', c3, hsz, q1, q2, q3, q4, c1, c2, n6.kr, n6.ke, ne.kr, ne.ke, ne.kj]

theorem bb_run {clo : Tr} {F : Int → Bool} (hc : cp clo = true) (ht : ∀ (x : Int) (acc : List Int) (e6 e : Ent), Nal e6 → Nal e → 10 ≤ x → x < 24 → acc.length ≤ 14 → ∃ e6', Nal e6' ∧ b_barred_blocks_1 ⟨[.tr (.nd (.ins 2 2) .lnt bk), .tr (imgT .frz P24 M hs ss se wi []), .tr clo, .tr (.nd .lst .lnt W), .tr (rowT acc), .tr (iT x), e6], [e]⟩ =
      some (.nx ⟨[.tr (.nd (.ins 2 2) .lnt bk), .tr (imgT .frz P24 M hs ss se wi []), .tr clo, .tr (.nd .lst .lnt W), .tr (rowT (if F x = true then acc ++ [x] else acc)), .tr (iT x), e6'], [e]⟩)) :
    G_barred_blocks [.nd (.ins 2 2) .lnt bk, imgT .frz P24 M hs ss se wi [], clo, .nd .lst .lnt W] = some (.rt (rowT ((rng 10 14).filter F)) [.any, .any, .any, .any]) := by
  have hd := P_data
  obtain ⟨Γ', ⟨e5, e6, n5, n6, rfl⟩, h1⟩ := loopE_pre (gs := b_barred_blocks_1) (bd := bind md_barred_blocks 5) (s := []) (xs := rng 10 14) (enc := iT) (.tr (.nd .lst .lnt ((rng 10 14).map iT))) .lst .lnt
    (fun p Γ => ∃ (e5 e6 : Ent), Nal e5 ∧ Nal e6 ∧ Γ = [.tr (.nd (.ins 2 2) .lnt bk), .tr (imgT .frz P24 M hs ss se wi []), .tr clo, .tr (.nd .lst .lnt W), .tr (rowT (p.filter F)), e5, e6])
    (fun p Γ ⟨_, _, _, _, e⟩ => by rw [e]; rfl) rfl (fun x _ => rfl) (Γ := [.tr (.nd (.ins 2 2) .lnt bk), .tr (imgT .frz P24 M hs ss se wi []), .tr clo, .tr (.nd .lst .lnt W), .tr (rowT []), .no, .no])
    (by
      rintro p x q Γ hx ⟨e5, e6, n5, n6, rfl⟩
      have hm : x ∈ rng 10 14 := by rw [hx]; simp
      have hm := mem_rng.mp hm
      have hl : (p.filter F).length ≤ 14 := by
        have h1 := congrArg List.length hx
        rw [rng_len, List.length_append, List.length_cons] at h1
        have := List.length_filter_le F p
        omega
      obtain ⟨e6', n6', h⟩ := ht x (p.filter F) e6 (.tr (.nd .lst .lnt ((rng 10 14).map iT))) n6 nal_tr hm.1 (by omega) hl
      refine ⟨_, _, by simp! [n5.kr, n6.kr]; rfl, ⟨.tr (iT x), e6', nal_tr, n6', rfl⟩, .inl ?_⟩
      rw [List.filter_append, List.filter_cons, List.filter_nil, h]
      by_cases c : F x = true
      · rw [if_pos c, if_pos c]
      · rw [if_neg c, if_neg c, List.append_nil])
    ⟨.no, .no, nal_no, nal_no, rfl⟩
  have h1 : loopE .lst (bind md_barred_blocks 5) b_barred_blocks_1 14 0 ⟨[.tr (.nd (.ins 2 2) .lnt bk), .tr (imgT .frz P24 M hs ss se wi []), .tr clo, .tr (.nd .lst .lnt W), .tr (.nd .lst .own []), .no, .no], [.tr (.nd .lst .lnt ((rng 10 14).map iT))]⟩ = _ := h1
  simp! [G_barred_blocks, g_barred_blocks, hd, sFor, hc, rng_len, h1, n5.kr, n5.ke, n6.kr, n6.ke]
end
/-! what the law holds to be barred -/
noncomputable def b_law_barred_1F (h1 h2 h3 h4 : GF) : GS := (sSeq (sSet md_law_barred 6 (gOrB (gSeq (gSeq (gSeq (gSeq (gSeq (gSeq (gVar 2) (gC (.int 1))) fIxA) (gVar 5)) fIxA) (gC (.int 0))) fNe) (gAnd (gSeq (gSeq (gVar 3) (gC .non)) fNotN) (gSeq (gSeq (gSeq (gSeq (gSeq (gSeq (gVar 3) (gC (.int 1))) fIxA) (gVar 5)) fIxA) (gC (.int 0))) fNe))))
    (sSeq (sSet md_law_barred 7 (gC (.int 0)))
    (sSeq (sIf (gSeq (gSeq (gVar 1) gNil) (gCall [] md_law_has_shelve h1 1)) (sSet md_law_barred 7 (gSeq (gSeq (gVar 0) (gSeq (gVar 5) (gSeq (gSeq (gSeq (gVar 1) gNil) (gCall [] md_law_has_lapse h2 1)) gNil))) (gCall [] md_law_live h3 3))) sNil)
    (sIf (gOrB (gAnd (gSeq (gSeq (gVar 1) gNil) (gCall [] md_law_has_reuse h4 1)) (gVar 6)) (gSeq (gSeq (gVar 7) (gC (.int 0))) fNe)) (sExpr (gSeq (gVar 4) (gSeq chkL (gSeq (gSeq (gVar 5) gNil) fApp)))) sNil))))
theorem b_law_barred_1_F : b_law_barred_1 = b_law_barred_1F G_law_has_shelve G_law_has_lapse G_law_live G_law_has_reuse := rfl
section
variable {acc : List Int} {n x lv : Int} {re sh la : Bool} {h1 h2 h3 h4 : GF} {B : List Tr} {t0 t2 t3 c0 c2 c3 : Tr} {ks kc : List Int} {e6 e7 : Ent} {o : Ow}
theorem lb_turn0 (n6 : Nal e6) (n7 : Nal e7) (x0 : 0 ≤ x) (x1 : x < 24) (lh : ks.length = 24) (ha : acc.length ≤ 14) (q1 : h1 [iT n] = some (.rt (bT sh) [.any])) (q2 : h2 [iT n] = some (.rt (bT la) [.any])) (q4 : h4 [iT n] = some (.rt (bT re) [.any])) (q3 : h3 [.nd .lst .lnt B, iT x, bT la] = some (.rt (iT lv) [.any, .any, .any])) :
    b_law_barred_1F h1 h2 h3 h4 ⟨[.tr (.nd .lst .lnt B), .tr (iT n), .tr (.nd .lst .frz [t0, rowT ks, t2, t3]), .tr (.a .non), .tr (rowT acc), .tr (iT x), e6, e7], []⟩ =
      some (.nx ⟨[.tr (.nd .lst .lnt B), .tr (iT n), .tr (.nd .lst .frz [t0, rowT ks, t2, t3]), .tr (.a .non), .tr (rowT (if ((re && heldB ks none x) || (sh && !decide (lv = 0))) = true then acc ++ [x] else acc)), .tr (iT x), .tr (bT (heldB ks none x)), .tr (iT (if sh = true then lv else 0))], []⟩) := by
  have a1 := ixN_len (n := 24) (i := x) x0 (by omega)
  have a2 := gz_get (xs := ks) x0 (by omega)
  have i1 : ixN 4 1 = some 1 := rfl
  have hsz : acc.length < sizeLine := Nat.lt_of_le_of_lt ha (by decide)
  unfold heldB
  by_cases c1 : gz ks x = 0 <;> by_cases c2 : lv = 0 <;> cases re <;> cases sh <;> simp! [b_law_barred_1F, a1, a2, i1, lh, hsz, q1, q2, q3, q4, c1, c2, n6.kr, n6.ke, n7.kr, n7.ke]
theorem lb_turn1 (n6 : Nal e6) (n7 : Nal e7) (x0 : 0 ≤ x) (x1 : x < 24) (lh : ks.length = 24) (lc : kc.length = 24) (ha : acc.length ≤ 14) (q1 : h1 [iT n] = some (.rt (bT sh) [.any])) (q2 : h2 [iT n] = some (.rt (bT la) [.any])) (q4 : h4 [iT n] = some (.rt (bT re) [.any])) (q3 : h3 [.nd .lst .lnt B, iT x, bT la] = some (.rt (iT lv) [.any, .any, .any])) :
    b_law_barred_1F h1 h2 h3 h4 ⟨[.tr (.nd .lst .lnt B), .tr (iT n), .tr (.nd .lst .frz [t0, rowT ks, t2, t3]), .tr (.nd .lst .frz [c0, rowT kc, c2, c3]), .tr (rowT acc), .tr (iT x), e6, e7], []⟩ =
      some (.nx ⟨[.tr (.nd .lst .lnt B), .tr (iT n), .tr (.nd .lst .frz [t0, rowT ks, t2, t3]), .tr (.nd .lst .frz [c0, rowT kc, c2, c3]), .tr (rowT (if ((re && heldB ks (some kc) x) || (sh && !decide (lv = 0))) = true then acc ++ [x] else acc)), .tr (iT x), .tr (bT (heldB ks (some kc) x)), .tr (iT (if sh = true then lv else 0))], []⟩) := by
  have a1 := ixN_len (n := 24) (i := x) x0 (by omega)
  have a2 := gz_get (xs := ks) x0 (by omega)
  have a3 := gz_get (xs := kc) x0 (by omega)
  have i1 : ixN 4 1 = some 1 := rfl
  have hsz : acc.length < sizeLine := Nat.lt_of_le_of_lt ha (by decide)
  unfold heldB
  by_cases c1 : gz ks x = 0 <;> by_cases c3 : gz kc x = 0 <;> by_cases c2 : lv = 0 <;> cases re <;> cases sh <;> simp! [b_law_barred_1F, a1, a2, a3, i1, lh, lc, hsz, q1, q2, q3, q4, c1, c2, c3, n6.kr, n6.ke, n7.kr, n7.ke]
theorem rng_snoc (lo : Int) (n : Nat) : rng lo (n + 1) = rng lo n ++ [lo + n] := by
  unfold rng
  rw [List.range_succ, List.map_append]
  rfl
theorem lb_run {clo : Tr} {F : Int → Bool} (hc : cp clo = true) (ht : ∀ (x : Int) (acc : List Int) (e6 e7 : Ent), Nal e6 → Nal e7 → 10 ≤ x → x < 24 → acc.length ≤ 14 → ∃ e6' e7', Nal e6' ∧ Nal e7' ∧ b_law_barred_1 ⟨[.tr (.nd .lst .lnt B), .tr (iT n), .tr (.nd .lst .frz [t0, rowT ks, t2, t3]), .tr clo, .tr (rowT acc), .tr (iT x), e6, e7], []⟩ =
      some (.nx ⟨[.tr (.nd .lst .lnt B), .tr (iT n), .tr (.nd .lst .frz [t0, rowT ks, t2, t3]), .tr clo, .tr (rowT (if F x = true then acc ++ [x] else acc)), .tr (iT x), e6', e7'], []⟩)) :
    G_law_barred [.nd .lst .lnt B, iT n, .nd .lst .frz [t0, rowT ks, t2, t3], clo] = some (.rt (rowT ((rng 10 14).filter F)) [.any, .any, .any, .any]) := by
  obtain ⟨m', h1, e5, e6, e7, n5, n6, n7, rfl⟩ := loopR_nx (bd := bind md_law_barred 5) (gs := b_law_barred_1) (lo := 10) (n := 14) (m := ⟨[.tr (.nd .lst .lnt B), .tr (iT n), .tr (.nd .lst .frz [t0, rowT ks, t2, t3]), .tr clo, .tr (rowT []), .no, .no, .no], []⟩)
    (fun i m => ∃ e5 e6 e7 : Ent, Nal e5 ∧ Nal e6 ∧ Nal e7 ∧ m = ⟨[.tr (.nd .lst .lnt B), .tr (iT n), .tr (.nd .lst .frz [t0, rowT ks, t2, t3]), .tr clo, .tr (rowT ((rng 10 i).filter F)), e5, e6, e7], []⟩)
    ⟨.no, .no, .no, nal_no, nal_no, nal_no, rfl⟩
    (by
      rintro i m hi ⟨e5, e6, e7, n5, n6, n7, rfl⟩
      have hl : ((rng 10 i).filter F).length ≤ 14 := by
        have := List.length_filter_le F (rng 10 i)
        rw [rng_len] at this
        omega
      obtain ⟨e6', e7', n6', n7', h⟩ := ht (10 + i) ((rng 10 i).filter F) e6 e7 n6 n7 (by omega) (by omega) hl
      refine ⟨_, _, by simp! [n5.kr, n6.kr, n7.kr], h, .tr (iT (10 + i)), e6', e7', nal_tr, n6', n7', ?_⟩
      rw [rng_snoc, List.filter_append, List.filter_cons, List.filter_nil]
      by_cases c : F (10 + i) = true
      · rw [if_pos c, if_pos c]
      · rw [if_neg c, if_neg c, List.append_nil])
  have h1 : loopR (bind md_law_barred 5) b_law_barred_1 10 14 0 ⟨[.tr (.nd .lst .lnt B), .tr (iT n), .tr (.nd .lst .frz [t0, rowT ks, t2, t3]), .tr clo, .tr (.nd .lst .own []), .no, .no, .no], []⟩ = _ := h1
  have hs : sForR2 (gSeq (gC (.int 10)) (gSeq (gC (.int 24)) gNil)) (bind md_law_barred 5) b_law_barred_1 ⟨[.tr (.nd .lst .lnt B), .tr (iT n), .tr (.nd .lst .frz [t0, rowT ks, t2, t3]), .tr clo, .tr (.nd .lst .own []), .no, .no, .no], []⟩ = some (.nx ⟨[.tr (.nd .lst .lnt B), .tr (iT n), .tr (.nd .lst .frz [t0, rowT ks, t2, t3]), .tr clo, .tr (rowT ((rng 10 14).filter F)), e5, e6, e7], []⟩) := by
    rw [sForR2_e (n := 24) (k := 10) (Γ := [.tr (.nd .lst .lnt B), .tr (iT n), .tr (.nd .lst .frz [t0, rowT ks, t2, t3]), .tr clo, .tr (.nd .lst .own []), .no, .no, .no]) (s := []) (by simp! []) (by decide) (by decide) (by decide) (by decide), show ((24 : Int) - 10).toNat = 14 from rfl, h1]
  simp! [G_law_barred, g_law_barred, hc, hs, n5.kr, n5.ke, n6.kr, n6.ke, n7.kr, n7.ke]
end
/-! barred blocks are as told -/
noncomputable def g_law_barred_goodF (h1 h2 h3 : GF) : GS := (sSeq (sSet md_law_barred_good 5 (gC .non))
    (sSeq (sIf (gSeq (gSeq (gVar 4) (gC .non)) fNotN) (sSet md_law_barred_good 5 (gSeq (gSeq (gVar 4) (gC (.int 0))) fIxA)) sNil)
    (sSeq (sSet md_law_barred_good 6 (gSeq (gSeq (gSeq (gSeq (gVar 2) gNil) (noEx (gCall [] md_Book_of_number h1 1))) (gSeq (gSeq (gSeq (gVar 3) (gC (.int 0))) fIxA) (gSeq (gVar 5) (gSeq (gVar 0) gNil)))) (gCall [] md_barred_blocks h2 4)))
    (sSeq (sIf (gOrB (gNot (gSeq (gSeq (gVar 6) (gSeq (gC (.ty "list")) gNil)) fIsi)) (gSeq (gSeq (gVar 6) (gSeq (gSeq (gVar 1) (gSeq (gVar 2) (gSeq (gVar 3) (gSeq (gVar 4) gNil)))) (gCall [] md_law_barred h3 4))) fNe)) (sRet (gC (.bl false))) sNil)
    (sSeq (sFor (gVar 6) (bind md_law_barred_good 7) b_law_barred_good_1)
    (sRet (gC (.bl true))))))))
theorem g_law_barred_good_F : g_law_barred_good = g_law_barred_goodF G_Book_of_number G_barred_blocks G_law_barred := rfl
section
variable {n : Int} {ls : List Lt} {L : List Int} {h1 h2 h3 : GF} {W B bk : List Tr} {m c : Mo} {x : Int}
theorem bg0 (hb : h1 [iT n] = some (.rt (.nd (.ins 2 2) .own bk) [.any])) (hl : L.length ≤ 14)
    (q2 : h2 [.nd (.ins 2 2) .lnt bk, imgT .frz P24 m.M m.hs m.ss m.se m.wi [], .a .non, .nd .lst .lnt W] = some (.rt (rowT L) [.any, .any, .any, .any]))
    (q3 : h3 [.nd .lst .lnt B, iT n, moT m, .a .non] = some (.rt (rowT L) [.any, .any, .any, .any])) :
    runF md_law_barred_good 8 (g_law_barred_goodF h1 h2 h3) [.nd .lst .lnt W, .nd .lst .lnt B, iT n, moT m, .a .non] = some (.rt (bT true) [.any, .any, .any, .any, .any]) := by
  obtain ⟨e', he⟩ := loopE_all (md := md_law_barred_good) (k := 7) (Γ := [.tr (.nd .lst .lnt W), .tr (.nd .lst .lnt B), .tr (iT n), .tr (moT m), .tr (.a .non), .tr (.a .non), .tr (rowT L), .no]) (s := []) (gs := b_law_barred_good_1) (t := bT false) (xs := L) (enc := iT) (.al [6]) .lst .own rfl (by simp) rfl rfl rfl rfl (fun e' => rfl) (fun x _ => rfl) (fun _ => true) (fun x hx => by simp! [b_law_barred_good_1])
  rw [if_pos (by simp)] at he
  have i0 : ixN 4 0 = some 0 := rfl
  simp! [g_law_barred_goodF, hb, q2, q3, i0, sFor, he]
theorem bg1 (hb : h1 [iT n] = some (.rt (.nd (.ins 2 2) .own bk) [.any])) (hl : L.length ≤ 14)
    (q2 : h2 [.nd (.ins 2 2) .lnt bk, imgT .frz P24 m.M m.hs m.ss m.se m.wi [], imgT .frz P24 c.M c.hs c.ss c.se c.wi [], .nd .lst .lnt W] = some (.rt (rowT L) [.any, .any, .any, .any]))
    (q3 : h3 [.nd .lst .lnt B, iT n, moT m, moT c] = some (.rt (rowT L) [.any, .any, .any, .any])) :
    runF md_law_barred_good 8 (g_law_barred_goodF h1 h2 h3) [.nd .lst .lnt W, .nd .lst .lnt B, iT n, moT m, moT c] = some (.rt (bT true) [.any, .any, .any, .any, .any]) := by
  obtain ⟨e', he⟩ := loopE_all (md := md_law_barred_good) (k := 7) (Γ := [.tr (.nd .lst .lnt W), .tr (.nd .lst .lnt B), .tr (iT n), .tr (moT m), .tr (moT c), .tr (imgT .frz P24 c.M c.hs c.ss c.se c.wi []), .tr (rowT L), .no]) (s := []) (gs := b_law_barred_good_1) (t := bT false) (xs := L) (enc := iT) (.al [6]) .lst .own rfl (by simp) rfl rfl rfl rfl (fun e' => rfl) (fun x _ => rfl) (fun _ => true) (fun x hx => by simp! [b_law_barred_good_1])
  rw [if_pos (by simp)] at he
  have i0 : ixN 4 0 = some 0 := rfl
  simp! [g_law_barred_goodF, hb, q2, q3, i0, sFor, he]

def brF (n : Int) (ls : List Lt) (hs : List Int) (c : Option (List Int)) (x : Int) : Bool := (decide (n / 8 % 2 = 1) && heldB hs c x) || (decide (n / 128 % 2 = 1) && !decide (liveZ (decide (n / 64 % 2 = 1)) x ls = 0))
theorem br_len (F : Int → Bool) : ((rng 10 14).filter F).length ≤ 14 := by
  have := List.length_filter_le F (rng 10 14)
  rw [rng_len] at this
  exact this
theorem br_held (o : MoOk m) (oc : MoOk c) : (rng 10 14).filter (brF n ls m.hs none) = (rng 10 14).filter (brF n ls m.ks none) ∧ (rng 10 14).filter (brF n ls m.hs (some c.hs)) = (rng 10 14).filter (brF n ls m.ks (some c.ks)) := by
  constructor
  · refine filt_eq fun x hx => ?_
    have := mem_rng.mp hx
    have h1 := o.held x (by omega) (by omega)
    have e1 : decide (gz m.hs x = 0) = decide (gz m.ks x = 0) := decide_eq_decide.mpr h1.symm
    unfold brF heldB
    rw [e1]
  · refine filt_eq fun x hx => ?_
    have := mem_rng.mp hx
    have h1 := o.held x (by omega) (by omega)
    have h2 := oc.held x (by omega) (by omega)
    have e1 : decide (gz m.hs x = 0) = decide (gz m.ks x = 0) := decide_eq_decide.mpr h1.symm
    have e2 : decide (gz c.hs x = 0) = decide (gz c.ks x = 0) := decide_eq_decide.mpr h2.symm
    unfold brF heldB
    rw [e1]
    simp only [e2]
theorem P_brd0 (o : MoOk m) : G_barred_blocks [.nd (.ins 2 2) .lnt [namesT (bits RL n), .a (.int (numB (bits RL n)))], imgT .frz P24 m.M m.hs m.ss m.se m.wi [], .a .non, winT .lnt ls] = some (.rt (rowT ((rng 10 14).filter (brF n ls m.hs none))) [.any, .any, .any, .any]) := by
  have c1 := P_contains (bits RL n) (numB (bits RL n)) "reuse"
  have c2 := P_contains (bits RL n) (numB (bits RL n)) "shelve"
  have c3 := P_contains (bits RL n) (numB (bits RL n)) "lapse"
  rw [has_reuse] at c1
  rw [has_shelve] at c2
  rw [has_lapse] at c3
  refine bb_run rfl fun x acc e6 e n6 ne x0 x1 ha => ⟨.tr (bT (heldB m.hs none x)), nal_tr, ?_⟩
  rw [b_barred_blocks_1_F]
  exact bb_turn0 n6 (by omega) x1 o.lh ha c1 c2 c3 (@P_live_lot ls x _) ne
theorem P_brd1 (o : MoOk m) (oc : MoOk c) : G_barred_blocks [.nd (.ins 2 2) .lnt [namesT (bits RL n), .a (.int (numB (bits RL n)))], imgT .frz P24 m.M m.hs m.ss m.se m.wi [], imgT .frz P24 c.M c.hs c.ss c.se c.wi [], winT .lnt ls] = some (.rt (rowT ((rng 10 14).filter (brF n ls m.hs (some c.hs)))) [.any, .any, .any, .any]) := by
  have c1 := P_contains (bits RL n) (numB (bits RL n)) "reuse"
  have c2 := P_contains (bits RL n) (numB (bits RL n)) "shelve"
  have c3 := P_contains (bits RL n) (numB (bits RL n)) "lapse"
  rw [has_reuse] at c1
  rw [has_shelve] at c2
  rw [has_lapse] at c3
  refine bb_run rfl fun x acc e6 e n6 ne x0 x1 ha => ⟨.tr (bT (heldB m.hs (some c.hs) x)), nal_tr, ?_⟩
  rw [b_barred_blocks_1_F]
  exact bb_turn1 n6 (by omega) x1 o.lh oc.lh ha c1 c2 c3 (@P_live_lot ls x _) ne
theorem P_lbr0 (o : MoOk m) (hl : ls.length ≤ 100) : G_law_barred [lotsT .lnt ls, iT n, moT m, .a .non] = some (.rt (rowT ((rng 10 14).filter (brF n ls m.ks none))) [.any, .any, .any, .any]) := by
  obtain ⟨p1, p2, p3⟩ := P_has n
  refine lb_run rfl fun x acc e6 e7 n6 n7 x0 x1 ha => ⟨.tr (bT (heldB m.ks none x)), .tr (iT (if decide (n / 128 % 2 = 1) = true then liveZ (decide (n / 64 % 2 = 1)) x ls else 0)), nal_tr, nal_tr, ?_⟩
  rw [b_law_barred_1_F]
  exact lb_turn0 n6 n7 (by omega) x1 o.lk ha p3 p2 p1 (@P_law_live ls x _ hl)
theorem P_lbr1 (o : MoOk m) (oc : MoOk c) (hl : ls.length ≤ 100) : G_law_barred [lotsT .lnt ls, iT n, moT m, moT c] = some (.rt (rowT ((rng 10 14).filter (brF n ls m.ks (some c.ks)))) [.any, .any, .any, .any]) := by
  obtain ⟨p1, p2, p3⟩ := P_has n
  refine lb_run rfl fun x acc e6 e7 n6 n7 x0 x1 ha => ⟨.tr (bT (heldB m.ks (some c.ks) x)), .tr (iT (if decide (n / 128 % 2 = 1) = true then liveZ (decide (n / 64 % 2 = 1)) x ls else 0)), nal_tr, nal_tr, ?_⟩
  rw [b_law_barred_1_F]
  exact lb_turn1 n6 n7 (by omega) x1 o.lk oc.lk ha p3 p2 p1 (@P_law_live ls x _ hl)
theorem P_barred_good0 (n0 : 0 ≤ n) (n1 : n < 4096) (o : MoOk m) (hl : ls.length ≤ 100) : G_law_barred_good [winT .lnt ls, lotsT .lnt ls, iT n, moT m, .a .non] = some (.rt (bT true) [.any, .any, .any, .any, .any]) := by
  have q3 := P_lbr0 (n := n) (ls := ls) o hl
  rw [← (br_held o o).1] at q3
  unfold G_law_barred_good
  rw [g_law_barred_good_F]
  exact bg0 (P_of_number n0 n1) (br_len _) (P_brd0 o) q3
theorem P_barred_good1 (n0 : 0 ≤ n) (n1 : n < 4096) (o : MoOk m) (oc : MoOk c) (hl : ls.length ≤ 100) : G_law_barred_good [winT .lnt ls, lotsT .lnt ls, iT n, moT m, moT c] = some (.rt (bT true) [.any, .any, .any, .any, .any]) := by
  have q3 := P_lbr1 (n := n) (ls := ls) o oc hl
  rw [← (br_held o oc).2] at q3
  unfold G_law_barred_good
  rw [g_law_barred_good_F]
  exact bg1 (P_of_number n0 n1) (br_len _) (P_brd1 o oc) q3
end
/-! the law: its parts -/
noncomputable def lw1 (z : GS) : GS := (sSeq (sSet md_law 2 (gSeq (gSeq (gSeq (gSeq (gVar 1) (gSeq (gC (.int 64)) gNil)) (gCall [0] md_law_pick G_law_pick 2)) (gSeq (gSeq (gC (.int 64)) (gSeq (gSeq (gVar 1) (gSeq (gC (.int 64)) gNil)) (gCall [0] md_law_pick G_law_pick 2))) fMul)) fAdd))
    z)
noncomputable def lw2 (z : GS) : GS := (sSeq (sSet md_law 3 (gSeq (gSeq (gC (.int 1)) (gSeq (gSeq (gVar 1) (gSeq (gC (.int 900)) gNil)) (gCall [0] md_law_pick G_law_pick 2))) fAdd))
    z)
noncomputable def lw3 (z : GS) : GS := (sSeq (sSet md_law 4 (gSeq gNil (fNew .lst 0)))
    z)
noncomputable def lw4 (z : GS) : GS := (sSeq (sForR1 (gSeq (gSeq (gSeq (gVar 1) (gSeq (gC (.int 7)) gNil)) (gCall [0] md_law_pick G_law_pick 2)) gNil) (bind md_law 5) b_law_1)
    z)
noncomputable def lw5 (z : GS) : GS := (sSeq (sSet md_law 6 (gSeq (gSeq (gVar 1) (gSeq (gSeq (gSeq (gVar 1) (gSeq (gC (.int 9)) gNil)) (gCall [0] md_law_pick G_law_pick 2)) gNil)) (gCall [0] md_law_history G_law_history 2)))
    z)
noncomputable def lw6 (z : GS) : GS := (sSeq (sIf (gSeq (gSeq (gSeq (gSeq (gVar 6) gNil) fLen) (gC (.int 0))) fEq) (sRet (gC (.bl false))) sNil)
    z)
noncomputable def lw7 (z : GS) : GS := (sSeq (sSet md_law 7 (gSeq (gSeq (gVar 6) (gSeq (gSeq (gVar 1) (gSeq (gSeq (gSeq (gVar 6) gNil) fLen) gNil)) (gCall [0] md_law_pick G_law_pick 2))) fIxA))
    z)
noncomputable def lw8 (z : GS) : GS := (sSeq (sSet md_law 8 (gSeq (gSeq (gVar 6) (gSeq (gSeq (gVar 1) (gSeq (gSeq (gSeq (gVar 6) gNil) fLen) gNil)) (gCall [0] md_law_pick G_law_pick 2))) fIxA))
    z)
noncomputable def lw9 (z : GS) : GS := (sSeq (sClr 10 (sSet md_law 9 (gLc [10] (gVar 4) (bind md_law 10) (gC (.bl true)) e_law_1)))
    z)
noncomputable def lw10 (z : GS) : GS := (sSeq (sFor (gVar 4) (bind md_law 10) b_law_2)
    z)
noncomputable def lw11 (z : GS) : GS := (sSeq (sIf (gOrB (gNot (gSeq (gSeq (gVar 9) (gSeq (gVar 4) gNil)) (gCall [] md_law_live_good G_law_live_good 2))) (gNot (gSeq (gSeq (gVar 9) (gSeq (gVar 4) (gSeq (gVar 2) (gSeq (gVar 7) (gSeq (gC .non) gNil))))) (gCall [] md_law_barred_good G_law_barred_good 5)))) (sRet (gC (.bl false))) sNil)
    z)
noncomputable def lw12 (z : GS) : GS := (sSeq (sIf (gOrB (gNot (gSeq (gSeq (gVar 9) (gSeq (gVar 4) (gSeq (gVar 2) (gSeq (gVar 7) (gSeq (gVar 8) gNil))))) (gCall [] md_law_barred_good G_law_barred_good 5))) (gNot (gSeq (gSeq (gSeq gNil (fNew .lst 0)) (gSeq (gSeq gNil (fNew .lst 0)) (gSeq (gVar 2) (gSeq (gVar 7) (gSeq (gVar 8) gNil))))) (gCall [] md_law_barred_good G_law_barred_good 5)))) (sRet (gC (.bl false))) sNil)
    z)
noncomputable def lw13 (z : GS) : GS := (sSeq (sFor (gVar 4) (bind md_law 10) b_law_3)
    z)
noncomputable def lw14 : GS := (sRet (gSeq (gSeq (gLc [11] (gVar 9) (bind md_law 11) (gC (.bl true)) e_law_2) (gClr 5 (gLcR1 [5] (gSeq (gSeq (gSeq (gVar 4) gNil) fLen) gNil) (bind md_law 5) (gC (.bl true)) e_law_3))) fEq))
theorem e_g_law : g_law = lw1 (lw2 (lw3 (lw4 (lw5 (lw6 (lw7 (lw8 (lw9 (lw10 (lw11 (lw12 (lw13 (lw14))))))))))))) := rfl
noncomputable def b_law_2F (h1 : GF) : GS := (sIf (gNot (gSeq (gSeq (gVar 10) gNil) (gCall [] md_law_lot_good h1 1))) (sRet (gC (.bl false))) sNil)
theorem b_law_2_F : b_law_2 = b_law_2F G_law_lot_good := rfl
theorem b_law_3_F : b_law_3 = b_law_2F G_law_lot_good := rfl
noncomputable def lw11F (h1 h2 : GF) (z : GS) : GS := (sSeq (sIf (gOrB (gNot (gSeq (gSeq (gVar 9) (gSeq (gVar 4) gNil)) (gCall [] md_law_live_good h1 2))) (gNot (gSeq (gSeq (gVar 9) (gSeq (gVar 4) (gSeq (gVar 2) (gSeq (gVar 7) (gSeq (gC .non) gNil))))) (gCall [] md_law_barred_good h2 5)))) (sRet (gC (.bl false))) sNil)
    z)
theorem lw11_F (z : GS) : lw11 z = lw11F G_law_live_good G_law_barred_good z := rfl
noncomputable def lw12F (h2 : GF) (z : GS) : GS := (sSeq (sIf (gOrB (gNot (gSeq (gSeq (gVar 9) (gSeq (gVar 4) (gSeq (gVar 2) (gSeq (gVar 7) (gSeq (gVar 8) gNil))))) (gCall [] md_law_barred_good h2 5))) (gNot (gSeq (gSeq (gSeq gNil (fNew .lst 0)) (gSeq (gSeq gNil (fNew .lst 0)) (gSeq (gVar 2) (gSeq (gVar 7) (gSeq (gVar 8) gNil))))) (gCall [] md_law_barred_good h2 5)))) (sRet (gC (.bl false))) sNil)
    z)
theorem lw12_F (z : GS) : lw12 z = lw12F G_law_barred_good z := rfl

abbrev EL (f : List Int) (e2 e3 e4 e5 e6 e7 e8 e9 e10 e11 : Ent) : Ms := ⟨[.no, .tr (rowT f), e2, e3, e4, e5, e6, e7, e8, e9, e10, e11], []⟩
section
variable {f : List Int}
theorem lx_1 (hf : Feed f) : ∃ n a f', 0 ≤ n ∧ n < 4096 ∧ 1 ≤ a ∧ a ≤ 900 ∧ Feed f' ∧ ∀ z, lw1 (lw2 (lw3 z)) (EL f .no .no .no .no .no .no .no .no .no .no) = z (EL f' (.tr (iT n)) (.tr (iT a)) (.tr (.nd .lst .own [])) .no .no .no .no .no .no .no) := by
  obtain ⟨a, f1, e1, a0, a1, hf1⟩ := G_pick hf (n := 64) (by decide)
  obtain ⟨b, f2, e2, b0, b1, hf2⟩ := G_pick hf1 (n := 64) (by decide)
  obtain ⟨c, f3, e3, c0, c1, hf3⟩ := G_pick hf2 (n := 900) (by decide)
  have mu := fun {Γ s} => @fMul_int Γ s 64 b (cMul_l (by decide) (by decide))
  refine ⟨a + 64 * b, 1 + c, f3, by omega, by omega, by omega, by omega, hf3, fun z => ?_⟩
  unfold EL lw1
  simp! [e1, e2, mu]
  unfold lw2
  simp! [e3]
  unfold lw3
  simp! []
theorem lx_4 {n a : Int} (hf : Feed f) : ∃ (ls : List Lt) (f' : List Int) (e5 : Ent), Nal e5 ∧ ls.length ≤ 6 ∧ (∀ l ∈ ls, LtOk l) ∧ ls.map (·.n) = (rng 0 ls.length).map (fun i => a + i) ∧ Feed f' ∧ ∀ z, lw4 z (EL f (.tr (iT n)) (.tr (iT a)) (.tr (.nd .lst .own [])) .no .no .no .no .no .no .no) = z (EL f' (.tr (iT n)) (.tr (iT a)) (.tr (lotsT .own ls)) e5 .no .no .no .no .no .no) := by
  obtain ⟨k, f1, e1, k0, k1, hf1⟩ := G_pick hf (n := 7) (by decide)
  obtain ⟨m', h1, f', ls, e5, n5, hl, hok, hn, hf', rfl⟩ := loopR_nx (bd := bind md_law 5) (gs := b_law_1) (lo := 0) (n := k.toNat) (m := EL f1 (.tr (iT n)) (.tr (iT a)) (.tr (.nd .lst .own [])) .no .no .no .no .no .no .no)
    (fun i m => ∃ (f' : List Int) (ls : List Lt) (e5 : Ent), Nal e5 ∧ ls.length = i ∧ (∀ l ∈ ls, LtOk l) ∧ ls.map (·.n) = (rng 0 ls.length).map (fun i => a + i) ∧ Feed f' ∧ m = EL f' (.tr (iT n)) (.tr (iT a)) (.tr (lotsT .own ls)) e5 .no .no .no .no .no .no)
    ⟨f1, [], .no, nal_no, rfl, by simp, rfl, hf1, rfl⟩
    (by
      rintro i m hi ⟨f', ls, e5, n5, hl, hok, hn, hf', rfl⟩
      obtain ⟨f2, l, q1, hf2, ol, ln, lf⟩ := P_law_lot (n := a + i) (f := 33 * i) hf' (by omega) (by omega)
      have mu := fun {Γ s} => @fMul_int Γ s 33 i (cMul_l (by decide) (by decide))
      have z1 : ls.length < sizeLine := Nat.lt_of_le_of_lt (by omega : ls.length ≤ 7) (by decide)
      refine ⟨EL f' (.tr (iT n)) (.tr (iT a)) (.tr (lotsT .own ls)) (.tr (iT i)) .no .no .no .no .no .no, EL f2 (.tr (iT n)) (.tr (iT a)) (.tr (lotsT .own (ls ++ [l]))) (.tr (iT i)) .no .no .no .no .no .no, by simp! [n5.kr], ?_, f2, ls ++ [l], .tr (iT i), nal_tr, by simp [hl], fun y hy => ?_, ?_, hf2, rfl⟩
      · have q1 : G_law_lot [rowT f', iT (a + i), iT (33 * i)] = _ := q1
        simp! [b_law_1, mu, q1, z1]
        rw [List.map_append]
        rfl
      · rcases List.mem_append.mp hy with h | h
        · exact hok y h
        · rw [List.mem_singleton.mp h]; exact ol
      · rw [List.map_append, hn, List.length_append, List.length_singleton, rng_snoc, List.map_append, List.map_singleton, List.map_singleton, ln]
        simp [hl])
  refine ⟨ls, f', e5, n5, by omega, hok, hn, hf', fun z => ?_⟩
  have h1 : loopR (bind md_law 5) b_law_1 0 k.toNat 0 ⟨[.no, .tr (rowT f1), .tr (iT n), .tr (iT a), .tr (.nd .lst .own []), .no, .no, .no, .no, .no, .no, .no], []⟩ = _ := h1
  unfold lw4 EL
  rw [sSeq_e, sForR1_e (n := k) (Γ := [.no, .tr (rowT f1), .tr (iT n), .tr (iT a), .tr (.nd .lst .own []), .no, .no, .no, .no, .no, .no, .no]) (s := []) (by simp! [e1]) (by omega) (by omega), h1, bS_nx]
end
/-! the law, on -/
section
variable {f : List Int} {n a : Int} {ls : List Lt} {e5 : Ent} {ms : List Mo} {m c : Mo}
theorem lx_5 (hf : Feed f) (n5 : Nal e5) : ∃ (ms : List Mo) (f' : List Int), ms ≠ [] ∧ ms.length ≤ 100 ∧ (∀ m ∈ ms, MoOk m) ∧ Feed f' ∧ ∀ z, lw5 (lw6 z) (EL f (.tr (iT n)) (.tr (iT a)) (.tr (lotsT .own ls)) e5 .no .no .no .no .no .no) = z (EL f' (.tr (iT n)) (.tr (iT a)) (.tr (lotsT .own ls)) e5 (.tr (.nd .lst .own (ms.map moT))) .no .no .no .no .no) := by
  obtain ⟨k, f1, e1, k0, k1, hf1⟩ := G_pick hf (n := 9) (by decide)
  obtain ⟨f2, ms, q1, hf2, hne, hl, hok⟩ := G_history (k := k) hf1 k0 (by omega)
  refine ⟨ms, f2, hne, hl, hok, hf2, fun z => ?_⟩
  have hlen : ms.length ≠ 0 := fun q => hne (List.length_eq_zero_iff.mp q)
  unfold EL lw5
  generalize ls.map (toldT .frz) = B
  simp! [e1, q1, n5.kr, n5.ke]
  unfold lw6
  simp! [hlen, hne, n5.kr, n5.ke]
theorem lx_7 (hf : Feed f) (n5 : Nal e5) (hne : ms ≠ []) (hok : ∀ m ∈ ms, MoOk m) : ∃ (m c : Mo) (f' : List Int), MoOk m ∧ MoOk c ∧ Feed f' ∧ ∀ z, lw7 (lw8 z) (EL f (.tr (iT n)) (.tr (iT a)) (.tr (lotsT .own ls)) e5 (.tr (.nd .lst .own (ms.map moT))) .no .no .no .no .no) = z (EL f' (.tr (iT n)) (.tr (iT a)) (.tr (lotsT .own ls)) e5 (.tr (.nd .lst .own (ms.map moT))) (.tr (moT m)) (.tr (moT c)) .no .no .no) := by
  have hl0 : 0 < ms.length := List.length_pos_iff.mpr hne
  obtain ⟨i, f1, e1, i0, i1, hf1⟩ := G_pick hf (n := ms.length) (by omega)
  obtain ⟨j, f2, e2, j0, j1, hf2⟩ := G_pick hf1 (n := ms.length) (by omega)
  have x1 := ixN_len i0 i1
  have x2 := ixN_len j0 j1
  have gt : ∀ i, i < ms.length → ∃ a, ms[i]? = some a ∧ MoOk a := fun i h => ⟨ms[i], List.getElem?_eq_getElem h, hok _ (List.getElem_mem h)⟩
  obtain ⟨m, hm, om⟩ := gt i.toNat (by omega)
  obtain ⟨c, hc, oc⟩ := gt j.toNat (by omega)
  refine ⟨m, c, f2, om, oc, hf2, fun z => ?_⟩
  unfold EL lw7
  generalize ls.map (toldT .frz) = B
  simp! [e1, x1, hm, n5.kr, n5.ke]
  unfold lw8
  simp! [e2, x2, hc, n5.kr, n5.ke]
theorem lx_9 {T : Tr} (n5 : Nal e5) (hl : ls.length ≤ 6) (z : GS) : lw9 z (EL f (.tr (iT n)) (.tr (iT a)) (.tr (lotsT .own ls)) e5 (.tr T) (.tr (moT m)) (.tr (moT c)) .no .no .no) = z (EL f (.tr (iT n)) (.tr (iT a)) (.tr (lotsT .own ls)) e5 (.tr T) (.tr (moT m)) (.tr (moT c)) (.tr (winT .own ls)) .no .no) := by
  have k0 := n5.kr
  unfold EL lw9
  generalize moT m = tm
  generalize moT c = tc
  simp! []
  rw [gLcP_is (xs := ls) (enc := toldT .frz) (.al [4]) (.al [4]) .lst .own (by simp! []) (by simp! []) rfl rfl (by omega) rfl rfl (by simp! [n5.kr]) rfl rfl (fun x _ => rfl) (fun _ => true) (lobF .frz) (fun x _ s' => rfl) (fun x _ s' _ => ⟨by
    have i0 : ixN 7 0 = some 0 := rfl
    simp! [e_law_1, i0], by simp! []⟩), filt_true]
  simp! [n5.kr]
end
/-! the law's end -/
section
variable {f : List Int} {n a : Int} {ls : List Lt} {e5 e10 : Ent} {m c : Mo} {T tm tc : Tr} {h1 h2 : GF}
theorem l2_turn {t : List Tr} (q : h1 [.nd .lst .frz t] = some (.rt (bT true) [.any])) {e0 e1 e2 e3 e4 e5 e6 e7 e8 e9 e11 e : Ent} : b_law_2F h1 ⟨[e0, e1, e2, e3, e4, e5, e6, e7, e8, e9, .tr (.nd .lst .frz t), e11], [e]⟩ = some (.nx ⟨[e0, e1, e2, e3, e4, e5, e6, e7, e8, e9, .tr (.nd .lst .frz t), e11], [e]⟩) := by
  simp! [b_law_2F, q]
theorem lx_loop (hok : ∀ l ∈ ls, LtOk l) (n5 : Nal e5) (n10 : Nal e10) : ∃ e10', Nal e10' ∧ sFor (gVar 4) (bind md_law 10) (b_law_2F G_law_lot_good) (EL f (.tr (iT n)) (.tr (iT a)) (.tr (lotsT .own ls)) e5 (.tr T) (.tr tm) (.tr tc) (.tr (winT .own ls)) e10 .no) = some (.nx (EL f (.tr (iT n)) (.tr (iT a)) (.tr (lotsT .own ls)) e5 (.tr T) (.tr tm) (.tr tc) (.tr (winT .own ls)) e10' .no)) := by
  obtain ⟨Γ', ⟨e10', n10', rfl⟩, key⟩ := loopE_pre (gs := b_law_2F G_law_lot_good) (bd := bind md_law 10) (s := []) (xs := ls) (enc := toldT .frz) (.al [4]) .lst .own
      (fun p Γ => ∃ e10', Nal e10' ∧ Γ = [.no, .tr (rowT f), .tr (iT n), .tr (iT a), .tr (lotsT .own ls), e5, .tr T, .tr tm, .tr tc, .tr (winT .own ls), e10', .no])
      (fun p Γ ⟨_, _, e⟩ => by rw [e]; rfl) rfl (fun x _ => rfl) (Γ := [.no, .tr (rowT f), .tr (iT n), .tr (iT a), .tr (lotsT .own ls), e5, .tr T, .tr tm, .tr tc, .tr (winT .own ls), e10, .no])
      (by
        rintro p l q Γ hx ⟨e10', n10', rfl⟩
        have hg := P_lot_good (hok l (by rw [hx]; simp))
        have k5 := n5.kr
        have k10 := n10'.kr
        exact ⟨[.no, .tr (rowT f), .tr (iT n), .tr (iT a), .tr (lotsT .own ls), e5, .tr T, .tr tm, .tr tc, .tr (winT .own ls), .tr (toldT .frz l), .no], _, by simp! [n5.kr, n10'.kr], ⟨.tr (toldT .frz l), nal_tr, rfl⟩, .inl (l2_turn hg)⟩)
      ⟨e10, n10, rfl⟩
  refine ⟨e10', n10', ?_⟩
  unfold EL
  rw [show lotsT .own ls = .nd .lst .own (ls.map (toldT .frz)) from rfl] at *
  unfold sFor
  rw [show gVar 4 ⟨[.no, .tr (rowT f), .tr (iT n), .tr (iT a), .tr (.nd .lst .own (ls.map (toldT .frz))), e5, .tr T, .tr tm, .tr tc, .tr (winT .own ls), e10, .no], []⟩ = some (.ok ⟨[.no, .tr (rowT f), .tr (iT n), .tr (iT a), .tr (.nd .lst .own (ls.map (toldT .frz))), e5, .tr T, .tr tm, .tr tc, .tr (winT .own ls), e10, .no], [.al [4]]⟩) by simp! []]
  simp only []
  rw [show ready ⟨[.no, .tr (rowT f), .tr (iT n), .tr (iT a), .tr (.nd .lst .own (ls.map (toldT .frz))), e5, .tr T, .tr tm, .tr tc, .tr (winT .own ls), e10, .no], [.al [4]]⟩ = some (⟨[.no, .tr (rowT f), .tr (iT n), .tr (iT a), .tr (.nd .lst .own (ls.map (toldT .frz))), e5, .tr T, .tr tm, .tr tc, .tr (winT .own ls), e10, .no], [.al [4]]⟩, .lst, ls.length) by simp! []]
  exact key
theorem lx_11 {W B t7 t8 : List Tr} (q1 : h1 [.nd .lst .lnt W, .nd .lst .lnt B] = some (.rt (bT true) [.any, .any])) (q2 : h2 [.nd .lst .lnt W, .nd .lst .lnt B, iT n, .nd .lst .frz t7, .a .non] = some (.rt (bT true) [.any, .any, .any, .any, .any])) (n5 : Nal e5) (n10 : Nal e10) (z : GS) :
    lw11F h1 h2 z (EL f (.tr (iT n)) (.tr (iT a)) (.tr (.nd .lst .own B)) e5 (.tr T) (.tr (.nd .lst .frz t7)) (.tr (.nd .lst .frz t8)) (.tr (.nd .lst .own W)) e10 .no) = z (EL f (.tr (iT n)) (.tr (iT a)) (.tr (.nd .lst .own B)) e5 (.tr T) (.tr (.nd .lst .frz t7)) (.tr (.nd .lst .frz t8)) (.tr (.nd .lst .own W)) e10 .no) := by
  unfold lw11F EL
  simp! [q1, q2, n5.kr, n5.ke, n10.kr, n10.ke]
theorem lx_12 {W B t7 t8 : List Tr} (q3 : h2 [.nd .lst .lnt W, .nd .lst .lnt B, iT n, .nd .lst .frz t7, .nd .lst .frz t8] = some (.rt (bT true) [.any, .any, .any, .any, .any])) (q4 : h2 [.nd .lst .lnt [], .nd .lst .lnt [], iT n, .nd .lst .frz t7, .nd .lst .frz t8] = some (.rt (bT true) [.any, .any, .any, .any, .any])) (n5 : Nal e5) (n10 : Nal e10) (z : GS) :
    lw12F h2 z (EL f (.tr (iT n)) (.tr (iT a)) (.tr (.nd .lst .own B)) e5 (.tr T) (.tr (.nd .lst .frz t7)) (.tr (.nd .lst .frz t8)) (.tr (.nd .lst .own W)) e10 .no) = z (EL f (.tr (iT n)) (.tr (iT a)) (.tr (.nd .lst .own B)) e5 (.tr T) (.tr (.nd .lst .frz t7)) (.tr (.nd .lst .frz t8)) (.tr (.nd .lst .own W)) e10 .no) := by
  unfold lw12F EL
  simp! [q3, q4, n5.kr, n5.ke, n10.kr, n10.ke]
theorem l14F {gA gB : GE} {Γ Γ' : List Ent} {xs ys : List Int} (hA : gA ⟨Γ, []⟩ = some (.ok ⟨Γ, [.tr (rowT xs)]⟩)) (hB : gB ⟨Γ, [.tr (rowT xs)]⟩ = some (.ok ⟨Γ', [.tr (rowT ys), .tr (rowT xs)]⟩)) (h : xs = ys) :
    sRet (gSeq (gSeq gA gB) fEq) ⟨Γ, []⟩ = some (.rt (bT true) ⟨Γ', []⟩) := by
  subst h
  simp! [hA, hB]
theorem l14A {B : List Tr} (hl : ls.length ≤ 6) (n5 : Nal e5) (n10 : Nal e10) :
    gLc [11] (gVar 9) (bind md_law 11) (gC (.bl true)) e_law_2 ⟨[.no, .tr (rowT f), .tr (iT n), .tr (iT a), .tr (.nd .lst .own B), e5, .tr T, .tr tm, .tr tc, .tr (winT .own ls), e10, .no], []⟩ = some (.ok ⟨[.no, .tr (rowT f), .tr (iT n), .tr (iT a), .tr (.nd .lst .own B), e5, .tr T, .tr tm, .tr tc, .tr (winT .own ls), e10, .no], [.tr (rowT (ls.map (·.n)))]⟩) := by
  have h := gLcP_is (md := md_law) (k := 11) (Γ := [.no, .tr (rowT f), .tr (iT n), .tr (iT a), .tr (.nd .lst .own B), e5, .tr T, .tr tm, .tr tc, .tr (winT .own ls), e10, .no]) (s := []) (gs := gVar 9) (gt := gC (.bl true)) (ge := e_law_2) (xs := ls) (enc := lobF .frz) (.al [9]) (.al [9]) .lst .own (by simp! []) (by simp! []) rfl rfl (by omega) rfl rfl (by simp! [n5.kr, n10.kr]) rfl rfl (fun x _ => rfl) (fun _ => true) (fun l => iT l.n) (fun x _ s' => rfl) (fun x _ s' _ => ⟨by simp! [e_law_2], by simp! []⟩)
  rw [filt_true] at h
  have e : rowT (ls.map (·.n)) = .nd .lst .own (ls.map fun l => iT l.n) := by
    show Tr.nd .lst .own ((ls.map (·.n)).map iT) = _
    rw [List.map_map]
    rfl
  rw [h, e]
theorem l14B {B : List Tr} {x : Tr} {k : Nat} (hB : B.length = k) (hk : k ≤ 6) (n5 : Nal e5) (n10 : Nal e10) :
    gClr 5 (gLcR1 [5] (gSeq (gSeq (gSeq (gVar 4) gNil) fLen) gNil) (bind md_law 5) (gC (.bl true)) e_law_3) ⟨[.no, .tr (rowT f), .tr (iT n), .tr (iT a), .tr (.nd .lst .own B), e5, .tr T, .tr tm, .tr tc, .tr (winT .own ls), e10, .no], [.tr x]⟩ = some (.ok ⟨[.no, .tr (rowT f), .tr (iT n), .tr (iT a), .tr (.nd .lst .own B), .no, .tr T, .tr tm, .tr tc, .tr (winT .own ls), e10, .no], [.tr (rowT ((rng 0 k).map fun i => a + i)), .tr x]⟩) := by
  have hc : clr 5 ⟨[.no, .tr (rowT f), .tr (iT n), .tr (iT a), .tr (.nd .lst .own B), e5, .tr T, .tr tm, .tr tc, .tr (winT .own ls), e10, .no], [.tr x]⟩ = ⟨[.no, .tr (rowT f), .tr (iT n), .tr (iT a), .tr (.nd .lst .own B), .no, .tr T, .tr tm, .tr tc, .tr (winT .own ls), e10, .no], [.tr x]⟩ := by simp! [n5.kr, n10.kr]
  have h := gLcR1P (md := md_law) (k := 5) (Γ := [.no, .tr (rowT f), .tr (iT n), .tr (iT a), .tr (.nd .lst .own B), .no, .tr T, .tr tm, .tr tc, .tr (winT .own ls), e10, .no]) (s := [.tr x]) (ga := gSeq (gSeq (gSeq (gVar 4) gNil) fLen) gNil) (gt := gC (.bl true)) (ge := e_law_3) (j := (k : Int)) (by simp! [hB]) (by omega) (by omega) rfl rfl (by simp! [n10.kr]) rfl (fun _ => true) (fun x => iT (a + x)) (fun x s' h1 h2 => rfl) (fun x s' h1 h2 _ => ⟨by simp! [e_law_3], rfl⟩)
  rw [filt_true, show (k : Int).toNat = k by omega] at h
  unfold gClr
  have e : rowT ((rng 0 k).map fun i => a + i) = .nd .lst .own ((rng 0 k).map fun x => iT (a + x)) := by
    show Tr.nd .lst .own (((rng 0 k).map fun i => a + i).map iT) = _
    rw [List.map_map]
    rfl
  rw [if_pos (by simp), hc, h, e]
theorem lx_14 (hl : ls.length ≤ 6) (hn : ls.map (·.n) = (rng 0 ls.length).map (fun i => a + i)) (n5 : Nal e5) (n10 : Nal e10) : ∃ mm, lw14 (EL f (.tr (iT n)) (.tr (iT a)) (.tr (lotsT .own ls)) e5 (.tr T) (.tr tm) (.tr tc) (.tr (winT .own ls)) e10 .no) = some (.rt (bT true) mm) :=
  ⟨_, l14F (l14A hl n5 n10) (l14B (List.length_map _) hl n5 n10) hn⟩
end
theorem lawIs : ∀ fs, Feed fs → ∃ m, g_law (feedG 10 fs) = some (.rt (bT true) m) := by
  intro fs hf
  obtain ⟨n, a, f1, n0, n1, a0, a1, hf1, z1⟩ := lx_1 hf
  obtain ⟨ls, f2, e5, n5, hl, hok, hn, hf2, z4⟩ := @lx_4 f1 n a hf1
  obtain ⟨ms, f3, hne, hml, hmo, hf3, z5⟩ := @lx_5 f2 n a ls e5 hf2 n5
  obtain ⟨m, c, f4, om, oc, hf4, z7⟩ := @lx_7 f3 n a ls e5 ms hf3 n5 hne hmo
  have hl2 : ls.length ≤ 100 := by omega
  obtain ⟨e10, n10, zl⟩ := @lx_loop f4 n a ls e5 .no (.nd .lst .own (ms.map moT)) (moT m) (moT c) hok n5 nal_no
  obtain ⟨e10', n10', zl'⟩ := @lx_loop f4 n a ls e5 e10 (.nd .lst .own (ms.map moT)) (moT m) (moT c) hok n5 n10
  have b1 := P_live_good (ls := ls) hl2
  have b2 := P_barred_good0 (n := n) (ls := ls) n0 n1 om hl2
  have b3 := P_barred_good1 (n := n) (ls := ls) n0 n1 om oc hl2
  have b4 := P_barred_good1 (n := n) (ls := []) n0 n1 om oc (by simp)
  obtain ⟨mm, z14⟩ := @lx_14 f4 n a ls e5 e10' (.nd .lst .own (ms.map moT)) (moT m) (moT c) hl hn n5 n10'
  refine ⟨mm, ?_⟩
  rw [e_g_law]
  show lw1 _ (EL fs .no .no .no .no .no .no .no .no .no .no) = _
  rw [z1, z4, z5, z7, lx_9 n5 hl]
  have y10 : ∀ z, lw10 z (EL f4 (.tr (iT n)) (.tr (iT a)) (.tr (lotsT .own ls)) e5 (.tr (.nd .lst .own (ms.map moT))) (.tr (moT m)) (.tr (moT c)) (.tr (winT .own ls)) .no .no) = z (EL f4 (.tr (iT n)) (.tr (iT a)) (.tr (lotsT .own ls)) e5 (.tr (.nd .lst .own (ms.map moT))) (.tr (moT m)) (.tr (moT c)) (.tr (winT .own ls)) e10 .no) := fun z => by
    unfold lw10
    rw [sSeq_e, b_law_2_F, zl, bS_nx]
  have y13 : ∀ z, lw13 z (EL f4 (.tr (iT n)) (.tr (iT a)) (.tr (lotsT .own ls)) e5 (.tr (.nd .lst .own (ms.map moT))) (.tr (moT m)) (.tr (moT c)) (.tr (winT .own ls)) e10 .no) = z (EL f4 (.tr (iT n)) (.tr (iT a)) (.tr (lotsT .own ls)) e5 (.tr (.nd .lst .own (ms.map moT))) (.tr (moT m)) (.tr (moT c)) (.tr (winT .own ls)) e10' .no) := fun z => by
    unfold lw13
    rw [sSeq_e, b_law_3_F, zl', bS_nx]
  rw [y10, lw11_F, lx_11 b1 b2 n5 n10, lw12_F, lx_12 b3 b4 n5 n10, y13, z14]
section
variable {P : Program} {w : World} {K : PySem.W.Frag} {mg : Str → Option Value} {base : Heap}
theorem ok_law (T : Txt K mg) : FnOk P w K mg base CX0 7 T.a_law T.fd_law ["_law_script"] (spLaw K) := ok_law_of lawIs T
end
theorem Vals.app {vs zs : List V} {us ws : List Value} (h : Vals vs us) (k : Vals zs ws) : Vals (vs ++ zs) (us ++ ws) := by
  induction h with
  | nil => exact k
  | cons r _ ih => exact .cons r ih
theorem fun_kbn {K : PySem.W.Frag} {x qual : Str} {st : Stmt} {f : Addr} {fd : FuncData} {ps ks : List Str} {n : Nat} (F : Fun K x qual st f fd)
    (h : ∀ (kV doc pm : Value) (an : Option Addr) (cdv ct : Value) (us ws : List Value), us.length = n → ws.length = ks.length → bindArgs (PySem.W.fnOf x qual (defArgs st) (defBody st) (defScope st) .none kV doc pm an cdv ct) ⟨us, ks.zip ws⟩ = pure (ps.zip (us ++ ws))) :
    KBn K fd ps n ks (fun us ws => us ++ ws) (fun vs zs => vs ++ zs) := by
  obtain ⟨oc, od, kV, doc, pm, an, cdv, ct, osl, rfl, lk, hcd⟩ := F.ex
  exact ⟨fun s us ws _ l1 l2 => .of_eq (h kV doc pm an cdv ct us ws l1 l2), fun r1 r2 => Vals.app r1 r2⟩
theorem txt_mk {K : PySem.W.Frag} {h : Heap} {mg : Str → Option Value} (X : K.In h) (G : h.Ns mainGlobals mg)
    {c_Plan : Addr}
    {tk_Plan_FREE : Tok}
    {tk_Plan_LOGGED : Tok}
    {tk_Plan_PLAIN : Tok}
    {c_Image : Addr}
    {c_Book : Addr}
    {c_Book_RULES : Addr} {odc_Book_RULES : Option Addr} {nc_Book_RULES : Nat} {slc_Book_RULES : Array (Option Value)}
    {tkc_Book_RULES_0 : Tok}
    {tkc_Book_RULES_1 : Tok}
    {tkc_Book_RULES_2 : Tok}
    {tkc_Book_RULES_3 : Tok}
    {tkc_Book_RULES_4 : Tok}
    {tkc_Book_RULES_5 : Tok}
    {tkc_Book_RULES_6 : Tok}
    {tkc_Book_RULES_7 : Tok}
    {tkc_Book_RULES_8 : Tok}
    {tkc_Book_RULES_9 : Tok}
    {tkc_Book_RULES_10 : Tok}
    {tkc_Book_RULES_11 : Tok}
    {c_Lot : Addr}
    {f0 : Addr} {od0 an0 : Option Addr} {sl0 : Array (Option Value)} {oc0 kV0 dc0 pm0 cd0 ct0 : Value}
    {f1 : Addr} {od1 an1 : Option Addr} {sl1 : Array (Option Value)} {oc1 kV1 dc1 pm1 cd1 ct1 : Value}
    {f2 : Addr} {od2 an2 : Option Addr} {sl2 : Array (Option Value)} {oc2 kV2 dc2 pm2 cd2 ct2 : Value}
    {f3 : Addr} {od3 an3 : Option Addr} {sl3 : Array (Option Value)} {oc3 kV3 dc3 pm3 cd3 ct3 : Value}
    {f4 : Addr} {od4 an4 : Option Addr} {sl4 : Array (Option Value)} {oc4 kV4 dc4 pm4 cd4 ct4 : Value}
    {f5 : Addr} {od5 an5 : Option Addr} {sl5 : Array (Option Value)} {oc5 kV5 dc5 pm5 cd5 ct5 : Value}
    {f6 : Addr} {od6 an6 : Option Addr} {sl6 : Array (Option Value)} {oc6 kV6 dc6 pm6 cd6 ct6 : Value}
    {f7 : Addr} {od7 an7 : Option Addr} {sl7 : Array (Option Value)} {oc7 kV7 dc7 pm7 cd7 ct7 : Value}
    {f8 : Addr} {od8 an8 : Option Addr} {sl8 : Array (Option Value)} {oc8 kV8 dc8 pm8 cd8 ct8 : Value}
    {f9 : Addr} {od9 an9 : Option Addr} {sl9 : Array (Option Value)} {oc9 kV9 dc9 pm9 cd9 ct9 : Value}
    {f10 : Addr} {od10 an10 : Option Addr} {sl10 : Array (Option Value)} {oc10 kV10 dc10 pm10 cd10 ct10 : Value}
    {f11 : Addr} {od11 an11 : Option Addr} {sl11 : Array (Option Value)} {oc11 kV11 dc11 pm11 cd11 ct11 : Value}
    {f12 : Addr} {od12 an12 : Option Addr} {sl12 : Array (Option Value)} {oc12 kV12 dc12 pm12 cd12 ct12 : Value}
    {f13 : Addr} {od13 an13 : Option Addr} {sl13 : Array (Option Value)} {oc13 kV13 dc13 pm13 cd13 ct13 : Value}
    {f14 : Addr} {od14 an14 : Option Addr} {sl14 : Array (Option Value)} {oc14 kV14 dc14 pm14 cd14 ct14 : Value}
    {f15 : Addr} {od15 an15 : Option Addr} {sl15 : Array (Option Value)} {oc15 kV15 dc15 pm15 cd15 ct15 : Value}
    {f16 : Addr} {od16 an16 : Option Addr} {sl16 : Array (Option Value)} {oc16 kV16 dc16 pm16 cd16 ct16 : Value}
    {f17 : Addr} {od17 an17 : Option Addr} {sl17 : Array (Option Value)} {oc17 kV17 dc17 pm17 cd17 ct17 : Value}
    {f18 : Addr} {od18 an18 : Option Addr} {sl18 : Array (Option Value)} {oc18 kV18 dc18 pm18 cd18 ct18 : Value}
    {f19 : Addr} {od19 an19 : Option Addr} {sl19 : Array (Option Value)} {oc19 kV19 dc19 pm19 cd19 ct19 : Value}
    {f20 : Addr} {od20 an20 : Option Addr} {sl20 : Array (Option Value)} {oc20 kV20 dc20 pm20 cd20 ct20 : Value}
    {f21 : Addr} {od21 an21 : Option Addr} {sl21 : Array (Option Value)} {oc21 kV21 dc21 pm21 cd21 ct21 : Value}
    {f22 : Addr} {od22 an22 : Option Addr} {sl22 : Array (Option Value)} {oc22 kV22 dc22 pm22 cd22 ct22 : Value}
    {f23 : Addr} {od23 an23 : Option Addr} {sl23 : Array (Option Value)} {oc23 kV23 dc23 pm23 cd23 ct23 : Value}
    {f24 : Addr} {od24 an24 : Option Addr} {sl24 : Array (Option Value)} {oc24 kV24 dc24 pm24 cd24 ct24 : Value}
    {f25 : Addr} {od25 an25 : Option Addr} {sl25 : Array (Option Value)} {oc25 kV25 dc25 pm25 cd25 ct25 : Value}
    {f26 : Addr} {od26 an26 : Option Addr} {sl26 : Array (Option Value)} {oc26 kV26 dc26 pm26 cd26 ct26 : Value}
    {f27 : Addr} {od27 an27 : Option Addr} {sl27 : Array (Option Value)} {oc27 kV27 dc27 pm27 cd27 ct27 : Value}
    {f28 : Addr} {od28 an28 : Option Addr} {sl28 : Array (Option Value)} {oc28 kV28 dc28 pm28 cd28 ct28 : Value}
    {f29 : Addr} {od29 an29 : Option Addr} {sl29 : Array (Option Value)} {oc29 kV29 dc29 pm29 cd29 ct29 : Value}
    {f30 : Addr} {od30 an30 : Option Addr} {sl30 : Array (Option Value)} {oc30 kV30 dc30 pm30 cd30 ct30 : Value}
    {f31 : Addr} {od31 an31 : Option Addr} {sl31 : Array (Option Value)} {oc31 kV31 dc31 pm31 cd31 ct31 : Value}
    {f32 : Addr} {od32 an32 : Option Addr} {sl32 : Array (Option Value)} {oc32 kV32 dc32 pm32 cd32 ct32 : Value}
    {f33 : Addr} {od33 an33 : Option Addr} {sl33 : Array (Option Value)} {oc33 kV33 dc33 pm33 cd33 ct33 : Value}
    {ps33 : Addr} {rs33 : List Value}
    {f34 : Addr} {od34 an34 : Option Addr} {sl34 : Array (Option Value)} {oc34 kV34 dc34 pm34 cd34 ct34 : Value}
    {ps34 : Addr} {rs34 : List Value}
    {f35 : Addr} {od35 an35 : Option Addr} {sl35 : Array (Option Value)} {oc35 kV35 dc35 pm35 cd35 ct35 : Value}
    {f36 : Addr} {od36 an36 : Option Addr} {sl36 : Array (Option Value)} {oc36 kV36 dc36 pm36 cd36 ct36 : Value}
    {f37 : Addr} {od37 an37 : Option Addr} {sl37 : Array (Option Value)} {oc37 kV37 dc37 pm37 cd37 ct37 : Value}
    {ps37 : Addr} {rs37 : List Value}
    {f38 : Addr} {od38 an38 : Option Addr} {sl38 : Array (Option Value)} {oc38 kV38 dc38 pm38 cd38 ct38 : Value}
    {f39 : Addr} {od39 an39 : Option Addr} {sl39 : Array (Option Value)} {oc39 kV39 dc39 pm39 cd39 ct39 : Value}
    {f40 : Addr} {od40 an40 : Option Addr} {sl40 : Array (Option Value)} {oc40 kV40 dc40 pm40 cd40 ct40 : Value}
    {f41 : Addr} {od41 an41 : Option Addr} {sl41 : Array (Option Value)} {oc41 kV41 dc41 pm41 cd41 ct41 : Value}
    {t_FOLDER : Tok}
    {t_KIND : Tok}
    {t_LINKS : Tok}
    {t_MAKING : Tok}
    {t_SUMS_BLOCK : Tok}
    {t_ROOT : Tok}
    {e_BadValue : Addr}
    {e_OverQuota : Addr}
    {e_BlocksFull : Addr}
    (aC_Plan : PySem.W.nsIn K mainGlobals "Plan" = some (some (.ref c_Plan)))
    (pg_Plan : PySem.W.plainGet K c_Plan Str.empty = true)
    (hd_Plan : PySem.W.hasDictIn K c_Plan = true)
    (po_Plan : PySem.W.plainOver K c_Plan = true)
    (sa_Plan : PySem.W.findIn K (.ref c_Plan) "__setattr__" = some (some (.builtin "object.__setattr__")))
    (mk_Plan : PySem.W.makesIn K c_Plan = true)
    (kc_Plan : PySem.W.keepIn K (.ref c_Plan) = true)
    (nf_Plan_blocks : PySem.W.findIn K (.ref c_Plan) "blocks" = some none)
    (nf_Plan_nodes : PySem.W.findIn K (.ref c_Plan) "nodes" = some none)
    (nf_Plan_slots : PySem.W.findIn K (.ref c_Plan) "slots" = some none)
    (nf_Plan_maps : PySem.W.findIn K (.ref c_Plan) "maps" = some none)
    (nf_Plan_first_node : PySem.W.findIn K (.ref c_Plan) "first_node" = some none)
    (nf_Plan_first_data : PySem.W.findIn K (.ref c_Plan) "first_data" = some none)
    (rd_Plan : PySem.W.readsIn K c_Plan (.type "type") = true)
    (ga_Plan : PySem.W.specialIn K (.ref c_Plan) "__getattribute__" = some (some (.builtin "type.__getattribute__")))
    (cv_Plan_FREE : PySem.W.findCls K (.ref c_Plan) (.type "type") "FREE" = some (.val (.int 0 tk_Plan_FREE)))
    (cv_Plan_LOGGED : PySem.W.findCls K (.ref c_Plan) (.type "type") "LOGGED" = some (.val (.int 1 tk_Plan_LOGGED)))
    (cv_Plan_PLAIN : PySem.W.findCls K (.ref c_Plan) (.type "type") "PLAIN" = some (.val (.int 2 tk_Plan_PLAIN)))
    (aC_Image : PySem.W.nsIn K mainGlobals "Image" = some (some (.ref c_Image)))
    (pg_Image : PySem.W.plainGet K c_Image Str.empty = true)
    (hd_Image : PySem.W.hasDictIn K c_Image = true)
    (po_Image : PySem.W.plainOver K c_Image = true)
    (sa_Image : PySem.W.findIn K (.ref c_Image) "__setattr__" = some (some (.builtin "object.__setattr__")))
    (mk_Image : PySem.W.makesIn K c_Image = true)
    (kc_Image : PySem.W.keepIn K (.ref c_Image) = true)
    (nf_Image_plan : PySem.W.findIn K (.ref c_Image) "plan" = some none)
    (nf_Image_cells : PySem.W.findIn K (.ref c_Image) "cells" = some none)
    (nf_Image_holdings : PySem.W.findIn K (.ref c_Image) "holdings" = some none)
    (nf_Image_stamps : PySem.W.findIn K (.ref c_Image) "stamps" = some none)
    (nf_Image_handles : PySem.W.findIn K (.ref c_Image) "handles" = some none)
    (nf_Image_serial : PySem.W.findIn K (.ref c_Image) "serial" = some none)
    (nf_Image_wish : PySem.W.findIn K (.ref c_Image) "wish" = some none)
    (nf_Image_barred : PySem.W.findIn K (.ref c_Image) "barred" = some none)
    (rd_Image : PySem.W.readsIn K c_Image (.type "type") = true)
    (ga_Image : PySem.W.specialIn K (.ref c_Image) "__getattribute__" = some (some (.builtin "type.__getattribute__")))
    (aC_Book : PySem.W.nsIn K mainGlobals "Book" = some (some (.ref c_Book)))
    (pg_Book : PySem.W.plainGet K c_Book Str.empty = true)
    (hd_Book : PySem.W.hasDictIn K c_Book = true)
    (po_Book : PySem.W.plainOver K c_Book = true)
    (sa_Book : PySem.W.findIn K (.ref c_Book) "__setattr__" = some (some (.builtin "object.__setattr__")))
    (mk_Book : PySem.W.makesIn K c_Book = true)
    (kc_Book : PySem.W.keepIn K (.ref c_Book) = true)
    (nf_Book_names : PySem.W.findIn K (.ref c_Book) "names" = some none)
    (nf_Book_number : PySem.W.findIn K (.ref c_Book) "number" = some none)
    (rd_Book : PySem.W.readsIn K c_Book (.type "type") = true)
    (ga_Book : PySem.W.specialIn K (.ref c_Book) "__getattribute__" = some (some (.builtin "type.__getattribute__")))
    (lkc_Book_RULES : K.lookup c_Book_RULES = some ⟨.type "tuple", odc_Book_RULES, .seq #[.str "copies" tkc_Book_RULES_0, .str "mark" tkc_Book_RULES_1, .str "words" tkc_Book_RULES_2, .str "reuse" tkc_Book_RULES_3, .str "late" tkc_Book_RULES_4, .str "revoke" tkc_Book_RULES_5, .str "lapse" tkc_Book_RULES_6, .str "shelve" tkc_Book_RULES_7, .str "frozen" tkc_Book_RULES_8, .str "wait" tkc_Book_RULES_9, .str "room" tkc_Book_RULES_10, .str "told" tkc_Book_RULES_11] nc_Book_RULES, slc_Book_RULES⟩)
    (cv_Book_RULES : PySem.W.findCls K (.ref c_Book) (.type "type") "RULES" = some (.val (.ref c_Book_RULES)))
    (ci_Book_RULES : PySem.W.findIn K (.ref c_Book) "RULES" = some (some (.ref c_Book_RULES)))
    (cg_Book_RULES : PySem.W.specialIn K (.ref c_Book_RULES) "__get__" = some none)
    (aC_Lot : PySem.W.nsIn K mainGlobals "Lot" = some (some (.ref c_Lot)))
    (pg_Lot : PySem.W.plainGet K c_Lot Str.empty = true)
    (hd_Lot : PySem.W.hasDictIn K c_Lot = true)
    (po_Lot : PySem.W.plainOver K c_Lot = true)
    (sa_Lot : PySem.W.findIn K (.ref c_Lot) "__setattr__" = some (some (.builtin "object.__setattr__")))
    (mk_Lot : PySem.W.makesIn K c_Lot = true)
    (kc_Lot : PySem.W.keepIn K (.ref c_Lot) = true)
    (nf_Lot_number : PySem.W.findIn K (.ref c_Lot) "number" = some none)
    (nf_Lot_image : PySem.W.findIn K (.ref c_Lot) "image" = some none)
    (nf_Lot_copies : PySem.W.findIn K (.ref c_Lot) "copies" = some none)
    (nf_Lot_identities : PySem.W.findIn K (.ref c_Lot) "identities" = some none)
    (nf_Lot_mark : PySem.W.findIn K (.ref c_Lot) "mark" = some none)
    (nf_Lot_mark_slot : PySem.W.findIn K (.ref c_Lot) "mark_slot" = some none)
    (nf_Lot_revokes : PySem.W.findIn K (.ref c_Lot) "revokes" = some none)
    (a0 : PySem.W.nsIn K mainGlobals "live_lot" = some (some (.ref f0)))
    (l0 : K.lookup f0 = some ⟨oc0, od0, .func (PySem.W.fnOf "live_lot" "live_lot" (defArgs s_live_lot) (defBody s_live_lot) (defScope s_live_lot) .none kV0 dc0 pm0 an0 cd0 ct0), sl0⟩)
    (c0 : PySem.W.codeIn K cd0 "live_lot" = true)
    (k0 : PySem.W.keepIn K (.ref f0) = true)
    (a1 : PySem.W.nsIn K mainGlobals "barred_blocks" = some (some (.ref f1)))
    (l1 : K.lookup f1 = some ⟨oc1, od1, .func (PySem.W.fnOf "barred_blocks" "barred_blocks" (defArgs s_barred_blocks) (defBody s_barred_blocks) (defScope s_barred_blocks) .none kV1 dc1 pm1 an1 cd1 ct1), sl1⟩)
    (c1 : PySem.W.codeIn K cd1 "barred_blocks" = true)
    (k1 : PySem.W.keepIn K (.ref f1) = true)
    (a2 : PySem.W.nsIn K mainGlobals "_law_feed" = some (some (.ref f2)))
    (l2 : K.lookup f2 = some ⟨oc2, od2, .func (PySem.W.fnOf "_law_feed" "_law_feed" (defArgs s_law_feed) (defBody s_law_feed) (defScope s_law_feed) .none kV2 dc2 pm2 an2 cd2 ct2), sl2⟩)
    (c2 : PySem.W.codeIn K cd2 "_law_feed" = true)
    (k2 : PySem.W.keepIn K (.ref f2) = true)
    (a3 : PySem.W.nsIn K mainGlobals "_law_pick" = some (some (.ref f3)))
    (l3 : K.lookup f3 = some ⟨oc3, od3, .func (PySem.W.fnOf "_law_pick" "_law_pick" (defArgs s_law_pick) (defBody s_law_pick) (defScope s_law_pick) .none kV3 dc3 pm3 an3 cd3 ct3), sl3⟩)
    (c3 : PySem.W.codeIn K cd3 "_law_pick" = true)
    (k3 : PySem.W.keepIn K (.ref f3) = true)
    (a4 : PySem.W.nsIn K mainGlobals "_law_moment" = some (some (.ref f4)))
    (l4 : K.lookup f4 = some ⟨oc4, od4, .func (PySem.W.fnOf "_law_moment" "_law_moment" (defArgs s_law_moment) (defBody s_law_moment) (defScope s_law_moment) .none kV4 dc4 pm4 an4 cd4 ct4), sl4⟩)
    (c4 : PySem.W.codeIn K cd4 "_law_moment" = true)
    (k4 : PySem.W.keepIn K (.ref f4) = true)
    (a5 : PySem.W.nsIn K mainGlobals "_law_take" = some (some (.ref f5)))
    (l5 : K.lookup f5 = some ⟨oc5, od5, .func (PySem.W.fnOf "_law_take" "_law_take" (defArgs s_law_take) (defBody s_law_take) (defScope s_law_take) .none kV5 dc5 pm5 an5 cd5 ct5), sl5⟩)
    (c5 : PySem.W.codeIn K cd5 "_law_take" = true)
    (k5 : PySem.W.keepIn K (.ref f5) = true)
    (a6 : PySem.W.nsIn K mainGlobals "_law_give" = some (some (.ref f6)))
    (l6 : K.lookup f6 = some ⟨oc6, od6, .func (PySem.W.fnOf "_law_give" "_law_give" (defArgs s_law_give) (defBody s_law_give) (defScope s_law_give) .none kV6 dc6 pm6 an6 cd6 ct6), sl6⟩)
    (c6 : PySem.W.codeIn K cd6 "_law_give" = true)
    (k6 : PySem.W.keepIn K (.ref f6) = true)
    (a7 : PySem.W.nsIn K mainGlobals "_law_change" = some (some (.ref f7)))
    (l7 : K.lookup f7 = some ⟨oc7, od7, .func (PySem.W.fnOf "_law_change" "_law_change" (defArgs s_law_change) (defBody s_law_change) (defScope s_law_change) .none kV7 dc7 pm7 an7 cd7 ct7), sl7⟩)
    (c7 : PySem.W.codeIn K cd7 "_law_change" = true)
    (k7 : PySem.W.keepIn K (.ref f7) = true)
    (a8 : PySem.W.nsIn K mainGlobals "_law_history" = some (some (.ref f8)))
    (l8 : K.lookup f8 = some ⟨oc8, od8, .func (PySem.W.fnOf "_law_history" "_law_history" (defArgs s_law_history) (defBody s_law_history) (defScope s_law_history) .none kV8 dc8 pm8 an8 cd8 ct8), sl8⟩)
    (c8 : PySem.W.codeIn K cd8 "_law_history" = true)
    (k8 : PySem.W.keepIn K (.ref f8) = true)
    (a9 : PySem.W.nsIn K mainGlobals "_law_lot" = some (some (.ref f9)))
    (l9 : K.lookup f9 = some ⟨oc9, od9, .func (PySem.W.fnOf "_law_lot" "_law_lot" (defArgs s_law_lot) (defBody s_law_lot) (defScope s_law_lot) .none kV9 dc9 pm9 an9 cd9 ct9), sl9⟩)
    (c9 : PySem.W.codeIn K cd9 "_law_lot" = true)
    (k9 : PySem.W.keepIn K (.ref f9) = true)
    (a10 : PySem.W.nsIn K mainGlobals "_law_lot_good" = some (some (.ref f10)))
    (l10 : K.lookup f10 = some ⟨oc10, od10, .func (PySem.W.fnOf "_law_lot_good" "_law_lot_good" (defArgs s_law_lot_good) (defBody s_law_lot_good) (defScope s_law_lot_good) .none kV10 dc10 pm10 an10 cd10 ct10), sl10⟩)
    (c10 : PySem.W.codeIn K cd10 "_law_lot_good" = true)
    (k10 : PySem.W.keepIn K (.ref f10) = true)
    (a11 : PySem.W.nsIn K mainGlobals "_law_live" = some (some (.ref f11)))
    (l11 : K.lookup f11 = some ⟨oc11, od11, .func (PySem.W.fnOf "_law_live" "_law_live" (defArgs s_law_live) (defBody s_law_live) (defScope s_law_live) .none kV11 dc11 pm11 an11 cd11 ct11), sl11⟩)
    (c11 : PySem.W.codeIn K cd11 "_law_live" = true)
    (k11 : PySem.W.keepIn K (.ref f11) = true)
    (a12 : PySem.W.nsIn K mainGlobals "_law_integer" = some (some (.ref f12)))
    (l12 : K.lookup f12 = some ⟨oc12, od12, .func (PySem.W.fnOf "_law_integer" "_law_integer" (defArgs s_law_integer) (defBody s_law_integer) (defScope s_law_integer) .none kV12 dc12 pm12 an12 cd12 ct12), sl12⟩)
    (c12 : PySem.W.codeIn K cd12 "_law_integer" = true)
    (k12 : PySem.W.keepIn K (.ref f12) = true)
    (a13 : PySem.W.nsIn K mainGlobals "_law_live_good" = some (some (.ref f13)))
    (l13 : K.lookup f13 = some ⟨oc13, od13, .func (PySem.W.fnOf "_law_live_good" "_law_live_good" (defArgs s_law_live_good) (defBody s_law_live_good) (defScope s_law_live_good) .none kV13 dc13 pm13 an13 cd13 ct13), sl13⟩)
    (c13 : PySem.W.codeIn K cd13 "_law_live_good" = true)
    (k13 : PySem.W.keepIn K (.ref f13) = true)
    (a14 : PySem.W.nsIn K mainGlobals "_law_barred" = some (some (.ref f14)))
    (l14 : K.lookup f14 = some ⟨oc14, od14, .func (PySem.W.fnOf "_law_barred" "_law_barred" (defArgs s_law_barred) (defBody s_law_barred) (defScope s_law_barred) .none kV14 dc14 pm14 an14 cd14 ct14), sl14⟩)
    (c14 : PySem.W.codeIn K cd14 "_law_barred" = true)
    (k14 : PySem.W.keepIn K (.ref f14) = true)
    (a15 : PySem.W.nsIn K mainGlobals "_law_has_reuse" = some (some (.ref f15)))
    (l15 : K.lookup f15 = some ⟨oc15, od15, .func (PySem.W.fnOf "_law_has_reuse" "_law_has_reuse" (defArgs s_law_has_reuse) (defBody s_law_has_reuse) (defScope s_law_has_reuse) .none kV15 dc15 pm15 an15 cd15 ct15), sl15⟩)
    (c15 : PySem.W.codeIn K cd15 "_law_has_reuse" = true)
    (k15 : PySem.W.keepIn K (.ref f15) = true)
    (a16 : PySem.W.nsIn K mainGlobals "_law_has_lapse" = some (some (.ref f16)))
    (l16 : K.lookup f16 = some ⟨oc16, od16, .func (PySem.W.fnOf "_law_has_lapse" "_law_has_lapse" (defArgs s_law_has_lapse) (defBody s_law_has_lapse) (defScope s_law_has_lapse) .none kV16 dc16 pm16 an16 cd16 ct16), sl16⟩)
    (c16 : PySem.W.codeIn K cd16 "_law_has_lapse" = true)
    (k16 : PySem.W.keepIn K (.ref f16) = true)
    (a17 : PySem.W.nsIn K mainGlobals "_law_has_shelve" = some (some (.ref f17)))
    (l17 : K.lookup f17 = some ⟨oc17, od17, .func (PySem.W.fnOf "_law_has_shelve" "_law_has_shelve" (defArgs s_law_has_shelve) (defBody s_law_has_shelve) (defScope s_law_has_shelve) .none kV17 dc17 pm17 an17 cd17 ct17), sl17⟩)
    (c17 : PySem.W.codeIn K cd17 "_law_has_shelve" = true)
    (k17 : PySem.W.keepIn K (.ref f17) = true)
    (a18 : PySem.W.nsIn K mainGlobals "_law_barred_good" = some (some (.ref f18)))
    (l18 : K.lookup f18 = some ⟨oc18, od18, .func (PySem.W.fnOf "_law_barred_good" "_law_barred_good" (defArgs s_law_barred_good) (defBody s_law_barred_good) (defScope s_law_barred_good) .none kV18 dc18 pm18 an18 cd18 ct18), sl18⟩)
    (c18 : PySem.W.codeIn K cd18 "_law_barred_good" = true)
    (k18 : PySem.W.keepIn K (.ref f18) = true)
    (a19 : PySem.W.nsIn K mainGlobals "law" = some (some (.ref f19)))
    (l19 : K.lookup f19 = some ⟨oc19, od19, .func (PySem.W.fnOf "law" "law" (defArgs s_law) (defBody s_law) (defScope s_law) .none kV19 dc19 pm19 an19 cd19 ct19), sl19⟩)
    (c19 : PySem.W.codeIn K cd19 "law" = true)
    (k19 : PySem.W.keepIn K (.ref f19) = true)
    (a20 : PySem.W.findIn K (.ref c_Plan) "__init__" = some (some (.ref f20)))
    (i20 : PySem.W.isFn K (.ref f20) = true)
    (l20 : K.lookup f20 = some ⟨oc20, od20, .func (PySem.W.fnOf "__init__" "Plan.__init__" (defArgs s_Plan_init) (defBody s_Plan_init) (defScope s_Plan_init) .none kV20 dc20 pm20 an20 cd20 ct20), sl20⟩)
    (c20 : PySem.W.codeIn K cd20 "Plan.__init__" = true)
    (k20 : PySem.W.keepIn K (.ref f20) = true)
    (a21 : PySem.W.findIn K (.ref c_Plan) "map_place" = some (some (.ref f21)))
    (i21 : PySem.W.isFn K (.ref f21) = true)
    (l21 : K.lookup f21 = some ⟨oc21, od21, .func (PySem.W.fnOf "map_place" "Plan.map_place" (defArgs s_Plan_map_place) (defBody s_Plan_map_place) (defScope s_Plan_map_place) .none kV21 dc21 pm21 an21 cd21 ct21), sl21⟩)
    (c21 : PySem.W.codeIn K cd21 "Plan.map_place" = true)
    (k21 : PySem.W.keepIn K (.ref f21) = true)
    (a22 : PySem.W.findIn K (.ref c_Plan) "node_block" = some (some (.ref f22)))
    (i22 : PySem.W.isFn K (.ref f22) = true)
    (l22 : K.lookup f22 = some ⟨oc22, od22, .func (PySem.W.fnOf "node_block" "Plan.node_block" (defArgs s_Plan_node_block) (defBody s_Plan_node_block) (defScope s_Plan_node_block) .none kV22 dc22 pm22 an22 cd22 ct22), sl22⟩)
    (c22 : PySem.W.codeIn K cd22 "Plan.node_block" = true)
    (k22 : PySem.W.keepIn K (.ref f22) = true)
    (a23 : PySem.W.findIn K (.ref c_Plan) "data_blocks" = some (some (.ref f23)))
    (i23 : PySem.W.isFn K (.ref f23) = true)
    (l23 : K.lookup f23 = some ⟨oc23, od23, .func (PySem.W.fnOf "data_blocks" "Plan.data_blocks" (defArgs s_Plan_data_blocks) (defBody s_Plan_data_blocks) (defScope s_Plan_data_blocks) .none kV23 dc23 pm23 an23 cd23 ct23), sl23⟩)
    (c23 : PySem.W.codeIn K cd23 "Plan.data_blocks" = true)
    (k23 : PySem.W.keepIn K (.ref f23) = true)
    (a24 : PySem.W.findIn K (.ref c_Image) "__init__" = some (some (.ref f24)))
    (i24 : PySem.W.isFn K (.ref f24) = true)
    (l24 : K.lookup f24 = some ⟨oc24, od24, .func (PySem.W.fnOf "__init__" "Image.__init__" (defArgs s_Image_init) (defBody s_Image_init) (defScope s_Image_init) .none kV24 dc24 pm24 an24 cd24 ct24), sl24⟩)
    (c24 : PySem.W.codeIn K cd24 "Image.__init__" = true)
    (k24 : PySem.W.keepIn K (.ref f24) = true)
    (a25 : PySem.W.findIn K (.ref c_Image) "twin" = some (some (.ref f25)))
    (i25 : PySem.W.isFn K (.ref f25) = true)
    (l25 : K.lookup f25 = some ⟨oc25, od25, .func (PySem.W.fnOf "twin" "Image.twin" (defArgs s_Image_twin) (defBody s_Image_twin) (defScope s_Image_twin) .none kV25 dc25 pm25 an25 cd25 ct25), sl25⟩)
    (c25 : PySem.W.codeIn K cd25 "Image.twin" = true)
    (k25 : PySem.W.keepIn K (.ref f25) = true)
    (a26 : PySem.W.findIn K (.ref c_Image) "begin" = some (some (.ref f26)))
    (i26 : PySem.W.isFn K (.ref f26) = true)
    (l26 : K.lookup f26 = some ⟨oc26, od26, .func (PySem.W.fnOf "begin" "Image.begin" (defArgs s_Image_begin) (defBody s_Image_begin) (defScope s_Image_begin) .none kV26 dc26 pm26 an26 cd26 ct26), sl26⟩)
    (c26 : PySem.W.codeIn K cd26 "Image.begin" = true)
    (k26 : PySem.W.keepIn K (.ref f26) = true)
    (a27 : PySem.W.findIn K (.ref c_Image) "settle" = some (some (.ref f27)))
    (i27 : PySem.W.isFn K (.ref f27) = true)
    (l27 : K.lookup f27 = some ⟨oc27, od27, .func (PySem.W.fnOf "settle" "Image.settle" (defArgs s_Image_settle) (defBody s_Image_settle) (defScope s_Image_settle) .none kV27 dc27 pm27 an27 cd27 ct27), sl27⟩)
    (c27 : PySem.W.codeIn K cd27 "Image.settle" = true)
    (k27 : PySem.W.keepIn K (.ref f27) = true)
    (a28 : PySem.W.findIn K (.ref c_Image) "kind" = some (some (.ref f28)))
    (i28 : PySem.W.isFn K (.ref f28) = true)
    (l28 : K.lookup f28 = some ⟨oc28, od28, .func (PySem.W.fnOf "kind" "Image.kind" (defArgs s_Image_kind) (defBody s_Image_kind) (defScope s_Image_kind) .none kV28 dc28 pm28 an28 cd28 ct28), sl28⟩)
    (c28 : PySem.W.codeIn K cd28 "Image.kind" = true)
    (k28 : PySem.W.keepIn K (.ref f28) = true)
    (a29 : PySem.W.findIn K (.ref c_Image) "free_blocks" = some (some (.ref f29)))
    (i29 : PySem.W.isFn K (.ref f29) = true)
    (l29 : K.lookup f29 = some ⟨oc29, od29, .func (PySem.W.fnOf "free_blocks" "Image.free_blocks" (defArgs s_Image_free_blocks) (defBody s_Image_free_blocks) (defScope s_Image_free_blocks) .none kV29 dc29 pm29 an29 cd29 ct29), sl29⟩)
    (c29 : PySem.W.codeIn K cd29 "Image.free_blocks" = true)
    (k29 : PySem.W.keepIn K (.ref f29) = true)
    (a30 : PySem.W.findIn K (.ref c_Image) "put_kind" = some (some (.ref f30)))
    (i30 : PySem.W.isFn K (.ref f30) = true)
    (l30 : K.lookup f30 = some ⟨oc30, od30, .func (PySem.W.fnOf "put_kind" "Image.put_kind" (defArgs s_Image_put_kind) (defBody s_Image_put_kind) (defScope s_Image_put_kind) .none kV30 dc30 pm30 an30 cd30 ct30), sl30⟩)
    (c30 : PySem.W.codeIn K cd30 "Image.put_kind" = true)
    (k30 : PySem.W.keepIn K (.ref f30) = true)
    (a31 : PySem.W.findIn K (.ref c_Image) "take" = some (some (.ref f31)))
    (i31 : PySem.W.isFn K (.ref f31) = true)
    (l31 : K.lookup f31 = some ⟨oc31, od31, .func (PySem.W.fnOf "take" "Image.take" (defArgs s_Image_take) (defBody s_Image_take) (defScope s_Image_take) .none kV31 dc31 pm31 an31 cd31 ct31), sl31⟩)
    (c31 : PySem.W.codeIn K cd31 "Image.take" = true)
    (k31 : PySem.W.keepIn K (.ref f31) = true)
    (a32 : PySem.W.findIn K (.ref c_Image) "give" = some (some (.ref f32)))
    (i32 : PySem.W.isFn K (.ref f32) = true)
    (l32 : K.lookup f32 = some ⟨oc32, od32, .func (PySem.W.fnOf "give" "Image.give" (defArgs s_Image_give) (defBody s_Image_give) (defScope s_Image_give) .none kV32 dc32 pm32 an32 cd32 ct32), sl32⟩)
    (c32 : PySem.W.codeIn K cd32 "Image.give" = true)
    (k32 : PySem.W.keepIn K (.ref f32) = true)
    (a33 : PySem.W.findCls K (.ref c_Image) (.type "type") "fresh" = some (.get (.builtin "staticmethod.__get__") (.ref ps33) .none (.ref c_Image)))
    (i33 : PySem.W.recIn K ps33 "staticmethod" = some (.ref f33 :: rs33))
    (l33 : K.lookup f33 = some ⟨oc33, od33, .func (PySem.W.fnOf "fresh" "Image.fresh" (defArgs s_Image_fresh) (defBody s_Image_fresh) (defScope s_Image_fresh) .none kV33 dc33 pm33 an33 cd33 ct33), sl33⟩)
    (c33 : PySem.W.codeIn K cd33 "Image.fresh" = true)
    (k33 : PySem.W.keepIn K (.ref f33) = true)
    (a34 : PySem.W.findCls K (.ref c_Image) (.type "type") "of_cells" = some (.get (.builtin "staticmethod.__get__") (.ref ps34) .none (.ref c_Image)))
    (i34 : PySem.W.recIn K ps34 "staticmethod" = some (.ref f34 :: rs34))
    (l34 : K.lookup f34 = some ⟨oc34, od34, .func (PySem.W.fnOf "of_cells" "Image.of_cells" (defArgs s_Image_of_cells) (defBody s_Image_of_cells) (defScope s_Image_of_cells) .none kV34 dc34 pm34 an34 cd34 ct34), sl34⟩)
    (c34 : PySem.W.codeIn K cd34 "Image.of_cells" = true)
    (k34 : PySem.W.keepIn K (.ref f34) = true)
    (a35 : PySem.W.findIn K (.ref c_Book) "__init__" = some (some (.ref f35)))
    (i35 : PySem.W.isFn K (.ref f35) = true)
    (l35 : K.lookup f35 = some ⟨oc35, od35, .func (PySem.W.fnOf "__init__" "RuleSet.__init__" (defArgs s_Book_init) (defBody s_Book_init) (defScope s_Book_init) .none kV35 dc35 pm35 an35 cd35 ct35), sl35⟩)
    (c35 : PySem.W.codeIn K cd35 "RuleSet.__init__" = true)
    (k35 : PySem.W.keepIn K (.ref f35) = true)
    (a36 : PySem.W.findIn K (.ref c_Book) "__contains__" = some (some (.ref f36)))
    (i36 : PySem.W.isFn K (.ref f36) = true)
    (l36 : K.lookup f36 = some ⟨oc36, od36, .func (PySem.W.fnOf "__contains__" "RuleSet.__contains__" (defArgs s_Book_contains) (defBody s_Book_contains) (defScope s_Book_contains) .none kV36 dc36 pm36 an36 cd36 ct36), sl36⟩)
    (c36 : PySem.W.codeIn K cd36 "RuleSet.__contains__" = true)
    (k36 : PySem.W.keepIn K (.ref f36) = true)
    (a37 : PySem.W.findCls K (.ref c_Book) (.type "type") "of_number" = some (.get (.builtin "staticmethod.__get__") (.ref ps37) .none (.ref c_Book)))
    (i37 : PySem.W.recIn K ps37 "staticmethod" = some (.ref f37 :: rs37))
    (l37 : K.lookup f37 = some ⟨oc37, od37, .func (PySem.W.fnOf "of_number" "Book.of_number" (defArgs s_Book_of_number) (defBody s_Book_of_number) (defScope s_Book_of_number) .none kV37 dc37 pm37 an37 cd37 ct37), sl37⟩)
    (c37 : PySem.W.codeIn K cd37 "Book.of_number" = true)
    (k37 : PySem.W.keepIn K (.ref f37) = true)
    (a38 : PySem.W.findIn K (.ref c_Lot) "__init__" = some (some (.ref f38)))
    (i38 : PySem.W.isFn K (.ref f38) = true)
    (l38 : K.lookup f38 = some ⟨oc38, od38, .func (PySem.W.fnOf "__init__" "Lot.__init__" (defArgs s_Lot_init) (defBody s_Lot_init) (defScope s_Lot_init) .none kV38 dc38 pm38 an38 cd38 ct38), sl38⟩)
    (c38 : PySem.W.codeIn K cd38 "Lot.__init__" = true)
    (k38 : PySem.W.keepIn K (.ref f38) = true)
    (a39 : PySem.W.findIn K (.ref c_Lot) "keep_copy" = some (some (.ref f39)))
    (i39 : PySem.W.isFn K (.ref f39) = true)
    (l39 : K.lookup f39 = some ⟨oc39, od39, .func (PySem.W.fnOf "keep_copy" "Lot.keep_copy" (defArgs s_Lot_keep_copy) (defBody s_Lot_keep_copy) (defScope s_Lot_keep_copy) .none kV39 dc39 pm39 an39 cd39 ct39), sl39⟩)
    (c39 : PySem.W.codeIn K cd39 "Lot.keep_copy" = true)
    (k39 : PySem.W.keepIn K (.ref f39) = true)
    (a40 : PySem.W.findIn K (.ref c_Lot) "keep_mark" = some (some (.ref f40)))
    (i40 : PySem.W.isFn K (.ref f40) = true)
    (l40 : K.lookup f40 = some ⟨oc40, od40, .func (PySem.W.fnOf "keep_mark" "Lot.keep_mark" (defArgs s_Lot_keep_mark) (defBody s_Lot_keep_mark) (defScope s_Lot_keep_mark) .none kV40 dc40 pm40 an40 cd40 ct40), sl40⟩)
    (c40 : PySem.W.codeIn K cd40 "Lot.keep_mark" = true)
    (k40 : PySem.W.keepIn K (.ref f40) = true)
    (a41 : PySem.W.findIn K (.ref c_Lot) "used_slots" = some (some (.ref f41)))
    (i41 : PySem.W.isFn K (.ref f41) = true)
    (l41 : K.lookup f41 = some ⟨oc41, od41, .func (PySem.W.fnOf "used_slots" "Lot.used_slots" (defArgs s_Lot_used_slots) (defBody s_Lot_used_slots) (defScope s_Lot_used_slots) .none kV41 dc41 pm41 an41 cd41 ct41), sl41⟩)
    (c41 : PySem.W.codeIn K cd41 "Lot.used_slots" = true)
    (k41 : PySem.W.keepIn K (.ref f41) = true)
    (z_abs : PySem.W.nsIn K mainGlobals "abs" = some none)
    (z_bool : PySem.W.nsIn K mainGlobals "bool" = some none)
    (z_int : PySem.W.nsIn K mainGlobals "int" = some none)
    (z_isinstance : PySem.W.nsIn K mainGlobals "isinstance" = some none)
    (z_len : PySem.W.nsIn K mainGlobals "len" = some none)
    (z_list : PySem.W.nsIn K mainGlobals "list" = some none)
    (z_range : PySem.W.nsIn K mainGlobals "range" = some none)
    (z_reversed : PySem.W.nsIn K mainGlobals "reversed" = some none)
    (z_set : PySem.W.nsIn K mainGlobals "set" = some none)
    (z_sorted : PySem.W.nsIn K mainGlobals "sorted" = some none)
    (z_staticmethod : PySem.W.nsIn K mainGlobals "staticmethod" = some none)
    (z_tuple : PySem.W.nsIn K mainGlobals "tuple" = some none)
    (q_FOLDER : PySem.W.nsIn K mainGlobals "FOLDER" = some (some (.int 2 t_FOLDER)))
    (q_KIND : PySem.W.nsIn K mainGlobals "KIND" = some (some (.int 0 t_KIND)))
    (q_LINKS : PySem.W.nsIn K mainGlobals "LINKS" = some (some (.int 1 t_LINKS)))
    (q_MAKING : PySem.W.nsIn K mainGlobals "MAKING" = some (some (.int 7 t_MAKING)))
    (q_SUMS_BLOCK : PySem.W.nsIn K mainGlobals "SUMS_BLOCK" = some (some (.int 0 t_SUMS_BLOCK)))
    (q_ROOT : PySem.W.nsIn K mainGlobals "ROOT" = some (some (.int 1 t_ROOT)))
    (gx_BadValue : PySem.W.nsIn K mainGlobals "BadValue" = some (some (.ref e_BadValue)))
    (xx_BadValue : PySem.W.excIn K e_BadValue [.type "ValueError", .type "Exception", .type "BaseException", .type "object"] "ValueError.__new__" = true)
    (kx_BadValue : PySem.W.keepIn K (.ref e_BadValue) = true)
    (bx_BadValue : PySem.W.subIn K (.ref e_BadValue) (.type "BaseException") = some true)
    (tx_BadValue : PySem.W.typeIn K (.ref e_BadValue) = some (.type "type"))
    (hg_BadValue : PySem.W.findIn K (.ref e_BadValue) "__getattribute__" = some (some (.builtin "BaseException.__getattribute__")))
    (hk_BadValue : PySem.W.findIn K (.ref e_BadValue) "__getattr__" = some none)
    (hh_BadValue : PySem.W.hasDictIn K e_BadValue = true)
    (ha_BadValue : PySem.W.findIn K (.ref e_BadValue) "__class__" = some (some (.builtin "object.__class__")))
    (hn_BadValue : PySem.W.specialIn K (.builtin "object.__class__") "__get__" = some (some (.builtin "getset_descriptor.__get__")))
    (ht_BadValue : PySem.W.takesIn K (.builtin "object.__class__") = some true)
    (hm_BadValue : PySem.W.mroIn K e_BadValue (.type "object") = some true)
    (gx_OverQuota : PySem.W.nsIn K mainGlobals "OverQuota" = some (some (.ref e_OverQuota)))
    (xx_OverQuota : PySem.W.excIn K e_OverQuota [.type "ValueError", .type "Exception", .type "BaseException", .type "object"] "ValueError.__new__" = true)
    (kx_OverQuota : PySem.W.keepIn K (.ref e_OverQuota) = true)
    (bx_OverQuota : PySem.W.subIn K (.ref e_OverQuota) (.type "BaseException") = some true)
    (tx_OverQuota : PySem.W.typeIn K (.ref e_OverQuota) = some (.type "type"))
    (hg_OverQuota : PySem.W.findIn K (.ref e_OverQuota) "__getattribute__" = some (some (.builtin "BaseException.__getattribute__")))
    (hk_OverQuota : PySem.W.findIn K (.ref e_OverQuota) "__getattr__" = some none)
    (hh_OverQuota : PySem.W.hasDictIn K e_OverQuota = true)
    (ha_OverQuota : PySem.W.findIn K (.ref e_OverQuota) "__class__" = some (some (.builtin "object.__class__")))
    (hn_OverQuota : PySem.W.specialIn K (.builtin "object.__class__") "__get__" = some (some (.builtin "getset_descriptor.__get__")))
    (ht_OverQuota : PySem.W.takesIn K (.builtin "object.__class__") = some true)
    (hm_OverQuota : PySem.W.mroIn K e_OverQuota (.type "object") = some true)
    (gx_BlocksFull : PySem.W.nsIn K mainGlobals "BlocksFull" = some (some (.ref e_BlocksFull)))
    (xx_BlocksFull : PySem.W.excIn K e_BlocksFull [.type "ValueError", .type "Exception", .type "BaseException", .type "object"] "ValueError.__new__" = true)
    (kx_BlocksFull : PySem.W.keepIn K (.ref e_BlocksFull) = true)
    (bx_BlocksFull : PySem.W.subIn K (.ref e_BlocksFull) (.type "BaseException") = some true)
    (tx_BlocksFull : PySem.W.typeIn K (.ref e_BlocksFull) = some (.type "type"))
    (hg_BlocksFull : PySem.W.findIn K (.ref e_BlocksFull) "__getattribute__" = some (some (.builtin "BaseException.__getattribute__")))
    (hk_BlocksFull : PySem.W.findIn K (.ref e_BlocksFull) "__getattr__" = some none)
    (hh_BlocksFull : PySem.W.hasDictIn K e_BlocksFull = true)
    (ha_BlocksFull : PySem.W.findIn K (.ref e_BlocksFull) "__class__" = some (some (.builtin "object.__class__")))
    (hn_BlocksFull : PySem.W.specialIn K (.builtin "object.__class__") "__get__" = some (some (.builtin "getset_descriptor.__get__")))
    (ht_BlocksFull : PySem.W.takesIn K (.builtin "object.__class__") = some true)
    (hm_BlocksFull : PySem.W.mroIn K e_BlocksFull (.type "object") = some true)
    : ∃ T : Txt K mg, mg "law" = some (.ref T.a_law) ∧ (∀ (s : Shared) (v : Value), BindsTo s T.fd_law ⟨[v], []⟩ [("_law_script", v)]) := by
  have F0 := fun_mk (st := s_live_lot) l0 c0 k0
  have b0 := fun_kbn (ps := ["window", "x", "lapse"]) (n := 2) (ks := ["lapse"]) F0 fun _ _ _ _ _ _ us ws h1 h2 => match us, ws, h1, h2 with | [_, _], [_], _, _ => rfl
  have F1 := fun_mk (st := s_barred_blocks) l1 c1 k1
  have b1 := F1.binds (ps := ["book", "committed", "closing", "window"]) fun _ _ _ _ _ _ us hl => match us, hl with | [_, _, _, _], _ => rfl
  have F2 := fun_mk (st := s_law_feed) l2 c2 k2
  have b2 := F2.binds (ps := ["_law_script"]) fun _ _ _ _ _ _ us hl => match us, hl with | [_], _ => rfl
  have F3 := fun_mk (st := s_law_pick) l3 c3 k3
  have b3 := F3.binds (ps := ["_law_feed_here", "_law_limit"]) fun _ _ _ _ _ _ us hl => match us, hl with | [_, _], _ => rfl
  have F4 := fun_mk (st := s_law_moment) l4 c4 k4
  have b4 := F4.binds (ps := ["_law_image", "_law_book"]) fun _ _ _ _ _ _ us hl => match us, hl with | [_, _], _ => rfl
  have F5 := fun_mk (st := s_law_take) l5 c5 k5
  have b5 := F5.binds (ps := ["_law_image", "_law_book", "_law_feed_here", "_law_serial", "_law_wish"]) fun _ _ _ _ _ _ us hl => match us, hl with | [_, _, _, _, _], _ => rfl
  have F6 := fun_mk (st := s_law_give) l6 c6 k6
  have b6 := F6.binds (ps := ["_law_image", "_law_book", "_law_feed_here", "_law_serial"]) fun _ _ _ _ _ _ us hl => match us, hl with | [_, _, _, _], _ => rfl
  have F7 := fun_mk (st := s_law_change) l7 c7 k7
  have b7 := F7.binds (ps := ["_law_image", "_law_book", "_law_feed_here", "_law_serial"]) fun _ _ _ _ _ _ us hl => match us, hl with | [_, _, _, _], _ => rfl
  have F8 := fun_mk (st := s_law_history) l8 c8 k8
  have b8 := F8.binds (ps := ["_law_feed_here", "_law_many"]) fun _ _ _ _ _ _ us hl => match us, hl with | [_, _], _ => rfl
  have F9 := fun_mk (st := s_law_lot) l9 c9 k9
  have b9 := F9.binds (ps := ["_law_feed_here", "_law_number", "_law_first_slot"]) fun _ _ _ _ _ _ us hl => match us, hl with | [_, _, _], _ => rfl
  have F10 := fun_mk (st := s_law_lot_good) l10 c10 k10
  have b10 := F10.binds (ps := ["_law_told"]) fun _ _ _ _ _ _ us hl => match us, hl with | [_], _ => rfl
  have F11 := fun_mk (st := s_law_live) l11 c11 k11
  have b11 := F11.binds (ps := ["_law_lots", "_law_x", "_law_lapsing"]) fun _ _ _ _ _ _ us hl => match us, hl with | [_, _, _], _ => rfl
  have F12 := fun_mk (st := s_law_integer) l12 c12 k12
  have b12 := F12.binds (ps := ["_law_actual", "_law_due"]) fun _ _ _ _ _ _ us hl => match us, hl with | [_, _], _ => rfl
  have F13 := fun_mk (st := s_law_live_good) l13 c13 k13
  have b13 := F13.binds (ps := ["_law_window", "_law_lots"]) fun _ _ _ _ _ _ us hl => match us, hl with | [_, _], _ => rfl
  have F14 := fun_mk (st := s_law_barred) l14 c14 k14
  have b14 := F14.binds (ps := ["_law_lots", "_law_number", "_law_base", "_law_closing"]) fun _ _ _ _ _ _ us hl => match us, hl with | [_, _, _, _], _ => rfl
  have F15 := fun_mk (st := s_law_has_reuse) l15 c15 k15
  have b15 := F15.binds (ps := ["_law_number"]) fun _ _ _ _ _ _ us hl => match us, hl with | [_], _ => rfl
  have F16 := fun_mk (st := s_law_has_lapse) l16 c16 k16
  have b16 := F16.binds (ps := ["_law_number"]) fun _ _ _ _ _ _ us hl => match us, hl with | [_], _ => rfl
  have F17 := fun_mk (st := s_law_has_shelve) l17 c17 k17
  have b17 := F17.binds (ps := ["_law_number"]) fun _ _ _ _ _ _ us hl => match us, hl with | [_], _ => rfl
  have F18 := fun_mk (st := s_law_barred_good) l18 c18 k18
  have b18 := F18.binds (ps := ["_law_window", "_law_lots", "_law_number", "_law_base", "_law_closing"]) fun _ _ _ _ _ _ us hl => match us, hl with | [_, _, _, _, _], _ => rfl
  have F19 := fun_mk (st := s_law) l19 c19 k19
  have b19 := F19.binds (ps := ["_law_script"]) fun _ _ _ _ _ _ us hl => match us, hl with | [_], _ => rfl
  have F20 := fun_mk (st := s_Plan_init) l20 c20 k20
  have b20 := fun_kbn (ps := ["self", "blocks", "nodes", "slots"]) (n := 2) (ks := ["nodes", "slots"]) F20 fun _ _ _ _ _ _ us ws h1 h2 => match us, ws, h1, h2 with | [_, _], [_, _], _, _ => rfl
  have F21 := fun_mk (st := s_Plan_map_place) l21 c21 k21
  have b21 := F21.binds (ps := ["self", "x"]) fun _ _ _ _ _ _ us hl => match us, hl with | [_, _], _ => rfl
  have F22 := fun_mk (st := s_Plan_node_block) l22 c22 k22
  have b22 := F22.binds (ps := ["self", "n"]) fun _ _ _ _ _ _ us hl => match us, hl with | [_, _], _ => rfl
  have F23 := fun_mk (st := s_Plan_data_blocks) l23 c23 k23
  have b23 := F23.binds (ps := ["self"]) fun _ _ _ _ _ _ us hl => match us, hl with | [_], _ => rfl
  have F24 := fun_mk (st := s_Image_init) l24 c24 k24
  have b24 := F24.binds (ps := ["self", "plan"]) fun _ _ _ _ _ _ us hl => match us, hl with | [_, _], _ => rfl
  have F25 := fun_mk (st := s_Image_twin) l25 c25 k25
  have b25 := F25.binds (ps := ["self"]) fun _ _ _ _ _ _ us hl => match us, hl with | [_], _ => rfl
  have F26 := fun_mk (st := s_Image_begin) l26 c26 k26
  have b26 := F26.binds (ps := ["self", "wish", "barred"]) fun _ _ _ _ _ _ us hl => match us, hl with | [_, _, _], _ => rfl
  have F27 := fun_mk (st := s_Image_settle) l27 c27 k27
  have b27 := F27.binds (ps := ["self", "before"]) fun _ _ _ _ _ _ us hl => match us, hl with | [_, _], _ => rfl
  have F28 := fun_mk (st := s_Image_kind) l28 c28 k28
  have b28 := F28.binds (ps := ["self", "x"]) fun _ _ _ _ _ _ us hl => match us, hl with | [_, _], _ => rfl
  have F29 := fun_mk (st := s_Image_free_blocks) l29 c29 k29
  have b29 := F29.binds (ps := ["self"]) fun _ _ _ _ _ _ us hl => match us, hl with | [_], _ => rfl
  have F30 := fun_mk (st := s_Image_put_kind) l30 c30 k30
  have b30 := F30.binds (ps := ["self", "x", "kind"]) fun _ _ _ _ _ _ us hl => match us, hl with | [_, _, _], _ => rfl
  have F31 := fun_mk (st := s_Image_take) l31 c31 k31
  have b31 := F31.binds (ps := ["self", "kind", "owner"]) fun _ _ _ _ _ _ us hl => match us, hl with | [_, _, _], _ => rfl
  have F32 := fun_mk (st := s_Image_give) l32 c32 k32
  have b32 := F32.binds (ps := ["self", "x", "owner"]) fun _ _ _ _ _ _ us hl => match us, hl with | [_, _, _], _ => rfl
  have F33 := fun_mk (st := s_Image_fresh) l33 c33 k33
  have b33 := F33.binds (ps := ["plan"]) fun _ _ _ _ _ _ us hl => match us, hl with | [_], _ => rfl
  have F34 := fun_mk (st := s_Image_of_cells) l34 c34 k34
  have b34 := F34.binds (ps := ["plan", "rows"]) fun _ _ _ _ _ _ us hl => match us, hl with | [_, _], _ => rfl
  have F35 := fun_mk (st := s_Book_init) l35 c35 k35
  have b35 := F35.binds (ps := ["self", "names"]) fun _ _ _ _ _ _ us hl => match us, hl with | [_, _], _ => rfl
  have F36 := fun_mk (st := s_Book_contains) l36 c36 k36
  have b36 := F36.binds (ps := ["self", "name"]) fun _ _ _ _ _ _ us hl => match us, hl with | [_, _], _ => rfl
  have F37 := fun_mk (st := s_Book_of_number) l37 c37 k37
  have b37 := F37.binds (ps := ["number"]) fun _ _ _ _ _ _ us hl => match us, hl with | [_], _ => rfl
  have F38 := fun_mk (st := s_Lot_init) l38 c38 k38
  have b38 := F38.binds (ps := ["self", "number", "image"]) fun _ _ _ _ _ _ us hl => match us, hl with | [_, _, _], _ => rfl
  have F39 := fun_mk (st := s_Lot_keep_copy) l39 c39 k39
  have b39 := F39.binds (ps := ["self", "x", "slot", "write", "identity"]) fun _ _ _ _ _ _ us hl => match us, hl with | [_, _, _, _, _], _ => rfl
  have F40 := fun_mk (st := s_Lot_keep_mark) l40 c40 k40
  have b40 := F40.binds (ps := ["self", "slot", "write", "revokes"]) fun _ _ _ _ _ _ us hl => match us, hl with | [_, _, _, _], _ => rfl
  have F41 := fun_mk (st := s_Lot_used_slots) l41 c41 k41
  have b41 := F41.binds (ps := ["self"]) fun _ _ _ _ _ _ us hl => match us, hl with | [_], _ => rfl
  exact ⟨{
    c_Plan := _
    C_Plan := ⟨pg_Plan, hd_Plan, po_Plan, sa_Plan⟩
    g_Plan := PySem.W.mg_of X G aC_Plan
    kp_Plan := kc_Plan
    mk_Plan := mk_Plan
    n_Plan_blocks := nf_Plan_blocks
    n_Plan_nodes := nf_Plan_nodes
    n_Plan_slots := nf_Plan_slots
    n_Plan_maps := nf_Plan_maps
    n_Plan_first_node := nf_Plan_first_node
    n_Plan_first_data := nf_Plan_first_data
    r_Plan := ⟨rd_Plan, ga_Plan⟩
    t_Plan_FREE := tk_Plan_FREE
    k_Plan_FREE := ⟨cv_Plan_FREE, ⟨_, rfl⟩⟩
    t_Plan_LOGGED := tk_Plan_LOGGED
    k_Plan_LOGGED := ⟨cv_Plan_LOGGED, ⟨_, rfl⟩⟩
    t_Plan_PLAIN := tk_Plan_PLAIN
    k_Plan_PLAIN := ⟨cv_Plan_PLAIN, ⟨_, rfl⟩⟩
    c_Image := _
    C_Image := ⟨pg_Image, hd_Image, po_Image, sa_Image⟩
    g_Image := PySem.W.mg_of X G aC_Image
    kp_Image := kc_Image
    mk_Image := mk_Image
    n_Image_plan := nf_Image_plan
    n_Image_cells := nf_Image_cells
    n_Image_holdings := nf_Image_holdings
    n_Image_stamps := nf_Image_stamps
    n_Image_handles := nf_Image_handles
    n_Image_serial := nf_Image_serial
    n_Image_wish := nf_Image_wish
    n_Image_barred := nf_Image_barred
    r_Image := ⟨rd_Image, ga_Image⟩
    c_Book := _
    C_Book := ⟨pg_Book, hd_Book, po_Book, sa_Book⟩
    g_Book := PySem.W.mg_of X G aC_Book
    kp_Book := kc_Book
    mk_Book := mk_Book
    n_Book_names := nf_Book_names
    n_Book_number := nf_Book_number
    r_Book := ⟨rd_Book, ga_Book⟩
    c_Book_RULES := _
    w_Book_RULES := sqt_w lkc_Book_RULES (by show 12 ≤ sizeLine; decide) (.cons ⟨_, rfl⟩ (.cons ⟨_, rfl⟩ (.cons ⟨_, rfl⟩ (.cons ⟨_, rfl⟩ (.cons ⟨_, rfl⟩ (.cons ⟨_, rfl⟩ (.cons ⟨_, rfl⟩ (.cons ⟨_, rfl⟩ (.cons ⟨_, rfl⟩ (.cons ⟨_, rfl⟩ (.cons ⟨_, rfl⟩ (.cons ⟨_, rfl⟩ .nil))))))))))))
    k_Book_RULES := ⟨cv_Book_RULES, rfl⟩
    ki_Book_RULES := ⟨ci_Book_RULES, rfl, cg_Book_RULES, by decide +kernel⟩
    c_Lot := _
    C_Lot := ⟨pg_Lot, hd_Lot, po_Lot, sa_Lot⟩
    g_Lot := PySem.W.mg_of X G aC_Lot
    kp_Lot := kc_Lot
    mk_Lot := mk_Lot
    n_Lot_number := nf_Lot_number
    n_Lot_image := nf_Lot_image
    n_Lot_copies := nf_Lot_copies
    n_Lot_identities := nf_Lot_identities
    n_Lot_mark := nf_Lot_mark
    n_Lot_mark_slot := nf_Lot_mark_slot
    n_Lot_revokes := nf_Lot_revokes
    a_live_lot := _
    fd_live_lot := _
    F_live_lot := F0
    b_live_lot := b0
    m_live_lot := PySem.W.mg_of X G a0
    a_barred_blocks := _
    fd_barred_blocks := _
    F_barred_blocks := F1
    b_barred_blocks := b1
    m_barred_blocks := PySem.W.mg_of X G a1
    a_law_feed := _
    fd_law_feed := _
    F_law_feed := F2
    b_law_feed := b2
    m_law_feed := PySem.W.mg_of X G a2
    a_law_pick := _
    fd_law_pick := _
    F_law_pick := F3
    b_law_pick := b3
    m_law_pick := PySem.W.mg_of X G a3
    a_law_moment := _
    fd_law_moment := _
    F_law_moment := F4
    b_law_moment := b4
    m_law_moment := PySem.W.mg_of X G a4
    a_law_take := _
    fd_law_take := _
    F_law_take := F5
    b_law_take := b5
    m_law_take := PySem.W.mg_of X G a5
    a_law_give := _
    fd_law_give := _
    F_law_give := F6
    b_law_give := b6
    m_law_give := PySem.W.mg_of X G a6
    a_law_change := _
    fd_law_change := _
    F_law_change := F7
    b_law_change := b7
    m_law_change := PySem.W.mg_of X G a7
    a_law_history := _
    fd_law_history := _
    F_law_history := F8
    b_law_history := b8
    m_law_history := PySem.W.mg_of X G a8
    a_law_lot := _
    fd_law_lot := _
    F_law_lot := F9
    b_law_lot := b9
    m_law_lot := PySem.W.mg_of X G a9
    a_law_lot_good := _
    fd_law_lot_good := _
    F_law_lot_good := F10
    b_law_lot_good := b10
    m_law_lot_good := PySem.W.mg_of X G a10
    a_law_live := _
    fd_law_live := _
    F_law_live := F11
    b_law_live := b11
    m_law_live := PySem.W.mg_of X G a11
    a_law_integer := _
    fd_law_integer := _
    F_law_integer := F12
    b_law_integer := b12
    m_law_integer := PySem.W.mg_of X G a12
    a_law_live_good := _
    fd_law_live_good := _
    F_law_live_good := F13
    b_law_live_good := b13
    m_law_live_good := PySem.W.mg_of X G a13
    a_law_barred := _
    fd_law_barred := _
    F_law_barred := F14
    b_law_barred := b14
    m_law_barred := PySem.W.mg_of X G a14
    a_law_has_reuse := _
    fd_law_has_reuse := _
    F_law_has_reuse := F15
    b_law_has_reuse := b15
    m_law_has_reuse := PySem.W.mg_of X G a15
    a_law_has_lapse := _
    fd_law_has_lapse := _
    F_law_has_lapse := F16
    b_law_has_lapse := b16
    m_law_has_lapse := PySem.W.mg_of X G a16
    a_law_has_shelve := _
    fd_law_has_shelve := _
    F_law_has_shelve := F17
    b_law_has_shelve := b17
    m_law_has_shelve := PySem.W.mg_of X G a17
    a_law_barred_good := _
    fd_law_barred_good := _
    F_law_barred_good := F18
    b_law_barred_good := b18
    m_law_barred_good := PySem.W.mg_of X G a18
    a_law := _
    fd_law := _
    F_law := F19
    b_law := b19
    m_law := PySem.W.mg_of X G a19
    a_Plan_init := _
    fd_Plan_init := _
    F_Plan_init := F20
    b_Plan_init := b20
    m_Plan_init := ⟨mk_Plan, a20, i20, kc_Plan⟩
    a_Plan_map_place := _
    fd_Plan_map_place := _
    F_Plan_map_place := F21
    b_Plan_map_place := b21
    m_Plan_map_place := ⟨a21, i21, k21⟩
    a_Plan_node_block := _
    fd_Plan_node_block := _
    F_Plan_node_block := F22
    b_Plan_node_block := b22
    m_Plan_node_block := ⟨a22, i22, k22⟩
    a_Plan_data_blocks := _
    fd_Plan_data_blocks := _
    F_Plan_data_blocks := F23
    b_Plan_data_blocks := b23
    m_Plan_data_blocks := ⟨a23, i23, k23⟩
    a_Image_init := _
    fd_Image_init := _
    F_Image_init := F24
    b_Image_init := b24
    m_Image_init := ⟨mk_Image, a24, i24, kc_Image⟩
    a_Image_twin := _
    fd_Image_twin := _
    F_Image_twin := F25
    b_Image_twin := b25
    m_Image_twin := ⟨a25, i25, k25⟩
    a_Image_begin := _
    fd_Image_begin := _
    F_Image_begin := F26
    b_Image_begin := b26
    m_Image_begin := ⟨a26, i26, k26⟩
    a_Image_settle := _
    fd_Image_settle := _
    F_Image_settle := F27
    b_Image_settle := b27
    m_Image_settle := ⟨a27, i27, k27⟩
    a_Image_kind := _
    fd_Image_kind := _
    F_Image_kind := F28
    b_Image_kind := b28
    m_Image_kind := ⟨a28, i28, k28⟩
    a_Image_free_blocks := _
    fd_Image_free_blocks := _
    F_Image_free_blocks := F29
    b_Image_free_blocks := b29
    m_Image_free_blocks := ⟨a29, i29, k29⟩
    a_Image_put_kind := _
    fd_Image_put_kind := _
    F_Image_put_kind := F30
    b_Image_put_kind := b30
    m_Image_put_kind := ⟨a30, i30, k30⟩
    a_Image_take := _
    fd_Image_take := _
    F_Image_take := F31
    b_Image_take := b31
    m_Image_take := ⟨a31, i31, k31⟩
    a_Image_give := _
    fd_Image_give := _
    F_Image_give := F32
    b_Image_give := b32
    m_Image_give := ⟨a32, i32, k32⟩
    a_Image_fresh := _
    fd_Image_fresh := _
    F_Image_fresh := F33
    b_Image_fresh := b33
    m_Image_fresh := ⟨⟨rd_Image, ga_Image⟩, ⟨_, _, a33, i33⟩, k33⟩
    a_Image_of_cells := _
    fd_Image_of_cells := _
    F_Image_of_cells := F34
    b_Image_of_cells := b34
    m_Image_of_cells := ⟨⟨rd_Image, ga_Image⟩, ⟨_, _, a34, i34⟩, k34⟩
    a_Book_init := _
    fd_Book_init := _
    F_Book_init := F35
    b_Book_init := b35
    m_Book_init := ⟨mk_Book, a35, i35, kc_Book⟩
    a_Book_contains := _
    fd_Book_contains := _
    F_Book_contains := F36
    b_Book_contains := b36
    m_Book_contains := ⟨a36, i36, k36⟩
    a_Book_of_number := _
    fd_Book_of_number := _
    F_Book_of_number := F37
    b_Book_of_number := b37
    m_Book_of_number := ⟨⟨rd_Book, ga_Book⟩, ⟨_, _, a37, i37⟩, k37⟩
    a_Lot_init := _
    fd_Lot_init := _
    F_Lot_init := F38
    b_Lot_init := b38
    m_Lot_init := ⟨mk_Lot, a38, i38, kc_Lot⟩
    a_Lot_keep_copy := _
    fd_Lot_keep_copy := _
    F_Lot_keep_copy := F39
    b_Lot_keep_copy := b39
    m_Lot_keep_copy := ⟨a39, i39, k39⟩
    a_Lot_keep_mark := _
    fd_Lot_keep_mark := _
    F_Lot_keep_mark := F40
    b_Lot_keep_mark := b40
    m_Lot_keep_mark := ⟨a40, i40, k40⟩
    a_Lot_used_slots := _
    fd_Lot_used_slots := _
    F_Lot_used_slots := F41
    b_Lot_used_slots := b41
    m_Lot_used_slots := ⟨a41, i41, k41⟩
    n_abs := PySem.W.mg_none_of X G z_abs
    n_bool := PySem.W.mg_none_of X G z_bool
    n_int := PySem.W.mg_none_of X G z_int
    n_isinstance := PySem.W.mg_none_of X G z_isinstance
    n_len := PySem.W.mg_none_of X G z_len
    n_list := PySem.W.mg_none_of X G z_list
    n_range := PySem.W.mg_none_of X G z_range
    n_reversed := PySem.W.mg_none_of X G z_reversed
    n_set := PySem.W.mg_none_of X G z_set
    n_sorted := PySem.W.mg_none_of X G z_sorted
    n_staticmethod := PySem.W.mg_none_of X G z_staticmethod
    n_tuple := PySem.W.mg_none_of X G z_tuple
    t_FOLDER := _
    g_FOLDER := PySem.W.mg_of X G q_FOLDER
    t_KIND := _
    g_KIND := PySem.W.mg_of X G q_KIND
    t_LINKS := _
    g_LINKS := PySem.W.mg_of X G q_LINKS
    t_MAKING := _
    g_MAKING := PySem.W.mg_of X G q_MAKING
    t_SUMS_BLOCK := _
    g_SUMS_BLOCK := PySem.W.mg_of X G q_SUMS_BLOCK
    t_ROOT := _
    g_ROOT := PySem.W.mg_of X G q_ROOT
    e_BadValue := e_BadValue
    g_BadValue := PySem.W.mg_of X G gx_BadValue
    x_BadValue := xx_BadValue
    k_BadValue := kx_BadValue
    sb_BadValue := bx_BadValue
    ty_BadValue := tx_BadValue
    is_BadValue := ⟨hg_BadValue, hk_BadValue, bx_BadValue, hh_BadValue, ha_BadValue, hn_BadValue, ht_BadValue, hm_BadValue⟩
    e_OverQuota := e_OverQuota
    g_OverQuota := PySem.W.mg_of X G gx_OverQuota
    x_OverQuota := xx_OverQuota
    k_OverQuota := kx_OverQuota
    sb_OverQuota := bx_OverQuota
    ty_OverQuota := tx_OverQuota
    is_OverQuota := ⟨hg_OverQuota, hk_OverQuota, bx_OverQuota, hh_OverQuota, ha_OverQuota, hn_OverQuota, ht_OverQuota, hm_OverQuota⟩
    e_BlocksFull := e_BlocksFull
    g_BlocksFull := PySem.W.mg_of X G gx_BlocksFull
    x_BlocksFull := xx_BlocksFull
    k_BlocksFull := kx_BlocksFull
    sb_BlocksFull := bx_BlocksFull
    ty_BlocksFull := tx_BlocksFull
    is_BlocksFull := ⟨hg_BlocksFull, hk_BlocksFull, bx_BlocksFull, hh_BlocksFull, ha_BlocksFull, hn_BlocksFull, ht_BlocksFull, hm_BlocksFull⟩ }, PySem.W.mg_of X G a19, fun s v => .of_eq rfl⟩
theorem walk {l : PySem.W.OpenLaw} {q : Program} {loose : List Str} {XP : (Str → Option Value) → Heap → Prop} {YP : World → Heap → Prop} {d : DefRec} {K : Params → PySem.W.Frag} (hn : l.most = some 63) (hdf : d.params.defaults = [])
    (hY : ∀ (w : World) (h : Heap), YP w h → (K w.params).In h)
    (F : ∀ (w : World) (mg : Str → Option Value) (fa : Addr) (h : Heap), (K w.params).In h → h.Ns mainGlobals mg → mg d.name = some (.ref fa) →
      ∃ fd : FuncData, (∀ (s : Shared) (u : Value), BindsTo s fd ⟨[u], []⟩ [("_law_script", u)]) ∧ ∀ base : Heap, (K w.params).In base → base.Ns mainGlobals mg → FnOk l.prog w (K w.params) mg base CX0 7 fa fd ["_law_script"] (spLaw (K w.params))) :
    PySem.W.WalkO q loose XP YP l.row.toRowW d [] (fun f vs => PySem.call f vs) :=
  L2.walk_of (n := 63) (k := 7) (x := "_law_script") (CX := fun _ => CX0) (sp := fun w => spLaw (K w.params)) hn (by decide) hdf ⟨rfl, by decide, by decide⟩ hY F (fun _ _ a ns hl _ hS => ⟨a, ns, rfl, hS, hl, fun _ => rfl⟩) fun _ _ _ _ _ z => z
end Mine
open PySem PySem.W PyProof.Rows
set_option maxRecDepth 100000 in
set_option maxHeartbeats 0 in
theorem PySem.Challenge.cw_lotsandties_k39_copies_that_are_struck_holds : PySem.Challenge.rw_lotsandties_k39_copies_that_are_struck.Holds := by
  w_on; o_law; k_head; (case hw => w_witness2)
  k_fill
  refine Mine.walk (l := PySem.Challenge.rw_lotsandties_k39_copies_that_are_struck) rfl rfl (fun w h Y => PySem.W.kIn_of Y) ?F
  case F =>
    intro w mg fa h KX G hmg
    obtain ⟨T, e1, e2⟩ : ∃ T : Mine.Txt _ mg, mg "law" = some (.ref T.a_law) ∧ (∀ (s : Shared) (v : Value), BindsTo s T.fd_law ⟨[v], []⟩ [("_law_script", v)]) := by
      refine' Mine.txt_mk KX G ?aC_Plan ?pg_Plan ?hd_Plan ?po_Plan ?sa_Plan ?mk_Plan ?kc_Plan ?nf_Plan_blocks ?nf_Plan_nodes ?nf_Plan_slots ?nf_Plan_maps ?nf_Plan_first_node ?nf_Plan_first_data ?rd_Plan ?ga_Plan ?cv_Plan_FREE ?cv_Plan_LOGGED ?cv_Plan_PLAIN ?aC_Image ?pg_Image ?hd_Image ?po_Image ?sa_Image ?mk_Image ?kc_Image ?nf_Image_plan ?nf_Image_cells ?nf_Image_holdings ?nf_Image_stamps ?nf_Image_handles ?nf_Image_serial ?nf_Image_wish ?nf_Image_barred ?rd_Image ?ga_Image ?aC_Book ?pg_Book ?hd_Book ?po_Book ?sa_Book ?mk_Book ?kc_Book ?nf_Book_names ?nf_Book_number ?rd_Book ?ga_Book ?lkc_Book_RULES ?cv_Book_RULES ?ci_Book_RULES ?cg_Book_RULES ?aC_Lot ?pg_Lot ?hd_Lot ?po_Lot ?sa_Lot ?mk_Lot ?kc_Lot ?nf_Lot_number ?nf_Lot_image ?nf_Lot_copies ?nf_Lot_identities ?nf_Lot_mark ?nf_Lot_mark_slot ?nf_Lot_revokes ?a0 ?l0 ?c0 ?k0 ?a1 ?l1 ?c1 ?k1 ?a2 ?l2 ?c2 ?k2 ?a3 ?l3 ?c3 ?k3 ?a4 ?l4 ?c4 ?k4 ?a5 ?l5 ?c5 ?k5 ?a6 ?l6 ?c6 ?k6 ?a7 ?l7 ?c7 ?k7 ?a8 ?l8 ?c8 ?k8 ?a9 ?l9 ?c9 ?k9 ?a10 ?l10 ?c10 ?k10 ?a11 ?l11 ?c11 ?k11 ?a12 ?l12 ?c12 ?k12 ?a13 ?l13 ?c13 ?k13 ?a14 ?l14 ?c14 ?k14 ?a15 ?l15 ?c15 ?k15 ?a16 ?l16 ?c16 ?k16 ?a17 ?l17 ?c17 ?k17 ?a18 ?l18 ?c18 ?k18 ?a19 ?l19 ?c19 ?k19 ?a20 ?i20 ?l20 ?c20 ?k20 ?a21 ?i21 ?l21 ?c21 ?k21 ?a22 ?i22 ?l22 ?c22 ?k22 ?a23 ?i23 ?l23 ?c23 ?k23 ?a24 ?i24 ?l24 ?c24 ?k24 ?a25 ?i25 ?l25 ?c25 ?k25 ?a26 ?i26 ?l26 ?c26 ?k26 ?a27 ?i27 ?l27 ?c27 ?k27 ?a28 ?i28 ?l28 ?c28 ?k28 ?a29 ?i29 ?l29 ?c29 ?k29 ?a30 ?i30 ?l30 ?c30 ?k30 ?a31 ?i31 ?l31 ?c31 ?k31 ?a32 ?i32 ?l32 ?c32 ?k32 ?a33 ?i33 ?l33 ?c33 ?k33 ?a34 ?i34 ?l34 ?c34 ?k34 ?a35 ?i35 ?l35 ?c35 ?k35 ?a36 ?i36 ?l36 ?c36 ?k36 ?a37 ?i37 ?l37 ?c37 ?k37 ?a38 ?i38 ?l38 ?c38 ?k38 ?a39 ?i39 ?l39 ?c39 ?k39 ?a40 ?i40 ?l40 ?c40 ?k40 ?a41 ?i41 ?l41 ?c41 ?k41 ?z_abs ?z_bool ?z_int ?z_isinstance ?z_len ?z_list ?z_range ?z_reversed ?z_set ?z_sorted ?z_staticmethod ?z_tuple ?q_FOLDER ?q_KIND ?q_LINKS ?q_MAKING ?q_SUMS_BLOCK ?q_ROOT ?gx_BadValue ?xx_BadValue ?kx_BadValue ?bx_BadValue ?tx_BadValue ?hg_BadValue ?hk_BadValue ?hh_BadValue ?ha_BadValue ?hn_BadValue ?ht_BadValue ?hm_BadValue ?gx_OverQuota ?xx_OverQuota ?kx_OverQuota ?bx_OverQuota ?tx_OverQuota ?hg_OverQuota ?hk_OverQuota ?hh_OverQuota ?ha_OverQuota ?hn_OverQuota ?ht_OverQuota ?hm_OverQuota ?gx_BlocksFull ?xx_BlocksFull ?kx_BlocksFull ?bx_BlocksFull ?tx_BlocksFull ?hg_BlocksFull ?hk_BlocksFull ?hh_BlocksFull ?ha_BlocksFull ?hn_BlocksFull ?ht_BlocksFull ?hm_BlocksFull
      (case aC_Plan => k_is); (case pg_Plan => k_is); (case hd_Plan => k_is); (case po_Plan => k_is); (case sa_Plan => k_is); (case mk_Plan => k_is)
      (case kc_Plan => k_is); (case nf_Plan_blocks => k_is); (case nf_Plan_nodes => k_is); (case nf_Plan_slots => k_is); (case nf_Plan_maps => k_is); (case nf_Plan_first_node => k_is)
      (case nf_Plan_first_data => k_is); (case rd_Plan => k_is); (case ga_Plan => k_is); (case cv_Plan_FREE => k_is); (case cv_Plan_LOGGED => k_is); (case cv_Plan_PLAIN => k_is)
      (case aC_Image => k_is); (case pg_Image => k_is); (case hd_Image => k_is); (case po_Image => k_is); (case sa_Image => k_is); (case mk_Image => k_is)
      (case kc_Image => k_is); (case nf_Image_plan => k_is); (case nf_Image_cells => k_is); (case nf_Image_holdings => k_is); (case nf_Image_stamps => k_is); (case nf_Image_handles => k_is)
      (case nf_Image_serial => k_is); (case nf_Image_wish => k_is); (case nf_Image_barred => k_is); (case rd_Image => k_is); (case ga_Image => k_is); (case aC_Book => k_is)
      (case pg_Book => k_is); (case hd_Book => k_is); (case po_Book => k_is); (case sa_Book => k_is); (case mk_Book => k_is); (case kc_Book => k_is)
      (case nf_Book_names => k_is); (case nf_Book_number => k_is); (case rd_Book => k_is); (case ga_Book => k_is); (case cv_Book_RULES => k_is); (case ci_Book_RULES => k_is)
      (case cg_Book_RULES => k_is); (case aC_Lot => k_is); (case pg_Lot => k_is); (case hd_Lot => k_is); (case po_Lot => k_is); (case sa_Lot => k_is)
      (case mk_Lot => k_is); (case kc_Lot => k_is); (case nf_Lot_number => k_is); (case nf_Lot_image => k_is); (case nf_Lot_copies => k_is); (case nf_Lot_identities => k_is)
      (case nf_Lot_mark => k_is); (case nf_Lot_mark_slot => k_is); (case nf_Lot_revokes => k_is); (case a0 => k_is); (case l0 => k_is); (case c0 => k_is)
      (case k0 => k_is); (case a1 => k_is); (case l1 => k_is); (case c1 => k_is); (case k1 => k_is); (case a2 => k_is)
      (case l2 => k_is); (case c2 => k_is); (case k2 => k_is); (case a3 => k_is); (case l3 => k_is); (case c3 => k_is)
      (case k3 => k_is); (case a4 => k_is); (case l4 => k_is); (case c4 => k_is); (case k4 => k_is); (case a5 => k_is)
      (case l5 => k_is); (case c5 => k_is); (case k5 => k_is); (case a6 => k_is); (case l6 => k_is); (case c6 => k_is)
      (case k6 => k_is); (case a7 => k_is); (case l7 => k_is); (case c7 => k_is); (case k7 => k_is); (case a8 => k_is)
      (case l8 => k_is); (case c8 => k_is); (case k8 => k_is); (case a9 => k_is); (case l9 => k_is); (case c9 => k_is)
      (case k9 => k_is); (case a10 => k_is); (case l10 => k_is); (case c10 => k_is); (case k10 => k_is); (case a11 => k_is)
      (case l11 => k_is); (case c11 => k_is); (case k11 => k_is); (case a12 => k_is); (case l12 => k_is); (case c12 => k_is)
      (case k12 => k_is); (case a13 => k_is); (case l13 => k_is); (case c13 => k_is); (case k13 => k_is); (case a14 => k_is)
      (case l14 => k_is); (case c14 => k_is); (case k14 => k_is); (case a15 => k_is); (case l15 => k_is); (case c15 => k_is)
      (case k15 => k_is); (case a16 => k_is); (case l16 => k_is); (case c16 => k_is); (case k16 => k_is); (case a17 => k_is)
      (case l17 => k_is); (case c17 => k_is); (case k17 => k_is); (case a18 => k_is); (case l18 => k_is); (case c18 => k_is)
      (case k18 => k_is); (case a19 => k_is); (case l19 => k_is); (case c19 => k_is); (case k19 => k_is); (case a20 => k_is)
      (case i20 => k_is); (case l20 => k_is); (case c20 => k_is); (case k20 => k_is); (case a21 => k_is); (case i21 => k_is)
      (case l21 => k_is); (case c21 => k_is); (case k21 => k_is); (case a22 => k_is); (case i22 => k_is); (case l22 => k_is)
      (case c22 => k_is); (case k22 => k_is); (case a23 => k_is); (case i23 => k_is); (case l23 => k_is); (case c23 => k_is)
      (case k23 => k_is); (case a24 => k_is); (case i24 => k_is); (case l24 => k_is); (case c24 => k_is); (case k24 => k_is)
      (case a25 => k_is); (case i25 => k_is); (case l25 => k_is); (case c25 => k_is); (case k25 => k_is); (case a26 => k_is)
      (case i26 => k_is); (case l26 => k_is); (case c26 => k_is); (case k26 => k_is); (case a27 => k_is); (case i27 => k_is)
      (case l27 => k_is); (case c27 => k_is); (case k27 => k_is); (case a28 => k_is); (case i28 => k_is); (case l28 => k_is)
      (case c28 => k_is); (case k28 => k_is); (case a29 => k_is); (case i29 => k_is); (case l29 => k_is); (case c29 => k_is)
      (case k29 => k_is); (case a30 => k_is); (case i30 => k_is); (case l30 => k_is); (case c30 => k_is); (case k30 => k_is)
      (case a31 => k_is); (case i31 => k_is); (case l31 => k_is); (case c31 => k_is); (case k31 => k_is); (case a32 => k_is)
      (case i32 => k_is); (case l32 => k_is); (case c32 => k_is); (case k32 => k_is); (case a33 => k_is); (case i33 => k_is)
      (case l33 => k_is); (case c33 => k_is); (case k33 => k_is); (case a34 => k_is); (case i34 => k_is); (case l34 => k_is)
      (case c34 => k_is); (case k34 => k_is); (case a35 => k_is); (case i35 => k_is); (case l35 => k_is); (case c35 => k_is)
      (case k35 => k_is); (case a36 => k_is); (case i36 => k_is); (case l36 => k_is); (case c36 => k_is); (case k36 => k_is)
      (case a37 => k_is); (case i37 => k_is); (case l37 => k_is); (case c37 => k_is); (case k37 => k_is); (case a38 => k_is)
      (case i38 => k_is); (case l38 => k_is); (case c38 => k_is); (case k38 => k_is); (case a39 => k_is); (case i39 => k_is)
      (case l39 => k_is); (case c39 => k_is); (case k39 => k_is); (case a40 => k_is); (case i40 => k_is); (case l40 => k_is)
      (case c40 => k_is); (case k40 => k_is); (case a41 => k_is); (case i41 => k_is); (case l41 => k_is); (case c41 => k_is)
      (case k41 => k_is); (case z_abs => k_is); (case z_bool => k_is); (case z_int => k_is); (case z_isinstance => k_is); (case z_len => k_is)
      (case z_list => k_is); (case z_range => k_is); (case z_reversed => k_is); (case z_set => k_is); (case z_sorted => k_is); (case z_staticmethod => k_is)
      (case z_tuple => k_is); (case q_FOLDER => k_is); (case q_KIND => k_is); (case q_LINKS => k_is); (case q_MAKING => k_is); (case q_SUMS_BLOCK => k_is)
      (case q_ROOT => k_is); (case gx_BadValue => k_is); (case xx_BadValue => k_exc); (case kx_BadValue => k_is); (case bx_BadValue => k_is); (case tx_BadValue => k_is)
      (case hg_BadValue => k_is); (case hk_BadValue => k_is); (case hh_BadValue => k_is); (case ha_BadValue => k_is); (case hn_BadValue => k_is); (case ht_BadValue => k_is)
      (case hm_BadValue => k_is); (case gx_OverQuota => k_is); (case xx_OverQuota => k_exc); (case kx_OverQuota => k_is); (case bx_OverQuota => k_is); (case tx_OverQuota => k_is)
      (case hg_OverQuota => k_is); (case hk_OverQuota => k_is); (case hh_OverQuota => k_is); (case ha_OverQuota => k_is); (case hn_OverQuota => k_is); (case ht_OverQuota => k_is)
      (case hm_OverQuota => k_is); (case gx_BlocksFull => k_is); (case xx_BlocksFull => k_exc); (case kx_BlocksFull => k_is); (case bx_BlocksFull => k_is); (case tx_BlocksFull => k_is)
      (case hg_BlocksFull => k_is); (case hk_BlocksFull => k_is); (case hh_BlocksFull => k_is); (case ha_BlocksFull => k_is); (case hn_BlocksFull => k_is); (case ht_BlocksFull => k_is)
      (case hm_BlocksFull => k_is); (case lkc_Book_RULES => k_is)
    have e := hmg.symm.trans e1
    cases e
    exact ⟨T.fd_law, e2, fun base _ _ => Mine.ok_law T⟩

