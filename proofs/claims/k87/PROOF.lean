import PyProof.Rows.All
import Wide.All
import OpenK.AllK
import Wide.FinOn
import HandS.ForMost
import HandS.More
import HandS.Codes
import HandS.TupLe
import HandS.IsInst
import HandS.Walk
import HandS.Deep
import HandS.MakeKwOnly
import HandS.Style
import HandS.ClsMeth
import HandS.DictComp
import HandS.Exc
import HandS.ExcOwn
import HandS.TryOnly
import HandS.ExcIs
import HandS.WordsExc
import HandS.CallSlots
import HandS.DeepEq
import HandS.DictTup
import HandS.Property
import HandS.TupAny
import HandS.TupMul
import HandS.NoneIn
import HandS.SortInts
import HandS.SortRule
import HandS.Rev
import HandS.RevRange
import HandS.SetFor
import HandS.TryMany
import HandS.SuiteRaise
import HandS.Star
import HandS.HotCalls
import HandS.Hot
import KE.KExcRaise
import KE.GoesEnum
import KE.DataFind
import KE.KDictDisplayH
import HandS.CallLocal
import HandS.StrMore
import HandS.StrSplit
import HandS.IterVal
import HandS.FStr
import PySem.Challenge.RW_lotsandties_k87_books
set_option Elab.async false
set_option linter.all false
set_option maxRecDepth 100000
set_option maxHeartbeats 4000000
namespace Mine
open PySem L2
/-! Trees: what an object of the heap holds, without addresses. own: this place alone has it and may change it; frz: nobody changes it any more;
lnt: lent for the time of this def. -/
inductive Ow | own | frz | lnt
  deriving DecidableEq
/-- the written part; the classes by number, their fields' names in the order in which they come; the errors' classes by number -/
structure KC where
  K : PySem.W.Frag
  P : Program
  w : World
  ct : Nat → Addr
  nm : Nat → List Str
  et : Nat → Addr
/-- ins n k: an instance of class n with its first k fields -/
inductive Nk | lst | tup | ins (n k : Nat) | dct (ks : List Key) | dcT (ks : List (List Key)) | sti (l : List Int)
  deriving DecidableEq
inductive Tr | any | a (v : V) | nd (k : Nk) (o : Ow) (ts : List Tr)
def eff : Ow → Ow → Ow
  | .own, o => o
  | .lnt, .frz => .frz
  | .lnt, _ => .lnt
  | .frz, _ => .frz
mutual
/-- a child as seen from its parent; a tuple hands the flag on to its items -/
def kid : Ow → Tr → Tr
  | o, .nd .tup o' ts => .nd .tup .own (kidL (eff o o') ts)
  | o, .nd .lst o' ts => .nd .lst (eff o o') ts
  | o, .nd (.ins n k) o' ts => .nd (.ins n k) (eff o o') ts
  | o, .nd (.dct ks) o' ts => .nd (.dct ks) (eff o o') ts
  | o, .nd (.dcT ks) o' ts => .nd (.dcT ks) (eff o o') ts
  | o, .nd (.sti l) o' ts => .nd (.sti l) (eff o o') ts
  | _, .any => .any
  | _, .a v => .a v
def kidL : Ow → List Tr → List Tr
  | _, [] => []
  | o, t :: ts => kid o t :: kidL o ts
end
mutual
/-- may be read twice: nothing in it is own -/
def cp : Tr → Bool
  | .any => false
  | .a _ => true
  | .nd .tup .own ts => cpL ts
  | .nd _ .own _ => false
  | .nd _ _ _ => true
def cpL : List Tr → Bool
  | [] => true
  | t :: ts => cp t && cpL ts
end
mutual
/-- may leave the def: nothing in it is lent -/
def esc : Tr → Bool
  | .any => true
  | .a _ => true
  | .nd .tup .own ts => escL ts
  | .nd _ .lnt _ => false
  | .nd _ _ _ => true
def escL : List Tr → Bool
  | [] => true
  | t :: ts => esc t && escL ts
end
abbrev Ps := Addr → Prop
structure Zn where
  fz : Ps
  ln : Ps
def TSK (K : KC) (H H' : Hp) : Prop := ∀ a xs, H a = some (.tup xs) → H' a = some (.tup xs)
/-- a tuple that is a key: a new one or one of the written part -/
def KeyAt (K : PySem.W.Frag) (H : Hp) (b : Addr) (k : List Key) : Prop := H b = some (.tup (k.map kV)) ∨ SqT K (fun _ => none) b (k.map kV)
/-- a dict with tuples as keys: the keys, their places, the values -/
def dphi (P : Program) (w : World) (a : Addr) (l : List (List Key × Addr × V)) : Heap → Prop := fun h => ∃ xs : List (List Key × Addr × Value),
  Paired (fun (p : List Key × Addr × V) (q : List Key × Addr × Value) => p.1 = q.1 ∧ p.2.1 = q.2.1 ∧ RelV p.2.2 q.2.2) l xs ∧
  ∃ o es ep, h.get? a = some o ∧ o.ExactDict ∧ o.data = .dict es ep ∧ es.toList = xs.map (entryOfKey (tupleKind (mixKind P w)))
def ObjAt (K : KC) : Nk → Ow → Hp → Addr → List V → Prop
  | .lst, _, H, a, vs => H a = some (.lst vs)
  | .tup, _, H, a, vs => H a = some (.tup vs) ∨ SqT K.K (fun _ => none) a vs
  | .ins n k, _, H, a, vs => ((K.nm n).take k).length = vs.length ∧ ∃ dx, H a = some (.ins (K.ct n) dx (((K.nm n).take k).zip vs))
  | .dct ks, .own, H, a, vs => ks.length = vs.length ∧ H a = some (.dK (ks.zip vs))
  | .dct ks, _, H, a, vs => ks.length = vs.length ∧ Rd H a (.dK (ks.zip vs))
  | .dcT ks, _, H, a, vs => ∃ bs : List Addr, ks.length = vs.length ∧ bs.length = vs.length ∧ ks.Nodup ∧ vs.length ≤ sizeLine ∧ (a == sysModules) = false ∧ (∀ p ∈ ks.zip bs, KeyAt K.K H p.2 p.1) ∧ H a = some (.ext (dphi K.P K.w a (ks.zip (bs.zip vs))))
  | .sti l, _, H, a, vs => vs = [] ∧ l.Nodup ∧ H a = some (.set (fun i => decide (i ∈ l)) l.length)
/-- a node's own address and what it owns -/
def Nod (Z : Zn) : Nk → Ow → Addr → List Tr → Ps → Ps → Prop
  | .tup, .own, _, _, Ψ, Φ => ∀ b, Φ b ↔ Ψ b
  | .tup, _, _, _, _, Φ => ∀ b, ¬ Φ b
  | _, .own, a, ts, Ψ, Φ => (∀ b, Φ b ↔ b = a ∨ Ψ b) ∧ ¬ Ψ a ∧ escL ts = true
  | _, .frz, a, _, _, Φ => (∀ b, ¬ Φ b) ∧ Z.fz a
  | _, .lnt, a, _, _, Φ => (∀ b, ¬ Φ b) ∧ Z.ln a
mutual
def Rep (K : KC) (Z : Zn) (H : Hp) : Ow → Tr → V → Ps → Prop
  | _, .any, _, Φ => ∀ b, ¬ Φ b
  | _, .a u, v, Φ => v = u ∧ ∀ b, ¬ Φ b
  | m, .nd k o ts, v, Φ => ∃ a vs Ψ, v = .ref a ∧ ObjAt K k (eff m o) H a vs ∧ RepL K Z H (eff m o) ts vs Ψ ∧ Nod Z k (eff m o) a ts Ψ Φ
def RepL (K : KC) (Z : Zn) (H : Hp) : Ow → List Tr → List V → Ps → Prop
  | _, [], vs, Φ => vs = [] ∧ ∀ b, ¬ Φ b
  | m, t :: ts, vs, Φ => ∃ v vs' Φ1 Φ2, vs = v :: vs' ∧ Rep K Z H m t v Φ1 ∧ RepL K Z H m ts vs' Φ2 ∧ (∀ b, ¬ (Φ1 b ∧ Φ2 b)) ∧ ∀ b, Φ b ↔ Φ1 b ∨ Φ2 b
end
section
variable {K : KC} {Z Z' : Zn} {H H' : Hp} {m : Ow} {t : Tr} {ts : List Tr} {v : V} {vs : List V} {Φ Ψ : Ps} {a : Addr} {k : Nk} {o : Ow}
theorem eff_nown {m o : Ow} (h : m ≠ .own) : eff m o ≠ .own := by cases m <;> cases o <;> simp_all [eff]
/-- what is seen stays, where what it rests on stays -/
structure Kp (K : KC) (Z Z' : Zn) (H H' : Hp) (Φ : Ps) : Prop where
  fz : ∀ b, Z.fz b → Z'.fz b
  ln : ∀ b, Z.ln b → Z'.ln b
  ob : ∀ b ob, (Φ b ∨ Z.fz b ∨ Z.ln b) → H b = some ob → H' b = some ob
  tp : TSK K H H'
theorem Kp.sub {Ψ : Ps} (h : Kp K Z Z' H H' Φ) (s : ∀ b, Ψ b → Φ b) : Kp K Z Z' H H' Ψ := ⟨h.fz, h.ln, fun b ob q e => h.ob b ob (by grind) e, h.tp⟩
theorem Kp.refl (K : KC) (Z : Zn) (H : Hp) (Φ : Ps) : Kp K Z Z H H Φ := ⟨fun _ h => h, fun _ h => h, fun _ _ _ h => h, fun _ _ h => h⟩
theorem ObjAt.fr (h : ObjAt K k o H a vs) (hk : k ≠ .tup → ∀ ob, H a = some ob → H' a = some ob) (tp : TSK K H H') : ObjAt K k o H' a vs := by
  cases k with
  | tup => exact h.imp (tp _ _) id
  | lst => exact hk (by simp) _ h
  | ins n j =>
    obtain ⟨l, dx, e⟩ := h
    exact ⟨l, dx, hk (by simp) _ e⟩
  | dct ks =>
    cases o with
    | own => exact ⟨h.1, hk (by simp) _ h.2⟩
    | frz => exact ⟨h.1, h.2.imp (hk (by simp) _) fun ⟨ob, e⟩ => ⟨ob, hk (by simp) _ e⟩⟩
    | lnt => exact ⟨h.1, h.2.imp (hk (by simp) _) fun ⟨ob, e⟩ => ⟨ob, hk (by simp) _ e⟩⟩
  | dcT ks =>
    obtain ⟨bs, h1, h2, h3, h4, h5, h6, h7⟩ := h
    exact ⟨bs, h1, h2, h3, h4, h5, fun p hp => (h6 p hp).imp (tp _ _) id, hk (by simp) _ h7⟩
  | sti l => exact ⟨h.1, h.2.1, hk (by simp) _ h.2.2⟩
/-- what is seen of a thing, whatever the flag -/
theorem ObjAt.weak {o' : Ow} (h : ObjAt K k o H a vs) (ho : o' ≠ .own) : ObjAt K k o' H a vs := by
  cases k with
  | dct ks => cases o <;> cases o' <;> first | exact absurd rfl ho | exact h | exact ⟨h.1, .inl h.2⟩
  | _ => exact h
theorem ObjAt.rd {ks : List Key} (h : ObjAt K (.dct ks) o H a vs) : ks.length = vs.length ∧ Rd H a (.dK (ks.zip vs)) := by
  cases o
  · exact ⟨h.1, .inl h.2⟩
  · exact h
  · exact h
theorem Nod.zone (h : Nod Z k o a ts Ψ Φ) (hk : k ≠ .tup) : (o = .own ∧ Φ a) ∨ Z.fz a ∨ Z.ln a := by
  cases k <;> cases o <;> simp_all [Nod]
theorem Nod.mono (h : Nod Z k o a ts Ψ Φ) (f : ∀ b, Z.fz b → Z'.fz b) (l : ∀ b, Z.ln b → Z'.ln b) : Nod Z' k o a ts Ψ Φ := by
  cases k <;> cases o <;> simp_all [Nod]
theorem Nod.sub (h : Nod Z k o a ts Ψ Φ) (ho : o = .own) : ∀ b, Ψ b → Φ b := by
  cases k <;> cases o <;> simp_all [Nod]
/-- what is not own owns nothing -/
theorem Rep.no0 : ∀ (t : Tr) {m : Ow} {v : V} {Φ : Ps}, m ≠ .own → Rep K Z H m t v Φ → ∀ b, ¬ Φ b
  | .any, _, _, _, _, h => h
  | .a _, _, _, _, _, h => h.2
  | .nd k o ts, m, v, Φ, hm, h => by
    obtain ⟨a, vs, Ψ, _, _, hl, hn⟩ := h
    have e := eff_nown (o := o) hm
    cases k <;> cases eo : eff m o <;> simp_all [Nod]
theorem RepL.no0 : ∀ (ts : List Tr) {m : Ow} {vs : List V} {Φ : Ps}, m ≠ .own → RepL K Z H m ts vs Φ → ∀ b, ¬ Φ b
  | [], _, _, _, _, h => h.2
  | t :: ts, m, vs, Φ, hm, h => by
    obtain ⟨v, vs', Φ1, Φ2, e, h1, h2, d, u⟩ := h
    intro b q
    rcases (u b).mp q with z | z
    · exact Rep.no0 t hm h1 b z
    · exact RepL.no0 ts hm h2 b z
mutual
theorem Rep.fr : ∀ (t : Tr) {m : Ow} {v : V} {Φ : Ps}, Rep K Z H m t v Φ → Kp K Z Z' H H' Φ → Rep K Z' H' m t v Φ
  | .any, _, _, _, h, _ => h
  | .a _, _, _, _, h, _ => h
  | .nd k o ts, m, v, Φ, h, kp => by
    obtain ⟨a, vs, Ψ, e, ho, hl, hn⟩ := h
    refine ⟨a, vs, Ψ, e, ho.fr (fun hk ob q => kp.ob a ob ?_ q) kp.tp, RepL.fr ts hl (kp.sub ?_), hn.mono kp.fz kp.ln⟩
    · rcases hn.zone hk with z | z
      · exact .inl z.2
      · exact .inr z
    · intro b hb
      by_cases eo : eff m o = .own
      · exact hn.sub eo b hb
      · exact absurd hb (RepL.no0 ts eo hl b)
theorem RepL.fr : ∀ (ts : List Tr) {m : Ow} {vs : List V} {Φ : Ps}, RepL K Z H m ts vs Φ → Kp K Z Z' H H' Φ → RepL K Z' H' m ts vs Φ
  | [], _, _, _, h, _ => h
  | t :: ts, m, vs, Φ, h, kp => by
    obtain ⟨v, vs', Φ1, Φ2, e, h1, h2, d, u⟩ := h
    exact ⟨v, vs', Φ1, Φ2, e, Rep.fr t h1 (kp.sub fun b q => (u b).mpr (.inl q)), RepL.fr ts h2 (kp.sub fun b q => (u b).mpr (.inr q)), d, u⟩
end
mutual
theorem rep_kid : ∀ {t : Tr} {m : Ow} {v : V} {Φ : Ps}, Rep K Z H .own (kid m t) v Φ ↔ Rep K Z H m t v Φ
  | .any, _, _, _ => Iff.rfl
  | .a _, _, _, _ => Iff.rfl
  | .nd .lst o ts, m, v, Φ => by simp [kid, Rep, eff]
  | .nd (.ins _ _) o ts, m, v, Φ => by simp [kid, Rep, eff]
  | .nd (.dct _) o ts, m, v, Φ => by simp [kid, Rep, eff]
  | .nd (.dcT _) o ts, m, v, Φ => by simp [kid, Rep, eff]
  | .nd (.sti _) o ts, m, v, Φ => by simp [kid, Rep, eff]
  | .nd .tup o ts, m, v, Φ => by
    show (∃ a vs Ψ, v = .ref a ∧ ObjAt K .tup .own H a vs ∧ RepL K Z H .own (kidL (eff m o) ts) vs Ψ ∧ Nod Z .tup .own a (kidL (eff m o) ts) Ψ Φ) ↔ (∃ a vs Ψ, v = .ref a ∧ ObjAt K .tup (eff m o) H a vs ∧ RepL K Z H (eff m o) ts vs Ψ ∧ Nod Z .tup (eff m o) a ts Ψ Φ)
    constructor
    · rintro ⟨a, vs, Ψ, e, ho, hl, hn⟩
      have hl := (repL_kid (ts := ts) (m := eff m o)).mp hl
      refine ⟨a, vs, Ψ, e, ho, hl, ?_⟩
      have hn : ∀ b, Φ b ↔ Ψ b := hn
      cases eo : eff m o with
      | own => exact hn
      | frz => exact fun b q => RepL.no0 ts (by rw [eo]; simp) hl b ((hn b).mp q)
      | lnt => exact fun b q => RepL.no0 ts (by rw [eo]; simp) hl b ((hn b).mp q)
    · rintro ⟨a, vs, Ψ, e, ho, hl, hn⟩
      refine ⟨a, vs, Ψ, e, ho, (repL_kid (ts := ts) (m := eff m o)).mpr hl, ?_⟩
      show ∀ b, Φ b ↔ Ψ b
      cases eo : eff m o with
      | own =>
        rw [eo] at hn
        exact hn
      | frz =>
        rw [eo] at hn hl
        exact fun b => ⟨fun q => absurd q (hn b), fun q => absurd q (RepL.no0 ts (by simp) hl b)⟩
      | lnt =>
        rw [eo] at hn hl
        exact fun b => ⟨fun q => absurd q (hn b), fun q => absurd q (RepL.no0 ts (by simp) hl b)⟩
theorem repL_kid : ∀ {ts : List Tr} {m : Ow} {vs : List V} {Φ : Ps}, RepL K Z H .own (kidL m ts) vs Φ ↔ RepL K Z H m ts vs Φ
  | [], _, _, _ => Iff.rfl
  | t :: ts, m, vs, Φ => by
    simp only [kidL, RepL]
    constructor
    · rintro ⟨v, vs', Φ1, Φ2, e, h1, h2, d, u⟩
      exact ⟨v, vs', Φ1, Φ2, e, rep_kid.mp h1, repL_kid.mp h2, d, u⟩
    · rintro ⟨v, vs', Φ1, Φ2, e, h1, h2, d, u⟩
      exact ⟨v, vs', Φ1, Φ2, e, rep_kid.mpr h1, repL_kid.mpr h2, d, u⟩
end
end
section
variable {K : KC} {Z Z' : Zn} {H H' : Hp} {m : Ow} {t t' : Tr} {ts : List Tr} {v w : V} {vs us : List V} {Φ Ψ : Ps} {a : Addr} {k : Nk} {o : Ow} {i : Nat}
theorem getq_lt' {α : Type} {l : List α} {i : Nat} {x : α} (h : l[i]? = some x) : i < l.length := (List.getElem?_eq_some_iff.mp h).1
theorem RepL.len : ∀ (ts : List Tr) {vs : List V} {Φ : Ps}, RepL K Z H m ts vs Φ → ts.length = vs.length
  | [], _, _, h => by rw [h.1]; rfl
  | t :: ts, vs, Φ, h => by
    obtain ⟨v, vs', Φ1, Φ2, e, h1, h2, d, u⟩ := h
    rw [e, List.length_cons, List.length_cons, RepL.len ts h2]
theorem RepL.cast {Ψ : Ps} : ∀ (ts : List Tr) {vs : List V} {Φ : Ps}, RepL K Z H m ts vs Φ → (∀ b, Ψ b ↔ Φ b) → RepL K Z H m ts vs Ψ
  | [], _, _, h, e => ⟨h.1, fun b q => h.2 b ((e b).mp q)⟩
  | t :: ts, vs, Φ, h, e => by
    obtain ⟨v, vs', Φ1, Φ2, e1, h1, h2, d, u⟩ := h
    exact ⟨v, vs', Φ1, Φ2, e1, h1, h2, d, fun b => (e b).trans (u b)⟩
theorem Nod.cast {Ψ' Φ' : Ps} (h : Nod Z k o a ts Ψ Φ) (e1 : ∀ b, Ψ' b ↔ Ψ b) (e2 : ∀ b, Φ' b ↔ Φ b) : Nod Z k o a ts Ψ' Φ' := by
  cases k <;> cases o <;> simp_all [Nod]
theorem Rep.cast {Ψ : Ps} : ∀ (t : Tr) {v : V} {Φ : Ps}, Rep K Z H m t v Φ → (∀ b, Ψ b ↔ Φ b) → Rep K Z H m t v Ψ
  | .any, _, _, h, e => fun b q => h b ((e b).mp q)
  | .a _, _, _, h, e => ⟨h.1, fun b q => h.2 b ((e b).mp q)⟩
  | .nd k o ts, v, Φ, h, e => by
    obtain ⟨a, vs, Ψ', e1, ho, hl, hn⟩ := h
    exact ⟨a, vs, Ψ', e1, ho, hl, hn.cast (fun _ => Iff.rfl) e⟩
/-- one item of a row, and how another one takes its place -/
theorem RepL.at_ : ∀ (ts : List Tr) {vs : List V} {Φ : Ps} {i : Nat} {t : Tr}, RepL K Z H m ts vs Φ → ts[i]? = some t → ∃ v Φ1 Φ2, vs[i]? = some v ∧ Rep K Z H m t v Φ1 ∧ (∀ b, ¬ (Φ1 b ∧ Φ2 b)) ∧ (∀ b, Φ b ↔ Φ1 b ∨ Φ2 b) ∧
    RepL K Z H m (ts.set i .any) vs Φ2 ∧ RepL K Z H m (ts.eraseIdx i) (vs.eraseIdx i) Φ2
  | [], _, _, _, _, _, q => by simp at q
  | x :: ts, vs, Φ, 0, t, h, q => by
    obtain ⟨v, vs', Φ1, Φ2, e, h1, h2, d, u⟩ := h
    cases q
    subst e
    exact ⟨v, Φ1, Φ2, rfl, h1, d, u, ⟨v, vs', fun _ => False, Φ2, rfl, fun _ h => h, h2, fun _ h => h.1, by simp⟩, h2⟩
  | x :: ts, vs, Φ, i + 1, t, h, q => by
    obtain ⟨v, vs', Φ1, Φ2, e, h1, h2, d, u⟩ := h
    subst e
    obtain ⟨w, Θ1, Θ2, e2, r1, d2, u2, r2, r3⟩ := RepL.at_ ts (i := i) (t := t) h2 (by simpa using q)
    exact ⟨w, Θ1, fun b => Φ1 b ∨ Θ2 b, by simpa using e2, r1, by grind, by grind, ⟨v, vs', Φ1, Θ2, rfl, h1, r2, by grind, fun _ => Iff.rfl⟩, ⟨v, _, Φ1, Θ2, rfl, h1, r3, by grind, fun _ => Iff.rfl⟩⟩
/-- something comes to a place that is known to be nothing -/
theorem RepL.put : ∀ (ts : List Tr) {vs : List V} {Φ Ψ : Ps} {i : Nat} {t : Tr} {v : V}, RepL K Z H m ts vs Φ → ts[i]? = some .any → vs[i]? = some v → Rep K Z H m t v Ψ → (∀ b, ¬ (Ψ b ∧ Φ b)) → RepL K Z H m (ts.set i t) vs (fun b => Ψ b ∨ Φ b)
  | [], _, _, _, _, _, _, _, q, _, _, _ => by simp at q
  | x :: ts, vs, Φ, Ψ, 0, t, v, h, q, e, r, d => by
    obtain ⟨v', vs', Φ1, Φ2, e1, h1, h2, d1, u⟩ := h
    cases q
    subst e1
    cases e
    have h1' : ∀ b, ¬ Φ1 b := h1
    exact ⟨v, vs', Ψ, Φ2, rfl, r, h2, by grind, by grind⟩
  | x :: ts, vs, Φ, Ψ, i + 1, t, v, h, q, e, r, d => by
    obtain ⟨v', vs', Φ1, Φ2, e1, h1, h2, d1, u⟩ := h
    subst e1
    have := RepL.put ts (i := i) (t := t) (v := v) (Ψ := Ψ) h2 (by simpa using q) (by simpa using e) r (by grind)
    exact ⟨v', vs', Φ1, fun b => Ψ b ∨ Φ2 b, rfl, h1, this, by grind, by grind⟩
theorem RepL.append : ∀ (ts : List Tr) {us : List Tr} {vs ws : List V} {Φ Ψ : Ps}, RepL K Z H m ts vs Φ → RepL K Z H m us ws Ψ → (∀ b, ¬ (Φ b ∧ Ψ b)) → RepL K Z H m (ts ++ us) (vs ++ ws) (fun b => Φ b ∨ Ψ b)
  | [], us, vs, ws, Φ, Ψ, h, r, d => by
    obtain ⟨rfl, h2⟩ := h
    exact r.cast us (by grind)
  | t :: ts, us, vs, ws, Φ, Ψ, h, r, d => by
    obtain ⟨v, vs', Φ1, Φ2, e1, h1, h2, d1, u⟩ := h
    subst e1
    exact ⟨v, vs' ++ ws, Φ1, fun b => Φ2 b ∨ Ψ b, rfl, h1, RepL.append ts h2 r (by grind), by grind, by grind⟩
theorem RepL.split : ∀ (ts : List Tr) {us : List Tr} {vs : List V} {Φ : Ps}, RepL K Z H m (ts ++ us) vs Φ → ∃ v1 v2 Φ1 Φ2, vs = v1 ++ v2 ∧ RepL K Z H m ts v1 Φ1 ∧ RepL K Z H m us v2 Φ2 ∧ (∀ b, ¬ (Φ1 b ∧ Φ2 b)) ∧ ∀ b, Φ b ↔ Φ1 b ∨ Φ2 b
  | [], us, vs, Φ, h => ⟨[], vs, fun _ => False, Φ, rfl, ⟨rfl, fun _ h => h⟩, h, by grind, by grind⟩
  | t :: ts, us, vs, Φ, h => by
    obtain ⟨v, vs', Φ1, Φ2, e1, h1, h2, d1, u⟩ := h
    obtain ⟨v1, v2, Θ1, Θ2, e, r1, r2, d, u2⟩ := RepL.split ts h2
    subst e1 e
    exact ⟨v :: v1, v2, fun b => Φ1 b ∨ Θ1 b, Θ2, rfl, ⟨v, v1, Φ1, Θ1, rfl, h1, r1, by grind, fun _ => Iff.rfl⟩, r2, by grind, by grind⟩
theorem escL_all : ∀ {ts : List Tr}, escL ts = true ↔ ∀ t ∈ ts, esc t = true
  | [] => by simp [escL]
  | t :: ts => by simp [escL, escL_all (ts := ts)]
theorem escL_set {ts : List Tr} (h : escL ts = true) (e : esc t = true) : escL (ts.set i t) = true := by
  rw [escL_all] at h ⊢
  intro x hx
  rcases List.mem_or_eq_of_mem_set hx with z | z
  · exact h x z
  · rw [z]; exact e
/-! paths -/
def getP : List Tr → List Nat → Option Tr
  | _, [] => none
  | ts, [i] => ts[i]?
  | ts, i :: j :: p => match ts[i]? with
    | some (.nd .tup _ _) => none
    | some (.nd _ .own us) => getP us (j :: p)
    | _ => none
def setP : List Tr → List Nat → Tr → List Tr
  | ts, [], _ => ts
  | ts, [i], t => ts.set i t
  | ts, i :: j :: p, t => match ts[i]? with
    | some (.nd k o us) => ts.set i (.nd k o (setP us (j :: p) t))
    | _ => ts
theorem relV_ex : ∀ v : V, ∃ u, RelV v u
  | .non => ⟨_, rfl⟩
  | .bl _ => ⟨_, rfl⟩
  | .int i => ⟨.int i 0, 0, rfl⟩
  | .str x => ⟨.str x 0, 0, rfl⟩
  | .byt b => ⟨.bytes b 0, 0, rfl⟩
  | .flt b => ⟨.float b 0, 0, rfl⟩
  | .ref _ => ⟨_, rfl⟩
  | .ty _ => ⟨_, rfl⟩
theorem relV_inj : ∀ {v v' : V} {u : Value}, RelV v u → RelV v' u → v = v' := by
  intro v v' u h h'
  cases v <;> cases v' <;> simp only [RelV] at h h' <;> grind
abbrev DR : List Key × Addr × V → List Key × Addr × Value → Prop := fun p q => p.1 = q.1 ∧ p.2.1 = q.2.1 ∧ RelV p.2.2 q.2.2
theorem dr_ex : ∀ l : List (List Key × Addr × V), ∃ xs, Paired DR l xs
  | [] => ⟨[], .nil⟩
  | p :: l => by
    obtain ⟨u, hu⟩ := relV_ex p.2.2
    obtain ⟨xs, h⟩ := dr_ex l
    exact ⟨(p.1, p.2.1, u) :: xs, .cons ⟨rfl, rfl, hu⟩ h⟩
theorem dr_inj {P P' : Program} {w w' : World} {l : List (List Key × Addr × V)} {xs : List (List Key × Addr × Value)} (h : Paired DR l xs) : ∀ {l' : List (List Key × Addr × V)} {xs' : List (List Key × Addr × Value)}, Paired DR l' xs' →
    xs.map (entryOfKey (tupleKind (mixKind P w))) = xs'.map (entryOfKey (tupleKind (mixKind P' w'))) → l.map (·.2.2) = l'.map (·.2.2) := by
  induction h with
  | nil =>
    intro l' xs' h' e
    cases h' with
    | nil => rfl
    | cons _ _ => cases e
  | cons a t ih =>
    intro l' xs' h' e
    cases h' with
    | nil => cases e
    | cons a' t' =>
      rw [List.map_cons, List.map_cons] at e
      have e1 := (List.cons.inj e).1
      have e2 := (List.cons.inj e).2
      have e3 := congrArg DictEntry.val e1
      simp only [entryOfKey] at e3
      rw [List.map_cons, List.map_cons, ih t' e2, relV_inj a.2.2 (e3 ▸ a'.2.2)]
theorem dphi_inj {P P' : Program} {w w' : World} {a : Addr} {l l' : List (List Key × Addr × V)} (e : dphi P w a l = dphi P' w' a l') : l.map (·.2.2) = l'.map (·.2.2) := by
  obtain ⟨xs, h⟩ := dr_ex l
  let o : Obj := { cls := .type "dict", data := .dict (xs.map (entryOfKey (tupleKind (mixKind P w)))).toArray 0 }
  let hp : Heap := ⟨Array.replicate (a + 1) o, {}⟩
  have hg : hp.get? a = some o := by
    unfold Heap.get?
    have : hp.objs[a]? = some o := by
      show (Array.replicate (a + 1) o)[a]? = some o
      rw [Array.getElem?_replicate, if_pos (by omega)]
    rw [this]
  have h1 : dphi P w a l hp := ⟨xs, h, o, _, _, hg, ⟨rfl, rfl, rfl⟩, rfl, by simp⟩
  rw [e] at h1
  obtain ⟨xs', h', o', es, ep, hg', _, hd, he⟩ := h1
  rw [hg] at hg'
  cases hg'
  have hd : Data.dict (xs.map (entryOfKey (tupleKind (mixKind P w)))).toArray 0 = Data.dict es ep := hd
  injection hd with hd1 _
  subst hd1
  exact dr_inj h h' (by simpa using he)
def Kids (H : Hp) (v : V) (vs : List V) : Prop := ∃ a, v = .ref a ∧ (H a = some (.lst vs) ∨ (∃ C dx ns, H a = some (.ins C dx (List.zip ns vs)) ∧ ns.length = vs.length) ∨ (∃ ks, H a = some (.dK (List.zip ks vs)) ∧ ks.length = vs.length) ∨
  (∃ P w l, H a = some (.ext (dphi P w a l)) ∧ l.map (·.2.2) = vs) ∨ ∃ S n, H a = some (.set S n) ∧ vs = [])
theorem Kids.fn (h : Kids H v vs) (h' : Kids H v us) : vs = us := by
  obtain ⟨a, e, h⟩ := h
  obtain ⟨b, e', h'⟩ := h'
  subst e
  cases e'
  have key : ∀ {α : Type} {x y : List α} {p q : List V}, x.zip p = y.zip q → x.length = p.length → y.length = q.length → p = q := by
    intro α x y p q e h1 h2
    have e1 := congrArg (List.map Prod.snd) e
    rwa [List.map_snd_zip (by omega), List.map_snd_zip (by omega)] at e1
  rcases h with h | ⟨C, dx, ns, h, l⟩ | ⟨ks, h, l⟩ | ⟨P, w, m, h, l⟩ | ⟨S, n, h, l⟩ <;> rcases h' with h' | ⟨C', dx', ns', h', l'⟩ | ⟨ks', h', l'⟩ | ⟨P', w', m', h', l'⟩ | ⟨S', n', h', l'⟩ <;> rw [h] at h' <;> first
    | exact HO.noConfusion (Option.some.inj h')
    | exact HO.lst.inj (Option.some.inj h')
    | exact key (HO.ins.inj (Option.some.inj h')).2.2 l l'
    | exact key (HO.dK.inj (Option.some.inj h')) l l'
    | rw [l, l']
    | exact l.symm.trans ((dphi_inj (HO.ext.inj (Option.some.inj h'))).trans l')
def Raw (H : Hp) : List V → List Nat → V → Prop
  | _, [], _ => False
  | vs, [i], w => vs[i]? = some w
  | vs, i :: j :: p, w => ∃ v us, vs[i]? = some v ∧ Kids H v us ∧ Raw H us (j :: p) w
theorem Raw.fn : ∀ {p : List Nat} {vs : List V} {w w' : V}, Raw H vs p w → Raw H vs p w' → w = w'
  | [], _, _, _, h, _ => h.elim
  | [i], vs, w, w', h, h' => by
    have h1 : vs[i]? = some w := h
    have h2 : vs[i]? = some w' := h'
    rw [h1] at h2
    exact Option.some.inj h2
  | i :: j :: p, vs, w, w', h, h' => by
    obtain ⟨v, us, e, k1, r⟩ := h
    obtain ⟨v', us', e', k2, r'⟩ := h'
    rw [e] at e'
    cases e'
    cases k1.fn k2
    exact Raw.fn r r'
theorem objKids (h : ObjAt K k .own H a vs) (hk : k ≠ .tup) : Kids H (.ref a) vs := by
  cases k with
  | tup => exact absurd rfl hk
  | lst => exact ⟨a, rfl, .inl h⟩
  | ins n j =>
    obtain ⟨l, dx, e⟩ := h
    exact ⟨a, rfl, .inr (.inl ⟨_, dx, _, e, l⟩)⟩
  | dct ks => exact ⟨a, rfl, .inr (.inr (.inl ⟨ks, h.2, h.1⟩))⟩
  | dcT ks =>
    obtain ⟨bs, h1, h2, _, _, _, _, h7⟩ := h
    refine ⟨a, rfl, .inr (.inr (.inr (.inl ⟨_, _, _, h7, ?_⟩)))⟩
    rw [show (fun p : List Key × Addr × V => p.2.2) = Prod.snd ∘ Prod.snd from rfl, ← List.map_map, List.map_snd_zip (by simp; omega), List.map_snd_zip (by omega)]
  | sti l => exact ⟨a, rfl, .inr (.inr (.inr (.inr ⟨_, _, h.2.2, h.1⟩)))⟩
theorem Kids.fr (h : Kids H (.ref a) vs) (hk : ∀ ob, H a = some ob → H' a = some ob) : Kids H' (.ref a) vs := by
  obtain ⟨b, e, h⟩ := h
  cases e
  refine ⟨a, rfl, ?_⟩
  rcases h with h | ⟨C, dx, ns, h, l⟩ | ⟨ks, h, l⟩ | ⟨P, w, m, h, l⟩ | ⟨S, n, h, l⟩
  · exact .inl (hk _ h)
  · exact .inr (.inl ⟨C, dx, ns, hk _ h, l⟩)
  · exact .inr (.inr (.inl ⟨ks, hk _ h, l⟩))
  · exact .inr (.inr (.inr (.inl ⟨P, w, m, hk _ h, l⟩)))
  · exact .inr (.inr (.inr (.inr ⟨S, n, hk _ h, l⟩)))
/-- q does not lead into what stands at p -/
def nbel : List Nat → List Nat → Bool
  | [], [] => true
  | [], _ :: _ => false
  | _, [] => true
  | i :: p, j :: q => if i = j then nbel p q else true
theorem getP_cons {j : Nat} {p : List Nat} (h : getP ts (i :: j :: p) = some t) : ∃ k us, ts[i]? = some (.nd k .own us) ∧ k ≠ .tup ∧ getP us (j :: p) = some t := by
  simp only [getP] at h
  split at h
  · cases h
  · rename_i k us hne e
    exact ⟨_, _, e, fun hk => hne hk, h⟩
  · cases h
end
section
variable {K : KC} {Z Z' : Zn} {H H' : Hp} {m : Ow} {t t' : Tr} {ts : List Tr} {v w : V} {vs us : List V} {Φ Ψ : Ps} {a : Addr} {k : Nk} {o : Ow} {i : Nat}
theorem Nod.own (h : Nod Z k .own a ts Ψ Φ) (hk : k ≠ .tup) : (∀ b, Φ b ↔ b = a ∨ Ψ b) ∧ ¬ Ψ a ∧ escL ts = true := by
  cases k <;> first | exact absurd rfl hk | exact h
theorem Nod.mk (hk : k ≠ .tup) (h1 : ∀ b, Φ b ↔ b = a ∨ Ψ b) (h2 : ¬ Ψ a) (h3 : escL ts = true) : Nod Z k .own a ts Ψ Φ := by
  cases k <;> first | exact absurd rfl hk | exact ⟨h1, h2, h3⟩
/-- the addresses on the way to q, where a path of own things leads there -/
theorem Raw.keep : ∀ {q : List Nat} {ts : List Tr} {vs : List V} {Φ : Ps} {w : V}, RepL K Z H .own ts vs Φ → (getP ts q).isSome = true → Raw H vs q w → (∀ b ob, Φ b → H b = some ob → H' b = some ob) → Raw H' vs q w
  | [], _, _, _, _, _, _, r, _ => r
  | [i], _, _, _, _, _, _, r, _ => r
  | i :: j :: p, ts, vs, Φ, w, h, g, r, kp => by
    obtain ⟨t, g⟩ := Option.isSome_iff_exists.mp g
    obtain ⟨k, us, e, hk, g⟩ := getP_cons g
    obtain ⟨v, us', e2, kd, r⟩ := r
    obtain ⟨v', Φ1, Φ2, e3, r1, d, u, _⟩ := h.at_ ts e
    rw [e2] at e3
    cases e3
    obtain ⟨a, vs2, Ψ, rfl, ho, hl, hn⟩ := r1
    have ho : ObjAt K k .own H a vs2 := ho
    have hl : RepL K Z H .own us vs2 Ψ := hl
    have hn : Nod Z k .own a us Ψ Φ1 := hn
    cases (objKids ho hk).fn kd
    have hn := hn.own hk
    exact ⟨_, _, e2, kd.fr (kp a · (by grind)), Raw.keep hl (by rw [g]; rfl) r fun b ob hb => kp b ob (by grind)⟩
theorem escL_setP (ht : esc t = true) : ∀ (p : List Nat) (us : List Tr), escL us = true → escL (setP us p t) = true
  | [], us, h => by simpa [setP] using h
  | [i], us, h => by simp only [setP]; exact escL_set h ht
  | i :: j :: p, us, h => by
    simp only [setP]
    split
    · rename_i k o us2 e
      refine escL_set h ?_
      have h1 := escL_all.mp h _ (List.mem_of_getElem? e)
      have ih := escL_setP ht (j :: p) us2
      cases k <;> cases o <;> simp_all [esc]
    · exact h
theorem RepL.path : ∀ {p : List Nat} {ts : List Tr} {vs : List V} {Φ : Ps} {t : Tr}, RepL K Z H .own ts vs Φ → getP ts p = some t → ∃ w Φ1 Φ2, Raw H vs p w ∧ Rep K Z H .own t w Φ1 ∧ (∀ b, ¬ (Φ1 b ∧ Φ2 b)) ∧ (∀ b, Φ b ↔ Φ1 b ∨ Φ2 b) ∧
    RepL K Z H .own (setP ts p .any) vs Φ2 ∧
    (∀ q w' H', nbel p q = true → (getP ts q).isSome = true → Raw H vs q w' → (∀ b ob, ¬ Φ1 b → H b = some ob → H' b = some ob) → Raw H' vs q w')
  | [], _, _, _, _, _, g => by simp [getP] at g
  | [i], ts, vs, Φ, t, h, g => by
    obtain ⟨v, Φ1, Φ2, e, r, d, u, r2, _⟩ := h.at_ ts (i := i) g
    refine ⟨v, Φ1, Φ2, e, r, d, u, r2, fun q w' H' nb gq rq kp => ?_⟩
    match q with
    | [] => exact rq
    | [j] => exact rq
    | j :: j2 :: q =>
      have hij : i ≠ j := by
        intro e
        subst e
        simp [nbel] at nb
      have g2 : (getP (ts.set i .any) (j :: j2 :: q)).isSome = true := by
        obtain ⟨t2, gq⟩ := Option.isSome_iff_exists.mp gq
        obtain ⟨k, us, e, hk, g⟩ := getP_cons gq
        unfold getP at gq ⊢
        rw [List.getElem?_set_ne hij, gq]
        rfl
      exact Raw.keep r2 g2 rq fun b ob hb => kp b ob (by grind)
  | i :: j :: p, ts, vs, Φ, t, h, g => by
    obtain ⟨k, us, e, hk, g⟩ := getP_cons g
    obtain ⟨v, Φ1, Φ2, e2, r, d, u, r2, _⟩ := h.at_ ts e
    obtain ⟨a, vs2, Ψ, rfl, ho, hl, hn⟩ := r
    have ho : ObjAt K k .own H a vs2 := ho
    have hl : RepL K Z H .own us vs2 Ψ := hl
    have hn : Nod Z k .own a us Ψ Φ1 := hn
    have hn := hn.own hk
    obtain ⟨w, Θ1, Θ2, raw, rt, d2, u2, rs, st⟩ := RepL.path hl g
    have kd := objKids ho hk
    have hset : setP ts (i :: j :: p) .any = ts.set i (.nd k .own (setP us (j :: p) .any)) := by simp only [setP, e]
    have hes : escL (setP us (j :: p) .any) = true := by
      exact escL_setP rfl _ _ hn.2.2
    refine ⟨w, Θ1, fun b => Φ2 b ∨ b = a ∨ Θ2 b, ⟨_, _, e2, kd, raw⟩, rt, by grind, by grind, ?_, fun q w' H' nb gq rq kp => ?_⟩
    · rw [hset]
      have r3 := r2.put (ts := ts.set i .any) (i := i) (t := .nd k .own (setP us (j :: p) .any)) (v := .ref a) (Ψ := fun b => b = a ∨ Θ2 b) (by rw [List.getElem?_set_self (getq_lt' e)]) e2 ⟨a, vs2, Θ2, rfl, ho, rs, .mk hk (fun _ => Iff.rfl) (by grind) hes⟩ (by grind)
      rw [List.set_set] at r3
      exact r3.cast _ (by grind)
    · match q with
      | [] => exact rq
      | [_] => exact rq
      | i2 :: j2 :: q =>
        by_cases hi : i = i2
        · subst hi
          have nb : nbel (j :: p) (j2 :: q) = true := by simpa [nbel] using nb
          obtain ⟨t2, gq⟩ := Option.isSome_iff_exists.mp gq
          obtain ⟨k', us', e', hk', gq⟩ := getP_cons gq
          rw [e] at e'
          cases e'
          obtain ⟨v', us2, e3, kd2, rq⟩ := rq
          rw [e2] at e3
          cases e3
          cases kd.fn kd2
          exact ⟨_, _, e2, kd.fr (kp a · (by grind)), st (j2 :: q) w' H' nb (by rw [gq]; rfl) rq kp⟩
        · have g2 : (getP (ts.set i .any) (i2 :: j2 :: q)).isSome = true := by
            obtain ⟨t2, gq⟩ := Option.isSome_iff_exists.mp gq
            unfold getP at gq ⊢
            rw [List.getElem?_set_ne hi, gq]
            rfl
          exact Raw.keep r2 g2 rq fun b ob hb => kp b ob (by grind)
/-- something comes to a place, at the end of a path, that is known to be nothing -/
theorem RepL.putP : ∀ {p : List Nat} {ts : List Tr} {vs : List V} {Φ Ψ : Ps} {t : Tr} {w : V}, RepL K Z H .own ts vs Φ → getP ts p = some .any → Raw H vs p w → Rep K Z H .own t w Ψ → (∀ b, ¬ (Ψ b ∧ Φ b)) → esc t = true → RepL K Z H .own (setP ts p t) vs (fun b => Ψ b ∨ Φ b)
  | [], _, _, _, _, _, _, _, g, _, _, _, _ => by simp [getP] at g
  | [i], ts, vs, Φ, Ψ, t, w, h, g, r, rt, d, _ => h.put ts (i := i) g r rt d
  | i :: j :: p, ts, vs, Φ, Ψ, t, w, h, g, r, rt, d, he => by
    obtain ⟨k, us, e, hk, g⟩ := getP_cons g
    obtain ⟨v, Φ1, Φ2, e2, r1, d1, u, r2, _⟩ := h.at_ ts e
    obtain ⟨a, vs2, Ψ', rfl, ho, hl, hn⟩ := r1
    have ho : ObjAt K k .own H a vs2 := ho
    have hl : RepL K Z H .own us vs2 Ψ' := hl
    have hn : Nod Z k .own a us Ψ' Φ1 := hn
    have hn := hn.own hk
    obtain ⟨v', us2, e3, kd, raw⟩ := r
    rw [e2] at e3
    cases e3
    cases (objKids ho hk).fn kd
    have r3 := RepL.putP hl g raw rt (by grind) he
    have hset : setP ts (i :: j :: p) t = ts.set i (.nd k .own (setP us (j :: p) t)) := by simp only [setP, e]
    rw [hset]
    have r4 := r2.put (ts := ts.set i .any) (i := i) (t := .nd k .own (setP us (j :: p) t)) (v := .ref a) (Ψ := fun b => b = a ∨ Ψ b ∨ Ψ' b) (by rw [List.getElem?_set_self (getq_lt' e)]) e2 ⟨a, vs2, fun b => Ψ b ∨ Ψ' b, rfl, ho, r3, .mk hk (fun _ => Iff.rfl) ?_ (escL_setP he _ _ hn.2.2)⟩ ?_
    · rw [List.set_set] at r4
      exact r4.cast _ (by grind)
    · intro q
      rcases q with q | q
      · exact d a ⟨q, by grind⟩
      · exact hn.2.1 q
    · grind
theorem getP_setP_same : ∀ {p : List Nat} {ts : List Tr}, (getP ts p).isSome = true → getP (setP ts p t) p = some t
  | [], _, g => by simp [getP] at g
  | [i], ts, g => by
    obtain ⟨x, g⟩ := Option.isSome_iff_exists.mp g
    show (ts.set i t)[i]? = some t
    rw [List.getElem?_set_self (getq_lt' (show ts[i]? = some x from g))]
  | i :: j :: p, ts, g => by
    obtain ⟨x, g⟩ := Option.isSome_iff_exists.mp g
    obtain ⟨k, us, e, hk, g⟩ := getP_cons g
    simp only [setP, e]
    unfold getP
    rw [List.getElem?_set_self (getq_lt' e)]
    have := getP_setP_same (p := j :: p) (ts := us) (by rw [g]; rfl)
    cases k <;> simp_all
theorem getP_setP : ∀ {p q : List Nat} {ts : List Tr}, nbel p q = true → (getP ts q).isSome = true → (getP (setP ts p t) q).isSome = true
  | _, [], ts, _, g => by simp [getP] at g
  | [], q, ts, _, g => by simpa [setP] using g
  | [i], j :: q, ts, nb, g => by
    by_cases e : i = j
    · subst e
      match q, nb, g with
      | [], _, g =>
        obtain ⟨x, g⟩ := Option.isSome_iff_exists.mp g
        show ((ts.set i t)[i]?).isSome = true
        rw [List.getElem?_set_self (getq_lt' (show ts[i]? = some x from g))]
        rfl
      | _ :: _, nb, _ => simp [nbel] at nb
    · match q, nb, g with
      | [], _, g =>
        show ((ts.set i t)[j]?).isSome = true
        rw [List.getElem?_set_ne e]
        exact g
      | _ :: _, _, g =>
        simp only [setP]
        unfold getP at g ⊢
        rw [List.getElem?_set_ne e]
        exact g
  | i :: i2 :: p, j :: q, ts, nb, g => by
    simp only [setP]
    split
    · rename_i k o us e
      by_cases hij : i = j
      · subst hij
        match q, nb, g with
        | [], _, g =>
          show ((ts.set i _)[i]?).isSome = true
          rw [List.getElem?_set_self (getq_lt' e)]
          rfl
        | j2 :: q, nb, g =>
          obtain ⟨x, g⟩ := Option.isSome_iff_exists.mp g
          obtain ⟨k', us', e', hk, g⟩ := getP_cons g
          rw [e] at e'
          cases e'
          have nb : nbel (i2 :: p) (j2 :: q) = true := by simpa [nbel] using nb
          have ih := getP_setP (p := i2 :: p) (q := j2 :: q) (ts := us) nb (by rw [g]; rfl)
          unfold getP
          rw [List.getElem?_set_self (getq_lt' e)]
          cases k <;> simp_all
      · match q, g with
        | [], g =>
          show ((ts.set i _)[j]?).isSome = true
          rw [List.getElem?_set_ne hij]
          exact g
        | _ :: _, g =>
          unfold getP at g ⊢
          rw [List.getElem?_set_ne hij]
          exact g
    · exact g
/-- a path through nothing changed -/
theorem setP_setP {t' : Tr} : ∀ {p : List Nat} {ts : List Tr}, setP (setP ts p t) p t' = setP ts p t'
  | [], _ => rfl
  | [i], ts => by simp [setP]
  | i :: j :: p, ts => by
    cases e : ts[i]? with
    | none => simp only [setP, e]
    | some x =>
      cases x with
      | nd k o us =>
        simp only [setP, e, List.getElem?_set_self (getq_lt' e)]
        rw [List.set_set, setP_setP]
      | any => simp only [setP, e]
      | a v => simp only [setP, e]
end
inductive Ent | no | tr (t : Tr) | al (p : List Nat)
def Ent.tree : Ent → Tr
  | .tr t => t
  | _ => .any
def getT : Tr → List Nat → Option Tr
  | t, [] => some t
  | .nd .tup _ _, _ :: _ => none
  | .nd _ .own us, j :: p => match us[j]? with
    | some y => getT y p
    | none => none
  | _, _ :: _ => none
def setT : Tr → List Nat → Tr → Tr
  | _, [], x => x
  | .nd k o us, j :: p, x => match us[j]? with
    | some y => .nd k o (us.set j (setT y p x))
    | none => .nd k o us
  | t, _ :: _, _ => t
def getG (Γ : List Ent) : List Nat → Option Tr
  | [] => none
  | i :: p => match Γ[i]? with
    | some (.tr t) => getT t p
    | _ => none
def setG (Γ : List Ent) : List Nat → Tr → List Ent
  | [], _ => Γ
  | i :: p, x => match Γ[i]? with
    | some (.tr t) => Γ.set i (.tr (setT t p x))
    | _ => Γ
/-- an alias that leads into what stands at p is forgotten -/
def killE (p : List Nat) : Ent → Ent
  | .al q => if nbel p q = true then .al q else .no
  | e => e
abbrev trees (Γ : List Ent) : List Tr := Γ.map Ent.tree
section
variable {K : KC} {Z Z' : Zn} {H H' : Hp} {m : Ow} {t t' : Tr} {ts : List Tr} {v w : V} {vs us ws : List V} {Φ Ψ : Ps} {a : Addr} {k : Nk} {o : Ow} {i : Nat} {p q : List Nat} {Γ τ : List Ent} {σ : St}
theorem set_same {α : Type} : ∀ {l : List α} {i : Nat} {x : α}, l[i]? = some x → l.set i x = l
  | [], _, _, h => by simp at h
  | y :: l, 0, x, h => by cases h; rfl
  | y :: l, i + 1, x, h => by rw [List.set_cons_succ, set_same (by simpa using h)]
theorem getP_getT : ∀ {p : List Nat} {i : Nat} {ts : List Tr} {t : Tr}, ts[i]? = some t → getP ts (i :: p) = getT t p
  | [], i, ts, t, e => by simp [getP, getT, e]
  | j :: p, i, ts, t, e => by
    unfold getP
    rw [e]
    cases t with
    | any => simp [getT]
    | a v => simp [getT]
    | nd k o us =>
      have key : getP us (j :: p) = match us[j]? with
          | some y => getT y p
          | none => none := by
        cases e2 : us[j]? with
        | none => cases p <;> simp [getP, e2]
        | some y => exact getP_getT e2
      cases k <;> cases o <;> simp_all [getT]
theorem setP_setT : ∀ {p : List Nat} {i : Nat} {ts : List Tr} {t x : Tr}, ts[i]? = some t → setP ts (i :: p) x = ts.set i (setT t p x)
  | [], i, ts, t, x, e => by simp [setP, setT]
  | j :: p, i, ts, t, x, e => by
    simp only [setP, e]
    cases t with
    | any => simp only [setT]; rw [set_same e]
    | a v => simp only [setT]; rw [set_same e]
    | nd k o us =>
      simp only [setT]
      cases e2 : us[j]? with
      | none =>
        simp only []
        congr 2
        have : us.length ≤ j := List.getElem?_eq_none_iff.mp e2
        cases p with
        | nil => simp only [setP]; exact List.set_eq_of_length_le this
        | cons j2 p => simp only [setP, e2]
      | some y =>
        simp only []
        rw [setP_setT e2]
end
/-- what a def was called with: the heap, what it may change, what is frozen, which parameters are its own, their values -/
structure Cz where
  H0 : Hp
  F0 : Ps
  S0 : Ps
  md : List Bool
  vs : List V
def SlotOk (H : Hp) (Γ : List Ent) (ws : List V) (σ : St) (i : Nat) : Ent → Prop
  | .no => True
  | .tr _ => ∃ v, ws[i]? = some v ∧ σ[i]? = some (some v)
  | .al p => ∃ w, σ[i]? = some (some w) ∧ Raw H ws p w ∧ (getG Γ p).isSome = true
structure Ev (K : KC) (c : Cz) (Z : Zn) (ws : List V) (Φ Ψ : Ps) (σ : St) (H : Hp) (Γ τ : List Ent) (us : List V) : Prop where
  sl : RepL K Z H .own (trees Γ) ws Φ
  tm : RepL K Z H .own (trees τ) us Ψ
  dj : ∀ b, ¬ (Φ b ∧ Ψ b)
  so : ∀ (i : Nat) (e : Ent), Γ[i]? = some e → SlotOk H Γ ws σ i e
  to : ∀ (i : Nat) (p : List Nat), τ[i]? = some (Ent.al p) → ∃ w, us[i]? = some w ∧ Raw H ws p w ∧ (getG Γ p).isSome = true
  ln : σ.length = Γ.length
  zo : ∀ b, Φ b ∨ Ψ b → (c.F0 b ∨ c.H0 b = none) ∧ ¬ Z.fz b ∧ ¬ Z.ln b
  zf : ∀ b, Z.fz b → c.S0 b ∨ c.F0 b ∨ c.H0 b = none
  z0 : ∀ b, c.S0 b → Z.fz b
  zs : ∀ b, Z.fz b ∨ Z.ln b → (H b).isSome = true
  st : ∀ b o, c.H0 b = some o → ∃ o', H b = some o' ∧ (¬ c.F0 b → o' = o)
  pv : ∀ i : Nat, c.md[i]? = some true → ws[i]? = c.vs[i]?
def EnvOk (K : KC) (c : Cz) (σ : St) (H : Hp) (Γ τ : List Ent) (us : List V) : Prop := ∃ Z ws Φ Ψ, Ev K c Z ws Φ Ψ σ H Γ τ us
section
variable {K : KC} {Z Z' : Zn} {H H' : Hp} {m : Ow} {t t' : Tr} {ts : List Tr} {v w : V} {vs us ws : List V} {Φ Ψ : Ps} {a : Addr} {k : Nk} {o : Ow} {i : Nat} {p q : List Nat} {Γ τ : List Ent} {σ : St} {c : Cz}
theorem getG_getP (h : (getG Γ p).isSome = true) : getP (trees Γ) p = getG Γ p := by
  cases p with
  | nil => simp [getG] at h
  | cons i p =>
    simp only [getG] at h ⊢
    cases e : Γ[i]? with
    | none => simp [e] at h
    | some x =>
      cases x with
      | no => simp [e] at h
      | al _ => simp [e] at h
      | tr t =>
        simp only []
        exact getP_getT (by simp [e, Ent.tree])
theorem trees_setG (h : (getG Γ p).isSome = true) : trees (setG Γ p t) = setP (trees Γ) p t := by
  cases p with
  | nil => simp [getG] at h
  | cons i p =>
    simp only [getG, setG] at h ⊢
    cases e : Γ[i]? with
    | none => simp [e] at h
    | some x =>
      cases x with
      | no => simp [e] at h
      | al _ => simp [e] at h
      | tr t' =>
        simp only []
        rw [setP_setT (t := t') (by simp [e, Ent.tree])]
        simp [trees, List.map_set, Ent.tree]
mutual
theorem Rep.isS : ∀ (t : Tr) {m : Ow} {v : V} {Φ : Ps}, Rep K Z H m t v Φ → ∀ b, Φ b → (H b).isSome = true
  | .any, _, _, _, h, b, q => absurd q (h b)
  | .a _, _, _, _, h, b, q => absurd q (h.2 b)
  | .nd k o ts, m, v, Φ, h, b, q => by
    obtain ⟨a, vs, Ψ, e, ho, hl, hn⟩ := h
    have ih := RepL.isS ts hl b
    cases k with
    | tup => cases eo : eff m o <;> simp_all [Nod]
    | lst =>
      cases eo : eff m o <;> simp_all [Nod, ObjAt]
      rcases hn with ⟨h1, h2, h3⟩
      rcases q with rfl | q <;> simp_all
    | ins n j =>
      obtain ⟨l, dx, ho⟩ := ho
      cases eo : eff m o <;> simp_all [Nod]
      rcases q with rfl | q <;> simp_all
    | dct ks =>
      cases eo : eff m o <;> simp_all [Nod, ObjAt]
      rcases hn with ⟨h1, h2, h3⟩
      rcases q with rfl | q <;> simp_all
    | dcT ks =>
      obtain ⟨bs, _, _, _, _, _, _, ho⟩ := ho
      cases eo : eff m o <;> simp_all [Nod]
      rcases q with rfl | q <;> simp_all
    | sti l =>
      obtain ⟨_, _, ho⟩ := ho
      cases eo : eff m o <;> simp_all [Nod]
      rcases q with rfl | q <;> simp_all
theorem RepL.isS : ∀ (ts : List Tr) {m : Ow} {vs : List V} {Φ : Ps}, RepL K Z H m ts vs Φ → ∀ b, Φ b → (H b).isSome = true
  | [], _, _, _, h, b, q => absurd q (h.2 b)
  | t :: ts, m, vs, Φ, h, b, q => by
    obtain ⟨v, vs', Φ1, Φ2, e, h1, h2, d, u⟩ := h
    rcases (u b).mp q with z | z
    · exact Rep.isS t h1 b z
    · exact RepL.isS ts h2 b z
end
/-- no tuple is owned -/
def nt' : HO → Bool
  | .tup _ => false
  | .frz _ _ => false
  | _ => true
theorem tsk (h : ∀ b ob, H b = some ob → nt' ob = false → H' b = some ob) : TSK K H H' := fun a xs q => h a _ q rfl
mutual
theorem Rep.nt : ∀ (t : Tr) {m : Ow} {v : V} {Φ : Ps}, Rep K Z H m t v Φ → ∀ b ob, Φ b → H b = some ob → nt' ob = true
  | .any, _, _, _, h, b, _, q, _ => absurd q (h b)
  | .a _, _, _, _, h, b, _, q, _ => absurd q (h.2 b)
  | .nd k o ts, m, v, Φ, h, b, ob, q, hb => by
    obtain ⟨a, vs, Ψ, e, ho, hl, hn⟩ := h
    have ih := RepL.nt ts hl b ob
    cases k with
    | tup => cases eo : eff m o <;> simp_all [Nod]
    | lst =>
      cases eo : eff m o <;> simp_all [Nod, ObjAt]
      rcases q with rfl | q
      · simp_all; subst hb; rfl
      · exact ih q
    | ins n j =>
      obtain ⟨l, dx, ho⟩ := ho
      cases eo : eff m o <;> simp_all [Nod]
      rcases q with rfl | q
      · simp_all; subst hb; rfl
      · exact ih q
    | dct ks =>
      cases eo : eff m o <;> simp_all [Nod, ObjAt]
      rcases q with rfl | q
      · simp_all; subst hb; rfl
      · exact ih q
    | dcT ks =>
      obtain ⟨bs, _, _, _, _, _, _, ho⟩ := ho
      cases eo : eff m o <;> simp_all [Nod]
      rcases q with rfl | q
      · simp_all; subst hb; rfl
      · exact ih q
    | sti l =>
      obtain ⟨_, _, ho⟩ := ho
      cases eo : eff m o <;> simp_all [Nod]
      rcases q with rfl | q
      · simp_all; subst hb; rfl
      · exact ih q
theorem RepL.nt : ∀ (ts : List Tr) {m : Ow} {vs : List V} {Φ : Ps}, RepL K Z H m ts vs Φ → ∀ b ob, Φ b → H b = some ob → nt' ob = true
  | [], _, _, _, h, b, _, q, _ => absurd q (h.2 b)
  | t :: ts, m, vs, Φ, h, b, ob, q, hb => by
    obtain ⟨v, vs', Φ1, Φ2, e, h1, h2, d, u⟩ := h
    rcases (u b).mp q with z | z
    · exact Rep.nt t h1 b ob z hb
    · exact RepL.nt ts h2 b ob z hb
end
/-- the upper temps change: what they own may change, new things may come -/
structure Chg (Z Z' : Zn) (H H' : Hp) (Ψ Ψ' : Ps) : Prop where
  fz : ∀ b, Z.fz b → Z'.fz b
  ln : ∀ b, Z.ln b → Z'.ln b
  fz' : ∀ b, Z'.fz b → Z.fz b ∨ Ψ b ∨ H b = none
  ln' : ∀ b, Z'.ln b → Z.ln b ∨ Ψ b ∨ H b = none
  zs : ∀ b, Z'.fz b ∨ Z'.ln b → (H' b).isSome = true
  ob : ∀ b ob, H b = some ob → ¬ Ψ b → H' b = some ob
  oc : ∀ b, Ψ b → (H' b).isSome = true
  nw : ∀ b, Ψ' b → (Ψ b ∨ H b = none) ∧ ¬ Z'.fz b ∧ ¬ Z'.ln b
theorem Ev.swapX {τ1 τ1' : List Ent} {us1 us1' : List V} {Ψ1 Ψ2 Ψ1' : Ps} (E : Ev K c Z ws Φ Ψ σ H Γ (τ1 ++ τ) (us1 ++ us)) (hl : τ1.length = us1.length) (hal : ∀ e ∈ τ1', ∀ p, e ≠ .al p)
    (r1 : RepL K Z H .own (trees τ1) us1 Ψ1) (r2 : RepL K Z H .own (trees τ) us Ψ2) (d : ∀ b, ¬ (Ψ1 b ∧ Ψ2 b)) (u : ∀ b, Ψ b ↔ Ψ1 b ∨ Ψ2 b)
    (n1 : RepL K Z' H' .own (trees τ1') us1' Ψ1') (ch : Chg Z Z' H H' Ψ1 Ψ1') (hl' : τ1'.length = us1'.length) : EnvOk K c σ H' Γ (τ1' ++ τ) (us1' ++ us) := by
  obtain ⟨sl, tm, dj, so, to, ln, zo, zf, z0, zs, st, pv⟩ := E
  have nt1 := RepL.nt _ r1
  have tp : TSK K H H' := tsk fun b ob e n => ch.ob b ob e fun q => by
    have := nt1 b ob q e
    rw [n] at this
    cases this
  have kpF : Kp K Z Z' H H' Φ := ⟨ch.fz, ch.ln, fun b ob q e => ch.ob b ob e (by grind), tp⟩
  have kpT : Kp K Z Z' H H' Ψ2 := ⟨ch.fz, ch.ln, fun b ob q e => ch.ob b ob e (by grind), tp⟩
  have hsome := RepL.isS _ sl
  have hsome2 := RepL.isS _ r2
  have rk : ∀ {p : List Nat} {w : V}, (getG Γ p).isSome = true → Raw H ws p w → Raw H' ws p w := fun {p w} g r => Raw.keep sl (by rw [getG_getP g]; exact g) r fun b ob hb e => ch.ob b ob e (by grind)
  refine ⟨Z', ws, Φ, fun b => Ψ1' b ∨ Ψ2 b, ⟨RepL.fr _ sl kpF, ?_, ?_, ?_, ?_, ln, ?_, ?_, fun b q => ch.fz b (z0 b q), ch.zs, ?_, pv⟩⟩
  · have := RepL.append _ n1 (RepL.fr _ r2 kpT) (by
      intro b ⟨q1, q2⟩
      have h1 := ch.nw b q1
      have h2 := hsome2 b q2
      rcases h1.1 with z | z
      · exact d b ⟨z, q2⟩
      · rw [z] at h2; cases h2)
    simpa [trees] using this
  · intro b ⟨q1, q2⟩
    have h2 := hsome b q1
    rcases q2 with q2 | q2
    · have h1 := ch.nw b q2
      rcases h1.1 with z | z
      · exact dj b ⟨q1, (u b).mpr (.inl z)⟩
      · rw [z] at h2; cases h2
    · exact dj b ⟨q1, (u b).mpr (.inr q2)⟩
  · intro i e he
    have := so i e he
    cases e with
    | no => trivial
    | tr t => exact this
    | al p =>
      obtain ⟨w, h1, h2, h3⟩ := this
      exact ⟨w, h1, rk h3 h2, h3⟩
  · intro i p hp
    by_cases hi : i < τ1'.length
    · rw [List.getElem?_append_left hi] at hp
      exact absurd rfl (hal _ (List.mem_of_getElem? hp) p)
    · rw [List.getElem?_append_right (by omega)] at hp
      have := to (i - τ1'.length + τ1.length) p (by rw [List.getElem?_append_right (by omega)]; rw [show i - τ1'.length + τ1.length - τ1.length = i - τ1'.length by omega]; exact hp)
      obtain ⟨w, h1, h2, h3⟩ := this
      refine ⟨w, ?_, rk h3 h2, h3⟩
      rw [List.getElem?_append_right (by omega)] at h1 ⊢
      rw [show i - us1'.length = i - τ1'.length + τ1.length - us1.length by omega]
      exact h1
  · intro b q
    rcases q with q | q | q
    · have h1 := zo b (.inl q)
      have h2 := hsome b q
      refine ⟨h1.1, fun z => ?_, fun z => ?_⟩
      · rcases ch.fz' b z with z | z | z
        · exact h1.2.1 z
        · exact dj b ⟨q, (u b).mpr (.inl z)⟩
        · rw [z] at h2; cases h2
      · rcases ch.ln' b z with z | z | z
        · exact h1.2.2 z
        · exact dj b ⟨q, (u b).mpr (.inl z)⟩
        · rw [z] at h2; cases h2
    · have h1 := ch.nw b q
      refine ⟨?_, h1.2⟩
      rcases h1.1 with z | z
      · exact (zo b (.inr ((u b).mpr (.inl z)))).1
      · cases e0 : c.H0 b with
        | none => exact .inr rfl
        | some o0 =>
          obtain ⟨o', h', _⟩ := st b o0 e0
          rw [z] at h'; cases h'
    · have h1 := zo b (.inr ((u b).mpr (.inr q)))
      have h2 := hsome2 b q
      refine ⟨h1.1, fun z => ?_, fun z => ?_⟩
      · rcases ch.fz' b z with z | z | z
        · exact h1.2.1 z
        · exact d b ⟨z, q⟩
        · rw [z] at h2; cases h2
      · rcases ch.ln' b z with z | z | z
        · exact h1.2.2 z
        · exact d b ⟨z, q⟩
        · rw [z] at h2; cases h2
  · intro b z
    rcases ch.fz' b z with z | z | z
    · exact zf b z
    · exact .inr (zo b (.inr ((u b).mpr (.inl z)))).1
    · cases e0 : c.H0 b with
      | none => exact .inr (.inr rfl)
      | some o0 =>
        obtain ⟨o', h', _⟩ := st b o0 e0
        rw [z] at h'; cases h'
  · intro b o0 e0
    obtain ⟨o', h', hn⟩ := st b o0 e0
    by_cases q : Ψ1 b
    · obtain ⟨o2, e2⟩ := Option.isSome_iff_exists.mp (ch.oc b q)
      refine ⟨o2, e2, fun nf => ?_⟩
      rcases (zo b (.inr ((u b).mpr (.inl q)))).1 with z | z
      · exact absurd z nf
      · rw [z] at e0; cases e0
    · exact ⟨o', ch.ob b o' h' q, hn⟩
theorem Ev.swap {τ1 τ1' : List Ent} {us1 us1' : List V} {Ψ1' : Ps} (E : Ev K c Z ws Φ Ψ σ H Γ (τ1 ++ τ) (us1 ++ us)) (hl : τ1.length = us1.length) (hal : ∀ e ∈ τ1', ∀ p, e ≠ .al p)
    (step : ∀ Ψ1, RepL K Z H .own (trees τ1) us1 Ψ1 → RepL K Z' H' .own (trees τ1') us1' Ψ1' ∧ Chg Z Z' H H' Ψ1 Ψ1') (hl' : τ1'.length = us1'.length) : EnvOk K c σ H' Γ (τ1' ++ τ) (us1' ++ us) := by
  have tm' : RepL K Z H .own (trees τ1 ++ trees τ) (us1 ++ us) Ψ := by simpa [trees] using E.tm
  obtain ⟨v1, v2, Ψ1, Ψ2, e, r1, r2, d, u⟩ := RepL.split _ tm'
  have hl1 := RepL.len _ r1
  have hlt : (trees τ1).length = τ1.length := by simp [trees]
  obtain ⟨rfl, rfl⟩ := List.append_inj e (by omega)
  obtain ⟨n1, ch⟩ := step Ψ1 r1
  exact E.swapX hl hal r1 r2 d u n1 ch hl'
end
section
variable {K : KC} {Z Z' : Zn} {H H' : Hp} {m : Ow} {t t' : Tr} {ts : List Tr} {v w : V} {vs us ws : List V} {Φ Ψ : Ps} {a : Addr} {k : Nk} {o : Ow} {i : Nat} {p q : List Nat} {Γ τ : List Ent} {σ : St} {c : Cz} {e : Ent}
mutual
theorem Rep.cp0 : ∀ (t : Tr) {v : V} {Φ : Ps}, Rep K Z H .own t v Φ → cp t = true → ∀ b, ¬ Φ b
  | .any, _, _, h, _ => h
  | .a _, _, _, h, _ => h.2
  | .nd k o ts, v, Φ, h, q => by
    obtain ⟨a, vs, Ψ, _, _, hl, hn⟩ := h
    cases o with
    | own =>
      cases k with
      | tup => 
        have ih := RepL.cp0 ts hl (by simpa [cp] using q)
        have hn : ∀ b, Φ b ↔ Ψ b := hn
        exact fun b z => ih b ((hn b).mp z)
      | _ => simp [cp] at q
    | frz => cases k <;> simp_all [Nod, eff]
    | lnt => cases k <;> simp_all [Nod, eff]
theorem RepL.cp0 : ∀ (ts : List Tr) {vs : List V} {Φ : Ps}, RepL K Z H .own ts vs Φ → cpL ts = true → ∀ b, ¬ Φ b
  | [], _, _, h, _ => h.2
  | t :: ts, vs, Φ, h, q => by
    obtain ⟨v, vs', Φ1, Φ2, _, h1, h2, _, u⟩ := h
    simp only [cpL, Bool.and_eq_true] at q
    intro b z
    rcases (u b).mp z with z | z
    · exact Rep.cp0 t h1 q.1 b z
    · exact RepL.cp0 ts h2 q.2 b z
end
def kill (p : List Nat) (Γ : List Ent) : List Ent := Γ.map (killE p)
/-- every alias of the slot i is forgotten -/
def killR (i : Nat) : Ent → Ent
  | .al q => if q.head? = some i then .no else .al q
  | e => e
theorem trees_kill : trees (kill p Γ) = trees Γ := by
  simp only [trees, kill, List.map_map]
  congr 1
  funext e
  cases e with
  | al q => by_cases h : nbel p q = true <;> simp [killE, h, Ent.tree]
  | _ => rfl
theorem trees_killR : trees (Γ.map (killR i)) = trees Γ := by
  simp only [trees, List.map_map]
  congr 1
  funext e
  cases e with
  | al q => by_cases h : q.head? = some i <;> simp [killR, h, Ent.tree]
  | _ => rfl
theorem kill_at (h : (kill p Γ)[i]? = some e) : ∃ e', Γ[i]? = some e' ∧ e = killE p e' := by
  rw [kill, List.getElem?_map] at h
  cases q : Γ[i]? with
  | none => simp [q] at h
  | some x => exact ⟨x, rfl, by simpa [q, eq_comm] using h⟩
theorem getG_kill : getG (kill p Γ) q = getG Γ q := by
  cases q with
  | nil => rfl
  | cons j q =>
    simp only [getG, kill, List.getElem?_map]
    cases Γ[j]? with
    | none => rfl
    | some x =>
      cases x with
      | al r => by_cases h : nbel p r = true <;> simp [killE, h]
      | _ => rfl
theorem getG_isP (h : (getG Γ p).isSome = true) : (getP (trees Γ) p).isSome = true := by rw [getG_getP h]; exact h
theorem head_tr (h : (getG Γ (i :: p)).isSome = true) : ∃ t, Γ[i]? = some (.tr t) := by
  simp only [getG] at h
  cases e : Γ[i]? with
  | none => simp [e] at h
  | some x =>
    cases x with
    | no => simp [e] at h
    | al _ => simp [e] at h
    | tr t => exact ⟨t, rfl⟩
theorem setG_len : (setG Γ p t).length = Γ.length := by
  cases p with
  | nil => rfl
  | cons i p =>
    simp only [setG]
    split <;> simp
theorem getG_setG (h : (getG Γ q).isSome = true) (hp : (getG Γ p).isSome = true) (nb : nbel p q = true) : (getG (setG Γ p t) q).isSome = true := by
  have h2 := getP_setP (t := t) nb (getG_isP h)
  rw [← trees_setG hp] at h2
  cases q with
  | nil => simp [getG] at h
  | cons j q =>
    obtain ⟨x, hx⟩ := head_tr h
    have : ∃ y, (setG Γ p t)[j]? = some (.tr y) := by
      cases p with
      | nil => exact ⟨x, hx⟩
      | cons i p =>
        obtain ⟨z, hz⟩ := head_tr hp
        simp only [setG, hz]
        by_cases e : i = j
        · subst e
          exact ⟨_, List.getElem?_set_self (getq_lt' hz)⟩
        · exact ⟨x, by rw [List.getElem?_set_ne e]; exact hx⟩
    obtain ⟨y, hy⟩ := this
    have e1 : getP (trees (setG Γ p t)) (j :: q) = getT y q := getP_getT (by simp [trees, hy, Ent.tree])
    simp only [getG, hy]
    rw [← e1]
    exact h2
theorem nbel_any : ∀ {p q : List Nat} {ts : List Tr}, getP ts p = some .any → (getP ts q).isSome = true → nbel p q = true
  | [], _, _, h, _ => by simp [getP] at h
  | _, [], _, _, h => by simp [getP] at h
  | [i], [j], ts, _, _ => by simp [nbel]
  | [i], j :: j2 :: q, ts, h, g => by
    by_cases e : i = j
    · subst e
      have h : ts[i]? = some .any := h
      simp [getP, h] at g
    · simp [nbel, e]
  | i :: i2 :: p, [j], ts, _, _ => by simp [nbel]
  | i :: i2 :: p, j :: j2 :: q, ts, h, g => by
    by_cases e : i = j
    · subst e
      obtain ⟨k, us, e1, hk, h⟩ := getP_cons h
      obtain ⟨x, g⟩ := Option.isSome_iff_exists.mp g
      obtain ⟨k', us', e2, hk', g⟩ := getP_cons g
      rw [e1] at e2
      cases e2
      have := nbel_any h (show (getP us (j2 :: q)).isSome = true by rw [g]; rfl)
      simpa [nbel] using this
    · simp [nbel, e]
theorem setG_at {j : Nat} (h : (setG Γ p t)[j]? = some e) : (∃ x y, Γ[j]? = some (.tr x) ∧ e = .tr y) ∨ Γ[j]? = some e := by
  cases p with
  | nil => exact .inr h
  | cons i p =>
    simp only [setG] at h
    split at h
    · rename_i x hx
      by_cases q : i = j
      · subst q
        rw [List.getElem?_set_self (getq_lt' hx)] at h
        exact .inl ⟨x, _, hx, (Option.some.inj h).symm⟩
      · rw [List.getElem?_set_ne q] at h
        exact .inr h
    · exact .inr h
/-- what stands at a place is taken out and held by hand -/
theorem EnvOk.ext (E : EnvOk K c σ H Γ (.al p :: τ) (w :: us)) (g : getG Γ p = some t) : EnvOk K c σ H (kill p (setG Γ p .any)) (.tr t :: .al p :: kill p τ) (w :: w :: us) := by
  obtain ⟨Z, ws, Φ, Ψ, sl, tm, dj, so, to, ln, zo, zf, z0, zs, st, pv⟩ := E
  have gs : (getG Γ p).isSome = true := by rw [g]; rfl
  have g2 : getP (trees Γ) p = some t := by rw [getG_getP gs, g]
  obtain ⟨w', Φ1, Φ2, raw, r, d, u, r2, _⟩ := RepL.path sl g2
  obtain ⟨w0, e0, raw0, _⟩ := to 0 p rfl
  have e0 : w = w0 := Option.some.inj e0
  subst e0
  cases raw.fn raw0
  obtain ⟨v0, vs0, Θ1, Θ2, e1, a1, a2, ad, au⟩ := tm
  cases e1
  have a1 : ∀ b, ¬ Θ1 b := a1
  have npp : ∀ {p : List Nat}, nbel p p = true := by
    intro p
    induction p with
    | nil => rfl
    | cons i p ih => simp [nbel, ih]
  refine ⟨Z, ws, Φ2, fun b => Φ1 b ∨ Ψ b, ⟨?_, ?_, by grind, ?_, ?_, ?_, by grind, zf, z0, zs, st, pv⟩⟩
  · rw [trees_kill, trees_setG gs]
    exact r2
  · refine ⟨w, _, Φ1, Ψ, rfl, r, ⟨w, us, Θ1, Θ2, rfl, a1, ?_, ad, au⟩, by grind, fun _ => Iff.rfl⟩
    show RepL K Z H .own (trees (kill p τ)) us Θ2
    rw [trees_kill]
    exact a2
  · intro j e he
    obtain ⟨e', he', rfl⟩ := kill_at he
    rcases setG_at he' with ⟨x, y, hx, rfl⟩ | he'
    · exact so j _ hx
    · have h1 := so j e' he'
      cases e' with
      | no => trivial
      | tr x => exact h1
      | al q =>
        obtain ⟨w1, s1, s2, s3⟩ := h1
        by_cases nb : nbel p q = true
        · simp only [killE, nb, if_true]
          exact ⟨w1, s1, s2, by rw [getG_kill]; exact getG_setG s3 gs nb⟩
        · simp only [killE, nb]
          trivial
  · intro j q hj
    match j with
    | 0 => simp at hj
    | 1 =>
      simp at hj
      subst hj
      exact ⟨w, rfl, raw, by rw [getG_kill]; exact getG_setG gs gs npp⟩
    | j + 2 =>
      have hj : (kill p τ)[j]? = some (.al q) := by simpa using hj
      obtain ⟨e', he', hk⟩ := kill_at hj
      cases e' with
      | no => simp [killE] at hk
      | tr _ => simp [killE] at hk
      | al r =>
        by_cases nb : nbel p r = true
        · simp only [killE, nb, if_true] at hk
          cases hk
          obtain ⟨w1, s1, s2, s3⟩ := to (j + 1) q (by simpa using he')
          exact ⟨w1, by simpa using s1, s2, by rw [getG_kill]; exact getG_setG s3 gs nb⟩
        · simp [killE, nb] at hk
  · rw [ln]; simp [kill, setG_len]
/-- it is put back -/
theorem EnvOk.back (E : EnvOk K c σ H Γ (.tr t :: .al p :: τ) (w :: w :: us)) (g : getG Γ p = some .any) (he : esc t = true) : EnvOk K c σ H (setG Γ p t) (.al p :: τ) (w :: us) := by
  obtain ⟨Z, ws, Φ, Ψ, sl, tm, dj, so, to, ln, zo, zf, z0, zs, st, pv⟩ := E
  have gs : (getG Γ p).isSome = true := by rw [g]; rfl
  have g2 : getP (trees Γ) p = some .any := by rw [getG_getP gs, g]
  obtain ⟨w0, e0, raw0, _⟩ := to 1 p rfl
  have e0 : w = w0 := Option.some.inj e0
  subst e0
  obtain ⟨v0, vs0, Θ1, Θ2, e1, a1, a2, ad, au⟩ := tm
  cases e1
  have r3 := RepL.putP sl g2 raw0 a1 (by grind) he
  have nb : ∀ {q : List Nat}, (getG Γ q).isSome = true → nbel p q = true := fun h => nbel_any g2 (getG_isP h)
  refine ⟨Z, ws, fun b => Θ1 b ∨ Φ b, Θ2, ⟨by rw [trees_setG gs]; exact r3, a2, by grind, ?_, ?_, by rw [ln]; simp [setG_len], by grind, zf, z0, zs, st, pv⟩⟩
  · intro j e he
    rcases setG_at he with ⟨x, y, hx, rfl⟩ | he'
    · exact so j _ hx
    · have h1 := so j e he'
      cases e with
      | no => trivial
      | tr x => exact h1
      | al q =>
        obtain ⟨w1, s1, s2, s3⟩ := h1
        exact ⟨w1, s1, s2, getG_setG s3 gs (nb s3)⟩
  · intro j q hj
    obtain ⟨w1, s1, s2, s3⟩ := to (j + 1) q (by simpa using hj)
    exact ⟨w1, by simpa using s1, s2, getG_setG s3 gs (nb s3)⟩
end
def viewE (Γ : List Ent) : Ent → Option Tr
  | .tr t => some t
  | .al p => getG Γ p
  | .no => none
/-- the j-th item of what stands there -/
def kidE (e : Ent) (k : Nk) (o : Ow) (ts : List Tr) (j : Nat) : Option Ent := match ts[j]? with
  | none => none
  | some t => if cp (kid o t) = true then some (.tr (kid o t)) else match e, k with
    | .tr _, _ => some (.tr (kid o t))
    | .al _, .tup => none
    | .al p, _ => if o = .own then some (.al (p ++ [j])) else none
    | .no, _ => none
section
variable {K : KC} {Z Z' : Zn} {H H' : Hp} {m : Ow} {t t' : Tr} {ts : List Tr} {v w : V} {vs us ws : List V} {Φ Ψ : Ps} {a : Addr} {k : Nk} {o : Ow} {i j : Nat} {p q : List Nat} {Γ τ : List Ent} {σ : St} {c : Cz} {e e' : Ent}
theorem EnvOk.var (E : EnvOk K c σ H Γ τ us) (h : Γ[i]? = some (.tr t)) (hc : cp t = true) : ∃ v, σ[i]? = some (some v) ∧ EnvOk K c σ H Γ (.tr t :: τ) (v :: us) := by
  obtain ⟨Z, ws, Φ, Ψ, sl, tm, dj, so, to, ln, zo, zf, z0, zs, st, pv⟩ := E
  obtain ⟨v, hv, hs⟩ := so i _ h
  obtain ⟨v', Φ1, Φ2, e1, r, _⟩ := RepL.at_ _ sl (i := i) (t := t) (by simp [trees, h, Ent.tree])
  rw [hv] at e1
  cases e1
  have n0 := Rep.cp0 t r hc
  refine ⟨v, hs, Z, ws, Φ, Ψ, ⟨sl, ⟨v, us, Φ1, Ψ, rfl, r, tm, by grind, by grind⟩, dj, so, ?_, ln, zo, zf, z0, zs, st, pv⟩⟩
  intro j p hj
  match j with
  | 0 => simp at hj
  | j + 1 => exact to j p (by simpa using hj)
theorem EnvOk.pushA (E : EnvOk K c σ H Γ τ us) (h : ∀ ws, (∀ Z Φ Ψ, Ev K c Z ws Φ Ψ σ H Γ τ us → Raw H ws p v)) (g : (getG Γ p).isSome = true) : EnvOk K c σ H Γ (.al p :: τ) (v :: us) := by
  obtain ⟨Z, ws, Φ, Ψ, EE⟩ := E
  have raw := h ws Z Φ Ψ EE
  obtain ⟨sl, tm, dj, so, to, ln, zo, zf, z0, zs, st, pv⟩ := EE
  refine ⟨Z, ws, Φ, Ψ, ⟨sl, ⟨v, us, fun _ => False, Ψ, rfl, fun _ h => h, tm, by grind, by grind⟩, dj, so, ?_, ln, zo, zf, z0, zs, st, pv⟩⟩
  intro j q hj
  match j with
  | 0 =>
    simp at hj
    subst hj
    exact ⟨v, rfl, raw, g⟩
  | j + 1 => exact to j q (by simpa using hj)
theorem EnvOk.varP (E : EnvOk K c σ H Γ τ us) (h : Γ[i]? = some (.tr t)) : ∃ v, σ[i]? = some (some v) ∧ EnvOk K c σ H Γ (.al [i] :: τ) (v :: us) := by
  obtain ⟨Z, ws, Φ, Ψ, EE⟩ := id E
  obtain ⟨v, hv, hs⟩ := EE.so i _ h
  refine ⟨v, hs, E.pushA (fun ws2 Z2 Φ2 Ψ2 EE2 => ?_) (by simp [getG, h, getT])⟩
  obtain ⟨v2, hv2, hs2⟩ := EE2.so i _ h
  rw [hs] at hs2
  cases hs2
  exact hv2
theorem EnvOk.varA (E : EnvOk K c σ H Γ τ us) (h : Γ[i]? = some (.al p)) : ∃ v, σ[i]? = some (some v) ∧ EnvOk K c σ H Γ (.al p :: τ) (v :: us) := by
  obtain ⟨Z, ws, Φ, Ψ, EE⟩ := id E
  obtain ⟨v, hs, raw, g⟩ := EE.so i _ h
  refine ⟨v, hs, E.pushA (fun ws2 Z2 Φ2 Ψ2 EE2 => ?_) g⟩
  obtain ⟨v2, hs2, raw2, _⟩ := EE2.so i _ h
  rw [hs] at hs2
  cases hs2
  exact raw2
theorem Ev.view (E : Ev K c Z ws Φ Ψ σ H Γ τ us) {n : Nat} (h1 : τ[n]? = some e) (h2 : us[n]? = some v) (hv : viewE Γ e = some t) : ∃ Θ, Rep K Z H .own t v Θ := by
  cases e with
  | no => simp [viewE] at hv
  | tr x =>
    obtain ⟨v', Φ1, Φ2, e1, r, _⟩ := RepL.at_ _ E.tm (i := n) (t := x) (by simp [trees, h1, Ent.tree])
    rw [h2] at e1
    cases e1
    simp only [viewE] at hv
    cases hv
    exact ⟨Φ1, r⟩
  | al p =>
    obtain ⟨w, e1, raw, g⟩ := E.to n p h1
    rw [h2] at e1
    cases e1
    obtain ⟨w', Φ1, Φ2, raw', r, _⟩ := RepL.path E.sl (p := p) (t := t) (by rw [getG_getP g]; exact hv)
    cases raw.fn raw'
    exact ⟨Φ1, r⟩
theorem Chg.same (Z : Zn) (H : Hp) (Ψ : Ps) (zs : ∀ b, Z.fz b ∨ Z.ln b → (H b).isSome = true) (hs : ∀ b, Ψ b → (H b).isSome = true) (Ψ' : Ps) (n : ∀ b, Ψ' b → Ψ b ∧ ¬ Z.fz b ∧ ¬ Z.ln b) : Chg Z Z H H Ψ Ψ' :=
  ⟨fun _ h => h, fun _ h => h, fun _ h => .inl h, fun _ h => .inl h, zs, fun _ _ h _ => h, hs, fun b q => ⟨.inl (n b q).1, (n b q).2⟩⟩
/-- the top is dropped -/
theorem EnvOk.drop (E : EnvOk K c σ H Γ (e :: τ) (v :: us)) : EnvOk K c σ H Γ τ us := by
  obtain ⟨Z, ws, Φ, Ψ, EE⟩ := E
  exact EE.swap (τ1 := [e]) (us1 := [v]) (τ1' := []) (us1' := []) (Ψ1' := fun _ => False) rfl (by simp) (fun Ψ1 r => ⟨⟨rfl, fun _ h => h⟩, .same _ _ _ EE.zs (fun b q => RepL.isS _ r b q) _ (by simp)⟩) rfl
theorem EnvOk.atom (E : EnvOk K c σ H Γ τ us) (v : V) : EnvOk K c σ H Γ (.tr (.a v) :: τ) (v :: us) := by
  obtain ⟨Z, ws, Φ, Ψ, EE⟩ := E
  exact EE.swap (τ1 := []) (us1 := []) (τ1' := [.tr (.a v)]) (us1' := [v]) (Ψ1' := fun _ => False) rfl (by simp) (fun Ψ1 r => ⟨⟨v, [], fun _ => False, fun _ => False, rfl, ⟨rfl, fun _ h => h⟩, ⟨rfl, fun _ h => h⟩, by simp, by simp⟩, .same _ _ _ EE.zs (fun b q => RepL.isS _ r b q) _ (by simp)⟩) rfl
theorem Raw.snoc : ∀ {p : List Nat} {vs us : List V} {w w' : V}, Raw H vs p w → Kids H w us → us[j]? = some w' → Raw H vs (p ++ [j]) w'
  | [], _, _, _, _, r, _, _ => r.elim
  | [i], vs, us, w, w', r, kd, e => ⟨w, us, r, kd, e⟩
  | i :: i2 :: p, vs, us, w, w', r, kd, e => by
    obtain ⟨v, us2, e1, k1, r⟩ := r
    exact ⟨v, us2, e1, k1, r.snoc kd e⟩
theorem getT_snoc : ∀ {p : List Nat} {t : Tr}, getT t p = some (.nd k .own ts) → k ≠ .tup → getT t (p ++ [j]) = ts[j]?
  | [], t, h, hk => by
    cases h
    show getT _ [j] = _
    cases k <;> simp_all [getT] <;> cases ts[j]? <;> rfl
  | i :: p, t, h, hk => by
    cases t with
    | any => simp [getT] at h
    | a v => simp [getT] at h
    | nd k' o us =>
      cases k' <;> cases o <;> simp_all [getT]
      all_goals
        cases e : us[i]? with
        | none => simp [e] at h
        | some y =>
          simp only [e] at h ⊢
          exact getT_snoc h hk
theorem getG_snoc (h : getG Γ p = some (.nd k .own ts)) (hk : k ≠ .tup) : getG Γ (p ++ [j]) = ts[j]? := by
  cases p with
  | nil => simp [getG] at h
  | cons i p =>
    simp only [getG, List.cons_append] at h ⊢
    cases e : Γ[i]? with
    | none => simp [e] at h
    | some x =>
      cases x with
      | no => simp [e] at h
      | al _ => simp [e] at h
      | tr t =>
        simp only [e] at h ⊢
        exact getT_snoc h hk
theorem EnvOk.kidOf (E : EnvOk K c σ H Γ (e :: τ) (w :: us)) (hv : viewE Γ e = some (.nd k o ts)) (hk : kidE e k o ts j = some e') :
    ∃ a vs w', w = .ref a ∧ ObjAt K k o H a vs ∧ ts.length = vs.length ∧ vs[j]? = some w' ∧ EnvOk K c σ H Γ (e' :: τ) (w' :: us) := by
  obtain ⟨Z, ws, Φ, Ψ, EE⟩ := id E
  have view : ∃ Θ, Rep K Z H .own (.nd k o ts) w Θ ∧ ∀ x, e = .tr x → ∃ Ψ2, RepL K Z H .own (trees τ) us Ψ2 ∧ (∀ b, ¬ (Θ b ∧ Ψ2 b)) ∧ ∀ b, Ψ b ↔ Θ b ∨ Ψ2 b := by
    cases e with
    | tr x =>
      obtain ⟨v0, vs0, Θ1, Θ2, e1, a1, a2, ad, au⟩ := EE.tm
      cases e1
      simp only [viewE] at hv
      cases hv
      exact ⟨Θ1, a1, fun _ _ => ⟨Θ2, a2, ad, au⟩⟩
    | no => simp [viewE] at hv
    | al p =>
      obtain ⟨Θ, r⟩ := EE.view (n := 0) rfl rfl hv
      exact ⟨Θ, r, fun _ h => by cases h⟩
  obtain ⟨Θ, rT, rX⟩ := view
  obtain ⟨a, vs, Ξ, rfl, ho, hl, hn⟩ := id rT
  have ho : ObjAt K k o H a vs := ho
  have hl : RepL K Z H o ts vs Ξ := hl
  have hn : Nod Z k o a ts Ξ Θ := hn
  unfold kidE at hk
  cases ht : ts[j]? with
  | none => simp [ht] at hk
  | some t =>
    simp only [ht] at hk
    obtain ⟨w', Ξ1, Ξ2, e1, r1, d1, u1, _⟩ := RepL.at_ _ hl ht
    refine ⟨a, vs, w', rfl, ho, RepL.len _ hl, e1, ?_⟩
    have r1' : Rep K Z H .own (kid o t) w' Ξ1 := rep_kid.mpr r1
    by_cases hc : cp (kid o t) = true
    · rw [if_pos hc] at hk
      cases hk
      have n0 := Rep.cp0 _ r1' hc
      exact EE.swap (τ1 := [e]) (us1 := [.ref a]) (τ1' := [.tr (kid o t)]) (us1' := [w']) (Ψ1' := Ξ1) rfl (by simp) (fun Ψ1 r => ⟨⟨w', [], Ξ1, fun _ => False, rfl, r1', ⟨rfl, fun _ h => h⟩, by grind, by grind⟩, .same _ _ _ EE.zs (fun b q => RepL.isS _ r b q) _ (by grind)⟩) rfl
    · rw [if_neg hc] at hk
      cases e with
      | no => simp [viewE] at hv
      | tr x =>
        simp only at hk
        cases hk
        simp only [viewE] at hv
        cases hv
        obtain ⟨Ψ2, rR, rD, rU⟩ := rX _ rfl
        exact EE.swapX (τ1 := [.tr (.nd k o ts)]) (us1 := [.ref a]) (τ1' := [.tr (kid o t)]) (us1' := [w']) (Ψ1 := Θ) (Ψ1' := Ξ1) rfl (by simp) ⟨.ref a, [], Θ, fun _ => False, rfl, rT, ⟨rfl, fun _ h => h⟩, by grind, by grind⟩ rR rD rU ⟨w', [], Ξ1, fun _ => False, rfl, r1', ⟨rfl, fun _ h => h⟩, by grind, by grind⟩ (.same _ _ _ EE.zs (Rep.isS _ rT) _ (by
          intro b q
          have hb : Θ b := by
            by_cases eo : o = .own
            · exact hn.sub eo b ((u1 b).mpr (.inl q))
            · exact absurd ((u1 b).mpr (.inl q)) (RepL.no0 _ eo hl b)
          exact ⟨hb, (EE.zo b (.inr ((rU b).mpr (.inl hb)))).2⟩)) rfl
      | al p =>
        have g : getG Γ p = some (.nd k o ts) := hv
        obtain ⟨w0, e0, raw, gg⟩ := EE.to 0 p rfl
        cases e0
        have : k ≠ .tup ∧ o = .own ∧ e' = .al (p ++ [j]) := by
          cases k <;> simp_all
          all_goals grind
        obtain ⟨h1, rfl, rfl⟩ := this
        have gs2 : (getG Γ (p ++ [j])).isSome = true := by rw [getG_snoc g h1, ht]; rfl
        have raw2 := raw.snoc (objKids ho h1) e1
        obtain ⟨sl, tm, dj, so, to, ln, zo, zf, z0, zs, st, pv⟩ := EE
        obtain ⟨v0, vs0, Θ1, Θ2, e2, a1, a2, ad, au⟩ := tm
        cases e2
        refine ⟨Z, ws, Φ, Ψ, ⟨sl, ⟨w', us, Θ1, Θ2, rfl, a1, a2, ad, au⟩, dj, so, ?_, ln, zo, zf, z0, zs, st, pv⟩⟩
        intro i q hi
        match i with
        | 0 =>
          simp at hi
          subst hi
          exact ⟨w', rfl, raw2, gs2⟩
        | i + 1 =>
          obtain ⟨w1, s1, s2, s3⟩ := to (i + 1) q (by simpa using hi)
          exact ⟨w1, by simpa using s1, s2, s3⟩
end
section
variable {K : KC} {Z Z' : Zn} {H H' : Hp} {m : Ow} {t t' : Tr} {ts : List Tr} {v w : V} {vs us ws : List V} {Φ Ψ : Ps} {a : Addr} {k : Nk} {o : Ow} {i j : Nat} {p q : List Nat} {Γ τ : List Ent} {σ : St} {c : Cz} {e e' : Ent}
theorem RepL.anyv : ∀ (ts : List Tr) {vs : List V} {Φ : Ps} {i : Nat}, RepL K Z H m ts vs Φ → ts[i]? = some .any → RepL K Z H m ts (vs.set i v) Φ
  | [], _, _, _, _, q => by simp at q
  | x :: ts, vs, Φ, 0, h, q => by
    obtain ⟨v', vs', Φ1, Φ2, e1, h1, h2, d1, u⟩ := h
    cases q
    subst e1
    exact ⟨v, vs', Φ1, Φ2, rfl, h1, h2, d1, u⟩
  | x :: ts, vs, Φ, i + 1, h, q => by
    obtain ⟨v', vs', Φ1, Φ2, e1, h1, h2, d1, u⟩ := h
    subst e1
    exact ⟨v', vs'.set i v, Φ1, Φ2, rfl, h1, RepL.anyv ts h2 (by simpa using q), d1, u⟩
theorem Raw.setv (h : q.head? ≠ some i) (r : Raw H ws q w) : Raw H (ws.set i v) q w := by
  match q with
  | [] => exact r
  | [j] =>
    have : i ≠ j := fun e => h (by rw [e]; rfl)
    show (ws.set i v)[j]? = some w
    rw [List.getElem?_set_ne this]
    exact r
  | j :: j2 :: q =>
    have : i ≠ j := fun e => h (by rw [e]; rfl)
    obtain ⟨v', us, e1, k1, r⟩ := r
    exact ⟨v', us, by rw [List.getElem?_set_ne this]; exact e1, k1, r⟩
theorem getG_ne (h : q.head? ≠ some i) : getG ((Γ.map (killR i)).set i e) q = getG Γ q := by
  match q with
  | [] => rfl
  | j :: q =>
    have : i ≠ j := fun e => h (by rw [e]; rfl)
    simp only [getG]
    rw [List.getElem?_set_ne this, List.getElem?_map]
    cases Γ[j]? with
    | none => rfl
    | some x =>
      cases x with
      | al r => by_cases h : r.head? = some i <;> simp [killR, h]
      | _ => rfl
theorem killR_at (h : (Γ.map (killR i))[j]? = some e) : ∃ e', Γ[j]? = some e' ∧ e = killR i e' := by
  rw [List.getElem?_map] at h
  cases q : Γ[j]? with
  | none => simp [q] at h
  | some x => exact ⟨x, rfl, by simpa [q, eq_comm] using h⟩
theorem EnvOk.setT (E : EnvOk K c σ H Γ (.tr t :: τ) (v :: us)) (hi : i < Γ.length) (hm : c.md[i]? ≠ some true) : EnvOk K c (σ.set i (some v)) H ((Γ.map (killR i)).set i (.tr t)) (τ.map (killR i)) us := by
  obtain ⟨Z, ws, Φ, Ψ, sl, tm, dj, so, to, ln, zo, zf, z0, zs, st, pv⟩ := E
  obtain ⟨v0, vs0, Θ1, Θ2, e1, a1, a2, ad, au⟩ := tm
  cases e1
  have hlt : i < (trees Γ).length := by simpa [trees] using hi
  obtain ⟨v', Φ1, Φ2, e2, r, d, u, r2, _⟩ := RepL.at_ _ sl (i := i) (t := (trees Γ)[i]) (List.getElem?_eq_getElem hlt)
  have hw : i < ws.length := getq_lt' e2
  have g1 : ((trees Γ).set i .any)[i]? = some .any := List.getElem?_set_self hlt
  have r3 := RepL.put _ (RepL.anyv (v := v) _ r2 g1) g1 (List.getElem?_set_self hw) a1 (by grind)
  rw [List.set_set] at r3
  have et : trees ((Γ.map (killR i)).set i (.tr t)) = (trees Γ).set i t := by
    have := trees_killR (Γ := Γ) (i := i)
    simp only [trees, List.map_set] at this ⊢
    rw [this]
    rfl
  refine ⟨Z, ws.set i v, fun b => Θ1 b ∨ Φ2 b, Θ2, ⟨by rw [et]; exact r3, ?_, by grind, ?_, ?_, by simp [ln], by grind, zf, z0, zs, st, ?_⟩⟩
  · show RepL K Z H .own (trees (τ.map (killR i))) us Θ2
    rw [trees_killR]
    exact a2
  · intro j e he
    by_cases hj : i = j
    · subst hj
      rw [List.getElem?_set_self (by simpa using hi)] at he
      cases he
      exact ⟨v, List.getElem?_set_self hw, List.getElem?_set_self (by omega)⟩
    · rw [List.getElem?_set_ne hj] at he
      obtain ⟨e', he', rfl⟩ := killR_at he
      have h1 := so j e' he'
      cases e' with
      | no => trivial
      | tr x =>
        obtain ⟨x1, x2, x3⟩ := h1
        exact ⟨x1, by rw [List.getElem?_set_ne hj]; exact x2, by rw [List.getElem?_set_ne hj]; exact x3⟩
      | al q =>
        obtain ⟨x1, x2, x3, x4⟩ := h1
        by_cases hq : q.head? = some i
        · simp only [killR, hq, if_true]
          trivial
        · simp only [killR, hq, if_false]
          exact ⟨x1, by rw [List.getElem?_set_ne hj]; exact x2, x3.setv hq, by rw [getG_ne hq]; exact x4⟩
  · intro j q hj
    obtain ⟨e', he', hk⟩ := killR_at hj
    cases e' with
    | no => simp [killR] at hk
    | tr _ => simp [killR] at hk
    | al r =>
      by_cases hq : r.head? = some i
      · simp [killR, hq] at hk
      · simp only [killR, hq, if_false] at hk
        cases hk
        obtain ⟨w1, s1, s2, s3⟩ := to (j + 1) q (by simpa using he')
        exact ⟨w1, by simpa using s1, s2.setv hq, by rw [getG_ne hq]; exact s3⟩
  · intro j hj
    have : i ≠ j := fun e => hm (by rw [e]; exact hj)
    rw [List.getElem?_set_ne this]
    exact pv j hj
theorem EnvOk.setA (E : EnvOk K c σ H Γ (.al p :: τ) (v :: us)) (hi : i < Γ.length) (hm : c.md[i]? ≠ some true) (hp : p.head? ≠ some i) : EnvOk K c (σ.set i (some v)) H ((Γ.map (killR i)).set i (.al p)) (τ.map (killR i)) us := by
  obtain ⟨Z, ws, Φ, Ψ, sl, tm, dj, so, to, ln, zo, zf, z0, zs, st, pv⟩ := E
  obtain ⟨w0, e0, raw0, g0⟩ := to 0 p rfl
  cases e0
  obtain ⟨v0, vs0, Θ1, Θ2, e1, a1, a2, ad, au⟩ := tm
  cases e1
  have a1 : ∀ b, ¬ Θ1 b := a1
  have hlt : i < (trees Γ).length := by simpa [trees] using hi
  obtain ⟨v', Φ1, Φ2, e2, r, d, u, r2, _⟩ := RepL.at_ _ sl (i := i) (t := (trees Γ)[i]) (List.getElem?_eq_getElem hlt)
  have et : trees ((Γ.map (killR i)).set i (.al p)) = (trees Γ).set i .any := by
    have := trees_killR (Γ := Γ) (i := i)
    simp only [trees, List.map_set] at this ⊢
    rw [this]
    rfl
  refine ⟨Z, ws, Φ2, Θ2, ⟨by rw [et]; exact r2, ?_, by grind, ?_, ?_, by simp [ln], by grind, zf, z0, zs, st, pv⟩⟩
  · show RepL K Z H .own (trees (τ.map (killR i))) us Θ2
    rw [trees_killR]
    exact a2
  · intro j e he
    by_cases hj : i = j
    · subst hj
      rw [List.getElem?_set_self (by simpa using hi)] at he
      cases he
      exact ⟨v, List.getElem?_set_self (by omega), raw0, by rw [getG_ne hp]; exact g0⟩
    · rw [List.getElem?_set_ne hj] at he
      obtain ⟨e', he', rfl⟩ := killR_at he
      have h1 := so j e' he'
      cases e' with
      | no => trivial
      | tr x =>
        obtain ⟨x1, x2, x3⟩ := h1
        exact ⟨x1, x2, by rw [List.getElem?_set_ne hj]; exact x3⟩
      | al q =>
        obtain ⟨x1, x2, x3, x4⟩ := h1
        by_cases hq : q.head? = some i
        · simp only [killR, hq, if_true]
          trivial
        · simp only [killR, hq, if_false]
          exact ⟨x1, by rw [List.getElem?_set_ne hj]; exact x2, x3, by rw [getG_ne hq]; exact x4⟩
  · intro j q hj
    obtain ⟨e', he', hk⟩ := killR_at hj
    cases e' with
    | no => simp [killR] at hk
    | tr _ => simp [killR] at hk
    | al r =>
      by_cases hq : r.head? = some i
      · simp [killR, hq] at hk
      · simp only [killR, hq, if_false] at hk
        cases hk
        obtain ⟨w1, s1, s2, s3⟩ := to (j + 1) q (by simpa using he')
        exact ⟨w1, by simpa using s1, s2, by rw [getG_ne hq]; exact s3⟩
theorem RepL.reverse : ∀ (ts : List Tr) {vs : List V} {Φ : Ps}, RepL K Z H m ts vs Φ → RepL K Z H m ts.reverse vs.reverse Φ
  | [], vs, Φ, h => by
    obtain ⟨rfl, h2⟩ := h
    exact ⟨rfl, h2⟩
  | t :: ts, vs, Φ, h => by
    obtain ⟨v', vs', Φ1, Φ2, e1, h1, h2, d1, u⟩ := h
    subst e1
    rw [List.reverse_cons, List.reverse_cons]
    have r1 : RepL K Z H m [t] [v'] Φ1 := ⟨v', [], Φ1, fun _ => False, rfl, h1, ⟨rfl, fun _ h => h⟩, by grind, by grind⟩
    exact (RepL.append _ (RepL.reverse ts h2) r1 (by grind)).cast _ (by grind)
/-- how a new node is marked -/
def mkN (k : Nk) (ts : List Tr) : Option Tr := if k = .tup then some (.nd .tup .own ts) else if escL ts = true then some (.nd k .own ts) else if cpL ts = true then some (.nd k .lnt ts) else none
mutual
theorem Rep.lend : ∀ (t : Tr) {m : Ow} {v : V} {Φ : Ps}, Rep K Z H m t v Φ → (∀ b, Z.fz b → Z'.fz b) → (∀ b, Z.ln b ∨ Φ b → Z'.ln b) → Rep K Z' H (eff .lnt m) t v (fun _ => False)
  | .any, _, _, _, h, _, _ => fun _ h => h
  | .a _, _, _, _, h, _, _ => ⟨h.1, fun _ h => h⟩
  | .nd k o ts, m, v, Φ, h, f, l => by
    obtain ⟨a, vs, Ψ, e1, ho, hl, hn⟩ := h
    have ee : eff (eff .lnt m) o = eff .lnt (eff m o) := by cases m <;> cases o <;> rfl
    have sub : ∀ b, Ψ b → Φ b := by
      intro b q
      by_cases eo : eff m o = .own
      · exact hn.sub eo b q
      · exact absurd q (RepL.no0 ts eo hl b)
    refine ⟨a, vs, fun _ => False, e1, ?_, ?_, ?_⟩
    · rw [ee]
      exact ho.weak (by cases eff m o <;> simp [eff])
    · rw [ee]
      exact RepL.lend ts hl f fun b q => l b (q.imp id (sub b))
    · rw [ee]
      cases k <;> cases eo : eff m o <;> simp_all [Nod, eff]
theorem RepL.lend : ∀ (ts : List Tr) {m : Ow} {vs : List V} {Φ : Ps}, RepL K Z H m ts vs Φ → (∀ b, Z.fz b → Z'.fz b) → (∀ b, Z.ln b ∨ Φ b → Z'.ln b) → RepL K Z' H (eff .lnt m) ts vs (fun _ => False)
  | [], _, _, _, h, _, _ => ⟨h.1, fun _ h => h⟩
  | t :: ts, m, vs, Φ, h, f, l => by
    obtain ⟨v', vs', Φ1, Φ2, e1, h1, h2, d1, u⟩ := h
    exact ⟨v', vs', _, _, e1, Rep.lend t h1 f (by grind), RepL.lend ts h2 f (by grind), by simp, by simp⟩
end
mutual
theorem Rep.freeze : ∀ (t : Tr) {m : Ow} {v : V} {Φ : Ps}, Rep K Z H m t v Φ → m ≠ .lnt → (m = .own → esc t = true) → (∀ b, Z.fz b ∨ Φ b → Z'.fz b) → Rep K Z' H .frz t v (fun _ => False)
  | .any, _, _, _, h, _, _, _ => fun _ h => h
  | .a _, _, _, _, h, _, _, _ => ⟨h.1, fun _ h => h⟩
  | .nd k o ts, m, v, Φ, h, hm, he, f => by
    obtain ⟨a, vs, Ψ, e1, ho, hl, hn⟩ := h
    have sub : ∀ b, Ψ b → Φ b := by
      intro b q
      by_cases eo : eff m o = .own
      · exact hn.sub eo b q
      · exact absurd q (RepL.no0 ts eo hl b)
    have nl : eff m o ≠ .lnt := by
      cases m with
      | lnt => exact absurd rfl hm
      | frz => simp [eff]
      | own =>
        have := he rfl
        cases k <;> cases o <;> simp_all [esc, eff]
    have ee : eff .frz o = .frz := rfl
    refine ⟨a, vs, fun _ => False, e1, ?_, ?_, ?_⟩
    · rw [ee]
      exact ho.weak (by simp)
    · rw [ee]
      refine RepL.freeze ts hl nl (fun q => ?_) fun b q => f b (q.imp id (sub b))
      cases m with
      | lnt => exact absurd rfl hm
      | frz => simp [eff] at q
      | own =>
        have := he rfl
        cases k <;> cases o <;> simp_all [esc, eff, Nod]
    · rw [ee]
      cases k <;> cases eo : eff m o <;> simp_all [Nod]
theorem RepL.freeze : ∀ (ts : List Tr) {m : Ow} {vs : List V} {Φ : Ps}, RepL K Z H m ts vs Φ → m ≠ .lnt → (m = .own → escL ts = true) → (∀ b, Z.fz b ∨ Φ b → Z'.fz b) → RepL K Z' H .frz ts vs (fun _ => False)
  | [], _, _, _, h, _, _, _ => ⟨h.1, fun _ h => h⟩
  | t :: ts, m, vs, Φ, h, hm, he, f => by
    obtain ⟨v', vs', Φ1, Φ2, e1, h1, h2, d1, u⟩ := h
    exact ⟨v', vs', _, _, e1, Rep.freeze t h1 hm (fun q => by have := he q; simp_all [escL]) (by grind), RepL.freeze ts h2 hm (fun q => by have := he q; simp_all [escL]) (by grind), by simp, by simp⟩
end
end
section
variable {K : KC} {Z Z' : Zn} {H H' : Hp} {m : Ow} {t t' : Tr} {ts : List Tr} {v w : V} {vs us ws : List V} {Φ Ψ : Ps} {a : Addr} {k k' : Nk} {o : Ow} {i j : Nat} {p q : List Nat} {Γ τ τ1 τ1' : List Ent} {σ : St} {c : Cz} {e e' : Ent}
theorem Ev.swapE {us1 us1' : List V} (E : Ev K c Z ws Φ Ψ σ H Γ (τ1 ++ τ) (us1 ++ us)) (hl : τ1.length = us1.length) (hal : ∀ e ∈ τ1', ∀ p, e ≠ .al p)
    (step : ∀ Ψ1, RepL K Z H .own (trees τ1) us1 Ψ1 → (∀ b, Ψ1 b → ¬ Z.fz b ∧ ¬ Z.ln b) → ∃ Z' Ψ1', RepL K Z' H' .own (trees τ1') us1' Ψ1' ∧ Chg Z Z' H H' Ψ1 Ψ1') (hl' : τ1'.length = us1'.length) : EnvOk K c σ H' Γ (τ1' ++ τ) (us1' ++ us) := by
  have tm' : RepL K Z H .own (trees τ1 ++ trees τ) (us1 ++ us) Ψ := by simpa [trees] using E.tm
  obtain ⟨v1, v2, Ψ1, Ψ2, e, r1, r2, d, u⟩ := RepL.split _ tm'
  have hl1 := RepL.len _ r1
  have hlt : (trees τ1).length = τ1.length := by simp [trees]
  obtain ⟨rfl, rfl⟩ := List.append_inj e (by omega)
  obtain ⟨Z', Ψ1', n1, ch⟩ := step Ψ1 r1 fun b q => (E.zo b (.inr ((u b).mpr (.inl q)))).2
  exact E.swapX hl hal r1 r2 d u n1 ch hl'
theorem upd_kp {pa : Addr} {ob : HO} (hp : H pa = none) (Φ : Ps) : Kp K Z Z H (upd H pa ob) Φ :=
  ⟨fun _ h => h, fun _ h => h, fun b o _ e => by rw [upd_ne (ne_of_none e hp)]; exact e, tsk fun b o e _ => by rw [upd_ne (ne_of_none e hp)]; exact e⟩
theorem trees_tr : trees (ts.map Ent.tr) = ts := by
  simp only [trees, List.map_map]
  exact List.map_id' ts
theorem EnvOk.new {pa : Addr} {ob : HO} (E : EnvOk K c σ H Γ (ts.reverse.map Ent.tr ++ τ) (vs.reverse ++ us)) (hl : ts.length = vs.length) (hp : H pa = none) (hk : mkN k ts = some t) (ho : ∀ o, ObjAt K k o (upd H pa ob) pa vs) : EnvOk K c σ (upd H pa ob) Γ (.tr t :: τ) (.ref pa :: us) := by
  obtain ⟨Z, ws, Φ, Ψ, EE⟩ := E
  refine EE.swapE (τ1' := [.tr t]) (us1' := [.ref pa]) (by simp [hl]) (by simp) (fun Ψ1 r zo => ?_) rfl
  rw [trees_tr] at r
  have r := RepL.reverse _ r
  rw [List.reverse_reverse, List.reverse_reverse] at r
  have r2 := RepL.fr _ r (upd_kp (K := K) (Z := Z) (ob := ob) hp Ψ1)
  have hs := RepL.isS _ r
  have np : ¬ Ψ1 pa := fun q => by have := hs pa q; rw [hp] at this; cases this
  have nz : ∀ b, Z.fz b ∨ Z.ln b → b ≠ pa := fun b q e => by have := EE.zs b q; rw [e, hp] at this; cases this
  have kb : ∀ b, (H b).isSome = true → (upd H pa ob b).isSome = true := fun b q => by
    by_cases e : b = pa
    · rw [e, upd_same]; rfl
    · rw [upd_ne e]; exact q
  have one : ∀ {Z' : Zn} {Θ : Ps}, Rep K Z' (upd H pa ob) .own t (.ref pa) Θ → RepL K Z' (upd H pa ob) .own (trees [.tr t]) [.ref pa] Θ := fun {Z' Θ} h => ⟨.ref pa, [], Θ, fun _ => False, rfl, h, ⟨rfl, fun _ h => h⟩, by simp, by simp⟩
  unfold mkN at hk
  by_cases h1 : k = .tup
  · rw [if_pos h1] at hk
    cases hk
    subst h1
    refine ⟨Z, Ψ1, one ⟨pa, vs, Ψ1, rfl, ho _, r2, fun _ => Iff.rfl⟩, ⟨fun _ h => h, fun _ h => h, fun _ h => .inl h, fun _ h => .inl h, fun b q => kb b (EE.zs b q), fun b o e _ => by rw [upd_ne (ne_of_none e hp)]; exact e, fun b q => kb b (hs b q), fun b q => ⟨.inl q, zo b q⟩⟩⟩
  · rw [if_neg h1] at hk
    by_cases h2 : escL ts = true
    · rw [if_pos h2] at hk
      cases hk
      refine ⟨Z, fun b => b = pa ∨ Ψ1 b, one ⟨pa, vs, Ψ1, rfl, ho _, r2, .mk h1 (fun _ => Iff.rfl) np h2⟩, ⟨fun _ h => h, fun _ h => h, fun _ h => .inl h, fun _ h => .inl h, fun b q => kb b (EE.zs b q), fun b o e _ => by rw [upd_ne (ne_of_none e hp)]; exact e, fun b q => kb b (hs b q), fun b q => ?_⟩⟩
      rcases q with q | q
      · subst q
        exact ⟨.inr hp, fun z => nz b (.inl z) rfl, fun z => nz b (.inr z) rfl⟩
      · exact ⟨.inl q, zo b q⟩
    · rw [if_neg h2] at hk
      by_cases h3 : cpL ts = true
      · rw [if_pos h3] at hk
        cases hk
        have n0 := RepL.cp0 _ r h3
        refine ⟨⟨Z.fz, fun b => b = pa ∨ Z.ln b⟩, fun _ => False, one ⟨pa, vs, fun _ => False, rfl, ho _, ?_, ?_⟩, ⟨fun _ h => h, fun _ h => .inr h, fun _ h => .inl h, fun b h => ?_, fun b q => ?_, fun b o e _ => by rw [upd_ne (ne_of_none e hp)]; exact e, fun b q => kb b (hs b q), fun b q => q.elim⟩⟩
        · exact RepL.lend (m := .own) ts r2 (fun _ h => h) fun b q => .inr (q.elim id fun z => absurd z (n0 b))
        · cases k with
          | tup => exact absurd rfl h1
          | _ => exact ⟨fun _ h => h, .inl rfl⟩
        · rcases h with h | h
          · exact .inr (.inr (by rw [h]; exact hp))
          · exact .inl h
        · rcases q with q | q | q
          · exact kb b (EE.zs b (.inl q))
          · rw [q, upd_same]; rfl
          · exact kb b (EE.zs b (.inr q))
      · rw [if_neg h3] at hk
        cases hk
theorem EnvOk.lend (E : EnvOk K c σ H Γ (.tr t :: τ) (v :: us)) : EnvOk K c σ H Γ (.tr (kid .lnt t) :: τ) (v :: us) := by
  obtain ⟨Z, ws, Φ, Ψ, EE⟩ := E
  refine EE.swapE (τ1 := [.tr t]) (us1 := [v]) (τ1' := [.tr (kid .lnt t)]) (us1' := [v]) rfl (by simp) (fun Ψ1 r zo => ?_) rfl
  have hs := RepL.isS _ r
  obtain ⟨v0, vs0, Θ1, Θ2, e1, a1, a2, ad, au⟩ := r
  cases e1
  refine ⟨⟨Z.fz, fun b => Z.ln b ∨ Ψ1 b⟩, fun _ => False, ⟨v, [], fun _ => False, fun _ => False, rfl, rep_kid.mpr (Rep.lend (m := .own) t a1 (fun _ h => h) fun b q => q.imp id fun z => (au b).mpr (.inl z)), ⟨rfl, fun _ h => h⟩, by simp, by simp⟩,
    ⟨fun _ h => h, fun _ h => .inl h, fun _ h => .inl h, fun b h => h.imp id .inl, fun b q => ?_, fun b o e _ => e, hs, fun b q => q.elim⟩⟩
  rcases q with q | q | q
  · exact EE.zs b (.inl q)
  · exact EE.zs b (.inr q)
  · exact hs b q
theorem EnvOk.freeze (E : EnvOk K c σ H Γ (.tr t :: τ) (v :: us)) (he : esc t = true) : EnvOk K c σ H Γ (.tr (kid .frz t) :: τ) (v :: us) := by
  obtain ⟨Z, ws, Φ, Ψ, EE⟩ := E
  refine EE.swapE (τ1 := [.tr t]) (us1 := [v]) (τ1' := [.tr (kid .frz t)]) (us1' := [v]) rfl (by simp) (fun Ψ1 r zo => ?_) rfl
  have hs := RepL.isS _ r
  obtain ⟨v0, vs0, Θ1, Θ2, e1, a1, a2, ad, au⟩ := r
  cases e1
  refine ⟨⟨fun b => Z.fz b ∨ Ψ1 b, Z.ln⟩, fun _ => False, ⟨v, [], fun _ => False, fun _ => False, rfl, rep_kid.mpr (Rep.freeze (m := .own) t a1 (by simp) (fun _ => he) fun b q => q.imp id fun z => (au b).mpr (.inl z)), ⟨rfl, fun _ h => h⟩, by simp, by simp⟩,
    ⟨fun _ h => .inl h, fun _ h => h, fun b h => h.imp id .inl, fun _ h => .inl h, fun b q => ?_, fun b o e _ => e, hs, fun b q => q.elim⟩⟩
  rcases q with (q | q) | q
  · exact EE.zs b (.inl q)
  · exact hs b q
  · exact EE.zs b (.inr q)
/-- an own node that is held changes in place; items may come out of it -/
theorem EnvOk.mut {us1 vs' vouts : List V} {ts' outs : List Tr} {ob : HO} (E : EnvOk K c σ H Γ (.tr (.nd k .own ts) :: (τ1 ++ τ)) (.ref a :: (us1 ++ us))) (hk : k ≠ .tup) (hk' : k' ≠ .tup) (hl : τ1.length = us1.length) (ho : ObjAt K k .own H a vs)
    (step : ∀ Z Ψa Ψb, RepL K Z H .own ts vs Ψa → RepL K Z H .own (trees τ1) us1 Ψb → (∀ b, ¬ (Ψa b ∧ Ψb b)) → ∃ Ψ', RepL K Z H .own (ts' ++ outs) (vs' ++ vouts) Ψ' ∧ ∀ b, Ψ' b → Ψa b ∨ Ψb b)
    (hl2 : ts'.length = vs'.length) (hl3 : outs.length = vouts.length) (he : escL ts' = true) (ho' : ObjAt K k' .own (upd H a ob) a vs') :
    EnvOk K c σ (upd H a ob) Γ (.tr (.nd k' .own ts') :: (outs.map .tr ++ τ)) (.ref a :: (vouts ++ us)) := by
  obtain ⟨Z, ws, Φ, Ψ, EE⟩ := E
  refine EE.swapE (τ1 := .tr (.nd k .own ts) :: τ1) (us1 := .ref a :: us1) (τ1' := .tr (.nd k' .own ts') :: outs.map .tr) (us1' := .ref a :: vouts) (by simp [hl]) (by simp) (fun Ψ1 r zo => ?_) (by simp [hl3])
  have hs := RepL.isS _ r
  have nt := RepL.nt _ r
  obtain ⟨v0, vs0, Θ1, Θ2, e1, a1, a2, ad, au⟩ := r
  cases e1
  obtain ⟨a', vs2, Ξ, e2, ho2, hl4, hn⟩ := a1
  cases e2
  have ho2 : ObjAt K k .own H a vs2 := ho2
  have hl4 : RepL K Z H .own ts vs2 Ξ := hl4
  have hn : Nod Z k .own a ts Ξ Θ1 := hn
  cases (objKids ho hk).fn (objKids ho2 hk)
  have hn := hn.own hk
  obtain ⟨Ψ', r', sub⟩ := step Z Ξ Θ2 hl4 a2 (by grind)
  have na : ¬ Ψ' a := by grind
  have aΨ : Ψ1 a := by grind
  have nz := zo a aΨ
  have kp : Kp K Z Z H (upd H a ob) Ψ' := ⟨fun _ h => h, fun _ h => h, fun b o q e => by rw [upd_ne (by grind)]; exact e, tsk fun b o e n => by
    rw [upd_ne (fun q => by subst q; have := nt b o aΨ e; rw [n] at this; cases this)]; exact e⟩
  have r' := RepL.fr _ r' kp
  obtain ⟨w1, w2, Ξ1, Ξ2, e3, b1, b2, bd, bu⟩ := RepL.split _ r'
  have hlen := RepL.len _ b1
  obtain ⟨rfl, rfl⟩ := List.append_inj e3 (by omega)
  refine ⟨Z, fun b => b = a ∨ Ψ' b, ⟨.ref a, vouts, fun b => b = a ∨ Ξ1 b, Ξ2, rfl, ⟨a, vs', Ξ1, rfl, ho', b1, .mk hk' (fun _ => Iff.rfl) (by grind) he⟩, ?_, by grind, by grind⟩, ⟨fun _ h => h, fun _ h => h, fun _ h => .inl h, fun _ h => .inl h, fun b q => ?_, fun b o e n => by rw [upd_ne (by grind)]; exact e, fun b q => ?_, fun b q => ?_⟩⟩
  · show RepL K Z (upd H a ob) .own (trees (outs.map .tr)) vouts Ξ2
    rw [trees_tr]
    exact b2
  · rw [upd_ne (by grind)]; exact EE.zs b q
  · by_cases e : b = a
    · rw [e, upd_same]; rfl
    · rw [upd_ne e]; exact hs b q
  · have : Ψ1 b := by grind
    exact ⟨.inl this, zo b this⟩
end
/-! the machine: readings as functions on trees -/
structure KT where
  P : Program
  w : World
  ct : Nat → Addr
  nm : Nat → List Str
  et : Nat → Addr
abbrev kcm (K : PySem.W.Frag) (T : KT) : KC := ⟨K, T.P, T.w, T.ct, T.nm, T.et⟩
structure Ms where
  g : List Ent
  s : List Ent
inductive Rs | ok (m : Ms) | ex (C : Nat) (g : List Ent)
abbrev GE := Ms → Option Rs
def PostE (K : KC) (c : Cz) (W : WX) (σ : St) (us : List V) (Q : VK) : Rs → Prop
  | .ok m' => ∀ v H', EnvOk K c σ H' m'.g m'.s (v :: us) → Q v H'
  | .ex C g' => ∀ H', EnvOk K c σ H' g' [] [] → W (.ref (K.et C)) none σ H'
def SE (K : KC) (md : List Bool) (W : WX) (t : TE) (g : GE) : Prop := ∀ (c : Cz) (σ : St) (H : Hp) (m : Ms) (us : List V) (Q : VK) (r : Rs), c.md = md → EnvOk K c σ H m.g m.s us → g m = some r → PostE K c W σ us Q r → t σ H Q
def PostA (K : KC) (c : Cz) (W : WX) (σ : St) (us : List V) (n : Nat) (Q : List V → Hp → Prop) : Rs → Prop
  | .ok m' => ∀ vs H', vs.length = n → EnvOk K c σ H' m'.g m'.s (vs.reverse ++ us) → Q vs H'
  | .ex C g' => ∀ H', EnvOk K c σ H' g' [] [] → W (.ref (K.et C)) none σ H'
def SA (K : KC) (md : List Bool) (W : WX) (n : Nat) (t : TA) (g : GE) : Prop := ∀ (c : Cz) (σ : St) (H : Hp) (m : Ms) (us : List V) (Q : List V → Hp → Prop) (r : Rs), c.md = md → EnvOk K c σ H m.g m.s us → g m = some r → PostA K c W σ us n Q r → t σ H Q
/-- a test leaves a truth value on top -/
def PostT (K : KC) (c : Cz) (W : WX) (σ : St) (us : List V) (Q : Bool → Hp → Prop) : Rs → Prop
  | .ok ⟨g', .tr (.a (.bl b)) :: s'⟩ => ∀ H', EnvOk K c σ H' g' s' us → Q b H'
  | .ok _ => False
  | .ex C g' => ∀ H', EnvOk K c σ H' g' [] [] → W (.ref (K.et C)) none σ H'
def ST (K : KC) (md : List Bool) (W : WX) (t : TT) (g : GE) : Prop := ∀ (c : Cz) (σ : St) (H : Hp) (m : Ms) (us : List V) (Q : Bool → Hp → Prop) (r : Rs), c.md = md → EnvOk K c σ H m.g m.s us → g m = some r → PostT K c W σ us Q r → t σ H Q
def ME (X : Cx) (T : KT) (md : List Bool) (W : WX) (e : Expr) (g : GE) : Prop := ∃ t, PE X e t ∧ SE (kcm X.K T) md W t g
def MA (X : Cx) (T : KT) (md : List Bool) (W : WX) (es : List Expr) (g : GE) : Prop := ∃ t, PA X es t ∧ SA (kcm X.K T) md W es.length t g
def MT (X : Cx) (T : KT) (md : List Bool) (W : WX) (e : Expr) (g : GE) : Prop := ∃ t, PT X e t ∧ ST (kcm X.K T) md W t g
def MW (X : Cx) (T : KT) (md : List Bool) (W : WX) (e : Expr) (g : GE) : Prop := ∃ t, PW X e t ∧ ST (kcm X.K T) md W t g
def gSeq (a b : GE) : GE := fun m => match a m with
  | some (.ok m') => b m'
  | r => r
/-- what an operation on n values of the stack does -/
def RA (K : KC) (md : List Bool) (W : WX) (n : Nat) (r : St → List V → Hp → VK → Prop) (f : GE) : Prop := ∀ (c : Cz) (σ : St) (H : Hp) (m : Ms) (us vs : List V) (Q : VK) (rr : Rs), c.md = md → vs.length = n → EnvOk K c σ H m.g m.s (vs.reverse ++ us) → f m = some rr → PostE K c W σ us Q rr → r σ vs H Q
abbrev RA2 (K : KC) (md : List Bool) (W : WX) (r : R2) (f : GE) : Prop := RA K md W 2 (fun _ vs H Q => ∃ x y, vs = [x, y] ∧ r x y H Q) f
section
variable {K : KC} {X : Cx} {T : KT} {md : List Bool} {W : WX} {t ta tb : TE} {g ga gb f f' : GE} {e a b : Expr} {es : List Expr} {pos : Pos} {n : Nat} {r r' : R2} {v : V}
theorem RA2.mk (h : ∀ (c : Cz) (σ : St) (H : Hp) (m : Ms) (us : List V) (x y : V) (Q : VK) (rr : Rs), c.md = md → EnvOk K c σ H m.g m.s (y :: x :: us) → f m = some rr → PostE K c W σ us Q rr → r x y H Q) : RA2 K md W r f := by
  intro c σ H m us vs Q rr hc hl E hf hp
  match vs, hl with
  | [x, y], _ => exact ⟨x, y, rfl, h c σ H m us x y Q rr hc E hf hp⟩
theorem RA2.use (h : RA2 K md W r f) {c : Cz} {σ : St} {H : Hp} {m : Ms} {us : List V} {x y : V} {Q : VK} {rr : Rs} (hc : c.md = md) (E : EnvOk K c σ H m.g m.s (y :: x :: us)) (hf : f m = some rr) (hp : PostE K c W σ us Q rr) : r x y H Q := by
  obtain ⟨x', y', e, q⟩ := h c σ H m us [x, y] Q rr hc rfl E hf hp
  cases e
  exact q
theorem se_op (hr : RA2 K md W r f) (ha : SE K md W ta ga) (hb : SE K md W tb gb) : SE K md W (tOp r ta tb) (gSeq (gSeq ga gb) f) := by
  intro c σ H m us Q rr hc E hg hp
  simp only [gSeq] at hg
  cases e1 : ga m with
  | none => simp [e1] at hg
  | some r1 =>
    cases r1 with
    | ex C g' =>
      simp only [e1] at hg
      cases hg
      exact ha c σ H m us _ _ hc E e1 hp
    | ok m1 =>
      simp only [e1] at hg
      refine ha c σ H m us _ _ hc E e1 fun x H1 E1 => ?_
      cases e2 : gb m1 with
      | none => simp [e2] at hg
      | some r2 =>
        cases r2 with
        | ex C g' =>
          simp only [e2] at hg
          cases hg
          exact hb c σ H1 m1 _ _ _ hc E1 e2 hp
        | ok m2 =>
          simp only [e2] at hg
          exact hb c σ H1 m1 _ _ _ hc E1 e2 fun y H2 E2 => hr.use hc E2 hg hp
theorem OpR.or {f : Value → Value → Sem Value} (h : OpR X f r) (h' : OpR X f r') : OpR X f (fun x y H Q => r x y H Q ∨ r' x y H Q) := by
  intro pins s σ H x y v u Q I rx ry q
  rcases q with q | q
  · exact h pins s σ H x y v u Q I rx ry q
  · exact h' pins s σ H x y v u Q I rx ry q
def gOr (f f' : GE) : GE := fun m => match f m with
  | none => f' m
  | r => r
theorem RA2.or (h : RA2 K md W r f) (h' : RA2 K md W r' f') : RA2 K md W (fun x y H Q => r x y H Q ∨ r' x y H Q) (gOr f f') := by
  refine .mk fun c σ H m us x y Q rr hc E hf hp => ?_
  simp only [gOr] at hf
  cases e1 : f m with
  | none =>
    simp only [e1] at hf
    exact .inr (h'.use hc E hf hp)
  | some r1 =>
    simp only [e1] at hf
    exact .inl (h.use hc E (by rw [e1]; exact hf) hp)
/-- an operation that looks at two things and gives a plain value -/
def fP2 (F : Tr → Tr → Option V) : GE := fun m => match m.s with
  | y :: x :: s => match viewE m.g x, viewE m.g y with
    | some tx, some ty => match F tx ty with
      | some v => some (.ok ⟨m.g, .tr (.a v) :: s⟩)
      | none => none
    | _, _ => none
  | _ => none
theorem fP2_ok {F : Tr → Tr → Option V} (hF : ∀ (Z : Zn) (H : Hp) (x y : V) (tx ty : Tr) (u : V) (Φ Ψ : Ps) (Q : VK), Rep K Z H .own tx x Φ → Rep K Z H .own ty y Ψ → F tx ty = some u → Q u H → r x y H Q) : RA2 K md W r (fP2 F) := by
  refine .mk fun c σ H m us x y Q rr hc E hf hp => ?_
  simp only [fP2] at hf
  split at hf
  · rename_i ey ex s hs
    split at hf
    · rename_i tx ty h1 h2
      split at hf
      · rename_i u hu
        cases hf
        rw [hs] at E
        obtain ⟨Z, ws, Φ, Ψ, EE⟩ := id E
        obtain ⟨Θ1, r1⟩ := EE.view (n := 1) rfl rfl h1
        obtain ⟨Θ2, r2⟩ := EE.view (n := 0) rfl rfl h2
        exact hF Z H x y tx ty u Θ1 Θ2 Q r1 r2 hu (hp u H (E.drop.drop.atom u))
      · cases hf
    · cases hf
  · cases hf
/-- the same of one thing -/
def fP1 (F : Tr → Option V) : GE := fun m => match m.s with
  | x :: s => match viewE m.g x with
    | some tx => match F tx with
      | some v => some (.ok ⟨m.g, .tr (.a v) :: s⟩)
      | none => none
    | _ => none
  | _ => none
theorem fP1_ok {F : Tr → Option V} {r : St → List V → Hp → VK → Prop} (hF : ∀ (σ : St) (Z : Zn) (H : Hp) (x : V) (tx : Tr) (u : V) (Φ : Ps) (Q : VK), Rep K Z H .own tx x Φ → F tx = some u → Q u H → r σ [x] H Q) : RA K md W 1 r (fP1 F) := by
  intro c σ H m us vs Q rr hc hl E hf hp
  match vs, hl with
  | [x], _ =>
    simp only [fP1] at hf
    split at hf
    · rename_i ex s hs
      split at hf
      · rename_i tx h1
        split at hf
        · rename_i u hu
          cases hf
          rw [hs] at E
          obtain ⟨Z, ws, Φ, Ψ, EE⟩ := id E
          obtain ⟨Θ1, r1⟩ := EE.view (n := 0) rfl rfl h1
          exact hF σ Z H x tx u Θ1 Q r1 hu (hp u H (E.drop.atom u))
        · cases hf
      · cases hf
    · cases hf
def gC (v : V) : GE := fun m => some (.ok ⟨m.g, .tr (.a v) :: m.s⟩)
theorem se_c : SE K md W (tC v) (gC v) := by
  intro c σ H m us Q rr hc E hg hp
  cases hg
  exact hp v H (E.atom v)
theorem me_c (h : PE X e (tC v)) : ME X T md W e (gC v) := ⟨_, h, se_c⟩
def gVar (i : Nat) : GE := fun m => match m.g[i]? with
  | some (.tr t) => if cp t = true then some (.ok ⟨m.g, .tr t :: m.s⟩) else some (.ok ⟨m.g, .al [i] :: m.s⟩)
  | some (.al p) => some (.ok ⟨m.g, .al p :: m.s⟩)
  | _ => none
theorem se_var {i : Nat} : SE K md W (tVar i) (gVar i) := by
  intro c σ H m us Q rr hc E hg hp
  simp only [gVar] at hg
  split at hg
  · rename_i t ht
    by_cases h : cp t = true
    · rw [if_pos h] at hg
      cases hg
      obtain ⟨v, h1, E1⟩ := E.var ht h
      exact ⟨v, h1, hp v H E1⟩
    · rw [if_neg h] at hg
      cases hg
      obtain ⟨v, h1, E1⟩ := E.varP ht
      exact ⟨v, h1, hp v H E1⟩
  · rename_i p ht
    cases hg
    obtain ⟨v, h1, E1⟩ := E.varA ht
    exact ⟨v, h1, hp v H E1⟩
  · cases hg
theorem me_var {i : Nat} (h : PE X e (tVar i)) : ME X T md W e (gVar i) := ⟨_, h, se_var⟩
theorem me_bin {op : Operator} (ho : OpR X (binaryOp op) r) (hf : RA2 (kcm X.K T) md W r f) (ha : ME X T md W a ga) (hb : ME X T md W b gb) : ME X T md W (.BinOp a op b pos) (gSeq (gSeq ga gb) f) := by
  obtain ⟨ta, pa, sa⟩ := ha
  obtain ⟨tb, pb, sb⟩ := hb
  exact ⟨_, pe_op ho pa pb, se_op hf sa sb⟩
theorem me_cmp {op : CmpOp} (ho : OpR X (compareOp op) r) (hf : RA2 (kcm X.K T) md W r f) (ha : ME X T md W a ga) (hb : ME X T md W b gb) (hm : behindInMarks op b = false) : ME X T md W (.Compare a [op] [b] pos) (gSeq (gSeq ga gb) f) := by
  obtain ⟨ta, pa, sa⟩ := ha
  obtain ⟨tb, pb, sb⟩ := hb
  exact ⟨_, pe_cmpR ho pa pb hm, se_op hf sa sb⟩
theorem me_ix (ho : IxR X r) (hf : RA2 (kcm X.K T) md W r f) (ha : ME X T md W a ga) (hb : ME X T md W b gb) (hs : PlainIx b) : ME X T md W (.Subscript a b pos) (gSeq (gSeq ga gb) f) := by
  obtain ⟨ta, pa, sa⟩ := ha
  obtain ⟨tb, pb, sb⟩ := hb
  exact ⟨_, pe_ix ho pa pb hs, se_op hf sa sb⟩
/-! tests -/
theorem st_of (hs : SE K md W t g) : ST K md W (fun σ H Q => t σ H fun x H' => ∃ k, x = .bl k ∧ Q k H') g := by
  intro c σ H m us Q rr hc E hg hp
  refine hs c σ H m us _ rr hc E hg ?_
  cases rr with
  | ex C g' => exact hp
  | ok m' =>
    intro v H' E'
    obtain ⟨g', s'⟩ := m'
    match s', hp with
    | .tr (.a (.bl b)) :: s', hp =>
      obtain ⟨Z, ws, Φ, Ψ, EE⟩ := id E'
      obtain ⟨Θ1, r1⟩ := EE.view (n := 0) (e := .tr (.a (.bl b))) rfl rfl rfl
      obtain ⟨rfl, _⟩ := r1
      exact ⟨b, rfl, hp H' E'.drop⟩
theorem mt_val (h : ME X T md W e g) (he : ∀ whole, isTrue e X.env whole = (do let v ← whole; standAt e.pos; holding [v] (truthy v)) := by intro _; rfl) : MT X T md W e g := by
  obtain ⟨t, p, s⟩ := h
  exact ⟨_, pt_val p he, st_of s⟩
theorem mt_cmp {op : CmpOp} (ho : OpR X (compareOp op) r) (hf : RA2 (kcm X.K T) md W r f) (ha : ME X T md W a ga) (hb : ME X T md W b gb) (hm : behindInMarks op b = false) : MT X T md W (.Compare a [op] [b] pos) (gSeq (gSeq ga gb) f) := by
  obtain ⟨ta, pa, sa⟩ := ha
  obtain ⟨tb, pb, sb⟩ := hb
  exact ⟨_, pt_cmpR ho pa pb hm, st_of (se_op hf sa sb)⟩
def gNot (g : GE) : GE := fun m => match g m with
  | some (.ok ⟨g', .tr (.a (.bl b)) :: s'⟩) => some (.ok ⟨g', .tr (.a (.bl (!b))) :: s'⟩)
  | some (.ex C g') => some (.ex C g')
  | _ => none
theorem st_not {t : TT} (hs : ST K md W t g) : ST K md W (tNot t) (gNot g) := by
  intro c σ H m us Q rr hc E hg hp
  simp only [gNot] at hg
  split at hg
  · rename_i g' b s' h1
    cases hg
    exact hs c σ H m us _ _ hc E h1 hp
  · rename_i C g' h1
    cases hg
    exact hs c σ H m us _ _ hc E h1 hp
  · cases hg
theorem mt_not (h : MT X T md W e g) : MT X T md W (.UnaryOp .Not e pos) (gNot g) := by
  obtain ⟨t, p, s⟩ := h
  exact ⟨_, pt_not p, st_not s⟩
def gAnd (g h : GE) : GE := fun m => match g m with
  | some (.ok ⟨g', .tr (.a (.bl true)) :: s'⟩) => h ⟨g', s'⟩
  | some (.ok ⟨g', .tr (.a (.bl false)) :: s'⟩) => some (.ok ⟨g', .tr (.a (.bl false)) :: s'⟩)
  | some (.ex C g') => some (.ex C g')
  | _ => none
def gOrB (g h : GE) : GE := fun m => match g m with
  | some (.ok ⟨g', .tr (.a (.bl false)) :: s'⟩) => h ⟨g', s'⟩
  | some (.ok ⟨g', .tr (.a (.bl true)) :: s'⟩) => some (.ok ⟨g', .tr (.a (.bl true)) :: s'⟩)
  | some (.ex C g') => some (.ex C g')
  | _ => none
theorem top_bl {c : Cz} {σ : St} {H : Hp} {g' s' : List Ent} {x : V} {us : List V} {b : Bool} (E : EnvOk K c σ H g' (.tr (.a (.bl b)) :: s') (x :: us)) : x = .bl b := by
  obtain ⟨Z, ws, Φ, Ψ, EE⟩ := E
  obtain ⟨Θ1, r1⟩ := EE.view (n := 0) (e := .tr (.a (.bl b))) rfl rfl rfl
  exact r1.1
theorem st_or {t u : TT} {h : GE} (hs : ST K md W t g) (hu : ST K md W u h) : ST K md W (tOr t u) (gOrB g h) := by
  intro c σ H m us Q rr hc E hg hp
  simp only [gOrB] at hg
  split at hg
  · rename_i g' s' h1
    exact hs c σ H m us _ _ hc E h1 fun H' E' => iteF (hu c σ H' _ us _ _ hc E' hg hp)
  · rename_i g' s' h1
    cases hg
    exact hs c σ H m us _ _ hc E h1 fun H' E' => iteT (hp H' E')
  · rename_i C g' h1
    cases hg
    exact hs c σ H m us _ _ hc E h1 hp
  · cases hg
theorem se_and {h : GE} (hs : SE K md W ta g) (hu : SE K md W tb h) : SE K md W (tAndV ta tb) (gAnd g h) := by
  intro c σ H m us Q rr hc E hg hp
  simp only [gAnd] at hg
  split at hg
  · rename_i g' s' h1
    exact hs c σ H m us _ _ hc E h1 fun x H' E' => ⟨true, top_bl E', iteT (hu c σ H' _ us _ _ hc E'.drop hg hp)⟩
  · rename_i g' s' h1
    cases hg
    exact hs c σ H m us _ _ hc E h1 fun x H' E' => ⟨false, top_bl E', iteF (hp _ H' (top_bl E' ▸ E'))⟩
  · rename_i C g' h1
    cases hg
    exact hs c σ H m us _ _ hc E h1 hp
  · cases hg
theorem se_not (hs : SE K md W ta g) : SE K md W (tNotV ta) (gNot g) := by
  intro c σ H m us Q rr hc E hg hp
  simp only [gNot] at hg
  split at hg
  · rename_i g' b s' h1
    cases hg
    exact hs c σ H m us _ _ hc E h1 fun x H' E' => ⟨b, top_bl E', hp _ H' (E'.drop.atom _)⟩
  · rename_i C g' h1
    cases hg
    exact hs c σ H m us _ _ hc E h1 hp
  · cases hg
theorem me_one {op : BoolOp} (h : ME X T md W a g) : ME X T md W (.BoolOp op [a] pos) g := by
  obtain ⟨t, p, s⟩ := h
  exact ⟨_, pe_one p, s⟩
theorem me_and {h : GE} {rest : List Expr} (ha : ME X T md W a g) (hb : ME X T md W (.BoolOp .And (b :: rest) pos) h) : ME X T md W (.BoolOp .And (a :: b :: rest) pos) (gAnd g h) := by
  obtain ⟨t, p, s⟩ := ha
  obtain ⟨t', p', s'⟩ := hb
  exact ⟨_, pe_and p p', se_and s s'⟩
theorem me_not (h : ME X T md W a g) : ME X T md W (.UnaryOp .Not a pos) (gNot g) := by
  obtain ⟨t, p, s⟩ := h
  exact ⟨_, pe_not p, se_not s⟩
def gIf (c g h : GE) : GE := fun m => match c m with
  | some (.ok ⟨g', .tr (.a (.bl true)) :: s'⟩) => g ⟨g', s'⟩
  | some (.ok ⟨g', .tr (.a (.bl false)) :: s'⟩) => h ⟨g', s'⟩
  | some (.ex C g') => some (.ex C g')
  | _ => none
theorem mw_or1 (h : MT X T md W a g) : MW X T md W (.BoolOp .Or [a] pos) g := by
  obtain ⟨t, p, s⟩ := h
  exact ⟨_, pw_or1 p, s⟩
theorem mw_or {h : GE} {rest : List Expr} (ha : MT X T md W a g) (hb : MW X T md W (.BoolOp .Or (b :: rest) pos) h) : MW X T md W (.BoolOp .Or (a :: b :: rest) pos) (gOrB g h) := by
  obtain ⟨t, p, s⟩ := ha
  obtain ⟨t', p', s'⟩ := hb
  exact ⟨_, pw_or p p', st_or s s'⟩
theorem mw_pt (h : MW X T md W e g) : MT X T md W e g := by
  obtain ⟨t, p, s⟩ := h
  exact ⟨_, PW.pt p, s⟩
end
section
variable {K : KC} {X : Cx} {T : KT} {md : List Bool} {W : WX} {t ta tb : TE} {g ga gb f f' : GE} {e a b : Expr} {es : List Expr} {pos : Pos} {n : Nat} {r r' : R2} {v : V}
/-! arguments, displays -/
def gNil : GE := fun m => some (.ok m)
theorem ma_nil : MA X T md W [] gNil := ⟨_, pa_nil, fun c σ H m us Q rr hc E hg hp => by
  cases hg
  exact hp [] H rfl E⟩
theorem ma_cons (ha : ME X T md W e g) (hr : MA X T md W es f) (hs : starEach (e :: es) X.env = (false, eval e X.env) :: starEach es X.env := by rfl) : MA X T md W (e :: es) (gSeq g f) := by
  obtain ⟨t, p, s⟩ := ha
  obtain ⟨t', p', s'⟩ := hr
  refine ⟨_, pa_cons p p' hs, fun c σ H m us Q rr hc E hg hp => ?_⟩
  simp only [gSeq] at hg
  split at hg
  · rename_i m1 h1
    refine s c σ H m us _ _ hc E h1 fun x H1 E1 => s' c σ H1 m1 _ _ _ hc E1 hg ?_
    cases rr with
    | ex C g' => exact hp
    | ok m2 => exact fun vs H2 hl E2 => hp (x :: vs) H2 (by simp [hl]) (by simpa using E2)
  · rename_i h1
    refine s c σ H m us _ _ hc E hg ?_
    cases rr with
    | ex C g' => exact hp
    | ok m2 => exact absurd hg (h1 m2)
def popN : Nat → List Ent → Option (List Tr × List Ent)
  | 0, s => some ([], s)
  | n + 1, .tr t :: s => match popN n s with
    | some (ts, s') => some (ts ++ [t], s')
    | none => none
  | _, _ => none
theorem popN_eq : ∀ {n : Nat} {s s' : List Ent} {ts : List Tr}, popN n s = some (ts, s') → s = ts.reverse.map Ent.tr ++ s' ∧ ts.length = n
  | 0, s, s', ts, h => by
    simp only [popN] at h
    cases h
    exact ⟨rfl, rfl⟩
  | n + 1, s, s', ts, h => by
    match s, h with
    | .tr t :: s, h =>
      simp only [popN] at h
      split at h
      · rename_i ts1 s1 h1
        cases h
        obtain ⟨rfl, rfl⟩ := popN_eq h1
        exact ⟨by simp, by simp⟩
      · cases h
/-- a new object of the n values on top -/
def fNew (k : Nk) (n : Nat) : GE := fun m => match popN n m.s with
  | some (ts, s') => match mkN k ts with
    | some t => some (.ok ⟨m.g, .tr t :: s'⟩)
    | none => none
  | none => none
theorem fNew_ok {c : Cz} {σ : St} {H : Hp} {m : Ms} {us vs : List V} {Q : VK} {rr : Rs} {k : Nk} {ob : HO} (E : EnvOk K c σ H m.g m.s (vs.reverse ++ us)) (hl : vs.length = n) (hf : fNew k n m = some rr) (hp : PostE K c W σ us Q rr) (ho : ∀ o pa, ObjAt K k o (upd H pa ob) pa vs) : ∀ pa, H pa = none → Q (.ref pa) (upd H pa ob) := by
  intro pa np
  simp only [fNew] at hf
  split at hf
  · rename_i ts s' h1
    split at hf
    · rename_i t h2
      cases hf
      obtain ⟨e1, e2⟩ := popN_eq h1
      rw [e1] at E
      exact hp _ _ (E.new (by omega) np h2 fun o => ho o pa)
    · cases hf
  · cases hf
theorem me_lst (h : MA X T md W es g) (hl : es.length ≤ sizeLine) : ME X T md W (.List es pos) (gSeq g (fNew .lst es.length)) := by
  obtain ⟨t, p, s⟩ := h
  refine ⟨_, pe_lst p, fun c σ H m us Q rr hc E hg hp => ?_⟩
  simp only [gSeq] at hg
  split at hg
  · rename_i m1 h1
    exact s c σ H m us _ _ hc E h1 fun vs H1 hv E1 => ⟨by omega, fNew_ok E1 hv hg hp fun o pa => upd_same⟩
  · rename_i h1
    refine s c σ H m us _ _ hc E hg ?_
    cases rr with
    | ex C g' => exact hp
    | ok m2 => exact absurd hg (h1 m2)
theorem me_tup {x1 : Nat} (h : MA X T md W es g) (hl : es.length ≤ sizeLine) : ME X T md W (.Tuple es x1 pos) (gSeq g (fNew .tup es.length)) := by
  obtain ⟨t, p, s⟩ := h
  refine ⟨_, pe_tup p, fun c σ H m us Q rr hc E hg hp => ?_⟩
  simp only [gSeq] at hg
  split at hg
  · rename_i m1 h1
    exact s c σ H m us _ _ hc E h1 fun vs H1 hv E1 => ⟨by omega, fNew_ok E1 hv hg hp fun o pa => .inl upd_same⟩
  · rename_i h1
    refine s c σ H m us _ _ hc E hg ?_
    cases rr with
    | ex C g' => exact hp
    | ok m2 => exact absurd hg (h1 m2)
/-! a thing is handed on: what a name held alone goes out of it -/
def fMv (md : List Bool) : GE := fun m => match m.s with
  | .tr t :: s => some (.ok ⟨m.g, .tr t :: s⟩)
  | .al [j] :: s => if md.getD j false = true then none else match m.g[j]? with
    | some (.tr t) => some (.ok ⟨kill [j] (m.g.set j (.tr .any)), .tr t :: kill [j] s⟩)
    | _ => none
  | _ => none
theorem EnvOk.drop2 {c : Cz} {σ : St} {H : Hp} {Γ τ : List Ent} {tr : Tr} {p : List Nat} {us : List V} {x y : V} (E : EnvOk K c σ H Γ (.tr tr :: .al p :: τ) (x :: y :: us)) : EnvOk K c σ H Γ (.tr tr :: τ) (x :: us) := by
  obtain ⟨Z, ws, Φ, Ψ, EE⟩ := E
  refine EE.swapE (τ1 := [.tr tr, .al p]) (us1 := [x, y]) (τ1' := [.tr tr]) (us1' := [x]) rfl (by simp) (fun Ψ1 r zo => ?_) rfl
  have hs := RepL.isS _ r
  obtain ⟨v0, vs0, Θ1, Θ2, e1, a1, a2, ad, au⟩ := r
  cases e1
  exact ⟨Z, Θ1, ⟨x, [], Θ1, fun _ => False, rfl, a1, ⟨rfl, fun _ h => h⟩, by simp, by simp⟩, .same _ _ _ EE.zs hs _ fun b q => ⟨(au b).mpr (.inl q), zo b ((au b).mpr (.inl q))⟩⟩
theorem fMv_ok {c : Cz} {σ : St} {H : Hp} {m m' : Ms} {us : List V} {x : V} (E : EnvOk K c σ H m.g m.s (x :: us)) (hf : fMv md m = some (.ok m')) : EnvOk K c σ H m'.g m'.s (x :: us) := by
  simp only [fMv] at hf
  split at hf
  · rename_i t s hs
    cases hf
    rw [hs] at E
    exact E
  · rename_i j s hs
    split at hf
    · cases hf
    · split at hf
      · rename_i t ht
        cases hf
        rw [hs] at E
        have := EnvOk.drop2 (E.ext (t := t) (by simp [getG, ht, getT]))
        simpa [setG, ht, setT] using this
      · cases hf
  · cases hf
theorem fMv_ex {m : Ms} {C : Nat} {g' : List Ent} : fMv md m ≠ some (.ex C g') := by
  intro h
  simp only [fMv] at h
  split at h
  · cases h
  · split at h
    · cases h
    · split at h <;> cases h
  · cases h
theorem me_mv (h : ME X T md W e g) : ME X T md W e (gSeq g (fMv md)) := by
  obtain ⟨t, p, s⟩ := h
  refine ⟨_, p, fun c σ H m us Q rr hc E hg hp => ?_⟩
  simp only [gSeq] at hg
  split at hg
  · rename_i m1 h1
    cases rr with
    | ex C g' => exact absurd hg fMv_ex
    | ok m2 => exact s c σ H m us _ _ hc E h1 fun x H1 E1 => hp x H1 (fMv_ok E1 hg)
  · rename_i h1
    refine s c σ H m us _ _ hc E hg ?_
    cases rr with
    | ex C g' => exact hp
    | ok m2 => exact absurd hg (h1 m2)
/-- what is on top is never changed any more -/
def fFrz : GE := fun m => match m.s with
  | .tr t :: s => if esc t = true then some (.ok ⟨m.g, .tr (kid .frz t) :: s⟩) else none
  | _ => none
theorem me_frz (h : ME X T md W e g) : ME X T md W e (gSeq g fFrz) := by
  obtain ⟨t, p, s⟩ := h
  refine ⟨_, p, fun c σ H m us Q rr hc E hg hp => ?_⟩
  simp only [gSeq] at hg
  split at hg
  · rename_i m1 h1
    simp only [fFrz] at hg
    split at hg
    · rename_i t s1 hs
      split at hg
      · rename_i he
        cases hg
        exact s c σ H m us _ _ hc E h1 fun x H1 E1 => hp x H1 (EnvOk.freeze (hs ▸ E1) he)
      · cases hg
    · cases hg
  · rename_i h1
    refine s c σ H m us _ _ hc E hg ?_
    cases rr with
    | ex C g' => exact hp
    | ok m2 => exact absurd hg (h1 m2)
/-! fields -/
theorem lookup_zip {f : Str} : ∀ {ns : List Str} {vs : List V} {j : Nat}, ns.idxOf? f = some j → ns.length = vs.length → (ns.zip vs).lookup f = vs[j]?
  | [], _, _, h, _ => by simp at h
  | n :: ns, [], _, _, l => by simp at l
  | n :: ns, v :: vs, j, h, l => by
    rw [List.idxOf?_cons] at h
    rw [List.zip_cons_cons, List.lookup_cons]
    by_cases e : n = f
    · subst e
      simp at h
      subst h
      simp
    · have e1 : (n == f) = false := by simpa using e
      have e2 : (f == n) = false := by simpa using fun q : f = n => e q.symm
      rw [e1] at h
      simp only [Bool.false_eq_true, if_false, Option.map_eq_some_iff] at h
      obtain ⟨j', h1, rfl⟩ := h
      rw [e2]
      simpa using lookup_zip h1 (by simpa using l)
theorem idx_take {f : Str} : ∀ {ns : List Str} {j k : Nat}, ns.idxOf? f = some j → j < k → (ns.take k).idxOf? f = some j
  | [], _, _, h, _ => by simp at h
  | n :: ns, j, 0, h, l => by omega
  | n :: ns, j, k + 1, h, l => by
    rw [List.take_succ_cons]
    rw [List.idxOf?_cons] at h ⊢
    by_cases e : (n == f) = true
    · rw [if_pos e] at h ⊢
      exact h
    · rw [if_neg e] at h ⊢
      simp only [Option.map_eq_some_iff] at h ⊢
      obtain ⟨j', h1, rfl⟩ := h
      exact ⟨j', idx_take h1 (by omega), rfl⟩
/-- the classes that have a field f, with its place -/
def FldOk (K : PySem.W.Frag) (T : KT) (f : Str) (tab : List (Nat × Nat)) : Prop := ∀ n j, (n, j) ∈ tab → Cls K (T.ct n) ∧ NoAttr K (T.ct n) f ∧ (T.nm n).idxOf? f = some j
def fFld (tab : List (Nat × Nat)) : GE := fun m => match m.s with
  | e :: s => match viewE m.g e with
    | some (.nd (.ins n k) o ts) => match tab.lookup n with
      | some j => match kidE e (.ins n k) o ts j with
        | some e' => some (.ok ⟨m.g, e' :: s⟩)
        | none => none
      | none => none
    | _ => none
  | _ => none
theorem mem_lookup {α : Type} : ∀ {tab : List (Nat × α)} {n : Nat} {j : α}, tab.lookup n = some j → (n, j) ∈ tab
  | [], _, _, h => by simp at h
  | (n', j') :: tab, n, j, h => by
    rw [List.lookup_cons] at h
    by_cases e : (n == n') = true
    · rw [e] at h
      simp only [Option.some.injEq] at h
      have : n = n' := by simpa using e
      subst this h
      exact List.mem_cons_self
    · have e : (n == n') = false := by simpa using e
      rw [e] at h
      exact List.mem_cons_of_mem _ (mem_lookup h)
theorem me_fld {fl : Str} {tab : List (Nat × Nat)} (h : ME X T md W e g) (ht : FldOk X.K T fl tab) (hb : attributeBase e fl X.env (eval e X.env) = eval e X.env := by rfl) : ME X T md W (.Attribute e fl pos) (gSeq g (fFld tab)) := by
  obtain ⟨t, p, s⟩ := h
  refine ⟨_, pe_fld p hb, fun c σ H m us Q rr hc E hg hp => ?_⟩
  simp only [gSeq] at hg
  split at hg
  · rename_i m1 h1
    refine s c σ H m us _ _ hc E h1 fun x H1 E1 => ?_
    simp only [fFld] at hg
    split at hg
    · rename_i en s1 hs
      split at hg
      · rename_i nn k o ts hv
        split at hg
        · rename_i j hj
          split at hg
          · rename_i e' hk
            cases hg
            rw [hs] at E1
            obtain ⟨ad, vs, w', rfl, ho, hl, hw, E2⟩ := E1.kidOf hv hk
            obtain ⟨l, dx, ho⟩ := ho
            obtain ⟨c1, c2, c3⟩ := ht nn j (mem_lookup hj)
            have hjk : j < k := by
              have h1 := getq_lt' hw
              have h2 : ((T.nm nn).take k).length = vs.length := l
              rw [List.length_take] at h2
              omega
            refine ⟨ad, T.ct nn, dx, _, w', rfl, ho, c1, c2, ?_, hp w' H1 E2⟩
            rw [lookup_zip (idx_take c3 hjk) l]
            exact hw
          · cases hg
        · cases hg
      · cases hg
    · cases hg
  · rename_i h1
    refine s c σ H m us _ _ hc E hg ?_
    cases rr with
    | ex C g' => exact hp
    | ok m2 => exact absurd hg (h1 m2)
/-! subscripts of lists and tuples -/
def fIx : GE := fun m => match m.s with
  | .tr (.a (.int i)) :: e :: s => match viewE m.g e with
    | some (.nd .lst o ts) => match ixN ts.length i with
      | some j => match kidE e .lst o ts j with
        | some e' => some (.ok ⟨m.g, e' :: s⟩)
        | none => none
      | none => none
    | some (.nd .tup o ts) => match ixN ts.length i with
      | some j => match kidE e .tup o ts j with
        | some e' => some (.ok ⟨m.g, e' :: s⟩)
        | none => none
      | none => none
    | _ => none
  | _ => none
theorem objL {H : Hp} {ad : Addr} {vs : List V} {o : Ow} (h : ObjAt K .lst o H ad vs) : SqL K.K H ad vs := .inl (.inl h)
theorem objT {H : Hp} {ad : Addr} {vs : List V} {o : Ow} (h : ObjAt K .tup o H ad vs) : SqT K.K H ad vs := by
  rcases h with h | (h | ⟨_, h⟩) | h
  · exact .inl (.inl h)
  · cases h
  · cases h
  · exact .inr h
theorem top_a {c : Cz} {σ : St} {H : Hp} {g' s' : List Ent} {x u : V} {us : List V} (E : EnvOk K c σ H g' (.tr (.a u) :: s') (x :: us)) : x = u := by
  obtain ⟨Z, ws, Φ, Ψ, EE⟩ := E
  obtain ⟨Θ1, r1⟩ := EE.view (n := 0) (e := .tr (.a u)) rfl rfl rfl
  exact r1.1
theorem fIx_ok : RA2 K md W (fun x y H Q => rIxL K.K x y H Q ∨ rIxT K.K x y H Q) fIx := by
  refine .mk fun c σ H m us x y Q rr hc E hf hp => ?_
  simp only [fIx] at hf
  split at hf
  · rename_i i e s hs
    rw [hs] at E
    have ey := top_a E
    subst ey
    have E1 := E.drop
    split at hf
    · rename_i o ts hv
      split at hf
      · rename_i j hj
        split at hf
        · rename_i e' hk
          cases hf
          obtain ⟨ad, vs, w', rfl, ho, hl, hw, E2⟩ := E1.kidOf hv hk
          refine .inl ⟨ad, vs, i, w', rfl, rfl, objL ho, ?_, hp w' H E2⟩
          unfold atI
          rw [← hl, hj]
          exact hw
        · cases hf
      · cases hf
    · rename_i o ts hv
      split at hf
      · rename_i j hj
        split at hf
        · rename_i e' hk
          cases hf
          obtain ⟨ad, vs, w', rfl, ho, hl, hw, E2⟩ := E1.kidOf hv hk
          refine .inr ⟨ad, vs, i, w', rfl, rfl, objT ho, ?_, hp w' H E2⟩
          unfold atI
          rw [← hl, hj]
          exact hw
        · cases hf
      · cases hf
    · cases hf
  · cases hf
end
section
variable {K : KC} {X : Cx} {T : KT} {md : List Bool} {W : WX} {t ta tb : TE} {g ga gb f f' : GE} {e a b : Expr} {es : List Expr} {pos : Pos} {n : Nat} {r r' : R2} {v : V}
/-! numbers -/
def FI (C : Int → Int → Bool) (h : Int → Int → V) : Tr → Tr → Option V
  | .a (.int i), .a (.int j) => if C i j = true then some (h i j) else none
  | _, _ => none
def cT : Int → Int → Bool := fun _ _ => true
theorem FI_eq {C : Int → Int → Bool} {h : Int → Int → V} {tx ty : Tr} {u : V} (e : FI C h tx ty = some u) : ∃ i j, tx = .a (.int i) ∧ ty = .a (.int j) ∧ C i j = true ∧ u = h i j := by
  unfold FI at e
  split at e
  · rename_i i j
    split at e
    · rename_i hc
      exact ⟨i, j, rfl, rfl, hc, (Option.some.inj e).symm⟩
    · cases e
  · cases e
theorem fI_ok0 {h : Int → Int → V} : RA2 K md W (rI0 h) (fP2 (FI cT h)) := fP2_ok fun Z H x y tx ty u Φ Ψ Q r1 r2 e q => by
  obtain ⟨i, j, rfl, rfl, _, rfl⟩ := FI_eq e
  exact ⟨i, j, r1.1, r2.1, q⟩
theorem fI_ok {C : Int → Int → Bool} {P : Int → Int → Prop} {h : Int → Int → V} (hC : ∀ i j, C i j = true → P i j) : RA2 K md W (rI P h) (fP2 (FI C h)) := fP2_ok fun Z H x y tx ty u Φ Ψ Q r1 r2 e q => by
  obtain ⟨i, j, rfl, rfl, hc, rfl⟩ := FI_eq e
  exact ⟨i, j, r1.1, r2.1, hC i j hc, q⟩
def FS : Tr → Tr → Option V
  | .a (.str i), .a (.str j) => if i.length + j.length ≤ sizeLine then some (.str (i ++ j)) else none
  | _, _ => none
theorem fS_ok : RA2 K md W (fun x y H Q => ∃ i j, x = .str i ∧ y = .str j ∧ i.length + j.length ≤ sizeLine ∧ Q (.str (i ++ j)) H) (fP2 FS) := fP2_ok fun Z H x y tx ty u Φ Ψ Q r1 r2 e q => by
  unfold FS at e
  split at e
  · split at e
    · rename_i i j hc
      cases e
      exact ⟨i, j, r1.1, r2.1, hc, q⟩
    · cases e
  · cases e
/-! lists: + and * -/
/-- the items of a list that is read, to be put into a new one -/
def itemsE (e : Ent) (o : Ow) (ts : List Tr) : Option (List Tr) := match e with
  | .tr _ => some (ts.map (kid o))
  | _ => if cpL (ts.map (kid o)) = true then some (ts.map (kid o)) else none
def fCat : GE := fun m => match m.s with
  | y :: x :: s => match viewE m.g x, viewE m.g y with
    | some (.nd .lst o ts), some (.nd .lst o' us) => match itemsE x o ts, itemsE y o' us with
      | some ts', some us' => if ts.length + us.length ≤ sizeLine then match mkN .lst (ts' ++ us') with
          | some t => some (.ok ⟨m.g, .tr t :: s⟩)
          | none => none
        else none
      | _, _ => none
    | _, _ => none
  | _ => none
theorem RepL.kids {Z : Zn} {H : Hp} {o : Ow} : ∀ (ts : List Tr) {vs : List V} {Φ : Ps}, RepL K Z H o ts vs Φ → RepL K Z H .own (ts.map (kid o)) vs Φ
  | [], _, _, h => h
  | t :: ts, vs, Φ, h => by
    obtain ⟨v, vs', Φ1, Φ2, e, h1, h2, d, u⟩ := h
    exact ⟨v, vs', Φ1, Φ2, e, rep_kid.mpr h1, RepL.kids ts h2, d, u⟩
/-- the items of the thing on top, held by hand in its place -/
theorem EnvOk.items {c : Cz} {σ : St} {H : Hp} {Γ τ : List Ent} {us : List V} {w : V} {en : Ent} {k : Nk} {o : Ow} {ts ts' : List Tr} (E : EnvOk K c σ H Γ (en :: τ) (w :: us)) (hv : viewE Γ en = some (.nd k o ts)) (hi : itemsE en o ts = some ts') :
    ∃ ad vs, w = .ref ad ∧ ObjAt K k o H ad vs ∧ ts.length = vs.length ∧ ts' = ts.map (kid o) ∧ EnvOk K c σ H Γ (ts'.reverse.map Ent.tr ++ τ) (vs.reverse ++ us) := by
  obtain ⟨Z, ws, Φ, Ψ, EE⟩ := E
  have view : ∃ Θ, Rep K Z H .own (.nd k o ts) w Θ ∧ ((cpL (ts.map (kid o)) = true) ∨ ∃ Ψ2, RepL K Z H .own (trees [en]) [w] Θ ∧ RepL K Z H .own (trees τ) us Ψ2 ∧ (∀ b, ¬ (Θ b ∧ Ψ2 b)) ∧ ∀ b, Ψ b ↔ Θ b ∨ Ψ2 b) ∧ ts' = ts.map (kid o) := by
    cases en with
    | tr x =>
      obtain ⟨v0, vs0, Θ1, Θ2, e1, a1, a2, ad, au⟩ := EE.tm
      cases e1
      simp only [viewE] at hv
      cases hv
      simp only [itemsE] at hi
      exact ⟨Θ1, a1, .inr ⟨Θ2, ⟨w, [], Θ1, fun _ => False, rfl, a1, ⟨rfl, fun _ h => h⟩, by simp, by simp⟩, a2, ad, au⟩, (Option.some.inj hi).symm⟩
    | no => simp [viewE] at hv
    | al p =>
      obtain ⟨Θ, r⟩ := EE.view (n := 0) rfl rfl hv
      simp only [itemsE] at hi
      split at hi
      · rename_i hc
        exact ⟨Θ, r, .inl hc, (Option.some.inj hi).symm⟩
      · cases hi
  obtain ⟨Θ, r, hor, ets⟩ := view
  obtain ⟨ad, vs, Ξ, rfl, ho, hl, hn⟩ := id r
  have ho : ObjAt K k o H ad vs := ho
  have hl : RepL K Z H o ts vs Ξ := hl
  have hn : Nod Z k o ad ts Ξ Θ := hn
  have hsub : ∀ b, Ξ b → Θ b := fun b q => by
    by_cases eo : o = .own
    · exact hn.sub eo b q
    · exact absurd q (RepL.no0 _ eo hl b)
  have r2 := RepL.reverse _ (RepL.kids _ hl)
  refine ⟨ad, vs, rfl, ho, RepL.len _ hl, ets, ?_⟩
  have hlen := RepL.len _ hl
  subst ets
  rcases hor with hc | ⟨Ψ2, r3, r4, d, u⟩
  · have n0 := RepL.cp0 _ (RepL.kids _ hl) hc
    refine EE.swapE (τ1 := [en]) (us1 := [.ref ad]) (us1' := vs.reverse) rfl (by simp) (fun Ψ1 r zo => ⟨Z, Ξ, by rw [trees_tr]; exact r2, .same _ _ _ EE.zs (fun b q => RepL.isS _ r b q) _ fun b q => absurd q (n0 b)⟩) (by simp [hlen])
  · exact EE.swapX (τ1 := [en]) (us1 := [.ref ad]) (us1' := vs.reverse) rfl (by simp) r3 r4 d u (by rw [trees_tr]; exact r2) (.same _ _ _ EE.zs (Rep.isS _ r) _ fun b q => ⟨hsub b q, (EE.zo b (.inr ((u b).mpr (.inl (hsub b q))))).2⟩) (by simp [hlen])
/-- the second thing comes on top -/
theorem RepL.swap2 {Z : Zn} {H : Hp} {m : Ow} {t1 t2 : Tr} {ts : List Tr} {v1 v2 : V} {vs : List V} {Φ : Ps} (h : RepL K Z H m (t1 :: t2 :: ts) (v1 :: v2 :: vs) Φ) : RepL K Z H m (t2 :: t1 :: ts) (v2 :: v1 :: vs) Φ := by
  obtain ⟨_, _, Φ1, Φ2, e, h1, ⟨_, _, Φ3, Φ4, e', h2, h3, d', u'⟩, d, u⟩ := h
  cases e
  cases e'
  exact ⟨_, _, Φ3, fun b => Φ1 b ∨ Φ4 b, rfl, h2, ⟨_, _, Φ1, Φ4, rfl, h1, h3, by grind, fun _ => Iff.rfl⟩, by grind, by grind⟩
theorem EnvOk.swap2 {c : Cz} {σ : St} {H : Hp} {Γ τ : List Ent} {us : List V} {v1 v2 : V} {e1 e2 : Ent} (E : EnvOk K c σ H Γ (e1 :: e2 :: τ) (v1 :: v2 :: us)) : EnvOk K c σ H Γ (e2 :: e1 :: τ) (v2 :: v1 :: us) := by
  obtain ⟨Z, ws, Φ, Ψ, sl, tm, dj, so, to, ln, zo, zf, z0, zs, st, pv⟩ := E
  refine ⟨Z, ws, Φ, Ψ, ⟨sl, RepL.swap2 tm, dj, so, ?_, ln, zo, zf, z0, zs, st, pv⟩⟩
  intro i p hi
  match i with
  | 0 => exact to 1 p (by simpa using hi)
  | 1 => exact to 0 p (by simpa using hi)
  | i + 2 => exact to (i + 2) p (by simpa using hi)
/-- the order of what is held by hand does not matter -/
theorem RepL.perm {Z : Zn} {H : Hp} {m : Ow} {l l' : List (Ent × V)} (h : l.Perm l') : ∀ {Φ : Ps}, RepL K Z H m (l.map (·.1.tree)) (l.map (·.2)) Φ → RepL K Z H m (l'.map (·.1.tree)) (l'.map (·.2)) Φ := by
  induction h with
  | nil => intro Φ h; exact h
  | cons x _ ih =>
    intro Φ h
    obtain ⟨v, vs', Φ1, Φ2, e, h1, h2, d, u⟩ := h
    cases e
    exact ⟨_, _, Φ1, Φ2, rfl, h1, ih h2, d, u⟩
  | swap x y l => intro Φ h; exact RepL.swap2 h
  | trans _ _ ih1 ih2 => intro Φ h; exact ih2 (ih1 h)
theorem EnvOk.perm {c : Cz} {σ : St} {H : Hp} {Γ : List Ent} {l l' : List (Ent × V)} (h : l.Perm l') (E : EnvOk K c σ H Γ (l.map (·.1)) (l.map (·.2))) : EnvOk K c σ H Γ (l'.map (·.1)) (l'.map (·.2)) := by
  obtain ⟨Z, ws, Φ, Ψ, sl, tm, dj, so, to, ln, zo, zf, z0, zs, st, pv⟩ := E
  have et : ∀ l : List (Ent × V), trees (l.map (·.1)) = l.map (·.1.tree) := fun l => by simp [trees, List.map_map]
  have tm : RepL K Z H .own (l.map (·.1.tree)) (l.map (·.2)) Ψ := by rw [← et]; exact tm
  refine ⟨Z, ws, Φ, Ψ, ⟨sl, by rw [et]; exact RepL.perm h tm, dj, so, ?_, ln, zo, zf, z0, zs, st, pv⟩⟩
  intro i p hi
  rw [List.getElem?_map] at hi ⊢
  cases q : l'[i]? with
  | none => simp [q] at hi
  | some x =>
    obtain ⟨j, hj⟩ := List.getElem?_of_mem (h.mem_iff.mpr (List.mem_of_getElem? q))
    have := to j p (by rw [List.getElem?_map, hj]; simpa [q] using hi)
    rw [List.getElem?_map, hj] at this
    simpa using this
theorem EnvOk.permA {c : Cz} {σ : St} {H : Hp} {Γ A B τ : List Ent} {va vb us : List V} (la : A.length = va.length) (lb : B.length = vb.length) (E : EnvOk K c σ H Γ (A ++ (B ++ τ)) (va ++ (vb ++ us))) : EnvOk K c σ H Γ (B ++ (A ++ τ)) (vb ++ (va ++ us)) := by
  have lt : τ.length = us.length := by
    obtain ⟨Z, ws, Φ, Ψ, EE⟩ := E
    have := RepL.len _ EE.tm
    simp [trees] at this
    omega
  have h := EnvOk.perm (K := K) (c := c) (σ := σ) (H := H) (Γ := Γ) (l := A.zip va ++ (B.zip vb ++ τ.zip us)) (l' := B.zip vb ++ (A.zip va ++ τ.zip us)) (by
    rw [← List.append_assoc, ← List.append_assoc]
    exact List.Perm.append_right _ List.perm_append_comm)
  simp only [List.map_append, List.map_fst_zip (Nat.le_of_eq la), List.map_snd_zip (Nat.le_of_eq la.symm), List.map_fst_zip (Nat.le_of_eq lb), List.map_snd_zip (Nat.le_of_eq lb.symm), List.map_fst_zip (Nat.le_of_eq lt), List.map_snd_zip (Nat.le_of_eq lt.symm)] at h
  exact h E
theorem fCat_ok : RA2 K md W rCat fCat := by
  refine .mk fun c σ H m us x y Q rr hc E hf hp => ?_
  simp only [fCat] at hf
  split at hf
  · rename_i ey ex s hs
    split at hf
    · rename_i o ts o' us' hx hy
      split at hf
      · rename_i ts' us2 h1 h2
        split at hf
        · rename_i hlen
          split at hf
          · rename_i tn hn
            cases hf
            rw [hs] at E
            obtain ⟨ad, vs, rfl, ho, hl, e1, E1⟩ := E.items hy h2
            have l2 : us2.length = vs.length := by rw [e1]; simpa using hl
            have E2 := EnvOk.permA (B := [ex]) (vb := [x]) (by simp [l2]) rfl E1
            obtain ⟨ad2, vs2, rfl, ho2, hl2, e2, E3⟩ := EnvOk.items (τ := us2.reverse.map Ent.tr ++ s) (us := vs.reverse ++ us) E2 hx h1
            have l1 : ts'.length = vs2.length := by rw [e2]; simpa using hl2
            refine ⟨ad2, ad, vs2, vs, rfl, rfl, ho2, ho, by omega, fun p np => hp _ _ ?_⟩
            have E4 := EnvOk.permA (A := ts'.reverse.map Ent.tr) (B := us2.reverse.map Ent.tr) (va := vs2.reverse) (vb := vs.reverse) (by simp [l1]) (by simp [l2]) E3
            refine EnvOk.new (ts := ts' ++ us2) (vs := vs2 ++ vs) (by simpa using E4) (by simp [l1, l2]) np hn fun o => upd_same
          · cases hf
        · cases hf
      · cases hf
    · cases hf
  · cases hf
def fRep : GE := fun m => match m.s with
  | .tr (.a (.int k)) :: x :: s => match viewE m.g x with
    | some (.nd .lst o ts) => if cpL (ts.map (kid o)) = true ∧ -(2 ^ 63) ≤ k ∧ k < 2 ^ 63 ∧ ts.length * k.toNat ≤ sizeLine then match mkN .lst (List.replicate k.toNat (ts.map (kid o))).flatten with
        | some t => some (.ok ⟨m.g, .tr t :: s⟩)
        | none => none
      else none
    | _ => none
  | _ => none
theorem RepL.rep {Z : Zn} {H : Hp} {ts : List Tr} {vs : List V} {Φ : Ps} (h : RepL K Z H .own ts vs Φ) (hc : cpL ts = true) : ∀ k : Nat, ∃ Ψ, RepL K Z H .own (List.replicate k ts).flatten (List.replicate k vs).flatten Ψ ∧ ∀ b, ¬ Ψ b
  | 0 => ⟨fun _ => False, ⟨rfl, fun _ h => h⟩, fun _ h => h⟩
  | k + 1 => by
    obtain ⟨Ψ, r, n⟩ := RepL.rep h hc k
    have n0 := RepL.cp0 _ h hc
    refine ⟨fun b => Φ b ∨ Ψ b, ?_, by grind⟩
    rw [List.replicate_succ, List.replicate_succ, List.flatten_cons, List.flatten_cons]
    exact RepL.append _ h r (by grind)
theorem fRep_ok : RA2 K md W rRep fRep := by
  refine .mk fun c σ H m us x y Q rr hc E hf hp => ?_
  simp only [fRep] at hf
  split at hf
  · rename_i k ex s hs
    split at hf
    · rename_i o ts hx
      split at hf
      · rename_i hg
        split at hf
        · rename_i tn hn
          cases hf
          rw [hs] at E
          have ey := top_a E
          subst ey
          obtain ⟨ad, vs, rfl, ho, hl, _, E1⟩ := E.drop.items (ts' := ts.map (kid o)) hx (by
            cases ex with
            | tr _ => rfl
            | no => simp [viewE] at hx
            | al p => simp only [itemsE]; rw [if_pos hg.1])
          refine ⟨ad, k, vs, rfl, rfl, ho, hg.2.1, hg.2.2.1, by rw [← hl]; exact hg.2.2.2, fun p np => hp _ _ ?_⟩
          obtain ⟨Z, ws, Φ, Ψ, EE⟩ := E1
          refine EnvOk.new (ts := (List.replicate k.toNat (ts.map (kid o))).flatten) (vs := (List.replicate k.toNat vs).flatten) ?_ (by simp [hl]) np hn fun o => upd_same
          refine EE.swapE (by simp [hl]) (fun e he p => by obtain ⟨x, _, rfl⟩ := List.mem_map.mp he; exact fun q => by cases q) (fun Ψ1 r zo => ?_) (by simp [hl])
          rw [trees_tr] at r ⊢
          have r0 := RepL.reverse _ r
          rw [List.reverse_reverse, List.reverse_reverse] at r0
          obtain ⟨Ψ2, r2, n2⟩ := RepL.rep r0 hg.1 k.toNat
          exact ⟨Z, Ψ2, RepL.reverse _ r2, .same _ _ _ EE.zs (RepL.isS _ r) _ fun b q => absurd q (n2 b)⟩
        · cases hf
      · cases hf
    · cases hf
  · cases hf
/-! + - * // % -/
instance (i j : Int) : Decidable (CMul i j) := by unfold CMul; infer_instance
def cMul : Int → Int → Bool := fun i j => decide (CMul i j)
def cPos : Int → Int → Bool := fun _ j => decide (0 < j)
def cDiv : Int → Int → Bool := fun i j => decide (0 < j ∧ j < 1073741824)
def fAdd : GE := gOr (fP2 (FI cT fun i j => .int (i + j))) (gOr (fP2 FS) fCat)
def fSub : GE := fP2 (FI cT fun i j => .int (i - j))
def fMul : GE := gOr (fP2 (FI cMul fun i j => .int (i * j))) fRep
def fMod : GE := fP2 (FI cPos fun i j => .int (i % j))
def fDiv : GE := fP2 (FI cDiv fun i j => .int (i / j))
theorem me_add (ha : ME X T md W a ga) (hb : ME X T md W b gb) : ME X T md W (.BinOp a .Add b pos) (gSeq (gSeq ga gb) fAdd) := me_bin (op_add.or (op_add_str.or op_cat)) (fI_ok0.or (fS_ok.or fCat_ok)) ha hb
theorem me_sub (ha : ME X T md W a ga) (hb : ME X T md W b gb) : ME X T md W (.BinOp a .Sub b pos) (gSeq (gSeq ga gb) fSub) := me_bin op_sub fI_ok0 ha hb
theorem me_mul (ha : ME X T md W a ga) (hb : ME X T md W b gb) : ME X T md W (.BinOp a .Mult b pos) (gSeq (gSeq ga gb) fMul) := me_bin (op_mul.or op_rep) ((fI_ok (C := cMul) fun _ _ h => of_decide_eq_true h).or fRep_ok) ha hb
theorem me_mod (ha : ME X T md W a ga) (hb : ME X T md W b gb) : ME X T md W (.BinOp a .Mod b pos) (gSeq (gSeq ga gb) fMod) := me_bin op_mod (fI_ok (C := cPos) fun _ _ h => of_decide_eq_true h) ha hb
theorem me_div (ha : ME X T md W a ga) (hb : ME X T md W b gb) : ME X T md W (.BinOp a .FloorDiv b pos) (gSeq (gSeq ga gb) fDiv) := me_bin op_fdiv (fI_ok (C := cDiv) fun i j h => (of_decide_eq_true h : 0 < j ∧ j < 1073741824)) ha hb
/-! comparisons -/
def fLt : GE := fP2 (FI cT fun i j => .bl (decide (i < j)))
def fLe : GE := fP2 (FI cT fun i j => .bl (decide (i ≤ j)))
def fGt : GE := fP2 (FI cT fun i j => .bl (decide (j < i)))
def fGe : GE := fP2 (FI cT fun i j => .bl (decide (j ≤ i)))
mutual
def toD : Tr → Option PyData
  | .a .non => some .none
  | .a (.bl b) => some (.bool b)
  | .a (.int i) => some (.int i)
  | .a (.str x) => some (.str x)
  | .nd .lst _ ts => match toDL ts with
    | some ds => some (.list ds)
    | none => none
  | .nd .tup _ ts => match toDL ts with
    | some ds => some (.tuple ds)
    | none => none
  | _ => none
def toDL : List Tr → Option (List PyData)
  | [] => some []
  | t :: ts => match toD t, toDL ts with
    | some d, some ds => some (d :: ds)
    | _, _ => none
end
mutual
theorem toD_ok {Z : Zn} {H : Hp} : ∀ (t : Tr) {m : Ow} {v : V} {Φ : Ps} {d : PyData}, Rep K Z H m t v Φ → toD t = some d → Dp K.K H v d
  | .any, _, _, _, _, _, e => by simp [toD] at e
  | .a u, _, v, _, d, h, e => by
    obtain ⟨rfl, _⟩ := h
    cases v <;> simp [toD] at e <;> subst e <;> constructor
  | .nd k o ts, m, v, Φ, d, h, e => by
    obtain ⟨ad, vs, Ψ, rfl, ho, hl, hn⟩ := h
    cases k with
    | lst =>
      simp only [toD] at e
      split at e
      · rename_i ds hd
        cases e
        exact .lst (objL ho) (toDL_ok ts hl hd)
      · cases e
    | tup =>
      simp only [toD] at e
      split at e
      · rename_i ds hd
        cases e
        exact .tup (objT ho) (toDL_ok ts hl hd)
      · cases e
    | ins _ _ => simp [toD] at e
    | dct _ => simp [toD] at e
    | dcT _ => simp [toD] at e
    | sti _ => simp [toD] at e
theorem toDL_ok {Z : Zn} {H : Hp} : ∀ (ts : List Tr) {m : Ow} {vs : List V} {Φ : Ps} {ds : List PyData}, RepL K Z H m ts vs Φ → toDL ts = some ds → DpAll K.K H vs ds
  | [], _, vs, _, ds, h, e => by
    obtain ⟨rfl, _⟩ := h
    simp only [toDL] at e
    cases e
    exact .nil
  | t :: ts, m, vs, Φ, ds, h, e => by
    obtain ⟨v, vs', Φ1, Φ2, rfl, h1, h2, _, _⟩ := h
    simp only [toDL] at e
    split at e
    · rename_i d ds' hd hds
      cases e
      exact .cons (toD_ok t h1 hd) (toDL_ok ts h2 hds)
    · cases e
end
def FEq (neg : Bool) : Tr → Tr → Option V
  | .a u, .a v => if scal u v = true then some (.bl (if neg then !decide (u = v) else decide (u = v))) else none
  | tx, ty => match toD tx, toD ty with
    | some d, some e => if SeqAt.shaped d = true ∧ SeqAt.shaped e = true then some (.bl (if neg then !PyData.eqv d e else PyData.eqv d e)) else none
    | _, _ => none
def fEq : GE := fP2 (FEq false)
def fNe : GE := fP2 (FEq true)
theorem FEq_eq {neg : Bool} {tx ty : Tr} {u : V} (h : FEq neg tx ty = some u) : (∃ x y, tx = .a x ∧ ty = .a y ∧ scal x y = true ∧ u = .bl (if neg then !decide (x = y) else decide (x = y))) ∨ ∃ d e, toD tx = some d ∧ toD ty = some e ∧ SeqAt.shaped d = true ∧ SeqAt.shaped e = true ∧ u = .bl (if neg then !PyData.eqv d e else PyData.eqv d e) := by
  unfold FEq at h
  split at h
  · rename_i x y
    split at h
    · rename_i hc
      exact .inl ⟨x, y, rfl, rfl, hc, (Option.some.inj h).symm⟩
    · cases h
  · split at h
    · rename_i d e hd he
      split at h
      · rename_i hc
        exact .inr ⟨d, e, hd, he, hc.1, hc.2, (Option.some.inj h).symm⟩
      · cases h
    · cases h
theorem fEq_ok : RA2 K md W (fun x y H Q => rEq x y H Q ∨ rEqD K.K x y H Q) fEq := fP2_ok fun Z H x y tx ty u Φ Ψ Q r1 r2 e q => by
  rcases FEq_eq e with ⟨x', y', rfl, rfl, hc, rfl⟩ | ⟨d, e', hd, he, s1, s2, rfl⟩
  · obtain ⟨rfl, _⟩ := r1
    obtain ⟨rfl, _⟩ := r2
    exact .inl ⟨hc, q⟩
  · exact .inr ⟨d, e', toD_ok _ r1 hd, toD_ok _ r2 he, s1, s2, q⟩
theorem fNe_ok : RA2 K md W (fun x y H Q => rNe x y H Q ∨ rNeD K.K x y H Q) fNe := fP2_ok fun Z H x y tx ty u Φ Ψ Q r1 r2 e q => by
  rcases FEq_eq e with ⟨x', y', rfl, rfl, hc, rfl⟩ | ⟨d, e', hd, he, s1, s2, rfl⟩
  · obtain ⟨rfl, _⟩ := r1
    obtain ⟨rfl, _⟩ := r2
    exact .inl ⟨hc, q⟩
  · exact .inr ⟨d, e', toD_ok _ r1 hd, toD_ok _ r2 he, s1, s2, q⟩
/-- is None -/
def FIs (neg : Bool) : Tr → Tr → Option V
  | .a u, .a .non => some (.bl (if neg then !decide (u = .non) else decide (u = .non)))
  | .nd _ _ _, .a .non => some (.bl neg)
  | _, _ => none
def fIsN : GE := fP2 (FIs false)
def fNotN : GE := fP2 (FIs true)
def FIsB (neg : Bool) : Tr → Tr → Option V
  | .a (.bl a), .a (.bl b) => some (.bl (if neg then !decide (a = b) else decide (a = b)))
  | _, _ => none
def fIsB : GE := fP2 (FIsB false)
/-- in, of flat things -/
def atoms : List Tr → Option (List V)
  | [] => some []
  | .a v :: ts => match atoms ts with
    | some vs => some (v :: vs)
    | none => none
  | _ => none
theorem atoms_ok {Z : Zn} {H : Hp} {m : Ow} : ∀ {ts : List Tr} {vs us : List V} {Φ : Ps}, RepL K Z H m ts vs Φ → atoms ts = some us → vs = us
  | [], _, _, _, h, e => by
    obtain ⟨rfl, _⟩ := h
    simp only [atoms] at e
    cases e
    rfl
  | t :: ts, vs, us, Φ, h, e => by
    obtain ⟨v, vs', Φ1, Φ2, rfl, h1, h2, _, _⟩ := h
    cases t with
    | a w =>
      simp only [atoms] at e
      split at e
      · rename_i us' he
        cases e
        rw [atoms_ok h2 he, h1.1]
      · cases e
    | any => simp [atoms] at e
    | nd _ _ _ => simp [atoms] at e
def FIn (neg : Bool) : Tr → Tr → Option V
  | .a x, .nd .lst _ ts => match atoms ts with
    | some vs => if flatV x = true ∧ vs.all flatV = true then some (.bl (if neg then !inV x vs else inV x vs)) else none
    | none => none
  | .a x, .nd .tup _ ts => match atoms ts with
    | some vs => if flatV x = true ∧ vs.all flatV = true then some (.bl (if neg then !inV x vs else inV x vs)) else none
    | none => none
  | _, _ => none
theorem fIn_ok {neg : Bool} : RA2 K md W (rIn K.K neg) (fP2 (FIn neg)) := fP2_ok fun Z H x y tx ty u Φ Ψ Q r1 r2 e q => by
  unfold FIn at e
  split at e
  · split at e
    · rename_i vs hv
      split at e
      · rename_i hc
        cases e
        obtain ⟨rfl, _⟩ := r1
        obtain ⟨ad, vs', Ξ, rfl, ho, hl, _⟩ := r2
        cases atoms_ok hl hv
        exact ⟨ad, vs, rfl, .inl (objL ho), hc.1, hc.2, q⟩
      · cases e
    · cases e
  · split at e
    · rename_i vs hv
      split at e
      · rename_i hc
        cases e
        obtain ⟨rfl, _⟩ := r1
        obtain ⟨ad, vs', Ξ, rfl, ho, hl, _⟩ := r2
        cases atoms_ok hl hv
        exact ⟨ad, vs, rfl, .inr (objT ho), hc.1, hc.2, q⟩
      · cases e
    · cases e
  · cases e
def fIn : GE := fP2 (FIn false)
def fNotIn : GE := fP2 (FIn true)
end
section
variable {K : KC} {X : Cx} {T : KT} {md : List Bool} {W : WX} {g ga gb f f' : GE} {e a b : Expr} {es : List Expr} {pos p : Pos} {n : Nat} {v : V} {x : Str} {id Ty : String} {q q' : List V → Hp → VK → Prop}
theorem se_cb {t : TA} (ha : SA K md W n t g) (hf : RA K md W n (fun _ => q) f) : SE K md W (tCB q t) (gSeq g f) := by
  intro c σ H m us Q rr hc E hg hp
  simp only [gSeq] at hg
  split at hg
  · rename_i m1 h1
    exact ha c σ H m us _ _ hc E h1 fun vs H1 hl E1 => hf c σ H1 m1 us vs Q rr hc hl E1 hg hp
  · rename_i h1
    refine ha c σ H m us _ _ hc E hg ?_
    cases rr with
    | ex C g' => exact hp
    | ok m2 => exact absurd hg (h1 m2)
theorem me_callB (hc : CallR X (.builtin id) q) (hf : RA (kcm X.K T) md W (e :: es).length (fun _ => q) f) (hg : Gl X x) (hm : X.mg x = none) (hv : bootBuiltins x = some (.builtin id)) (ha : MA X T md W (e :: es) g) (hn : x ≠ "__name__" := by decide) (hdb : (x == ("__debug__" : Str)) = false := by decide)
    (he : starEach (e :: es) X.env = (false, eval e X.env) :: starEach es X.env := by rfl) (hpl : (backTo pos (starEach es X.env)).any (·.1) = false := by rfl) : ME X T md W (.Call (.Name x p) (e :: es) [] pos) (gSeq g f) := by
  obtain ⟨t, pa, sa⟩ := ha
  exact ⟨_, pe_callB hc hg hm hv pa hn hdb he hpl, se_cb sa hf⟩
theorem me_callTy (hc : CallR X (.type Ty) q) (hf : RA (kcm X.K T) md W (e :: es).length (fun _ => q) f) (hg : Gl X x) (hm : X.mg x = none) (hv : bootBuiltins x = some (.type Ty)) (ha : MA X T md W (e :: es) g) (hn : x ≠ "__name__" := by decide) (hdb : (x == ("__debug__" : Str)) = false := by decide)
    (he : starEach (e :: es) X.env = (false, eval e X.env) :: starEach es X.env := by rfl) (hpl : (backTo pos (starEach es X.env)).any (·.1) = false := by rfl) : ME X T md W (.Call (.Name x p) (e :: es) [] pos) (gSeq g f) := by
  obtain ⟨t, pa, sa⟩ := ha
  exact ⟨_, pe_callTy hc hg hm hv pa hn hdb he hpl, se_cb sa hf⟩
theorem CallR.or {f : Value} (h : CallR X f q) (h' : CallR X f q') : CallR X f (fun xs H Q => q xs H Q ∨ q' xs H Q) := by
  intro pins s σ H xs us Q I r z
  rcases z with z | z
  · exact h pins s σ H xs us Q I r z
  · exact h' pins s σ H xs us Q I r z
theorem RA.or {r r' : St → List V → Hp → VK → Prop} (h : RA K md W n r f) (h' : RA K md W n r' f') : RA K md W n (fun σ xs H Q => r σ xs H Q ∨ r' σ xs H Q) (gOr f f') := by
  intro c σ H m us vs Q rr hc hl E hf hp
  simp only [gOr] at hf
  cases e1 : f m with
  | none =>
    simp only [e1] at hf
    exact .inr (h' c σ H m us vs Q rr hc hl E hf hp)
  | some r1 =>
    simp only [e1] at hf
    exact .inl (h c σ H m us vs Q rr hc hl E (by rw [e1]; exact hf) hp)
/-! len -/
def FLen : Tr → Option V
  | .a (.str z) => if z.length ≤ sizeLine then some (.int z.length) else none
  | .nd .lst _ ts => some (.int ts.length)
  | .nd .tup _ ts => some (.int ts.length)
  | .nd (.dct ks) _ ts => some (.int ts.length)
  | _ => none
def fLen : GE := fP1 FLen
theorem call_lenR : CallR X (.builtin "len") (fun xs H Q => ∃ a kvs, xs = [V.ref a] ∧ Rd H a (.dK kvs) ∧ Q (.int kvs.length) H) := by
  intro pins s σ H xs us Q I r h
  obtain ⟨a, kvs, rfl, ha, q⟩ := h
  obtain ⟨u, rfl, ru⟩ := vals1 r
  cases ru
  exact d_len I ha fun t s' I' => ⟨.int kvs.length, H, I', ⟨t, rfl⟩, q⟩
theorem fLen_ok : RA K md W 1 (fun _ xs H Q => (∃ x n, xs = [x] ∧ LenV K.K x H n ∧ Q (.int n) H) ∨ ∃ a kvs, xs = [V.ref a] ∧ Rd H a (.dK kvs) ∧ Q (.int kvs.length) H) fLen := fP1_ok fun σ Z H x tx u Φ Q r e q => by
  unfold FLen at e
  split at e
  · split at e
    · rename_i z hz
      cases e
      obtain ⟨rfl, _⟩ := r
      exact .inl ⟨_, _, rfl, ⟨hz, rfl⟩, q⟩
    · cases e
  · cases e
    obtain ⟨ad, vs, Ξ, rfl, ho, hl, _⟩ := r
    rw [RepL.len _ hl] at q
    exact .inl ⟨_, _, rfl, .inl ⟨vs, objL ho, rfl⟩, q⟩
  · cases e
    obtain ⟨ad, vs, Ξ, rfl, ho, hl, _⟩ := r
    rw [RepL.len _ hl] at q
    exact .inl ⟨_, _, rfl, .inr ⟨vs, objT ho, rfl⟩, q⟩
  · cases e
    obtain ⟨ad, vs, Ξ, rfl, ho, hl, _⟩ := r
    rw [RepL.len _ hl] at q
    have ho := ObjAt.rd ho
    refine .inr ⟨ad, _, rfl, ho.2, ?_⟩
    rw [List.length_zip, ho.1, Nat.min_self]
    exact q
  · cases e
/-! list(x), tuple(x) -/
def fLst : GE := fun m => match m.s with
  | e :: s => match viewE m.g e with
    | some (.nd .lst o ts) => match itemsE e o ts with
      | some ts' => match mkN .lst ts' with
        | some t => some (.ok ⟨m.g, .tr t :: s⟩)
        | none => none
      | none => none
    | some (.nd .tup o ts) => match itemsE e o ts with
      | some ts' => match mkN .lst ts' with
        | some t => some (.ok ⟨m.g, .tr t :: s⟩)
        | none => none
      | none => none
    | _ => none
  | _ => none
theorem fLst_ok : RA K md W 1 (fun _ xs H Q => ∃ p ys, xs = [.ref p] ∧ (SqL K.K H p ys ∨ SqT K.K H p ys) ∧ ∀ l, H l = none → Q (.ref l) (upd H l (.lst ys))) fLst := by
  intro c σ H m us vs Q rr hc hl E hf hp
  match vs, hl with
  | [x], _ =>
    simp only [fLst] at hf
    split at hf
    · rename_i ex s hs
      rw [hs] at E
      split at hf
      · rename_i o ts hv
        split at hf
        · rename_i ts' h2
          split at hf
          · rename_i tn hn
            cases hf
            obtain ⟨ad, vs, rfl, ho, hl, e1, E1⟩ := EnvOk.items E hv h2
            exact ⟨ad, vs, rfl, .inl (objL ho), fun l nl => hp _ _ (E1.new (by rw [e1]; simpa using hl) nl hn fun o => upd_same)⟩
          · cases hf
        · cases hf
      · rename_i o ts hv
        split at hf
        · rename_i ts' h2
          split at hf
          · rename_i tn hn
            cases hf
            obtain ⟨ad, vs, rfl, ho, hl, e1, E1⟩ := EnvOk.items E hv h2
            exact ⟨ad, vs, rfl, .inr (objT ho), fun l nl => hp _ _ (E1.new (by rw [e1]; simpa using hl) nl hn fun o => upd_same)⟩
          · cases hf
        · cases hf
      · cases hf
    · cases hf
def fTup : GE := fun m => match m.s with
  | e :: s => match viewE m.g e with
    | some (.nd .lst o ts) => match itemsE e o ts with
      | some ts' => some (.ok ⟨m.g, .tr (.nd .tup .own ts') :: s⟩)
      | none => none
    | some (.nd .tup _ _) => some (.ok ⟨m.g, e :: s⟩)
    | _ => none
  | _ => none
theorem fTup_ok : RA K md W 1 (fun _ xs H Q => ∃ p ys, xs = [.ref p] ∧ ((SqL K.K H p ys ∧ ∀ l, H l = none → Q (.ref l) (upd H l (.tup ys))) ∨ (SqT K.K H p ys ∧ Q (.ref p) H))) fTup := by
  intro c σ H m us vs Q rr hc hl E hf hp
  match vs, hl with
  | [x], _ =>
    simp only [fTup] at hf
    split at hf
    · rename_i ex s hs
      rw [hs] at E
      split at hf
      · rename_i o ts hv
        split at hf
        · rename_i ts' h2
          cases hf
          obtain ⟨ad, vs, rfl, ho, hl, e1, E1⟩ := EnvOk.items E hv h2
          exact ⟨ad, vs, rfl, .inl ⟨objL ho, fun l nl => hp _ _ (EnvOk.new (k := .tup) E1 (by rw [e1]; simpa using hl) nl (by simp [mkN]) fun o => .inl upd_same)⟩⟩
        · cases hf
      · rename_i o ts hv
        cases hf
        obtain ⟨Z, ws, Φ, Ψ, EE⟩ := id E
        obtain ⟨Θ1, ad, vs, Ξ, rfl, ho, _⟩ := EE.view (n := 0) rfl rfl hv
        exact ⟨ad, vs, rfl, .inr ⟨objT ho, hp _ _ E⟩⟩
      · cases hf
    · cases hf
/-! int, abs, min, max -/
def FInt : Tr → Option V
  | .a (.int i) => some (.int i)
  | .a (.bl k) => some (.int (if k then 1 else 0))
  | _ => none
def fInt : GE := fP1 FInt
theorem fInt_ok : RA K md W 1 (fun _ xs H Q => (∃ i, xs = [.int i] ∧ Q (.int i) H) ∨ ∃ k, xs = [.bl k] ∧ Q (.int (if k then 1 else 0)) H) fInt := fP1_ok fun σ Z H x tx u Φ Q r e q => by
  unfold FInt at e
  split at e
  · cases e
    exact .inl ⟨_, by rw [r.1], q⟩
  · cases e
    exact .inr ⟨_, by rw [r.1], q⟩
  · cases e
def FNeg : Tr → Option V
  | .a (.int i) => some (.int (-i))
  | _ => none
def fNeg : GE := fP1 FNeg
theorem fNeg_ok : RA K md W 1 (fun _ xs H Q => ∃ i, xs = [.int i] ∧ Q (.int (-i)) H) fNeg := fP1_ok fun σ Z H x tx u Φ Q r e q => by
  unfold FNeg at e
  split at e
  · cases e
    exact ⟨_, by rw [r.1], q⟩
  · cases e
theorem me_neg (h : ME X T md W a ga) : ME X T md W (.UnaryOp .USub a pos) (gSeq ga fNeg) := by
  obtain ⟨t, p, s⟩ := h
  refine ⟨_, pe_un un_neg p, fun c σ H m us Q rr hc E hg hp => ?_⟩
  simp only [gSeq] at hg
  split at hg
  · rename_i m1 h1
    refine s c σ H m us _ _ hc E h1 fun x H1 E1 => ?_
    obtain ⟨i, e, q⟩ := fNeg_ok c σ H1 m1 us [x] Q rr hc rfl E1 hg hp
    cases e
    exact ⟨i, rfl, q⟩
  · rename_i h1
    refine s c σ H m us _ _ hc E hg ?_
    cases rr with
    | ex C g' => exact hp
    | ok m2 => exact absurd hg (h1 m2)
/-! isinstance of built-in classes -/
def tyN : Tr → Option String
  | .a .non => some "NoneType"
  | .a (.bl _) => some "bool"
  | .a (.int _) => some "int"
  | .a (.str _) => some "str"
  | .nd .lst _ _ => some "list"
  | .nd .tup _ _ => some "tuple"
  | .nd (.dct _) .own _ => some "dict"
  | _ => none
theorem tyN_ok {Z : Zn} {H : Hp} {t : Tr} {v : V} {Φ : Ps} {s : String} (r : Rep K Z H .own t v Φ) (h : tyN t = some s) : TyX K.K H v (.type s) := by
  unfold tyN at h
  split at h <;> cases h
  · rw [r.1]; exact .base .non
  · rw [r.1]; exact .base (.bl _)
  · rw [r.1]; exact .base (.int _)
  · rw [r.1]; exact .base (.str _)
  · obtain ⟨ad, vs, Ξ, rfl, ho, _⟩ := r
    exact .base (.lst ho)
  · obtain ⟨ad, vs, Ξ, rfl, ho, _⟩ := r
    rcases ho with ho | (ho | ⟨_, ho⟩) | ⟨o, its, k, h1, h2, _⟩
    · exact .base (.tup ho)
    · cases ho
    · cases ho
    · exact .kTuple h1 h2
  · obtain ⟨ad, vs, Ξ, rfl, ho, _⟩ := r
    exact .base (.dK ho.2)
def kitAnyB (a : String) : List String → Option Bool
  | [] => some false
  | b :: bs => match kitB a b with
    | some true => some true
    | some false => kitAnyB a bs
    | none => none
def tyNames : List Tr → Option (List String)
  | [] => some []
  | .a (.ty n) :: ts => match tyNames ts with
    | some ns => some (n :: ns)
    | none => none
  | _ => none
def FIsi : Tr → Tr → Option V
  | tx, .a (.ty n) => match tyN tx with
    | some s => match kitB s n with
      | some b => some (.bl b)
      | none => none
    | none => none
  | tx, .nd .tup .own ts => match tyN tx, tyNames ts with
    | some s, some ns => match kitAnyB s ns with
      | some b => some (.bl b)
      | none => none
    | _, _ => none
  | _, _ => none
def fIsi : GE := fP2 FIsi
theorem kitAnyB_ok {K : PySem.W.Frag} {a : String} : ∀ {ns : List String} {b : Bool}, kitAnyB a ns = some b → PySem.W.kitAny K (.type a) (ns.map Value.type) = some b
  | [], b, h => by
    simp only [kitAnyB] at h
    rw [← h]
    rfl
  | n :: ns, b, h => by
    simp only [kitAnyB] at h
    split at h
    · rename_i h1
      cases h
      exact kitAny_cons (kit_ty h1) (fun q => by cases q) (fun _ => rfl)
    · rename_i h1
      exact kitAny_cons (kit_ty h1) (fun _ => kitAnyB_ok h) (fun q => by cases q)
    · cases h
theorem tyNames_ok {Z : Zn} {H : Hp} {m : Ow} : ∀ {ts : List Tr} {vs : List V} {Φ : Ps} {ns : List String}, RepL K Z H m ts vs Φ → tyNames ts = some ns → Paired ClsV vs (ns.map Value.type)
  | [], _, _, _, h, e => by
    obtain ⟨rfl, _⟩ := h
    simp only [tyNames] at e
    cases e
    exact .nil
  | t :: ts, vs, Φ, ns, h, e => by
    obtain ⟨v, vs', Φ1, Φ2, rfl, h1, h2, _, _⟩ := h
    unfold tyNames at e
    split at e
    · rename_i heq
      cases heq
    · rename_i n ts2 heq
      cases heq
      split at e
      · rename_i ns' hn
        cases e
        rw [h1.1]
        exact .cons (.ty n) (tyNames_ok h2 hn)
      · cases e
    · cases e
theorem fIsi_ok : RA K md W 2 (fun _ xs H Q => rIsi K.K xs H Q ∨ (rIsiT K.K xs H Q ∨ rIsiK K.K xs H Q)) fIsi := by
  intro c σ H m us vs Q rr hc hl E hf hp
  have := fP2_ok (K := K) (md := md) (W := W) (F := FIsi) (r := fun x y H Q => rIsi K.K [x, y] H Q ∨ (rIsiT K.K [x, y] H Q ∨ rIsiK K.K [x, y] H Q)) (fun Z H x y tx ty u Φ Ψ Q r1 r2 e q => by
    unfold FIsi at e
    split at e
    · split at e
      · rename_i n _ s hs
        split at e
        · rename_i b hb
          cases e
          rw [r2.1]
          exact .inl ⟨x, _, _, _, b, rfl, .ty n, tyN_ok r1 hs, kit_ty hb, q⟩
        · cases e
      · cases e
    · split at e
      · rename_i ts s ns hs hn
        split at e
        · rename_i b hb
          cases e
          obtain ⟨ad, vs, Ξ, rfl, ho, hl, _⟩ := r2
          rcases ho with ho | ho
          · exact .inr (.inl ⟨x, ad, vs, _, _, b, rfl, ho, tyNames_ok hl hn, tyN_ok r1 hs, kitAnyB_ok hb, q⟩)
          · rcases ho with (ho | ⟨_, ho⟩) | ⟨o, its, k, h1, h2, h3, h4, h5⟩
            · cases ho
            · cases ho
            · have e3 := ClsV.all (tyNames_ok hl hn) h5
              obtain ⟨oc, od, dt, sl⟩ := o
              simp only at h2 h3
              subst h2 h3
              exact .inr (.inr ⟨x, ad, od, its.toList, k, sl, _, b, rfl, by rw [Array.toArray_toList]; exact h1, tyN_ok r1 hs, by rw [e3]; exact kitAnyB_ok hb, q⟩)
        · cases e
      · cases e
    · cases e) c σ H m us vs Q rr hc hl E hf hp
  obtain ⟨x, y, rfl, z⟩ := this
  exact z
end
section
variable {K : KC} {X : Cx} {T : KT} {md : List Bool} {W : WX} {c : Cz} {σ : St} {H H' : Hp} {Γ τ τ1 : List Ent} {us us1 vs vs' : List V} {v w : V} {p q : List Nat} {t : Tr} {ts ts' : List Tr} {k k' : Nk} {i j : Nat} {a : Addr}
theorem kill_set {e : Ent} : kill p (Γ.set i e) = (kill p Γ).set i (killE p e) := by simp [kill, List.map_set]
theorem setG_kill : setG (kill p Γ) q t = kill p (setG Γ q t) := by
  cases q with
  | nil => rfl
  | cons i q =>
    simp only [setG]
    cases e : Γ[i]? with
    | none => simp [kill, e]
    | some x =>
      have e2 : (kill p Γ)[i]? = some (killE p x) := by simp [kill, e]
      cases x with
      | no => simp [e2, killE]
      | tr y => simp only [e2, killE, kill_set]
      | al r =>
        by_cases nb : nbel p r = true
        · simp [e2, killE, nb]
        · simp [e2, killE, nb]
theorem setT_setT : ∀ {p : List Nat} {t x y : Tr}, setT (setT t p x) p y = setT t p y
  | [], _, _, _ => rfl
  | j :: p, t, x, y => by
    cases t with
    | any => rfl
    | a v => rfl
    | nd k o us =>
      simp only [setT]
      cases e : us[j]? with
      | none => simp [e, setT]
      | some z =>
        simp only [setT, List.getElem?_set_self (getq_lt' e), List.set_set]
        rw [setT_setT]
theorem setG_setG {x y : Tr} : setG (setG Γ p x) p y = setG Γ p y := by
  cases p with
  | nil => rfl
  | cons i p =>
    simp only [setG]
    cases e : Γ[i]? with
    | none => simp [e]
    | some z =>
      cases z with
      | no => simp [e]
      | al _ => simp [e]
      | tr t => simp only [List.getElem?_set_self (getq_lt' e), List.set_set, setT_setT]
theorem kill_trs : kill p (ts.map Ent.tr) = ts.map Ent.tr := by
  simp [kill, killE]
theorem getG_setG_same {x : Tr} (h : (getG Γ p).isSome = true) : getG (setG Γ p x) p = some x := by
  have h1 := getG_setG (t := x) h h (by
    have npp : ∀ {p : List Nat}, nbel p p = true := by
      intro p
      induction p with
      | nil => rfl
      | cons i p ih => simp [nbel, ih]
    exact npp)
  rw [← getG_getP h1, trees_setG h]
  exact getP_setP_same (getG_isP h)
/-- the things on top of a place go into it, or change it: the node at the place becomes another one -/
theorem EnvOk.modP {ins outs : List Tr} {vouts : List V} {ob : HO} (E : EnvOk K c σ H Γ (.al p :: (ins.map Ent.tr ++ τ)) (w :: (us1 ++ us))) (hl : ins.length = us1.length) (g : getG Γ p = some (.nd k .own ts)) (hk : k ≠ .tup) (hk' : k' ≠ .tup)
    (step : ∀ a vs, w = .ref a → ObjAt K k .own H a vs → ts.length = vs.length → ∃ vs', ts'.length = vs'.length ∧ ObjAt K k' .own (upd H a ob) a vs' ∧ ∀ Z Ψa Ψb, RepL K Z H .own ts vs Ψa → RepL K Z H .own ins us1 Ψb → (∀ b, ¬ (Ψa b ∧ Ψb b)) → ∃ Ψ', RepL K Z H .own (ts' ++ outs) (vs' ++ vouts) Ψ' ∧ ∀ b, Ψ' b → Ψa b ∨ Ψb b)
    (hl3 : outs.length = vouts.length) (he : escL ts' = true) : ∃ a, w = .ref a ∧ EnvOk K c σ (upd H a ob) (kill p (setG Γ p (.nd k' .own ts'))) (outs.map .tr ++ kill p τ) (vouts ++ us) := by
  have gs : (getG Γ p).isSome = true := by rw [g]; rfl
  have E1 := E.ext g
  obtain ⟨Z, ws, Φ, Ψ, EE⟩ := id E1
  obtain ⟨Θ, a, vs, Ξ, rfl, ho, hlr, hn⟩ := EE.view (n := 0) (e := .tr (.nd k .own ts)) rfl rfl rfl
  have ho : ObjAt K k .own H a vs := ho
  obtain ⟨vs', l2, ho', st⟩ := step a vs rfl ho (RepL.len _ hlr)
  refine ⟨a, rfl, ?_⟩
  have ek : kill p (ins.map Ent.tr ++ τ) = ins.map Ent.tr ++ kill p τ := by
    have := kill_trs (p := p) (ts := ins)
    simp only [kill, List.map_append] at this ⊢
    rw [this]
  rw [ek] at E1
  have E2 : EnvOk K c σ H (kill p (setG Γ p .any)) ([.tr (.nd k .own ts)] ++ (ins.map Ent.tr ++ (.al p :: kill p τ))) ([.ref a] ++ (us1 ++ (.ref a :: us))) := by
    have h1 := EnvOk.permA (A := [.tr (.nd k .own ts)]) (B := [.al p] ++ ins.map Ent.tr) (τ := kill p τ) (va := [.ref a]) (vb := [.ref a] ++ us1) (us := us) rfl (by simp [hl]) (by simpa using E1)
    have h2 := EnvOk.permA (A := [.al p]) (B := ins.map Ent.tr) (τ := .tr (.nd k .own ts) :: kill p τ) (va := [.ref a]) (vb := us1) (us := .ref a :: us) rfl (by simp [hl]) (by simpa using h1)
    have h3 := EnvOk.permA (A := ins.map Ent.tr ++ [.al p]) (B := [.tr (.nd k .own ts)]) (τ := kill p τ) (va := us1 ++ [.ref a]) (vb := [.ref a]) (us := us) (by simp [hl]) rfl (by simpa using h2)
    simpa using h3
  have E3 := EnvOk.mut (τ1 := ins.map Ent.tr) (τ := .al p :: kill p τ) (us1 := us1) (us := .ref a :: us) (k' := k') (ts' := ts') (outs := outs) (vs' := vs') (vouts := vouts) (ob := ob) E2 hk hk' (by simp [hl]) ho (fun Z Ψa Ψb r1 r2 => by rw [trees_tr] at r2; exact st Z Ψa Ψb r1 r2) l2 hl3 he ho'
  have E4 : EnvOk K c σ (upd H a ob) (kill p (setG Γ p .any)) (.tr (.nd k' .own ts') :: .al p :: (outs.map .tr ++ kill p τ)) (.ref a :: .ref a :: (vouts ++ us)) := by
    have h1 := EnvOk.permA (A := [.tr (.nd k' .own ts')] ++ outs.map Ent.tr) (B := [.al p]) (τ := kill p τ) (va := [.ref a] ++ vouts) (vb := [.ref a]) (us := us) (by simp [hl3]) rfl (by simpa using E3)
    exact EnvOk.swap2 (by simpa using h1)
  have gk : getG (kill p (setG Γ p .any)) p = some .any := by rw [getG_kill]; exact getG_setG_same gs
  have E5 := (E4.back gk (by
    cases k' <;> first | exact absurd rfl hk' | rfl)).drop
  rw [setG_kill, setG_setG] at E5
  exact E5
/-! statements -/
inductive Os | nx (m : Ms) | rt (t : Tr) (m : Ms) | bk (m : Ms) | ct (m : Ms) | ex (C : Nat) (g : List Ent)
abbrev GS := Ms → Option Os
def PostS (K : KC) (c : Cz) (W : WX) (us : List V) (D : Ends) : Os → Prop
  | .nx m => ∀ σ' H', EnvOk K c σ' H' m.g m.s us → D.nx σ' H'
  | .rt t m => ∀ σ' v H', EnvOk K c σ' H' m.g (.tr t :: m.s) (v :: us) → D.rt v H'
  | .bk m => ∀ σ' H', EnvOk K c σ' H' m.g m.s us → D.bk σ' H'
  | .ct m => ∀ σ' H', EnvOk K c σ' H' m.g m.s us → D.ct σ' H'
  | .ex C g => ∀ σ' H', EnvOk K c σ' H' g [] [] → W (.ref (K.et C)) none σ' H'
def SS (K : KC) (md : List Bool) (W : WX) (t : L2.TS) (g : GS) : Prop := ∀ (c : Cz) (σ : St) (H : Hp) (m : Ms) (us : List V) (D : Ends) (o : Os), c.md = md → EnvOk K c σ H m.g m.s us → g m = some o → PostS K c W us D o → t D σ H
def MS (X : Cx) (T : KT) (md : List Bool) (W : WX) (st : Stmt) (g : GS) : Prop := ∃ t, PS X st t ∧ SS (kcm X.K T) md W t g
def MSs (X : Cx) (T : KT) (md : List Bool) (W : WX) (sts : List Stmt) (g : GS) : Prop := ∃ t, PSs X sts t ∧ SS (kcm X.K T) md W t g
variable {st : Stmt} {rest sts sts' : List Stmt} {g g' : GS} {ge gf gt : GE} {e b o : Expr} {pos pos' : Pos}
def sNil : GS := fun m => some (.nx m)
def sSeq (g h : GS) : GS := fun m => match g m with
  | some (.nx m') => h m'
  | r => r
theorem mss_nil : MSs X T md W [] sNil := ⟨_, pss_nil, fun c σ H m us D o hc E hg hp => by
  cases hg
  exact hp σ H E⟩
theorem mss_cons (h1 : MS X T md W st g) (h2 : MSs X T md W rest g') : MSs X T md W (st :: rest) (sSeq g g') := by
  obtain ⟨t, p, s⟩ := h1
  obtain ⟨t', p', s'⟩ := h2
  refine ⟨_, pss_cons p p', fun c σ H m us D o hc E hg hp => ?_⟩
  simp only [sSeq] at hg
  split at hg
  · rename_i m1 h1
    exact s c σ H m us _ _ hc E h1 fun σ' H' E' => s' c σ' H' m1 us D o hc E' hg hp
  · rename_i h1
    refine s c σ H m us _ _ hc E hg ?_
    cases o with
    | nx m' => exact absurd hg (h1 m')
    | rt t m' => exact hp
    | bk m' => exact hp
    | ct m' => exact hp
    | ex C g => exact hp
theorem mss_one (h1 : MS X T md W st g) : MSs X T md W [st] g := by
  obtain ⟨t, p, s⟩ := h1
  exact ⟨_, pss_one p, s⟩
def sExpr (ge : GE) : GS := fun m => match ge m with
  | some (.ok ⟨g, _ :: s⟩) => some (.nx ⟨g, s⟩)
  | some (.ex C g) => some (.ex C g)
  | _ => none
theorem ms_expr (h : ME X T md W e ge) (hs : swapsWith e none pos.line X.env = pure false := by rfl) : MS X T md W (.Expr e pos) (sExpr ge) := by
  obtain ⟨t, p, s⟩ := h
  refine ⟨_, ps_expr p hs, fun c σ H m us D o hc E hg hp => ?_⟩
  simp only [sExpr] at hg
  split at hg
  · rename_i h1
    cases hg
    exact s c σ H m us _ _ hc E h1 fun x H1 E1 => hp σ H1 E1.drop
  · rename_i h1
    cases hg
    exact s c σ H m us _ _ hc E h1 fun H1 E1 => hp σ H1 E1
  · cases hg
def sRet (ge : GE) : GS := fun m => match ge m with
  | some (.ok ⟨g, .tr t :: s⟩) => some (.rt t ⟨g, s⟩)
  | some (.ex C g) => some (.ex C g)
  | _ => none
theorem ms_ret (h : ME X T md W e ge) : MS X T md W (.Return (some e) pos) (sRet ge) := by
  obtain ⟨t, p, s⟩ := h
  refine ⟨_, ps_ret p, fun c σ H m us D o hc E hg hp => ?_⟩
  simp only [sRet] at hg
  split at hg
  · rename_i h1
    cases hg
    exact s c σ H m us _ _ hc E h1 fun x H1 E1 => hp σ x H1 E1
  · rename_i h1
    cases hg
    exact s c σ H m us _ _ hc E h1 fun H1 E1 => hp σ H1 E1
  · cases hg
def sRetN : GS := fun m => some (.rt (.a .non) m)
def sIf (gt : GE) (g h : GS) : GS := fun m => match gt m with
  | some (.ok ⟨g', .tr (.a (.bl true)) :: s'⟩) => g ⟨g', s'⟩
  | some (.ok ⟨g', .tr (.a (.bl false)) :: s'⟩) => h ⟨g', s'⟩
  | some (.ex C g') => some (.ex C g')
  | _ => none
theorem ms_if (hc : MT X T md W e gt) (ha : MSs X T md W sts g) (hb : MSs X T md W sts' g') : MS X T md W (.If e sts sts' pos) (sIf gt g g') := by
  obtain ⟨tc, pc, sc⟩ := hc
  obtain ⟨t, p, s⟩ := ha
  obtain ⟨t', p', s'⟩ := hb
  refine ⟨_, ps_if pc p p', fun c σ H m us D o hm E hg hp => ?_⟩
  simp only [sIf] at hg
  split at hg
  · rename_i h1
    exact sc c σ H m us _ _ hm E h1 fun H' E' => iteT (s c σ H' _ us D o hm E' hg hp)
  · rename_i h1
    exact sc c σ H m us _ _ hm E h1 fun H' E' => iteF (s' c σ H' _ us D o hm E' hg hp)
  · rename_i h1
    cases hg
    exact sc c σ H m us _ _ hm E h1 fun H' E' => hp σ H' E'
  · cases hg
/-- a name gets what is on top -/
def bind (md : List Bool) (i : Nat) (m : Ms) : Option Ms := if md.getD i false = true ∨ ¬ i < m.g.length then none else match m.s with
  | .tr t :: s => some ⟨(m.g.map (killR i)).set i (.tr t), s.map (killR i)⟩
  | .al p :: s => if p.head? = some i then none else some ⟨(m.g.map (killR i)).set i (.al p), s.map (killR i)⟩
  | _ => none
theorem bind_ok {m m' : Ms} {x : V} (hc : c.md = md) (E : EnvOk K c σ H m.g m.s (x :: us)) (h : bind md i m = some m') : EnvOk K c (σ.set i (some x)) H m'.g m'.s us := by
  unfold bind at h
  split at h
  · cases h
  · rename_i hn
    have h1 : i < m.g.length := Classical.byContradiction fun q => hn (.inr q)
    have h2 : c.md[i]? ≠ some true := fun q => hn (.inl (by rw [← hc, List.getD_eq_getElem?_getD, q]; rfl))
    split at h
    · rename_i t s hs
      cases h
      rw [hs] at E
      exact E.setT h1 h2
    · rename_i p s hs
      split at h
      · cases h
      · rename_i hp
        cases h
        rw [hs] at E
        exact E.setA h1 h2 hp
    · cases h
def sSet (md : List Bool) (i : Nat) (ge : GE) : GS := fun m => match ge m with
  | some (.ok m') => match bind md i m' with
    | some m2 => some (.nx m2)
    | none => none
  | some (.ex C g) => some (.ex C g)
  | none => none
theorem ss_set {t : TE} (s : SE K md W t ge) : SS K md W (tAsg t (gName i)) (sSet md i ge) := by
  intro c σ H m us D o hc E hg hp
  simp only [sSet] at hg
  split at hg
  · rename_i m1 h1
    split at hg
    · rename_i m2 h2
      cases hg
      exact s c σ H m us _ _ hc E h1 fun x H1 E1 => hp _ H1 (bind_ok hc E1 h2)
    · cases hg
  · rename_i h1
    cases hg
    exact s c σ H m us _ _ hc E h1 fun H1 E1 => hp σ H1 E1
  · cases hg
theorem ms_set {x : Str} (hN : X.N.Nodup) (hi : X.N[i]? = some x) (hx : Loc X.env.scope x) (h : ME X T md W e ge) (hs : swapsWith e (some (.Name x pos')) pos.line X.env = pure false := by rfl)
    (hf : X.fn x = true ∨ X.env.scope.names.lookup x = some .local := by first | exact .inl rfl | exact .inr rfl | assumption) : MS X T md W (.Assign [.Name x pos'] e pos) (sSet md i ge) := by
  obtain ⟨t, p, s⟩ := h
  exact ⟨_, ps_set hN hi hx p hs hf, ss_set s⟩
end
section
variable {K : KC} {X : Cx} {T : KT} {md : List Bool} {W : WX} {c : Cz} {σ : St} {H H' : Hp} {Γ τ : List Ent} {us vs ws : List V} {v w wp : V} {p q r : List Nat} {t : Tr} {ts : List Tr} {k : Nk} {i j j' : Nat} {a : Addr} {Z : Zn} {Φ Ψ : Ps} {ob : HO}
theorem RepL.set1 {Z : Zn} {Ψa Ψb : Ps} (h : RepL K Z H .own ts vs Ψa) (hj : j < ts.length) (h2 : RepL K Z H .own [t] [v] Ψb) (d : ∀ b, ¬ (Ψa b ∧ Ψb b)) : ∃ Ψ', RepL K Z H .own (ts.set j t) (vs.set j v) Ψ' ∧ ∀ b, Ψ' b → Ψa b ∨ Ψb b := by
  obtain ⟨v', Φ1, Φ2, e1, r, d1, u, r2, _⟩ := RepL.at_ _ h (i := j) (t := ts[j]) (List.getElem?_eq_getElem hj)
  obtain ⟨_, _, Θ1, Θ2, e2, a1, a2, ad, au⟩ := h2
  cases e2
  have n2 : ∀ b, ¬ Θ2 b := a2.2
  have hw := getq_lt' e1
  have g1 : (ts.set j .any)[j]? = some .any := List.getElem?_set_self hj
  have r3 := RepL.put _ (RepL.anyv (v := v) _ r2 g1) g1 (List.getElem?_set_self hw) a1 (by grind)
  rw [List.set_set] at r3
  exact ⟨_, r3, by grind⟩
/-- p leads into or to what stands at q -/
def pre : List Nat → List Nat → Bool
  | [], _ => true
  | _, [] => false
  | i :: p, j :: q => decide (i = j) && pre p q
def killJ (p : List Nat) : Ent → Ent
  | .al q => if pre p q = true then .no else .al q
  | e => e
theorem Raw.split : ∀ {p : List Nat} {ws : List V} {j : Nat} {r : List Nat} {w : V}, p ≠ [] → Raw H ws (p ++ j :: r) w → ∃ wp us, Raw H ws p wp ∧ Kids H wp us ∧ Raw H us (j :: r) w
  | [], _, _, _, _, h, _ => absurd rfl h
  | [i], ws, j, r, w, _, h => by
    obtain ⟨v, us, e, kd, h⟩ := h
    exact ⟨v, us, e, kd, h⟩
  | i :: i2 :: p, ws, j, r, w, _, h => by
    obtain ⟨v, us, e, kd, h⟩ := h
    obtain ⟨wp, us2, h1, h2, h3⟩ := Raw.split (p := i2 :: p) (by simp) h
    exact ⟨wp, us2, ⟨v, us, e, kd, h1⟩, h2, h3⟩
theorem Raw.join : ∀ {p : List Nat} {ws : List V} {j : Nat} {r : List Nat} {wp w : V} {us : List V}, Raw H ws p wp → Kids H wp us → Raw H us (j :: r) w → Raw H ws (p ++ j :: r) w
  | [], _, _, _, _, _, _, h, _, _ => h.elim
  | [i], ws, j, r, wp, w, us, h, kd, h2 => ⟨wp, us, h, kd, h2⟩
  | i :: i2 :: p, ws, j, r, wp, w, us, h, kd, h2 => by
    obtain ⟨v, us2, e, kd2, h⟩ := h
    exact ⟨v, us2, e, kd2, Raw.join h kd h2⟩
theorem nbel_or : ∀ {p q : List Nat}, nbel p q = true ∨ ∃ j r, q = p ++ j :: r
  | [], [] => .inl rfl
  | [], j :: q => .inr ⟨j, q, rfl⟩
  | i :: p, [] => .inl rfl
  | i :: p, j :: q => by
    by_cases e : i = j
    · subst e
      rcases nbel_or (p := p) (q := q) with h | ⟨j, r, h⟩
      · exact .inl (by simpa [nbel] using h)
      · exact .inr ⟨j, r, by rw [h]; rfl⟩
    · exact .inl (by simp [nbel, e])
theorem pre_app : ∀ {p : List Nat} {j j' : Nat} {r : List Nat}, pre (p ++ [j]) (p ++ j' :: r) = decide (j = j')
  | [], j, j', r => by simp [pre]
  | i :: p, j, j', r => by simp [pre, pre_app (p := p)]
theorem getT_app : ∀ {p : List Nat} {t : Tr} {j : Nat} {r : List Nat}, getT t p = some (.nd k .own ts) → k ≠ .tup → getT t (p ++ j :: r) = match ts[j]? with
    | some y => getT y r
    | none => none
  | [], t, j, r, h, hk => by
    cases h
    show getT (.nd k .own ts) (j :: r) = _
    cases k <;> simp_all [getT] <;> rfl
  | i :: p, t, j, r, h, hk => by
    cases t with
    | any => simp [getT] at h
    | a v => simp [getT] at h
    | nd k' o us =>
      cases k' <;> cases o <;> simp_all [getT]
      all_goals
        cases e : us[i]? with
        | none => simp [e] at h
        | some y =>
          simp only [e] at h ⊢
          exact getT_app h hk
theorem getG_app (h : getG Γ p = some (.nd k .own ts)) (hk : k ≠ .tup) : getG Γ (p ++ j :: r) = match ts[j]? with
    | some y => getT y r
    | none => none := by
  cases p with
  | nil => simp [getG] at h
  | cons i p =>
    simp only [getG, List.cons_append] at h ⊢
    cases e : Γ[i]? with
    | none => simp [e] at h
    | some x =>
      cases x with
      | no => simp [e] at h
      | al _ => simp [e] at h
      | tr t =>
        simp only [e] at h ⊢
        exact getT_app h hk
theorem getG_ne_nil (h : (getG Γ p).isSome = true) : p ≠ [] := fun e => by subst e; simp [getG] at h
/-- an item of a list, dict or instance that stands at a place is replaced; aliases of the other items stay -/
theorem EnvOk.setIn (E : EnvOk K c σ H Γ (.al p :: .tr t :: τ) (w :: v :: us)) (g : getG Γ p = some (.nd k .own ts)) (hk : k ≠ .tup) (hj : j < ts.length) (he : esc t = true) (hob : ∀ a vs, ObjAt K k .own H a vs → w = .ref a → ObjAt K k .own (upd H a ob) a (vs.set j v)) :
    ∃ a, w = .ref a ∧ EnvOk K c σ (upd H a ob) ((setG Γ p (.nd k .own (ts.set j t))).map (killJ (p ++ [j]))) (τ.map (killJ (p ++ [j]))) us := by
  obtain ⟨Z, ws, Φ, Ψ, sl, tm, dj, so, to, ln, zo, zf, z0, zs, st, pv⟩ := E
  have gs : (getG Γ p).isSome = true := by rw [g]; rfl
  have g2 : getP (trees Γ) p = some (.nd k .own ts) := by rw [getG_getP gs, g]
  obtain ⟨w', Φ1, Φ2, raw, rp, d, u, r2, stab⟩ := RepL.path sl g2
  obtain ⟨w0, e0, raw0, _⟩ := to 0 p rfl
  cases e0
  cases raw.fn raw0
  obtain ⟨a, vs, Ξ, rfl, ho, hl, hn⟩ := id rp
  have ho : ObjAt K k .own H a vs := ho
  have hl : RepL K Z H .own ts vs Ξ := hl
  have hn : Nod Z k .own a ts Ξ Φ1 := hn
  have hn' := hn.own hk
  obtain ⟨_, _, Θ1, Θ2, e1, a1, a2, ad, au⟩ := tm
  cases e1
  obtain ⟨_, _, Θ3, Θ4, e2, a3, a4, ad2, au2⟩ := a2
  cases e2
  have a1 : ∀ b, ¬ Θ1 b := a1
  have ho' := hob a vs ho rfl
  have hsome : (H a).isSome = true := Rep.isS _ rp a (by grind)
  have nta : ∀ ob, H a = some ob → nt' ob = true := fun ob e => Rep.nt _ rp a ob (by grind) e
  have tp : TSK K H (upd H a ob) := tsk fun b o' e n => by
    rw [upd_ne (fun q => by subst q; have := nta o' e; rw [n] at this; cases this)]; exact e
  have kpo : ∀ {Θ : Ps}, (∀ b, Θ b → b ≠ a) → (∀ b, Z.fz b ∨ Z.ln b → b ≠ a) → Kp K Z Z H (upd H a ob) Θ := fun {Θ} h1 h2 => ⟨fun _ h => h, fun _ h => h, fun b o' q e => by rw [upd_ne (by rcases q with q | q; exact h1 b q; exact h2 b q)]; exact e, tp⟩
  have za : ∀ b, Z.fz b ∨ Z.ln b → b ≠ a := fun b q e => by
    subst e
    have := (zo b (.inl ((u b).mpr (.inl (by grind))))).2
    rcases q with q | q
    · exact this.1 q
    · exact this.2 q
  have one : RepL K Z H .own [t] [v] Θ3 := ⟨v, [], Θ3, fun _ => False, rfl, a3, ⟨rfl, fun _ h => h⟩, by simp, by simp⟩
  obtain ⟨Ξ', rk, subk⟩ := RepL.set1 hl hj one (by grind)
  have rk' := RepL.fr _ rk (kpo (Θ := Ξ') (by grind) za)
  have node : Rep K Z (upd H a ob) .own (.nd k .own (ts.set j t)) (.ref a) (fun b => b = a ∨ Ξ' b) := ⟨a, vs.set j v, Ξ', rfl, ho', rk', .mk hk (fun _ => Iff.rfl) (by grind) (escL_set hn'.2.2 he)⟩
  have r3 := RepL.fr _ r2 (kpo (Θ := Φ2) (by grind) za)
  have keepR : ∀ b ob', ¬ Φ1 b → H b = some ob' → upd H a ob b = some ob' := fun b ob' nb e => by rw [upd_ne (by grind)]; exact e
  have npp : ∀ {p : List Nat}, nbel p p = true := by
    intro p
    induction p with
    | nil => rfl
    | cons i p ih => simp [nbel, ih]
  have rawp : Raw (upd H a ob) ws p (.ref a) := stab p (.ref a) _ npp (by rw [g2]; rfl) raw keepR
  have gset : getP (setP (trees Γ) p .any) p = some .any := getP_setP_same (by rw [g2]; rfl)
  have r4 := RepL.putP r3 gset rawp node (by grind) (by cases k <;> first | exact absurd rfl hk | rfl)
  rw [setP_setP] at r4
  have lenv := RepL.len _ hl
  -- aliases
  have rawq : ∀ {q : List Nat} {x : V}, (getG Γ q).isSome = true → pre (p ++ [j]) q = false → Raw H ws q x → Raw (upd H a ob) ws q x ∧ (getG (setG Γ p (.nd k .own (ts.set j t))) q).isSome = true := fun {q x} gq hpre rq => by
    rcases nbel_or (p := p) (q := q) with nb | ⟨j', r, rfl⟩
    · exact ⟨stab q x _ nb (getG_isP gq) rq keepR, getG_setG gq gs nb⟩
    · rw [pre_app] at hpre
      have hjj : j ≠ j' := by simpa using hpre
      obtain ⟨wq, us2, h1, h2, h3⟩ := Raw.split (getG_ne_nil gs) rq
      cases raw.fn h1
      cases (objKids ho hk).fn h2
      have gk : getG Γ (p ++ j' :: r) = match ts[j']? with
          | some y => getT y r
          | none => none := getG_app g hk
      have gk2 : (getP ts (j' :: r)).isSome = true := by
        cases e : ts[j']? with
        | none => rw [gk, e] at gq; cases gq
        | some y => rw [getP_getT e]; rw [gk, e] at gq; exact gq
      have h3' : Raw (upd H a ob) vs (j' :: r) x := Raw.keep hl gk2 h3 fun b ob' hb e => by rw [upd_ne (by grind)]; exact e
      refine ⟨Raw.join rawp (objKids ho' hk) ?_, ?_⟩
      · match r, h3' with
        | [], h3' =>
          show (vs.set j v)[j']? = some x
          rw [List.getElem?_set_ne hjj]
          exact h3'
        | j2 :: r, h3' =>
          obtain ⟨v2, us3, e3, k3, h4⟩ := h3'
          exact ⟨v2, us3, by rw [List.getElem?_set_ne hjj]; exact e3, k3, h4⟩
      · have : getG (setG Γ p (.nd k .own (ts.set j t))) p = some (.nd k .own (ts.set j t)) := getG_setG_same gs
        rw [getG_app this hk, List.getElem?_set_ne hjj]
        rw [gk] at gq
        exact gq
  have trk : ∀ (L : List Ent), trees (L.map (killJ (p ++ [j]))) = trees L := fun L => by
    simp only [trees, List.map_map]
    congr 1
    funext e
    cases e with
    | al q => by_cases h : pre (p ++ [j]) q = true <;> simp [killJ, h, Ent.tree]
    | _ => rfl
  have gkj : ∀ {Γ : List Ent} {q : List Nat}, getG (Γ.map (killJ (p ++ [j]))) q = getG Γ q := fun {Γ q} => by
    cases q with
    | nil => rfl
    | cons i q =>
      simp only [getG, List.getElem?_map]
      cases Γ[i]? with
      | none => rfl
      | some x =>
        cases x with
        | al r => by_cases h : pre (p ++ [j]) r = true <;> simp [killJ, h]
        | _ => rfl
  refine ⟨a, rfl, Z, ws, fun b => (b = a ∨ Ξ' b) ∨ Φ2 b, Θ4, ⟨by rw [trk, trees_setG gs]; exact r4, by rw [trk]; exact RepL.fr _ a4 (kpo (Θ := Θ4) (by grind) za), by grind, ?_, ?_, by rw [ln]; simp [setG_len], by grind, zf, z0, fun b q => ?_, fun b o0 e0 => ?_, pv⟩⟩
  · intro i e he
    rw [List.getElem?_map] at he
    cases hx : (setG Γ p (.nd k .own (ts.set j t)))[i]? with
    | none => simp [hx] at he
    | some x =>
      simp only [hx, Option.map_some, Option.some.injEq] at he
      subst he
      rcases setG_at hx with ⟨y, z, hy, rfl⟩ | hx'
      · exact so i _ hy
      · have h1 := so i x hx'
        cases x with
        | no => trivial
        | tr y => exact h1
        | al q =>
          obtain ⟨x1, x2, x3, x4⟩ := h1
          by_cases hq : pre (p ++ [j]) q = true
          · simp only [killJ, hq, if_true]
            trivial
          · simp only [killJ, hq, if_false]
            have := rawq x4 (by simpa using hq) x3
            exact ⟨x1, x2, this.1, by rw [gkj]; exact this.2⟩
  · intro i q hi
    rw [List.getElem?_map] at hi
    cases hx : τ[i]? with
    | none => simp [hx] at hi
    | some x =>
      simp only [hx, Option.map_some, Option.some.injEq] at hi
      cases x with
      | no => simp [killJ] at hi
      | tr _ => simp [killJ] at hi
      | al q' =>
        by_cases hq : pre (p ++ [j]) q' = true
        · simp [killJ, hq] at hi
        · simp only [killJ, hq, if_false] at hi
          cases hi
          obtain ⟨w1, s1, s2, s3⟩ := to (i + 2) q (by simpa using hx)
          have := rawq s3 (by simpa using hq) s2
          exact ⟨w1, by simpa using s1, this.1, by rw [gkj]; exact this.2⟩
  · rw [upd_ne (za b q)]
    exact zs b q
  · obtain ⟨o', e', hno⟩ := st b o0 e0
    by_cases hb : b = a
    · subst hb
      refine ⟨ob, upd_same, fun nf => ?_⟩
      rcases (zo b (.inl ((u b).mpr (.inl (by grind))))).1 with z | z
      · exact absurd z nf
      · rw [z] at e0; cases e0
    · exact ⟨o', by rw [upd_ne hb]; exact e', hno⟩
end
section
variable {K : KC} {X : Cx} {T : KT} {md : List Bool} {W : WX} {c : Cz} {σ : St} {H H' : Hp} {Γ τ τ1 : List Ent} {us us1 vs vs' : List V} {v w : V} {p q : List Nat} {t : Tr} {ts ts' : List Tr} {k k' : Nk} {i j : Nat} {a : Addr}
variable {st : Stmt} {rest sts sts' : List Stmt} {g g' : GS} {ge gf gt gi go gv : GE} {e b o ie : Expr} {pos pos' : Pos}
/-- o[i] = v, of a list -/
def stSub : Ms → Option Ms := fun m => match m.s with
  | .tr (.a (.int x)) :: .al p :: .tr t :: s => match getG m.g p with
    | some (.nd .lst .own ts) => match ixN ts.length x with
      | some j => if esc t = true then some ⟨(setG m.g p (.nd .lst .own (ts.set j t))).map (killJ (p ++ [j])), s.map (killJ (p ++ [j]))⟩ else none
      | none => none
    | _ => none
  | _ => none
theorem ixN_lt {n : Nat} {x : Int} {j : Nat} (h : ixN n x = some j) : j < n := by
  unfold ixN at h
  split at h
  · split at h
    · cases h; omega
    · cases h
  · split at h
    · cases h; omega
    · cases h
theorem nodE (hk : k ≠ .tup) : ∀ {ts : List Tr}, (∀ {Z : Zn} {H : Hp} {v : V} {Φ : Ps}, Rep K Z H .own (.nd k .own ts) v Φ → escL ts = true) := fun {ts Z H v Φ} r => by
  obtain ⟨a, vs, Ψ, _, _, _, hn⟩ := r
  have hn : Nod Z k .own a ts Ψ Φ := hn
  exact (hn.own hk).2.2
theorem EnvOk.escAt (E : EnvOk K c σ H Γ (.al p :: τ) (w :: us)) (g : getG Γ p = some (.nd k .own ts)) (hk : k ≠ .tup) : escL ts = true := by
  obtain ⟨Z, ws, Φ, Ψ, EE⟩ := E
  obtain ⟨Θ, r⟩ := EE.view (n := 0) (e := .al p) rfl rfl g
  exact nodE hk r
theorem stSub_ok {m m' : Ms} {x y z : V} {Q : Hp → Prop} (E : EnvOk K c σ H m.g m.s (z :: y :: x :: us)) (h : stSub m = some m') (hq : ∀ H', EnvOk K c σ H' m'.g m'.s us → Q H') : rSetL y z x H Q := by
  unfold stSub at h
  split at h
  · rename_i xi p t s hs
    split at h
    · rename_i ts hg
      split at h
      · rename_i j hj
        split at h
        · rename_i he
          cases h
          rw [hs] at E
          have ez := top_a E
          subst ez
          have E1 := E.drop
          have hes := E1.escAt hg (by simp)
          have hjl := ixN_lt hj
          obtain ⟨Z, ws, Φ, Ψ, EE⟩ := id E1
          obtain ⟨Θ, a, vs, Ξ, rfl, ho, hlr, hn⟩ := EE.view (n := 0) (e := .al p) rfl rfl hg
          have ho : H a = some (.lst vs) := ho
          have hlen := RepL.len _ hlr
          refine ⟨a, vs, xi, j, rfl, rfl, ho, by rw [← hlen]; exact hj, hq _ ?_⟩
          obtain ⟨a', e, E2⟩ := EnvOk.setIn (j := j) (ob := .lst (vs.set j x)) E1 hg (by simp) hjl he (fun a2 vs2 ho2 e2 => by
            cases e2
            have ho2 : H a = some (.lst vs2) := ho2
            rw [ho] at ho2
            cases ho2
            exact upd_same)
          cases e
          exact E2
        · cases h
      · cases h
    · cases h
  · cases h
/-- o.f = v -/
def stFld (tab : List (Nat × Nat)) : Ms → Option Ms := fun m => match m.s with
  | .al p :: .tr t :: s => match getG m.g p with
    | some (.nd (.ins n k) .own ts) => match tab.lookup n with
      | some j => if esc t = true ∧ k < 900 then
          if j < k then some ⟨(setG m.g p (.nd (.ins n k) .own (ts.set j t))).map (killJ (p ++ [j])), s.map (killJ (p ++ [j]))⟩
          else if j = k then some ⟨kill p (setG m.g p (.nd (.ins n (k + 1)) .own (ts ++ [t]))), kill p s⟩ else none
        else none
      | none => none
    | _ => none
  | _ => none
theorem putF_set {f : Str} : ∀ {ns : List Str} {vs : List V} {j : Nat}, ns.idxOf? f = some j → ns.length = vs.length → putF f v (ns.zip vs) = ns.zip (vs.set j v)
  | [], _, _, h, _ => by simp at h
  | n :: ns, [], _, _, l => by simp at l
  | n :: ns, x :: vs, j, h, l => by
    rw [List.idxOf?_cons] at h
    rw [List.zip_cons_cons]
    unfold putF
    by_cases e : n = f
    · subst e
      simp at h
      subst h
      simp
    · have e1 : (n == f) = false := by simpa using e
      rw [e1] at h
      simp only [Bool.false_eq_true, if_false, Option.map_eq_some_iff] at h
      obtain ⟨j', h1, rfl⟩ := h
      rw [if_neg e, putF_set h1 (by simpa using l)]
      simp
theorem putF_app {f : Str} : ∀ {ns : List Str} {vs : List V} {k : Nat}, ns.idxOf? f = some k → (ns.take k).length = vs.length → putF f v ((ns.take k).zip vs) = (ns.take (k + 1)).zip (vs ++ [v])
  | [], _, _, h, _ => by simp at h
  | n :: ns, [], k, h, l => by
    have : k = 0 := by
      cases k with
      | zero => rfl
      | succ k => simp at l
    subst this
    rw [List.idxOf?_cons] at h
    by_cases e : (n == f) = true
    · have : n = f := by simpa using e
      subst this
      simp [putF]
    · simp [e] at h
  | n :: ns, x :: vs, k, h, l => by
    cases k with
    | zero => simp at l
    | succ k =>
      rw [List.idxOf?_cons] at h
      by_cases e : (n == f) = true
      · simp [e] at h
      · rw [if_neg e] at h
        simp only [Option.map_eq_some_iff] at h
        obtain ⟨j', h1, h2⟩ := h
        have : j' = k := by omega
        subst this
        have ne : n ≠ f := by simpa using e
        rw [List.take_succ_cons, List.zip_cons_cons]
        unfold putF
        rw [if_neg ne, putF_app h1 (by simpa using l)]
        simp
theorem stFld_ok {m m' : Ms} {x y : V} {fl : Str} {tab : List (Nat × Nat)} {Q : Hp → Prop} (ht : FldOk K.K ⟨K.P, K.w, K.ct, K.nm, K.et⟩ fl tab) (E : EnvOk K c σ H m.g m.s (y :: x :: us)) (h : stFld tab m = some m') (hq : ∀ H', EnvOk K c σ H' m'.g m'.s us → Q H') :
    ∃ a C dx fs, y = .ref a ∧ H a = some (.ins C dx fs) ∧ Cls K.K C ∧ NoAttr K.K C fl ∧ fs.length < 1000 ∧ Q (upd H a (.ins C dx (putF fl x fs))) ∧ ∀ n k o ts e s', m.s = e :: s' → viewE m.g e = some (.nd (.ins n k) o ts) → C = K.ct n := by
  unfold stFld at h
  split at h
  · rename_i p t s hs
    split at h
    · rename_i n k ts hg
      split at h
      · rename_i j hj
        split at h
        · rename_i he
          rw [hs] at E
          have hes := E.escAt hg (by simp)
          obtain ⟨Z, ws, Φ, Ψ, EE⟩ := id E
          obtain ⟨Θ, a, vs, Ξ, rfl, ho, hlr, hn⟩ := EE.view (n := 0) (e := .al p) rfl rfl hg
          obtain ⟨l, dx, ho⟩ := ho
          have hlen := RepL.len _ hlr
          obtain ⟨c1, c2, c3⟩ := ht n j (mem_lookup hj)
          have c3 : (K.nm n).idxOf? fl = some j := c3
          have c1 : Cls K.K (K.ct n) := c1
          have c2 : NoAttr K.K (K.ct n) fl := c2
          have lt : (((K.nm n).take k).zip vs).length < 1000 := by
            rw [List.length_zip, List.length_take]
            have := he.2
            omega
          refine ⟨a, _, dx, _, rfl, ho, c1, c2, lt, ?_, fun n' k' o' ts' e' s' q1 q2 => by
            rw [hs] at q1
            cases q1
            rw [show viewE m.g (.al p) = getG m.g p from rfl, hg] at q2
            cases q2
            rfl⟩
          split at h
          · rename_i hjk
            cases h
            refine hq _ ?_
            have hjt : j < ts.length := by
              rw [hlen, ← l, List.length_take]
              have : j < (K.nm n).length := by
                have h3 := c3
                rw [List.idxOf?_eq_some_iff] at h3
                exact h3.1
              omega
            rw [putF_set (idx_take c3 hjk) l]
            obtain ⟨a', e, E2⟩ := EnvOk.setIn (j := j) (ob := .ins (K.ct n) dx (((K.nm n).take k).zip (vs.set j x))) E hg (by simp) hjt he.1 (fun a2 vs2 ho2 e2 => by
              cases e2
              obtain ⟨l3, dx2, ho2⟩ := ho2
              have ev : vs = vs2 := Kids.fn (H := H) (v := .ref a) ⟨a, rfl, .inr (.inl ⟨_, dx, _, ho, l⟩)⟩ ⟨a, rfl, .inr (.inl ⟨_, dx2, _, ho2, l3⟩)⟩
              subst ev
              exact ⟨by simpa using l, dx, upd_same⟩)
            cases e
            exact E2
          · split at h
            · rename_i hjk hjk2
              cases h
              subst hjk2
              refine hq _ ?_
              rw [putF_app c3 l]
              have hjn : j < (K.nm n).length := by
                have h3 := c3
                rw [List.idxOf?_eq_some_iff] at h3
                exact h3.1
              obtain ⟨a', e, E2⟩ := EnvOk.modP (ins := [t]) (us1 := [x]) (outs := []) (vouts := []) (k' := .ins n (j + 1)) (ts' := ts ++ [t]) (ob := .ins (K.ct n) dx (((K.nm n).take (j + 1)).zip (vs ++ [x]))) (τ := s) (us := us) E rfl hg (by simp) (by simp) (fun a2 vs2 e2 ho2 l2 => by
                cases e2
                obtain ⟨l3, dx2, ho2⟩ := ho2
                have ev : vs = vs2 := Kids.fn (H := H) (v := .ref a) ⟨a, rfl, .inr (.inl ⟨_, dx, _, ho, l⟩)⟩ ⟨a, rfl, .inr (.inl ⟨_, dx2, _, ho2, l3⟩)⟩
                subst ev
                refine ⟨vs ++ [x], by simpa using l2, ⟨by rw [List.length_take] at l ⊢; simp; omega, dx, upd_same⟩, fun Z Ψa Ψb r1 r2 d => ⟨_, by simpa using RepL.append _ r1 r2 d, fun b q => q⟩⟩) rfl (by
                  rw [escL_all] at hes ⊢
                  intro y hy
                  rcases List.mem_append.mp hy with z | z
                  · exact hes y z
                  · rw [List.mem_singleton.mp z]; exact he.1)
              cases e
              simpa using E2
            · cases h
        · cases h
      · cases h
    · cases h
  · cases h
def sFldS (tab : List (Nat × Nat)) (gv go : GE) : GS := fun m => match gSeq gv go m with
  | some (.ok m') => match stFld tab m' with
    | some m2 => some (.nx m2)
    | none => none
  | some (.ex C g) => some (.ex C g)
  | none => none
theorem ms_fld {fl : Str} {tab : List (Nat × Nat)} {spos tpos : Pos} (hv : ME X T md W e gv) (ho : ME X T md W o go) (ht : FldOk X.K T fl tab) (hs : swapsWith e (some (.Attribute o fl spos)) tpos.line X.env = pure false := by rfl) : MS X T md W (.Assign [.Attribute o fl spos] e tpos) (sFldS tab gv go) := by
  obtain ⟨tv, pv, sv⟩ := hv
  obtain ⟨to, po, so⟩ := ho
  refine ⟨_, ps_fld po pv hs, fun c σ H m us D oo hc E hg hp => ?_⟩
  simp only [sFldS, gSeq] at hg
  cases e1 : gv m with
  | none => simp [e1] at hg
  | some r1 =>
    cases r1 with
    | ex C g' =>
      simp only [e1] at hg
      cases hg
      exact sv c σ H m us _ _ hc E e1 fun H1 E1 => hp σ H1 E1
    | ok m1 =>
      simp only [e1] at hg
      refine sv c σ H m us _ _ hc E e1 fun x H1 E1 => ?_
      cases e2 : go m1 with
      | none => simp [e2] at hg
      | some r2 =>
        cases r2 with
        | ex C g' =>
          simp only [e2] at hg
          cases hg
          exact so c σ H1 m1 _ _ _ hc E1 e2 fun H2 E2 => hp σ H2 E2
        | ok m2 =>
          simp only [e2] at hg
          refine so c σ H1 m1 _ _ _ hc E1 e2 fun y H2 E2 => ?_
          split at hg
          · rename_i m4 h4
            cases hg
            obtain ⟨a, C, dx, fs, z1, z2, z3, z4, z5, z6, _⟩ := stFld_ok ht E2 h4 fun H4 E4 => hp σ H4 E4
            exact ⟨a, C, dx, fs, z1, z2, z3, z4, z5, z6⟩
          · cases hg
end
section
variable {K : KC} {X : Cx} {T : KT} {md : List Bool} {W : WX} {c : Cz} {σ : St} {H H' : Hp} {Γ τ τ1 : List Ent} {us us1 vs vs' : List V} {v w : V} {p q : List Nat} {t : Tr} {ts ts' : List Tr} {k k' : Nk} {i j n : Nat} {a : Addr} {en en' : Ent} {o : Ow}
variable {st : Stmt} {rest sts sts' body : List Stmt} {g g' gb : GS} {ge gf gt gi go gv ga gs f : GE} {e b oe ie tg iter : Expr} {es : List Expr} {pos pos' : Pos}
/-! methods of lists -/
def chkL : GE := fun m => match m.s with
  | e :: _ => match viewE m.g e with
    | some (.nd .lst _ _) => some (.ok m)
    | _ => none
  | _ => none
def RM (K : KC) (md : List Bool) (W : WX) (n : Nat) (r : V → List V → Hp → VK → Prop) (f : GE) : Prop := ∀ (c : Cz) (σ : St) (H : Hp) (m : Ms) (us vs : List V) (x : V) (Q : VK) (rr : Rs), c.md = md → vs.length = n → EnvOk K c σ H m.g m.s (vs.reverse ++ x :: us) → f m = some rr → PostE K c W σ us Q rr → r x vs H Q
theorem chkL_ok {m : Ms} {x : V} {rr : Rs} (E : EnvOk K c σ H m.g m.s (x :: us)) (h : chkL m = some rr) : rr = .ok m ∧ tyV K.K "list" x H := by
  unfold chkL at h
  split at h
  · rename_i e s hs
    split at h
    · rename_i o ts hv
      cases h
      rw [hs] at E
      obtain ⟨Z, ws, Φ, Ψ, EE⟩ := E
      obtain ⟨Θ, a, vs, Ξ, rfl, ho, _⟩ := EE.view (n := 0) rfl rfl hv
      exact ⟨rfl, .inl ⟨rfl, vs, objL ho⟩⟩
    · cases h
  · cases h
theorem me_bm {r : V → List V → Hp → VK → Prop} {nmm : Str} {apos : Pos} (ho : ME X T md W oe go) (ha : MA X T md W es ga) (hf : RM (kcm X.K T) md W es.length r f) (h : ∀ {to : TE} {t : TA}, PE X oe to → PA X es t → PE X (.Call (.Attribute oe nmm apos) es [] pos) (tBM X.K "list" r to t)) : ME X T md W (.Call (.Attribute oe nmm apos) es [] pos) (gSeq go (gSeq chkL (gSeq ga f))) := by
  obtain ⟨to, po, so⟩ := ho
  obtain ⟨t, pa, sa⟩ := ha
  refine ⟨_, h po pa, fun c σ H m us Q rr hc E hg hp => ?_⟩
  simp only [gSeq] at hg
  split at hg
  · rename_i m1 h1
    refine so c σ H m us _ _ hc E h1 fun x H1 E1 => ?_
    split at hg
    · rename_i m2 h2
      obtain ⟨e2, ty⟩ := chkL_ok E1 h2
      cases e2
      refine ⟨ty, ?_⟩
      split at hg
      · rename_i m3 h3
        exact sa c σ H1 m1 _ _ _ hc E1 h3 fun vs H2 hl E2 => hf c σ H2 m3 us vs x Q rr hc hl E2 hg hp
      · rename_i h3
        refine sa c σ H1 m1 _ _ _ hc E1 hg ?_
        cases rr with
        | ex C g' => exact hp
        | ok m2 => exact absurd hg (h3 m2)
    · rename_i h2
      obtain ⟨e2, ty⟩ := chkL_ok E1 hg
      exact absurd (e2 ▸ hg) (h2 m1)
  · rename_i h1
    refine so c σ H m us _ _ hc E hg ?_
    cases rr with
    | ex C g' => exact hp
    | ok m2 => exact absurd hg (h1 m2)
def fApp : GE := fun m => match m.s with
  | .tr t :: .al p :: s => match getG m.g p with
    | some (.nd .lst .own ts) => if esc t = true ∧ ts.length < sizeLine then some (.ok ⟨kill p (setG m.g p (.nd .lst .own (ts ++ [t]))), .tr (.a .non) :: kill p s⟩) else none
    | _ => none
  | _ => none
theorem escL_app (h : escL ts = true) (he : esc t = true) : escL (ts ++ [t]) = true := by
  rw [escL_all] at h ⊢
  intro y hy
  rcases List.mem_append.mp hy with z | z
  · exact h y z
  · rw [List.mem_singleton.mp z]; exact he
theorem fApp_ok : RM K md W 1 rAppend fApp := by
  intro c σ H m us vs x Q rr hc hl E hf hp
  match vs, hl with
  | [y], _ =>
    unfold fApp at hf
    split at hf
    · rename_i t p s hs
      split at hf
      · rename_i ts hg
        split at hf
        · rename_i he
          cases hf
          rw [hs] at E
          have E1 : EnvOk K c σ H m.g (.al p :: .tr t :: s) (x :: y :: us) := EnvOk.swap2 E
          have hes := E1.escAt hg (by simp)
          obtain ⟨Z, ws, Φ, Ψ, EE⟩ := id E1
          obtain ⟨Θ, a, vs, Ξ, rfl, ho, hlr, hn⟩ := EE.view (n := 0) (e := .al p) rfl rfl hg
          have ho : H a = some (.lst vs) := ho
          have hlen := RepL.len _ hlr
          refine ⟨a, vs, y, rfl, rfl, ho, by rw [← hlen]; exact he.2, hp _ _ ?_⟩
          obtain ⟨a', e, E2⟩ := EnvOk.modP (ins := [t]) (us1 := [y]) (outs := []) (vouts := []) (k' := .lst) (ts' := ts ++ [t]) (ob := .lst (vs ++ [y])) (τ := s) (us := us) E1 rfl hg (by simp) (by simp) (fun a2 vs2 e2 ho2 l2 => by
            cases e2
            have ho2 : H a = some (.lst vs2) := ho2
            rw [ho] at ho2
            cases ho2
            exact ⟨vs ++ [y], by simpa using l2, upd_same, fun Z Ψa Ψb r1 r2 d => ⟨_, by simpa using RepL.append _ r1 r2 d, fun b q => q⟩⟩) rfl (escL_app hes he.1)
          cases e
          exact EnvOk.atom (by simpa using E2) .non
        · cases hf
      · cases hf
    · cases hf
def fPopA : GE := fun m => match m.s with
  | .tr (.a (.int x)) :: .al p :: s => match getG m.g p with
    | some (.nd .lst .own ts) => if -(2 ^ 63) ≤ x ∧ x < 2 ^ 63 then match seqIndex? x ts.length with
        | some j => match ts[j]? with
          | some t => some (.ok ⟨kill p (setG m.g p (.nd .lst .own (ts.eraseIdx j))), .tr t :: kill p s⟩)
          | none => none
        | none => none
      else none
    | _ => none
  | _ => none
theorem escL_erase (h : escL ts = true) : escL (ts.eraseIdx j) = true := by
  rw [escL_all] at h ⊢
  exact fun y hy => h y (List.mem_of_mem_eraseIdx hy)
theorem popStep {ad : Addr} {E1 : EnvOk K c σ H Γ (.al p :: τ) (.ref ad :: us)} (hg : getG Γ p = some (.nd .lst .own ts)) (ho : H ad = some (.lst vs)) (ht : ts[j]? = some t) (hv : vs[j]? = some v) : EnvOk K c σ (upd H ad (.lst (vs.eraseIdx j))) (kill p (setG Γ p (.nd .lst .own (ts.eraseIdx j)))) (.tr t :: kill p τ) (v :: us) := by
  obtain ⟨a', e, E2⟩ := EnvOk.modP (ins := []) (us1 := []) (outs := [t]) (vouts := [v]) (k' := .lst) (ts' := ts.eraseIdx j) (ob := .lst (vs.eraseIdx j)) (τ := τ) (us := us) E1 rfl hg (by simp) (by simp) (fun a2 vs2 e2 ho2 l2 => by
    cases e2
    have ho2 : H ad = some (.lst vs2) := ho2
    rw [ho] at ho2
    cases ho2
    refine ⟨vs.eraseIdx j, by rw [List.length_eraseIdx, List.length_eraseIdx, l2], upd_same, fun Z Ψa Ψb r1 r2 d => ?_⟩
    obtain ⟨v', Φ1, Φ2, e1, r, d1, u, _, r3⟩ := RepL.at_ _ r1 ht
    rw [hv] at e1
    cases e1
    have one : RepL K Z H .own [t] [v] Φ1 := ⟨v, [], Φ1, fun _ => False, rfl, r, ⟨rfl, fun _ h => h⟩, by simp, by simp⟩
    exact ⟨_, RepL.append _ r3 one (by grind), by grind⟩) rfl (escL_erase (E1.escAt hg (by simp)))
  cases e
  simpa using E2
theorem fPopA_ok : RM K md W 1 rPopAt fPopA := by
  intro c σ H m us vs x Q rr hc hl E hf hp
  match vs, hl with
  | [y], _ =>
    unfold fPopA at hf
    split at hf
    · rename_i xi p s hs
      split at hf
      · rename_i ts hg
        split at hf
        · rename_i hb
          split at hf
          · rename_i j hj
            split at hf
            · rename_i t ht
              cases hf
              rw [hs] at E
              have ey := top_a E
              subst ey
              have E1 := E.drop
              obtain ⟨Z, ws, Φ, Ψ, EE⟩ := id E1
              obtain ⟨Θ, a, vs, Ξ, rfl, ho, hlr, hn⟩ := EE.view (n := 0) (e := .al p) rfl rfl hg
              have ho : H a = some (.lst vs) := ho
              have hlen := RepL.len _ hlr
              have hjv : j < vs.length := by rw [← hlen]; exact getq_lt' ht
              exact ⟨a, vs, xi, j, vs[j], rfl, rfl, ho, hb.1, hb.2, by rw [← hlen]; exact hj, List.getElem?_eq_getElem hjv, hp _ _ (popStep (E1 := E1) hg ho ht (List.getElem?_eq_getElem hjv))⟩
            · cases hf
          · cases hf
        · cases hf
      · cases hf
    · cases hf
def fPop : GE := fun m => match m.s with
  | .al p :: s => match getG m.g p with
    | some (.nd .lst .own ts) => match ts[ts.length - 1]? with
      | some t => some (.ok ⟨kill p (setG m.g p (.nd .lst .own (ts.eraseIdx (ts.length - 1)))), .tr t :: kill p s⟩)
      | none => none
    | _ => none
  | _ => none
/-! x op= e -/
def sAug (md : List Bool) (i : Nat) (ge f : GE) : GS := sSet md i (gSeq (gSeq (gVar i) ge) f)
/-! targets -/
def SG (K : KC) (md : List Bool) (t : TG) (b : Ms → Option Ms) : Prop := ∀ (c : Cz) (σ : St) (H : Hp) (m m' : Ms) (us : List V) (x : V) (Q : St → Hp → Prop), c.md = md → EnvOk K c σ H m.g m.s (x :: us) → b m = some m' → (∀ σ' H', EnvOk K c σ' H' m'.g m'.s us → Q σ' H') → t x σ H Q
def MG (X : Cx) (T : KT) (md : List Bool) (tg : Expr) (b : Ms → Option Ms) : Prop := ∃ t, PG X tg t ∧ SG (kcm X.K T) md t b
theorem sg_name : SG K md (gName i) (bind md i) := fun c σ H m m' us x Q hc E h hq => hq _ _ (bind_ok hc E h)
theorem mg_name {x : Str} (hN : X.N.Nodup) (hi : X.N[i]? = some x) (hx : Loc X.env.scope x) (hf : X.fn x = true ∨ X.env.scope.names.lookup x = some .local := by first | exact .inl rfl | exact .inr rfl | assumption) : MG X T md (.Name x pos) (bind md i) := ⟨_, pg_name hN hi hx hf, sg_name⟩
end
section
variable {K : KC} {X : Cx} {T : KT} {md : List Bool} {W : WX} {c : Cz} {σ : St} {H H' : Hp} {Γ τ τ1 : List Ent} {us us1 vs vs' : List V} {v w : V} {p q : List Nat} {t : Tr} {ts ts' : List Tr} {k k' : Nk} {i j n : Nat} {a : Addr} {en en' : Ent} {o : Ow}
variable {st : Stmt} {rest sts sts' body : List Stmt} {g g' gb : GS} {ge gf gt gi go gv ga gs f : GE} {e b oe ie tg iter : Expr} {es : List Expr} {pos pos' : Pos} {bd : Ms → Option Ms}
/-- the j-th item beside the thing itself -/
def kidX (e : Ent) (k : Nk) (o : Ow) (ts : List Tr) (j : Nat) : Option Ent := match ts[j]? with
  | none => none
  | some t => if cp (kid o t) = true then some (.tr (kid o t)) else match e, k with
    | .al _, .tup => none
    | .al p, _ => if o = .own then some (.al (p ++ [j])) else none
    | _, _ => none
theorem EnvOk.dup (E : EnvOk K c σ H Γ (.al p :: τ) (w :: us)) : EnvOk K c σ H Γ (.al p :: .al p :: τ) (w :: w :: us) := by
  obtain ⟨Z, ws, Φ, Ψ, EE⟩ := id E
  obtain ⟨w0, e0, raw, g⟩ := EE.to 0 p rfl
  cases e0
  refine E.pushA (fun ws2 Z2 Φ2 Ψ2 EE2 => ?_) g
  obtain ⟨w1, e1, raw1, _⟩ := EE2.to 0 p rfl
  cases e1
  exact raw1
theorem EnvOk.dupC (E : EnvOk K c σ H Γ (.tr t :: τ) (w :: us)) (hc : cp t = true) : EnvOk K c σ H Γ (.tr t :: .tr t :: τ) (w :: w :: us) := by
  obtain ⟨Z, ws, Φ, Ψ, EE⟩ := E
  refine EE.swapE (τ1 := [.tr t]) (us1 := [w]) (τ1' := [.tr t, .tr t]) (us1' := [w, w]) rfl (by simp) (fun Ψ1 r zo => ?_) rfl
  have hs := RepL.isS _ r
  obtain ⟨v0, vs0, Θ1, Θ2, e1, a1, a2, ad, au⟩ := id r
  cases e1
  have n0 := Rep.cp0 _ a1 hc
  have n2 : ∀ b, ¬ Θ2 b := a2.2
  exact ⟨Z, Θ1, ⟨w, [w], Θ1, Θ1, rfl, a1, ⟨w, [], Θ1, Θ2, rfl, a1, a2, by grind, by grind⟩, by grind, by grind⟩, .same _ _ _ EE.zs hs _ fun b q => absurd q (n0 b)⟩
theorem EnvOk.kidX (E : EnvOk K c σ H Γ (en :: τ) (w :: us)) (hc : ∀ t, en = .tr t → cp t = true) (hv : viewE Γ en = some (.nd k o ts)) (hk : kidX en k o ts j = some en') :
    ∃ a vs w', w = .ref a ∧ ObjAt K k o H a vs ∧ ts.length = vs.length ∧ vs[j]? = some w' ∧ EnvOk K c σ H Γ (en' :: en :: τ) (w' :: w :: us) := by
  have hE : kidE en k o ts j = some en' := by
    unfold Mine.kidX at hk
    unfold kidE
    split at hk
    · cases hk
    · rename_i t ht
      try simp only [ht]
      split at hk
      · rename_i hcp
        rw [if_pos hcp]
        exact hk
      · rename_i hcp
        rw [if_neg hcp]
        split at hk
        · cases hk
        · rename_i p hne
          split at hk
          · rename_i ho
            cases hk
            cases k <;> simp_all
          · cases hk
        · cases hk
  have E2 : EnvOk K c σ H Γ (en :: en :: τ) (w :: w :: us) := by
    cases en with
    | no => simp [viewE] at hv
    | tr t => exact E.dupC (hc t rfl)
    | al p => exact E.dup
  exact E2.kidOf hv hE
def cpE : Ent → Bool
  | .tr t => cp t
  | _ => true
/-- for over the thing on top, which stays there -/
def loopE (k : Nk) (bd : Ms → Option Ms) (body : GS) : Nat → Nat → Ms → Option Os
  | 0, i, m => match m.s with
    | e :: s => match viewE m.g e with
      | some (.nd k' _ ts) => if k' = k ∧ ts.length = i then some (.nx ⟨m.g, s⟩) else none
      | _ => none
    | _ => none
  | r + 1, i, m => match m.s with
    | e :: s => match viewE m.g e with
      | some (.nd k' o ts) => if k' = k ∧ cpE e = true ∧ ts.length = i + (r + 1) then match kidX e k o ts i with
          | some e' => match bd ⟨m.g, e' :: e :: s⟩ with
            | some m1 => match body m1 with
              | some (.nx m2) => loopE k bd body r (i + 1) m2
              | some (.ct m2) => loopE k bd body r (i + 1) m2
              | some (.bk m2) => some (.nx ⟨m2.g, m2.s.tail⟩)
              | some (.rt t m2) => some (.rt t ⟨m2.g, m2.s.tail⟩)
              | some (.ex C g) => some (.ex C g)
              | none => none
            | none => none
          | none => none
        else none
      | _ => none
    | _ => none
/-- what a for walks: made ready, with its length -/
def ready : Ms → Option (Ms × Nk × Nat) := fun m => match m.s with
  | .tr (.nd k o ts) :: s => if k = .lst ∨ k = .tup then some (⟨m.g, .tr (kid .lnt (.nd k o ts)) :: s⟩, k, ts.length) else none
  | .al p :: s => match getG m.g p with
    | some (.nd .lst .own ts) => some (⟨m.g, .al p :: s⟩, .lst, ts.length)
    | _ => none
  | _ => none
def sFor (gs : GE) (bd : Ms → Option Ms) (body : GS) : GS := fun m => match gs m with
  | some (.ok m1) => match ready m1 with
    | some (m2, k, n) => loopE k bd body n 0 m2
    | none => none
  | some (.ex C g) => some (.ex C g)
  | none => none
theorem tail_len {s : List Ent} (E : EnvOk K c σ H Γ s us) : s.length = us.length := by
  obtain ⟨Z, ws, Φ, Ψ, EE⟩ := E
  have := RepL.len _ EE.tm
  simpa [trees] using this
theorem EnvOk.tail {s : List Ent} {x : V} (E : EnvOk K c σ H Γ s (x :: us)) : EnvOk K c σ H Γ s.tail us := by
  have := tail_len E
  match s, this with
  | e :: s, _ => exact E.drop
theorem EnvOk.tail2 {s : List Ent} {x y : V} (E : EnvOk K c σ H Γ (.tr t :: s) (y :: x :: us)) : EnvOk K c σ H Γ (.tr t :: s.tail) (y :: us) := by
  have := tail_len E
  match s, this with
  | e :: s, _ => exact (EnvOk.swap2 E).drop
/-- the abstract loop: J walks, the items come as the machine has them -/
theorem loop_ok {J : It} {tb : L2.TS} {gT : TG} {D : Ends} {w : V} {oo : Os} (hm : c.md = md) (hT : SG K md gT bd) (hB : SS K md W tb gb)
    (stop : ∀ i H Γ τ σ us e ts o, EnvOk K c σ H Γ (e :: τ) (w :: us) → viewE Γ e = some (.nd k o ts) → ts.length = i → J.stop i H)
    (step : ∀ i H Γ τ σ us e ts o e', EnvOk K c σ H Γ (e :: τ) (w :: us) → cpE e = true → viewE Γ e = some (.nd k o ts) → kidX e k o ts i = some e' → i < ts.length → J.go i H ∧ ∀ x H', J.yld i H x H' → H' = H ∧ EnvOk K c σ H Γ (e' :: e :: τ) (x :: w :: us))
    (hp : PostS K c W us D oo) : ∀ {σ : St} {H : Hp} {m : Ms} {n : Nat}, EnvOk K c σ H m.g m.s (w :: us) → loopE k bd gb n 0 m = some oo →
    ∃ Wv : Nat → Nat → St → Hp → Prop, (∃ mm, Wv 0 mm σ H) ∧ ∀ i mm σ H, Wv i mm σ H →
      (J.stop i H ∧ D.nx σ H) ∨ (J.go i H ∧ ∃ N : St → Hp → Prop, (∀ σ' H', N σ' H' → ∃ m', m' < mm ∧ Wv (i + 1) m' σ' H') ∧ ∀ x H', J.yld i H x H' → gT x σ H' fun σ2 H2 => tb { D with nx := N, ct := N, bk := D.nx } σ2 H2) := by
  intro σ H m n E hg
  refine ⟨fun i r σ H => ∃ m : Ms, EnvOk K c σ H m.g m.s (w :: us) ∧ loopE k bd gb r i m = some oo, ⟨n, m, E, hg⟩, ?_⟩
  rintro i r σ H ⟨m, E, hg⟩
  cases r with
  | zero =>
    simp only [loopE] at hg
    split at hg
    · rename_i e s hs
      split at hg
      · rename_i k' o ts hv
        split at hg
        · rename_i hl
          cases hg
          rw [hs] at E
          obtain ⟨rfl, hl⟩ := hl
          exact .inl ⟨stop i H m.g s σ us e ts o E hv hl, hp σ H E.drop⟩
        · cases hg
      · cases hg
    · cases hg
  | succ r =>
    simp only [loopE] at hg
    split at hg
    · rename_i e s hs
      split at hg
      · rename_i k' o ts hv
        split at hg
        · rename_i hl
          obtain ⟨rfl, hl⟩ := hl
          split at hg
          · rename_i e' hk
            split at hg
            · rename_i m1 h1
              rw [hs] at E
              obtain ⟨go, yld⟩ := step i H m.g s σ us e ts o e' E hl.1 hv hk (by have := hl.2; omega)
              refine .inr ⟨go, fun σ' H' => ∃ m : Ms, EnvOk K c σ' H' m.g m.s (w :: us) ∧ loopE k' bd gb r (i + 1) m = some oo, fun σ' H' z => ⟨r, by omega, z⟩, fun x H' y => ?_⟩
              obtain ⟨rfl, E1⟩ := yld x H' y
              refine hT c σ H' ⟨m.g, e' :: e :: s⟩ m1 _ x _ hm E1 h1 fun σ2 H2 E2 => ?_
              cases h2 : gb m1 with
              | none => simp [h2] at hg
              | some o2 =>
                refine hB c σ2 H2 m1 _ _ o2 hm E2 h2 ?_
                cases o2 with
                | nx m2 =>
                  simp only [h2] at hg
                  exact fun σ3 H3 E3 => ⟨m2, E3, hg⟩
                | ct m2 =>
                  simp only [h2] at hg
                  exact fun σ3 H3 E3 => ⟨m2, E3, hg⟩
                | bk m2 =>
                  simp only [h2] at hg
                  cases hg
                  exact fun σ3 H3 E3 => hp σ3 H3 E3.tail
                | rt t m2 =>
                  simp only [h2] at hg
                  cases hg
                  exact fun σ3 x3 H3 E3 => hp σ3 x3 H3 E3.tail2
                | ex C g' =>
                  simp only [h2] at hg
                  cases hg
                  exact hp
            · cases hg
          · cases hg
        · cases hg
      · cases hg
    · cases hg
theorem PI.or {tg iter : Expr} {w1 w2 : TI} (h1 : PI X tg iter w1) (h2 : PI X tg iter w2) : PI X tg iter (fun σ H R => w1 σ H R ∨ w2 σ H R) := by
  refine ⟨fun pins s σ H R I h => ?_⟩
  rcases h with h | h
  · exact h1.run pins s σ H R I h
  · exact h2.run pins s σ H R I h
theorem ready_ok {m m' : Ms} {k : Nk} {x : V} (E : EnvOk K c σ H m.g m.s (x :: us)) (h : ready m = some (m', k, n)) : EnvOk K c σ H m'.g m'.s (x :: us) ∧ ∃ e s o ts, m'.s = e :: s ∧ viewE m'.g e = some (.nd k o ts) ∧ (k = .lst ∨ k = .tup) := by
  unfold ready at h
  split at h
  · rename_i k2 o ts s hs
    split at h
    · rename_i hk
      cases h
      rw [hs] at E
      rcases hk with rfl | rfl
      · exact ⟨E.lend, _, _, _, _, rfl, rfl, .inl rfl⟩
      · exact ⟨E.lend, _, _, _, _, rfl, rfl, .inr rfl⟩
    · cases h
  · rename_i p s hs
    split at h
    · rename_i ts hg
      cases h
      rw [hs] at E
      exact ⟨E, _, _, _, _, rfl, hg, .inl rfl⟩
    · cases h
  · cases h
theorem viewObj (E : EnvOk K c σ H Γ (en :: τ) (w :: us)) (hv : viewE Γ en = some (.nd k o ts)) : ∃ a vs, w = .ref a ∧ ObjAt K k o H a vs ∧ ts.length = vs.length := by
  obtain ⟨Z, ws, Φ, Ψ, EE⟩ := E
  obtain ⟨Θ, a, vs, Ξ, rfl, ho, hl, _⟩ := EE.view (n := 0) rfl rfl hv
  exact ⟨a, vs, rfl, ho, RepL.len _ hl⟩
theorem cpE_tr (h : cpE en = true) : ∀ t, en = .tr t → cp t = true := fun t e => by subst e; exact h
theorem ms_for (hs : ME X T md W iter gs) (hT : MG X T md tg bd) (hB : MSs X T md W body gb) (hp : PassesOwn (model X.prog X.w) X.A X.env X.xe) (hc : X.calm = true)
    (hf : ∀ x, foldedSetIterable iter X.env x = pure x := by intro _; rfl) : MS X T md W (.For tg iter body [] pos) (sFor gs bd gb) := by
  obtain ⟨ti, pi, si⟩ := hs
  obtain ⟨tt, pt, st⟩ := hT
  obtain ⟨tb, pb, sb⟩ := hB
  refine ⟨_, ps_for hp hc (PI.or (pi_list pi) (pi_tup pi)) pt pb hf, fun c σ H m us D oo hm E hg hpo => ?_⟩
  simp only [sFor] at hg
  split at hg
  · rename_i m1 h1
    split at hg
    · rename_i m2 k n h2
      -- the kind is known ahead
      have hk : k = .lst ∨ k = .tup := by
        unfold ready at h2
        split at h2
        · split at h2
          · rename_i hk
            cases h2
            exact hk
          · cases h2
        · split at h2
          · cases h2
            exact .inl rfl
          · cases h2
        · cases h2
      rcases hk with rfl | rfl
      · refine .inl (si c σ H m us _ _ hm E h1 fun x H1 E1 => ?_)
        obtain ⟨E2, e, s, o, ts, hs2, hv, _⟩ := ready_ok E1 h2
        obtain ⟨a, vs, rfl, ho, _⟩ := viewObj (hs2 ▸ E2) hv
        refine ⟨a, rfl, ⟨vs, objL ho⟩, ?_⟩
        refine loop_ok hm st sb (fun i H Γ τ σ us e ts o E hv hl => ?_) (fun i H Γ τ σ us e ts o e' E hcp hv hk hi => ?_) hpo E2 hg
        · obtain ⟨a', vs', e, ho, hl2⟩ := viewObj E hv
          cases e
          exact ⟨vs', objL ho, by omega⟩
        · obtain ⟨a', vs', w', e, ho, hl2, hw, E3⟩ := EnvOk.kidX E (cpE_tr hcp) hv hk
          cases e
          refine ⟨⟨vs', w', objL ho, hw⟩, fun x H' y => ?_⟩
          obtain ⟨rfl, y⟩ := y
          have := y vs' (objL ho)
          rw [hw] at this
          cases this
          exact ⟨rfl, E3⟩
      · refine .inr (si c σ H m us _ _ hm E h1 fun x H1 E1 => ?_)
        obtain ⟨E2, e, s, o, ts, hs2, hv, _⟩ := ready_ok E1 h2
        obtain ⟨a, vs, rfl, ho, _⟩ := viewObj (hs2 ▸ E2) hv
        refine ⟨a, rfl, ⟨vs, objT ho⟩, ?_⟩
        refine loop_ok hm st sb (fun i H Γ τ σ us e ts o E hv hl => ?_) (fun i H Γ τ σ us e ts o e' E hcp hv hk hi => ?_) hpo E2 hg
        · obtain ⟨a', vs', e, ho, hl2⟩ := viewObj E hv
          cases e
          exact ⟨vs', objT ho, by omega⟩
        · obtain ⟨a', vs', w', e, ho, hl2, hw, E3⟩ := EnvOk.kidX E (cpE_tr hcp) hv hk
          cases e
          refine ⟨⟨vs', w', objT ho, hw⟩, fun x H' y => ?_⟩
          obtain ⟨rfl, y⟩ := y
          have := y vs' (objT ho)
          rw [hw] at this
          cases this
          exact ⟨rfl, E3⟩
    · cases hg
  · rename_i h1
    cases hg
    exact .inl (si c σ H m us _ _ hm E h1 fun H1 E1 => hpo σ H1 E1)
  · cases hg
end
/-! errors whose context is None (they are raised where nothing is handled): the names of ExcCtx in place of Exc's -/
section
variable {X : Cx} {W : WX} {E : XK}
abbrev Takes (X : Cx) (W : WX) : Prop := L2N.Takes X W
abbrev PMk := L2N.PMk
theorem passAt (tk : Takes X W) (σ : L2.St) : PassesAt (L2N.CX X.prog X.w) X σ (WE W σ) := L2N.passAt tk σ
theorem takes0 : Takes X (fun _ _ _ _ => False) := by
  rintro u s ⟨_, _, _, _, _, _, _, _, _, _, _, _, _, _, _, _, z⟩
  exact z.elim
theorem passL : Passes (L2N.CX X.prog X.w) X E0 := by
  rintro _ _ _ _ _ _ _ ⟨_, _, _, _, _, _, _, _, _, _, _, _, z⟩
  exact z.elim
theorem takes_of (hs : X.stack = X.env :: X.outer) (hf : X.env.frame = some X.env.locals) (hex : X.ex = []) {E₁ : Value → Shared → Prop} (hx : X.xe = fun e s' => wpAny (model X.prog X.w) X.A (leaving X.env e) (fun _ s'' => L2N.CX X.prog X.w X.outer X.H_0 X.s_0 E e s'') E₁ s') :
    Takes X (fun cls d _ H => E cls d H) := L2N.takes_of hs hf hex hx
theorem pmk_own {x m : Str} {j : Nat} {p p2 pos : Pos} {C : Addr} {bmB : List Value} {B newId initId : String} (F : ExcBaseFacts B newId initId bmB) (q : PySem.W.excIn X.K C bmB newId = true) (gC : X.mg x = some (.ref C)) (kC : PySem.W.keepIn X.K (.ref C) = true) (r : Raises X (.ref C)) (hg : Gl X x)
    (notDb : (x == ("__debug__" : Str)) = false := by decide) : PMk X (.Call (.Name x p) [.Constant (.str m) j p2] [] pos) (fun _ H Q => Q (.ref C) none H) := L2N.pmk_own F q gC kC r hg notDb
end
section
variable {K : KC} {X : Cx} {T : KT} {md mdc : List Bool} {W : WX} {c : Cz} {σ : St} {H H' : Hp} {Γ τ τ1 : List Ent} {us us1 vs vs' : List V} {v w : V} {p q : List Nat} {t : Tr} {ts ts' : List Tr} {k k' : Nk} {i j n d : Nat} {a : Addr} {en en' : Ent} {o : Ow}
/-! a def's promise by a function on trees -/
inductive Rt | rt (r : Tr) (ts : List Tr) | ex (C : Nat) (ts : List Tr)
abbrev GF := List Tr → Option Rt
structure Cl (H H' : Hp) (F S S' F1 : Ps) : Prop where
  ob : ∀ b ob, H b = some ob → ¬ F b → H' b = some ob
  oc : ∀ b, F b → (H' b).isSome = true
  nw : ∀ b, F1 b → (F b ∨ H b = none) ∧ ¬ S' b
  s0 : ∀ b, S b → S' b
  s1 : ∀ b, S' b → S b ∨ F b ∨ H b = none
  ss : ∀ b, S' b → (H' b).isSome = true
def PostF (K : KC) (vs : List V) (H : Hp) (F S : Ps) (Q : VK) (E : XK) : Rt → Prop
  | .rt r ts' => ∀ v H' S' F1, RepL K ⟨S', fun _ => False⟩ H' .own (r :: ts') (v :: vs) F1 → Cl H H' F S S' F1 → Q v H'
  | .ex C ts' => ∀ H' S' F1, RepL K ⟨S', fun _ => False⟩ H' .own ts' vs F1 → Cl H H' F S S' F1 → E (.ref (K.et C)) none H'
/-- only what is a parameter of its own comes back -/
def outP : List Bool → List Ent → List Tr
  | [], _ => []
  | true :: bs, e :: es => e.tree :: outP bs es
  | false :: bs, _ :: es => .any :: outP bs es
  | _ :: bs, [] => .any :: outP bs []
def mdOk : List Bool → List Tr → Bool
  | [], [] => true
  | b :: bs, t :: ts => (b || cp t) && mdOk bs ts
  | _, _ => false
def spOf (K : KC) (md : List Bool) (G : GF) : Sp := fun vs H Q E => ∃ (ts : List Tr) (Z : Zn) (F : Ps) (o : Rt), RepL K Z H .own ts vs F ∧ mdOk md ts = true ∧ (∀ b, F b → ¬ Z.fz b ∧ ¬ Z.ln b) ∧ (∀ b, Z.fz b ∨ Z.ln b → (H b).isSome = true) ∧ G ts = some o ∧ PostF K vs H F Z.fz Q E o
def runF (md : List Bool) (N : Nat) (g : GS) : GF := fun ts => match g ⟨ts.map Ent.tr ++ List.replicate (N - ts.length) .no, []⟩ with
  | some (.nx m) => if escL (outP md m.g) = true then some (.rt (.a .non) (outP md m.g)) else none
  | some (.rt t m) => if esc t = true ∧ escL (outP md m.g) = true then some (.rt t (outP md m.g)) else none
  | some (.ex C g') => if escL (outP md g') = true then some (.ex C (outP md g')) else none
  | _ => none
mutual
theorem Rep.esc0 {Z : Zn} {H : Hp} : ∀ (t : Tr) {m : Ow} {v : V} {Φ : Ps}, Rep K Z H m t v Φ → m ≠ .lnt → (m = .own → esc t = true) → Rep K ⟨Z.fz, fun _ => False⟩ H m t v Φ
  | .any, _, _, _, h, _, _ => h
  | .a _, _, _, _, h, _, _ => h
  | .nd k o ts, m, v, Φ, h, hm, he => by
    obtain ⟨a, vs, Ψ, e1, ho, hl, hn⟩ := h
    have nl : eff m o ≠ .lnt := by
      cases m with
      | lnt => exact absurd rfl hm
      | frz => simp [eff]
      | own =>
        have := he rfl
        cases k <;> cases o <;> simp_all [esc, eff]
    refine ⟨a, vs, Ψ, e1, ho, RepL.esc0 ts hl nl fun q => ?_, ?_⟩
    · cases m with
      | lnt => exact absurd rfl hm
      | frz => simp [eff] at q
      | own =>
        have := he rfl
        cases k <;> cases o <;> simp_all [esc, eff, Nod]
    · cases k <;> cases eo : eff m o <;> simp_all [Nod]
theorem RepL.esc0 {Z : Zn} {H : Hp} : ∀ (ts : List Tr) {m : Ow} {vs : List V} {Φ : Ps}, RepL K Z H m ts vs Φ → m ≠ .lnt → (m = .own → escL ts = true) → RepL K ⟨Z.fz, fun _ => False⟩ H m ts vs Φ
  | [], _, _, _, h, _, _ => h
  | t :: ts, m, vs, Φ, h, hm, he => by
    obtain ⟨v', vs', Φ1, Φ2, e1, h1, h2, d1, u⟩ := h
    exact ⟨v', vs', Φ1, Φ2, e1, Rep.esc0 t h1 hm (fun q => by have := he q; simp_all [escL]), RepL.esc0 ts h2 hm (fun q => by have := he q; simp_all [escL]), d1, u⟩
end
theorem outP_ok {Z : Zn} {H : Hp} : ∀ {md : List Bool} {Γ : List Ent} {ws vs : List V} {Φ : Ps}, RepL K Z H .own (trees Γ) ws Φ → vs.length = md.length → (∀ i : Nat, md[i]? = some true → ws[i]? = vs[i]?) → ∃ Φ', RepL K Z H .own (outP md Γ) vs Φ' ∧ ∀ b, Φ' b → Φ b
  | [], Γ, ws, vs, Φ, h, l, _ => by
    match vs, l with
    | [], _ => exact ⟨fun _ => False, ⟨rfl, fun _ h => h⟩, fun _ h => h.elim⟩
  | b :: md, [], ws, vs, Φ, h, l, e => by
    match vs, l with
    | x :: vs, l =>
      obtain ⟨Φ', r, s⟩ := outP_ok (md := md) (Γ := []) (ws := []) (vs := vs) (Φ := fun _ => False) ⟨rfl, fun _ h => h⟩ (by simpa using l) (fun i hi => by
        have := e (i + 1) (by simpa using hi)
        rw [h.1] at this
        simpa using this)
      have hb : outP (b :: md) [] = .any :: outP md [] := by cases b <;> rfl
      rw [hb]
      exact ⟨Φ', ⟨x, vs, fun _ => False, Φ', rfl, fun _ h => h, r, by simp, by simp⟩, fun b q => (s b q).elim⟩
  | b :: md, en :: Γ, ws, vs, Φ, h, l, e => by
    match vs, l with
    | x :: vs, l =>
      obtain ⟨v0, ws', Φ1, Φ2, e1, h1, h2, d, u⟩ := h
      subst e1
      obtain ⟨Φ', r, s⟩ := outP_ok (md := md) (Γ := Γ) (ws := ws') (vs := vs) h2 (by simpa using l) (fun i hi => by simpa using e (i + 1) (by simpa using hi))
      cases b with
      | false => exact ⟨Φ', ⟨x, vs, fun _ => False, Φ', rfl, fun _ h => h, r, by simp, by simp⟩, fun b q => (u b).mpr (.inr (s b q))⟩
      | true =>
        have : v0 = x := by simpa using e 0 rfl
        subst this
        exact ⟨fun b => Φ1 b ∨ Φ' b, ⟨v0, vs, Φ1, Φ', rfl, h1, r, by grind, fun _ => Iff.rfl⟩, by grind⟩
theorem mdOk_len : ∀ {md : List Bool} {ts : List Tr}, mdOk md ts = true → md.length = ts.length
  | [], [], _ => rfl
  | b :: bs, t :: ts, h => by
    simp only [mdOk, Bool.and_eq_true] at h
    simp [mdOk_len h.2]
  | [], _ :: _, h => by simp [mdOk] at h
  | _ :: _, [], h => by simp [mdOk] at h
theorem RepL.anys : ∀ (n : Nat) {Z : Zn} {H : Hp}, RepL K Z H .own (List.replicate n .any) (List.replicate n .non) (fun _ => False)
  | 0, _, _ => ⟨rfl, fun _ h => h⟩
  | n + 1, _, _ => ⟨.non, _, fun _ => False, fun _ => False, rfl, fun _ h => h, RepL.anys n, by simp, by simp⟩
theorem start_ok {N : List Str} {Z : Zn} {F : Ps} (r : RepL K Z H .own ts vs F) (hl : ts.length ≤ N.length) (hmd : md.length = ts.length) (zo : ∀ b, F b → ¬ Z.fz b ∧ ¬ Z.ln b) (zs : ∀ b, Z.fz b ∨ Z.ln b → (H b).isSome = true) :
    EnvOk K ⟨H, F, Z.fz, md, vs⟩ (start N vs) H (ts.map Ent.tr ++ List.replicate (N.length - ts.length) .no) [] [] := by
  have lt := RepL.len _ r
  have es : start N vs = vs.map some ++ List.replicate (N.length - vs.length) none := by
    first | rfl | (unfold start; rfl) | (unfold start; simp)
  refine ⟨Z, vs ++ List.replicate (N.length - ts.length) .non, F, fun _ => False, ⟨?_, ⟨rfl, fun _ h => h⟩, by simp, ?_, by simp, ?_, ?_, fun b q => .inl q, fun b q => q, zs, fun b o e => ⟨o, e, fun _ => rfl⟩, ?_⟩⟩
  · have := RepL.append _ r (RepL.anys (K := K) (Z := Z) (H := H) (N.length - ts.length)) (by simp)
    have et : trees (ts.map Ent.tr ++ List.replicate (N.length - ts.length) .no) = ts ++ List.replicate (N.length - ts.length) .any := by
      have := trees_tr (ts := ts)
      simp only [trees, List.map_append, List.map_replicate] at this ⊢
      rw [this]
      rfl
    rw [et]
    exact this.cast _ (by simp)
  · intro i e he
    by_cases hi : i < ts.length
    · rw [List.getElem?_append_left (by simpa using hi)] at he
      have : ∃ t, e = .tr t := by
        simp at he
        obtain ⟨_, _, he⟩ := he
        exact ⟨_, he.symm⟩
      obtain ⟨t, rfl⟩ := this
      have hiv : i < vs.length := by omega
      refine ⟨vs[i], by rw [List.getElem?_append_left hiv, List.getElem?_eq_getElem hiv], ?_⟩
      rw [es, List.getElem?_append_left (by simpa using hiv)]
      simp [hiv]
    · rw [List.getElem?_append_right (by simpa using hi)] at he
      have := List.mem_of_getElem? he
      simp at this
      rw [this.2]
      trivial
  · rw [es]
    simp
    omega
  · intro b q
    rcases q with q | q
    · exact ⟨.inl q, zo b q⟩
    · exact q.elim
  · intro i hi
    have h1 : i < md.length := getq_lt' hi
    rw [List.getElem?_append_left (by omega)]
theorem exit_ok {Z0 : Zn} {F : Ps} {s : List Ent} (hF : ∀ b, F b → (H b).isSome = true) (hmd : md.length = vs.length) (E : EnvOk K ⟨H, F, Z0.fz, md, vs⟩ σ H' Γ s us) (he : escL (trees s) = true) (ho : escL (outP md Γ) = true) : ∃ S' F1, RepL K ⟨S', fun _ => False⟩ H' .own (trees s ++ outP md Γ) (us ++ vs) F1 ∧ Cl H H' F Z0.fz S' F1 := by
  obtain ⟨Z, ws, Φ, Ψ, sl, tm, dj, so, to, ln, zo, zf, z0, zs, st, pv⟩ := E
  obtain ⟨Φ', r, sub⟩ := outP_ok (md := md) (vs := vs) sl hmd.symm pv
  have r1 := RepL.esc0 _ r (by simp) fun _ => ho
  have r2 := RepL.esc0 _ tm (by simp) fun _ => he
  have hs1 := RepL.isS _ sl
  have hs2 := RepL.isS _ tm
  refine ⟨Z.fz, fun b => Ψ b ∨ Φ' b, RepL.append _ r2 r1 (by grind), ⟨fun b ob e n => ?_, fun b q => ?_, fun b q => ?_, z0, fun b q => zf b q, fun b q => zs b (.inl q)⟩⟩
  · obtain ⟨o', e', h⟩ := st b ob e
    rw [e', h n]
  · obtain ⟨ob, e⟩ := Option.isSome_iff_exists.mp (hF b q)
    obtain ⟨o', e', _⟩ := st b ob e
    rw [e']; rfl
  · have h := zo b (by grind)
    exact ⟨h.1, h.2.1⟩
variable {P : Program} {Wd : World} {Kf : PySem.W.Frag} {mg : Str → Option Value} {base : Heap}
/-- a def whose body is a term of the machine -/
theorem fn_sim {x qual : Str} {st : Stmt} {f : Addr} {fd : FuncData} {N ps : List Str} {k : Nat} {g : GS} (F : Fun Kf x qual st f fd) (S : FnScope N ps (defScope st)) (hps : ps.length = md.length) (hN : ps.length ≤ N.length)
    (body : ∀ (cdv : Value) (A : Around) (outer : List Env) (s : Shared) (H : Hp) (E : XK), Room k (A.deeper (PyProof.Rows.envOfC qual (defScope st) s.heap.objs.size f cdv)) →
      MSs (cxOf (L2N.CX P Wd) P Wd Kf mg base N qual (defScope st) f cdv A outer s H E) T md (fun cls d _ H => E cls d H) (defBody st) g) :
    FnOk P Wd Kf mg base (L2N.CX P Wd) (k + 1) f fd ps (spOf (kcm Kf T) md (runF md N.length g)) := by
  obtain ⟨oc, od, kV, doc, pm, an, cdv, ct, osl, rfl, inK, cdOk⟩ := F.ex
  refine fn_of inK cdOk S (fun vs H Q E h => ?_) (fun A outer s H vs Q E hr h => ?_)
  · obtain ⟨ts, Z, F, o, r, hm, _⟩ := h
    have h1 := RepL.len _ r
    have h2 := mdOk_len hm
    omega
  · obtain ⟨ts, Z, F, o, r, hm, zo, zs, hG, hp⟩ := h
    have h1 := RepL.len _ r
    have h2 := mdOk_len hm
    obtain ⟨t, pt, sim⟩ := body cdv A outer s H E hr
    refine ⟨t, pt, ?_⟩
    have E0 := start_ok (K := kcm Kf T) (N := N) (md := md) r (by omega) h2 zo zs
    simp only [runF] at hG
    cases hg : g ⟨ts.map Ent.tr ++ List.replicate (N.length - ts.length) .no, []⟩ with
    | none => simp [hg] at hG
    | some oo =>
      refine sim ⟨H, F, Z.fz, md, vs⟩ (start N vs) H ⟨ts.map Ent.tr ++ List.replicate (N.length - ts.length) Ent.no, []⟩ [] _ oo rfl E0 hg ?_
      cases oo with
      | nx m =>
        simp only [hg] at hG
        split at hG
        · rename_i he
          cases hG
          intro σ' H' E1
          have hnil : m.s = [] := by have := tail_len E1; simpa using this
          rw [hnil] at E1
          obtain ⟨S', F1, r1, cl⟩ := exit_ok (RepL.isS _ r) (by omega) (E1.atom .non) (by simp [escL, esc, Ent.tree]) he
          exact hp .non H' S' F1 r1 cl
        · cases hG
      | rt tt m =>
        simp only [hg] at hG
        split at hG
        · rename_i he
          cases hG
          intro σ' v H' E1
          have hnil : m.s = [] := by have := tail_len E1; simpa using this
          rw [hnil] at E1
          obtain ⟨S', F1, r1, cl⟩ := exit_ok (RepL.isS _ r) (by omega) E1 (by simp [escL, Ent.tree, he.1]) he.2
          exact hp v H' S' F1 r1 cl
        · cases hG
      | ex C g' =>
        simp only [hg] at hG
        split at hG
        · rename_i he
          cases hG
          intro σ' H' E1
          obtain ⟨S', F1, r1, cl⟩ := exit_ok (RepL.isS _ r) (by omega) E1 (by simp [escL]) he
          exact hp H' S' F1 r1 cl
        · cases hG
      | bk m => simp [hg] at hG
      | ct m => simp [hg] at hG
end
section
variable {K : KC} {X : Cx} {T : KT} {md mdc : List Bool} {W : WX} {c : Cz} {σ : St} {H H' : Hp} {Γ τ τ1 A B P : List Ent} {us us1 vs vs' va vb vp : List V} {v w : V} {p q : List Nat} {t : Tr} {ts ts' : List Tr} {k k' : Nk} {i j n d : Nat} {a : Addr} {en en' : Ent} {o : Ow} {Z : Zn} {ws : List V} {Φ Ψ : Ps} {G : GF}
def argT (Γ : List Ent) : List Bool → List Ent → Option (List Tr)
  | [], [] => some []
  | true :: bs, .tr t :: es => match argT Γ bs es with
    | some ts => some (t :: ts)
    | none => none
  | false :: bs, e :: es => match viewE Γ e with
    | some t => if cp (kid .lnt t) = true then match argT Γ bs es with
        | some ts => some (kid .lnt t :: ts)
        | none => none
      else none
    | none => none
  | _, _ => none
theorem argT_ok : ∀ {mdc : List Bool} {ents : List Ent} {vs : List V} {Ψa : Ps} {ts : List Tr}, RepL K Z H .own (trees ents) vs Ψa → (∀ (i : Nat) (p : List Nat) (v : V) (t : Tr), ents[i]? = some (.al p) → vs[i]? = some v → getG Γ p = some t → ∃ Θ, Rep K Z H .own t v Θ ∧ ∀ b, Θ b → Φ b) →
    argT Γ mdc ents = some ts → mdOk mdc ts = true ∧ ∃ F R : Ps, (∀ b, Ψa b ↔ F b ∨ R b) ∧ (∀ b, ¬ (F b ∧ R b)) ∧ ∀ Zc : Zn, (∀ b, Z.fz b → Zc.fz b) → (∀ b, Z.ln b ∨ R b ∨ Φ b → Zc.ln b) → RepL K Zc H .own ts vs F
  | [], [], vs, Ψa, ts, r, _, h => by
    simp only [argT] at h
    cases h
    exact ⟨rfl, fun _ => False, fun _ => False, fun b => ⟨fun q => (r.2 b q).elim, fun q => by simp at q⟩, by simp, fun Zc _ _ => ⟨r.1, fun _ h => h⟩⟩
  | [], _ :: _, _, _, _, _, _, h => by simp [argT] at h
  | true :: bs, [], _, _, _, _, _, h => by simp [argT] at h
  | false :: bs, [], _, _, _, _, _, h => by simp [argT] at h
  | true :: bs, e :: es, vs, Ψa, ts, r, hv, h => by
    obtain ⟨v, vs', Φ1, Φ2, e1, h1, h2, d, u⟩ := r
    subst e1
    cases e with
    | no => simp [argT] at h
    | al _ => simp [argT] at h
    | tr t =>
      simp only [argT] at h
      split at h
      · rename_i ts' h3
        cases h
        obtain ⟨m1, F, R, u2, d2, bld⟩ := argT_ok (mdc := bs) (ents := es) (vs := vs') h2 (fun i p v t a b => hv (i + 1) p v t (by simpa using a) (by simpa using b)) h3
        refine ⟨by simp [mdOk, m1], fun b => Φ1 b ∨ F b, R, by grind, by grind, fun Zc hf hl => ⟨v, vs', Φ1, F, rfl, Rep.fr t h1 ⟨hf, fun b q => hl b (.inl q), fun b o _ e => e, fun _ _ h => h⟩, bld Zc hf hl, by grind, fun _ => Iff.rfl⟩⟩
      · cases h
  | false :: bs, e :: es, vs, Ψa, ts, r, hv, h => by
    obtain ⟨v, vs', Φ1, Φ2, e1, h1, h2, d, u⟩ := r
    subst e1
    simp only [argT] at h
    split at h
    · rename_i t ht
      split at h
      · rename_i hc
        split at h
        · rename_i ts' h3
          cases h
          obtain ⟨m1, F, R, u2, d2, bld⟩ := argT_ok (mdc := bs) (ents := es) (vs := vs') h2 (fun i p v t a b => hv (i + 1) p v t (by simpa using a) (by simpa using b)) h3
          have vw : ∃ Θ, Rep K Z H .own t v Θ ∧ ∀ b, Θ b → Φ b ∨ Φ1 b := by
            cases e with
            | no => simp [viewE] at ht
            | tr x =>
              simp only [viewE] at ht
              cases ht
              exact ⟨Φ1, h1, fun b q => .inr q⟩
            | al p =>
              obtain ⟨Θ, z1, z2⟩ := hv 0 p v t rfl rfl ht
              exact ⟨Θ, z1, fun b q => .inl (z2 b q)⟩
          obtain ⟨Θ, z1, z2⟩ := vw
          refine ⟨by simp [mdOk, m1, hc], F, fun b => Φ1 b ∨ R b, by grind, by grind, fun Zc hf hl => ⟨v, vs', fun _ => False, F, rfl, rep_kid.mpr (Rep.lend (m := .own) t z1 hf fun b q => hl b (by grind)), bld Zc hf (fun b q => hl b (by grind)), by simp, by simp⟩⟩
        · cases h
      · cases h
    · cases h
theorem call_ok {ents s : List Ent} {G : GF} {o : Rt} {Q : VK} {E : XK} (EE : Ev K c Z ws Φ Ψ σ H Γ (ents.reverse ++ s) (vs.reverse ++ us)) (l : ents.length = vs.length) (h : argT Γ mdc ents = some ts) (hG : G ts = some o)
    (post : match o with
      | .rt r ts' => ∀ v H', ts'.length = vs.length → EnvOk K c σ H' Γ (.tr r :: (ts'.map .tr ++ s)) (v :: (vs ++ us)) → Q v H'
      | .ex C ts' => ∀ H', ts'.length = vs.length → EnvOk K c σ H' Γ (ts'.map .tr ++ s) (vs ++ us) → E (.ref (K.et C)) none H') : spOf K mdc G vs H Q E := by
  have tm' : RepL K Z H .own (trees ents.reverse ++ trees s) (vs.reverse ++ us) Ψ := by simpa [trees] using EE.tm
  obtain ⟨v1, v2, Ψ1, Ψ2, e, r1, r2, d, u⟩ := RepL.split _ tm'
  have hl1 := RepL.len _ r1
  have hlt : (trees ents.reverse).length = ents.length := by simp [trees]
  obtain ⟨rfl, rfl⟩ := List.append_inj e (by simp; omega)
  have r0 : RepL K Z H .own (trees ents) vs Ψ1 := by
    have := RepL.reverse _ r1
    have e2 : (trees ents.reverse).reverse = trees ents := by simp [trees]
    rwa [e2, List.reverse_reverse] at this
  obtain ⟨m1, F, R, u2, d2, bld⟩ := argT_ok (Φ := Φ) (Γ := Γ) r0 (fun i p v t a b g => by
    have hi : i < ents.length := getq_lt' a
    have a' : (ents.reverse ++ s)[ents.length - 1 - i]? = some (.al p) := by
      rw [List.getElem?_append_left (by simp; omega), List.getElem?_reverse (by omega), show ents.length - 1 - (ents.length - 1 - i) = i by omega]
      exact a
    obtain ⟨w, b', raw, gs⟩ := EE.to _ p a'
    rw [List.getElem?_append_left (by simp; omega), List.getElem?_reverse (by omega), show vs.length - 1 - (ents.length - 1 - i) = i by omega, b] at b'
    cases b'
    obtain ⟨w', Φ1, Φ2, raw', r, _, uu, _⟩ := RepL.path EE.sl (p := p) (t := t) (by rw [getG_getP gs]; exact g)
    cases raw.fn raw'
    exact ⟨Φ1, r, fun b q => (uu b).mpr (.inl q)⟩) h
  have hsF := RepL.isS _ EE.sl
  have hsT := RepL.isS _ EE.tm
  refine ⟨ts, ⟨Z.fz, fun b => Z.ln b ∨ R b ∨ Φ b⟩, F, o, bld _ (fun _ h => h) (fun _ h => h), m1, fun b q => ?_, fun b q => ?_, hG, ?_⟩
  · have h1 := EE.zo b (.inr ((u b).mpr (.inl ((u2 b).mpr (.inl q)))))
    refine ⟨h1.2.1, fun z => ?_⟩
    rcases z with z | z | z
    · exact h1.2.2 z
    · exact d2 b ⟨q, z⟩
    · exact EE.dj b ⟨z, (u b).mpr (.inl ((u2 b).mpr (.inl q)))⟩
  · rcases q with q | q | q | q
    · exact EE.zs b (.inl q)
    · exact EE.zs b (.inr q)
    · exact hsT b ((u b).mpr (.inl ((u2 b).mpr (.inr q))))
    · exact hsF b q
  · have chg : ∀ {H' : Hp} {S' F1 : Ps}, Cl H H' F Z.fz S' F1 → Chg Z ⟨S', Z.ln⟩ H H' Ψ1 F1 := fun {H' S' F1} cl => by
      have zF : ∀ b, F b → ¬ Z.fz b ∧ ¬ Z.ln b := fun b q => (EE.zo b (.inr ((u b).mpr (.inl ((u2 b).mpr (.inl q)))))).2
      refine ⟨cl.s0, fun _ h => h, fun b q => ?_, fun b q => .inl q, fun b q => ?_, fun b ob e n => cl.ob b ob e (fun q => n ((u2 b).mpr (.inl q))), fun b q => ?_, fun b q => ?_⟩
      · rcases cl.s1 b q with z | z | z
        · exact .inl z
        · exact .inr (.inl ((u2 b).mpr (.inl z)))
        · exact .inr (.inr z)
      · rcases q with q | q
        · exact cl.ss b q
        · obtain ⟨ob, e⟩ := Option.isSome_iff_exists.mp (EE.zs b (.inr q))
          rw [cl.ob b ob e fun z => (zF b z).2 q]
          rfl
      · by_cases z : F b
        · exact cl.oc b z
        · obtain ⟨ob, e⟩ := Option.isSome_iff_exists.mp (hsT b ((u b).mpr (.inl q)))
          rw [cl.ob b ob e z]
          rfl
      · have h1 := cl.nw b q
        refine ⟨h1.1.imp (fun z => (u2 b).mpr (.inl z)) id, h1.2, fun z => ?_⟩
        rcases h1.1 with y | y
        · exact (zF b y).2 z
        · have := EE.zs b (.inr z)
          rw [y] at this
          cases this
    have mono : ∀ {H' : Hp} {S' F1 : Ps} {xs : List Tr} {ys : List V}, RepL K ⟨S', fun _ => False⟩ H' .own xs ys F1 → RepL K ⟨S', Z.ln⟩ H' .own xs ys F1 := fun {H' S' F1 xs ys} r => RepL.fr _ r ⟨fun _ h => h, fun _ h => h.elim, fun _ _ _ h => h, fun _ _ h => h⟩
    cases o with
    | rt r ts' =>
      intro v H' S' F1 rr cl
      have hlen : ts'.length = vs.length := by have := RepL.len _ rr; simpa using this
      refine post v H' hlen ?_
      exact EE.swapX (τ1' := .tr r :: ts'.map .tr) (us1' := v :: vs) (by simp; omega) (by simp) r1 r2 d u (by
        have := mono rr
        have et : trees (.tr r :: ts'.map .tr) = r :: ts' := by
          have := trees_tr (ts := ts')
          simp only [trees, List.map_cons] at this ⊢
          rw [this]
          rfl
        rw [et]
        exact this) (chg cl) (by simp [hlen])
    | ex C ts' =>
      intro H' S' F1 rr cl
      have hlen : ts'.length = vs.length := by have := RepL.len _ rr; simpa using this
      refine post H' hlen ?_
      exact EE.swapX (τ1' := ts'.map .tr) (us1' := vs) (by simp; omega) (by simp) r1 r2 d u (by rw [trees_tr]; exact mono rr) (chg cl) (by simp [hlen])
theorem EnvOk.permM (lp : P.length = vp.length) (la : A.length = va.length) (lb : B.length = vb.length) (E : EnvOk K c σ H Γ (P ++ (A ++ (B ++ τ))) (vp ++ (va ++ (vb ++ us)))) : EnvOk K c σ H Γ (P ++ (B ++ (A ++ τ))) (vp ++ (vb ++ (va ++ us))) := by
  have lt : τ.length = us.length := by
    have := tail_len E
    simp at this
    omega
  have h := EnvOk.perm (K := K) (c := c) (σ := σ) (H := H) (Γ := Γ) (l := P.zip vp ++ (A.zip va ++ (B.zip vb ++ τ.zip us))) (l' := P.zip vp ++ (B.zip vb ++ (A.zip va ++ τ.zip us))) (by
    refine List.Perm.append_left _ ?_
    rw [← List.append_assoc, ← List.append_assoc]
    exact List.Perm.append_right _ List.perm_append_comm)
  simp only [List.map_append, List.map_fst_zip (Nat.le_of_eq lp), List.map_snd_zip (Nat.le_of_eq lp.symm), List.map_fst_zip (Nat.le_of_eq la), List.map_snd_zip (Nat.le_of_eq la.symm), List.map_fst_zip (Nat.le_of_eq lb), List.map_snd_zip (Nat.le_of_eq lb.symm), List.map_fst_zip (Nat.le_of_eq lt), List.map_snd_zip (Nat.le_of_eq lt.symm)] at h
  exact h E
end
section
variable {K : KC} {X : Cx} {T : KT} {md mdc : List Bool} {W : WX} {c : Cz} {σ : St} {H H' : Hp} {Γ τ τ1 A B P : List Ent} {us us1 vs vs' va vb vp : List V} {v w : V} {p q : List Nat} {t : Tr} {ts ts' : List Tr} {k k' : Nk} {i j n d h : Nat} {a : Addr} {en en' : Ent} {o : Ow} {Z : Zn} {ws : List V} {Φ Ψ : Ps} {G : GF} {m m' : Ms}
/-- an own argument at depth d of n is taken out of its place; the place is kept below the arguments -/
def extAt (d n : Nat) (m : Ms) : Option Ms := match m.s[d]? with
  | some (.al p) => match getG m.g p with
    | some t => some ⟨kill p (setG m.g p .any), (kill p (m.s.eraseIdx d)).take d ++ .tr t :: (((kill p (m.s.eraseIdx d)).drop d).take (n - 1 - d) ++ .al p :: (kill p (m.s.eraseIdx d)).drop (n - 1))⟩
    | none => none
  | some (.tr _) => some ⟨m.g, m.s.take n ++ .no :: m.s.drop n⟩
  | _ => none
theorem split_at {α : Type} {l : List α} {d : Nat} {x : α} (h : l[d]? = some x) : l = l.take d ++ ([x] ++ l.drop (d + 1)) := by
  have hlt := getq_lt' h
  have e := (List.getElem?_eq_some_iff.mp h).2
  have h1 : l.drop d = [x] ++ l.drop (d + 1) := by rw [List.drop_eq_getElem_cons hlt, e]; rfl
  rw [← h1, List.take_append_drop]
theorem erase_split {α : Type} {l : List α} {d : Nat} : l.eraseIdx d = l.take d ++ l.drop (d + 1) := List.eraseIdx_eq_take_drop_succ _ _
theorem EnvOk.pushNo (E : EnvOk K c σ H Γ τ us) (v : V) : EnvOk K c σ H Γ (.no :: τ) (v :: us) := by
  obtain ⟨Z, ws, Φ, Ψ, EE⟩ := E
  exact EE.swap (τ1 := []) (us1 := []) (τ1' := [.no]) (us1' := [v]) (Ψ1' := fun _ => False) rfl (by simp) (fun Ψ1 r => ⟨⟨v, [], fun _ => False, fun _ => False, rfl, fun _ h => h, ⟨rfl, fun _ h => h⟩, by simp, by simp⟩, .same _ _ _ EE.zs (fun b q => RepL.isS _ r b q) _ (by simp)⟩) rfl
theorem extAt_ok (E : EnvOk K c σ H m.g m.s us) (hd : d < n) (hn : n ≤ us.length) (h : extAt d n m = some m') : ∃ w, us[d]? = some w ∧ EnvOk K c σ H m'.g m'.s (us.take n ++ w :: us.drop n) := by
  have hl := tail_len E
  have hdu : d < us.length := by omega
  refine ⟨us[d], List.getElem?_eq_getElem hdu, ?_⟩
  have eu := split_at (List.getElem?_eq_getElem hdu)
  unfold extAt at h
  split at h
  · rename_i p hp
    split at h
    · rename_i t ht
      cases h
      have es := split_at hp
      have E1 : EnvOk K c σ H m.g (m.s.take d ++ ([.al p] ++ m.s.drop (d + 1))) (us.take d ++ ([us[d]] ++ us.drop (d + 1))) := by rw [← es, ← eu]; exact E
      have E2 := EnvOk.permA (by simp; omega) rfl E1
      rw [← erase_split, ← erase_split] at E2
      have E3 := EnvOk.ext (p := p) (t := t) (τ := m.s.eraseIdx d) (us := us.eraseIdx d) E2 ht
      -- lengths
      generalize hs' : kill p (m.s.eraseIdx d) = s' at *
      generalize hu' : us.eraseIdx d = u' at *
      have ls : s'.length = m.s.length - 1 := by rw [← hs']; simp [kill, List.length_eraseIdx]; omega
      have lu : u'.length = us.length - 1 := by rw [← hu', List.length_eraseIdx]; simp; omega
      have sp : ∀ {α : Type} (l : List α), l = l.take d ++ ((l.drop d).take (n - 1 - d) ++ l.drop (n - 1)) := fun l => by
        have : l.drop (n - 1) = (l.drop d).drop (n - 1 - d) := by rw [List.drop_drop]; congr 1; omega
        rw [this, List.take_append_drop, List.take_append_drop]
      have E4 : EnvOk K c σ H (kill p (setG m.g p .any)) ([.tr t] ++ ([.al p] ++ ((s'.take d ++ (s'.drop d).take (n - 1 - d)) ++ s'.drop (n - 1)))) ([us[d]] ++ ([us[d]] ++ ((u'.take d ++ (u'.drop d).take (n - 1 - d)) ++ u'.drop (n - 1)))) := by
        rw [List.append_assoc (s'.take d), List.append_assoc (u'.take d), ← sp s', ← sp u']
        exact E3
      have E5 := EnvOk.permM (P := [.tr t]) (vp := [us[d]]) rfl rfl (by simp; omega) E4
      rw [List.append_assoc (s'.take d), List.append_assoc (u'.take d)] at E5
      have E6 := EnvOk.permA (A := [.tr t]) (va := [us[d]]) rfl (by simp; omega) E5
      have ev : us.take n ++ us[d] :: us.drop n = u'.take d ++ ([us[d]] ++ ((u'.drop d).take (n - 1 - d) ++ ([us[d]] ++ u'.drop (n - 1)))) := by
        have h1 : u'.take d = us.take d := by rw [← hu', erase_split, List.take_append_of_le_length (by simp; omega), List.take_take]; simp
        have h2 : u'.drop d = us.drop (d + 1) := by
          rw [← hu', erase_split, List.drop_append]
          have : (us.take d).length = d := by simp; omega
          rw [this]
          simp
        have h3 : u'.drop (n - 1) = us.drop n := by
          have : u'.drop (n - 1) = (u'.drop d).drop (n - 1 - d) := by rw [List.drop_drop]; congr 1; omega
          rw [this, h2, List.drop_drop]
          congr 1
          omega
        have h4 : us.take n = us.take d ++ ([us[d]] ++ (us.drop (d + 1)).take (n - 1 - d)) := by
          have : n = d + (1 + (n - 1 - d)) := by omega
          conv => lhs; rw [this, List.take_add]
          congr 1
          rw [List.drop_eq_getElem_cons hdu, Nat.add_comm 1, List.take_succ_cons]
          rfl
        rw [h1, h2, h3, h4]
        simp
      rw [ev]
      exact E6
    · cases h
  · cases h
    have E1 := E.pushNo us[d]
    have E2 : EnvOk K c σ H m.g ([.no] ++ (m.s.take n ++ m.s.drop n)) ([us[d]] ++ (us.take n ++ us.drop n)) := by rw [List.take_append_drop, List.take_append_drop]; exact E1
    exact EnvOk.permA (A := [.no]) (va := [us[d]]) rfl (by simp; omega) E2
  · cases h
/-- behind the call: what came back at index i of n goes to its place; h things lie above -/
def resAt (h i n : Nat) (m : Ms) : Option Ms := match m.s[h + i]?, m.s[h + n]? with
  | some (.tr t), some (.al p) => match getG m.g p with
    | some .any => if esc t = true then some ⟨setG m.g p t, (m.s.eraseIdx (h + n)).eraseIdx (h + i)⟩ else none
    | _ => none
  | some (.tr _), some .no => some ⟨m.g, (m.s.eraseIdx (h + n)).eraseIdx (h + i)⟩
  | _, _ => none
theorem two_split {α : Type} {l : List α} {x y : Nat} {a b : α} (hx : l[x]? = some a) (hy : l[y]? = some b) (hxy : x < y) : l = l.take x ++ ([a] ++ ((l.drop (x + 1)).take (y - x - 1) ++ ([b] ++ l.drop (y + 1)))) ∧ (l.eraseIdx y).eraseIdx x = l.take x ++ ((l.drop (x + 1)).take (y - x - 1) ++ l.drop (y + 1)) := by
  have h1 := split_at hx
  have hyl := getq_lt' hy
  have h2 : (l.drop (x + 1))[y - x - 1]? = some b := by rw [List.getElem?_drop, show x + 1 + (y - x - 1) = y by omega]; exact hy
  have h3 := split_at h2
  have h4 : (l.drop (x + 1)).drop (y - x - 1 + 1) = l.drop (y + 1) := by rw [List.drop_drop]; congr 1; omega
  rw [h4] at h3
  refine ⟨by rw [← h3]; exact h1, ?_⟩
  rw [erase_split (l := l.eraseIdx y)]
  have e1 : (l.eraseIdx y).take x = l.take x := by rw [erase_split, List.take_append_of_le_length (by simp; omega), List.take_take]; congr 1; omega
  have e2 : (l.eraseIdx y).drop (x + 1) = (l.drop (x + 1)).take (y - x - 1) ++ l.drop (y + 1) := by
    rw [erase_split, List.drop_append]
    have hlen : (l.take y).length = y := by simp; omega
    rw [hlen, show x + 1 - y = 0 by omega, List.drop_zero]
    congr 1
    rw [List.drop_take]
    congr 1
  rw [e1, e2]
theorem resAt_ok (E : EnvOk K c σ H m.g m.s us) (hi : i < n) (hu : us[h + i]? = us[h + n]?) (hh : resAt h i n m = some m') : EnvOk K c σ H m'.g m'.s ((us.eraseIdx (h + n)).eraseIdx (h + i)) := by
  have hl := tail_len E
  unfold resAt at hh
  split at hh
  · rename_i t p h1 h2
    split at hh
    · rename_i hg
      split at hh
      · rename_i he
        cases hh
        have hlt := getq_lt' h2
        have hlt1 := getq_lt' h1
        obtain ⟨w, hw⟩ : ∃ w, us[h + n]? = some w := ⟨_, List.getElem?_eq_getElem (by omega)⟩
        have hw2 : us[h + i]? = some w := by rw [hu]; exact hw
        obtain ⟨s1, s2⟩ := two_split h1 h2 (by omega)
        obtain ⟨u1, u2⟩ := two_split hw2 hw (by omega)
        rw [s1, u1] at E
        have E1 := EnvOk.permA (A := m.s.take (h + i)) (B := [.tr t]) (va := us.take (h + i)) (vb := [w]) (by simp; omega) rfl E
        have E2 := EnvOk.permM (P := [.tr t]) (vp := [w]) (A := m.s.take (h + i) ++ (m.s.drop (h + i + 1)).take (h + n - (h + i) - 1)) (va := us.take (h + i) ++ (us.drop (h + i + 1)).take (h + n - (h + i) - 1)) (B := [.al p]) (vb := [w]) rfl (by simp; omega) rfl (by simpa [List.append_assoc] using E1)
        have E3 := (EnvOk.back E2 hg he).drop
        rw [s2, u2]
        simpa [List.append_assoc] using E3
      · cases hh
    · cases hh
  · rename_i t h1 h2
    cases hh
    have hlt := getq_lt' h2
    have hlt1 := getq_lt' h1
    obtain ⟨w, hw⟩ : ∃ w, us[h + n]? = some w := ⟨_, List.getElem?_eq_getElem (by omega)⟩
    have hw2 : us[h + i]? = some w := by rw [hu]; exact hw
    obtain ⟨s1, s2⟩ := two_split h1 h2 (by omega)
    obtain ⟨u1, u2⟩ := two_split hw2 hw (by omega)
    rw [s1, u1] at E
    have E1 := EnvOk.permA (A := m.s.take (h + i)) (B := [.tr t]) (va := us.take (h + i)) (vb := [w]) (by simp; omega) rfl E
    have E2 := EnvOk.permM (P := [.tr t]) (vp := [w]) (A := m.s.take (h + i) ++ (m.s.drop (h + i + 1)).take (h + n - (h + i) - 1)) (va := us.take (h + i) ++ (us.drop (h + i + 1)).take (h + n - (h + i) - 1)) (B := [.no]) (vb := [w]) rfl (by simp; omega) rfl (by simpa [List.append_assoc] using E1)
    have E3 := E2.drop.drop
    rw [s2, u2]
    simpa [List.append_assoc] using E3
  · cases hh
end
section
variable {K : KC} {X : Cx} {T : KT} {md mdc : List Bool} {W : WX} {c : Cz} {σ : St} {H H' : Hp} {Γ τ τ1 A B P : List Ent} {us us0 us1 vs vs' va vb vp : List V} {v w : V} {p q : List Nat} {t : Tr} {ts ts' : List Tr} {k k' : Nk} {i j n d h : Nat} {a : Addr} {en en' : Ent} {o : Ow} {Z : Zn} {ws : List V} {Φ Ψ : Ps} {G : GF} {m m' : Ms} {is : List Nat}
def extAll (n : Nat) : List Nat → Ms → Option Ms
  | [], m => some m
  | i :: is, m => match extAt (n - 1 - i) n m with
    | some m' => extAll n is m'
    | none => none
theorem extAll_ok : ∀ {is : List Nat} {m m' : Ms} {us0 : List V}, EnvOk K c σ H m.g m.s (vs.reverse ++ us0) → vs.length = n → (∀ i ∈ is, i < n) → extAll n is m = some m' → EnvOk K c σ H m'.g m'.s (vs.reverse ++ (is.reverse.map (vs.getD · .non) ++ us0))
  | [], m, m', us0, E, hl, hi, h => by
    simp only [extAll] at h
    cases h
    simpa using E
  | i :: is, m, m', us0, E, hl, hi, h => by
    simp only [extAll] at h
    split at h
    · rename_i m1 h1
      have hin := hi i List.mem_cons_self
      obtain ⟨w, hw, E1⟩ := extAt_ok E (by omega) (by simp; omega) h1
      rw [List.getElem?_append_left (by simp; omega), List.getElem?_reverse (by omega), show vs.length - 1 - (n - 1 - i) = i by omega] at hw
      have e1 : (vs.reverse ++ us0).take n = vs.reverse := by rw [List.take_append_of_le_length (by simp; omega)]; exact List.take_of_length_le (by simp; omega)
      have e2 : (vs.reverse ++ us0).drop n = us0 := by rw [List.drop_append_of_le_length (by simp; omega), List.drop_of_length_le (by simp; omega)]; rfl
      rw [e1, e2] at E1
      have := extAll_ok (is := is) (us0 := w :: us0) E1 hl (fun i h => hi i (List.mem_cons_of_mem _ h)) h
      simpa [hw] using this
    · cases h
def resAll (h : Nat) : Nat → List Nat → Ms → Option Ms
  | _, [], m => some m
  | n, i :: is, m => match resAt h i n m with
    | some m' => resAll h (n - 1) is m'
    | none => none
theorem resAll_ok {hv : List V} (hh : hv.length = h) : ∀ {is : List Nat} {n : Nat} {m m' : Ms} {vals : List V}, vals.length = n → (∀ i ∈ is, i < n) → is.Pairwise (· > ·) → EnvOk K c σ H m.g m.s (hv ++ (vals ++ (is.map (vals.getD · .non) ++ us0))) → resAll h n is m = some m' → ∃ vals' : List V, vals'.length = n - is.length ∧ EnvOk K c σ H m'.g m'.s (hv ++ (vals' ++ us0))
  | [], n, m, m', vals, hl, hi, hp, E, hr => by
    simp only [resAll] at hr
    cases hr
    exact ⟨vals, by simpa using hl, by simpa using E⟩
  | i :: is, n, m, m', vals, hl, hi, hp, E, hr => by
    simp only [resAll] at hr
    split at hr
    · rename_i m1 h1
      have hin := hi i List.mem_cons_self
      have hpw := List.pairwise_cons.mp hp
      have g1 : (hv ++ (vals ++ ((i :: is).map (vals.getD · .non) ++ us0)))[h + i]? = vals[i]? := by
        rw [List.getElem?_append_right (by omega), show h + i - hv.length = i by omega, List.getElem?_append_left (by omega)]
      have g2 : (hv ++ (vals ++ ((i :: is).map (vals.getD · .non) ++ us0)))[h + n]? = some (vals.getD i .non) := by
        rw [List.getElem?_append_right (by omega), show h + n - hv.length = n by omega, List.getElem?_append_right (by omega), show n - vals.length = 0 by omega]
        rfl
      have E1 := resAt_ok (n := n) E hin (by rw [g1, g2, List.getD_eq_getElem?_getD, List.getElem?_eq_getElem (by omega)]; rfl) h1
      have ev : ((hv ++ (vals ++ ((i :: is).map (vals.getD · .non) ++ us0))).eraseIdx (h + n)).eraseIdx (h + i) = hv ++ (vals.eraseIdx i ++ (is.map ((vals.eraseIdx i).getD · .non) ++ us0)) := by
        have e1 : (hv ++ (vals ++ ((i :: is).map (vals.getD · .non) ++ us0))).eraseIdx (h + n) = hv ++ (vals ++ (is.map (vals.getD · .non) ++ us0)) := by
          rw [List.eraseIdx_append_of_length_le (by omega), show h + n - hv.length = n by omega, List.eraseIdx_append_of_length_le (by omega), show n - vals.length = 0 by omega]
          rfl
        rw [e1, List.eraseIdx_append_of_length_le (by omega), show h + i - hv.length = i by omega, List.eraseIdx_append_of_lt_length (by omega)]
        congr 3
        refine List.map_congr_left fun x hx => ?_
        have : x < i := hpw.1 x hx
        rw [List.getD_eq_getElem?_getD, List.getD_eq_getElem?_getD, List.getElem?_eraseIdx_of_lt this]
      rw [ev] at E1
      obtain ⟨vals', l', E2⟩ := resAll_ok hh (is := is) (n := n - 1) (vals := vals.eraseIdx i) (by rw [List.length_eraseIdx, if_pos (by omega)]; omega) (fun x hx => by have := hpw.1 x hx; omega) hpw.2 E1 hr
      exact ⟨vals', by simp; omega, E2⟩
    · cases hr
theorem EnvOk.dropN : ∀ {A : List Ent} {va : List V}, A.length = va.length → EnvOk K c σ H Γ (A ++ τ) (va ++ us) → EnvOk K c σ H Γ τ us
  | [], [], _, E => E
  | e :: A, v :: va, l, E => EnvOk.dropN (by simpa using l) (EnvOk.drop E)
theorem EnvOk.dropAll {s : List Ent} (E : EnvOk K c σ H Γ s us) : EnvOk K c σ H Γ [] [] := by
  have := tail_len E
  exact EnvOk.dropN (A := s) (va := us) (τ := []) (us := []) this (by simpa using E)
/-- a call of a def by its function on trees; is: the arguments that are its own and stand at places -/
def gCall (is : List Nat) (mdc : List Bool) (G : GF) (n : Nat) : GE := fun m => match extAll n is m with
  | none => none
  | some m1 => match argT m1.g mdc (m1.s.take n).reverse with
    | none => none
    | some ts => match G ts with
      | some (.rt r ts') => match resAll 1 n is.reverse ⟨m1.g, .tr r :: (ts'.map .tr ++ m1.s.drop n)⟩ with
        | some m2 => some (.ok ⟨m2.g, m2.s.take 1 ++ m2.s.drop (1 + (n - is.length))⟩)
        | none => none
      | some (.ex C ts') => match resAll 0 n is.reverse ⟨m1.g, ts'.map .tr ++ m1.s.drop n⟩ with
        | some m2 => some (.ex C m2.g)
        | none => none
      | none => none
theorem gCall_ok (hin : ∀ i ∈ is, i < n) (hpw : is.reverse.Pairwise (· > ·)) : RA K md W n (fun σ vs H Q => spOf K mdc G vs H Q (fun cls d H => W cls d σ H)) (gCall is mdc G n) := by
  intro c σ H m us vs Q rr hc hl E hf hp
  unfold gCall at hf
  split at hf
  · cases hf
  · rename_i m1 h1
    have E1 := extAll_ok E hl hin h1
    split at hf
    · cases hf
    · rename_i ts hts
      have hlen := tail_len E1
      have hn : n ≤ m1.s.length := by rw [hlen]; simp; omega
      obtain ⟨Z, ws, Φ, Ψ, EE⟩ := E1
      have es : m1.s = (m1.s.take n).reverse.reverse ++ m1.s.drop n := by rw [List.reverse_reverse, List.take_append_drop]
      split at hf
      · rename_i r ts' hG
        split at hf
        · rename_i m2 h2
          cases hf
          refine call_ok (ents := (m1.s.take n).reverse) (s := m1.s.drop n) (o := .rt r ts') (es ▸ EE) (by simp; omega) hts hG ?_
          intro v H' l' E2
          obtain ⟨vals', lv, E3⟩ := resAll_ok (hv := [v]) (h := 1) rfl (is := is.reverse) (n := n) (m := ⟨m1.g, .tr r :: (ts'.map .tr ++ m1.s.drop n)⟩) (vals := vs) hl (fun i hi => hin i (List.mem_reverse.mp hi)) hpw E2 h2
          have lm := tail_len E3
          simp only [List.length_append, List.length_cons, List.length_nil, List.length_reverse] at lm lv
          refine hp v H' ?_
          have e3 : m2.s = m2.s.take 1 ++ ((m2.s.drop 1).take (n - is.length) ++ m2.s.drop (1 + (n - is.length))) := by
            have : m2.s.drop (1 + (n - is.length)) = (m2.s.drop 1).drop (n - is.length) := by rw [List.drop_drop]
            rw [this, List.take_append_drop, List.take_append_drop]
          rw [e3] at E3
          have E4 := EnvOk.permA (A := m2.s.take 1) (va := [v]) (by simp; omega) (by simp; omega) E3
          exact EnvOk.dropN (by simp; omega) E4
        · cases hf
      · rename_i C ts' hG
        split at hf
        · rename_i m2 h2
          cases hf
          refine call_ok (ents := (m1.s.take n).reverse) (s := m1.s.drop n) (o := .ex C ts') (es ▸ EE) (by simp; omega) hts hG ?_
          intro H' l' E2
          obtain ⟨vals', lv, E3⟩ := resAll_ok (hv := []) (h := 0) rfl (is := is.reverse) (n := n) (m := ⟨m1.g, ts'.map .tr ++ m1.s.drop n⟩) (vals := vs) hl (fun i hi => hin i (List.mem_reverse.mp hi)) hpw E2 h2
          exact hp H' E3.dropAll
        · cases hf
      · cases hf
variable {x : Str} {pp pos apos : Pos} {e oe : Expr} {es : List Expr} {ga go : GE} {kk : Nat} {f : Addr} {fd : FuncData} {ps : List Str}
theorem seqA {tA : TA} {R : St → List V → Hp → VK → Prop} {fg : GE} (sa : SA K md W n tA ga) (hf : RA K md W n R fg) : SE K md W (fun σ H Q => tA σ H fun vs H1 => R σ vs H1 Q) (gSeq ga fg) := by
  intro c σ H m us Q rr hc E hg hp
  simp only [gSeq] at hg
  split at hg
  · rename_i m1 h1
    exact sa c σ H m us _ _ hc E h1 fun vs H1 hl E1 => hf c σ H1 m1 us vs Q rr hc hl E1 hg hp
  · rename_i h1
    refine sa c σ H m us _ _ hc E hg ?_
    cases rr with
    | ex C g' => exact hp
    | ok m2 => exact absurd hg (h1 m2)
theorem me_call (F : FnOk X.prog X.w X.K X.mg X.base (L2N.CX X.prog X.w) kk f fd ps (spOf (kcm X.K T) mdc G)) (hr : Room kk X.A) (tk : Takes X W) (hg : Gl X x) (hm : X.mg x = some (.ref f)) (hk : PySem.W.keepIn X.K (.ref f) = true) (hb : Binds X.K fd ps [])
    (ha : MA X T md W (e :: es) ga) (hin : ∀ i ∈ is, i < (e :: es).length) (hpw : is.reverse.Pairwise (· > ·)) (hdb : (x == ("__debug__" : Str)) = false := by decide)
    (he : starEach (e :: es) X.env = (false, eval e X.env) :: starEach es X.env := by rfl) (hpl : (backTo pos (starEach es X.env)).any (·.1) = false := by rfl) : ME X T md W (.Call (.Name x pp) (e :: es) [] pos) (gSeq ga (gCall is mdc G (e :: es).length)) := by
  obtain ⟨t, pa, sa⟩ := ha
  exact ⟨_, pe_callS (E := WE W) F hr hg hm hk hb (fun σ => passAt tk σ) pa hdb he hpl, seqA sa (gCall_ok hin hpw)⟩
end
section
variable {K : KC} {X : Cx} {T : KT} {md mdc : List Bool} {W : WX} {c : Cz} {σ : St} {H H' : Hp} {Γ τ τ1 A B P : List Ent} {us us0 us1 vs vs' va vb vp : List V} {v w : V} {p q : List Nat} {t : Tr} {ts ts' : List Tr} {k k' : Nk} {i j n d h : Nat} {a : Addr} {en en' : Ent} {o : Ow} {Z : Zn} {ws : List V} {Φ Ψ : Ps} {G : GF} {m m' : Ms} {is : List Nat}
variable {x me : Str} {pp pos apos : Pos} {e oe : Expr} {es : List Expr} {ga go : GE} {kk : Nat} {f C : Addr} {fd : FuncData} {ps : List Str} {CXk : CXT} {sp : Sp} {ta : TE} {tA : TA} {Ew : St → XK} {pl : Sem Bool}
/-! methods, with what is raised wished for at the slots -/
def tMethS (C : Addr) (m : Str) (sp : Sp) (E : St → XK) (ta : TE) (t : TA) : TE := fun σ H Q => ta σ H fun x H1 => ∃ a dx fs, x = .ref a ∧ H1 a = some (.ins C dx fs) ∧ fs.lookup m = none ∧ t σ H1 fun vs H2 => sp (x :: vs) H2 Q (E σ)
theorem pe_methS0 (po : PE X oe ta) (c : Cls X.K C) (hm : Meth X.K C me f) (F : FnOk X.prog X.w X.K X.mg X.base CXk kk f fd ps sp) (hr : Room kk X.A) (hb : Binds X.K fd ps []) (hx : ∀ σ, PassesAt CXk X σ (Ew σ))
    (ht : eval (.Call (.Attribute oe me apos) [] [] pos) X.env = (do let ov ← eval oe X.env; standAt apos.atName; let (f, first) ← holding [ov] (getMethod ov me pl); callWith pos f first (backTo pos (starEach [] X.env)) (backToKw pos (keywordEach [] X.env))) := by rfl) :
    PE X (.Call (.Attribute oe me apos) [] [] pos) (tMethS C me sp Ew ta tNil) := by
  constructor
  intro pins s σ H Q I hh
  refine PySem.W.methodCall_KW (pl := pl) (he := ht) (thn (po.run pins s σ H _ I hh) ?_)
  rintro u s1 ⟨xv, H1, I1, rx, ad, dx, fs, rfl, ea, lk, q1⟩
  cases (show u = Value.ref ad from rx)
  apply getmeth_ok I1 ea c hm lk
  exact PySem.W.callWith_K0 (first := [.ref ad]) I1.kIn hm.kp (run_fnS (us := [.ref ad]) (vs := [.ref ad]) F hr hb (hx σ) I1 (.cons rfl .nil) q1)
/-- on top stands an instance of the class n -/
def chkI (n : Nat) : GE := fun m => match m.s with
  | e :: _ => match viewE m.g e with
    | some (.nd (.ins n' _) _ _) => if n' = n then some (.ok m) else none
    | _ => none
  | _ => none
theorem lookup_none {fl : Str} : ∀ {ns : List Str} {vs : List V}, ns.idxOf? fl = none → (ns.zip vs).lookup fl = none
  | [], _, _ => rfl
  | n :: ns, [], _ => rfl
  | n :: ns, v :: vs, h => by
    rw [List.idxOf?_cons] at h
    by_cases e : (n == fl) = true
    · simp [e] at h
    · rw [if_neg e] at h
      have e2 : (fl == n) = false := by
        have : n ≠ fl := by simpa using e
        simpa using fun q : fl = n => this q.symm
      rw [List.zip_cons_cons, List.lookup_cons, e2]
      exact lookup_none (by simpa using h)
theorem take_none {fl : Str} {ns : List Str} {k : Nat} (h : ns.idxOf? fl = none) : (ns.take k).idxOf? fl = none := by
  rw [List.idxOf?_eq_none_iff] at h ⊢
  exact fun q => h (List.mem_of_mem_take q)
theorem chkI_ok {rr : Rs} {xv : V} (E : EnvOk K c σ H m.g m.s (xv :: us)) (h : chkI n m = some rr) (hno : (K.nm n).idxOf? me = none) : rr = .ok m ∧ ∃ a dx fs, xv = .ref a ∧ H a = some (.ins (K.ct n) dx fs) ∧ fs.lookup me = none := by
  unfold chkI at h
  split at h
  · rename_i e s hs
    split at h
    · rename_i n' kf o ts hv
      split at h
      · rename_i hn
        subst hn
        cases h
        rw [hs] at E
        obtain ⟨a, vs, rfl, ⟨l, dx, ho⟩, _⟩ := viewObj E hv
        exact ⟨rfl, a, dx, _, rfl, ho, lookup_none (take_none hno)⟩
      · cases h
    · cases h
  · cases h
theorem me_meth0 (ho : ME X T md W oe go) (c : Cls X.K (T.ct n)) (hm : Meth X.K (T.ct n) me f) (hno : (T.nm n).idxOf? me = none) (F : FnOk X.prog X.w X.K X.mg X.base (L2N.CX X.prog X.w) kk f fd ps (spOf (kcm X.K T) mdc G)) (hr : Room kk X.A) (tk : Takes X W) (hb : Binds X.K fd ps [])
    (hin : ∀ i ∈ is, i < 1) (hpw : is.reverse.Pairwise (· > ·))
    (ht : eval (.Call (.Attribute oe me apos) [] [] pos) X.env = (do let ov ← eval oe X.env; standAt apos.atName; let (f, first) ← holding [ov] (getMethod ov me pl); callWith pos f first (backTo pos (starEach [] X.env)) (backToKw pos (keywordEach [] X.env))) := by rfl) :
    ME X T md W (.Call (.Attribute oe me apos) [] [] pos) (gSeq go (gSeq (chkI n) (gCall is mdc G 1))) := by
  obtain ⟨to, po, so⟩ := ho
  refine ⟨_, pe_methS0 (Ew := WE W) po c hm F hr hb (fun σ => passAt tk σ) ht, fun c σ H m us Q rr hc E hg hp => ?_⟩
  simp only [gSeq] at hg
  split at hg
  · rename_i m1 h1
    refine so c σ H m us _ _ hc E h1 fun xv H1 E1 => ?_
    split at hg
    · rename_i m2 h2
      obtain ⟨e2, a, dx, fs, ex, ea, lk⟩ := chkI_ok E1 h2 hno
      cases e2
      exact ⟨a, dx, fs, ex, ea, lk, gCall_ok hin hpw c σ H1 m1 us [xv] Q rr hc rfl E1 hg hp⟩
    · rename_i h2
      obtain ⟨e2, _⟩ := chkI_ok E1 hg hno
      exact absurd (e2 ▸ hg) (h2 m1)
  · rename_i h1
    refine so c σ H m us _ _ hc E hg ?_
    cases rr with
    | ex C g' => exact hp
    | ok m2 => exact absurd hg (h1 m2)
/-! a new instance -/
def gMake (n : Nat) (mdc : List Bool) (G : GF) (l : Nat) : GE := fun m => match argT m.g (true :: mdc) (.tr (.nd (.ins n 0) .own []) :: (m.s.take l).reverse) with
  | none => none
  | some ts => match G ts with
    | some (.rt (.a .non) (t :: _)) => some (.ok ⟨m.g, .tr t :: m.s.drop l⟩)
    | some (.ex C _) => some (.ex C m.g)
    | _ => none
theorem EnvOk.newIns {pa dx : Addr} (E : EnvOk K c σ H Γ τ us) (hp : H pa = none) (hd : H dx = none) (ne : dx ≠ pa) : EnvOk K c σ (upd (upd H dx (.own pa)) pa (.ins (K.ct n) dx [])) Γ (.tr (.nd (.ins n 0) .own []) :: τ) (.ref pa :: us) := by
  obtain ⟨Z, ws, Φ, Ψ, EE⟩ := E
  have hk : ∀ b ob, H b = some ob → upd (upd H dx (.own pa)) pa (.ins (K.ct n) dx []) b = some ob := fun b ob e => by
    rw [upd_ne (ne_of_none e hp), upd_ne (ne_of_none e hd)]
    exact e
  have hs : ∀ b, (H b).isSome = true → (upd (upd H dx (.own pa)) pa (.ins (K.ct n) dx []) b).isSome = true := fun b q => by
    obtain ⟨ob, e⟩ := Option.isSome_iff_exists.mp q
    rw [hk b ob e]
    rfl
  have nz : ∀ b, Z.fz b ∨ Z.ln b → b ≠ pa := fun b q e => by have := EE.zs b q; rw [e, hp] at this; cases this
  refine EE.swapE (τ1 := []) (us1 := []) (τ1' := [.tr (.nd (.ins n 0) .own [])]) (us1' := [.ref pa]) rfl (by simp) (fun Ψ1 r zo => ?_) rfl
  have n0 : ∀ b, ¬ Ψ1 b := r.2
  refine ⟨Z, fun b => b = pa, ⟨.ref pa, [], fun b => b = pa, fun _ => False, rfl, ⟨pa, [], fun _ => False, rfl, ⟨by simp, dx, by simp [upd_same]⟩, ⟨rfl, fun _ h => h⟩, .mk (by simp) (by simp) (by simp) rfl⟩, ⟨rfl, fun _ h => h⟩, by simp, by simp⟩, ⟨fun _ h => h, fun _ h => h, fun _ h => .inl h, fun _ h => .inl h, fun b q => hs b (EE.zs b q), fun b ob e _ => hk b ob e, fun b q => absurd q (n0 b), fun b q => ?_⟩⟩
  have : b = pa := q
  subst this
  exact ⟨.inr hp, fun z => nz b (.inl z) rfl, fun z => nz b (.inr z) rfl⟩
theorem gMake_ok {xa dx : Addr} {l : Nat} {Q : VK} {rr : Rs} {Ex : XK} (E : EnvOk K c σ H m.g m.s (vs.reverse ++ us)) (hl : vs.length = l) (hf : gMake n mdc G l m = some rr) (hp : PostE K c W σ us Q rr) (hE : ∀ C H', W (.ref (K.et C)) none σ H' → Ex (.ref (K.et C)) none H') (hx : H xa = none) (hd : H dx = none) (ne : dx ≠ xa) :
    spOf K (true :: mdc) G (.ref xa :: vs) (upd (upd H dx (.own xa)) xa (.ins (K.ct n) dx [])) (fun v H2 => v = .non ∧ Q (.ref xa) H2) Ex := by
  unfold gMake at hf
  split at hf
  · cases hf
  · rename_i ts hts
    have hlen := tail_len E
    have hn : l ≤ m.s.length := by rw [hlen]; simp; omega
    have E1 := E.newIns (n := n) hx hd ne
    have es : m.s = (m.s.take l).reverse.reverse ++ m.s.drop l := by rw [List.reverse_reverse, List.take_append_drop]
    rw [es] at E1
    have E2 := EnvOk.permA (A := [.tr (.nd (.ins n 0) .own [])]) (B := (m.s.take l).reverse.reverse) (va := [.ref xa]) (vb := vs.reverse) rfl (by simp; omega) E1
    obtain ⟨Z, ws, Φ, Ψ, EE⟩ := E2
    split at hf
    · rename_i t rest hG
      cases hf
      refine call_ok (ents := .tr (.nd (.ins n 0) .own []) :: (m.s.take l).reverse) (s := m.s.drop l) (vs := .ref xa :: vs) (us := us) (o := .rt (.a .non) (t :: rest)) (by simpa using EE) (by simp; omega) hts hG ?_
      intro v H' l' E3
      have ev := top_a E3
      refine ⟨ev, hp _ _ ?_⟩
      have E4 := E3.drop
      have E5 : EnvOk K c σ H' m.g ([.tr t] ++ (rest.map .tr ++ m.s.drop l)) ([.ref xa] ++ (vs ++ us)) := by simpa using E4
      have E6 := EnvOk.permA (A := [.tr t]) (va := [.ref xa]) rfl (by simp at l' ⊢; omega) E5
      exact EnvOk.dropN (by simp at l' ⊢; omega) E6
    · rename_i C rest hG
      cases hf
      refine call_ok (ents := .tr (.nd (.ins n 0) .own []) :: (m.s.take l).reverse) (s := m.s.drop l) (vs := .ref xa :: vs) (us := us) (o := .ex C rest) (by simpa using EE) (by simp; omega) hts hG ?_
      intro H' l' E3
      exact hE C H' (hp H' E3.dropAll)
    · cases hf
end
section
variable {K : KC} {X : Cx} {T : KT} {md mdc : List Bool} {W : WX} {c : Cz} {σ σ' : St} {H H' : Hp} {Γ τ τ1 A B P : List Ent} {us us0 us1 vs vs' : List V} {v w : V} {p q : List Nat} {t : Tr} {ts ts' : List Tr} {k k' : Nk} {i j n d h : Nat} {a : Addr} {en en' : Ent} {o : Ow} {Z : Zn} {ws : List V} {Φ Ψ : Ps} {m m' : Ms} {g ge gt gs ga : GE} {e tg iter elt : Expr} {bd : Ms → Option Ms}
/-! the machine's own reading: the same in every context -/
def wpE (K : KC) (md : List Bool) (W : WX) (g : GE) : TE := fun σ H Q => ∃ c m us r, c.md = md ∧ EnvOk K c σ H m.g m.s us ∧ g m = some r ∧ PostE K c W σ us Q r
theorem ME.pe (h : ME X T md W e g) : PE X e (wpE (kcm X.K T) md W g) := by
  obtain ⟨t, p, s⟩ := h
  exact ⟨fun pins st σ H Q I ⟨c, m, us, r, hc, E, hg, hp⟩ => p.run pins st σ H Q I (s c σ H m us Q r hc E hg hp)⟩
def wpT (K : KC) (md : List Bool) (W : WX) (g : GE) : TT := fun σ H Q => ∃ c m us r, c.md = md ∧ EnvOk K c σ H m.g m.s us ∧ g m = some r ∧ PostT K c W σ us Q r
theorem MT.pt (h : MT X T md W e g) : PT X e (wpT (kcm X.K T) md W g) := by
  obtain ⟨t, p, s⟩ := h
  exact ⟨fun pins st σ H Q I ⟨c, m, us, r, hc, E, hg, hp⟩ => p.run pins st σ H Q I (s c σ H m us Q r hc E hg hp)⟩
abbrev WF : WX := fun _ _ _ _ => False
theorem EnvOk.reσ (E : EnvOk K c σ H Γ τ us) (hl : σ'.length = σ.length) (h : ∀ (i : Nat) (e : Ent), Γ[i]? = some e → e = .no ∨ σ'[i]? = σ[i]?) : EnvOk K c σ' H Γ τ us := by
  obtain ⟨Z, ws, Φ, Ψ, sl, tm, dj, so, to, ln, zo, zf, z0, zs, st, pv⟩ := E
  refine ⟨Z, ws, Φ, Ψ, ⟨sl, tm, dj, fun i e he => ?_, to, by rw [hl]; exact ln, zo, zf, z0, zs, st, pv⟩⟩
  have h1 := so i e he
  rcases h i e he with h2 | h2
  · subst h2
    trivial
  · cases e with
    | no => trivial
    | tr t =>
      obtain ⟨x, a, b⟩ := h1
      exact ⟨x, a, by rw [h2]; exact b⟩
    | al p =>
      obtain ⟨x, a, b⟩ := h1
      exact ⟨x, by rw [h2]; exact a, b⟩
/-- a slot is forgotten -/
def clr (i : Nat) (m : Ms) : Ms := ⟨(m.g.map (killR i)).set i .no, m.s.map (killR i)⟩
theorem EnvOk.clr (E : EnvOk K c σ H m.g m.s us) (hi : i < m.g.length) : EnvOk K c σ H (clr i m).g (clr i m).s us := by
  obtain ⟨Z, ws, Φ, Ψ, sl, tm, dj, so, to, ln, zo, zf, z0, zs, st, pv⟩ := E
  have hlt : i < (trees m.g).length := by simpa [trees] using hi
  obtain ⟨v', Φ1, Φ2, e2, r, d, u, r2, _⟩ := RepL.at_ _ sl (i := i) (t := (trees m.g)[i]) (List.getElem?_eq_getElem hlt)
  have et : trees ((m.g.map (killR i)).set i .no) = (trees m.g).set i .any := by
    have := trees_killR (Γ := m.g) (i := i)
    simp only [trees, List.map_set] at this ⊢
    rw [this]
    rfl
  refine ⟨Z, ws, Φ2, Ψ, ⟨by show RepL _ _ _ _ (trees ((m.g.map (killR i)).set i .no)) _ _; rw [et]; exact r2, ?_, by grind, ?_, ?_, by simp [Mine.clr, ln], by grind, zf, z0, zs, st, pv⟩⟩
  · show RepL K Z H .own (trees (m.s.map (killR i))) us Ψ
    rw [trees_killR]
    exact tm
  · intro j e he
    by_cases hj : i = j
    · subst hj
      have he : ((m.g.map (killR i)).set i .no)[i]? = some e := he
      rw [List.getElem?_set_self (by simpa using hi)] at he
      cases he
      trivial
    · have he : ((m.g.map (killR i)).set i .no)[j]? = some e := he
      rw [List.getElem?_set_ne hj] at he
      obtain ⟨e', he', rfl⟩ := killR_at he
      have h1 := so j e' he'
      cases e' with
      | no => trivial
      | tr x => exact h1
      | al q =>
        obtain ⟨x1, x2, x3, x4⟩ := h1
        by_cases hq : q.head? = some i
        · simp only [killR, hq, if_true]
          trivial
        · simp only [killR, hq, if_false]
          exact ⟨x1, x2, x3, by show (getG ((m.g.map (killR i)).set i .no) q).isSome = true; rw [getG_ne hq]; exact x4⟩
  · intro j q hj
    obtain ⟨e', he', hk⟩ := killR_at hj
    cases e' with
    | no => simp [killR] at hk
    | tr _ => simp [killR] at hk
    | al r =>
      by_cases hq : r.head? = some i
      · simp [killR, hq] at hk
      · simp only [killR, hq, if_false] at hk
        cases hk
        obtain ⟨w1, s1, s2, s3⟩ := to j q he'
        exact ⟨w1, s1, s2, by show (getG ((m.g.map (killR i)).set i .no) q).isSome = true; rw [getG_ne hq]; exact s3⟩
/-- a target of a comprehension whose names are the slots cv -/
def SGW (K : KC) (md : List Bool) (cv : List Nat) (t : TG) (b : Ms → Option Ms) : Prop := ∀ (c : Cz) (σ : St) (H : Hp) (m m' : Ms) (us : List V) (x : V) (Q : St → Hp → Prop), c.md = md → EnvOk K c (wipe σ cv) H m.g m.s (x :: us) → b m = some m' → (∀ σ2, wipe σ2 cv = wipe σ cv → EnvOk K c σ2 H m'.g m'.s us → Q σ2 H) → t x (wipe σ cv) H Q
theorem sgw_name : SGW K md [i] (gName i) (bind md i) := fun c σ H m m' us x Q hc E h hq => by
  refine hq _ ?_ (bind_ok hc E h)
  simp [wipe, List.set_set]
def clrs : List Nat → Ms → Ms
  | [], m => m
  | i :: is, m => clrs is (clr i m)
def allNo (Γ : List Ent) : List Nat → Bool
  | [] => true
  | i :: is => (match Γ[i]? with
    | some .no => true
    | _ => false) && allNo Γ is
/-- one turn: the item is on top, the new list at depth d below it -/
def lcTurn (cv : List Nat) (bd : Ms → Option Ms) (gt ge : GE) (d : Nat) (m : Ms) : Option Ms := match bd m with
  | none => none
  | some m1 => match gt m1 with
    | some (.ok ⟨g2, .tr (.a (.bl true)) :: s2⟩) => match ge ⟨g2, s2⟩ with
      | some (.ok ⟨g3, .tr y :: s3⟩) => match s3[d]? with
        | some (.tr (.nd .lst .own acc)) => if esc y = true ∧ acc.length < sizeLine ∧ (∀ i ∈ cv, i < g3.length) then some (clrs cv ⟨g3, s3.set d (.tr (.nd .lst .own (acc ++ [y])))⟩) else none
        | _ => none
      | _ => none
    | some (.ok ⟨g2, .tr (.a (.bl false)) :: s2⟩) => if ∀ i ∈ cv, i < g2.length then some (clrs cv ⟨g2, s2⟩) else none
    | _ => none
theorem clrs_ok : ∀ {cv : List Nat} {m : Ms}, EnvOk K c σ H m.g m.s us → (∀ i ∈ cv, i < m.g.length) → EnvOk K c σ H (clrs cv m).g (clrs cv m).s us
  | [], m, E, _ => E
  | i :: cv, m, E, h => clrs_ok (cv := cv) (m := clr i m) (E.clr (h i List.mem_cons_self)) (fun j hj => by simpa [clr] using h j (List.mem_cons_of_mem _ hj))
end
section
variable {K : KC} {X : Cx} {T : KT} {md mdc : List Bool} {W : WX} {c : Cz} {σ σ' σ2 : St} {H H' : Hp} {Γ τ τ1 A B P : List Ent} {us us0 us1 vs vs' : List V} {v w : V} {p q : List Nat} {t : Tr} {ts ts' : List Tr} {k k' : Nk} {i j n d h : Nat} {a D : Addr} {en en' : Ent} {o : Ow} {Z : Zn} {ws : List V} {Φ Ψ : Ps} {m m' : Ms} {g ge gt gs ga : GE} {e b tg iter elt : Expr} {bd : Ms → Option Ms} {cv : List Nat}
theorem wipe_get : ∀ {cv : List Nat} {i : Nat}, i ∉ cv → (wipe σ cv)[i]? = σ[i]?
  | [], _, _ => rfl
  | v :: cv, i, h => by
    simp only [List.mem_cons, not_or] at h
    unfold wipe
    rw [List.getElem?_set_ne (fun e => h.1 e.symm), wipe_get h.2]
theorem clr_no {m : Ms} (h : (clr j m).g[i]? = some e') (hm : m.g[i]? = some .no ∨ i = j) : e' = .no := by
  unfold clr at h
  simp only at h
  by_cases hj : j = i
  · subst hj
    by_cases hl : j < (m.g.map (killR j)).length
    · rw [List.getElem?_set_self hl] at h
      cases h
      rfl
    · rw [List.getElem?_eq_none (by simpa using hl)] at h
      cases h
  · rw [List.getElem?_set_ne hj] at h
    obtain ⟨x, hx, rfl⟩ := killR_at h
    rcases hm with hm | hm
    · rw [hm] at hx
      cases hx
      rfl
    · exact absurd hm.symm hj
theorem clrs_no : ∀ {cv : List Nat} {m : Ms} {i : Nat} {e : Ent}, (clrs cv m).g[i]? = some e → (m.g[i]? = some .no ∨ i ∈ cv) → e = .no
  | [], m, i, e, h, hm => by
    rcases hm with hm | hm
    · rw [show (clrs [] m).g = m.g from rfl, hm] at h
      cases h
      rfl
    · simp at hm
  | j :: cv, m, i, e, h, hm => by
    refine clrs_no (cv := cv) (m := clr j m) h ?_
    by_cases hi : i ∈ cv
    · exact .inr hi
    · left
      have hj : m.g[i]? = some .no ∨ i = j := by
        rcases hm with hm | hm
        · exact .inl hm
        · rcases List.mem_cons.mp hm with hm | hm
          · exact .inr hm
          · exact absurd hm hi
      have hlen : ∀ {cv : List Nat} {m : Ms}, (clrs cv m).g.length = m.g.length := by
        intro cv
        induction cv with
        | nil => intro m; rfl
        | cons x cv ih => intro m; rw [show clrs (x :: cv) m = clrs cv (clr x m) from rfl, ih]; simp [clr]
      have hlt := getq_lt' h
      rw [hlen] at hlt
      have : i < (clr j m).g.length := by simpa [clr] using hlt
      have h2 := List.getElem?_eq_getElem this
      rw [h2, clr_no h2 hj]
theorem backσ (E : EnvOk K c σ2 H (clrs cv m).g (clrs cv m).s us) (hw : wipe σ2 cv = wipe σ cv) : EnvOk K c (wipe σ cv) H (clrs cv m).g (clrs cv m).s us := by
  refine E.reσ (by rw [← hw, wipe_length]) fun i e he => ?_
  by_cases hi : i ∈ cv
  · exact .inl (clrs_no he (.inr hi))
  · right
    rw [← hw, wipe_get hi]
/-- the list at depth d gets one more item, that on top -/
theorem EnvOk.appAt {s : List Ent} {y : Tr} {yv : V} {acc : List Tr} (E : EnvOk K c σ H Γ (.tr y :: s) (yv :: us)) (hs : s[d]? = some (.tr (.nd .lst .own acc))) (hu : us[d]? = some (.ref D)) (he : esc y = true) :
    ∃ vs, H D = some (.lst vs) ∧ acc.length = vs.length ∧ EnvOk K c σ (upd H D (.lst (vs ++ [yv]))) Γ (s.set d (.tr (.nd .lst .own (acc ++ [y])))) us := by
  obtain ⟨Z, ws, Φ, Ψ, EE⟩ := id E
  obtain ⟨Θ, a, vs, Ξ, ea, ho, hlr, hn⟩ := EE.view (n := d + 1) (e := .tr (.nd .lst .own acc)) (v := .ref D) (by simpa using hs) (by simpa using hu) rfl
  cases ea
  have ho : H D = some (.lst vs) := ho
  have hn : Nod Z .lst .own D acc Ξ Θ := hn
  have hesc := (hn.own (by simp)).2.2
  refine ⟨vs, ho, RepL.len _ hlr, ?_⟩
  have s1 := split_at hs
  have u1 := split_at hu
  have hl := tail_len E
  have lus : s.length = us.length := by simpa using hl
  have hds := getq_lt' hs
  have E1 : EnvOk K c σ H Γ ([.tr y] ++ (s.take d ++ ([.tr (.nd .lst .own acc)] ++ s.drop (d + 1)))) ([yv] ++ (us.take d ++ ([.ref D] ++ us.drop (d + 1)))) := by rw [← s1, ← u1]; exact E
  have E2 := EnvOk.permM (P := [.tr y]) (vp := [yv]) rfl (by simp; omega) rfl E1
  have E3 := EnvOk.permA (A := [.tr y]) (B := [.tr (.nd .lst .own acc)]) (va := [yv]) (vb := [.ref D]) rfl rfl E2
  have E4 := EnvOk.mut (k := .lst) (k' := .lst) (ts := acc) (ts' := acc ++ [y]) (outs := []) (vouts := []) (vs' := vs ++ [yv]) (ob := .lst (vs ++ [yv])) (τ1 := [.tr y]) (us1 := [yv]) (τ := s.take d ++ s.drop (d + 1)) (us := us.take d ++ us.drop (d + 1)) E3 (by simp) (by simp) rfl ho
    (fun Z Ψa Ψb r1 r2 dd => ⟨_, by simpa [Ent.tree] using RepL.append _ r1 r2 dd, fun b q => q⟩) (by simpa using RepL.len _ hlr) rfl (escL_app hesc he) upd_same
  have E5 := EnvOk.permA (A := [.tr (.nd .lst .own (acc ++ [y]))]) (B := s.take d) (τ := s.drop (d + 1)) (va := [.ref D]) (vb := us.take d) (us := us.drop (d + 1)) rfl (by simp; omega) (by simpa using E4)
  have e6 : s.set d (.tr (.nd .lst .own (acc ++ [y]))) = s.take d ++ ([.tr (.nd .lst .own (acc ++ [y]))] ++ s.drop (d + 1)) := by
    rw [List.set_eq_take_append_cons_drop, if_pos hds]
    rfl
  rw [e6, u1]
  simpa using E5
theorem lcTurn_ok {gT : TG} {tt : TT} {te : TE} {s : List Ent} {x : V} {Nx : Hp → Prop} (hm : c.md = md) (hT : SGW K md cv gT bd) (hTt : ST K md WF tt gt) (hTe : SE K md WF te ge) (E : EnvOk K c (wipe σ cv) H Γ s (x :: us)) (hD : us[d]? = some (.ref D))
    (ht : lcTurn cv bd gt ge d ⟨Γ, s⟩ = some m') (hN : ∀ H', EnvOk K c (wipe σ cv) H' m'.g m'.s us → Nx H') :
    gT x (wipe σ cv) H fun σ2 H2 => wipe σ2 cv = wipe σ cv ∧ tt σ2 H2 fun b H3 => if b = true then te σ2 H3 fun y H4 => ∃ acc, H4 D = some (.lst acc) ∧ acc.length < sizeLine ∧ Nx (upd H4 D (.lst (acc ++ [y]))) else Nx H3 := by
  unfold lcTurn at ht
  split at ht
  · cases ht
  · rename_i m1 h1
    refine hT c σ H ⟨Γ, s⟩ m1 us x _ hm E h1 fun σ2 hw E2 => ⟨hw, ?_⟩
    split at ht
    · rename_i g2 s2 h2
      refine hTt c σ2 H m1 us _ _ hm E2 h2 fun H3 E3 => iteT ?_
      split at ht
      · rename_i g3 y s3 h3
        refine hTe c σ2 H3 ⟨g2, s2⟩ us _ _ hm E3 h3 fun yv H4 E4 => ?_
        split at ht
        · rename_i acc hacc
          split at ht
          · rename_i hc
            cases ht
            obtain ⟨vs, ho, hl, E5⟩ := EnvOk.appAt E4 hacc hD hc.1
            refine ⟨vs, ho, by rw [← hl]; exact hc.2.1, hN _ ?_⟩
            exact backσ (clrs_ok (m := ⟨g3, s3.set d (.tr (.nd .lst .own (acc ++ [y])))⟩) E5 hc.2.2) hw
          · cases ht
        · cases ht
      · cases ht
    · rename_i g2 s2 h2
      refine hTt c σ2 H m1 us _ _ hm E2 h2 fun H3 E3 => iteF ?_
      split at ht
      · rename_i hc
        cases ht
        exact hN _ (backσ (clrs_ok (m := ⟨g2, s2⟩) E3 hc) hw)
      · cases ht
    · cases ht
/-! over a list or tuple -/
def lcL (k : Nk) (cv : List Nat) (bd : Ms → Option Ms) (gt ge : GE) : Nat → Nat → Ms → Option Ms
  | 0, i, m => match m.s with
    | e :: _ => match viewE m.g e with
      | some (.nd k' _ ts) => if k' = k ∧ ts.length = i then some m else none
      | _ => none
    | _ => none
  | r + 1, i, m => match m.s with
    | e :: s => match viewE m.g e with
      | some (.nd k' o ts) => if k' = k ∧ cpE e = true ∧ ts.length = i + (r + 1) then match kidX e k o ts i with
          | some e' => match lcTurn cv bd gt ge 1 ⟨m.g, e' :: e :: s⟩ with
            | some m' => lcL k cv bd gt ge r (i + 1) m'
            | none => none
          | none => none
        else none
      | _ => none
    | _ => none
theorem lcL_ok {J : It} {gT : TG} {tt : TT} {te : TE} {Q : VK} {w : V} (hm : c.md = md) (hT : SGW K md cv gT bd) (hTt : ST K md WF tt gt) (hTe : SE K md WF te ge)
    (stop : ∀ i H Γ τ σ us e ts o, EnvOk K c σ H Γ (e :: τ) (w :: us) → viewE Γ e = some (.nd k o ts) → ts.length = i → J.stop i H)
    (step : ∀ i H Γ τ σ us e ts o e', EnvOk K c σ H Γ (e :: τ) (w :: us) → cpE e = true → viewE Γ e = some (.nd k o ts) → kidX e k o ts i = some e' → i < ts.length → J.go i H ∧ ∀ x H', J.yld i H x H' → H' = H ∧ EnvOk K c σ H Γ (e' :: e :: τ) (x :: w :: us))
    {m : Ms} (E : EnvOk K c (wipe σ cv) H m.g m.s (w :: .ref D :: us)) (hg : lcL k cv bd gt ge n 0 m = some m') (hQ : ∀ H', EnvOk K c (wipe σ cv) H' m'.g m'.s (w :: .ref D :: us) → Q (.ref D) H') :
    ∃ Wv : Nat → Nat → Hp → Prop, (∃ mm, Wv 0 mm H) ∧ ∀ i mm H, Wv i mm H →
      (J.stop i H ∧ Q (.ref D) H) ∨ (J.go i H ∧ ∃ Nx : Hp → Prop, (∀ H', Nx H' → ∃ m', m' < mm ∧ Wv (i + 1) m' H') ∧ ∀ x H', J.yld i H x H' → gT x (wipe σ cv) H' fun σ2 H2 => wipe σ2 cv = wipe σ cv ∧ tt σ2 H2 fun b H3 =>
        if b = true then te σ2 H3 fun y H4 => ∃ acc, H4 D = some (.lst acc) ∧ acc.length < sizeLine ∧ Nx (upd H4 D (.lst (acc ++ [y]))) else Nx H3) := by
  refine ⟨fun i r H => ∃ m : Ms, EnvOk K c (wipe σ cv) H m.g m.s (w :: .ref D :: us) ∧ lcL k cv bd gt ge r i m = some m', ⟨n, m, E, hg⟩, ?_⟩
  rintro i r H ⟨m, E, hg⟩
  cases r with
  | zero =>
    simp only [lcL] at hg
    split at hg
    · rename_i e s hs
      split at hg
      · rename_i k' o ts hv
        split at hg
        · rename_i hl
          cases hg
          obtain ⟨rfl, hl⟩ := hl
          exact .inl ⟨stop i H m'.g s (wipe σ cv) _ e ts o (hs ▸ E) hv hl, hQ H E⟩
        · cases hg
      · cases hg
    · cases hg
  | succ r =>
    simp only [lcL] at hg
    split at hg
    · rename_i e s hs
      split at hg
      · rename_i k' o ts hv
        split at hg
        · rename_i hl
          obtain ⟨rfl, hl⟩ := hl
          split at hg
          · rename_i e' hk
            split at hg
            · rename_i m1 h1
              obtain ⟨go, yld⟩ := step i H m.g s (wipe σ cv) _ e ts o e' (hs ▸ E) hl.1 hv hk (by have := hl.2; omega)
              refine .inr ⟨go, fun H' => ∃ m : Ms, EnvOk K c (wipe σ cv) H' m.g m.s (w :: .ref D :: us) ∧ lcL k' cv bd gt ge r (i + 1) m = some m', fun H' z => ⟨r, by omega, z⟩, fun x H' y => ?_⟩
              obtain ⟨rfl, E1⟩ := yld x H' y
              exact lcTurn_ok (d := 1) hm hT hTt hTe E1 rfl h1 fun H2 E2 => ⟨m1, E2, hg⟩
            · cases hg
          · cases hg
        · cases hg
      · cases hg
    · cases hg
end
section
variable {K : KC} {X : Cx} {T : KT} {md mdc : List Bool} {W : WX} {c : Cz} {σ σ' σ2 : St} {H H' : Hp} {Γ τ τ1 A B P : List Ent} {us us0 us1 vs vs' : List V} {v w : V} {p q : List Nat} {t : Tr} {ts ts' : List Tr} {k k' : Nk} {i j n d h : Nat} {a D : Addr} {en en' : Ent} {o : Ow} {Z : Zn} {ws : List V} {Φ Ψ : Ps} {m m' : Ms} {g ge gt gs ga : GE} {e b tg iter elt : Expr} {ifs : List Expr} {bd : Ms → Option Ms} {cv : List Nat} {gT : TG} {tt : TT} {te : TE} {pos pos' rp : Pos} {scope : Scope} {own : List (Str × Nat)}
theorem allNo_ok : ∀ {cv : List Nat}, allNo Γ cv = true → ∀ i ∈ cv, Γ[i]? = some .no
  | [], _, i, hi => by simp at hi
  | j :: cv, h, i, hi => by
    simp only [allNo, Bool.and_eq_true] at h
    rcases List.mem_cons.mp hi with z | z
    · subst z
      have := h.1
      split at this
      · rename_i h1
        exact h1
      · cases this
    · exact allNo_ok h.2 i z
theorem toW (E : EnvOk K c σ H Γ τ us) (h : allNo Γ cv = true) : EnvOk K c (wipe σ cv) H Γ τ us := by
  refine E.reσ (by rw [wipe_length]) fun i e he => ?_
  by_cases hi : i ∈ cv
  · have := allNo_ok h i hi
    rw [this] at he
    cases he
    exact .inl rfl
  · exact .inr (wipe_get hi)
theorem fromW (E : EnvOk K c (wipe σ cv) H Γ τ us) (h : allNo Γ cv = true) : EnvOk K c σ H Γ τ us := by
  refine E.reσ (by rw [wipe_length]) fun i e he => ?_
  by_cases hi : i ∈ cv
  · have := allNo_ok h i hi
    rw [this] at he
    cases he
    exact .inl rfl
  · exact .inr (wipe_get hi).symm
theorem st_yes : ST K md W tYes (gC (.bl true)) := by
  intro c σ H m us Q rr hc E hg hp
  cases hg
  exact hp H E
/-- [elt for tg in iter if ..]: over a list or tuple -/
def gLc (cv : List Nat) (gs : GE) (bd : Ms → Option Ms) (gt ge : GE) : GE := fun m => match gs m with
  | some (.ok m1) => match ready m1 with
    | some (m2, k, n) => match m2.s with
      | e :: s => if allNo m2.g cv = true then match lcL k cv bd gt ge n 0 ⟨m2.g, e :: .tr (.nd .lst .own []) :: s⟩ with
          | some m3 => if allNo m3.g cv = true then some (.ok ⟨m3.g, m3.s.tail⟩) else none
          | none => none
        else none
      | _ => none
    | none => none
  | some (.ex C g) => some (.ex C g)
  | none => none
theorem EnvOk.empty {s : List Ent} (E : EnvOk K c σ H Γ s us) (hD : H D = none) : EnvOk K c σ (upd H D (.lst [])) Γ (.tr (.nd .lst .own []) :: s) (.ref D :: us) :=
  EnvOk.new (ts := []) (vs := []) (k := .lst) E rfl hD rfl fun o => upd_same
theorem ready_kind {m m' : Ms} (h : ready m = some (m', k, n)) : k = .lst ∨ k = .tup := by
  unfold ready at h
  split at h
  · split at h
    · rename_i hk
      cases h
      exact hk
    · cases h
  · split at h
    · cases h
      exact .inl rfl
    · cases h
  · cases h
theorem stopL {aa : Addr} : ∀ i H Γ τ σ us e ts o, EnvOk K c σ H Γ (e :: τ) (.ref aa :: us) → viewE Γ e = some (.nd .lst o ts) → ts.length = i → (Itl K.K aa).stop i H := fun i H Γ τ σ us e ts o E hv hl => by
  obtain ⟨a', vs', e, ho, hl2⟩ := viewObj E hv
  cases e
  exact ⟨vs', objL ho, by omega⟩
theorem stepL {aa : Addr} : ∀ i H Γ τ σ us e ts o e', EnvOk K c σ H Γ (e :: τ) (.ref aa :: us) → cpE e = true → viewE Γ e = some (.nd .lst o ts) → kidX e .lst o ts i = some e' → i < ts.length → (Itl K.K aa).go i H ∧ ∀ x H', (Itl K.K aa).yld i H x H' → H' = H ∧ EnvOk K c σ H Γ (e' :: e :: τ) (x :: .ref aa :: us) := fun i H Γ τ σ us e ts o e' E hcp hv hk hi => by
  obtain ⟨a', vs', w', e, ho, hl2, hw, E3⟩ := EnvOk.kidX E (cpE_tr hcp) hv hk
  cases e
  refine ⟨⟨vs', w', objL ho, hw⟩, fun x H' y => ?_⟩
  obtain ⟨rfl, y⟩ := y
  have := y vs' (objL ho)
  rw [hw] at this
  cases this
  exact ⟨rfl, E3⟩
theorem stopT {aa : Addr} : ∀ i H Γ τ σ us e ts o, EnvOk K c σ H Γ (e :: τ) (.ref aa :: us) → viewE Γ e = some (.nd .tup o ts) → ts.length = i → (Itt K.K aa).stop i H := fun i H Γ τ σ us e ts o E hv hl => by
  obtain ⟨a', vs', e, ho, hl2⟩ := viewObj E hv
  cases e
  exact ⟨vs', objT ho, by omega⟩
theorem stepT {aa : Addr} : ∀ i H Γ τ σ us e ts o e', EnvOk K c σ H Γ (e :: τ) (.ref aa :: us) → cpE e = true → viewE Γ e = some (.nd .tup o ts) → kidX e .tup o ts i = some e' → i < ts.length → (Itt K.K aa).go i H ∧ ∀ x H', (Itt K.K aa).yld i H x H' → H' = H ∧ EnvOk K c σ H Γ (e' :: e :: τ) (x :: .ref aa :: us) := fun i H Γ τ σ us e ts o e' E hcp hv hk hi => by
  obtain ⟨a', vs', w', e, ho, hl2, hw, E3⟩ := EnvOk.kidX E (cpE_tr hcp) hv hk
  cases e
  refine ⟨⟨vs', w', objT ho, hw⟩, fun x H' y => ?_⟩
  obtain ⟨rfl, y⟩ := y
  have := y vs' (objT ho)
  rw [hw] at this
  cases this
  exact ⟨rfl, E3⟩
theorem se_lc {tl : TE} (si : SE K md W tl gs) (hT : SGW K md cv gT bd) (hTt : ST K md WF tt gt) (hTe : SE K md WF te ge) : SE K md W (tLc (fun σ H R => iList K.K tl σ H R ∨ iTup K.K tl σ H R) gT tt te cv) (gLc cv gs bd gt ge) := by
  intro c σ H m us Q rr hm E hg hp
  simp only [gLc] at hg
  split at hg
  · rename_i m1 h1
    split at hg
    · rename_i m2 k n h2
      split at hg
      · rename_i e s hs
        split at hg
        · rename_i hn1
          split at hg
          · rename_i m3 h3
            split at hg
            · rename_i hn2
              cases hg
              rcases ready_kind h2 with rfl | rfl
              · refine .inl (si c σ H m us _ _ hm E h1 fun x H1 E1 => ?_)
                obtain ⟨E2, e2, s2, o, ts, hs2, hv, _⟩ := ready_ok E1 h2
                rw [hs] at hs2
                cases hs2
                rw [hs] at E2
                obtain ⟨aa, vs, rfl, ho, _⟩ := viewObj E2 hv
                refine ⟨aa, rfl, ⟨vs, objL ho⟩, fun D hD => ?_⟩
                have E3 := EnvOk.swap2 ((toW E2 hn1).empty hD)
                exact lcL_ok hm hT hTt hTe stopL stepL (m := ⟨m2.g, e :: .tr (.nd .lst .own []) :: s⟩) E3 h3 fun H' E4 => hp _ H' (fromW E4 hn2).tail
              · refine .inr (si c σ H m us _ _ hm E h1 fun x H1 E1 => ?_)
                obtain ⟨E2, e2, s2, o, ts, hs2, hv, _⟩ := ready_ok E1 h2
                rw [hs] at hs2
                cases hs2
                rw [hs] at E2
                obtain ⟨aa, vs, rfl, ho, _⟩ := viewObj E2 hv
                refine ⟨aa, rfl, ⟨vs, objT ho⟩, fun D hD => ?_⟩
                have E3 := EnvOk.swap2 ((toW E2 hn1).empty hD)
                exact lcL_ok hm hT hTt hTe stopT stepT (m := ⟨m2.g, e :: .tr (.nd .lst .own []) :: s⟩) E3 h3 fun H' E4 => hp _ H' (fromW E4 hn2).tail
            · cases hg
          · cases hg
        · cases hg
      · cases hg
    · cases hg
  · rename_i h1
    cases hg
    exact .inl (si c σ H m us _ _ hm E h1 hp)
  · cases hg
end
section
variable {K : KC} {X : Cx} {T : KT} {md mdc : List Bool} {W : WX} {c : Cz} {σ σ' σ2 : St} {H H' : Hp} {Γ τ : List Ent} {us vs : List V} {v w : V} {i j n : Nat} {m m' : Ms} {g ge gt gs ga gk : GE} {e b tg iter elt cnd : Expr} {es : List Expr} {pos pos' rp : Pos} {scope : Scope} {x y : Str} {G : GF} {kk : Nat} {f C : Addr} {fd : FuncData} {ps : List Str} {pp apos : Pos} {me : Str} {is : List Nat}
theorem se_wp : SE K md W (wpE K md W g) g := fun c σ H m us Q r hc E hg hp => ⟨c, m, us, r, hc, E, hg, hp⟩
theorem st_wp : ST K md W (wpT K md W g) g := fun c σ H m us Q r hc E hg hp => ⟨c, m, us, r, hc, E, hg, hp⟩
/-! comprehensions -/
theorem me_lc (hs : ME X T md W iter gs) (ok : BlkOk X.N X.env.scope scope [(x, i)]) (hg : ∀ (s : Shared) (H : Hp) (C : Addr) (cl : List (Str × Addr)) (fp : List Addr), PG (X.blk s H scope (compEnvC scope cl C X.env) fp) tg (gName i))
    (ht : ∀ (s : Shared) (H : Hp) (C : Addr) (cl : List (Str × Addr)) (fp : List Addr), MT (X.blk s H scope (compEnvC scope cl C X.env) fp) T md WF cnd gt) (he : ∀ (s : Shared) (H : Hp) (C : Addr) (cl : List (Str × Addr)) (fp : List Addr), ME (X.blk s H scope (compEnvC scope cl C X.env) fp) T md WF elt ge)
    (hc : X.calm = true) (hN : X.N.Nodup) (hf : ∀ x, foldedSetIterable iter X.env x = pure x := by intro _; rfl) : ME X T md W (.ListComp elt [⟨tg, iter, [cnd], 0⟩] scope pos) (gLc [i] gs (bind md i) gt ge) := by
  obtain ⟨ti, pi, si⟩ := hs
  exact ⟨_, pe_lc (te := wpE (kcm X.K T) md WF ge) (tt := wpT (kcm X.K T) md WF gt) hc hN (PI.or (pi_list pi) (pi_tup pi)) ok hg (fun s H C cl fp => pts_one (ht s H C cl fp).pt) (fun s H C cl fp => (he s H C cl fp).pe) hf, se_lc si sgw_name st_wp se_wp⟩
/-- a statement by its own rule, from a value's term: the rule of the statement, and the machine's term of the value -/
theorem ms_asgOf {st : Stmt} {te : TE} (hp : PS X st (tAsg te (gName i))) (s : SE (kcm X.K T) md W te ge) : MS X T md W st (sSet md i ge) := ⟨_, hp, ss_set s⟩
/-! calls that let nothing out -/
def noEx (g : GE) : GE := fun m => match g m with
  | some (.ok m') => some (.ok m')
  | _ => none
theorem noEx_ok {R : St → List V → Hp → VK → Prop} (h : RA K md WF n R g) : RA K md W n R (noEx g) := by
  intro c σ H m us vs Q rr hc hl E hf hp
  unfold noEx at hf
  split at hf
  · rename_i m2 h2
    cases hf
    exact h c σ H m us vs Q (.ok m2) hc hl E h2 hp
  · cases hf
theorem spOf_E0 (hin : ∀ i ∈ is, i < n) (hpw : is.reverse.Pairwise (· > ·)) : RA K md W n (fun _ vs H Q => spOf K mdc G vs H Q E0) (noEx (gCall is mdc G n)) := noEx_ok (gCall_ok (W := WF) hin hpw)
theorem me_call0 (F : FnOk X.prog X.w X.K X.mg X.base (L2N.CX X.prog X.w) kk f fd ps (spOf (kcm X.K T) mdc G)) (hr : Room kk X.A) (hg : Gl X x) (hm : X.mg x = some (.ref f)) (hk : PySem.W.keepIn X.K (.ref f) = true) (hb : Binds X.K fd ps [])
    (hdb : (x == ("__debug__" : Str)) = false := by decide) : ME X T md W (.Call (.Name x pp) [] [] pos) (noEx (gCall [] mdc G 0)) := by
  refine ⟨_, pe_call0 F hr hg hm hk hb .nil passL hdb, fun c σ H m us Q rr hc E hg hp => ?_⟩
  exact spOf_E0 (by simp) (by simp) c σ H m us [] Q rr hc rfl E hg hp
theorem me_make (M : Mk X.K (T.ct n) f) (F : FnOk X.prog X.w X.K X.mg X.base (L2N.CX X.prog X.w) kk f fd ps (spOf (kcm X.K T) (true :: mdc) G)) (hr : Room (kk + 1) X.A) (hg : Gl X x) (hm : X.mg x = some (.ref (T.ct n))) (hb : Binds X.K fd ps []) (ha : MA X T md W (e :: es) ga)
    (hdb : (x == ("__debug__" : Str)) = false := by decide) (he : starEach (e :: es) X.env = (false, eval e X.env) :: starEach es X.env := by rfl) (hpl : (backTo pos (starEach es X.env)).any (·.1) = false := by rfl) :
    ME X T md W (.Call (.Name x pp) (e :: es) [] pos) (gSeq ga (noEx (gMake n mdc G (e :: es).length))) := by
  obtain ⟨t, pa, sa⟩ := ha
  refine ⟨_, pe_make M F hr hg hm hb .nil passL pa hdb he hpl, ?_⟩
  refine seqA sa (noEx_ok (R := fun _ vs H1 Q => ∀ x dx, H1 x = none → H1 dx = none → dx ≠ x → spOf (kcm X.K T) (true :: mdc) G (.ref x :: (vs ++ [])) (upd (upd H1 dx (.own x)) x (.ins (T.ct n) dx [])) (fun v H2 => v = .non ∧ Q (.ref x) H2) E0) ?_)
  intro c σ H m us vs Q rr hc hl E hf hp xa dx h1 h2 h3
  rw [List.append_nil]
  exact gMake_ok E hl hf hp (fun _ _ h => h) h1 h2 h3
end
/-! static methods and class constants, read off the class -/
structure SMet (K : PySem.W.Frag) (C : Addr) (m : Str) (g : Addr) : Prop where
  rd : ClX.CRead K C (.type "type")
  at_ : ∃ p rest, PySem.W.findCls K (.ref C) (.type "type") m = some (.get (.builtin "staticmethod.__get__") (.ref p) .none (.ref C)) ∧ PySem.W.recIn K p "staticmethod" = some (.ref g :: rest)
  kp : PySem.W.keepIn K (.ref g) = true
def tSMeth (C : Addr) (sp : Sp) (dvs : List V) (E : XK) (ta : TE) (t : TA) : TE := fun σ H Q => ta σ H fun x H1 => x = .ref C ∧ t σ H1 fun vs H2 => sp (vs ++ dvs) H2 Q E
section
variable {X : Cx} {CX : CXT} {k : Nat} {C g : Addr} {sp : Sp} {E : XK} {o e : Expr} {es : List Expr} {m : Str} {pos apos : Pos} {ta : TE} {t : TA} {pl : Sem Bool} {fd : FuncData} {ps : List Str} {ds : List Value} {dvs : List V}
theorem pe_smeth (he : PE X o ta) (c : SMet X.K C m g) (F : FnOk X.prog X.w X.K X.mg X.base CX k g fd ps sp) (hr : Room k X.A) (hb : Binds X.K fd ps ds) (hd : Vals dvs ds) (hx : Passes CX X E) (ha : PA X (e :: es) t)
    (hst : starEach (e :: es) X.env = (false, eval e X.env) :: starEach es X.env := by rfl) (hpl : (backTo pos (starEach es X.env)).any (·.1) = false := by rfl)
    (ht : eval (.Call (.Attribute o m apos) (e :: es) [] pos) X.env = (do
      let ov ← eval o X.env
      standAt apos.atName
      let (f, first) ← holding [ov] (getMethod ov m pl)
      callWith pos f first (backTo pos (starEach (e :: es) X.env)) (backToKw pos (keywordEach [] X.env))) := by rfl) :
    PE X (.Call (.Attribute o m apos) (e :: es) [] pos) (tSMeth C sp dvs E ta t) := by
  refine ⟨fun pins s σ H Q I h => ?_⟩
  refine PySem.W.methodCall_KW (pl := pl) (thn (he.run pins s σ H _ I h) fun u s1 ⟨x, H1, I1, rx, ex, q⟩ => ?_) ht
  subst ex
  obtain rfl : u = Value.ref C := rx
  obtain ⟨p, rest, h1, h2⟩ := c.at_
  refine PySem.W.method_cls I1.kIn c.rd.ga (PySem.W.cls_bind I1.kIn c.rd.rd h1 (wpAny_call (PySem.W.sm_get (s := { s1 with toks := s1.toks + 1 }) I1.kIn h2 (PySem.W.handed_on rfl ?_))))
  have I2 := I1.tok (s1.toks + 1)
  refine PySem.W.callWith_K (h₀ := X.base) I2.ok.mod.kin c.kp (thn (ha.run pos pins _ σ H1 _ I2 q) fun us s3 ⟨vs, H2, I3, rv, q2⟩ => ⟨I3.kIn, ?_⟩) hst hpl
  exact run_fn F hr hb hd hx I3 rv q2
end
theorem kit_true {K : PySem.W.Frag} {C D : Addr} (hd : PySem.W.hasDictIn K D = true) (ht : PySem.W.typeIn K (.ref D) = some (.type "type")) (h : PySem.W.subIn K (.ref C) (.ref D) = some true) : PySem.W.kitOne K (.ref C) (.ref D) = some true := by
  unfold PySem.W.kitOne
  split
  · rfl
  · obtain ⟨cd, hc, _⟩ := PySem.W.any_some hd
    show (if ((PySem.W.clsIn K D).isSome && PySem.W.typeIn K (.ref D) == some (.type "type")) = true then PySem.W.subIn K (.ref C) (.ref D) else none) = _
    have e2 : ((PySem.W.clsIn K D).isSome && PySem.W.typeIn K (.ref D) == some (.type "type")) = true := by rw [hc, ht] <;> rfl
    rw [if_pos e2]
    exact h
theorem kit_false {K : PySem.W.Frag} {C D : Addr} (hd : PySem.W.hasDictIn K D = true) (ht : PySem.W.typeIn K (.ref D) = some (.type "type")) (h : PySem.W.subIn K (.ref C) (.ref D) = some false) (hs : PySem.W.subIn K (.ref C) (.ref C) = some true) : PySem.W.kitOne K (.ref C) (.ref D) = some false := by
  unfold PySem.W.kitOne
  split
  · rename_i q
    have e : C = D := Value.ref.inj (beq_iff_eq.mp q)
    rw [← e, hs] at h
    cases h
  · obtain ⟨cd, hc, _⟩ := PySem.W.any_some hd
    show (if ((PySem.W.clsIn K D).isSome && PySem.W.typeIn K (.ref D) == some (.type "type")) = true then PySem.W.subIn K (.ref C) (.ref D) else none) = _
    have e2 : ((PySem.W.clsIn K D).isSome && PySem.W.typeIn K (.ref D) == some (.type "type")) = true := by rw [hc, ht] <;> rfl
    rw [if_pos e2]
    exact h
theorem kit_type {K : PySem.W.Frag} {C : Addr} {S : String} {b : Bool} (hm : PySem.W.kitMeta S = true) (h : PySem.W.subIn K (.ref C) (.type S) = some b) : PySem.W.kitOne K (.ref C) (.type S) = some b := by
  show (if (Value.ref C == Value.type S) = true then _ else if PySem.W.kitMeta S = true then PySem.W.subIn K (.ref C) (.type S) else none) = some b
  rw [if_neg (by intro q; cases (beq_iff_eq.mp q)), if_pos hm]
  exact h
section
variable {K : KC} {X : Cx} {T : KT} {md mdc : List Bool} {W : WX} {c : Cz} {σ σ' σ2 : St} {H H' : Hp} {Γ τ : List Ent} {us vs : List V} {v w : V} {i j n : Nat} {m m' : Ms} {g ge gt gs ga gk gv go gi fo : GE} {gb : GS} {e b tg iter elt cnd oe ie : Expr} {es : List Expr} {pos pos' rp tpos : Pos} {x y : Str} {G : GF} {kk : Nat} {f C : Addr} {fd : FuncData} {ps : List Str} {pp apos : Pos} {me fl : Str} {is : List Nat} {pl : Sem Bool} {ts : List Tr} {t : Tr} {sts : List Stmt} {st : Stmt}
/-! static methods -/
theorem me_smeth (he : PE X oe (tC (.ref C))) (cm : SMet X.K C me f) (F : FnOk X.prog X.w X.K X.mg X.base (L2N.CX X.prog X.w) kk f fd ps (spOf (kcm X.K T) mdc G)) (hr : Room kk X.A) (hb : Binds X.K fd ps []) (ha : MA X T md W (e :: es) ga) (hin : ∀ i ∈ is, i < (e :: es).length) (hpw : is.reverse.Pairwise (· > ·))
    (hst : starEach (e :: es) X.env = (false, eval e X.env) :: starEach es X.env := by rfl) (hpl : (backTo pos (starEach es X.env)).any (·.1) = false := by rfl)
    (ht : eval (.Call (.Attribute oe me apos) (e :: es) [] pos) X.env = (do let ov ← eval oe X.env; standAt apos.atName; let (f, first) ← holding [ov] (getMethod ov me pl); callWith pos f first (backTo pos (starEach (e :: es) X.env)) (backToKw pos (keywordEach [] X.env))) := by rfl) :
    ME X T md W (.Call (.Attribute oe me apos) (e :: es) [] pos) (gSeq ga (noEx (gCall is mdc G (e :: es).length))) := by
  obtain ⟨t, pa, sa⟩ := ha
  refine ⟨_, pe_smeth he cm F hr hb .nil passL pa hst hpl ht, fun c σ H m us Q rr hc E hg hp => ⟨rfl, ?_⟩⟩
  have := seqA sa (spOf_E0 (mdc := mdc) (G := G) (W := W) hin hpw) c σ H m us Q rr hc E hg hp
  simpa using this
/-! several names at once -/
def bindAll (md : List Bool) : List Nat → Ms → Option Ms
  | [], m => some m
  | i :: is, m => match bind md i m with
    | some m' => bindAll md is m'
    | none => none
def unpkP (md : List Bool) : List Nat → Nat → Ms → Option Ms
  | [], _, m => some ⟨m.g, m.s.tail⟩
  | i :: is, j, m => match m.s with
    | .al p :: s => match getG m.g p with
      | some (.nd .lst .own ts) => match kidX (.al p) .lst .own ts j with
        | some e' => match bind md i ⟨m.g, e' :: .al p :: s⟩ with
          | some m' => unpkP md is (j + 1) m'
          | none => none
        | none => none
      | _ => none
    | _ => none
def unpk (md : List Bool) (is : List Nat) : Ms → Option Ms := fun m => match m.s with
  | .tr (.nd k o ts) :: s => if (k = .lst ∨ k = .tup) ∧ ts.length = is.length then bindAll md is ⟨m.g, (ts.map (kid o)).map Ent.tr ++ s⟩ else none
  | .al p :: s => match getG m.g p with
    | some (.nd .lst .own ts) => if ts.length = is.length then unpkP md is 0 ⟨m.g, .al p :: s⟩ else none
    | _ => none
  | _ => none
theorem zip_rev {α β : Type} : ∀ {l : List α} {r : List β}, l.length = r.length → l.reverse.zip r.reverse = (l.zip r).reverse
  | [], [], _ => rfl
  | a :: l, b :: r, h => by
    rw [List.reverse_cons, List.reverse_cons, List.zip_cons_cons, List.reverse_cons, List.zip_append (by simpa using h), zip_rev (by simpa using h)]
    rfl
theorem EnvOk.revs {s : List Ent} (hl : ts.length = vs.length) (E : EnvOk K c σ H Γ (ts.reverse.map Ent.tr ++ s) (vs.reverse ++ us)) : EnvOk K c σ H Γ (ts.map Ent.tr ++ s) (vs ++ us) := by
  have lt : s.length = us.length := by
    have := tail_len E
    simp at this
    omega
  have h := EnvOk.perm (K := K) (c := c) (σ := σ) (H := H) (Γ := Γ) (l := (ts.map Ent.tr).reverse.zip vs.reverse ++ s.zip us) (l' := (ts.map Ent.tr).zip vs ++ s.zip us) (by
    refine List.Perm.append_right _ ?_
    rw [zip_rev (by simpa using hl)]
    exact List.reverse_perm _)
  have l1 : (ts.map Ent.tr).length = vs.length := by simpa using hl
  simp only [List.map_append, List.map_fst_zip (Nat.le_of_eq l1), List.map_snd_zip (Nat.le_of_eq l1.symm), List.map_fst_zip (Nat.le_of_eq lt), List.map_snd_zip (Nat.le_of_eq lt.symm)] at h
  rw [List.map_fst_zip (by simp; omega), List.map_snd_zip (by simp; omega)] at h
  exact h (by simpa using E)
theorem PG.or {t1 t2 : TG} (h1 : PG X tg t1) (h2 : PG X tg t2) : PG X tg (fun v σ H Q => t1 v σ H Q ∨ t2 v σ H Q) := by
  refine ⟨fun pins s σ H v u Q I r h => ?_⟩
  rcases h with h | h
  · exact h1.run pins s σ H v u Q I r h
  · exact h2.run pins s σ H v u Q I r h
/-- target = e, by the target's machine -/
def sAsg (ge : GE) (bd : Ms → Option Ms) : GS := fun m => match ge m with
  | some (.ok m1) => match bd m1 with
    | some m2 => some (.nx m2)
    | none => none
  | some (.ex C g) => some (.ex C g)
  | none => none
/-- a, b = x, y -/
def sPar (md : List Bool) (i j : Nat) (ga : GE) : GS := fun m => match ga m with
  | some (.ok ⟨g', y :: x :: s⟩) => match bindAll md [i, j] ⟨g', x :: y :: s⟩ with
    | some m2 => some (.nx m2)
    | none => none
  | some (.ex C g) => some (.ex C g)
  | _ => none
/-! raise -/
def sRaise (C : Nat) : GS := fun m => some (.ex C m.g)
theorem ms_raise {n : Nat} (hc : X.calm = true) (tk : Takes X W) (he : PMk X e (fun _ H Q => Q (.ref (T.et n)) none H)) : MS X T md W (.Raise (some e) none pos) (sRaise n) := by
  refine ⟨_, L2N.ps_raise hc tk he, fun c σ H m us D o hc E hg hp => ?_⟩
  cases hg
  exact hp σ H E.dropAll
end
section
variable {K : KC} {X : Cx} {T : KT} {md mdc : List Bool} {W : WX} {c : Cz} {σ σ' σ2 : St} {H H' : Hp} {Γ τ : List Ent} {us vs : List V} {v w : V} {i j n : Nat} {m m' : Ms} {g ge gt gs ga gk gv go gi fo : GE} {gb : GS} {e b oe ie : Expr} {es : List Expr} {pos pos' rp tpos : Pos} {fl : Str} {tab : List (Nat × Nat)} {op : Operator}
/-! o.f op= e -/
def sFAug (tab : List (Nat × Nat)) (go gv fo : GE) : GS := fun m => match go m with
  | some (.ok ⟨g1, .al p :: s1⟩) => match getG g1 p with
    | some (.nd (.ins n k) .own ts) => match tab.lookup n with
      | some j => match ts[j]? with
        | some (.a u) => match gv ⟨g1, .tr (.a u) :: .al p :: s1⟩ with
          | some (.ok m2) => match fo m2 with
            | some (.ok ⟨g3, .tr (.a z) :: e3 :: s3⟩) => match viewE g3 e3 with
              | some (.nd (.ins n' _) _ _) => if n' = n then match stFld tab ⟨g3, e3 :: .tr (.a z) :: s3⟩ with
                  | some m4 => some (.nx m4)
                  | none => none
                else none
              | _ => none
            | _ => none
          | some (.ex C g) => some (.ex C g)
          | none => none
        | _ => none
      | none => none
    | _ => none
  | some (.ex C g) => some (.ex C g)
  | _ => none
/-! o[i] op= e, of a list -/
def sSAug (go gi gv fo : GE) : GS := fun m => match gSeq go gi m with
  | some (.ok ⟨g1, .tr (.a (.int x)) :: .al p :: s1⟩) => match getG g1 p with
    | some (.nd .lst .own ts) => match ixN ts.length x with
      | some j => match ts[j]? with
        | some (.a u) => match gv ⟨g1, .tr (.a u) :: .tr (.a (.int x)) :: .al p :: s1⟩ with
          | some (.ok m2) => match fo m2 with
            | some (.ok ⟨g3, .tr (.a z) :: e3 :: e4 :: s3⟩) => match stSub ⟨g3, e3 :: e4 :: .tr (.a z) :: s3⟩ with
              | some m4 => some (.nx m4)
              | none => none
            | _ => none
          | some (.ex C g) => some (.ex C g)
          | none => none
        | _ => none
      | none => none
    | _ => none
  | some (.ex C g) => some (.ex C g)
  | _ => none
end
section
variable {K : KC} {X : Cx} {T : KT} {md mdc : List Bool} {W : WX} {c : Cz} {σ : St} {H : Hp} {us : List V} {i n j : Nat} {m : Ms} {g ga gb gc ge gt gs f f' : GE} {e a b cc tg iter elt cnd : Expr} {pos pos' rp py spos : Pos} {scope : Scope} {x y fl : Str} {r r' : R2} {tab : List (Nat × Nat)} {Kf : PySem.W.Frag}
theorem FldOk.nil : FldOk Kf T fl [] := fun n j h => by simp at h
theorem FldOk.cons (h1 : Cls Kf (T.ct n)) (h2 : NoAttr Kf (T.ct n) fl) (h3 : (T.nm n).idxOf? fl = some j) (h : FldOk Kf T fl tab) : FldOk Kf T fl ((n, j) :: tab) := fun n' j' q => by
  rcases List.mem_cons.mp q with z | z
  · cases z
    exact ⟨h1, h2, h3⟩
  · exact h n' j' z
/-! a < b < c -/
def gChain (ga gb f gc f' : GE) : GE := fun m => match gSeq ga gb m with
  | some (.ok ⟨g1, .tr (.a v) :: s1⟩) => match f ⟨g1, .tr (.a v) :: s1⟩ with
    | some (.ok ⟨g2, .tr (.a (.bl true)) :: s2⟩) => match gc ⟨g2, .tr (.a v) :: s2⟩ with
      | some (.ok m3) => f' m3
      | some (.ex C g) => some (.ex C g)
      | none => none
    | some (.ok ⟨g2, .tr (.a (.bl false)) :: s2⟩) => some (.ok ⟨g2, .tr (.a (.bl false)) :: s2⟩)
    | _ => none
  | some (.ex C g) => some (.ex C g)
  | _ => none
theorem se_chain {ta tb tc : TE} (sa : SE K md W ta ga) (sb : SE K md W tb gb) (hf : RA2 K md W r f) (sc : SE K md W tc gc) (hf' : RA2 K md W r' f') : SE K md W (tChain r r' ta tb tc) (gChain ga gb f gc f') := by
  intro c σ H m us Q rr hc E hg hp
  simp only [gChain] at hg
  cases e1 : ga m with
  | none => simp [gSeq, e1] at hg
  | some r1 =>
    cases r1 with
    | ex C g' =>
      simp only [gSeq, e1] at hg
      cases hg
      exact sa c σ H m us _ _ hc E e1 hp
    | ok m1 =>
      simp only [gSeq, e1] at hg
      refine sa c σ H m us _ _ hc E e1 fun x H1 E1 => ?_
      split at hg
      · rename_i g1 v s1 h1
        refine sb c σ H1 m1 _ _ _ hc E1 h1 fun y H2 E2 => ?_
        have E2 : EnvOk K c σ H2 g1 (.tr (.a v) :: s1) (y :: x :: us) := E2
        have ey := top_a E2
        subst ey
        split at hg
        · rename_i g2 s2 h2
          refine hf.use hc E2 h2 fun z H3 E3 => ⟨true, top_bl E3, iteT ?_⟩
          have E4 : EnvOk K c σ H3 g2 (.tr (.a y) :: s2) (y :: us) := E3.drop.atom y
          split at hg
          · rename_i m3 h3
            exact sc c σ H3 ⟨g2, _⟩ _ _ _ hc E4 h3 fun w H4 E5 => hf'.use hc E5 hg hp
          · rename_i h3
            cases hg
            exact sc c σ H3 ⟨g2, _⟩ _ _ _ hc E4 h3 hp
          · cases hg
        · rename_i g2 s2 h2
          cases hg
          exact hf.use hc E2 h2 fun z H3 E3 => ⟨false, top_bl E3, iteF (hp _ _ (top_bl E3 ▸ E3))⟩
        · cases hg
      · rename_i h1
        cases hg
        exact sb c σ H1 m1 _ _ _ hc E1 h1 hp
      · cases hg
theorem mt_chain (ha : ME X T md W a ga) (hb : ME X T md W b gb) (hf : RA2 (kcm X.K T) md W r f) (hcc : ME X T md W cc gc) (hf' : RA2 (kcm X.K T) md W r' f') (hp : ∀ {ta tb tc : TE}, PE X a ta → PE X b tb → PE X cc tc → PT X e (tTest (tChain r r' ta tb tc))) : MT X T md W e (gChain ga gb f gc f') := by
  obtain ⟨ta, pa, sa⟩ := ha
  obtain ⟨tb, pb, sb⟩ := hb
  obtain ⟨tc, pc, sc⟩ := hcc
  exact ⟨_, hp pa pb pc, st_of (se_chain sa sb hf sc hf')⟩
/-! name = [..] -/
theorem ms_lc {k : Nat} (hs : ME X T md W iter gs) (ok : BlkOk X.N X.env.scope scope [(x, i)]) (hg : ∀ (s : Shared) (H : Hp) (C : Addr) (cl : List (Str × Addr)) (fp : List Addr), PG (X.blk s H scope (compEnvC scope cl C X.env) fp) tg (gName i))
    (ht : ∀ (s : Shared) (H : Hp) (C : Addr) (cl : List (Str × Addr)) (fp : List Addr), MT (X.blk s H scope (compEnvC scope cl C X.env) fp) T md WF cnd gt) (he : ∀ (s : Shared) (H : Hp) (C : Addr) (cl : List (Str × Addr)) (fp : List Addr), ME (X.blk s H scope (compEnvC scope cl C X.env) fp) T md WF elt ge)
    (hc : X.calm = true) (hN : X.N.Nodup) (hy : X.N[k]? = some y) (hyl : X.env.scope.names.lookup y = some .local) (hsw : swapsWith (.ListComp elt [⟨tg, iter, [cnd], 0⟩] scope pos) (some (.Name y py)) spos.line X.env = pure true) (hf : ∀ x, foldedSetIterable iter X.env x = pure x := by intro _; rfl) :
    MS X T md W (.Assign [.Name y py] (.ListComp elt [⟨tg, iter, [cnd], 0⟩] scope pos) spos) (sSet md k (gLc [i] gs (bind md i) gt ge)) := by
  obtain ⟨ti, pi, si⟩ := hs
  exact ms_asgOf (ps_setLc (te := wpE (kcm X.K T) md WF ge) (tt := wpT (kcm X.K T) md WF gt) hc hN hy hyl hsw (PI.or (pi_list pi) (pi_tup pi)) ok hg (fun s H C cl fp => pts_one (ht s H C cl fp).pt) (fun s H C cl fp => (he s H C cl fp).pe) hf) (se_lc si sgw_name st_wp se_wp)
def fAddI : GE := fP2 (FI cT fun i j => .int (i + j))
def fSubI : GE := fP2 (FI cT fun i j => .int (i - j))
end
section
variable {K : KC} {X : Cx} {T : KT} {md mdc : List Bool} {W : WX} {c : Cz} {σ : St} {H : Hp} {us : List V} {i n j : Nat} {m : Ms} {g : GE} {e : Expr} {fl : Str} {tab : List (Nat × Nat)} {gT : TG} {tt : TT} {tk tv : TE} {cv : List Nat}
theorem PE.or {t1 t2 : TE} (h1 : PE X e t1) (h2 : PE X e t2) : PE X e (fun σ H Q => t1 σ H Q ∨ t2 σ H Q) := by
  refine ⟨fun pins s σ H Q I h => ?_⟩
  rcases h with h | h
  · exact h1.run pins s σ H Q I h
  · exact h2.run pins s σ H Q I h
/-- {.. for n in x.f}, the dict x.f being empty -/
def gDc0 (i : Nat) (tab : List (Nat × Nat)) : GE := fun m => match gSeq (gVar i) (fFld tab) m with
  | some (.ok ⟨_, e :: _⟩) => match viewE m.g e with
    | some (.nd (.dct []) _ []) => some (.ok ⟨m.g, .tr (.nd (.dct []) .own []) :: m.s⟩)
    | _ => none
  | _ => none
/-- {} -/
def gD0 : GE := fun m => some (.ok ⟨m.g, .tr (.nd (.dct []) .own []) :: m.s⟩)
end
section
variable {K : KC} {X : Cx} {T : KT} {md mdc : List Bool} {W : WX} {c : Cz} {σ : St} {H H' : Hp} {Γ τ : List Ent} {us vs ws wq : List V} {v w wp : V} {p q r : List Nat} {t : Tr} {ts : List Tr} {i j n : Nat} {Z : Zn} {qs : List (List Nat)}
/-! defs that keep the addresses below a parameter of their own: ghosts are aliases that lie at the bottom of the stack -/
abbrev GG := List Tr → List (List Nat) → Option (Rt × List Ent)
variable {P : Program} {Wd : World} {Kf : PySem.W.Frag} {mg : Str → Option Value} {base : Heap}
end
section
variable {K : KC} {X : Cx} {T : KT} {md mdc : List Bool} {W : WX} {c : Cz} {σ : St} {H H' : Hp} {Γ τ : List Ent} {us vs ws wq : List V} {v w wp : V} {p q r : List Nat} {t : Tr} {ts : List Tr} {i j n : Nat} {Z : Zn} {qs : List (List Nat)} {Φ Ψ : Ps} {m m' : Ms} {G : GG}
variable {x me : Str} {pp pos apos : Pos} {e oe : Expr} {es : List Expr} {ga go : GE} {kk : Nat} {f C : Addr} {fd : FuncData} {ps : List Str} {pl : Sem Bool}
end
section
variable {K : KC} {X : Cx} {T : KT} {md : List Bool} {W : WX} {c : Cz} {σ : St} {H H' : Hp} {Γ τ : List Ent} {us vs : List V} {v w : V} {p q : List Nat} {t : Tr} {ts ts' : List Tr} {i j : Nat} {ks : List Key} {k : Key}
variable {g : GS} {gi go gv ga gb : GE} {e a b o ie : Expr} {pos pos' : Pos}
/-! dicts by int and str keys: reads and stores -/
def keyOf : V → Option Key
  | .int i => some (.inl i)
  | .str s => some (.inr s)
  | _ => none
theorem keyOf_kV (h : keyOf v = some k) : v = kV k := by
  cases v <;> simp [keyOf] at h <;> subst h <;> rfl
def kix (k : Key) : List Key → Option Nat
  | [] => none
  | x :: ks => if x = k then some 0 else (kix k ks).map (· + 1)
theorem kix_at : ∀ {ks : List Key} {j : Nat}, kix k ks = some j → ks[j]? = some k
  | [], _, h => by simp [kix] at h
  | x :: ks, j, h => by
    simp only [kix] at h
    split at h
    · rename_i e
      cases h
      simp [e]
    · simp only [Option.map_eq_some_iff] at h
      obtain ⟨j', h1, rfl⟩ := h
      simpa using kix_at h1
theorem kix_none : ∀ {ks : List Key}, kix k ks = none → k ∉ ks
  | [], _ => by simp
  | x :: ks, h => by
    simp only [kix] at h
    split at h
    · cases h
    · rename_i e
      have := kix_none (by simpa using h)
      simp [this, Ne.symm e]
theorem valV_zip : ∀ {ks : List Key} {vs : List V} {j : Nat}, kix k ks = some j → ks.length = vs.length → valV (ks.zip vs) k = vs[j]?
  | [], _, _, h, _ => by simp [kix] at h
  | x :: ks, [], _, _, l => by simp at l
  | x :: ks, y :: vs, j, h, l => by
    simp only [kix] at h
    rw [List.zip_cons_cons]
    by_cases e : x = k
    · rw [if_pos e] at h
      cases h
      rw [valV_pos e]
      rfl
    · rw [if_neg e] at h
      simp only [Option.map_eq_some_iff] at h
      obtain ⟨j', h1, rfl⟩ := h
      rw [valV_neg e, valV_zip h1 (by simpa using l)]
      simp
def rIxD : R2 := fun x y H Q => ∃ a v, x = .ref a ∧ DGet H a y (some v) ∧ Q v H
theorem ix_dict (hu : X.A.units + 1 < cLine) : IxR X rIxD := by
  intro value slice pins s σ H x y v u Q I rx ry h hs
  obtain ⟨a, w, rfl, g, q⟩ := h
  cases rx
  exact PyProof.Rows.tail_any (dict_typeIs I g) PySem.F.slot_dict_getitem.lookup (d_getItem hu I g ry fun w' s3 I3 rw' => ⟨w, H, I3, rw', q⟩) hs
def fIxK : GE := fun m => match m.s with
  | .tr (.a y) :: e :: s => match viewE m.g e with
    | some (.nd (.dct ks) o ts) => match keyOf y with
      | some k => match kix k ks with
        | some j => match kidE e (.dct ks) o ts j with
          | some e' => some (.ok ⟨m.g, e' :: s⟩)
          | none => none
        | none => none
      | none => none
    | _ => none
  | _ => none
theorem fIxK_ok : RA2 K md W rIxD fIxK := by
  refine .mk fun c σ H m us x y Q rr hc E hf hp => ?_
  simp only [fIxK] at hf
  split at hf
  · rename_i y e s hs
    rw [hs] at E
    have ey := top_a E
    subst ey
    have E1 := E.drop
    split at hf
    · rename_i ks o ts hv
      split at hf
      · rename_i k hk0
        split at hf
        · rename_i j hj
          split at hf
          · rename_i e' hk
            cases hf
            obtain ⟨ad, vs, w', rfl, ho, hl, hw, E2⟩ := E1.kidOf hv hk
            have ho := ObjAt.rd ho
            refine ⟨ad, w', rfl, ?_, hp w' H E2⟩
            rw [keyOf_kV hk0]
            have e : valV (ks.zip vs) k = some w' := by rw [valV_zip hj ho.1, hw]
            exact .inl ⟨_, k, ho.2, rfl, e.symm⟩
          · cases hf
        · cases hf
      · cases hf
    · cases hf
  · cases hf
/-- o[i]: lists, tuples, dicts -/
def fIxA : GE := gOr fIx fIxK
theorem me_ixA (hu : X.A.units + 64 < cLine) (ha : ME X T md W a ga) (hb : ME X T md W b gb) (hs : PlainIx b) : ME X T md W (.Subscript a b pos) (gSeq (gSeq ga gb) fIxA) := me_ix ((ix_list.or ix_tup).or (ix_dict (by omega))) (fIx_ok.or fIxK_ok) ha hb hs
theorem putK_set : ∀ {ks : List Key} {vs : List V} {j : Nat}, ks.Nodup → kix k ks = some j → ks.length = vs.length → putK (ks.zip vs) k v = ks.zip (vs.set j v) := by
  intro ks vs j nd h l
  have hm : ∃ y, (k, y) ∈ ks.zip vs := by
    obtain ⟨h3, h4⟩ := List.getElem?_eq_some_iff.mp (kix_at h)
    have h5 : (ks.zip vs)[j]'(by simp; omega) = (ks[j], vs[j]) := by simp
    rw [h4] at h5
    exact ⟨_, h5 ▸ List.getElem_mem _⟩
  obtain ⟨y, hy⟩ := hm
  unfold putK
  rw [if_pos (by rw [List.any_eq_true]; exact ⟨_, hy, by simp⟩)]
  clear hy
  induction ks generalizing vs j with
  | nil => simp [kix] at h
  | cons x ks ih =>
    cases vs with
    | nil => simp at l
    | cons z vs =>
      simp only [kix] at h
      have nd' := List.nodup_cons.mp nd
      by_cases e : x = k
      · subst e
        rw [if_pos rfl] at h
        cases h
        rw [List.zip_cons_cons, List.map_cons, if_pos rfl, List.set_cons_zero, List.zip_cons_cons]
        congr 1
        have : ∀ kv ∈ ks.zip vs, (if kv.1 = x then (kv.1, v) else kv) = kv := by
          intro kv hkv
          rw [if_neg]
          intro q
          exact nd'.1 (q ▸ (List.of_mem_zip hkv).1)
        rw [List.map_congr_left this]
        simp
      · rw [if_neg e] at h
        simp only [Option.map_eq_some_iff] at h
        obtain ⟨j', h1, rfl⟩ := h
        rw [List.zip_cons_cons, List.map_cons, if_neg e, List.set_cons_succ, List.zip_cons_cons, ih nd'.2 h1 (by simpa using l)]
theorem putK_app {ks : List Key} {vs : List V} (h : kix k ks = none) (l : ks.length = vs.length) : putK (ks.zip vs) k v = (ks ++ [k]).zip (vs ++ [v]) := by
  unfold putK
  rw [if_neg]
  · rw [List.zip_append l]
    rfl
  · rw [List.any_eq_true]
    rintro ⟨kv, hkv, e⟩
    have : kv.1 = k := by simpa using e
    exact kix_none h (this ▸ (List.of_mem_zip hkv).1)
def rSetD : TSet := fun o i v H Q => ∃ a H', o = .ref a ∧ DPut H a i v H' ∧ Q H'
theorem set_dict (hu : X.A.units + 1 < cLine) : PSet X rSetD := by
  intro pins s σ H o i v ov iv u Q I ro ri rv h
  obtain ⟨a, H', rfl, g, q⟩ := h
  cases ro
  exact d_setItem hu I g ri rv fun s' I' => ⟨H', I', q⟩
theorem PSet.or {t t' : TSet} (h : PSet X t) (h' : PSet X t') : PSet X (fun o i v H Q => t o i v H Q ∨ t' o i v H Q) := by
  intro pins s σ H o i v ov iv u Q I ro ri rv q
  rcases q with q | q
  · exact h pins s σ H o i v ov iv u Q I ro ri rv q
  · exact h' pins s σ H o i v ov iv u Q I ro ri rv q
def stSubK : Ms → Option Ms := fun m => match m.s with
  | .tr (.a y) :: .al p :: .tr t :: s => match getG m.g p, keyOf y with
    | some (.nd (.dct ks) .own ts), some k => if esc t = true ∧ ks.Nodup ∧ ks.length < 100000 then match kix k ks with
        | some j => some ⟨(setG m.g p (.nd (.dct ks) .own (ts.set j t))).map (killJ (p ++ [j])), s.map (killJ (p ++ [j]))⟩
        | none => some ⟨kill p (setG m.g p (.nd (.dct (ks ++ [k])) .own (ts ++ [t]))), kill p s⟩
      else none
    | _, _ => none
  | _ => none
theorem stSubK_ok {m m' : Ms} {x y z : V} {Q : Hp → Prop} (E : EnvOk K c σ H m.g m.s (z :: y :: x :: us)) (h : stSubK m = some m') (hq : ∀ H', EnvOk K c σ H' m'.g m'.s us → Q H') : rSetD y z x H Q := by
  unfold stSubK at h
  split at h
  · rename_i yv p t s hs
    split at h
    · rename_i ks ts k hg hk
      split at h
      · rename_i he
        rw [hs] at E
        have ez := top_a E
        subst ez
        have E1 := E.drop
        have hes := E1.escAt hg (by simp)
        obtain ⟨Z, ws, Φ, Ψ, EE⟩ := id E1
        obtain ⟨Θ, a, vs, Ξ, rfl, ho, hlr, hn⟩ := EE.view (n := 0) (e := .al p) rfl rfl hg
        have ho : ks.length = vs.length ∧ H a = some (.dK (ks.zip vs)) := ho
        have hlen := RepL.len _ hlr
        have hz : (ks.zip vs).length < sizeLine := by
          have : (100000 : Nat) ≤ sizeLine := by decide
          simp
          omega
        rw [keyOf_kV hk]
        refine ⟨a, _, rfl, DPut.k ho.2 hz, ?_⟩
        split at h
        · rename_i j hj
          cases h
          refine hq _ ?_
          rw [putK_set he.2.1 hj ho.1]
          have hjl : j < ts.length := by
            have := getq_lt' (kix_at hj)
            omega
          obtain ⟨a', e, E2⟩ := EnvOk.setIn (j := j) (ob := .dK (ks.zip (vs.set j x))) E1 hg (by simp) hjl he.1 (fun a2 vs2 ho2 e2 => by
            cases e2
            have ho2 : ks.length = vs2.length ∧ H a = some (.dK (ks.zip vs2)) := ho2
            have ev : vs = vs2 := by
              have h3 : ks.zip vs = ks.zip vs2 := by
                have := ho.2.symm.trans ho2.2
                simpa using this
              have h4 := congrArg (List.map Prod.snd) h3
              rwa [List.map_snd_zip (by omega), List.map_snd_zip (by omega)] at h4
            subst ev
            exact ⟨by simpa using ho.1, upd_same⟩)
          cases e
          exact E2
        · rename_i hj
          cases h
          refine hq _ ?_
          rw [putK_app hj ho.1]
          obtain ⟨a', e, E2⟩ := EnvOk.modP (ins := [t]) (us1 := [x]) (outs := []) (vouts := []) (k' := .dct (ks ++ [k])) (ts' := ts ++ [t]) (ob := .dK ((ks ++ [k]).zip (vs ++ [x]))) (τ := s) (us := us) E1 rfl hg (by simp) (by simp) (fun a2 vs2 e2 ho2 l2 => by
            cases e2
            have ho2 : ks.length = vs2.length ∧ H a = some (.dK (ks.zip vs2)) := ho2
            have ev : vs = vs2 := by
              have h3 : ks.zip vs = ks.zip vs2 := by
                have := ho.2.symm.trans ho2.2
                simpa using this
              have h4 := congrArg (List.map Prod.snd) h3
              rwa [List.map_snd_zip (by omega), List.map_snd_zip (by omega)] at h4
            subst ev
            exact ⟨vs ++ [x], by simpa using l2, ⟨by simpa using ho.1, upd_same⟩, fun Z Ψa Ψb r1 r2 d => ⟨_, by simpa using RepL.append _ r1 r2 d, fun b q => q⟩⟩) rfl (by
              rw [escL_all] at hes ⊢
              intro y hy
              rcases List.mem_append.mp hy with z | z
              · exact hes y z
              · rw [List.mem_singleton.mp z]; exact he.1)
          cases e
          simpa using E2
      · cases h
    · cases h
  · cases h
/-- o[i] = v: lists, dicts -/
def stSubA : Ms → Option Ms := fun m => match stSub m with
  | none => stSubK m
  | r => r
def rSetA : TSet := fun o i v H Q => rSetL o i v H Q ∨ rSetD o i v H Q
theorem set_A (hu : X.A.units + 64 < cLine) : PSet X rSetA := PSet.or set_list (set_dict (by omega))
theorem stSubA_ok {m m' : Ms} {x y z : V} {Q : Hp → Prop} (E : EnvOk K c σ H m.g m.s (z :: y :: x :: us)) (h : stSubA m = some m') (hq : ∀ H', EnvOk K c σ H' m'.g m'.s us → Q H') : rSetA y z x H Q := by
  unfold stSubA at h
  split at h
  · exact .inr (stSubK_ok E h hq)
  · rename_i r hr
    exact .inl (stSub_ok E h hq)
def sSubA (gv go gi : GE) : GS := fun m => match gSeq (gSeq gv go) gi m with
  | some (.ok m') => match stSubA m' with
    | some m2 => some (.nx m2)
    | none => none
  | some (.ex C g) => some (.ex C g)
  | none => none
theorem ms_subA {spos tpos : Pos} (hv : ME X T md W e gv) (ho : ME X T md W o go) (hi : ME X T md W ie gi) (h : ∀ {to ti te : TE}, PE X o to → PE X ie ti → PE X e te → PS X (.Assign [.Subscript o ie spos] e tpos) (tAsg te (gSub to ti rSetA))) : MS X T md W (.Assign [.Subscript o ie spos] e tpos) (sSubA gv go gi) := by
  obtain ⟨tv, pv, sv⟩ := hv
  obtain ⟨to, po, so⟩ := ho
  obtain ⟨ti, pi, si⟩ := hi
  refine ⟨_, h po pi pv, fun c σ H m us D oo hc E hg hp => ?_⟩
  simp only [sSubA, gSeq] at hg
  cases e1 : gv m with
  | none => simp [e1] at hg
  | some r1 =>
    cases r1 with
    | ex C g' =>
      simp only [e1] at hg
      cases hg
      exact sv c σ H m us _ _ hc E e1 fun H1 E1 => hp σ H1 E1
    | ok m1 =>
      simp only [e1] at hg
      refine sv c σ H m us _ _ hc E e1 fun x H1 E1 => ?_
      cases e2 : go m1 with
      | none => simp [e2] at hg
      | some r2 =>
        cases r2 with
        | ex C g' =>
          simp only [e2] at hg
          cases hg
          exact so c σ H1 m1 _ _ _ hc E1 e2 fun H2 E2 => hp σ H2 E2
        | ok m2 =>
          simp only [e2] at hg
          refine so c σ H1 m1 _ _ _ hc E1 e2 fun y H2 E2 => ?_
          cases e3 : gi m2 with
          | none => simp [e3] at hg
          | some r3 =>
            cases r3 with
            | ex C g' =>
              simp only [e3] at hg
              cases hg
              exact si c σ H2 m2 _ _ _ hc E2 e3 fun H3 E3 => hp σ H3 E3
            | ok m3 =>
              simp only [e3] at hg
              refine si c σ H2 m2 _ _ _ hc E2 e3 fun z H3 E3 => ?_
              split at hg
              · rename_i m4 h4
                cases hg
                exact stSubA_ok E3 h4 fun H4 E4 => hp σ H4 E4
              · cases hg
end
section
variable {K : KC} {X : Cx} {T : KT} {W : WX} {c : Cz} {σ : St} {H H' : Hp} {a p : Addr} {fs : List Int} {n : Nat} {N : List Str} {t : L2.TS} {g : GS} {m : Ms} {Q : VK} {D : Ends}
/-! the law itself: behind its first row the drawn row is a list of its own -/
abbrev iT (i : Int) : Tr := .a (.int i)
abbrev bT (b : Bool) : Tr := .a (.bl b)
def feedT (fs : List Int) : Tr := .nd .lst .own (fs.map iT)
def feedG (n : Nat) (fs : List Int) : Ms := ⟨.no :: .tr (feedT fs) :: List.replicate n .no, []⟩
abbrev cLaw : Cz := ⟨fun _ => none, fun _ => False, fun _ => False, [false], []⟩
theorem repL_atoms {Z : Zn} : ∀ {us : List V}, RepL K Z H .own (us.map Tr.a) us fun _ => False
  | [] => ⟨rfl, fun _ h => h⟩
  | u :: us => ⟨u, us, fun _ => False, fun _ => False, rfl, ⟨rfl, fun _ h => h⟩, repL_atoms, by simp, by simp⟩
theorem feed_ok (hN : N.length = n + 2) (h : H p = some (.lst (fs.map V.int))) : EnvOk K cLaw ((start N [.ref a]).set 1 (some (.ref p))) H (feedG n fs).g (feedG n fs).s [] := by
  have es : start N [.ref a] = [some (.ref a)] ++ List.replicate (n + 1) none := by
    show [V.ref a].map some ++ List.replicate (N.length - [V.ref a].length) none = _
    simp [hN]
  have ess : (start N [.ref a]).set 1 (some (.ref p)) = some (.ref a) :: some (.ref p) :: List.replicate n none := by
    rw [es]
    rfl
  rw [ess]
  have em : fs.map iT = (fs.map V.int).map Tr.a := by simp
  have rf : Rep K ⟨fun _ => False, fun _ => False⟩ H .own (feedT fs) (.ref p) fun b => b = p := by
    refine ⟨p, fs.map V.int, fun _ => False, rfl, h, by rw [em]; exact repL_atoms, ?_⟩
    refine ⟨by simp, fun q => q, ?_⟩
    rw [escL_all, em]
    intro y hy
    obtain ⟨z, _, rfl⟩ := List.mem_map.mp hy
    rfl
  have tr : trees (feedG n fs).g = .any :: feedT fs :: List.replicate n .any := by
    simp [feedG, trees, Ent.tree]
  refine ⟨⟨fun _ => False, fun _ => False⟩, .ref a :: .ref p :: List.replicate n .non, fun b => b = p, fun _ => False, ⟨?_, ⟨rfl, fun _ h => h⟩, by simp, ?_, ?_, by simp [feedG], fun b _ => ⟨.inr rfl, fun q => q, fun q => q⟩, fun b q => q.elim, fun b q => q, fun b q => (by simp at q), fun b o q => (by cases q), ?_⟩⟩
  · rw [tr]
    exact ⟨_, _, fun _ => False, fun b => b = p, rfl, fun _ h => h, ⟨_, _, fun b => b = p, fun _ => False, rfl, rf, RepL.anys n, by simp, by simp⟩, by simp, by simp⟩
  · intro i e he
    match i with
    | 0 => cases he; trivial
    | 1 => cases he; exact ⟨_, rfl, rfl⟩
    | i + 2 =>
      have he : (List.replicate n Ent.no)[i]? = some e := he
      have := List.mem_of_getElem? he
      simp at this
      rw [this.2]
      trivial
  · intro i q hi
    simp [feedG] at hi
  · intro i hi
    match i with
    | 0 => cases hi
    | i + 1 => simp at hi
theorem law_end (s : SS K [false] WF t g) (hN : N.length = n + 2) (h : H p = some (.lst (fs.map V.int))) (hg : g (feedG n fs) = some (.rt (bT true) m)) (hq : ∀ H', Q (.bl true) H') : t { nx := fun _ H' => Q .non H', rt := Q } ((start N [.ref a]).set 1 (some (.ref p))) H := by
  refine s cLaw _ H (feedG n fs) [] _ _ rfl (feed_ok hN h) hg ?_
  intro σ' v H' E
  have := top_a E
  subst this
  exact hq H'
end
section
variable {T : KT} {P : Program} {Wd : World} {Kf : PySem.W.Frag} {mg : Str → Option Value} {base : Heap} {Fe : List Int → Prop} {n k : Nat} {N : List Str}
def spLaw (K : PySem.W.Frag) : Sp := fun vs H Q _ => ∃ (a : Addr) (ns : List Int), vs = [.ref a] ∧ SqL K H a (ns.map V.int) ∧ ns.length ≤ 63 ∧ ∀ H', Q (.bl true) H'
theorem law_sim {x qual y : Str} {st st0 : Stmt} {rest : List Stmt} {f : Addr} {fd : FuncData} {g : GS} (F : Fun Kf x qual st f fd) (S : FnScope N [y] (defScope st)) (hN : N.length = n + 2) (hb : defBody st = st0 :: rest)
    (body : ∀ (cdv : Value) (A : Around) (outer : List Env) (s : Shared) (H : Hp) (E : XK), Room k (A.deeper (PyProof.Rows.envOfC qual (defScope st) s.heap.objs.size f cdv)) →
      (∃ t0, PS (cxOf CX0 P Wd Kf mg base N qual (defScope st) f cdv A outer s H E).nox st0 t0 ∧ ∀ (a : Addr) (ns : List Int) (H : Hp) (D : Ends), SqL Kf H a (ns.map V.int) → ns.length ≤ 63 →
        (∀ H' p fs, H' p = some (.lst (fs.map V.int)) → Fe fs → D.nx ((start N [.ref a]).set 1 (some (.ref p))) H') → t0 D (start N [.ref a]) H) ∧
      MSs (cxOf CX0 P Wd Kf mg base N qual (defScope st) f cdv A outer s H E).nox T [false] WF rest g)
    (pl : ∀ fs, Fe fs → ∃ m, g (feedG n fs) = some (.rt (bT true) m)) : FnOk P Wd Kf mg base CX0 (k + 1) f fd [y] (spLaw Kf) := by
  refine F.ok S (fun vs H Q E h => ?_) (fun cdv A outer s H vs Q E hr h => ?_)
  · obtain ⟨a, ns, rfl, _⟩ := h
    rfl
  · obtain ⟨a, ns, rfl, hS, hl, kk⟩ := h
    obtain ⟨⟨t0, p0, s0⟩, t, pt, st⟩ := body cdv A outer s H E hr
    rw [hb]
    refine ⟨_, pss_cons p0 pt, ?_⟩
    refine s0 a ns H _ hS hl fun H' p fs h1 hf => ?_
    obtain ⟨m, hm⟩ := pl fs hf
    exact law_end st hN h1 hm kk
end
/-! frames: what a call leaves as it was -/
abbrev tl (x : Str) : List Nat := x.cps.toList
def Fr (S : List Addr) (H H' : Hp) : Prop := ∀ b o, H b = some o → ∃ o', H' b = some o' ∧ (b ∉ S → o' = o)
section
variable {S : List Addr} {H H0 H1 H2 H' : Hp} {a b p : Addr} {o o' : HO} {K : PySem.W.Frag} {xs : List V}
theorem Fr.refl (S : List Addr) (H : Hp) : Fr S H H := fun _ o h => ⟨o, h, fun _ => rfl⟩
theorem Fr.trans (f : Fr S H0 H1) (g : Fr S H1 H2) : Fr S H0 H2 := fun b o h => by
  obtain ⟨o1, h1, e1⟩ := f b o h
  obtain ⟨o2, h2, e2⟩ := g b o1 h1
  exact ⟨o2, h2, fun n => (e2 n).trans (e1 n)⟩
theorem Fr.get (f : Fr S H H') (h : H b = some o) (n : b ∉ S) : H' b = some o := by
  obtain ⟨o1, h1, e1⟩ := f b o h
  rw [h1, e1 n]
theorem Fr.up1 (f : Fr S H0 H1) (g : Fr [a] H1 H2) (ha : a ∈ S ∨ H0 a = none) : Fr S H0 H2 := fun b o h => by
  obtain ⟨o1, h1, e1⟩ := f b o h
  obtain ⟨o2, h2, e2⟩ := g b o1 h1
  refine ⟨o2, h2, fun n => ?_⟩
  by_cases e : b = a
  · subst e
    rcases ha with ha | ha
    · exact absurd ha n
    · rw [ha] at h
      cases h
  · rw [e2 (by simpa using e), e1 n]
theorem Fr.new (np : H p = none) : Fr [] H (upd H p o) := fun b u e => ⟨u, by rw [upd_ne (ne_of_none e np)]; exact e, fun _ => rfl⟩
theorem Fr.mut : Fr [a] H (upd H a o) := fun b u e => by
  by_cases h : b = a
  · subst h
    exact ⟨o, upd_same, fun n => absurd (by simp) n⟩
  · exact ⟨u, by rw [upd_ne h]; exact e, fun _ => rfl⟩
theorem gen_new (np : H p = none) (e : upd H p o = H2) : Fr [] H H2 ∧ H2 p = some o := by
  subst e
  exact ⟨Fr.new np, upd_same⟩
theorem gen_upd (e : upd H a o = H2) : Fr [a] H H2 ∧ H2 a = some o := by
  subst e
  exact ⟨Fr.mut, upd_same⟩
theorem Fr.seq (f : Fr S H H') (h : SqL K H a xs) (n : a ∉ S) : SqL K H' a xs := by
  rcases h with (h | ⟨o, h⟩) | h
  · exact .inl (.inl (f.get h n))
  · exact .inl (.inr ⟨o, f.get h n⟩)
  · exact .inr h
theorem Fr.seq0 (f : Fr [] H H') (h : SqL K H a xs) : SqL K H' a xs := f.seq h (by simp)
theorem sq (h : H a = some (.lst xs)) : SqL K H a xs := .inl (.inl h)
end
theorem sz {n : Nat} (h : n < 100000) : n < sizeLine := Nat.lt_of_lt_of_le h (by decide)
theorem map_get {α β : Type} {f : α → β} {l : List α} {i : Nat} {y : β} (h : (l.map f)[i]? = some y) : ∃ x, l[i]? = some x ∧ y = f x := by
  rw [List.getElem?_map] at h
  cases e : l[i]? with
  | none =>
    rw [e] at h
    cases h
  | some x =>
    rw [e] at h
    exact ⟨x, rfl, (Option.some.inj h).symm⟩
theorem getq_lt {α : Type} {l : List α} {i : Nat} {x : α} (h : l[i]? = some x) : i < l.length := (List.getElem?_eq_some_iff.mp h).1
theorem inV_int {k : Int} : ∀ {ds : List Int}, inV (.int k) (ds.map V.int) = decide (k ∈ ds)
  | [] => rfl
  | d :: ds => by
    have e := inV_int (k := k) (ds := ds)
    unfold inV at e ⊢
    rw [List.map_cons, List.any_cons, e]
    show ((d == k) || _) = _
    by_cases h : d = k
    · rw [decide_eq_true (show k ∈ d :: ds by rw [h]; exact List.mem_cons_self), show (d == k) = true from beq_iff_eq.mpr h, Bool.true_or]
    · have h2 : (d == k) = false := by simpa using h
      rw [h2, Bool.false_or]
      by_cases h3 : k ∈ ds
      · rw [decide_eq_true h3, decide_eq_true (List.mem_cons_of_mem _ h3)]
      · rw [decide_eq_false h3, decide_eq_false (by simp; exact ⟨fun q => h q.symm, h3⟩)]
theorem Fr.sub {S S' : List Addr} {H H' : Hp} (f : Fr S' H H') (h : ∀ a ∈ S', a ∈ S) : Fr S H H' := fun b o e => by
  obtain ⟨o', h1, h2⟩ := f b o e
  exact ⟨o', h1, fun n => h2 fun q => n (h b q)⟩
/-! pure lemmas: trees of plain data, comprehensions that change nothing -/
section
variable {cv : List Nat} {bd : Ms → Option Ms} {gt ge : GE} {lo : Int} {g s : List Ent} {n : Nat} {k : Nk} {o : Ow} {ts : List Tr} {e : Ent} {α : Type}
@[simp] theorem escL_iT (xs : List Int) : escL (xs.map iT) = true := by
  rw [escL_all]
  intro y hy
  obtain ⟨z, _, rfl⟩ := List.mem_map.mp hy
  rfl
@[simp] theorem cpL_iT : ∀ (xs : List Int), cpL (xs.map iT) = true
  | [] => rfl
  | x :: xs => by
    show (cp (iT x) && cpL (xs.map iT)) = true
    rw [cpL_iT xs]
    rfl
theorem escL_map {f : α → Tr} {xs : List α} (h : ∀ x, esc (f x) = true) : escL (xs.map f) = true := by
  rw [escL_all]
  intro y hy
  obtain ⟨z, _, rfl⟩ := List.mem_map.mp hy
  exact h z
/-- [F x for x in a list if P x] -/
theorem lcL_go (P : Nat → Bool) (F : Nat → Tr) (hv : viewE g e = some (.nd k o ts)) (hc : cpE e = true) (turn : ∀ i acc, i < ts.length → acc.length ≤ i → ∃ e', kidX e k o ts i = some e' ∧ lcTurn cv bd gt ge 1 ⟨g, e' :: e :: .tr (.nd .lst .own acc) :: s⟩ = some ⟨g, e :: .tr (.nd .lst .own (if P i = true then acc ++ [F i] else acc)) :: s⟩) :
    ∀ r i acc, i + r = ts.length → acc.length ≤ i → lcL k cv bd gt ge r i ⟨g, e :: .tr (.nd .lst .own acc) :: s⟩ = some ⟨g, e :: .tr (.nd .lst .own (acc ++ ((List.range' i r).filter P).map F)) :: s⟩
  | 0, i, acc, h, _ => by
    simp only [lcL, hv]
    rw [if_pos ⟨trivial, by omega⟩]
    simp
  | r + 1, i, acc, h, hl => by
    obtain ⟨e', h1, h2⟩ := turn i acc (by omega) hl
    simp only [lcL, hv]
    rw [if_pos ⟨trivial, hc, by omega⟩, h1]
    simp only
    rw [h2]
    simp only
    rw [lcL_go P F hv hc turn r (i + 1) _ (by omega) (by split <;> (try simp) <;> omega)]
    rw [List.range'_succ, List.filter_cons]
    split <;> simp
end
/-! the machine's functions as rewriting rules: each step first looks at what stands before it -/
section
variable {a a' : Option Rs} {b g h : GE} {m : Ms} {Γ s : List Ent} {C : Nat} {p : Prop} [Decidable p] {x y : Bool} {t : Tr} {v : V} {md : List Bool} {i : Nat} {gs gs' : GS} {o o' : Option Os}
def bE (a : Option Rs) (b : GE) : Option Rs := match a with
  | some (.ok m) => b m
  | r => r
theorem gSeq_e : gSeq g b m = bE (g m) b := rfl
theorem bE_ok : bE (some (.ok m)) b = b m := rfl
theorem bE_ex : bE (some (.ex C Γ)) b = some (.ex C Γ) := rfl
theorem bE_ite : bE (if p then a else a') b = if p then bE a b else bE a' b := by split <;> rfl
theorem gNil_e : gNil m = some (.ok m) := rfl
theorem gC_e : gC v m = some (.ok ⟨m.g, .tr (.a v) :: m.s⟩) := rfl
/-- two ways that leave two truth values are one -/
theorem ok_ite : (if p then some (Rs.ok ⟨Γ, .tr (.a (.bl x)) :: s⟩) else some (Rs.ok ⟨Γ, .tr (.a (.bl y)) :: s⟩)) = some (Rs.ok ⟨Γ, .tr (.a (.bl (if p then x else y))) :: s⟩) := by split <;> rfl
def varE (e : Option Ent) (i : Nat) (Γ s : List Ent) : Option Rs := match e with
  | some (.tr t) => if cp t = true then some (.ok ⟨Γ, .tr t :: s⟩) else some (.ok ⟨Γ, .al [i] :: s⟩)
  | some (.al p) => some (.ok ⟨Γ, .al p :: s⟩)
  | _ => none
theorem gVar_e : gVar i m = varE m.g[i]? i m.g m.s := rfl
theorem varE_tr : varE (some (.tr t)) i Γ s = some (.ok ⟨Γ, (if cp t = true then .tr t else .al [i]) :: s⟩) := by
  unfold varE
  split
  · split <;> simp_all
  · simp_all
  · simp_all
theorem varE_al {q : List Nat} : varE (some (.al q)) i Γ s = some (.ok ⟨Γ, .al q :: s⟩) := rfl
def nE (a : Option Rs) : Option Rs := match a with
  | some (.ok ⟨g', .tr (.a (.bl b)) :: s'⟩) => some (.ok ⟨g', .tr (.a (.bl (!b))) :: s'⟩)
  | some (.ex C g') => some (.ex C g')
  | _ => none
theorem gNot_e : gNot g m = nE (g m) := rfl
theorem nE_ok : nE (some (.ok ⟨Γ, .tr (.a (.bl x)) :: s⟩)) = some (.ok ⟨Γ, .tr (.a (.bl (!x))) :: s⟩) := rfl
theorem nE_ite : nE (if p then a else a') = if p then nE a else nE a' := by split <;> rfl
def aE (a : Option Rs) (h : GE) : Option Rs := match a with
  | some (.ok ⟨g', .tr (.a (.bl true)) :: s'⟩) => h ⟨g', s'⟩
  | some (.ok ⟨g', .tr (.a (.bl false)) :: s'⟩) => some (.ok ⟨g', .tr (.a (.bl false)) :: s'⟩)
  | some (.ex C g') => some (.ex C g')
  | _ => none
theorem gAnd_e : gAnd g h m = aE (g m) h := rfl
theorem aE_ok : aE (some (.ok ⟨Γ, .tr (.a (.bl x)) :: s⟩)) h = if x = true then h ⟨Γ, s⟩ else some (.ok ⟨Γ, .tr (.a (.bl false)) :: s⟩) := by cases x <;> rfl
theorem aE_ite : aE (if p then a else a') h = if p then aE a h else aE a' h := by split <;> rfl
theorem aE_ex : aE (some (.ex C Γ)) h = some (.ex C Γ) := rfl
def oE (a : Option Rs) (h : GE) : Option Rs := match a with
  | some (.ok ⟨g', .tr (.a (.bl false)) :: s'⟩) => h ⟨g', s'⟩
  | some (.ok ⟨g', .tr (.a (.bl true)) :: s'⟩) => some (.ok ⟨g', .tr (.a (.bl true)) :: s'⟩)
  | some (.ex C g') => some (.ex C g')
  | _ => none
theorem gOrB_e : gOrB g h m = oE (g m) h := rfl
theorem oE_ok : oE (some (.ok ⟨Γ, .tr (.a (.bl x)) :: s⟩)) h = if x = true then some (.ok ⟨Γ, .tr (.a (.bl true)) :: s⟩) else h ⟨Γ, s⟩ := by cases x <;> rfl
theorem oE_ite : oE (if p then a else a') h = if p then oE a h else oE a' h := by split <;> rfl
theorem oE_ex : oE (some (.ex C Γ)) h = some (.ex C Γ) := rfl
def iE (a : Option Rs) (g h : GE) : Option Rs := match a with
  | some (.ok ⟨g', .tr (.a (.bl true)) :: s'⟩) => g ⟨g', s'⟩
  | some (.ok ⟨g', .tr (.a (.bl false)) :: s'⟩) => h ⟨g', s'⟩
  | some (.ex C g') => some (.ex C g')
  | _ => none
theorem gIf_e : gIf b g h m = iE (b m) g h := rfl
theorem iE_ok : iE (some (.ok ⟨Γ, .tr (.a (.bl x)) :: s⟩)) g h = if x = true then g ⟨Γ, s⟩ else h ⟨Γ, s⟩ := by cases x <;> rfl
theorem iE_ite : iE (if p then a else a') g h = if p then iE a g h else iE a' g h := by split <;> rfl
def xE (a : Option Rs) : Option Rs := match a with
  | some (.ok m') => some (.ok m')
  | _ => none
theorem noEx_e : noEx g m = xE (g m) := rfl
theorem xE_ok : xE (some (.ok m)) = some (.ok m) := rfl
/-! statements -/
def bS (o : Option Os) (g : GS) : Option Os := match o with
  | some (.nx m') => g m'
  | r => r
theorem sSeq_e : sSeq gs gs' m = bS (gs m) gs' := rfl
theorem bS_nx : bS (some (.nx m)) gs = gs m := rfl
theorem bS_rt : bS (some (.rt t m)) gs = some (.rt t m) := rfl
theorem bS_bk : bS (some (.bk m)) gs = some (.bk m) := rfl
theorem bS_ct : bS (some (.ct m)) gs = some (.ct m) := rfl
theorem bS_ex : bS (some (.ex C Γ)) gs = some (.ex C Γ) := rfl
theorem bS_ite : bS (if p then o else o') gs = if p then bS o gs else bS o' gs := by split <;> rfl
theorem sNil_e : sNil m = some (.nx m) := rfl
def iS (a : Option Rs) (g h : GS) : Option Os := match a with
  | some (.ok ⟨g', .tr (.a (.bl true)) :: s'⟩) => g ⟨g', s'⟩
  | some (.ok ⟨g', .tr (.a (.bl false)) :: s'⟩) => h ⟨g', s'⟩
  | some (.ex C g') => some (.ex C g')
  | _ => none
theorem sIf_e : sIf g gs gs' m = iS (g m) gs gs' := rfl
theorem iS_ok : iS (some (.ok ⟨Γ, .tr (.a (.bl x)) :: s⟩)) gs gs' = if x = true then gs ⟨Γ, s⟩ else gs' ⟨Γ, s⟩ := by cases x <;> rfl
theorem iS_ex : iS (some (.ex C Γ)) gs gs' = some (.ex C Γ) := rfl
theorem iS_ite : iS (if p then a else a') gs gs' = if p then iS a gs gs' else iS a' gs gs' := by split <;> rfl
def rS (a : Option Rs) : Option Os := match a with
  | some (.ok ⟨g, .tr t :: s⟩) => some (.rt t ⟨g, s⟩)
  | some (.ex C g) => some (.ex C g)
  | _ => none
theorem sRet_e : sRet g m = rS (g m) := rfl
theorem rS_ok : rS (some (.ok ⟨Γ, .tr t :: s⟩)) = some (.rt t ⟨Γ, s⟩) := rfl
theorem rS_ex : rS (some (.ex C Γ)) = some (.ex C Γ) := rfl
theorem rS_ite : rS (if p then a else a') = if p then rS a else rS a' := by split <;> rfl
def eS (a : Option Rs) : Option Os := match a with
  | some (.ok ⟨g, _ :: s⟩) => some (.nx ⟨g, s⟩)
  | some (.ex C g) => some (.ex C g)
  | _ => none
theorem sExpr_e : sExpr g m = eS (g m) := rfl
theorem eS_ok {e : Ent} : eS (some (.ok ⟨Γ, e :: s⟩)) = some (.nx ⟨Γ, s⟩) := rfl
theorem eS_ex : eS (some (.ex C Γ)) = some (.ex C Γ) := rfl
theorem eS_ite : eS (if p then a else a') = if p then eS a else eS a' := by split <;> rfl
def nxO (m : Option Ms) : Option Os := match m with
  | some m' => some (.nx m')
  | none => none
theorem nxO_some : nxO (some m) = some (.nx m) := rfl
/-- an expression, then something with the state -/
def kS (a : Option Rs) (f : Ms → Option Ms) : Option Os := match a with
  | some (.ok m1) => nxO (f m1)
  | some (.ex C g) => some (.ex C g)
  | none => none
theorem kS_ok {f : Ms → Option Ms} : kS (some (.ok m)) f = nxO (f m) := rfl
theorem kS_ex {f : Ms → Option Ms} : kS (some (.ex C Γ)) f = some (.ex C Γ) := rfl
theorem kS_ite {f : Ms → Option Ms} : kS (if p then a else a') f = if p then kS a f else kS a' f := by split <;> rfl
theorem sSet_e : sSet md i g m = kS (g m) (bind md i) := by
  unfold sSet kS nxO
  cases g m with
  | none => rfl
  | some r => cases r <;> rfl
theorem sAsg_e {f : Ms → Option Ms} : sAsg g f m = kS (g m) f := by
  unfold sAsg kS nxO
  cases g m with
  | none => rfl
  | some r => cases r <;> rfl
theorem sSubA_e : sSubA g b h m = kS (gSeq (gSeq g b) h m) stSubA := by
  unfold sSubA kS nxO
  cases gSeq (gSeq g b) h m with
  | none => rfl
  | some r => cases r <;> rfl
theorem sFldS_e {tab : List (Nat × Nat)} : sFldS tab g b m = kS (gSeq g b m) (stFld tab) := by
  unfold sFldS kS nxO
  cases gSeq g b m with
  | none => rfl
  | some r => cases r <;> rfl
theorem bind_tr (h1 : md.getD i false = false) (h2 : i < Γ.length) : bind md i ⟨Γ, .tr t :: s⟩ = some ⟨(Γ.map (killR i)).set i (.tr t), s.map (killR i)⟩ := by
  unfold bind
  rw [if_neg (by rw [h1]; simpa using h2)]
theorem bind_al {q : List Nat} (h1 : md.getD i false = false) (h2 : i < Γ.length) (h3 : q.head? ≠ some i) : bind md i ⟨Γ, .al q :: s⟩ = some ⟨(Γ.map (killR i)).set i (.al q), s.map (killR i)⟩ := by
  unfold bind
  rw [if_neg (by rw [h1]; simpa using h2)]
  simp only
  rw [if_neg h3]
/-- a for over a list or tuple that is lent or stands at a place, by an invariant that tells the thing on top -/
theorem loopE_go {k : Nk} {bd : Ms → Option Ms} {n : Nat} (I : Nat → Ms → Prop) (Q : Os → Prop) (fin : ∀ m, I n m → ∃ e s o ts, m.s = e :: s ∧ viewE m.g e = some (.nd k o ts) ∧ ts.length = n ∧ Q (.nx ⟨m.g, s⟩))
    (turn : ∀ i m, i < n → I i m → ∃ e s o ts e' m1 oo, m.s = e :: s ∧ viewE m.g e = some (.nd k o ts) ∧ cpE e = true ∧ ts.length = n ∧ kidX e k o ts i = some e' ∧ bd ⟨m.g, e' :: e :: s⟩ = some m1 ∧ gs m1 = some oo ∧
      (match oo with | .nx m2 => I (i + 1) m2 | .ct m2 => I (i + 1) m2 | .bk m2 => Q (.nx ⟨m2.g, m2.s.tail⟩) | .rt t m2 => Q (.rt t ⟨m2.g, m2.s.tail⟩) | o => Q o)) :
    ∀ r i m, i + r = n → I i m → ∃ o, loopE k bd gs r i m = some o ∧ Q o
  | 0, i, m, e, h => by
    obtain ⟨en, s, o, ts, h1, h2, h3, h4⟩ := fin m (by rw [← e]; exact h)
    refine ⟨_, ?_, h4⟩
    unfold loopE
    rw [h1]
    simp only [h2]
    rw [if_pos ⟨trivial, by omega⟩]
  | r + 1, i, m, e, h => by
    obtain ⟨en, s, o, ts, e', m1, oo, h1, h2, h3, h4, h5, h6, h7, h8⟩ := turn i m (by omega) h
    have e1 : loopE k bd gs (r + 1) i m = (match gs m1 with
      | some (.nx m2) => loopE k bd gs r (i + 1) m2
      | some (.ct m2) => loopE k bd gs r (i + 1) m2
      | some (.bk m2) => some (.nx ⟨m2.g, m2.s.tail⟩)
      | some (.rt t m2) => some (.rt t ⟨m2.g, m2.s.tail⟩)
      | some (.ex C g) => some (.ex C g)
      | none => none) := by
      conv => lhs; unfold loopE
      rw [h1]
      simp only [h2]
      rw [if_pos ⟨trivial, h3, by omega⟩, h5]
      simp only [h6]
      all_goals
        generalize gs m1 = q
        cases q with
        | none => rfl
        | some o => cases o <;> rfl
    rw [e1, h7]
    cases oo with
    | nx m2 => exact loopE_go I Q fin turn r (i + 1) m2 (by omega) h8
    | ct m2 => exact loopE_go I Q fin turn r (i + 1) m2 (by omega) h8
    | bk m2 => exact ⟨_, rfl, h8⟩
    | rt t m2 => exact ⟨_, rfl, h8⟩
    | ex C g => exact ⟨_, rfl, h8⟩
end
/-! calls and comprehensions as rewriting rules -/
section
variable {is : List Nat} {mdc md : List Bool} {G : GF} {n k : Nat} {m m1 : Ms} {Γ s : List Ent} {ts : List Tr} {gs ga gt ge gb gc f f' : GE} {v : V} {p : Prop} [Decidable p] {b : Bool}
def c3 (x : Option Rt) (is : List Nat) (n : Nat) (m1 : Ms) : Option Rs := match x with
  | some (.rt r ts') => match resAll 1 n is.reverse ⟨m1.g, .tr r :: (ts'.map .tr ++ m1.s.drop n)⟩ with
    | some m2 => some (.ok ⟨m2.g, m2.s.take 1 ++ m2.s.drop (1 + (n - is.length))⟩)
    | none => none
  | some (.ex C ts') => match resAll 0 n is.reverse ⟨m1.g, ts'.map .tr ++ m1.s.drop n⟩ with
    | some m2 => some (.ex C m2.g)
    | none => none
  | none => none
theorem c3_ite {x x' : Option Rt} : c3 (if p then x else x') is n m1 = if p then c3 x is n m1 else c3 x' is n m1 := by split <;> rfl
theorem c3_rt {r : Tr} : c3 (some (.rt r ts)) is n m1 = match resAll 1 n is.reverse ⟨m1.g, .tr r :: (ts.map .tr ++ m1.s.drop n)⟩ with
    | some m2 => some (.ok ⟨m2.g, m2.s.take 1 ++ m2.s.drop (1 + (n - is.length))⟩)
    | none => none := by
  rfl
theorem c3_ex {C : Nat} : c3 (some (.ex C ts)) is n m1 = match resAll 0 n is.reverse ⟨m1.g, ts.map .tr ++ m1.s.drop n⟩ with
    | some m2 => some (.ex C m2.g)
    | none => none := by
  rfl
def c2 (x : Option (List Tr)) (is : List Nat) (G : GF) (n : Nat) (m1 : Ms) : Option Rs := match x with
  | none => none
  | some ts => c3 (G ts) is n m1
theorem c2_some : c2 (some ts) is G n m1 = c3 (G ts) is n m1 := rfl
def c1 (x : Option Ms) (is : List Nat) (mdc : List Bool) (G : GF) (n : Nat) : Option Rs := match x with
  | none => none
  | some m1 => c2 (argT m1.g mdc (m1.s.take n).reverse) is G n m1
theorem c1_some : c1 (some m1) is mdc G n = c2 (argT m1.g mdc (m1.s.take n).reverse) is G n m1 := rfl
theorem gCall_e : gCall is mdc G n m = c1 (extAll n is m) is mdc G n := by
  unfold gCall c1
  cases extAll n is m with
  | none => rfl
  | some m1 =>
    simp only
    unfold c2
    cases argT m1.g mdc (m1.s.take n).reverse with
    | none => rfl
    | some ts =>
      simp only
      unfold c3
      cases G ts with
      | none => rfl
      | some r =>
        cases r with
        | rt r ts' => first | rfl | (simp only; done) | (simp only; split <;> simp_all)
        | ex C ts' => first | rfl | (simp only; done) | (simp only; split <;> simp_all)
def k2 (x : Option Rt) (l : Nat) (m : Ms) : Option Rs := match x with
  | some (.rt (.a .non) (t :: _)) => some (.ok ⟨m.g, .tr t :: m.s.drop l⟩)
  | some (.ex C _) => some (.ex C m.g)
  | _ => none
theorem k2_rt {t : Tr} {l : Nat} : k2 (some (.rt (.a .non) (t :: ts))) l m = some (.ok ⟨m.g, .tr t :: m.s.drop l⟩) := rfl
theorem k2_ex {C : Nat} {l : Nat} : k2 (some (.ex C ts)) l m = some (.ex C m.g) := rfl
theorem k2_ite {x x' : Option Rt} {l : Nat} : k2 (if p then x else x') l m = if p then k2 x l m else k2 x' l m := by split <;> rfl
def k1 (x : Option (List Tr)) (G : GF) (l : Nat) (m : Ms) : Option Rs := match x with
  | none => none
  | some ts => k2 (G ts) l m
theorem k1_some {l : Nat} : k1 (some ts) G l m = k2 (G ts) l m := rfl
theorem gMake_e {l : Nat} : gMake n mdc G l m = k1 (argT m.g (true :: mdc) (.tr (.nd (.ins n 0) .own []) :: (m.s.take l).reverse)) G l m := by
  unfold gMake k1
  generalize argT m.g (true :: mdc) (.tr (.nd (.ins n 0) .own []) :: (m.s.take l).reverse) = q
  cases q with
  | none => rfl
  | some ts => first | rfl | (simp only; unfold k2; rfl)
/-! chains of comparisons of plain values -/
def h2 (x : Option Rs) (v : V) (gc f' : GE) : Option Rs := match x with
  | some (.ok ⟨g2, .tr (.a (.bl true)) :: s2⟩) => match gc ⟨g2, .tr (.a v) :: s2⟩ with
    | some (.ok m3) => f' m3
    | some (.ex C g) => some (.ex C g)
    | none => none
  | some (.ok ⟨g2, .tr (.a (.bl false)) :: s2⟩) => some (.ok ⟨g2, .tr (.a (.bl false)) :: s2⟩)
  | _ => none
theorem h2_ok : h2 (some (.ok ⟨Γ, .tr (.a (.bl b)) :: s⟩)) v gc f' = if b = true then bE (gc ⟨Γ, .tr (.a v) :: s⟩) f' else some (.ok ⟨Γ, .tr (.a (.bl false)) :: s⟩) := by
  cases b
  · rfl
  · simp only [h2, bE, if_true]
    cases gc ⟨Γ, .tr (.a v) :: s⟩ with
    | none => rfl
    | some r => cases r <;> rfl
def h1 (x : Option Rs) (f gc f' : GE) : Option Rs := match x with
  | some (.ok ⟨g1, .tr (.a v) :: s1⟩) => h2 (f ⟨g1, .tr (.a v) :: s1⟩) v gc f'
  | some (.ex C g) => some (.ex C g)
  | _ => none
theorem h1_ok : h1 (some (.ok ⟨Γ, .tr (.a v) :: s⟩)) f gc f' = h2 (f ⟨Γ, .tr (.a v) :: s⟩) v gc f' := rfl
theorem gChain_e : gChain ga gb f gc f' m = h1 (bE (ga m) gb) f gc f' := by
  unfold gChain h1
  rw [gSeq_e]
  rfl
/-! comprehensions that change nothing but the new list -/
theorem clr_set (h1 : Γ[k]? = some .no) (h2 : Γ.map (killR k) = Γ) {e : Ent} : ((Γ.set k e).map (killR k)).set k .no = Γ := by
  rw [List.map_set, h2, List.set_set]
  exact set_same h1
/-- one turn: the name k gets e -/
theorem lcTurn_is {e : Ent} {d : Nat} {acc : List Tr} {y : Tr} (hmd : md.getD k false = false) (hk : Γ[k]? = some .no) (hΓ : Γ.map (killR k) = Γ) (hs : s.map (killR k) = s) (hne : (∃ t, e = .tr t) ∨ ∃ q, e = .al q ∧ q.head? ≠ some k)
    (hd : s[d]? = some (.tr (.nd .lst .own acc))) (hl : acc.length < sizeLine) (ht : gt ⟨Γ.set k e, s⟩ = some (.ok ⟨Γ.set k e, .tr (.a (.bl b)) :: s⟩)) (he : b = true → ge ⟨Γ.set k e, s⟩ = some (.ok ⟨Γ.set k e, .tr y :: s⟩) ∧ esc y = true) :
    lcTurn [k] (bind md k) gt ge d ⟨Γ, e :: s⟩ = some ⟨Γ, if b = true then s.set d (.tr (.nd .lst .own (acc ++ [y]))) else s⟩ := by
  have hlt := getq_lt' hk
  have hb : bind md k ⟨Γ, e :: s⟩ = some ⟨Γ.set k e, s⟩ := by
    rcases hne with ⟨t, rfl⟩ | ⟨q, rfl, hq⟩
    · rw [bind_tr hmd hlt, hΓ, hs]
    · rw [bind_al hmd hlt hq, hΓ, hs]
  unfold lcTurn
  rw [hb]
  simp only
  rw [ht]
  cases b with
  | false =>
    simp only
    rw [if_pos (by intro i hi; rw [List.mem_singleton.mp hi, List.length_set]; exact hlt)]
    simp only [clrs, clr]
    rw [clr_set hk hΓ, hs]
    simp
  | true =>
    obtain ⟨h1, h2⟩ := he rfl
    simp only
    rw [h1]
    simp only
    rw [hd]
    simp only
    rw [if_pos ⟨h2, hl, by intro i hi; rw [List.mem_singleton.mp hi, List.length_set]; exact hlt⟩]
    simp only [clrs, clr]
    rw [clr_set hk hΓ, List.map_set, hs]
    simp [killR]
theorem allNo1 (hk : Γ[k]? = some .no) : allNo Γ [k] = true := by simp [allNo, hk]
/-- over a list or tuple; X j: how its j-th item comes -/
theorem gLcW_is {e : Ent} {kd : Nk} {o : Ow} {s1 : List Ent} (hg : gs m = some (.ok m1)) (hr : ready m1 = some (⟨Γ, e :: s⟩, kd, ts.length)) (hv : viewE Γ e = some (.nd kd o ts)) (hc : cpE e = true) (hl : ts.length ≤ 100000)
    (hmd : md.getD k false = false) (hk : Γ[k]? = some .no) (hΓ : Γ.map (killR k) = Γ) (hs : s.map (killR k) = s) (hke : killR k e = e) (X : Nat → Ent) (P : Nat → Bool) (F : Nat → Tr)
    (hX : ∀ j, j < ts.length → kidX e kd o ts j = some (X j) ∧ ((∃ t, X j = .tr t) ∨ ∃ q, X j = .al q ∧ q.head? ≠ some k))
    (R : List Ent → Prop) (hR : ∀ acc, R (e :: .tr (.nd .lst .own acc) :: s))
    (ht : ∀ j s', R s' → j < ts.length → gt ⟨Γ.set k (X j), s'⟩ = some (.ok ⟨Γ.set k (X j), .tr (.a (.bl (P j))) :: s'⟩))
    (he : ∀ j s', R s' → j < ts.length → P j = true → ge ⟨Γ.set k (X j), s'⟩ = some (.ok ⟨Γ.set k (X j), .tr (F j) :: s'⟩) ∧ esc (F j) = true) :
    gLc [k] gs (bind md k) gt ge m = some (.ok ⟨Γ, .tr (.nd .lst .own (((List.range ts.length).filter P).map F)) :: s⟩) := by
  unfold gLc
  rw [hg]
  simp only
  rw [hr]
  simp only
  rw [if_pos (allNo1 hk)]
  have key := lcL_go (cv := [k]) (bd := bind md k) (gt := gt) (ge := ge) (g := Γ) (s := s) (k := kd) (o := o) (ts := ts) (e := e) P F hv hc (fun j acc hj hacc => by
    obtain ⟨h1, h2⟩ := hX j hj
    refine ⟨X j, h1, ?_⟩
    rw [lcTurn_is (y := F j) (b := P j) (acc := acc) hmd hk hΓ (by rw [List.map_cons, List.map_cons, hs, hke]; rfl) h2 rfl (Nat.lt_of_lt_of_le (by omega : acc.length < 100000) (by decide)) (ht j _ (hR acc) hj) (fun q => he j _ (hR acc) hj q)]
    split <;> rfl) ts.length 0 [] (by omega) (by simp)
  rw [key]
  simp only
  rw [if_pos (allNo1 hk), List.nil_append, List.tail_cons, ← List.range_eq_range']
end
/-! a def's end -/
def fR (md : List Bool) (o : Option Os) : Option Rt := match o with
  | some (.nx m) => if escL (outP md m.g) = true then some (.rt (.a .non) (outP md m.g)) else none
  | some (.rt t m) => if esc t = true ∧ escL (outP md m.g) = true then some (.rt t (outP md m.g)) else none
  | some (.ex C g') => if escL (outP md g') = true then some (.ex C (outP md g')) else none
  | _ => none
section
variable {md : List Bool} {o o' : Option Os} {p : Prop} [Decidable p] {m : Ms} {t : Tr} {C N : Nat} {g : List Ent} {gs : GS} {ts : List Tr}
def nos : Nat → List Ent
  | 0 => []
  | n + 1 => .no :: nos n
theorem nos_e : ∀ n, nos n = List.replicate n .no
  | 0 => rfl
  | n + 1 => by
    rw [nos, nos_e n]
    rfl
theorem runF_e : runF md N gs ts = fR md (gs ⟨ts.map Ent.tr ++ nos (N - ts.length), []⟩) := by
  rw [nos_e]
  unfold runF fR
  rfl
theorem fR_ite : fR md (if p then o else o') = if p then fR md o else fR md o' := by split <;> rfl
theorem fR_nx : fR md (some (.nx m)) = if escL (outP md m.g) = true then some (.rt (.a .non) (outP md m.g)) else none := rfl
theorem fR_rt : fR md (some (.rt t m)) = if esc t = true ∧ escL (outP md m.g) = true then some (.rt t (outP md m.g)) else none := rfl
theorem fR_ex : fR md (some (.ex C g)) = if escL (outP md g) = true then some (.ex C (outP md g)) else none := rfl
theorem rt_ite {x y : V} : (if p then some (Rt.rt (.a x) ts) else some (Rt.rt (.a y) ts)) = some (Rt.rt (.a (if p then x else y)) ts) := by split <;> rfl
theorem int_ite {x y : Int} : (if p then V.int x else V.int y) = V.int (if p then x else y) := by split <;> rfl
theorem bl_ite {x y : Bool} : (if p then V.bl x else V.bl y) = V.bl (if p then x else y) := by split <;> rfl
end
/-! an argument that is handed on after all of them have been read -/
section
variable {K : KC} {X : Cx} {T : KT} {md : List Bool} {W : WX} {g : GE} {es : List Expr} {d : Nat}
def fMvD (md : List Bool) (d : Nat) : GE := fun m => match m.s[d]? with
  | some (.tr _) => some (.ok m)
  | some e => match fMv md ⟨m.g, e :: m.s.eraseIdx d⟩ with
    | some (.ok ⟨g', e' :: s'⟩) => some (.ok ⟨g', s'.take d ++ e' :: s'.drop d⟩)
    | _ => none
  | none => none
end
/-! comprehensions over a list of encoded things, steps of statements -/
section
variable {md : List Bool} {k n : Nat} {m m1 : Ms} {Γ s : List Ent} {gs gt ge : GE} {e : Ent} {kd : Nk} {o : Ow} {α : Type}
def atO (xs : List α) (f : α → β) (d : β) (j : Nat) : β := match xs[j]? with
  | some x => f x
  | none => d
theorem atO_map {β : Type} (xs : List α) (p : α → Bool) (F : α → β) (d : β) : ((List.range xs.length).filter (atO xs p false)).map (atO xs F d) = (xs.filter p).map F := by
  have key : ∀ (ys pre : List α), xs = pre ++ ys → ((List.range' pre.length ys.length).filter (atO xs p false)).map (atO xs F d) = (ys.filter p).map F := by
    intro ys
    induction ys with
    | nil => intro pre _; simp
    | cons y ys ih =>
      intro pre hx
      have h1 : ∀ {γ : Type} (f : α → γ) (d : γ), atO xs f d pre.length = f y := fun {γ} f d => by
        unfold atO
        rw [hx]
        simp
      have h2 := ih (pre ++ [y]) (by simp [hx])
      rw [List.length_append, List.length_singleton] at h2
      rw [List.length_cons, List.range'_succ, List.filter_cons, List.filter_cons, h1]
      split
      · rw [List.map_cons, List.map_cons, h1, h2]
      · exact h2
  have := key xs [] rfl
  rw [List.range_eq_range']
  exact this
theorem gLcAW_is {xs : List α} {enc : α → Tr} (hg : gs m = some (.ok m1)) (hr : ready m1 = some (⟨Γ, e :: s⟩, kd, xs.length)) (hv : viewE Γ e = some (.nd kd o (xs.map enc))) (hc : cpE e = true) (hl : xs.length ≤ 100000)
    (hmd : md.getD k false = false) (hk : Γ[k]? = some .no) (hΓ : Γ.map (killR k) = Γ) (hs : s.map (killR k) = s) (hke : killR k e = e) (hcp : ∀ x ∈ xs, cp (kid o (enc x)) = true) (p : α → Bool) (F : α → Tr)
    (R : List Ent → Prop) (hR : ∀ acc, R (e :: .tr (.nd .lst .own acc) :: s))
    (ht : ∀ x ∈ xs, ∀ s', R s' → gt ⟨Γ.set k (.tr (kid o (enc x))), s'⟩ = some (.ok ⟨Γ.set k (.tr (kid o (enc x))), .tr (.a (.bl (p x))) :: s'⟩))
    (he : ∀ x ∈ xs, ∀ s', R s' → p x = true → ge ⟨Γ.set k (.tr (kid o (enc x))), s'⟩ = some (.ok ⟨Γ.set k (.tr (kid o (enc x))), .tr (F x) :: s'⟩) ∧ esc (F x) = true) :
    gLc [k] gs (bind md k) gt ge m = some (.ok ⟨Γ, .tr (.nd .lst .own ((xs.filter p).map F)) :: s⟩) := by
  have at_ : ∀ {γ : Type} (f : α → γ) (d : γ) {j : Nat} {x : α}, xs[j]? = some x → atO xs f d j = f x := fun {γ} f d {j x} h => by unfold atO; rw [h]
  have hx : ∀ j, j < (xs.map enc).length → ∃ x ∈ xs, xs[j]? = some x := fun j hj => by
    have hj' : j < xs.length := by simpa using hj
    exact ⟨xs[j], List.getElem_mem hj', List.getElem?_eq_getElem hj'⟩
  rw [gLcW_is (s1 := []) (s := s) (Γ := Γ) (e := e) (kd := kd) (ts := xs.map enc) hg (by rw [List.length_map]; exact hr) hv hc (by simpa using hl) hmd hk hΓ hs hke (fun j => .tr (atO xs (fun x => kid o (enc x)) .any j)) (atO xs p false) (atO xs F .any)
    (fun j hj => by
      obtain ⟨x, hm, hx⟩ := hx j hj
      refine ⟨?_, .inl ⟨_, rfl⟩⟩
      rw [at_ _ _ hx]
      unfold kidX
      rw [List.getElem?_map, hx]
      simp only [Option.map_some]
      rw [if_pos (hcp x hm)])
    R hR (fun j s' hr hj => by
      obtain ⟨x, hm, hx⟩ := hx j hj
      rw [at_ _ _ hx, at_ _ _ hx]
      exact ht x hm s' hr)
    (fun j s' hr hj hp => by
      obtain ⟨x, hm, hx⟩ := hx j hj
      rw [at_ _ _ hx] at hp ⊢
      rw [at_ _ _ hx]
      exact he x hm s' hr hp)]
  rw [List.length_map, atO_map]
theorem gLcA_is {xs : List α} {enc : α → Tr} (hg : gs m = some (.ok m1)) (hr : ready m1 = some (⟨Γ, e :: s⟩, kd, xs.length)) (hv : viewE Γ e = some (.nd kd o (xs.map enc))) (hc : cpE e = true) (hl : xs.length ≤ 100000)
    (hmd : md.getD k false = false) (hk : Γ[k]? = some .no) (hΓ : Γ.map (killR k) = Γ) (hs : s.map (killR k) = s) (hke : killR k e = e) (hcp : ∀ x ∈ xs, cp (kid o (enc x)) = true) (p : α → Bool) (F : α → Tr)
    (ht : ∀ x ∈ xs, ∀ s', gt ⟨Γ.set k (.tr (kid o (enc x))), s'⟩ = some (.ok ⟨Γ.set k (.tr (kid o (enc x))), .tr (.a (.bl (p x))) :: s'⟩))
    (he : ∀ x ∈ xs, ∀ s', p x = true → ge ⟨Γ.set k (.tr (kid o (enc x))), s'⟩ = some (.ok ⟨Γ.set k (.tr (kid o (enc x))), .tr (F x) :: s'⟩) ∧ esc (F x) = true) :
    gLc [k] gs (bind md k) gt ge m = some (.ok ⟨Γ, .tr (.nd .lst .own ((xs.filter p).map F)) :: s⟩) := gLcAW_is hg hr hv hc hl hmd hk hΓ hs hke hcp p F (fun _ => True) (fun _ => trivial) (fun x h s' _ => ht x h s') (fun x h s' _ => he x h s')
/-- the same where the source changes nothing -/
theorem gLcP_is {xs : List α} {enc : α → Tr} (e0 e : Ent) (kd : Nk) (o : Ow) (hg : gs ⟨Γ, s⟩ = some (.ok ⟨Γ, e0 :: s⟩)) (hr : ready ⟨Γ, e0 :: s⟩ = some (⟨Γ, e :: s⟩, kd, xs.length)) (hv : viewE Γ e = some (.nd kd o (xs.map enc))) (hc : cpE e = true) (hl : xs.length ≤ 100000)
    (hmd : md.getD k false = false) (hk : Γ[k]? = some .no) (hΓ : Γ.map (killR k) = Γ) (hs : s.map (killR k) = s) (hke : killR k e = e) (hcp : ∀ x ∈ xs, cp (kid o (enc x)) = true) (p : α → Bool) (F : α → Tr)
    (ht : ∀ x ∈ xs, ∀ s', gt ⟨Γ.set k (.tr (kid o (enc x))), s'⟩ = some (.ok ⟨Γ.set k (.tr (kid o (enc x))), .tr (.a (.bl (p x))) :: s'⟩))
    (he : ∀ x ∈ xs, ∀ s', p x = true → ge ⟨Γ.set k (.tr (kid o (enc x))), s'⟩ = some (.ok ⟨Γ.set k (.tr (kid o (enc x))), .tr (F x) :: s'⟩) ∧ esc (F x) = true) :
    gLc [k] gs (bind md k) gt ge ⟨Γ, s⟩ = some (.ok ⟨Γ, .tr (.nd .lst .own ((xs.filter p).map F)) :: s⟩) := gLcA_is hg hr hv hc hl hmd hk hΓ hs hke hcp p F ht he
theorem filt_true (l : List α) : l.filter (fun _ => true) = l := List.filter_eq_self.mpr fun _ _ => rfl
end
/-! lists of ints as trees -/
abbrev rowT (r : List Int) : Tr := .nd .lst .own (r.map iT)
theorem ixN_len {n : Nat} {i : Int} (h0 : 0 ≤ i) (h : i < n) : ixN n i = some i.toNat := by
  unfold ixN
  rw [if_pos h0, if_pos (by omega)]
theorem set_iT (xs : List Int) (i : Nat) (v : Int) : (xs.map iT).set i (.a (.int v)) = (xs.set i v).map iT := by simp
theorem mapk_iT (o : Ow) (xs : List Int) : (xs.map iT).map (kid o) = xs.map iT := by
  rw [List.map_map]
  rfl
theorem kidc_iT (o : Ow) : (kid o ∘ iT) = iT := rfl
theorem set_rowT (M : List (List Int)) (i : Nat) (r : List Int) : (M.map rowT).set i (.nd .lst .own (r.map iT)) = (M.set i r).map rowT := by simp
@[simp] theorem escL_row (M : List (List Int)) : escL (M.map rowT) = true := escL_map fun _ => rfl
theorem app_iT (xs : List Int) (x : Int) : xs.map iT ++ [.a (.int x)] = (xs ++ [x]).map iT := by simp
theorem app_map (xs ys : List Int) : xs.map iT ++ ys.map iT = (xs ++ ys).map iT := by simp
theorem kidL_iT (o : Ow) : ∀ xs : List Int, kidL o (xs.map iT) = xs.map iT
  | [] => rfl
  | x :: xs => by
    show kid o (iT x) :: kidL o (xs.map iT) = _
    rw [kidL_iT o xs]
    rfl
section
variable {Γ s : List Ent} {m : Ms} {x y z : Int} {n : Nat} {xs : List Int} {o : Ow}
theorem fMul_int (h : cMul x y = true) : fMul ⟨Γ, .tr (.a (.int y)) :: .tr (.a (.int x)) :: s⟩ = some (.ok ⟨Γ, .tr (.a (.int (x * y))) :: s⟩) := by
  simp [fMul, gOr, fP2, viewE, FI, h]
end
/-! data that may be compared -/
def Sh (n : Nat) (d : PyData) : Prop := d.canLay0 = true ∧ d.depth ≤ n
def ShAll (n : Nat) (ds : List PyData) : Prop := ∀ d ∈ ds, Sh n d
theorem canLayAll_of : ∀ (ds : List PyData), (∀ d ∈ ds, d.canLay0 = true) → PyData.canLayAll0 ds = true
  | [], _ => by simp only [PyData.canLayAll0]
  | d :: ds, h => by
    rw [PyData.canLayAll0, h d List.mem_cons_self, canLayAll_of ds fun x hx => h x (List.mem_cons_of_mem _ hx)]
    rfl
theorem depthAll_le {n : Nat} : ∀ (ds : List PyData), (∀ d ∈ ds, d.depth ≤ n) → PyData.depthAll ds ≤ n
  | [], _ => by simp only [PyData.depthAll]; exact Nat.zero_le _
  | d :: ds, h => by
    rw [PyData.depthAll]
    have h1 := h d List.mem_cons_self
    have h2 := depthAll_le ds fun x hx => h x (List.mem_cons_of_mem _ hx)
    omega
theorem Sh.tup {n : Nat} {ds : List PyData} (h : ShAll n ds) : Sh (n + 1) (.tuple ds) := by
  refine ⟨by rw [PyData.canLay0]; exact canLayAll_of ds fun d hd => (h d hd).1, ?_⟩
  rw [PyData.depth]
  have := depthAll_le ds fun d hd => (h d hd).2
  omega
theorem Sh.lst {n : Nat} {ds : List PyData} (h : ShAll n ds) : Sh (n + 1) (.list ds) := by
  refine ⟨by rw [PyData.canLay0]; exact canLayAll_of ds fun d hd => (h d hd).1, ?_⟩
  rw [PyData.depth]
  have := depthAll_le ds fun d hd => (h d hd).2
  omega
theorem Sh.int {n : Nat} (i : Int) : Sh n (.int i) := ⟨by simp only [PyData.canLay0], by simp only [PyData.depth]; exact Nat.zero_le _⟩
theorem Sh.bool {n : Nat} (b : Bool) : Sh n (.bool b) := ⟨by simp only [PyData.canLay0], by simp only [PyData.depth]; exact Nat.zero_le _⟩
theorem Sh.non {n : Nat} : Sh n .none := ⟨by simp only [PyData.canLay0], by simp only [PyData.depth]; exact Nat.zero_le _⟩
theorem Sh.str {n : Nat} {x : Str} (h : PyData.strOk x = true) : Sh n (.str x) := ⟨by simp only [PyData.canLay0]; exact h, by simp only [PyData.depth]; exact Nat.zero_le _⟩
theorem Sh.mono {n m : Nat} {d : PyData} (h : Sh n d) (l : n ≤ m) : Sh m d := ⟨h.1, Nat.le_trans h.2 l⟩
theorem ShAll.nil {n : Nat} : ShAll n [] := fun _ h => absurd h (by simp)
theorem ShAll.cons {n : Nat} {d : PyData} {ds : List PyData} (h : Sh n d) (k : ShAll n ds) : ShAll n (d :: ds) := fun x hx => by
  rcases List.mem_cons.mp hx with q | q
  · rw [q]
    exact h
  · exact k x q
theorem ShAll.map {α : Type} {n : Nat} {f : α → PyData} {l : List α} (h : ∀ x, Sh n (f x)) : ShAll n (l.map f) := fun d hd => by
  obtain ⟨x, _, rfl⟩ := List.mem_map.mp hd
  exact h x
theorem Sh.shaped {d : PyData} (h : Sh 64 d) : SeqAt.shaped d = true := by
  unfold SeqAt.shaped
  rw [h.1, decide_eq_true h.2]
  rfl
/-! comparing plain data -/
structure DD {α : Type} [DecidableEq α] (n : Nat) (dd : α → PyData) : Prop where
  sh : ∀ x, Sh n (dd x)
  eq : ∀ x y, PyData.eqv (dd x) (dd y) = decide (x = y)
theorem dd_int : DD 0 PyData.int := ⟨fun i => .int i, fun x y => by
  simp only [PyData.eqv]
  by_cases h : x = y <;> simp [h]⟩
section
variable {α : Type} [DecidableEq α] {n : Nat} {dd : α → PyData} {neg : Bool} {o o' : Ow}
theorem dd_all (h : DD n dd) : ∀ xs ys : List α, PyData.eqvAll (xs.map dd) (ys.map dd) = decide (xs = ys)
  | [], [] => by simp [PyData.eqvAll]
  | [], _ :: _ => by simp [PyData.eqvAll]
  | _ :: _, [] => by simp [PyData.eqvAll]
  | a :: r, b :: t => by
    simp only [List.map_cons, PyData.eqvAll, h.eq, dd_all h r t]
    by_cases h1 : a = b <;> by_cases h2 : r = t <;> simp [h1, h2]
theorem dd_list (h : DD n dd) : DD (n + 1) (fun xs : List α => .list (xs.map dd)) := ⟨fun _ => .lst (.map h.sh), fun x y => by
  simp only [PyData.eqv]
  exact dd_all h x y⟩
theorem dd_tup (h : DD n dd) : DD (n + 1) (fun xs : List α => .tuple (xs.map dd)) := ⟨fun _ => .tup (.map h.sh), fun x y => by
  simp only [PyData.eqv]
  exact dd_all h x y⟩
theorem toDL_map {enc : α → Tr} (h : ∀ x, toD (enc x) = some (dd x)) : ∀ xs : List α, toDL (xs.map enc) = some (xs.map dd)
  | [] => rfl
  | x :: xs => by
    rw [List.map_cons, toDL, h x, toDL_map h xs]
    rfl
theorem toD_iT (x : Int) : toD (iT x) = some (.int x) := rfl
theorem toD_row (r : List Int) : toD (.nd .lst o (r.map iT)) = some (.list (r.map .int)) := by
  rw [toD, toDL_map toD_iT]
theorem toD_tup (r : List Int) : toD (.nd .tup o (r.map iT)) = some (.tuple (r.map .int)) := by
  rw [toD, toDL_map toD_iT]
theorem toD_mat (M : List (List Int)) : toD (.nd .lst o (M.map rowT)) = some (.list (M.map fun r => .list (r.map .int))) := by
  rw [toD, toDL_map (dd := fun r => .list (r.map .int)) fun r => toD_row r]
theorem feq_of {k k' : Nk} {ts us : List Tr} {x y : α} (h : DD n dd) (hn : n ≤ 64) (h1 : toD (.nd k o ts) = some (dd x)) (h2 : toD (.nd k' o' us) = some (dd y)) : FEq neg (.nd k o ts) (.nd k' o' us) = some (.bl (if neg then !decide (x = y) else decide (x = y))) := by
  unfold FEq
  simp only [h1, h2, ((h.sh x).mono hn).shaped, ((h.sh y).mono hn).shaped, h.eq, true_and, if_true]
end
section
variable {neg : Bool} {o o' : Ow} {Γ s : List Ent} {e : Ent}
theorem FEq_row (r q : List Int) : FEq neg (.nd .lst o (r.map iT)) (.nd .lst o' (q.map iT)) = some (.bl (if neg then !decide (r = q) else decide (r = q))) := feq_of (dd_list dd_int) (by decide) (toD_row r) (toD_row q)
theorem FEq_tup (r q : List Int) : FEq neg (.nd .tup o (r.map iT)) (.nd .tup o' (q.map iT)) = some (.bl (if neg then !decide (r = q) else decide (r = q))) := feq_of (dd_tup dd_int) (by decide) (toD_tup r) (toD_tup q)
theorem FEq_mat (r q : List (List Int)) : FEq neg (.nd .lst o (r.map rowT)) (.nd .lst o' (q.map rowT)) = some (.bl (if neg then !decide (r = q) else decide (r = q))) := feq_of (dd_list (dd_list dd_int)) (by decide) (toD_mat r) (toD_mat q)
theorem FEq_pair (a b c d : Int) : FEq neg (.nd .tup o [.a (.int a), .a (.int b)]) (.nd .tup o' [.a (.int c), .a (.int d)]) = some (.bl (if neg then !decide (a = c ∧ b = d) else decide (a = c ∧ b = d))) := by
  have := FEq_tup (neg := neg) (o := o) (o' := o') [a, b] [c, d]
  simpa using this
theorem FEq_int (a b : Int) : FEq neg (.a (.int a)) (.a (.int b)) = some (.bl (if neg then !decide (a = b) else decide (a = b))) := by
  unfold FEq
  simp [scal]
theorem FEq_str (a b : Str) : FEq neg (.a (.str a)) (.a (.str b)) = some (.bl (if neg then !decide (a = b) else decide (a = b))) := by
  unfold FEq
  simp [scal]
theorem FEq_bl (a b : Bool) : FEq neg (.a (.bl a)) (.a (.bl b)) = some (.bl (if neg then !decide (a = b) else decide (a = b))) := by
  unfold FEq
  simp [scal]
theorem atoms_map {α : Type} {f : α → V} : ∀ xs : List α, atoms (xs.map fun x => Tr.a (f x)) = some (xs.map f)
  | [] => rfl
  | x :: xs => by
    rw [List.map_cons, atoms, atoms_map xs]
    rfl
theorem FIn_int (x : Int) (xs : List Int) (k : Nk) (hk : k = .lst ∨ k = .tup) : FIn neg (.a (.int x)) (.nd k o (xs.map iT)) = some (.bl (if neg then !decide (x ∈ xs) else decide (x ∈ xs))) := by
  have h1 : atoms (xs.map iT) = some (xs.map V.int) := atoms_map (f := V.int) xs
  have h2 : (xs.map V.int).all flatV = true := by simp [flatV]
  rcases hk with rfl | rfl
  all_goals
    unfold FIn
    simp only [h1]
    rw [if_pos ⟨rfl, h2⟩, inV_int]
theorem FIn_l (x : Int) (xs : List Int) : FIn neg (.a (.int x)) (.nd .lst o (xs.map iT)) = some (.bl (if neg then !decide (x ∈ xs) else decide (x ∈ xs))) := FIn_int x xs _ (.inl rfl)
theorem FIn_t (x : Int) (xs : List Int) : FIn neg (.a (.int x)) (.nd .tup o (xs.map iT)) = some (.bl (if neg then !decide (x ∈ xs) else decide (x ∈ xs))) := FIn_int x xs _ (.inr rfl)
end
/-! loops that look through things and may leave with an answer -/
section
variable {md : List Bool} {k n : Nat} {Γ s : List Ent} {gs : GS} {lo : Int} {t : Tr} {α : Type}
end
/-! isinstance of plain things -/
theorem kit_int_int : kitB "int" "int" = some true := by decide +kernel
theorem kit_int_bool : kitB "int" "bool" = some false := by decide +kernel
theorem kit_int_str : kitB "int" "str" = some false := by decide +kernel
theorem kit_int_list : kitB "int" "list" = some false := by decide +kernel
theorem kit_int_tuple : kitB "int" "tuple" = some false := by decide +kernel
theorem kit_int_dict : kitB "int" "dict" = some false := by decide +kernel
theorem kit_bool_int : kitB "bool" "int" = some true := by decide +kernel
theorem kit_bool_bool : kitB "bool" "bool" = some true := by decide +kernel
theorem kit_bool_str : kitB "bool" "str" = some false := by decide +kernel
theorem kit_bool_list : kitB "bool" "list" = some false := by decide +kernel
theorem kit_bool_tuple : kitB "bool" "tuple" = some false := by decide +kernel
theorem kit_bool_dict : kitB "bool" "dict" = some false := by decide +kernel
theorem kit_str_int : kitB "str" "int" = some false := by decide +kernel
theorem kit_str_bool : kitB "str" "bool" = some false := by decide +kernel
theorem kit_str_str : kitB "str" "str" = some true := by decide +kernel
theorem kit_str_list : kitB "str" "list" = some false := by decide +kernel
theorem kit_str_tuple : kitB "str" "tuple" = some false := by decide +kernel
theorem kit_str_dict : kitB "str" "dict" = some false := by decide +kernel
theorem kit_list_int : kitB "list" "int" = some false := by decide +kernel
theorem kit_list_bool : kitB "list" "bool" = some false := by decide +kernel
theorem kit_list_str : kitB "list" "str" = some false := by decide +kernel
theorem kit_list_list : kitB "list" "list" = some true := by decide +kernel
theorem kit_list_tuple : kitB "list" "tuple" = some false := by decide +kernel
theorem kit_list_dict : kitB "list" "dict" = some false := by decide +kernel
theorem kit_tuple_int : kitB "tuple" "int" = some false := by decide +kernel
theorem kit_tuple_bool : kitB "tuple" "bool" = some false := by decide +kernel
theorem kit_tuple_str : kitB "tuple" "str" = some false := by decide +kernel
theorem kit_tuple_list : kitB "tuple" "list" = some false := by decide +kernel
theorem kit_tuple_tuple : kitB "tuple" "tuple" = some true := by decide +kernel
theorem kit_tuple_dict : kitB "tuple" "dict" = some false := by decide +kernel
theorem kit_dict_int : kitB "dict" "int" = some false := by decide +kernel
theorem kit_dict_bool : kitB "dict" "bool" = some false := by decide +kernel
theorem kit_dict_str : kitB "dict" "str" = some false := by decide +kernel
theorem kit_dict_list : kitB "dict" "list" = some false := by decide +kernel
theorem kit_dict_tuple : kitB "dict" "tuple" = some false := by decide +kernel
theorem kit_dict_dict : kitB "dict" "dict" = some true := by decide +kernel
theorem kit_NoneType_int : kitB "NoneType" "int" = some false := by decide +kernel
theorem kit_NoneType_bool : kitB "NoneType" "bool" = some false := by decide +kernel
theorem kit_NoneType_str : kitB "NoneType" "str" = some false := by decide +kernel
theorem kit_NoneType_list : kitB "NoneType" "list" = some false := by decide +kernel
theorem kit_NoneType_tuple : kitB "NoneType" "tuple" = some false := by decide +kernel
theorem kit_NoneType_dict : kitB "NoneType" "dict" = some false := by decide +kernel
/-! places in short lists -/
theorem ixL_1_0 : ixN 1 0 = some 0 := rfl
theorem ixL_2_0 : ixN 2 0 = some 0 := rfl
theorem ixL_2_1 : ixN 2 1 = some 1 := rfl
theorem ixL_3_0 : ixN 3 0 = some 0 := rfl
theorem ixL_3_1 : ixN 3 1 = some 1 := rfl
theorem ixL_3_2 : ixN 3 2 = some 2 := rfl
theorem ixL_4_0 : ixN 4 0 = some 0 := rfl
theorem ixL_4_1 : ixN 4 1 = some 1 := rfl
theorem ixL_4_2 : ixN 4 2 = some 2 := rfl
theorem ixL_4_3 : ixN 4 3 = some 3 := rfl
theorem ixL_5_0 : ixN 5 0 = some 0 := rfl
theorem ixL_5_1 : ixN 5 1 = some 1 := rfl
theorem ixL_5_2 : ixN 5 2 = some 2 := rfl
theorem ixL_5_3 : ixN 5 3 = some 3 := rfl
theorem ixL_5_4 : ixN 5 4 = some 4 := rfl
theorem ixL_6_0 : ixN 6 0 = some 0 := rfl
theorem ixL_6_1 : ixN 6 1 = some 1 := rfl
theorem ixL_6_2 : ixN 6 2 = some 2 := rfl
theorem ixL_6_3 : ixN 6 3 = some 3 := rfl
theorem ixL_6_4 : ixN 6 4 = some 4 := rfl
theorem ixL_6_5 : ixN 6 5 = some 5 := rfl
theorem ixL_7_0 : ixN 7 0 = some 0 := rfl
theorem ixL_7_1 : ixN 7 1 = some 1 := rfl
theorem ixL_7_2 : ixN 7 2 = some 2 := rfl
theorem ixL_7_3 : ixN 7 3 = some 3 := rfl
theorem ixL_7_4 : ixN 7 4 = some 4 := rfl
theorem ixL_7_5 : ixN 7 5 = some 5 := rfl
theorem ixL_7_6 : ixN 7 6 = some 6 := rfl
theorem ixL_8_0 : ixN 8 0 = some 0 := rfl
theorem ixL_8_1 : ixN 8 1 = some 1 := rfl
theorem ixL_8_2 : ixN 8 2 = some 2 := rfl
theorem ixL_8_3 : ixN 8 3 = some 3 := rfl
theorem ixL_8_4 : ixN 8 4 = some 4 := rfl
theorem ixL_8_5 : ixN 8 5 = some 5 := rfl
theorem ixL_8_6 : ixN 8 6 = some 6 := rfl
theorem ixL_8_7 : ixN 8 7 = some 7 := rfl
theorem ixL_9_0 : ixN 9 0 = some 0 := rfl
theorem ixL_9_1 : ixN 9 1 = some 1 := rfl
theorem ixL_9_2 : ixN 9 2 = some 2 := rfl
theorem ixL_9_3 : ixN 9 3 = some 3 := rfl
theorem ixL_9_4 : ixN 9 4 = some 4 := rfl
theorem ixL_9_5 : ixN 9 5 = some 5 := rfl
theorem ixL_9_6 : ixN 9 6 = some 6 := rfl
theorem ixL_9_7 : ixN 9 7 = some 7 := rfl
theorem ixL_9_8 : ixN 9 8 = some 8 := rfl
theorem ixL_10_0 : ixN 10 0 = some 0 := rfl
theorem ixL_10_1 : ixN 10 1 = some 1 := rfl
theorem ixL_10_2 : ixN 10 2 = some 2 := rfl
theorem ixL_10_3 : ixN 10 3 = some 3 := rfl
theorem ixL_10_4 : ixN 10 4 = some 4 := rfl
theorem ixL_10_5 : ixN 10 5 = some 5 := rfl
theorem ixL_10_6 : ixN 10 6 = some 6 := rfl
theorem ixL_10_7 : ixN 10 7 = some 7 := rfl
theorem ixL_10_8 : ixN 10 8 = some 8 := rfl
theorem ixL_10_9 : ixN 10 9 = some 9 := rfl
theorem ixL_11_0 : ixN 11 0 = some 0 := rfl
theorem ixL_11_1 : ixN 11 1 = some 1 := rfl
theorem ixL_11_2 : ixN 11 2 = some 2 := rfl
theorem ixL_11_3 : ixN 11 3 = some 3 := rfl
theorem ixL_11_4 : ixN 11 4 = some 4 := rfl
theorem ixL_11_5 : ixN 11 5 = some 5 := rfl
theorem ixL_11_6 : ixN 11 6 = some 6 := rfl
theorem ixL_11_7 : ixN 11 7 = some 7 := rfl
theorem ixL_11_8 : ixN 11 8 = some 8 := rfl
theorem ixL_11_9 : ixN 11 9 = some 9 := rfl
theorem ixL_11_10 : ixN 11 10 = some 10 := rfl
theorem ixL_12_0 : ixN 12 0 = some 0 := rfl
theorem ixL_12_1 : ixN 12 1 = some 1 := rfl
theorem ixL_12_2 : ixN 12 2 = some 2 := rfl
theorem ixL_12_3 : ixN 12 3 = some 3 := rfl
theorem ixL_12_4 : ixN 12 4 = some 4 := rfl
theorem ixL_12_5 : ixN 12 5 = some 5 := rfl
theorem ixL_12_6 : ixN 12 6 = some 6 := rfl
theorem ixL_12_7 : ixN 12 7 = some 7 := rfl
theorem ixL_12_8 : ixN 12 8 = some 8 := rfl
theorem ixL_12_9 : ixN 12 9 = some 9 := rfl
theorem ixL_12_10 : ixN 12 10 = some 10 := rfl
theorem ixL_12_11 : ixN 12 11 = some 11 := rfl
/-! try .. except X as e, and isinstance(e, Y) in its suite -/
section
variable {X : Cx} {T : KT} {md : List Bool} {W Wout : WX} {c : Value} {i : Nat} {x n : Str} {body suite : List Stmt} {b₀ : Stmt} {np pos pos' : Pos} {gb : GS} {tab : List (Nat × Bool)} {gsu : Nat → Addr → GS}
def wpS (K : KC) (md : List Bool) (W : WX) (g : GS) : L2.TS := fun D σ H => ∃ c m us o, c.md = md ∧ EnvOk K c σ H m.g m.s us ∧ g m = some o ∧ PostS K c W us D o
theorem MSs.ps {sts : List Stmt} {g : GS} (h : MSs X T md W sts g) : PSs X sts (wpS (kcm X.K T) md W g) := by
  obtain ⟨t, p, s⟩ := h
  exact ⟨fun pins st σ H D I ⟨c, m, us, o, hc, E, hg, hp⟩ => p.run pins st σ H D I (s c σ H m us D o hc E hg hp)⟩
/-- the suite, run with the error a in slot i; what slot i held is forgotten at its end -/
def suR (md : List Bool) (i : Nat) (g : GS) (a : Addr) (Γ : List Ent) : Option Os := match bind md i ⟨Γ, [.tr (.a (.ref a))]⟩ with
  | some m1 => match g m1 with
    | some (.nx m2) => if i < m2.g.length then some (.nx (clr i m2)) else none
    | some (.rt t m2) => if i < m2.g.length then some (.rt t (clr i m2)) else none
    | _ => none
  | none => none
open Classical in
/-- tab: which errors are caught -/
noncomputable def sTry (md : List Bool) (i : Nat) (tab : List (Nat × Bool)) (gb : GS) (gsu : Nat → Addr → GS) : GS := fun m => match m.s with
  | _ :: _ => none
  | [] => match gb m with
    | some (.ex C g') => match tab.lookup C with
      | some true => if h : ∃ o, ∀ a, suR md i (gsu C a) a g' = some o then some (choose h) else none
      | some false => some (.ex C g')
      | none => none
    | r => r
theorem sTry_ex {m : Ms} {C : Nat} {g' : List Ent} {o : Os} (hs : m.s = []) (h1 : gb m = some (.ex C g')) (h2 : tab.lookup C = some true) (h3 : ∀ a, suR md i (gsu C a) a g' = some o) : sTry md i tab gb gsu m = some o := by
  unfold sTry
  rw [hs]
  simp only [h1, h2]
  have h : ∃ o, ∀ a, suR md i (gsu C a) a g' = some o := ⟨o, h3⟩
  rw [dif_pos h]
  have h4 := Classical.choose_spec h 0
  rw [h3 0] at h4
  exact h4.symm
def suN : Nat → Addr → GS := fun _ _ _ => none
def suC (k : Nat) (g : Addr → GS) (r : Nat → Addr → GS) : Nat → Addr → GS := fun C => if C = k then g else r C
structure SuOk (X : Cx) (T : KT) (md : List Bool) (c : Value) (sts : List Stmt) (tab : List (Nat × Bool)) (gsu : Nat → Addr → GS) : Prop where
  ma : ∀ C b, tab.lookup C = some b → PySem.W.exmOne X.K (.ref (T.et C)) c = some b
  su : ∀ C, tab.lookup C = some true → ∀ (a : Addr) (oe : Obj) (pn : List (Addr × Obj)), L2N.Zn (.ref (T.et C)) none oe → (∃ vs, oe.data = .fields vs) → MSs (X.suite a ((a, oe) :: pn)) T md WF sts (gsu C a)
theorem su_nil {sts : List Stmt} : SuOk X T md c sts [] suN := ⟨fun C b h => by simp at h, fun C h => by simp at h⟩
theorem su_T {sts : List Stmt} {k : Nat} {g : Addr → GS} (h : PySem.W.exmOne X.K (.ref (T.et k)) c = some true) (hs : ∀ (a : Addr) (oe : Obj) (pn : List (Addr × Obj)), L2N.Zn (.ref (T.et k)) none oe → (∃ vs, oe.data = .fields vs) → MSs (X.suite a ((a, oe) :: pn)) T md WF sts (g a)) (r : SuOk X T md c sts tab gsu) :
    SuOk X T md c sts ((k, true) :: tab) (suC k g gsu) := by
  refine ⟨fun C b e => ?_, fun C e => ?_⟩
  · by_cases q : C = k
    · subst q
      simp at e
      rw [e]
      exact h
    · rw [List.lookup_cons, beq_false_of_ne q] at e
      exact r.ma C b e
  · by_cases q : C = k
    · subst q
      unfold suC
      rw [if_pos rfl]
      exact hs
    · rw [List.lookup_cons, beq_false_of_ne q] at e
      unfold suC
      rw [if_neg q]
      exact r.su C e
theorem clr_post {K : KC} {cz : Cz} {σ' : St} {H' : Hp} {m2 : Ms} {us : List V} (E : EnvOk K cz σ' H' m2.g m2.s us) (hi : i < m2.g.length) : EnvOk K cz (σ'.set i none) H' (clr i m2).g (clr i m2).s us := by
  refine (E.clr hi).reσ (by simp) fun j e he => ?_
  by_cases q : j = i
  · subst q
    left
    have he : ((m2.g.map (killR j)).set j .no)[j]? = some e := he
    rw [List.getElem?_set_self (by simpa using hi)] at he
    cases he
    rfl
  · right
    rw [List.getElem?_set_ne (fun z => q z.symm)]
theorem ms_try (hs : X.stack = X.env :: X.outer) (hf : X.env.frame = some X.env.locals) (hN : X.N.Nodup) (hi : X.N[i]? = some n) (hln : X.env.kindOf n = some .local) (hc : Names X x c) (tk : Takes X W)
    (hb : ∀ (W' : WX) (pn : List (Addr × Obj)) (xe : Value → Shared → Prop), Takes (X.tr pn xe) W' → PassesOwn (model X.prog X.w) X.A X.env xe → MSs (X.tr pn xe) T md W' body gb)
    (su : SuOk X T md c (b₀ :: suite) tab gsu) : MS X T md W (.Try body [.ExceptHandler (some (.Name x np)) (some n) (b₀ :: suite) pos'] [] [] pos) (sTry md i tab gb gsu) := by
  refine ⟨_, L2N.ps_try_as (tb := fun W' => wpS (kcm X.K T) md W' gb) (ts := fun a cls d D σ H => ∃ C, tab.lookup C = some true ∧ cls = .ref (T.et C) ∧ d = none ∧ wpS (kcm X.K T) md WF (gsu C a) D σ H) (Wout := W) hs hf hN hi hln hc tk (fun W' pn xe tk' po => (hb W' pn xe tk' po).ps) ?_, ?_⟩
  · intro a oe cls d pn hz hfl
    refine ⟨fun pins s σ H D I h => ?_⟩
    obtain ⟨C, hC, rfl, rfl, h⟩ := h
    exact (su.su C hC a oe pn hz hfl).ps.run pins s σ H D I h
  · intro cz σ H m us D o hmd E hg hp
    have hl := tail_len E
    unfold sTry at hg
    cases hms : m.s with
    | cons e s => rw [hms] at hg; cases hg
    | nil =>
      rw [hms] at hg hl
      simp only at hg
      have hus : us = [] := List.length_eq_zero_iff.mp hl.symm
      subst hus
      cases h1 : gb m with
      | none => rw [h1] at hg; cases hg
      | some o1 =>
        refine ⟨cz, m, [], o1, hmd, E, h1, ?_⟩
        rw [h1] at hg
        cases o1 with
        | nx m1 => cases hg; exact hp
        | rt t m1 => cases hg; exact hp
        | bk m1 => cases hg; exact hp
        | ct m1 => cases hg; exact hp
        | ex C g' =>
          simp only at hg
          cases hq : tab.lookup C with
          | none => rw [hq] at hg; cases hg
          | some b =>
            rw [hq] at hg
            cases b with
            | false =>
              cases hg
              exact fun σ' H' E' => ⟨false, su.ma C false hq, fun (z : false = true) => (Bool.false_ne_true z).elim, fun _ => hp σ' H' E'⟩
            | true =>
              simp only at hg
              split at hg
              · rename_i h
                cases hg
                have h3 := Classical.choose_spec h
                generalize Classical.choose h = o at *
                refine fun σ' H' E' => ⟨true, su.ma C true hq, fun _ a na => ⟨C, hq, rfl, rfl, ?_⟩, fun (z : true = false) => (Bool.false_ne_true z.symm).elim⟩
                have h4 := h3 a
                unfold suR at h4
                split at h4
                · rename_i m1 hb1
                  have E2 : EnvOk (kcm X.K T) cz (σ'.set i (some (.ref a))) H' m1.g m1.s [] := bind_ok (m := ⟨g', [.tr (.a (.ref a))]⟩) hmd (E'.atom (.ref a)) hb1
                  split at h4
                  · rename_i m2 hg2
                    split at h4
                    · rename_i hlt
                      cases h4
                      exact ⟨cz, m1, [], _, hmd, E2, hg2, fun σ3 H3 E3 => hp _ H3 (clr_post E3 hlt)⟩
                    · cases h4
                  · rename_i t m2 hg2
                    split at h4
                    · rename_i hlt
                      cases h4
                      exact ⟨cz, m1, [], _, hmd, E2, hg2, fun σ3 v H3 E3 => hp _ v H3 (clr_post (m2 := ⟨m2.g, .tr t :: m2.s⟩) E3 hlt)⟩
                    · cases h4
                  · cases h4
                · cases h4
              · cases hg
/-- isinstance(e, Y), e the error a in slot i -/
def gIsE (i : Nat) (a : Addr) (b : Bool) : GE := fun m => match m.g[i]? with
  | some (.tr (.a (.ref y))) => if y = a then some (.ok ⟨m.g, .tr (.a (.bl b)) :: m.s⟩) else none
  | _ => none
theorem me_isE {a D Y : Addr} {oe : Obj} {pn : List (Addr × Obj)} {en dn : Str} {pe pd pi ps : Pos} {b : Bool} (hex : ExcC X.K D) (hz : L2N.Zn (.ref D) none oe) (hfl : ∃ vs, oe.data = .fields vs) (hk : PySem.W.kitOne X.K (.ref D) (.ref Y) = some b) (hg : Gl (X.suite a ((a, oe) :: pn)) "isinstance") (hm : X.mg "isinstance" = none)
    (hv : bootBuiltins "isinstance" = some (.builtin "isinstance")) (he : PE (X.suite a ((a, oe) :: pn)) (.Name en pe) (tVar i)) (hd : PE (X.suite a ((a, oe) :: pn)) (.Name dn pd) (tC (.ref Y)))
    (hst1 : starEach [.Name en pe, .Name dn pd] (X.suite a ((a, oe) :: pn)).env = (false, eval (.Name en pe) (X.suite a ((a, oe) :: pn)).env) :: starEach [.Name dn pd] (X.suite a ((a, oe) :: pn)).env := by rfl)
    (hst2 : starEach [.Name dn pd] (X.suite a ((a, oe) :: pn)).env = (false, eval (.Name dn pd) (X.suite a ((a, oe) :: pn)).env) :: starEach [] (X.suite a ((a, oe) :: pn)).env := by rfl)
    (hpl : (backTo ps (starEach [.Name dn pd] (X.suite a ((a, oe) :: pn)).env)).any (·.1) = false := by rfl) :
    ME (X.suite a ((a, oe) :: pn)) T md W (.Call (.Name "isinstance" pi) [.Name en pe, .Name dn pd] [] ps) (gIsE i a b) := by
  refine ⟨_, pe_callB (call_isE hex hz.zc hfl) hg hm hv (pa_cons he (pa_cons hd pa_nil hst2) hst1) (by decide) (by rfl) hst1 hpl, ?_⟩
  intro cz σ H m us Q r hmd E hg' hp
  unfold gIsE at hg'
  split at hg'
  · rename_i y hy
    split at hg'
    · rename_i hya
      cases hg'
      subst hya
      obtain ⟨v, hv1, E1⟩ := E.var hy rfl
      have hv2 : v = .ref y := top_a E1
      subst hv2
      exact ⟨_, hv1, _, _, b, rfl, fun u hu => by cases hu; rfl, hk, hp _ _ (E.atom (.bl b))⟩
    · cases hg'
  · cases hg'
end
/-! a name that a comprehension takes for its own: what it held is forgotten -/
section
variable {X : Cx} {T : KT} {md : List Bool} {W : WX} {i : Nat} {e : Expr} {st : Stmt} {g : GE} {gs : GS}
def gClr (i : Nat) (g : GE) : GE := fun m => if i < m.g.length then g (clr i m) else none
def sClr (i : Nat) (g : GS) : GS := fun m => if i < m.g.length then g (clr i m) else none
theorem me_clr (h : ME X T md W e g) : ME X T md W e (gClr i g) := by
  obtain ⟨t, p, s⟩ := h
  refine ⟨t, p, fun c σ H m us Q r hc E hg hp => ?_⟩
  unfold gClr at hg
  split at hg
  · rename_i hi
    exact s c σ H (clr i m) us Q r hc (E.clr hi) hg hp
  · cases hg
end
/-! two dicts without entries are equal -/
section
variable {K : KC} {md : List Bool} {W : WX}
def FEqE : Tr → Tr → Option V
  | .nd (.dct []) .own [], .nd (.dct []) .own [] => some (.bl true)
  | _, _ => none
def fEqE : GE := fP2 FEqE
end
/-! a loop that leaves at the first that it looks for -/
section
variable {md : List Bool} {k n : Nat} {Γ s : List Ent} {gs : GS} {lo : Int}
end
/-! things that no store can forget -/
theorem killR_tr {i : Nat} {t : Tr} : killR i (.tr t) = .tr t := rfl
theorem killR_no {i : Nat} : killR i .no = .no := rfl
theorem killR_al {i : Nat} {q : List Nat} : killR i (.al q) = if q.head? = some i then .no else .al q := rfl
theorem killE_tr {p : List Nat} {t : Tr} : killE p (.tr t) = .tr t := rfl
theorem killE_no {p : List Nat} : killE p .no = .no := rfl
theorem killE_al {p q : List Nat} : killE p (.al q) = if nbel p q = true then .al q else .no := rfl
theorem killJ_tr {p : List Nat} {t : Tr} : killJ p (.tr t) = .tr t := rfl
theorem killJ_no {p : List Nat} : killJ p .no = .no := rfl
theorem killJ_al {p q : List Nat} : killJ p (.al q) = if pre p q = true then .no else .al q := rfl
structure Nal (x : Ent) : Prop where
  kr : ∀ i, killR i x = x
  ke : ∀ p, killE p x = x
  kj : ∀ p, killJ p x = x
theorem nal_no : Nal .no := ⟨fun _ => rfl, fun _ => rfl, fun _ => rfl⟩
theorem nal_tr {t : Tr} : Nal (.tr t) := ⟨fun _ => rfl, fun _ => rfl, fun _ => rfl⟩
section
variable {K : KC} {X : Cx} {T : KT} {md : List Bool} {W : WX} {g ge : GE} {te t : TE} {e : Expr} {pos p p2 : Pos} {lo hi : Option Expr}
end
section
variable {K : KC} {X : Cx} {T : KT} {md : List Bool} {W : WX} {c : Cz} {σ : St} {H : Hp} {Γ τ : List Ent} {us : List V}
theorem EnvOk.atoms : ∀ (xs : List V), EnvOk K c σ H Γ τ us → EnvOk K c σ H Γ (xs.map (fun v => Ent.tr (.a v)) ++ τ) (xs ++ us)
  | [], E => E
  | x :: xs, E => (EnvOk.atoms xs E).atom x
theorem escL_atoms {α : Type} (f : α → V) (xs : List α) : escL (xs.map fun x => Tr.a (f x)) = true := by
  rw [escL_all]
  intro t ht
  obtain ⟨x, _, rfl⟩ := List.mem_map.mp ht
  rfl
/-! xs.extend(ys) -/
def fExt : GE := fun m => match m.s with
  | e :: .al p :: s => match viewE m.g e with
    | some (.nd .lst o us) => match itemsE e o us, getG m.g p with
      | some us', some (.nd .lst .own ts) => if escL us' = true ∧ ts.length + us.length ≤ sizeLine then some (.ok ⟨kill p (setG m.g p (.nd .lst .own (ts ++ us'))), .tr (.a .non) :: kill p s⟩) else none
      | _, _ => none
    | _ => none
  | _ => none
theorem escL_app2 {ts us : List Tr} (h : escL ts = true) (he : escL us = true) : escL (ts ++ us) = true := by
  rw [escL_all] at h he ⊢
  intro y hy
  rcases List.mem_append.mp hy with z | z
  · exact h y z
  · exact he y z
theorem fExt_ok : RM K md W 1 rExtend fExt := by
  intro c σ H m us vs x Q rr hc hl E hf hp
  match vs, hl with
  | [y], _ =>
    unfold fExt at hf
    split at hf
    · rename_i e p s hs
      split at hf
      · rename_i o ws hv
        split at hf
        · rename_i us' ts hi hg
          split at hf
          · rename_i he
            cases hf
            rw [hs] at E
            obtain ⟨b, zs, rfl, hb, hlz, eus, E1⟩ := EnvOk.items E hv hi
            have hb : H b = some (.lst zs) := hb
            have hl' : us'.length = zs.length := by rw [eus]; simpa using hlz
            have E2 := EnvOk.revs (ts := us') (vs := zs) hl' E1
            have E3 : EnvOk K c σ H m.g (.al p :: (us'.map Ent.tr ++ s)) (x :: (zs ++ us)) := EnvOk.permA (A := us'.map Ent.tr) (B := [.al p]) (vb := [x]) (by simpa using hl') rfl E2
            have hes := E3.escAt hg (by simp)
            obtain ⟨Z, ws', Φ, Ψ, EE⟩ := id E3
            obtain ⟨Θ, a, vs, Ξ, rfl, ho, hlr, hn⟩ := EE.view (n := 0) (e := .al p) rfl rfl hg
            have ho : H a = some (.lst vs) := ho
            have hlen := RepL.len _ hlr
            refine ⟨a, b, vs, zs, rfl, rfl, ho, hb, by rw [← hlen, ← hlz]; exact he.2, hp _ _ ?_⟩
            obtain ⟨a', e', E4⟩ := EnvOk.modP (ins := us') (us1 := zs) (outs := []) (vouts := []) (k' := .lst) (ts' := ts ++ us') (ob := .lst (vs ++ zs)) (τ := s) (us := us) E3 hl' hg (by simp) (by simp) (fun a2 vs2 e2 ho2 l2 => by
              cases e2
              have ho2 : H a = some (.lst vs2) := ho2
              rw [ho] at ho2
              cases ho2
              exact ⟨vs ++ zs, by simp [l2, hl'], upd_same, fun Z Ψa Ψb r1 r2 d => ⟨_, by simpa using RepL.append _ r1 r2 d, fun b q => q⟩⟩) rfl (escL_app2 hes he.1)
            cases e'
            exact EnvOk.atom (by simpa using E4) .non
          · cases hf
        · cases hf
      · cases hf
    · cases hf
end
/-! a dict that is lent or frozen, locked while it is walked -/
/-- the same call, the thing at d being ob all the while -/
def Cz.pin (c : Cz) (d : Addr) (ob : HO) (z : Prop) : Cz := ⟨fun b => if b = d then some ob else c.H0 b, fun b => b ≠ d ∧ c.F0 b, fun b => c.S0 b ∨ (b = d ∧ z), c.md, c.vs⟩
section
variable {K : KC} {Z : Zn} {H : Hp} {d : Addr} {ob ob' : HO} {od : Obj} {kvs : List (Key × V)} {c : Cz} {ws us : List V} {Φ Ψ : Ps} {σ : St} {Γ τ : List Ent}
def LkP (ob ob' : HO) (od : Obj) (kvs : List (Key × V)) : Prop := (ob = .dK kvs ∧ ob' = .frz od (.dK kvs)) ∨ (ob = .frz od (.dK kvs) ∧ ob' = .dK kvs)
theorem LkP.rd {kv : List (Key × V)} (h : LkP ob ob' od kvs) (e : H d = some ob) (r : Rd H d (.dK kv)) : Rd (upd H d ob') d (.dK kv) := by
  have ek : kv = kvs := by
    rcases r with r | ⟨o, r⟩ <;> rw [e] at r <;> rcases h with ⟨rfl, _⟩ | ⟨rfl, _⟩ <;> cases r <;> rfl
  subst ek
  rcases h with ⟨_, rfl⟩ | ⟨_, rfl⟩
  · exact .inr ⟨od, upd_same⟩
  · exact .inl upd_same
theorem LkP.tsk (h : LkP ob ob' od kvs) (e : H d = some ob) : TSK K H (upd H d ob') := fun a xs q => by
  by_cases ea : a = d
  · rw [ea, e] at q
    rcases h with ⟨rfl, _⟩ | ⟨rfl, _⟩ <;> cases q
  · rw [upd_ne ea]; exact q
theorem LkP.obj {k : Nk} {o : Ow} {a : Addr} {vs : List V} (h : LkP ob ob' od kvs) (e : H d = some ob) (ho : ObjAt K k o H a vs) (hn : k ≠ .tup → o = .own → a ≠ d) : ObjAt K k o (upd H d ob') a vs := by
  by_cases ea : a = d
  · subst ea
    have no : k ≠ .tup → o ≠ .own := fun hk q => hn hk q rfl
    cases k with
    | lst =>
      have ho : H a = some (.lst vs) := ho
      rw [e] at ho
      rcases h with ⟨rfl, _⟩ | ⟨rfl, _⟩ <;> cases ho
    | tup => exact ho.imp (h.tsk (K := K) e a vs) id
    | ins n j =>
      obtain ⟨_, dx, ho⟩ := ho
      rw [e] at ho
      rcases h with ⟨rfl, _⟩ | ⟨rfl, _⟩ <;> cases ho
    | dcT ks =>
      obtain ⟨bs, _, _, _, _, _, _, ho⟩ := ho
      rw [e] at ho
      rcases h with ⟨rfl, _⟩ | ⟨rfl, _⟩ <;> cases ho
    | sti l =>
      obtain ⟨_, _, ho⟩ := ho
      rw [e] at ho
      rcases h with ⟨rfl, _⟩ | ⟨rfl, _⟩ <;> cases ho
    | dct ks =>
      have := no (by simp)
      cases o with
      | own => exact absurd rfl this
      | frz => exact ⟨ho.1, h.rd e ho.2⟩
      | lnt => exact ⟨ho.1, h.rd e ho.2⟩
  · exact ho.fr (fun _ ob q => by rw [upd_ne ea]; exact q) (h.tsk e)
theorem Ev.at_ (E : Ev K (c.pin d ob z) Z ws Φ Ψ σ H Γ τ us) : H d = some ob := by
  obtain ⟨o', h1, h2⟩ := E.st d ob (by show (if d = d then some ob else c.H0 d) = some ob; rw [if_pos rfl])
  rw [h1, h2 fun q => q.1 rfl]
end
/-! x in d; for x in d -/
section
variable {K : KC} {X : Cx} {T : KT} {md : List Bool} {W : WX} {c : Cz} {σ : St} {H : Hp} {us : List V} {i : Nat} {bd : Ms → Option Ms} {gb : GS} {gs g : GE} {te : TE} {tg iter : Expr} {body : List Stmt} {pos : Pos} {oo : Os}
theorem valV_zip0 : ∀ {ks : List Key} {vs : List V} {k : Key}, kix k ks = none → valV (ks.zip vs) k = none
  | [], _, _, _ => rfl
  | x :: ks, [], _, _ => rfl
  | x :: ks, y :: vs, k, h => by
    have h0 := kix_none h
    have ne : ¬ x = k := fun e => h0 (by simp [e])
    simp only [kix, if_neg ne, Option.map_eq_none_iff] at h
    rw [List.zip_cons_cons, valV_neg ne, valV_zip0 h]
def FInD (neg : Bool) : Tr → Tr → Option V
  | .a x, .nd (.dct ks) _ _ => match keyOf x with
    | some k => some (.bl (if neg then !(kix k ks).isSome else (kix k ks).isSome))
    | none => none
  | _, _ => none
def rInK (neg : Bool) : R2 := fun x y H Q => ∃ a o, y = .ref a ∧ DGet H a x o ∧ Q (.bl (if neg then !o.isSome else o.isSome)) H
theorem op_inK (hu : X.A.units + 1 < cLine) : OpR X (compareOp .In) (rInK false) := by
  intro pins s σ H x y v u Q I rx ry h
  obtain ⟨a, o, rfl, g, q⟩ := h
  cases ry
  exact d_in hu I g rx fun s' I' => ⟨.bl o.isSome, H, I', rfl, q⟩
theorem op_notInK (hu : X.A.units + 1 < cLine) : OpR X (compareOp .NotIn) (rInK true) := by
  intro pins s σ H x y v u Q I rx ry h
  obtain ⟨a, o, rfl, g, q⟩ := h
  cases ry
  exact d_notIn hu I g rx fun s' I' => ⟨.bl (!o.isSome), H, I', rfl, q⟩
theorem fInD_ok {neg : Bool} : RA2 K md W (rInK neg) (fP2 (FInD neg)) := fP2_ok fun Z H x y tx ty u Φ Ψ Q r1 r2 e q => by
  unfold FInD at e
  split at e
  · rename_i v ks o ts
    split at e
    · rename_i k hk
      cases e
      obtain ⟨rfl, _⟩ := r1
      obtain ⟨ad, vs', Ξ, rfl, ho, hl, _⟩ := r2
      obtain ⟨l, hr⟩ := ObjAt.rd ho
      have e : (valV (ks.zip vs') k).isSome = (kix k ks).isSome := by
        cases hj : kix k ks with
        | none => rw [valV_zip0 hj]; rfl
        | some j =>
          rw [valV_zip hj l]
          have := getq_lt' (kix_at hj)
          rw [List.getElem?_eq_getElem (by omega)]
          rfl
      rw [← e] at q
      exact ⟨ad, _, rfl, .inl ⟨_, k, hr, keyOf_kV hk, rfl⟩, q⟩
    · cases e
  · cases e
def fInA : GE := gOr fIn (fP2 (FInD false))
def fNotInA : GE := gOr fNotIn (fP2 (FInD true))
theorem op_inA (hu : X.A.units + 64 < cLine) : OpR X (compareOp .In) (fun x y H Q => rIn X.K false x y H Q ∨ rInK false x y H Q) := op_in_seq.or (op_inK (by omega))
theorem op_notInA (hu : X.A.units + 64 < cLine) : OpR X (compareOp .NotIn) (fun x y H Q => rIn X.K true x y H Q ∨ rInK true x y H Q) := op_notIn_seq.or (op_notInK (by omega))
theorem fInA_ok : RA2 K md W (fun x y H Q => rIn K.K false x y H Q ∨ rInK false x y H Q) fInA := fIn_ok.or fInD_ok
theorem fNotInA_ok : RA2 K md W (fun x y H Q => rIn K.K true x y H Q ∨ rInK true x y H Q) fNotInA := fIn_ok.or fInD_ok
theorem PS.or {st : Stmt} {t1 t2 : L2.TS} (h1 : PS X st t1) (h2 : PS X st t2) : PS X st (fun D σ H => t1 D σ H ∨ t2 D σ H) := by
  refine ⟨fun pins s σ H D I h => ?_⟩
  rcases h with h | h
  · exact h1.run pins s σ H D I h
  · exact h2.run pins s σ H D I h
end
/-! walks: more general laws; keys that are walked; slices -/
section
variable {bd : Ms → Option Ms} {gs : GS} {lo : Int} {n : Nat} {t : Tr}
end
section
variable {α : Type}
end
section
variable {α : Type} {gs : GS} {bd : Ms → Option Ms} {t : Tr} {s : List Ent}
end
/-! try with several clauses, no names; is not True -/
section
variable {X : Cx} {T : KT} {md : List Bool} {W : WX} {body : List Stmt} {pos : Pos} {gb : GS}
end
section
variable {K : KC} {md : List Bool} {W : WX}
def fNotB : GE := fP2 (FIsB true)
end
/-! tuples of the written part; x in o by an own __contains__ -/
section
variable {K : KC} {X : Cx} {T : KT} {md : List Bool} {W : WX} {t : Tr} {ts : List Tr} {v : V} {vs : List V} {a : Addr} {e : Expr} {pos : Pos}
def ConM (K : KC) (t : Tr) (v : V) : Prop := ∀ (m : Ow) (Z : Zn) (H : Hp), Rep K Z H m t v (fun _ => False)
def ConL (K : KC) (ts : List Tr) (vs : List V) : Prop := ∀ (m : Ow) (Z : Zn) (H : Hp), RepL K Z H m ts vs (fun _ => False)
theorem con_a : ConM K (.a v) v := fun _ _ _ => ⟨rfl, fun _ h => h⟩
theorem con_nil : ConL K [] [] := fun _ _ _ => ⟨rfl, fun _ h => h⟩
theorem con_cons (h : ConM K t v) (r : ConL K ts vs) : ConL K (t :: ts) (v :: vs) := fun m Z H => ⟨v, vs, _, _, rfl, h m Z H, r m Z H, by simp, by simp⟩
theorem eff_frz (m : Ow) : eff m .frz = .frz := by cases m <;> rfl
theorem con_tup (h : SqT K.K (fun _ => none) a vs) (r : ConL K ts vs) : ConM K (.nd .tup .frz ts) (.ref a) := fun m Z H => by
  refine ⟨a, vs, fun _ => False, rfl, .inr h, r _ Z H, ?_⟩
  rw [eff_frz]
  exact fun b h => h
/-- a tuple of the written part -/
theorem sqt_w {K : PySem.W.Frag} {a : Addr} {its : Array Value} {n : Nat} {od : Option Addr} {sl : Array (Option Value)} {vs : List V} (h : K.lookup a = some ⟨.type "tuple", od, .seq its n, sl⟩) (hs : its.size ≤ sizeLine) (r : Vals vs its.toList) : SqT K (fun _ => none) a vs := .inr ⟨_, its, n, h, rfl, rfl, hs, r⟩
def gCon (t : Tr) : GE := fun m => some (.ok ⟨m.g, .tr t :: m.s⟩)
theorem EnvOk.con {c : Cz} {σ : St} {H : Hp} {Γ τ : List Ent} {us : List V} (E : EnvOk K c σ H Γ τ us) (h : ConM K t v) : EnvOk K c σ H Γ (.tr t :: τ) (v :: us) := by
  obtain ⟨Z, ws, Φ, Ψ, EE⟩ := E
  refine EE.swapE (τ1 := []) (us1 := []) (τ1' := [.tr t]) (us1' := [v]) rfl (by simp) (fun Ψ1 r zo => ?_) rfl
  have n0 : ∀ b, ¬ Ψ1 b := r.2
  exact ⟨Z, fun _ => False, ⟨v, [], _, _, rfl, h .own Z H, ⟨rfl, fun _ h => h⟩, by simp, by simp⟩, ⟨fun _ h => h, fun _ h => h, fun _ h => .inl h, fun _ h => .inl h, fun b q => EE.zs b q, fun b ob e _ => e, fun b q => absurd q (n0 b), fun b q => q.elim⟩⟩
/-- C.f, a tuple of the written part -/
theorem me_cvalT {u : Value} {mc : Value} {C : Addr} {me : Str} (he : PE X e (tC (.ref C))) (r : ClX.CRead X.K C mc) (k : ClX.CVal X.K C mc me v u) (rt : ConM (kcm X.K T) t v) (hb : attributeBase e me X.env (eval e X.env) = eval e X.env := by rfl) : ME X T md W (.Attribute e me pos) (gCon t) := by
  refine ⟨_, ClX.pe_cval he hb, fun c σ H m us Q rr hc E hg hp => ?_⟩
  cases hg
  exact ⟨C, mc, v, u, rfl, r, k, hp v H (E.con rt)⟩
/-- o.f, a constant of o's class -/
inductive ConTab (K : PySem.W.Frag) (T : KT) (f : Str) : List (Nat × Tr) → Prop
  | nil : ConTab K T f []
  | cons {n : Nat} {t : Tr} {v : V} {u : Value} {l : List (Nat × Tr)} (c : Cls K (T.ct n)) (k : Con K (T.ct n) f v u) (h : ConM (kcm K T) t v) (no : (T.nm n).idxOf? f = none) (r : ConTab K T f l) : ConTab K T f ((n, t) :: l)
def fCon (tab : List (Nat × Tr)) : GE := fun m => match m.s with
  | e :: s => match viewE m.g e with
    | some (.nd (.ins n _) _ _) => match tab.lookup n with
      | some t => some (.ok ⟨m.g, .tr t :: s⟩)
      | none => none
    | _ => none
  | _ => none
theorem ConTab.get {K : PySem.W.Frag} {f : Str} {tab : List (Nat × Tr)} (h : ConTab K T f tab) {n : Nat} {t : Tr} (e : tab.lookup n = some t) : ∃ v u, Cls K (T.ct n) ∧ Con K (T.ct n) f v u ∧ ConM (kcm K T) t v ∧ (T.nm n).idxOf? f = none := by
  induction h with
  | nil => simp at e
  | @cons n' t' v u l c k h no r ih =>
    by_cases q : n = n'
    · subst q
      simp at e
      subst e
      exact ⟨v, u, c, k, h, no⟩
    · rw [List.lookup_cons, beq_false_of_ne q] at e
      exact ih e
theorem me_iCon {f : Str} {tab : List (Nat × Tr)} {go : GE} (ho : ME X T md W e go) (ht : ConTab X.K T f tab) (hb : attributeBase e f X.env (eval e X.env) = eval e X.env := by rfl) : ME X T md W (.Attribute e f pos) (gSeq go (fCon tab)) := by
  obtain ⟨te, pe, se⟩ := ho
  refine ⟨_, pe_con pe hb, fun c σ H m us Q rr hc E hg hp => ?_⟩
  simp only [gSeq] at hg
  split at hg
  · rename_i m1 h1
    refine se c σ H m us _ _ hc E h1 fun x H1 E1 => ?_
    unfold fCon at hg
    split at hg
    · rename_i en s hs
      split at hg
      · rename_i n k o ts hv
        split at hg
        · rename_i t hl
          cases hg
          rw [hs] at E1
          obtain ⟨a, vs, rfl, ⟨l, dx, hob⟩, _⟩ := viewObj E1 hv
          obtain ⟨v, u, c1, k1, cm, no⟩ := ht.get hl
          exact ⟨a, _, dx, _, v, u, rfl, hob, c1, k1, lookup_none (take_none no), hp v H1 (E1.drop.con cm)⟩
        · cases hg
      · cases hg
    · cases hg
  · rename_i h1
    refine se c σ H m us _ _ hc E hg ?_
    cases rr with
    | ex C g' => exact hp
    | ok m2 => exact absurd hg (h1 m2)
end
/-! own __contains__ -/
section
variable {X : Cx} {pins : List (Addr × Obj)} {σ : St} {H : Hp} {s : Shared} {a C dx f : Addr} {fs : List (Str × V)}
theorem inst_of (I : Inv X pins σ H s) (e : H a = some (.ins C dx fs)) : ∃ od, PySem.W.InstAt s.heap a (PySem.W.instObj C dx) C (some od) := by
  obtain ⟨mA, O, r, _, _, _⟩ := ins_get I.hok e
  obtain ⟨od, ho, _⟩ := lookIn_ns O.ns
  exact ⟨od, O.obj, rfl, rfl, ho⟩
theorem contains_own {u : Value} {Q : Bool → Shared → Prop} {E : Value → Shared → Prop} (I : Inv X pins σ H s) (e : H a = some (.ins C dx fs)) (m : Meth X.K C "__contains__" f)
    (h : wpAny (model X.prog X.w) X.A (call (.ref f) [.ref a, u]) (fun v s' => ∃ b, v = .bool b ∧ Q b s') E s) : wpAny (model X.prog X.w) X.A (contains (.ref a) u) Q E s := by
  obtain ⟨od, IA⟩ := inst_of I e
  have LS := IA.type (M := model X.prog X.w)
  have LF := PySem.W.looks_findIn (M := model X.prog X.w) I.kIn m.at_
  have hf : PySem.W.typeIn X.K (.ref f) = some (.type "function") := beq_iff_eq.mp m.fn
  unfold contains
  refine wpAny_holding ?_
  dsimp only [stdlibNamesSay?]
  refine wpAny_bind (wpAny_bind (LS.here (LF.here ?_)))
  rw [if_neg (by simp)]
  unfold callSpecialUnlessNone?
  refine wpAny_bind (wpAny_bind (wpAny_bind (LS.here (LF.here ?_))))
  refine wpAny_holding (wpAny_bind ((PySem.W.bind_fn I.kIn _ hf).here ?_))
  dsimp only
  rw [if_neg (by simp)]
  refine wpAny_bind (wpAny_mono h (fun v s' hv => ?_) fun _ _ z => z)
  obtain ⟨b, rfl, q⟩ := hv
  exact wpAny_pure (wpAny_truthy_bool q)
end
section
variable {K : KC} {X : Cx} {T : KT} {md mdc : List Bool} {W : WX} {a C dx f : Addr} {fd : FuncData} {ps : List Str} {kk n : Nat} {sp : Sp} {G : GF}
def rInO (C : Addr) (sp : Sp) (neg : Bool) : R2 := fun x y H Q => ∃ a dx fs, y = .ref a ∧ H a = some (.ins C dx fs) ∧ sp [y, x] H (fun v H' => ∃ b, v = .bl b ∧ Q (.bl (if neg then !b else b)) H') (fun _ _ _ => False)
theorem op_inO (m : Meth X.K C "__contains__" f) (F : FnOk X.prog X.w X.K X.mg X.base (L2N.CX X.prog X.w) kk f fd ps sp) (hr : Room kk X.A) (hb : Binds X.K fd ps []) : OpR X (compareOp .In) (rInO C sp false) := by
  intro pins s σ H x y v u Q I rx ry h
  obtain ⟨a, dx, fs, rfl, e, h⟩ := h
  obtain rfl : u = .ref a := ry
  show wpAny _ _ (contains (.ref a) v >>= fun b => pure (Value.bool b)) _ _ _
  refine wpAny_bind (contains_own I e m (wpAny_mono (run_fnS F hr hb (passAt (W := WF) takes0 σ) I (.cons (show RelV (.ref a) (.ref a) from rfl) (.cons rx .nil)) h) (fun w s' hw => ?_) fun _ _ z => z))
  obtain ⟨v', H', I', rv, b, rfl, q⟩ := hw
  obtain rfl : w = .bool b := rv
  exact ⟨b, rfl, wpAny_pure ⟨.bl b, _, I', rfl, q⟩⟩
/-- x in o: o of the class n, its __contains__ by its function on trees -/
def fInO (n : Nat) (mdc : List Bool) (G : GF) (neg : Bool) : GE := fun m => match m.s with
  | y :: x :: s => match chkI n ⟨m.g, y :: x :: s⟩ with
    | some _ => match gCall [] mdc G 2 ⟨m.g, x :: y :: s⟩ with
      | some (.ok ⟨g', .tr (.a (.bl b)) :: s'⟩) => some (.ok ⟨g', .tr (.a (.bl (if neg then !b else b))) :: s'⟩)
      | _ => none
    | none => none
  | _ => none
theorem fInO_ok {neg : Bool} : RA2 K md W (rInO (K.ct n) (spOf K mdc G) neg) (fInO n mdc G neg) := by
  refine .mk fun c σ H m us x y Q rr hc E hf hp => ?_
  unfold fInO at hf
  split at hf
  · rename_i ey ex s hs
    rw [hs] at E
    split at hf
    · rename_i r1 h1
      have E0 := E
      unfold chkI at h1
      dsimp only at h1
      split at h1
      · rename_i n' kf o ts hv
        split at h1
        · rename_i hn
          subst hn
          obtain ⟨a, vs, rfl, ⟨l, dx, ho⟩, _⟩ := viewObj E0 hv
          refine ⟨a, dx, _, rfl, ho, ?_⟩
          have E1 : EnvOk K c σ H m.g ([ex] ++ ([ey] ++ s)) ([x] ++ ([.ref a] ++ us)) := EnvOk.permA (A := [ey]) (B := [ex]) (va := [.ref a]) (vb := [x]) rfl rfl E
          split at hf
          · rename_i g' b s' h2
            cases hf
            refine gCall_ok (W := WF) (is := []) (by simp) (by simp) c σ H ⟨m.g, ex :: ey :: s⟩ us [.ref a, x] _ _ hc rfl E1 h2 ?_
            intro v H' E3
            obtain rfl := top_a E3
            exact ⟨b, rfl, hp _ _ (E3.drop.atom _)⟩
          · cases hf
        · cases h1
      · cases h1
    · cases hf
  · cases hf
end
/-! defs called in an except suite: the promises of HotCalls by functions on trees -/
section
variable {K : KC} {X : Cx} {T : KT} {md mdc : List Bool} {W : WX} {is : List Nat} {G : GF} {n : Nat}
variable {x me : Str} {pp pos apos : Pos} {e oe : Expr} {es : List Expr} {ga go : GE} {kk : Nat} {f : Addr} {fd : FuncData} {ps : List Str} {pl : Sem Bool}
end
section
variable {md : List Bool} {T : KT}
variable {P : Program} {Wd : World} {Kf : PySem.W.Frag} {mg : Str → Option Value} {base : Heap}
end
/-! try: body, except X: one statement; raise -/
section
open PySem.Spec PyProof.Rows
variable {X : Cx} {pins : List (Addr × Obj)} {σ : L2.St} {H : Hp} {s : Shared}
variable {x : Str} {c : Value} {body : List Stmt} {st : Stmt} {np pos pos' rpos : Pos} {tb : WX → L2.TS} {ts : Addr → Value → Option Addr → L2.TS} {Wout : WX}
end
/-! try: body, except X: one statement; raise, by the machine; targets that are tuples alone -/
section
variable {K : KC} {X : Cx} {T : KT} {md : List Bool} {W : WX} {c : Value} {x : Str} {body : List Stmt} {st : Stmt} {np pos pos' rpos : Pos} {gb gs : GS} {tab : List (Nat × Bool)} {k : Nat} {is : List Nat} {tg : Expr}
def sTryRe (tab : List (Nat × Bool)) (gb gs : GS) : GS := fun m => match m.s with
  | _ :: _ => none
  | [] => match gb m with
    | some (.ex C g') => match tab.lookup C with
      | some true => match gs ⟨g', []⟩ with
        | some (.nx m2) => some (.ex C m2.g)
        | _ => none
      | some false => some (.ex C g')
      | none => none
    | r => r
/-- a, b = a tuple -/
def unpkT (md : List Bool) (is : List Nat) : Ms → Option Ms := fun m => match m.s with
  | .tr (.nd .tup o ts) :: s => if ts.length = is.length then bindAll md is ⟨m.g, (ts.map (kid o)).map Ent.tr ++ s⟩ else none
  | _ => none
end
/-! defs with a star parameter, called without stars -/
section
open PySem.Spec PyProof.Rows
variable {X : Cx} {CX : CXT} {kk : Nat} {f : Addr} {sp : Sp} {E : XK} {x : Str} {pp pos : Pos} {e : Expr} {es : List Expr} {t : TA}
end
section
variable {K : KC} {X : Cx} {T : KT} {md mdc : List Bool} {W : WX} {is : List Nat} {G : GF} {n k : Nat}
variable {x : Str} {pp pos : Pos} {e : Expr} {es : List Expr} {ga : GE} {kk : Nat} {f : Addr}
end
section
variable {md : List Bool} {T : KT}
variable {P : Program} {Wd : World} {Kf : PySem.W.Frag} {mg : Str → Option Value} {base : Heap}
end
/-! xs[a:] = ys -/
section
open PySem.Spec PyProof.Rows PySem.F
section
variable {prog : Program} {w : World} {A : Around} {E : Value → Shared → Prop} {s : Shared}
end
section
variable {X : Cx}
end
end
section
variable {K : KC} {X : Cx} {T : KT} {md : List Bool} {W : WX} {c : Cz} {σ : St} {H : Hp} {Γ τ : List Ent} {us vs : List V} {v w : V} {p : List Nat} {gv go gi : GE} {e o ie : Expr}
theorem RepL.take {Z : Zn} {m : Ow} {ts : List Tr} {vs : List V} {Φ : Ps} (n : Nat) (h : RepL K Z H m ts vs Φ) : ∃ Φ', RepL K Z H m (ts.take n) (vs.take n) Φ' ∧ ∀ b, Φ' b → Φ b := by
  have l := RepL.len _ h
  rw [← List.take_append_drop n ts] at h
  obtain ⟨v1, v2, Φ1, Φ2, e, h1, h2, d, u⟩ := RepL.split _ h
  have l1 := RepL.len _ h1
  have l2 := RepL.len _ h2
  have e1 : vs.take n = v1 := by
    rw [e, List.take_append]
    simp at l1 l2 l
    by_cases q : n ≤ ts.length
    · rw [show v1.length = n by omega, Nat.sub_self, List.take_zero, List.append_nil, List.take_of_length_le (by omega)]
    · have : v2 = [] := List.length_eq_zero_iff.mp (by omega)
      rw [this, List.take_nil, List.append_nil, List.take_of_length_le (by omega)]
  rw [e1]
  exact ⟨Φ1, h1, fun b q => (u b).mpr (.inl q)⟩
end
/-! a, b = a tuple, where an error is handled -/
section
open PySem.Spec PyProof.Rows
section
variable {prog : Program} {w : World} {A : Around} {E : Value → Shared → Prop} {s : Shared}
end
variable {X : Cx} {pos : Pos}
end
/-! walks by a supplier of items: enumerate, reversed; range with a step -/
section
variable {K : KC} {X : Cx} {T : KT} {md : List Bool} {W : WX} {c : Cz} {σ : St} {H H' : Hp} {Γ τ : List Ent} {us vs : List V} {v w : V} {n i : Nat} {gb : GS} {gs ga : GE} {tg iter e : Expr} {body : List Stmt} {pos pos' rp : Pos} {bd : Ms → Option Ms} {nx : Nat → Ms → Option Ms} {fin : Nat → Ms → Option Ms}
end
/-! a def that keeps the addresses below its first parameter, called -/
section
variable {K : KC} {X : Cx} {T : KT} {md mdc : List Bool} {W : WX} {G : GG} {x : Str} {pp pos : Pos} {e : Expr} {es : List Expr} {ga : GE} {kk : Nat} {f : Addr} {fd : FuncData} {ps : List Str}
end
/-! sum of a list where an error is handled; defs that keep addresses, called there -/
section
open PySem.Spec PyProof.Rows
section
variable {prog : Program} {w : World} {A : Around} {E : Value → Shared → Prop} {s : Shared}
end
variable {X : Cx}
end
section
variable {K : KC} {X : Cx} {T : KT} {md mdc : List Bool} {W : WX} {G : GG} {n : Nat}
variable {me : Str} {pos apos : Pos} {e oe : Expr} {es : List Expr} {ga go : GE} {kk : Nat} {f : Addr} {fd : FuncData} {ps : List Str} {pl : Sem Bool}
end
section
variable {K : KC} {md : List Bool} {T : KT}
variable {P : Program} {Wd : World} {Kf : PySem.W.Frag} {mg : Str → Option Value} {base : Heap}
end
/-! a comprehension over an own list of rows: its item is a place -/
section
variable {md : List Bool} {k n : Nat} {m m1 : Ms} {Γ s : List Ent} {gs gt ge : GE} {α : Type}
end
/-! a def that calls itself: no promise at depth 0 -/
section
variable {P : Program} {Wd : World} {Kf : PySem.W.Frag} {mg : Str → Option Value} {base : Heap} {T : KT} {md : List Bool}
end
/-! a caught error handed to a def -/
section
variable {K : KC} {X : Cx} {T : KT} {md mdc : List Bool} {W : WX} {is : List Nat}
end
/-! defs that are handed an error: from the body, and the call -/
section
open PySem.Spec PyProof.Rows HotX
variable {CX : CXT} {P : Program} {w : World} {Kf : PySem.W.Frag} {mg : Str → Option Value} {base : Heap} {k : Nat} {f : Addr} {T : KT} {md mdc : List Bool}
end
/-! the call of a def that is handed the error -/
section
open PySem.Spec PyProof.Rows HotX
variable {X : Cx} {T : KT} {md mdc : List Bool} {W : WX} {is : List Nat} {p : Addr × Obj} {kk : Nat} {f D : Addr} {fd : FuncData} {ps : List Str} {G : Addr → GF} {x : Str} {pp pos : Pos} {e : Expr} {es : List Expr} {ga : GE}
end
/-! list(d): the keys of a dict -/
section
variable {K : KC} {X : Cx} {T : KT} {md : List Bool} {W : WX}
end
/-! x is True, x is False, of anything -/
section
open PySem.Spec PyProof.Rows
variable {K : KC} {X : Cx} {T : KT} {md : List Bool} {W : WX}
def FIsBV (neg : Bool) : Tr → Tr → Option V
  | .a u, .a (.bl b) => some (.bl (if neg then !decide (u = .bl b) else decide (u = .bl b)))
  | .nd _ _ _, .a (.bl b) => some (.bl neg)
  | _, _ => none
def fIsBV : GE := fP2 (FIsBV false)
def fNotBV : GE := fP2 (FIsBV true)
end
/-! a walk over a list where an error is handled -/
section
open PySem.Spec PyProof.Rows HotX
section
variable {prog : Program} {w : World} {A : Around} {E : Value → Shared → Prop} {s : Shared}
end
end
section
variable {X : Cx} {T : KT} {md : List Bool} {W : WX} {gs : GE} {bd : Ms → Option Ms} {gb : GS} {iter tg : Expr} {body : List Stmt} {pos : Pos}
end
section
open PySem.Spec
variable {X : Cx} {T : KT} {md : List Bool} {W : WX} {ga : GE} {bd : Ms → Option Ms} {gb : GS} {tg : Expr} {body : List Stmt} {pos pos' rp : Pos}
end
/-! enumerate of a tuple -/
section
open PySem.Spec PyProof.Rows
open PySem.Sem (wp)
set_option maxHeartbeats 4000000 in
section
variable {prog : Program} {w : World} {A : Around} {E : Value → Shared → Prop} {s : Shared}
end
end
section
variable {K : KC} {X : Cx} {T : KT} {md : List Bool} {W : WX} {c : Cz} {σ : St} {H : Hp} {us : List V} {w : V} {i : Nat} {ga : GE} {bd : Ms → Option Ms} {gb : GS} {e : Expr} {body : List Stmt} {pos pos' rp : Pos}
end
/-! a look at things that are all lent for its time; a def that returns a new list of what it was lent -/
section
variable {K : KC} {X : Cx} {T : KT} {md : List Bool} {W : WX} {c : Cz} {σ : St} {H H' : Hp} {Γ τ : List Ent} {us ws : List V} {Z : Zn} {Φ Ψ : Ps} {t : TE} {g : GE}
end
section
variable {K : KC} {X : Cx} {T : KT} {md : List Bool} {W : WX} {ga : GE} {f : Addr} {fd : FuncData} {ps : List Str} {kk : Nat} {x : Str} {pp pos : Pos} {e : Expr}
end
section
variable {K : KC} {X : Cx} {T : KT} {md : List Bool} {W : WX} {ge : GE} {e : Expr}
end
section
variable {K : KC} {X : Cx} {T : KT} {md : List Bool} {W : WX} {i j d : Nat} {e : Expr} {es : List Expr} {ga g : GE} {pos pos' lp : Pos}
end
/-! a call of a def that keeps addresses, where aliases at the place itself and aliases at the bottom of the stack live on, too -/
section
variable {K : KC} {X : Cx} {T : KT} {md mdc : List Bool} {W : WX} {c : Cz} {σ : St} {H H' : Hp} {Γ τ : List Ent} {us vs ws wq : List V} {v w wp : V} {p q r : List Nat} {t : Tr} {ts : List Tr} {i j n k : Nat} {Z : Zn} {Φ Ψ : Ps} {qs : List (List Nat)} {G : GG}
end
section
variable {K : KC} {X : Cx} {T : KT} {md mdc : List Bool} {W : WX} {G : GG} {x : Str} {pp pos : Pos} {e : Expr} {es : List Expr} {ga : GE} {kk : Nat} {f : Addr} {fd : FuncData} {ps : List Str}
end
/-! xs.remove(x), deep -/
section
variable {X : Cx}
end
section
variable {K : KC} {X : Cx} {T : KT} {md : List Bool} {W : WX} {c : Cz} {σ : St} {H : Hp} {Γ s : List Ent} {L : List Tr} {ts : List Tr} {t x : Tr} {j : Nat} {p : List Nat}
end
/-! xs.count(k) -/
section
variable {K : KC} {X : Cx} {T : KT} {md : List Bool} {W : WX}
end
/-! a value of which nothing is known any more -/
section
variable {K : KC} {X : Cx} {T : KT} {md : List Bool} {W : WX} {e : Expr} {g : GE}
def fHid : GE := fun m => match m.s with
  | _ :: s => some (.ok ⟨m.g, .tr .any :: s⟩)
  | _ => none
end
section
variable {K : KC} {X : Cx} {T : KT} {md mdc : List Bool} {W : WX} {c : Cz} {σ : St} {H H' : Hp} {Γ τ : List Ent} {us vs ws wq : List V} {v w wp w0 : V} {p q r q0 : List Nat} {t : Tr} {ts : List Tr} {i j n r0 : Nat} {Z : Zn} {qs : List (List Nat)} {Φ Ψ : Ps} {m m' : Ms} {G : GG}
variable {P : Program} {Wd : World} {Kf : PySem.W.Frag} {mg : Str → Option Value} {base : Heap}

variable {x : Str} {pp pos : Pos} {e : Expr} {es : List Expr} {ga : GE} {kk : Nat} {f : Addr} {fd : FuncData} {ps : List Str}
end
/-! dicts whose keys are tuples of ints and texts (new ones or ones of the written part): in, read, store, a display of one pair -/
section
variable {X : Cx} {pins : List (Addr × Obj)} {σ : St} {H : Hp} {s : Shared} {a b : Addr} {k : List Key} {v : V} {r : Value} {l : List (List Key × Addr × V)} {A : Around} {E : Value → Shared → Prop}
end
section
variable {K : KC} {X : Cx} {T : KT} {md : List Bool} {W : WX} {c : Cz} {σ : St} {H H' : Hp} {Γ τ : List Ent} {us vs : List V} {v w : V} {p q : List Nat} {t : Tr} {ts ts' : List Tr} {i j : Nat} {ks : List (List Key)} {k : List Key}
variable {g : GS} {gi go gv ga gb : GE} {e a b o ie : Expr} {pos pos' : Pos}
/-! on trees -/
def keysA : List Tr → Option (List Key)
  | [] => some []
  | .a v :: ts => match keyOf v, keysA ts with
    | some k, some ks => some (k :: ks)
    | _, _ => none
  | _ => none
def keyT : Tr → Option (List Key)
  | .nd .tup _ ts => keysA ts
  | _ => none
def kixT (k : List Key) : List (List Key) → Option Nat
  | [] => none
  | x :: ks => if x = k then some 0 else (kixT k ks).map (· + 1)
def FInT (neg : Bool) : Tr → Tr → Option V
  | tx, .nd (.dcT ks) _ _ => match keyT tx with
    | some k => some (.bl (if neg then !(kixT k ks).isSome else (kixT k ks).isSome))
    | none => none
  | _, _ => none
def fInB : GE := gOr fInA (fP2 (FInT false))
def fNotInB : GE := gOr fNotInA (fP2 (FInT true))
end
/-! dicts with tuple keys: stores, displays of one pair -/
section
variable {K : KC} {X : Cx} {T : KT} {md : List Bool} {W : WX} {c : Cz} {σ : St} {H H' : Hp} {Γ τ : List Ent} {us vs : List V} {v w : V} {p q : List Nat} {t : Tr} {ts ts' : List Tr} {i j : Nat} {ks : List (List Key)} {k : List Key}
variable {g : GS} {gi go gv ga gb : GE} {e a b o ie : Expr} {pos pos' : Pos}
def stSubT : Ms → Option Ms := fun m => match m.s with
  | .tr y :: .al p :: .tr t :: s => match getG m.g p, keyT y with
    | some (.nd (.dcT ks) .own ts), some k => if esc t = true ∧ ks.length < 100000 then match kixT k ks with
        | some j => some ⟨(setG m.g p (.nd (.dcT ks) .own (ts.set j t))).map (killJ (p ++ [j])), s.map (killJ (p ++ [j]))⟩
        | none => some ⟨kill p (setG m.g p (.nd (.dcT (ks ++ [k])) .own (ts ++ [t]))), kill p s⟩
      else none
    | _, _ => none
  | _ => none
def stSubB : Ms → Option Ms := fun m => match stSubA m with
  | none => stSubT m
  | r => r
def sSubB (gv go gi : GE) : GS := fun m => match gSeq (gSeq gv go) gi m with
  | some (.ok m') => match stSubB m' with
    | some m2 => some (.nx m2)
    | none => none
  | some (.ex C g) => some (.ex C g)
  | none => none
end
/-! {k: v}, k a tuple -/
section
variable {K : KC} {X : Cx} {T : KT} {md : List Bool} {W : WX} {tk tv : TE} {gk gv : GE} {ke ve : Expr} {dpos : Pos}
end
section
variable {X : Cx} {T : KT} {md : List Bool} {W : WX} {gk gv : GE} {ke ve : Expr} {dpos : Pos}
def gK0 : GE := fun m => some (.ok ⟨m.g, .tr (.nd (.dcT []) .own []) :: m.s⟩)
def fPut1 : GE := fun m => match m.s with
  | .tr t :: .tr y :: .tr (.nd (.dcT []) .own []) :: s => match keyT y with
    | some k => if esc t = true then some (.ok ⟨m.g, .tr (.nd (.dcT [k]) .own [t]) :: s⟩) else none
    | none => none
  | _ => none
end
/-! written dicts of defs by texts; a property; xs[::-1] -/
section
variable {K : KC} {X : Cx} {T : KT} {md mdc : List Bool} {W : WX} {c : Cz} {σ : St} {H H' : Hp} {Γ τ : List Ent} {us vs : List V} {v w : V} {i j n kk : Nat} {m m' : Ms} {ga ge : GE} {a b e oe : Expr} {es : List Expr} {pos p1 p2 p3 p4 p5 p6 p7 p8 : Pos} {x dn z : Str} {G : GF} {d f : Addr}
/-- a def by its promise on trees -/
def DefAt (X : Cx) (T : KT) (kk : Nat) (f : Addr) (mdc : List Bool) (G : GF) : Prop :=
  PySem.W.keepIn X.K (.ref f) = true ∧ ∃ fd ps, FnOk X.prog X.w X.K X.mg X.base (L2N.CX X.prog X.w) kk f fd ps (spOf (kcm X.K T) mdc G) ∧ Binds X.K fd ps []
/-- what stands in a written dict: texts and defs -/
inductive DTab (X : Cx) (T : KT) (kk : Nat) : List DictEntry → List (Str × List Bool × GF) → Prop
  | nil : DTab X T kk [] []
  | cons {h : Int} {z : Str} {t : Tok} {f : Addr} {mdc : List Bool} {G : GF} {es : List DictEntry} {l : List (Str × List Bool × GF)} (D : DefAt X T kk f mdc G) (r : DTab X T kk es l) : DTab X T kk (⟨h, .str z t, .ref f⟩ :: es) ((z, mdc, G) :: l)
structure KDefs (X : Cx) (T : KT) (kk : Nat) (d : Addr) (es : List DictEntry) (nn : Nat) (l : List (Str × List Bool × GF)) : Prop where
  D : KDict X.K X.w d es.toArray nn
  tb : DTab X T kk es l
theorem DTab.find {es : List DictEntry} {l : List (Str × List Bool × GF)} (h : DTab X T kk es l) (z : Str) : (∀ en ∈ es, en.refKey = false) ∧ match l.lookup z with
    | some (mdc, G) => ∃ en f, es.find? (·.key.isStr z) = some en ∧ en.val = .ref f ∧ DefAt X T kk f mdc G
    | none => es.find? (·.key.isStr z) = none := by
  induction h with
  | nil => exact ⟨by simp, rfl⟩
  | @cons h z' t f mdc G es l D r ih =>
    obtain ⟨ih1, ih2⟩ := ih
    refine ⟨fun en hen => ?_, ?_⟩
    · rcases List.mem_cons.mp hen with q | q
      · subst q; rfl
      · exact ih1 en q
    · rw [List.lookup_cons, List.find?_cons]
      by_cases q : z = z'
      · subst q
        have e1 : (z == z) = true := beq_self_eq_true z
        rw [e1]
        have e2 : (⟨h, .str z t, .ref f⟩ : DictEntry).key.isStr z = true := beq_self_eq_true z
        rw [e2]
        exact ⟨_, f, rfl, rfl, D⟩
      · rw [beq_false_of_ne q]
        have e2 : (⟨h, .str z' t, .ref f⟩ : DictEntry).key.isStr z = false := beq_false_of_ne (Ne.symm q)
        rw [e2]
        exact ih2
theorem KDefs.ns {es : List DictEntry} {nn : Nat} {l : List (Str × List Bool × GF)} (D : KDefs X T kk d es nn l) (z : Str) : ∃ r, PySem.W.nsIn X.K d z = some r ∧ r.isSome = (l.lookup z).isSome ∧ ∀ mdc G, l.lookup z = some (mdc, G) → ∃ f, r = some (.ref f) ∧ DefAt X T kk f mdc G := by
  obtain ⟨h1, h2⟩ := D.tb.find z
  have hl := D.D.at_
  unfold PySem.W.nsIn
  rw [hl]
  simp only
  cases e : l.lookup z with
  | none =>
    rw [e] at h2
    simp only at h2
    rw [h2]
    simp only
    have : es.any (·.refKey) = false := by
      rw [List.any_eq_false]
      intro en hen
      simp [h1 en hen]
    rw [this]
    exact ⟨none, rfl, rfl, fun _ _ q => by cases q⟩
  | some q =>
    obtain ⟨mdc, G⟩ := q
    rw [e] at h2
    obtain ⟨en, f, h3, h4, h5⟩ := h2
    rw [h3]
    refine ⟨some en.val, rfl, rfl, fun mdc' G' q => ?_⟩
    cases q
    exact ⟨f, by rw [h4], h5⟩
def fKD (neg : Bool) (keys : List Str) : GE := fun m => match m.s with
  | .tr (.a (.str z)) :: s => some (.ok ⟨m.g, .tr (.a (.bl (if neg then !decide (z ∈ keys) else decide (z ∈ keys)))) :: s⟩)
  | _ => none
end
/-! a property read; xs[::-1] of a list of plain values -/
section
variable {K : KC} {X : Cx} {T : KT} {md mdc : List Bool} {W : WX} {c : Cz} {σ : St} {H H' : Hp} {Γ τ : List Ent} {us vs : List V} {v w : V} {i j n kk : Nat} {m m' : Ms} {ga ge : GE} {a b e oe : Expr} {pos p1 p2 p3 : Pos} {f : Str} {G : GF} {g p : Addr} {fd : FuncData} {ps : List Str}
def fRevL : GE := fun m => match m.s with
  | e :: s => match viewE m.g e with
    | some (.nd .lst o ts) => match atoms ts with
      | some us => some (.ok ⟨m.g, .tr (.nd .lst .own (us.reverse.map .a)) :: s⟩)
      | none => none
    | _ => none
  | _ => none
/-! a, b, c = x, y, z -/
def sPar3 (md : List Bool) (i j l : Nat) (ga : GE) : GS := fun m => match ga m with
  | some (.ok ⟨g', ez :: ey :: ex :: s⟩) => match bindAll md [i, j, l] ⟨g', ex :: ey :: ez :: s⟩ with
    | some m2 => some (.nx m2)
    | none => none
  | some (.ex C g') => some (.ex C g')
  | _ => none
end
/-! rules for pure proofs: several names at once, dicts with tuple keys, tables of defs -/
section
variable {md : List Bool} {i j l : Nat} {ga g b h : GE} {m m' : Ms} {Γ s : List Ent} {ex ey ez : Ent} {C : Nat}
def pS2 (a : Option Rs) (md : List Bool) (i j : Nat) : Option Os := match a with
  | some (.ok ⟨g', ey :: ex :: s⟩) => nxO (bindAll md [i, j] ⟨g', ex :: ey :: s⟩)
  | some (.ex C g') => some (.ex C g')
  | _ => none
theorem sPar_e : sPar md i j ga m = pS2 (ga m) md i j := by
  unfold sPar pS2 nxO
  rcases ga m with _ | (⟨g', _ | ⟨a, _ | ⟨b, s⟩⟩⟩ | _) <;> rfl
theorem pS2_ok : pS2 (some (.ok ⟨Γ, ey :: ex :: s⟩)) md i j = nxO (bindAll md [i, j] ⟨Γ, ex :: ey :: s⟩) := rfl
def pS3 (a : Option Rs) (md : List Bool) (i j l : Nat) : Option Os := match a with
  | some (.ok ⟨g', ez :: ey :: ex :: s⟩) => nxO (bindAll md [i, j, l] ⟨g', ex :: ey :: ez :: s⟩)
  | some (.ex C g') => some (.ex C g')
  | _ => none
theorem sPar3_e : sPar3 md i j l ga m = pS3 (ga m) md i j l := by
  unfold sPar3 pS3 nxO
  rcases ga m with _ | (⟨g', _ | ⟨a, _ | ⟨b, _ | ⟨d, s⟩⟩⟩⟩ | _) <;> rfl
theorem pS3_ok : pS3 (some (.ok ⟨Γ, ez :: ey :: ex :: s⟩)) md i j l = nxO (bindAll md [i, j, l] ⟨Γ, ex :: ey :: ez :: s⟩) := rfl
theorem sSubB_e : sSubB g b h m = kS (gSeq (gSeq g b) h m) stSubB := by
  unfold sSubB kS nxO
  split <;> first | rfl | (split <;> simp_all) | simp_all
theorem gCon_e {t : Tr} : gCon t m = some (.ok ⟨m.g, .tr t :: m.s⟩) := rfl
theorem gK0_e : gK0 m = some (.ok ⟨m.g, .tr (.nd (.dcT []) .own []) :: m.s⟩) := rfl
theorem fKD_e {neg : Bool} {keys : List Str} {z : Str} : fKD neg keys ⟨Γ, .tr (.a (.str z)) :: s⟩ = some (.ok ⟨Γ, .tr (.a (.bl (if neg then !decide (z ∈ keys) else decide (z ∈ keys)))) :: s⟩) := rfl
end
/-! the walk over a list: an invariant that speaks of what has been walked -/
section
variable {α : Type} {gs : GS} {bd : Ms → Option Ms} {s : List Ent}
theorem loopE_pre {xs : List α} {enc : α → Tr} (e : Ent) (kd : Nk) (o : Ow) (I : List α → List Ent → Prop) (hv : ∀ p Γ, I p Γ → viewE Γ e = some (.nd kd o (xs.map enc))) (hc : cpE e = true) (hcp : ∀ x ∈ xs, cp (kid o (enc x)) = true)
    (turn : ∀ p x q Γ, xs = p ++ x :: q → I p Γ → ∃ Γ1 Γ2, bd ⟨Γ, .tr (kid o (enc x)) :: e :: s⟩ = some ⟨Γ1, e :: s⟩ ∧ I (p ++ [x]) Γ2 ∧ (gs ⟨Γ1, e :: s⟩ = some (.nx ⟨Γ2, e :: s⟩) ∨ gs ⟨Γ1, e :: s⟩ = some (.ct ⟨Γ2, e :: s⟩))) {Γ : List Ent} (h0 : I [] Γ) :
    ∃ Γ', I xs Γ' ∧ loopE kd bd gs xs.length 0 ⟨Γ, e :: s⟩ = some (.nx ⟨Γ', s⟩) := by
  have key : ∀ ys pre Γ, xs = pre ++ ys → I pre Γ → ∃ Γ', I xs Γ' ∧ loopE kd bd gs ys.length pre.length ⟨Γ, e :: s⟩ = some (.nx ⟨Γ', s⟩) := by
    intro ys
    induction ys with
    | nil =>
      intro pre Γ hx h
      have hx' : pre = xs := by rw [hx, List.append_nil]
      refine ⟨Γ, hx' ▸ h, ?_⟩
      show loopE kd bd gs 0 pre.length ⟨Γ, e :: s⟩ = _
      unfold loopE
      simp only [hv pre Γ h]
      rw [if_pos ⟨trivial, by rw [hx']; simp⟩]
    | cons y ys ih =>
      intro pre Γ hx h
      have hmem : y ∈ xs := by rw [hx]; simp
      obtain ⟨Γ1, Γ2, e1, h2, e2⟩ := turn pre y ys Γ hx h
      show ∃ Γ', I xs Γ' ∧ loopE kd bd gs (ys.length + 1) pre.length ⟨Γ, e :: s⟩ = _
      have hk1 : kidX e kd o (xs.map enc) pre.length = some (.tr (kid o (enc y))) := by
        unfold kidX
        rw [hx]
        simp [hcp y hmem]
      obtain ⟨Γ', h3, e3⟩ := ih (pre ++ [y]) Γ2 (by simp [hx]) h2
      rw [List.length_append, List.length_singleton] at e3
      refine ⟨Γ', h3, ?_⟩
      unfold loopE
      simp only [hv pre Γ h]
      rw [if_pos ⟨trivial, hc, by rw [hx]; simp⟩, hk1]
      simp only [e1]
      rcases e2 with e2 | e2 <;> rw [e2] <;> exact e3
  exact key xs [] Γ rfl h0
end
/-! own operators between two things of one class; isinstance of an own class -/
section
variable {K : KC} {X : Cx} {T : KT} {md mdc : List Bool} {W : WX} {a C dx f : Addr} {fd : FuncData} {ps : List Str} {kk n : Nat} {sp : Sp} {G : GF}
def rBinO (C : Addr) (sp : Sp) : R2 := fun x y H Q => ∃ a dx fs b dy gs, x = .ref a ∧ y = .ref b ∧ H a = some (.ins C dx fs) ∧ H b = some (.ins C dy gs) ∧ sp [x, y] H (fun v H' => (∃ r, v = .ref r) ∧ Q v H') (fun _ _ _ => False)
theorem op_binO {op : Operator} (hsf : PySem.W.selfFirst X.K C = true) (m : Meth X.K C (PySem.dunder op.info.2) f) (F : FnOk X.prog X.w X.K X.mg X.base (L2N.CX X.prog X.w) kk f fd ps sp) (hr : Room kk X.A) (hb : Binds X.K fd ps []) : OpR X (binaryOp op) (rBinO C sp) := by
  intro pins s σ H x y v u Q I rx ry h
  obtain ⟨a, dx, fs, b, dy, gs, rfl, rfl, ea, eb, h⟩ := h
  obtain rfl : v = .ref a := rx
  obtain rfl : u = .ref b := ry
  obtain ⟨_, IA⟩ := inst_of I ea
  obtain ⟨_, IB⟩ := inst_of I eb
  obtain ⟨mm, hF⟩ := I.fr
  refine PySem.W.binop_K hF I.ok.mod.kin IA IB.type hsf m.at_ m.fn (wpAny_mono (run_fnS F hr hb (passAt (W := WF) takes0 σ) I (.cons (show RelV (.ref a) (.ref a) from rfl) (.cons (show RelV (.ref b) (.ref b) from rfl) .nil)) h) (fun w s' hw => ?_) fun _ _ z => z)
  obtain ⟨v', H', I', rv, ⟨r, rfl⟩, q⟩ := hw
  obtain rfl : w = .ref r := rv
  exact ⟨.ref r, _, I', rfl, q⟩
/-- x - y, both of the class n, by its function on trees -/
def fBinO (n : Nat) (mdc : List Bool) (G : GF) : GE := fun m => match m.s with
  | y :: x :: s => match chkI n ⟨m.g, x :: y :: s⟩, chkI n ⟨m.g, y :: x :: s⟩ with
    | some _, some _ => match gCall [] mdc G 2 ⟨m.g, y :: x :: s⟩ with
      | some (.ok ⟨g', .tr (.nd k o ts) :: s'⟩) => some (.ok ⟨g', .tr (.nd k o ts) :: s'⟩)
      | _ => none
    | _, _ => none
  | _ => none
theorem chkI_at {c : Cz} {σ : St} {H : Hp} {m : Ms} {us : List V} {x : V} {m' : Rs} (E : EnvOk K c σ H m.g m.s (x :: us)) (h : chkI n m = some m') : ∃ a dx fs, x = .ref a ∧ H a = some (.ins (K.ct n) dx fs) := by
  unfold chkI at h
  split at h
  · rename_i e s hs
    rw [hs] at E
    split at h
    · rename_i n' kf o ts hv
      split at h
      · rename_i hn
        subst hn
        obtain ⟨a, vs, rfl, ⟨l, dx, ho⟩, _⟩ := viewObj E hv
        exact ⟨a, dx, _, rfl, ho⟩
      · cases h
    · cases h
  · cases h
theorem fBinO_ok : RA2 K md W (rBinO (K.ct n) (spOf K mdc G)) (fBinO n mdc G) := by
  refine .mk fun c σ H m us x y Q rr hc E hf hp => ?_
  unfold fBinO at hf
  split at hf
  · rename_i ey ex s hs
    rw [hs] at E
    have E1 : EnvOk K c σ H m.g ([ex] ++ ([ey] ++ s)) ([x] ++ ([y] ++ us)) := EnvOk.permA (A := [ey]) (B := [ex]) (va := [y]) (vb := [x]) rfl rfl E
    split at hf
    · rename_i r1 r2 h1 h2
      obtain ⟨a, dx, fs, rfl, ea⟩ := chkI_at (m := ⟨m.g, ex :: ey :: s⟩) E1 h1
      obtain ⟨b, dy, gs, rfl, eb⟩ := chkI_at (m := ⟨m.g, ey :: ex :: s⟩) E h2
      refine ⟨a, dx, fs, b, dy, gs, rfl, rfl, ea, eb, ?_⟩
      split at hf
      · rename_i g' k o ts s' h3
        cases hf
        refine gCall_ok (W := WF) (is := []) (by simp) (by simp) c σ H ⟨m.g, ey :: ex :: s⟩ us [.ref a, .ref b] _ _ hc rfl E h3 ?_
        intro v H' E3
        obtain ⟨r, vs, rfl, _⟩ := viewObj E3 rfl
        exact ⟨⟨r, rfl⟩, hp _ _ E3⟩
      · cases hf
    · cases hf
  · cases hf
/-- isinstance(e, C) for a thing of the class C -/
def fIsO (n : Nat) : GE := fun m => match chkI n m with
  | some _ => match m.s with
    | _ :: s => some (.ok ⟨m.g, .tr (.a (.bl true)) :: s⟩)
    | _ => none
  | none => none
theorem me_isO {dn : Str} {e : Expr} {ga : GE} {pd pi ps : Pos} (hC : C8.InsC X.K ((kcm X.K T).ct n)) (hg : Gl X "isinstance") (hm : X.mg "isinstance" = none) (hv : bootBuiltins "isinstance" = some (.builtin "isinstance")) (ha : ME X T md W e ga) (hd : PE X (.Name dn pd) (tC (.ref ((kcm X.K T).ct n))))
    (hst1 : starEach [e, .Name dn pd] X.env = (false, eval e X.env) :: starEach [.Name dn pd] X.env := by rfl)
    (hst2 : starEach [.Name dn pd] X.env = (false, eval (.Name dn pd) X.env) :: starEach [] X.env := by rfl)
    (hpl : (backTo ps (starEach [.Name dn pd] X.env)).any (·.1) = false := by rfl) : ME X T md W (.Call (.Name "isinstance" pi) [e, .Name dn pd] [] ps) (gSeq ga (fIsO n)) := by
  obtain ⟨ta, pa, sa⟩ := ha
  refine ⟨_, pe_callB (C8.call_isC hC) hg hm hv (pa_cons pa (pa_cons hd pa_nil hst2) hst1) (by decide) (by rfl) hst1 hpl, ?_⟩
  intro c σ H m us Q r hmd E hg' hp
  simp only [gSeq] at hg'
  split at hg'
  · rename_i m1 h1
    refine sa c σ H m us _ _ hmd E h1 ?_
    intro v H1 E1
    unfold fIsO at hg'
    split at hg'
    · rename_i r2 h2
      obtain ⟨a, dx, fs, rfl, ho⟩ := chkI_at E1 h2
      split at hg'
      · rename_i e2 s2 hs2
        cases hg'
        rw [hs2] at E1
        exact ⟨a, dx, fs, rfl, ho, hp _ _ (E1.drop.atom (.bl true))⟩
      · cases hg'
    · cases hg'
  · rename_i h1
    refine sa c σ H m us _ _ hmd E hg' ?_
    cases r with
    | ex C g' => exact hp
    | ok m2 => exact absurd hg' (h1 m2)
end
/-! things that are walked by their own __iter__, which hands out the iterator of a field -/
section
abbrev tupItO (l : Addr) : Obj := { cls := .type "tuple_iterator", data := .fields #[.ref l, .int 0 0] }
abbrev lstItO (l : Addr) : Obj := { cls := .type "list_iterator", data := .fields #[.ref l, .int 0 0] }
def ItQ (it : Addr) (ob : Obj) : HO := .ext fun h => h.get? it = some ob
theorem itQ_ok {P : Program} {w : World} {H : Hp} {h : Heap} {it : Addr} {ob : Obj} (e : h.get? it = some ob) : ObjOk P w H h it (ItQ it ob) := ⟨e, ⟨_, e⟩, fun h1 h2 q k => k _ q⟩
/-- an iterator has come for the thing at l; n: it is younger -/
def itGo (K : PySem.W.Frag) (n : Nat) (l : Addr) (H : Hp) (Q : VK) : Prop :=
  ((∃ zs, SqL K H l zs) ∧ ∀ it, H it = none → n ≤ it → Q (.ref it) (upd H it (ItQ it (lstItO l)))) ∨ ((∃ zs, SqT K H l zs) ∧ ∀ it, H it = none → n ≤ it → Q (.ref it) (upd H it (ItQ it (tupItO l))))
section
variable {X : Cx}
def rIterQ (K : PySem.W.Frag) (n : Nat) : List V → Hp → VK → Prop := fun xs H Q => ∃ l, xs = [.ref l] ∧ itGo K n l H Q
theorem call_iterQ : CallR X (.builtin "iter") (rIterQ X.K X.s_0.heap.objs.size) := by
  intro pins s σ H xs us Q I r h
  obtain ⟨l, rfl, h⟩ := h
  obtain ⟨u, rfl, ru⟩ := vals1 r
  cases ru
  refine Calls.call_function_entry (by decide +kernel) (by decide +kernel) PySem.W.kdk_entry_iter (PySem.W.kdk_args_iter _) ?_
  unfold Builtin.«iter»
  refine wpAny_bind (m := someArgs "iter" 1 2 _) (wpAny_of_eq (a := [Value.ref l]) (by first | rfl | kernel_rfl!) ?_)
  show wpAny _ _ (pyIter (.ref l) >>= _) _ _ _
  rcases h with ⟨⟨zs, hq⟩, q⟩ | ⟨⟨zs, hq⟩, q⟩
  · obtain ⟨its, rv, pl, hz⟩ := I.list hq
    refine wpAny_bind (wpAny_pyIter_list pl.isList ?_)
    refine wpAny_pure ⟨_, rfl, ?_⟩
    exact ⟨.ref s.heap.objs.size, _, I.laid (t' := s.toks) (fun b u e => Heap.get?_push_of_some _ e) (Nat.le_refl _) (itQ_ok (Heap.get?_push_size _ rfl)), rfl, q _ (I.hok.fresh (Nat.le_refl _)) I.sz⟩
  · obtain ⟨its, rv, pl, hz⟩ := I.tuple hq
    refine wpAny_bind (wpAny_pyIter_tuple (show s.heap.IsTuple l its.toArray from pl) ?_)
    refine wpAny_pure ⟨_, rfl, ?_⟩
    exact ⟨.ref s.heap.objs.size, _, I.laid (t' := s.toks) (fun b u e => Heap.get?_push_of_some _ e) (Nat.le_refl _) (itQ_ok (Heap.get?_push_size _ rfl)), rfl, q _ (I.hok.fresh (Nat.le_refl _)) I.sz⟩
end
/-- a promise that may speak of the state at the call -/
structure FnAt (P : Program) (w : World) (K : PySem.W.Frag) (mg : Str → Option Value) (base : Heap) (CX : CXT) (n : Nat) (f : Addr) (fd : FuncData) (ps : List Str) (sp : Shared → Sp) : Prop where
  len : ∀ s vs H Q E, sp s vs H Q E → vs.length = ps.length
  run : ∀ (A : Around) (outer : List Env) (s : Shared) (H : Hp) (args : Args) (us : List Value) (vs : List V) (Q : VK) (E : XK), Room n A → Env0 P w K mg base A outer s H → BindsTo s fd args (ps.zip us) → Vals vs us → sp s vs H Q E →
    codeAny (model P w) A (.call (.ref f) args) (CR CX outer P w H s Q E) s
open PySem.Spec PyProof.Rows in
theorem fn_at {CX : CXT} {P : Program} {w : World} {Kf : PySem.W.Frag} {mg : Str → Option Value} {base : Heap} {lv : Nat} {fa : Addr} {nme qual : Str} {prm : Arguments} {bdy : List Stmt} {scp : Scope} {dV kV doc pm cdv ct oc : Value} {an od : Option Addr}
    {osl : Array (Option Value)} {nms pars : List Str} {spS : Shared → Sp} (kn : Kf.lookup fa = some ⟨oc, od, .func (PySem.W.fnOf nme qual prm bdy scp dV kV doc pm an cdv ct), osl⟩) (cok : PySem.W.codeIn Kf cdv qual = true) (FS : FnScope nms pars scp)
    (lenS : ∀ s0 vs H Q E, spS s0 vs H Q E → vs.length = pars.length)
    (bodyS : ∀ (A : Around) (outer : List Env) (s0 : Shared) (H : Hp) (vs : List V) (Q : VK) (E : XK), Room lv (A.deeper (envOfC qual scp s0.heap.objs.size fa cdv)) → spS s0 vs H Q E →
      ∃ t, PSs (cxOf CX P w Kf mg base nms qual scp fa cdv A outer s0 H E) bdy t ∧ t { nx := fun _ H' => Q .non H', rt := Q } (start nms vs) H) :
    FnAt P w Kf mg base CX (lv + 1) fa (PySem.W.fnOf nme qual prm bdy scp dV kV doc pm an cdv ct) pars spS := by
  refine ⟨lenS, fun A outer s0 H args us vs Q E room env bnd rv hs0 => ?_⟩
  have KX : Kf.In s0.heap := env.mod.kin.keeps fun b o e => (env.bs b o e).1
  have lim : s0.heap.NoLimit := env.mod.nolimit.keeps fun b o e => (env.bs b o e).1
  have loc : ∀ y ∈ pars.zip us, scp.names.lookup y.1 = some .local ∨ (scp.names.lookup y.1 = some .cell ∧ ((cellsFrom (s0.heap.objs.size + 1) scp.names []).lookup y.1).isSome = true) := by
    rintro ⟨n, v⟩ hy
    rcases FS.par n (List.of_mem_zip hy).1 with q | q
    · left; exact q
    · right; exact ⟨q, PySem.W.cellsFrom_some _ _ _ (.inl q)⟩
  refine codeAny_call_function room.depth (KX _ _ kn) rfl FS.co FS.gen rfl (PySem.W.codeRec_of KX cok) (bnd _ _ _ _ ?_)
  refine wpAny_newFunctionEnv_cells FS.kind loc fun ev hev s1 cl => ?_
  cases hev
  refine ⟨lim.keeps cl.toInCall.keep, codeAny_func ?_⟩
  obtain ⟨t, pt, wt⟩ := bodyS A outer s0 H vs Q E (room.deeper _) hs0
  have I0 : Inv (cxOf CX P w Kf mg base nms qual scp fa cdv A outer s0 H E) [] (start nms vs) H s1 := inv_start FS room.hd env (lenS _ _ _ _ _ hs0) rv cl
  refine wpAny_mono (pt.run [] s1 (start nms vs) H _ I0 wt) (fun fl s' hs => ?_) fun e s' hs => hs
  cases fl with
  | ret u =>
    obtain ⟨v, σ', H', J, r1, q⟩ := hs
    exact ⟨v, H', J.os, J.bare, J.base, J.hok, r1, q⟩
  | next =>
    obtain ⟨σ', H', J, q⟩ := hs
    exact ⟨.non, H', J.os, J.bare, J.base, J.hok, rfl, q⟩
  | brk => obtain ⟨_, _, _, q⟩ := hs; exact q.elim
  | cont => obtain ⟨_, _, _, q⟩ := hs; exact q.elim
/-- what such an __iter__ promises -/
def spItQ (K : PySem.W.Frag) (C : Addr) (j : Str) (s0 : Shared) : Sp := fun vs H Q _ => ∃ a dx fs l, vs = [.ref a] ∧ H a = some (.ins C dx fs) ∧ fs.lookup j = some (.ref l) ∧ itGo K s0.heap.objs.size l H Q
def tFldC (te : TE) (C : Addr) (j : Str) : TE := fun σ H Q => te σ H fun x H1 => ∃ a dx fs v, x = .ref a ∧ H1 a = some (.ins C dx fs) ∧ fs.lookup j = some v ∧ Q v H1
section
variable {X : Cx} {tg e : Expr} {te : TE} {C f : Addr} {fd : FuncData} {j : Str} {kk : Nat} {pins : List (Addr × Obj)} {σ : St} {H : Hp} {s : Shared}
theorem own_call {a l : Addr} {dx : Addr} {fs : List (Str × V)} {P : Value → Shared → Prop} (m : Meth X.K C "__iter__" f) (F : FnAt X.prog X.w X.K X.mg X.base (L2N.CX X.prog X.w) kk f fd ["self"] (spItQ X.K C j)) (hb : Binds X.K fd ["self"] []) (hr : Room kk X.A)
    (I : Inv X pins σ H s) (ea : H a = some (.ins C dx fs)) (el : fs.lookup j = some (.ref l)) (Q : VK) (hg : itGo X.K s.heap.objs.size l H Q) (hP : ∀ u s', CE X.stack X.prog X.w H s Q u s' → PySem.W.OwitIt (model X.prog X.w) X.A P X.xe u s') :
    wpAny (model X.prog X.w) X.A (pyIter (.ref a)) P X.xe s := by
  obtain ⟨_, IA⟩ := inst_of I ea
  obtain ⟨m0, hF⟩ := I.fr
  refine PySem.W.owit_iter hF I.ok.mod.kin IA m.at_ m.fn ?_
  have hsp : spItQ X.K C j s [.ref a] H Q (fun _ _ _ => False) := ⟨a, dx, fs, l, rfl, ea, el, hg⟩
  have hl := F.len _ _ _ _ _ hsp
  refine wpAny_call (codeAny_mono (F.run X.A X.stack s H ⟨[.ref a], []⟩ [.ref a] [.ref a] _ _ hr I.env0 (by
    have := hb s [.ref a] I.kIn (by simpa using hl)
    simpa using this) (.cons (show RelV (.ref a) (.ref a) from rfl) .nil) hsp) fun r s' hq' => ?_)
  cases r with
  | error e => exact (passAt (W := WF) takes0 σ) _ _ _ _ _ I hq'
  | ok fl =>
    cases fl with
    | next => exact False.elim hq'
    | brk => exact False.elim hq'
    | cont => exact False.elim hq'
    | ret u => exact hP u s' hq'
theorem own_pie {it : Addr} {ob : Obj} {J : It} {tn : Nat → Heap → Prop} {R : It → Hp → Prop} {H1 : Hp} {s' : Shared} (I3 : Inv X pins σ (upd H1 it (ItQ it ob)) s') (hn : H1 it = none) (hz : X.s_0.heap.objs.size ≤ it) (T : Turn X.prog X.w X.K tg J [it] it tn) (st : tn 0 s'.heap) (q : R J H1) :
    PIE X pins σ tg R (.ref it) s' := by
  have e : upd H1 it (ItQ it ob) it = some (.ext fun h => h.get? it = some ob) := upd_same
  refine ⟨it, [it], tn, J, ItX.dropH (upd H1 it (ItQ it ob)) it, rfl, ItX.inv_drop I3 e, T, st, fun b hb => ?_, ?_⟩
  · obtain rfl : b = it := by simpa using hb
    exact ItX.inv_fp I3 e hz
  · rw [ItX.dropH_upd hn]
    exact q
theorem ext_get {it : Addr} {ob : Obj} {H1 : Hp} {s' : Shared} (I3 : Inv X pins σ (upd H1 it (ItQ it ob)) s') : s'.heap.get? it = some ob := by
  have := I3.hok it _ upd_same
  exact this.1
open PyProof.Rows in
theorem pi_ownQ (he : PE X e te) (m : Meth X.K C "__iter__" f) (F : FnAt X.prog X.w X.K X.mg X.base (L2N.CX X.prog X.w) kk f fd ["self"] (spItQ X.K C j)) (hb : Binds X.K fd ["self"] []) (hr : Room kk X.A) :
    PI X tg e (fun σ H R => iList X.K (tFldC te C j) σ H R ∨ iTup X.K (tFldC te C j) σ H R) := by
  refine ⟨fun pins s σ H R I h => ?_⟩
  rcases h with h | h
  · refine thn (he.run pins s σ H _ I h) fun v s1 ⟨x, H1, I1, r1, q1⟩ => ?_
    obtain ⟨a, dx, fs, v', rfl, ea, el, l, rfl, ⟨xs, hq⟩, q⟩ := q1
    cases r1
    refine own_call m F hb hr I1 ea el (fun v H' => ∃ it, v = .ref it ∧ H1 it = none ∧ s1.heap.objs.size ≤ it ∧ H' = upd H1 it (ItQ it (lstItO l))) (.inl ⟨⟨xs, hq⟩, fun it hn hz => ⟨it, rfl, hn, hz, rfl⟩⟩) fun u s' hc => ?_
    obtain ⟨v3, H3, I3, rv3, it, rfl, hn, hz, rfl⟩ := I1.after hc
    cases rv3
    have eo := ext_get I3
    have hT : s'.TypeIs (.ref it) "list_iterator" := ⟨_, eo, rfl⟩
    unfold PySem.W.OwitIt
    refine wpAny_specialOf (name := Str.ofString "__next__") hT slot_listiter_next.lookup ?_
    exact own_pie I3 hn (Nat.le_trans I1.sz hz) (turn_list l it) ⟨_, eo, rfl, rfl⟩ q
  · refine thn (he.run pins s σ H _ I h) fun v s1 ⟨x, H1, I1, r1, q1⟩ => ?_
    obtain ⟨a, dx, fs, v', rfl, ea, el, l, rfl, ⟨xs, hq⟩, q⟩ := q1
    cases r1
    refine own_call m F hb hr I1 ea el (fun v H' => ∃ it, v = .ref it ∧ H1 it = none ∧ s1.heap.objs.size ≤ it ∧ H' = upd H1 it (ItQ it (tupItO l))) (.inr ⟨⟨xs, hq⟩, fun it hn hz => ⟨it, rfl, hn, hz, rfl⟩⟩) fun u s' hc => ?_
    obtain ⟨v3, H3, I3, rv3, it, rfl, hn, hz, rfl⟩ := I1.after hc
    cases rv3
    have eo := ext_get I3
    have hT : s'.TypeIs (.ref it) "tuple_iterator" := ⟨_, eo, rfl⟩
    unfold PySem.W.OwitIt
    refine wpAny_specialOf (name := Str.ofString "__next__") hT PySem.F.slot_tuple_iterator_next.lookup ?_
    exact own_pie I3 hn (Nat.le_trans I1.sz hz) (turn_tuple l it) ⟨_, eo, rfl, rfl⟩ q
end
section
variable {K : KC} {X : Cx} {T : KT} {md mdc : List Bool} {W : WX} {c : Cz} {σ σ' σ2 : St} {H H' : Hp} {Γ τ : List Ent} {us vs : List V} {v w : V} {i n k : Nat} {m m' : Ms} {g ge gt gs ga gk : GE} {e tg iter elt cnd : Expr} {es : List Expr} {pos : Pos} {scope : Scope} {x : Str} {kk : Nat} {f : Addr} {fd : FuncData}
/-- what stands in a field of a thing of class n -/
def fOwnF (n : Nat) (tab : List (Nat × Nat)) : GE := gSeq (chkI n) (fFld tab)
theorem se_fldC {te : TE} {fl : Str} {tab : List (Nat × Nat)} (s : SE (kcm X.K T) md W te g) (ht : FldOk X.K T fl tab) : SE (kcm X.K T) md W (tFldC te ((kcm X.K T).ct n) fl) (gSeq g (fOwnF n tab)) := by
  intro c σ H m us Q rr hc E hg hp
  simp only [gSeq] at hg
  split at hg
  · rename_i m1 h1
    refine s c σ H m us _ _ hc E h1 fun x H1 E1 => ?_
    simp only [fOwnF, gSeq] at hg
    split at hg
    · rename_i m1' h2
      have hm : m1' = m1 := by
        unfold chkI at h2
        split at h2
        · split at h2
          · split at h2
            · cases h2; rfl
            · cases h2
          · cases h2
        · cases h2
      subst hm
      obtain ⟨a, dx, fs, rfl, ea⟩ := chkI_at E1 h2
      simp only [fFld] at hg
      split at hg
      · rename_i en s1 hs
        split at hg
        · rename_i nn k o ts hv
          split at hg
          · rename_i j hj
            split at hg
            · rename_i e' hk
              cases hg
              rw [hs] at E1
              obtain ⟨ad, vs, w', e1, ho, hl, hw, E2⟩ := E1.kidOf hv hk
              cases e1
              obtain ⟨l, dx2, ho⟩ := ho
              obtain ⟨c1, c2, c3⟩ := ht nn j (mem_lookup hj)
              have hjk : j < k := by
                have h1 := getq_lt' hw
                have h2 : ((T.nm nn).take k).length = vs.length := l
                rw [List.length_take] at h2
                omega
              have ho : H1 a = some (.ins ((kcm X.K T).ct nn) dx2 _) := ho
              rw [ho] at ea
              obtain ⟨hct, -, -⟩ := HO.ins.inj (Option.some.inj ea)
              refine ⟨a, dx2, _, w', rfl, by rw [← hct]; exact ho, ?_, hp w' H1 E2⟩
              · rw [lookup_zip (idx_take c3 hjk) l]
                exact hw
            · cases hg
          · cases hg
        · cases hg
      · cases hg
    · rename_i h2
      exfalso
      revert hg
      cases hh : chkI n m1 with
      | none => simp [hh]
      | some r =>
        cases r with
        | ok m' => exact fun _ => h2 m' hh
        | ex C g' =>
          unfold chkI at hh
          split at hh
          · split at hh
            · split at hh <;> cases hh
            · cases hh
          · cases hh
  · rename_i h1
    refine s c σ H m us _ _ hc E hg ?_
    cases rr with
    | ex C g' => exact hp
    | ok m2 => exact absurd hg (h1 m2)
theorem me_lcO0 {fl : Str} {tab : List (Nat × Nat)} (hs : ME X T md W iter gs) (ht0 : FldOk X.K T fl tab) (mt : Meth X.K ((kcm X.K T).ct n) "__iter__" f) (F : FnAt X.prog X.w X.K X.mg X.base (L2N.CX X.prog X.w) kk f fd ["self"] (spItQ X.K ((kcm X.K T).ct n) fl)) (hb : Binds X.K fd ["self"] []) (hr : Room kk X.A)
    (ok : BlkOk X.N X.env.scope scope [(x, i)]) (hg : ∀ (s : Shared) (H : Hp) (C : Addr) (cl : List (Str × Addr)) (fp : List Addr), PG (X.blk s H scope (compEnvC scope cl C X.env) fp) tg (gName i))
    (he : ∀ (s : Shared) (H : Hp) (C : Addr) (cl : List (Str × Addr)) (fp : List Addr), ME (X.blk s H scope (compEnvC scope cl C X.env) fp) T md WF elt ge)
    (hc : X.calm = true) (hN : X.N.Nodup) (hf : ∀ x, foldedSetIterable iter X.env x = pure x := by intro _; rfl) : ME X T md W (.ListComp elt [⟨tg, iter, [], 0⟩] scope pos) (gLc [i] (gSeq gs (fOwnF n tab)) (bind md i) (gC (.bl true)) ge) := by
  obtain ⟨ti, pi, si⟩ := hs
  exact ⟨_, pe_lc (te := wpE (kcm X.K T) md WF ge) hc hN (pi_ownQ pi mt F hb hr) ok hg (fun s H C cl fp => pts_nil) (fun s H C cl fp => (he s H C cl fp).pe) hf, se_lc (se_fldC si ht0) sgw_name st_yes se_wp⟩
end
/-- the promise of such an __iter__, by its body -/
theorem fn_itQ {P : Program} {w : World} {Kf : PySem.W.Frag} {mg : Str → Option Value} {base : Heap} {qual : Str} {st : Stmt} {f C : Addr} {fd : FuncData} {fl : Str} (F : Fun Kf "__iter__" qual st f fd) (S : FnScope ["self"] ["self"] (defScope st))
    (hc : Cls Kf C) (hn : NoAttr Kf C fl)
    (body : ∀ (cdv : Value) (A : Around) (outer : List Env) (s : Shared) (H : Hp) (E : XK), PSs (cxOf (L2N.CX P w) P w Kf mg base ["self"] qual (defScope st) f cdv A outer s H E) (defBody st) (tRet (tCB (rIterQ Kf s.heap.objs.size) (tCons (tFld Kf (tVar 0) fl) tNil)))) :
    FnAt P w Kf mg base (L2N.CX P w) 1 f fd ["self"] (spItQ Kf C fl) := by
  obtain ⟨oc, od, kV, doc, pm, an, cdv, ct, osl, rfl, inK, cdOk⟩ := F.ex
  refine fn_at inK cdOk S (fun s vs H Q E h => ?_) (fun A outer s H vs Q E hr h => ?_)
  · obtain ⟨a, dx, fs, l, rfl, _⟩ := h
    rfl
  · obtain ⟨a, dx, fs, l, rfl, ea, el, hg⟩ := h
    refine ⟨_, body cdv A outer s H E, ?_⟩
    refine ⟨.ref a, rfl, a, C, dx, fs, .ref l, rfl, ea, hc, hn, el, l, rfl, ?_⟩
    exact hg
end
/-! methods of texts: join, split, find, startswith ..; texts in texts; a letter of a text -/
def strsT : List Tr → Option (List Str)
  | [] => some []
  | .a (.str i) :: ts => match strsT ts with
    | some ns => some (i :: ns)
    | none => none
  | _ => none
section
variable {K : KC} {X : Cx} {T : KT} {md : List Bool} {W : WX} {c : Cz} {σ : St} {H : Hp} {Γ τ : List Ent} {us : List V} {m : Ms} {x y : V} {go ge f : GE} {o e cl : Expr} {rr : Rs}
theorem strsT_ok {Z : Zn} {H : Hp} {m : Ow} : ∀ {ts : List Tr} {vs : List V} {ns : List Str} {Φ : Ps}, RepL K Z H m ts vs Φ → strsT ts = some ns → vs = ns.map V.str
  | [], _, _, _, h, e => by
    obtain ⟨rfl, _⟩ := h
    cases e
    rfl
  | t :: ts, vs, ns, _, h, e => by
    obtain ⟨v, vs', Φ1, Φ2, rfl, h1, h2, _, _⟩ := h
    unfold strsT at e
    split at e
    · rename_i hq; cases hq
    · rename_i i ts' heq
      cases heq
      split at e
      · rename_i ns' hn
        cases e
        rw [h1.1, strsT_ok h2 hn]
        rfl
      · cases e
    · cases e
theorem strsT_map : ∀ (xs : List Str), strsT (xs.map fun i => .a (.str i)) = some xs
  | [] => rfl
  | x :: xs => by
    rw [List.map_cons]
    unfold strsT
    rw [strsT_map xs]
def FStrs (f : List Str → Option V) : Tr → Option V
  | .nd .lst _ ts => match strsT ts with
    | some ns => f ns
    | none => none
  | .nd .tup _ ts => match strsT ts with
    | some ns => f ns
    | none => none
  | _ => none
theorem FStrs_ok {f : List Str → Option V} {Z : Zn} {t : Tr} {x u : V} {Φ : Ps} (r : Rep K Z H .own t x Φ) (e : FStrs f t = some u) : ∃ a ns, x = .ref a ∧ (SqL K.K H a (ns.map V.str) ∨ SqT K.K H a (ns.map V.str)) ∧ f ns = some u := by
  unfold FStrs at e
  split at e
  · split at e
    · rename_i ns hn
      obtain ⟨ad, vs, Ξ, rfl, ho, hl, _⟩ := r
      have := strsT_ok hl hn
      subst this
      exact ⟨ad, ns, rfl, .inl (objL ho), e⟩
    · cases e
  · split at e
    · rename_i ns hn
      obtain ⟨ad, vs, Ξ, rfl, ho, hl, _⟩ := r
      have := strsT_ok hl hn
      subst this
      exact ⟨ad, ns, rfl, .inr (objT ho), e⟩
    · cases e
  · cases e
def chkS : GE := fun m => match m.s with
  | .tr (.a (.str _)) :: _ => some (.ok m)
  | _ => none
theorem chkS_ok (E : EnvOk K c σ H m.g m.s (x :: us)) (h : chkS m = some rr) : rr = .ok m ∧ ∃ a, x = .str a := by
  unfold chkS at h
  split at h
  · rename_i a s hs
    cases h
    rw [hs] at E
    obtain ⟨Z, ws, Φ, Ψ, EE⟩ := id E
    obtain ⟨Θ, h1, h2⟩ := EE.view (n := 0) rfl rfl (show viewE m.g (.tr (.a (.str a))) = some _ from rfl)
    exact ⟨rfl, a, h1⟩
  · cases h
/-- o.method(e), o a text -/
theorem me_m1 {r : V → List V → Hp → VK → Prop} (ho : ME X T md W o go) (he : ME X T md W e ge) (ok : RA2 (kcm X.K T) md W (fun x y H Q => r x [y] H Q) f) (h : ∀ {to te : TE}, PE X o to → PE X e te → PE X cl (tM1 r to te)) :
    ME X T md W cl (gSeq (gSeq go (gSeq chkS ge)) f) := by
  obtain ⟨to, po, so⟩ := ho
  obtain ⟨te, pe, se⟩ := he
  refine ⟨_, h po pe, ?_⟩
  have hs : SE (kcm X.K T) md W (fun σ H Q => to σ H fun x H1 => (∃ a, x = .str a) ∧ Q x H1) (gSeq go chkS) := by
    intro c σ H m us Q rr hc E hg hp
    simp only [gSeq] at hg
    split at hg
    · rename_i m1 h1
      refine so c σ H m us _ _ hc E h1 fun x H1 E1 => ?_
      obtain ⟨e1, ha⟩ := chkS_ok E1 hg
      cases e1
      exact ⟨ha, hp _ _ E1⟩
    · rename_i h1
      refine so c σ H m us _ _ hc E hg ?_
      cases rr with
      | ex C g' => exact hp
      | ok m2 => exact absurd hg (h1 m2)
  have hq := se_op ok hs se
  intro c σ H m us Q rr hc E hg hp
  have hg2 : gSeq (gSeq (gSeq go chkS) ge) f m = some rr := by
    rw [← hg]
    unfold gSeq
    cases h1 : go m with
    | none => rfl
    | some r1 => cases r1 <;> rfl
  exact hq c σ H m us Q rr hc E hg2 hp
/-! sep.join(texts) -/
def rJoin (K : PySem.W.Frag) : V → List V → Hp → VK → Prop := fun x xs H Q => ∃ a p, ∃ ys : List Str, x = .str a ∧ xs = [.ref p] ∧ (SqL K H p (ys.map V.str) ∨ SqT K H p (ys.map V.str)) ∧
    (ys.map (·.length)).sum + ys.length * a.length ≤ 16777216 ∧ Q (.str (Txt.join a ys)) H
def FJoin : Tr → Tr → Option V
  | .a (.str a), t => FStrs (fun ys => if (ys.map (·.length)).sum + ys.length * a.length ≤ 16777216 then some (.str (Txt.join a ys)) else none) t
  | _, _ => none
def fJoin : GE := fP2 FJoin
theorem fJoin_ok : RA2 K md W (fun x y H Q => rJoin K.K x [y] H Q) fJoin := fP2_ok fun Z H x y tx ty u Φ Ψ Q r1 r2 e q => by
  unfold FJoin at e
  split at e
  · rename_i a
    obtain ⟨p, ys, rfl, h, e⟩ := FStrs_ok r2 e
    split at e
    · rename_i hz
      cases e
      obtain ⟨rfl, _⟩ := r1
      exact ⟨a, p, ys, rfl, rfl, h, hz, q⟩
    · cases e
  · cases e
theorem FJoin_t (a : Str) (o : Ow) (ys : List Str) (h : (ys.map (·.length)).sum + ys.length * a.length ≤ 16777216) : FJoin (.a (.str a)) (.nd .tup o (ys.map fun i => .a (.str i))) = some (.str (Txt.join a ys)) := by
  simp only [FJoin, FStrs, strsT_map]
  rw [if_pos h]
theorem FJoin_l (a : Str) (o : Ow) (ys : List Str) (h : (ys.map (·.length)).sum + ys.length * a.length ≤ 16777216) : FJoin (.a (.str a)) (.nd .lst o (ys.map fun i => .a (.str i))) = some (.str (Txt.join a ys)) := by
  simp only [FJoin, FStrs, strsT_map]
  rw [if_pos h]
/-! x.split(sep) -/
def rSplit : V → List V → Hp → VK → Prop := fun x xs H Q => ∃ a b, x = .str a ∧ xs = [.str b] ∧ (b.length == 0) = false ∧ a.length + 2 ≤ sizeLine ∧ rNewStrs (Txt.split a b) H Q
def fSplit : GE := fun m => match m.s with
  | .tr (.a (.str b)) :: .tr (.a (.str a)) :: s => if (b.length == 0) = false ∧ a.length ≤ 100000 then some (.ok ⟨m.g, .tr (.nd .lst .own ((Txt.split a b).map fun i => .a (.str i))) :: s⟩) else none
  | _ => none
theorem EnvOk.newStrs {pa : Addr} (E : EnvOk K c σ H Γ τ us) (ns : List Str) (hp : H pa = none) : EnvOk K c σ (upd H pa (.lst (ns.map V.str))) Γ (.tr (.nd .lst .own (ns.map fun i => .a (.str i))) :: τ) (.ref pa :: us) := by
  have E1 := EnvOk.atoms (ns.reverse.map V.str) E
  have e : (fun v => Ent.tr (Tr.a v)) ∘ V.str = Ent.tr ∘ fun i : Str => Tr.a (V.str i) := rfl
  refine EnvOk.new (ts := ns.map fun i => .a (.str i)) (vs := ns.map V.str) (k := .lst) ?_ (by simp) hp (by simp [mkN, escL_atoms V.str]) fun o => upd_same
  simpa [List.map_reverse, e] using E1
theorem fSplit_ok : RA2 K md W (fun x y H Q => rSplit x [y] H Q) fSplit := by
  refine .mk fun c σ H m us x y Q rr hc E hf hp => ?_
  unfold fSplit at hf
  split at hf
  · rename_i b a s hs
    split at hf
    · rename_i hz
      cases hf
      rw [hs] at E
      obtain ⟨Z, ws, Φ, Ψ, EE⟩ := id E
      obtain ⟨Θ1, h1, _⟩ := EE.view (n := 0) rfl rfl (show viewE m.g (.tr (.a (.str b))) = some _ from rfl)
      obtain ⟨Θ2, h2, _⟩ := EE.view (n := 1) rfl rfl (show viewE m.g (.tr (.a (.str a))) = some _ from rfl)
      subst h1 h2
      refine ⟨a, b, rfl, rfl, hz.1, Nat.le_trans (Nat.add_le_add_right hz.2 2) (by decide), fun p hn => hp _ _ ?_⟩
      exact EnvOk.newStrs (E.drop.drop) _ hn
    · cases hf
  · cases hf
end
/-! isinstance of a class above -/
section
variable {K : KC} {X : Cx} {T : KT} {md mdc : List Bool} {W : WX} {n : Nat}
theorem call_isU {C D : Addr} (c : C8.InsC X.K C) (hU : PySem.W.kitOne X.K (.ref C) (.ref D) = some true) : CallR X (.builtin "isinstance") (fun xs H Q => ∃ a dx fs, xs = [.ref a, .ref D] ∧ H a = some (.ins C dx fs) ∧ Q (.bl true) H) := by
  intro pins s σ H xs us Q I r h
  obtain ⟨a, dx, fs, rfl, ea, q⟩ := h
  obtain ⟨u1, u2, rfl, r1, r2⟩ := vals2 r
  cases r2
  refine isinst_ok I r1 (TyOf.ins ea c.cl c.ha c.hn c.htk c.hm) hU fun tk => ?_
  exact ⟨.bl true, H, I.tok _, rfl, q⟩
theorem me_isU {dn : Str} {D : Addr} {e : Expr} {ga : GE} {pd pi ps : Pos} (hC : C8.InsC X.K ((kcm X.K T).ct n)) (hU : PySem.W.kitOne X.K (.ref ((kcm X.K T).ct n)) (.ref D) = some true) (hg : Gl X "isinstance") (hm : X.mg "isinstance" = none) (hv : bootBuiltins "isinstance" = some (.builtin "isinstance")) (ha : ME X T md W e ga) (hd : PE X (.Name dn pd) (tC (.ref D)))
    (hst1 : starEach [e, .Name dn pd] X.env = (false, eval e X.env) :: starEach [.Name dn pd] X.env := by rfl)
    (hst2 : starEach [.Name dn pd] X.env = (false, eval (.Name dn pd) X.env) :: starEach [] X.env := by rfl)
    (hpl : (backTo ps (starEach [.Name dn pd] X.env)).any (·.1) = false := by rfl) : ME X T md W (.Call (.Name "isinstance" pi) [e, .Name dn pd] [] ps) (gSeq ga (fIsO n)) := by
  obtain ⟨ta, pa, sa⟩ := ha
  refine ⟨_, pe_callB (call_isU hC hU) hg hm hv (pa_cons pa (pa_cons hd pa_nil hst2) hst1) (by decide) (by rfl) hst1 hpl, ?_⟩
  intro c σ H m us Q r hmd E hg' hp
  simp only [gSeq] at hg'
  split at hg'
  · rename_i m1 h1
    refine sa c σ H m us _ _ hmd E h1 ?_
    intro v H1 E1
    unfold fIsO at hg'
    split at hg'
    · rename_i r2 h2
      obtain ⟨a, dx, fs, rfl, ho⟩ := chkI_at E1 h2
      split at hg'
      · rename_i e2 s2 hs2
        cases hg'
        rw [hs2] at E1
        exact ⟨a, dx, fs, rfl, ho, hp _ _ (E1.drop.atom (.bl true))⟩
      · cases hg'
    · cases hg'
  · rename_i h1
    refine sa c σ H m us _ _ hmd E hg' ?_
    cases r with
    | ex C g' => exact hp
    | ok m2 => exact absurd hg' (h1 m2)
end
/-! list(reversed(xs)) -/
section
open PySem.Spec PyProof.Rows
theorem call_list_revX {prog : Program} {w : World} {A : Around} {E : Value → Shared → Prop} {s0 : Shared} {it l : Addr} {ys : Array Value} {Q : Value → Shared → Prop} (calm : A.handled = none) (hi : s0.heap.IsRevIter it l ((ys.size : Int) - 1)) (hL : s0.heap.IsList l ys) (ne : l ≠ it) (small : ys.size ≤ sizeLine)
    (fin : ∀ (h2 : Heap) (tk : Nat) (acc : Array Value) (c2 : Nat), (∀ b o, b ≠ it → s0.heap.get? b = some o → h2.get? b = some o) → h2.get? s0.heap.objs.size = some { cls := .type "list", dict := none, data := .seq acc c2, slots := #[] } → ItemsOf (fun i v => ys[ys.size - 1 - i]? = some v) acc ys.size →
      Q (.ref s0.heap.objs.size) { s0 with heap := h2, toks := tk }) :
    wpAny (model prog w) A (call (.type "list") [.ref it]) Q E s0 := by
  obtain ⟨oi, hoi, _⟩ := id hi; obtain ⟨ol, hol, _⟩ := id hL
  have n1 : s0.heap.objs.size ≠ it := Nat.ne_of_gt (Heap.lt_size hoi)
  have n2 : s0.heap.objs.size ≠ l := Nat.ne_of_gt (Heap.lt_size hol)
  have nf : s0.heap.objs.size ∉ [it, l] := by simp [n1, n2]
  refine callType_codes (Q₁ := fun obj s₁ => obj = .ref s0.heap.objs.size ∧ s₁ = { s0 with heap := s0.heap.push { cls := .type "list", data := .seq #[] } }) PySem.F.called_list (PySem.F.typeCall_list_1 _) PySem.F.entry_list_init (code_list_new _ ⟨rfl, rfl⟩) fun obj s₁ h₁ => ?_
  obtain ⟨e1, e2⟩ := h₁; subst e1 e2
  have W := (Walks.listRev (prog := prog) (w := w) (A := A.in1.in1) calm it l ne ys).toS
  have g0 : (s0.heap.push { cls := .type "list", data := .seq #[] }).get? s0.heap.objs.size = some { cls := .type "list", data := .seq #[] } := Heap.get?_push_size _ rfl
  refine ⟨⟨_, g0, rfl⟩, PySem.F.args_list_init_2 _ _, ?_⟩
  show wpAny _ A.in1.in1 (do let old ← Builtin.List.listItems (.ref s0.heap.objs.size); Builtin.List.listUpdate (.ref s0.heap.objs.size) (fun _ => #[]); letGo old.toList.reverse; Builtin.List.listExtendWith (.ref s0.heap.objs.size) (.ref it) .none) _ _ _
  refine wpAny_bind ?_; unfold Builtin.List.listItems
  refine wpAny_bind (wpAny_seqItems g0 rfl (wpAny_pure ?_))
  show wpAny _ A.in1.in1 (updateSeq s0.heap.objs.size (fun _ => #[]) >>= fun _ => letGo (#[] : Array Value).toList.reverse >>= fun _ => Builtin.List.listExtendWith (.ref s0.heap.objs.size) (.ref it) .none) _ _ _
  refine wpAny_bind (wpAny_updateSeq g0 rfl ?_)
  have g1 := Heap.get?_update_self (Obj.mapSeq (fun _ => (#[] : Array Value))) g0 rfl
  have k1 : ∀ b o, s0.heap.get? b = some o → ((s0.heap.push { cls := .type "list", data := .seq #[] }).update s0.heap.objs.size (Obj.mapSeq (fun _ => (#[] : Array Value)))).get? b = some o := fun b o e =>
    (Heap.get?_update_other _ _ (Ne.symm (Nat.ne_of_lt (Heap.lt_size e)))).trans (Heap.get?_push_of_some _ e)
  refine wpAny_bind (wpAny_letGo ?_); unfold Builtin.List.listExtendWith
  have hi1 : ((s0.heap.push { cls := .type "list", data := .seq #[] }).update s0.heap.objs.size (Obj.mapSeq (fun _ => (#[] : Array Value)))).IsRevIter it l ((ys.size : Int) - 1) := hi.at fun o e => k1 _ o e
  have hT : ({ s0 with heap := (s0.heap.push { cls := .type "list", data := .seq #[] }).update s0.heap.objs.size (Obj.mapSeq (fun _ => (#[] : Array Value))) } : Shared).TypeIs (.ref it) "list_reverseiterator" := Heap.IsRevIter.typeIs (s := { s0 with heap := _ }) hi1
  have sm : Builtin.List.listSameRef (.ref s0.heap.objs.size) (.ref it) = false := by simp [Builtin.List.listSameRef, n1]
  refine wpAny_bind (wpAny_typeOf hT ?_); rw [if_neg (by rw [sm]; decide)]
  refine wpAny_bind (wpAny_pyIter_revIter (s := { s0 with heap := _ }) hi1 ?_)
  refine wpAny_bind (wpAny_holding ?_); unfold Builtin.List.listLengthHint
  refine wpAny_bind (wpAny_specialOf hT RT.nolen_lri ?_)
  show wpAny _ A.in1.in1 (specialOf (Value.ref it) (Str.ofString "__length_hint__") >>= _) _ _ _
  refine wpAny_bind (wpAny_specialOf hT RT.hint_lri ?_)
  generalize hk : ("list_reverseiterator.__length_hint__" : String) = kk; wp_delta
  rw [show splitId kk = some ("list_reverseiterator", "__length_hint__") by subst hk; decide +kernel]; subst hk
  refine wpAny_bind (wpAny_isInstance (b := true) hT (by rw [isSubtype_type]; kernel_rfl) (wpAny_pure ?_))
  rw [if_neg (by decide)]
  have e0 : ((ys.size : Nat) : Int) - 1 - ((0 : Nat) : Int) = (ys.size : Int) - 1 := by omega
  have hL1 : ((s0.heap.push { cls := .type "list", data := .seq #[] }).update s0.heap.objs.size (Obj.mapSeq (fun _ => (#[] : Array Value)))).IsList l ys := hL.at fun o e => k1 _ o e
  refine wpAny_pure ⟨plainId_quiet PySem.F.plain_extend_loop _, codeAny_extend_loopS W small _ nf _ ys.size 0 _ _ _ rfl (Nat.zero_le _) ⟨Nat.zero_le _, by rw [e0]; exact hi1, hL1⟩ g1 (ItemsOf.nil _) fun s2 acc c2 hm g2 hacc => ?_⟩
  rw [Moved.eq_with hm]
  refine ⟨rfl, fin s2.heap s2.toks acc c2 (fun b o hb e => hm.heap b o (fun hmem => ?_) (k1 b o e)) g2 hacc⟩
  rcases List.mem_cons.mp hmem with e3 | hmem
  · rw [e3] at e; exact absurd (Heap.lt_size e) (Nat.lt_irrefl _)
  · exact hb (List.mem_singleton.mp hmem)
end
section
open PySem.Spec PyProof.Rows
variable {X : Cx}
def tLstRev (K : PySem.W.Frag) (te : TE) : TE := fun σ H Q => te σ H fun v H1 => ∃ (a : Addr) (xs : List V), v = .ref a ∧ SqL K H1 a xs ∧ ∀ q, H1 q = none → Q (.ref q) (upd H1 q (.lst xs.reverse))
theorem pe_lstRev {e : Expr} {te : TE} {p p2 pos pos2 : Pos} (calm : X.calm = true) (g1 : Gl X "list") (m1 : X.mg "list" = none) (g2 : Gl X "reversed") (m2 : X.mg "reversed" = none) (he : PE X e te)
    (st1 : starEach [e] X.env = (false, eval e X.env) :: starEach [] X.env := by rfl)
    (st2 : starEach [.Call (.Name "reversed" p2) [e] [] pos2] X.env = (false, eval (.Call (.Name "reversed" p2) [e] [] pos2) X.env) :: starEach [] X.env := by rfl) :
    PE X (.Call (.Name "list" p) [.Call (.Name "reversed" p2) [e] [] pos2] [] pos) (tLstRev X.K te) := by
  refine ⟨fun pins s σ H Q I h => ?_⟩
  refine Call_ (ld_blt I g1 m1 boot_list (callWith_type1 (args_cons (Call_ (ld_blt I g2 m2 boot_reversed (callWith_type1 (args_cons (thn (he.run pins s σ H _ I h) fun u s1 ⟨v, H1, I1, r1, q1⟩ => args_nil ?_) st1) st1 rfl))) st2) st2 rfl))
  obtain ⟨a, xs, rfl, hq, q⟩ := q1
  obtain rfl : u = Value.ref a := r1
  obtain ⟨its, rv, p', hz⟩ := I1.list hq
  refine call_reversed_list p'.isList (args_nil ?_)
  have I2 : Inv X pins σ H1 { s1 with heap := s1.heap.push (revObj a ((its.toArray.size : Int) - 1)) } := I1.kept (t' := s1.toks) fun b o e => Heap.get?_push_of_some _ e
  have fp := I1.fpOk (H' := H1) (b := s1.heap.objs.size) (Nat.le_refl _) (I1.hok.fresh (Nat.le_refl _))
  have hl := p'.isList
  obtain ⟨ol, hol, _⟩ := id hl
  refine call_list_revX (s0 := { s1 with heap := s1.heap.push (revObj a ((its.toArray.size : Int) - 1)) }) (I1.ok.hd calm) ⟨_, Heap.get?_push_size _ rfl, rfl, rfl⟩ (hl.push _) (Nat.ne_of_lt (Heap.lt_size hol)) (by rw [List.size_toArray, ← rv.length]; exact hz) fun h2 tk acc c2 hk e2 hi => ?_
  have new : ObjOk X.prog X.w (upd H1 (s1.heap.push (revObj a ((its.toArray.size : Int) - 1))).objs.size (.lst xs.reverse)) h2 (s1.heap.push (revObj a ((its.toArray.size : Int) - 1))).objs.size (.lst xs.reverse) := by
    refine ⟨by rw [List.length_reverse]; exact hz, acc.toList, c2, RT.vals_rev rv hi, ?_⟩
    rw [Array.toArray_toList]
    exact e2
  have I3 := I2.turnedNew (t' := tk) (h' := h2) (ch := [s1.heap.objs.size]) (fun b o hb e => hk b o (fun z => hb (by rw [z]; exact List.mem_singleton.mpr rfl)) e) (fun b hb => by rw [List.mem_singleton.mp hb]; exact fp) (Nat.le_refl _) new
  exact ⟨.ref _, _, I3, rfl, q _ (I2.hok.fresh (Nat.le_refl _))⟩
end
section
variable {K : KC} {X : Cx} {T : KT} {md : List Bool} {W : WX} {g : GE}
def fLstR : GE := fun m => match m.s with
  | e :: s => match viewE m.g e with
    | some (.nd .lst o ts) => match strsT ts with
      | some ns => some (.ok ⟨m.g, .tr (.nd .lst .own (ns.reverse.map fun i => .a (.str i))) :: s⟩)
      | none => none
    | _ => none
  | _ => none
theorem me_lstRev {e : Expr} {p p2 pos pos2 : Pos} (h : ME X T md W e g) (calm : X.calm = true) (g1 : Gl X "list") (m1 : X.mg "list" = none) (g2 : Gl X "reversed") (m2 : X.mg "reversed" = none)
    (st1 : starEach [e] X.env = (false, eval e X.env) :: starEach [] X.env := by rfl)
    (st2 : starEach [.Call (.Name "reversed" p2) [e] [] pos2] X.env = (false, eval (.Call (.Name "reversed" p2) [e] [] pos2) X.env) :: starEach [] X.env := by rfl) :
    ME X T md W (.Call (.Name "list" p) [.Call (.Name "reversed" p2) [e] [] pos2] [] pos) (gSeq g fLstR) := by
  obtain ⟨t, pe, se⟩ := h
  refine ⟨_, pe_lstRev calm g1 m1 g2 m2 pe st1 st2, fun c σ H m us Q rr hc E hg hp => ?_⟩
  simp only [gSeq] at hg
  split at hg
  · rename_i m0 h0
    refine se c σ H m us _ _ hc E h0 fun x H1 E1 => ?_
    unfold fLstR at hg
    split at hg
    · rename_i en s1 hs
      rw [hs] at E1
      split at hg
      · rename_i o ts hv
        split at hg
        · rename_i ns hn
          cases hg
          obtain ⟨Z, ws, Φ, Ψ, EE⟩ := id E1
          obtain ⟨Θ1, ad, vs, Ξ, rfl, ho, hl, _⟩ := EE.view (n := 0) rfl rfl hv
          have := strsT_ok hl hn
          subst this
          refine ⟨ad, ns.map V.str, rfl, objL ho, fun q nl => hp _ _ ?_⟩
          rw [← List.map_reverse]
          exact EnvOk.newStrs (E1.drop) _ nl
        · cases hg
      · cases hg
    · cases hg
  · rename_i h0
    refine se c σ H m us _ _ hc E hg ?_
    cases rr with
    | ex C g' => exact hp
    | ok m2 => exact absurd hg (h0 m2)
end
/-! t + u, tuples of plain values -/
section
variable {K : KC} {X : Cx} {T : KT} {md : List Bool} {W : WX} {c : Cz} {σ : St} {H : Hp} {Γ τ : List Ent} {us : List V} {ga gb : GE}
def fCatT : GE := fun m => match m.s with
  | .tr (.nd .tup .own us) :: .tr (.nd .tup .own ts) :: s => match atoms ts, atoms us with
    | some vs, some ws => if ts.length + us.length ≤ 100000 then some (.ok ⟨m.g, .tr (.nd .tup .own ((vs ++ ws).map Tr.a)) :: s⟩) else none
    | _, _ => none
  | _ => none
theorem atoms_back : ∀ {ts : List Tr} {vs : List V}, atoms ts = some vs → ts = vs.map Tr.a
  | [], vs, h => by
    simp only [atoms] at h
    cases h
    rfl
  | t :: ts, vs, h => by
    cases t with
    | a w =>
      simp only [atoms] at h
      split at h
      · rename_i us he
        cases h
        rw [List.map_cons, ← atoms_back he]
      · cases h
    | any => cases h
    | nd k o us => cases h
theorem EnvOk.newTup {pa : Addr} (E : EnvOk K c σ H Γ τ us) (vs : List V) (hp : H pa = none) : EnvOk K c σ (upd H pa (.tup vs)) Γ (.tr (.nd .tup .own (vs.map Tr.a)) :: τ) (.ref pa :: us) := by
  have E1 := EnvOk.atoms vs.reverse E
  have e : (fun v => Ent.tr (Tr.a v)) = Ent.tr ∘ Tr.a := rfl
  refine EnvOk.new (ts := vs.map Tr.a) (vs := vs) (k := .tup) ?_ (by simp) hp (by simp [mkN]) fun o => .inl upd_same
  simpa [List.map_reverse, e] using E1
theorem fCatT_ok : RA2 K md W (rCatA K.K) fCatT := by
  refine .mk fun c σ H m zs x y Q rr hc E hf hp => ?_
  unfold fCatT at hf
  split at hf
  · rename_i us ts s hs
    split at hf
    · rename_i vs ws h1 h2
      split at hf
      · rename_i hl
        cases hf
        rw [hs] at E
        have e1 := atoms_back h1
        have e2 := atoms_back h2
        subst e1 e2
        obtain ⟨b, bs, rfl, hb, _⟩ := viewObj E (show viewE m.g (.tr (.nd .tup .own (ws.map Tr.a))) = some _ from rfl)
        obtain ⟨a, as, rfl, ha, _⟩ := viewObj (EnvOk.swap2 E) (show viewE m.g (.tr (.nd .tup .own (vs.map Tr.a))) = some _ from rfl)
        obtain ⟨Z, zz, Φ, Ψ, EE⟩ := id E
        obtain ⟨Θ1, b', bs', Ξ1, q1, ob1, rl1, _⟩ := EE.view (n := 0) rfl rfl (show viewE m.g (.tr (.nd .tup .own (ws.map Tr.a))) = some _ from rfl)
        obtain ⟨Θ2, a', as', Ξ2, q2, ob2, rl2, _⟩ := EE.view (n := 1) rfl rfl (show viewE m.g (.tr (.nd .tup .own (vs.map Tr.a))) = some _ from rfl)
        cases q1
        cases q2
        have r1 := atoms_ok rl1 h2
        have r2 := atoms_ok rl2 h1
        subst r1 r2
        rw [List.length_map, List.length_map] at hl
        refine ⟨a, b, as', bs', rfl, rfl, objT ob2, objT ob1, Nat.le_trans hl (by decide), fun z => hp _ _ ?_, fun _ z => hp _ _ ?_, fun _ _ p hn => hp _ _ ?_⟩
        · subst z
          exact (EnvOk.swap2 E).drop
        · subst z
          rw [List.append_nil]
          exact E.drop
        · exact EnvOk.newTup (E.drop.drop) _ hn
      · cases hf
    · cases hf
  · cases hf
theorem me_catT {a b : Expr} {pos : Pos} (ha : ME X T md W a ga) (hb : ME X T md W b gb) : ME X T md W (.BinOp a .Add b pos) (gSeq (gSeq ga gb) fCatT) := me_bin op_catA fCatT_ok ha hb
end
/-! static methods and new things that may raise -/
section
variable {K : KC} {X : Cx} {T : KT} {md mdc : List Bool} {W : WX} {g ga : GE} {e oe : Expr} {es : List Expr} {pos pp apos : Pos} {x me : Str} {G : GF} {kk n : Nat} {f C : Addr} {fd : FuncData} {ps : List Str} {is : List Nat} {sp : Sp} {ta : TE} {tA : TA} {pl : Sem Bool} {CXk : CXT} {Ew : St → XK}
def tSMethS (C : Addr) (sp : Sp) (Ew : St → XK) (ta : TE) (t : TA) : TE := fun σ H Q => ta σ H fun x H1 => x = .ref C ∧ t σ H1 fun vs H2 => sp vs H2 Q (Ew σ)
theorem pe_smethS (po : PE X oe ta) (cm : SMet X.K C me f) (F : FnOk X.prog X.w X.K X.mg X.base CXk kk f fd ps sp) (hr : Room kk X.A) (hb : Binds X.K fd ps []) (hx : ∀ σ, PassesAt CXk X σ (Ew σ)) (pa : PA X (e :: es) tA)
    (hst : starEach (e :: es) X.env = (false, eval e X.env) :: starEach es X.env := by rfl) (hpl : (backTo pos (starEach es X.env)).any (·.1) = false := by rfl)
    (ht : eval (.Call (.Attribute oe me apos) (e :: es) [] pos) X.env = (do let ov ← eval oe X.env; standAt apos.atName; let (f, first) ← holding [ov] (getMethod ov me pl); callWith pos f first (backTo pos (starEach (e :: es) X.env)) (backToKw pos (keywordEach [] X.env))) := by rfl) :
    PE X (.Call (.Attribute oe me apos) (e :: es) [] pos) (tSMethS C sp Ew ta tA) := by
  constructor
  intro pins s σ H Q I hh
  refine PySem.W.methodCall_KW (pl := pl) (he := ht) (thn (po.run pins s σ H _ I hh) ?_)
  rintro u s1 ⟨xv, H1, I1, rx, rfl, q1⟩
  cases (show u = Value.ref C from rx)
  obtain ⟨p, rest, a1, a2⟩ := cm.at_
  refine PySem.W.method_cls I1.kIn cm.rd.ga (PySem.W.cls_bind I1.kIn cm.rd.rd a1 (wpAny_call (PySem.W.sm_get (s := { s1 with toks := s1.toks + 1 }) I1.kIn a2 (PySem.W.handed_on rfl ?_))))
  have I2 := I1.tok (s1.toks + 1)
  refine PySem.W.callWith_K (h₀ := X.base) I2.ok.mod.kin cm.kp (thn (pa.run pos pins _ σ H1 _ I2 q1) ?_) hst hpl
  rintro us s2 ⟨vs, H2, I3, rr, q2⟩
  exact ⟨I3.kIn, run_fnS F hr hb (hx σ) I3 rr q2⟩
theorem me_smethS (he : PE X oe (tC (.ref C))) (cm : SMet X.K C me f) (F : FnOk X.prog X.w X.K X.mg X.base (L2N.CX X.prog X.w) kk f fd ps (spOf (kcm X.K T) mdc G)) (hr : Room kk X.A) (tk : Takes X W) (hb : Binds X.K fd ps []) (ha : MA X T md W (e :: es) ga) (hin : ∀ i ∈ is, i < (e :: es).length) (hpw : is.reverse.Pairwise (· > ·))
    (hst : starEach (e :: es) X.env = (false, eval e X.env) :: starEach es X.env := by rfl) (hpl : (backTo pos (starEach es X.env)).any (·.1) = false := by rfl)
    (ht : eval (.Call (.Attribute oe me apos) (e :: es) [] pos) X.env = (do let ov ← eval oe X.env; standAt apos.atName; let (f, first) ← holding [ov] (getMethod ov me pl); callWith pos f first (backTo pos (starEach (e :: es) X.env)) (backToKw pos (keywordEach [] X.env))) := by rfl) :
    ME X T md W (.Call (.Attribute oe me apos) (e :: es) [] pos) (gSeq ga (gCall is mdc G (e :: es).length)) := by
  obtain ⟨t, pa, sa⟩ := ha
  refine ⟨_, pe_smethS (Ew := WE W) he cm F hr hb (fun σ => passAt tk σ) pa hst hpl ht, fun c σ H m us Q rr hc E hg hp => ⟨rfl, ?_⟩⟩
  simp only [gSeq] at hg
  split at hg
  · rename_i m3 h3
    exact sa c σ H m us _ _ hc E h3 fun vs H2 hl E2 => gCall_ok hin hpw c σ H2 m3 us vs Q rr hc hl E2 hg hp
  · rename_i h3
    refine sa c σ H m us _ _ hc E hg ?_
    cases rr with
    | ex C g' => exact hp
    | ok m2 => exact absurd hg (h3 m2)
/-- a new thing whose __init__ may raise -/
theorem run_makeS {pins : List (Addr × Obj)} {σ : St} {H : Hp} {s0 : Shared} {Q : VK} {us : List Value} {vs : List V} {Ex : XK} (M : Mk X.K C f) (F : FnOk X.prog X.w X.K X.mg X.base CXk kk f fd ps sp) (hr : Room (kk + 1) X.A) (hb : Binds X.K fd ps []) (hx : PassesAt CXk X σ Ex) (I : Inv X pins σ H s0) (r : Vals vs us)
    (h : ∀ x dx, H x = none → H dx = none → dx ≠ x → sp (.ref x :: vs) (upd (upd H dx (.own x)) x (.ins C dx [])) (fun v H2 => v = .non ∧ Q (.ref x) H2) Ex) :
    wpAny (model X.prog X.w) X.A (call (.ref C) us) (EP X pins σ Q) X.xe s0 := by
  have w0 := h (s0.heap.objs.size + 1) s0.heap.objs.size (I.hok.fresh (Nat.le_succ _)) (I.hok.fresh (Nat.le_refl _)) (Nat.ne_of_lt (Nat.lt_succ_self _))
  have J := Inv.made (C := C) I
  have rs : Vals (V.ref (s0.heap.objs.size + 1) :: vs) (Value.ref (s0.heap.objs.size + 1) :: us) := .cons rfl r
  have len : (Value.ref (s0.heap.objs.size + 1) :: us ++ []).length = ps.length := by
    rw [List.append_nil, ← rs.length]; exact F.len _ _ _ _ w0
  refine wpAny_call (make_map (f := f) I.kIn M.makes M.init (beq_iff_eq.mp M.fn) (codeAny_mono (F.run _ X.stack _ _ ⟨Value.ref (s0.heap.objs.size + 1) :: us, []⟩ (Value.ref (s0.heap.objs.size + 1) :: us) _ _ Ex (hr.make C us [])
    (J.env0.make C us []) (by simpa using hb _ (Value.ref (s0.heap.objs.size + 1) :: us) J.kIn len) rs w0) fun r s2 hq => ?_))
  match r, hq with
  | .error e, hq => exact hx pins _ _ e s2 J hq
  | .ok (.ret u), hq =>
    obtain ⟨v, H2, J2, rv, hv, q⟩ := J.after hq
    cases hv
    exact ⟨rv, ⟨V.ref (s0.heap.objs.size + 1), H2, J2, rfl, q⟩⟩
def tMakeS (C : Addr) (sp : Sp) (Ew : St → XK) (t : TA) : TE := fun σ H Q => t σ H fun vs H1 => ∀ x dx, H1 x = none → H1 dx = none → dx ≠ x →
  sp (.ref x :: vs) (upd (upd H1 dx (.own x)) x (.ins C dx [])) (fun v H2 => v = .non ∧ Q (.ref x) H2) (Ew σ)
theorem pe_makeS (M : Mk X.K C f) (F : FnOk X.prog X.w X.K X.mg X.base CXk kk f fd ps sp) (hr : Room (kk + 1) X.A) (hg : Gl X x) (hm : X.mg x = some (.ref C)) (hb : Binds X.K fd ps []) (hx : ∀ σ, PassesAt CXk X σ (Ew σ)) (pa : PA X (e :: es) tA)
    (hdb : (x == ("__debug__" : Str)) = false := by decide) (hst : starEach (e :: es) X.env = (false, eval e X.env) :: starEach es X.env := by rfl) (hpl : (backTo pos (starEach es X.env)).any (·.1) = false := by rfl) :
    PE X (.Call (.Name x pp) (e :: es) [] pos) (tMakeS C sp Ew tA) := by
  constructor
  intro pins s σ H Q I hh
  refine wpAny_Call_Name_kw (ld_glob I hg hm (PySem.W.callWith_K (h₀ := X.base) I.ok.mod.kin M.kp (thn (pa.run pos pins s σ H _ I hh) ?_) hst hpl) hdb)
  rintro us s1 ⟨vs, H1, I1, rr, q⟩
  exact ⟨I1.kIn, run_makeS M F hr hb (hx σ) I1 rr q⟩
theorem me_makeS (M : Mk X.K (T.ct n) f) (F : FnOk X.prog X.w X.K X.mg X.base (L2N.CX X.prog X.w) kk f fd ps (spOf (kcm X.K T) (true :: mdc) G)) (hr : Room (kk + 1) X.A) (tk : Takes X W) (hg : Gl X x) (hm : X.mg x = some (.ref (T.ct n))) (hb : Binds X.K fd ps []) (ha : MA X T md W (e :: es) ga)
    (hdb : (x == ("__debug__" : Str)) = false := by decide) (he : starEach (e :: es) X.env = (false, eval e X.env) :: starEach es X.env := by rfl) (hpl : (backTo pos (starEach es X.env)).any (·.1) = false := by rfl) :
    ME X T md W (.Call (.Name x pp) (e :: es) [] pos) (gSeq ga (gMake n mdc G (e :: es).length)) := by
  obtain ⟨t, pa, sa⟩ := ha
  refine ⟨_, pe_makeS (Ew := WE W) M F hr hg hm hb (fun σ => passAt tk σ) pa hdb he hpl, ?_⟩
  refine seqA sa (R := fun σ vs H1 Q => ∀ x dx, H1 x = none → H1 dx = none → dx ≠ x → spOf (kcm X.K T) (true :: mdc) G (.ref x :: vs) (upd (upd H1 dx (.own x)) x (.ins (T.ct n) dx [])) (fun v H2 => v = .non ∧ Q (.ref x) H2) (WE W σ)) ?_
  intro c σ H m us vs Q rr hc hl E hf hp xa dx h1 h2 h3
  exact gMake_ok E hl hf hp (fun _ _ h => h) h1 h2 h3
end
/-! isinstance(e, T), isinstance(e, (A, B)): e the error of a suite -/
section
variable {X : Cx} {T : KT} {md : List Bool} {W : WX} {i : Nat} {a D : Addr} {oe : Obj} {pn : List (Addr × Obj)}
/-- written classes as arguments -/
def tCl (vs : List V) : TA := fun _ H Q => Q vs H
theorem pcl_nil : PA X [] (tCl []) := pa_nil
theorem pcl_cons {e : Expr} {es : List Expr} {v : V} {vs : List V} (h : PE X e (tC v)) (hr : PA X es (tCl vs)) (hst : starEach (e :: es) X.env = (false, eval e X.env) :: starEach es X.env := by rfl) : PA X (e :: es) (tCl (v :: vs)) := pa_cons h hr hst
theorem me_isV {v : V} {cv : Value} {en dn : Str} {pe pd pi ps : Pos} {b : Bool} (hex : ExcC X.K D) (hz : L2N.Zn (.ref D) none oe) (hfl : ∃ vs, oe.data = .fields vs) (huv : ∀ u, RelV v u → u = cv) (hk : PySem.W.kitOne X.K (.ref D) cv = some b) (hg : Gl (X.suite a ((a, oe) :: pn)) "isinstance") (hm : X.mg "isinstance" = none)
    (hv : bootBuiltins "isinstance" = some (.builtin "isinstance")) (he : PE (X.suite a ((a, oe) :: pn)) (.Name en pe) (tVar i)) (hd : PE (X.suite a ((a, oe) :: pn)) (.Name dn pd) (tC v))
    (hst1 : starEach [.Name en pe, .Name dn pd] (X.suite a ((a, oe) :: pn)).env = (false, eval (.Name en pe) (X.suite a ((a, oe) :: pn)).env) :: starEach [.Name dn pd] (X.suite a ((a, oe) :: pn)).env := by rfl)
    (hst2 : starEach [.Name dn pd] (X.suite a ((a, oe) :: pn)).env = (false, eval (.Name dn pd) (X.suite a ((a, oe) :: pn)).env) :: starEach [] (X.suite a ((a, oe) :: pn)).env := by rfl)
    (hpl : (backTo ps (starEach [.Name dn pd] (X.suite a ((a, oe) :: pn)).env)).any (·.1) = false := by rfl) :
    ME (X.suite a ((a, oe) :: pn)) T md W (.Call (.Name "isinstance" pi) [.Name en pe, .Name dn pd] [] ps) (gIsE i a b) := by
  refine ⟨_, pe_callB (call_isE hex hz.zc hfl) hg hm hv (pa_cons he (pa_cons hd pa_nil hst2) hst1) (by decide) (by rfl) hst1 hpl, ?_⟩
  intro cz σ H m us Q r hmd E hg' hp
  unfold gIsE at hg'
  split at hg'
  · rename_i y hy
    split at hg'
    · rename_i hya
      cases hg'
      subst hya
      obtain ⟨v, hv1, E1⟩ := E.var hy rfl
      have hv2 : v = .ref y := top_a E1
      subst hv2
      exact ⟨_, hv1, _, _, b, rfl, huv, hk, hp _ _ (E.atom (.bl b))⟩
    · cases hg'
  · cases hg'
def rIsET (K : PySem.W.Frag) (D a : Addr) : List V → Hp → VK → Prop := fun xs H Q => ∃ (tp : Addr) (cs : List V) (us : List Value) (b : Bool), xs = [.ref a, .ref tp] ∧ H tp = some (.tup cs) ∧ Paired ClsV cs us ∧ PySem.W.kitAny K (.ref D) us = some b ∧ Q (.bl b) H
theorem call_isET (C : ExcC X.K D) (hz : L2N.Zn (.ref D) none oe) (hf : ∃ vs, oe.data = .fields vs) : CallR (X.suite a ((a, oe) :: pn)) (.builtin "isinstance") (rIsET X.K D a) := by
  intro pins s σ H xs us Q I r h
  obtain ⟨tp, cs, ws, b, rfl, hT, k, e, q⟩ := h
  obtain ⟨u1, u2, rfl, r1, r2⟩ := vals2 r
  cases (show u2 = Value.ref tp from r2)
  cases (show u1 = Value.ref a from r1)
  obtain ⟨hget, _⟩ := I.pin (a, oe) (List.mem_append.mpr (.inl List.mem_cons_self))
  obtain ⟨vs, hv⟩ := hf
  have J : PySem.W.InstAt s.heap a oe D none := by
    obtain ⟨oc, od, oda, osl⟩ := oe
    obtain ⟨h1, h2⟩ := hz.zc
    dsimp only at h1 h2 hv
    subst h1 h2 hv
    exact ⟨hget, rfl, rfl, trivial⟩
  obtain ⟨_, its, rv, o, h1, h2, n, h3⟩ := (show ObjOk X.prog X.w H s.heap tp (.tup cs) from I.hok tp _ hT)
  have e3 := ClsV.all k rv
  subst e3
  obtain ⟨oc, od, dt, sl⟩ := o
  simp only at h2 h3
  subst h2 h3
  exact PySem.W.kia_tup (PySem.W.handS_kitx_exc C.hg C.hk C.hs C.hd C.ha C.hn C.ht C.hm) I.kIn J h1 e (fun z => nomatch z) fun tk => ⟨.bl b, H, I.kept (t' := tk) fun _ _ z => z, rfl, q⟩
theorem me_isET {cs : List V} {us : List Value} {en : Str} {es : List Expr} {ec : Nat} {pe pi ps pt : Pos} {b : Bool} (hex : ExcC X.K D) (hz : L2N.Zn (.ref D) none oe) (hfl : ∃ vs, oe.data = .fields vs) (hcs : Paired ClsV cs us) (hk : PySem.W.kitAny X.K (.ref D) us = some b) (hlen : cs.length ≤ sizeLine) (hg : Gl (X.suite a ((a, oe) :: pn)) "isinstance") (hm : X.mg "isinstance" = none)
    (hv : bootBuiltins "isinstance" = some (.builtin "isinstance")) (he : PE (X.suite a ((a, oe) :: pn)) (.Name en pe) (tVar i)) (hd : PA (X.suite a ((a, oe) :: pn)) es (tCl cs))
    (hst1 : starEach [.Name en pe, .Tuple es ec pt] (X.suite a ((a, oe) :: pn)).env = (false, eval (.Name en pe) (X.suite a ((a, oe) :: pn)).env) :: starEach [.Tuple es ec pt] (X.suite a ((a, oe) :: pn)).env := by rfl)
    (hst2 : starEach [.Tuple es ec pt] (X.suite a ((a, oe) :: pn)).env = (false, eval (.Tuple es ec pt) (X.suite a ((a, oe) :: pn)).env) :: starEach [] (X.suite a ((a, oe) :: pn)).env := by rfl)
    (hpl : (backTo ps (starEach [.Tuple es ec pt] (X.suite a ((a, oe) :: pn)).env)).any (·.1) = false := by rfl) :
    ME (X.suite a ((a, oe) :: pn)) T md W (.Call (.Name "isinstance" pi) [.Name en pe, .Tuple es ec pt] [] ps) (gIsE i a b) := by
  refine ⟨_, pe_callB (call_isET hex hz hfl) hg hm hv (pa_cons he (pa_cons (pe_tup hd) pa_nil hst2) hst1) (by decide) (by rfl) hst1 hpl, ?_⟩
  intro cz σ H m us Q r hmd E hg' hp
  unfold gIsE at hg'
  split at hg'
  · rename_i y hy
    split at hg'
    · rename_i hya
      cases hg'
      subst hya
      obtain ⟨v, hv1, E1⟩ := E.var hy rfl
      have hv2 : v = .ref y := top_a E1
      subst hv2
      refine ⟨_, hv1, hlen, fun tp hn => ?_⟩
      exact ⟨tp, cs, _, b, rfl, upd_same, hcs, hk, hp _ _ ((EnvOk.newTup E cs hn).drop.atom (.bl b))⟩
    · cases hg'
  · cases hg'
end
section
variable {K : KC} {X : Cx} {T : KT} {md mdc : List Bool} {W : WX} {oe : Expr} {pos apos : Pos} {me : Str} {G : GF} {kk : Nat} {f C : Addr} {fd : FuncData} {ps : List Str} {sp : Sp} {ta : TE} {pl : Sem Bool} {CXk : CXT} {Ew : St → XK}
/-- a static method without arguments -/
theorem pe_smeth0S (po : PE X oe ta) (cm : SMet X.K C me f) (F : FnOk X.prog X.w X.K X.mg X.base CXk kk f fd ps sp) (hr : Room kk X.A) (hb : Binds X.K fd ps []) (hx : ∀ σ, PassesAt CXk X σ (Ew σ))
    (ht : eval (.Call (.Attribute oe me apos) [] [] pos) X.env = (do let ov ← eval oe X.env; standAt apos.atName; let (f, first) ← holding [ov] (getMethod ov me pl); callWith pos f first (backTo pos (starEach [] X.env)) (backToKw pos (keywordEach [] X.env))) := by rfl) :
    PE X (.Call (.Attribute oe me apos) [] [] pos) (tSMethS C sp Ew ta tNil) := by
  constructor
  intro pins s σ H Q I hh
  refine PySem.W.methodCall_KW (pl := pl) (he := ht) (thn (po.run pins s σ H _ I hh) ?_)
  rintro u s1 ⟨xv, H1, I1, rx, rfl, q1⟩
  cases (show u = Value.ref C from rx)
  obtain ⟨p, rest, a1, a2⟩ := cm.at_
  refine PySem.W.method_cls I1.kIn cm.rd.ga (PySem.W.cls_bind I1.kIn cm.rd.rd a1 (wpAny_call (PySem.W.sm_get (s := { s1 with toks := s1.toks + 1 }) I1.kIn a2 (PySem.W.handed_on rfl ?_))))
  have I2 := I1.tok (s1.toks + 1)
  exact PySem.W.callWith_K0 I2.kIn cm.kp (run_fnS (us := []) (vs := []) F hr hb (hx σ) I2 .nil q1)
theorem me_smeth0 (he : PE X oe (tC (.ref C))) (cm : SMet X.K C me f) (F : FnOk X.prog X.w X.K X.mg X.base (L2N.CX X.prog X.w) kk f fd ps (spOf (kcm X.K T) mdc G)) (hr : Room kk X.A) (tk : Takes X W) (hb : Binds X.K fd ps [])
    (ht : eval (.Call (.Attribute oe me apos) [] [] pos) X.env = (do let ov ← eval oe X.env; standAt apos.atName; let (f, first) ← holding [ov] (getMethod ov me pl); callWith pos f first (backTo pos (starEach [] X.env)) (backToKw pos (keywordEach [] X.env))) := by rfl) :
    ME X T md W (.Call (.Attribute oe me apos) [] [] pos) (gCall [] mdc G 0) := by
  refine ⟨_, pe_smeth0S (Ew := WE W) he cm F hr hb (fun σ => passAt tk σ) ht, fun c σ H m us Q rr hc E hg hp => ⟨rfl, ?_⟩⟩
  exact gCall_ok (is := []) (by simp) (by simp) c σ H m us [] Q rr hc rfl E hg hp
end
def top (i : Nat) : Stmt := PySem.Challenge.pw_lotsandties_k87_books.main.body.getD i (.Pass ⟨0, 0, 0, 0⟩)
abbrev s_law_feed : Stmt := top 11
theorem sc_law_feed : FnScope ["_law_script", "_law_feed_here", "_law_cell", "_law_rest", "_law_k"] ["_law_script"] (defScope s_law_feed) := ⟨rfl, rfl, rfl, by decide +kernel, rfl, by decide +kernel, by decide +kernel⟩
abbrev s_law_pick : Stmt := top 12
theorem sc_law_pick : FnScope ["_law_feed_here", "_law_limit"] ["_law_feed_here", "_law_limit"] (defScope s_law_pick) := ⟨rfl, rfl, rfl, by decide +kernel, rfl, by decide +kernel, by decide +kernel⟩
abbrev s_law_rules : Stmt := top 13
theorem sc_law_rules : FnScope ["_law_row"] [] (defScope s_law_rules) := ⟨rfl, rfl, rfl, by decide +kernel, rfl, by decide +kernel, by decide +kernel⟩
abbrev s_law_names : Stmt := top 14
theorem sc_law_names : FnScope ["_law_number_here", "_law_names_here", "_law_rest", "_law_name"] ["_law_number_here"] (defScope s_law_names) := ⟨rfl, rfl, rfl, by decide +kernel, rfl, by decide +kernel, by decide +kernel⟩
abbrev s_law_number : Stmt := top 15
theorem sc_law_number : FnScope ["_law_names_here", "_law_number_here", "_law_weight", "_law_name"] ["_law_names_here"] (defScope s_law_number) := ⟨rfl, rfl, rfl, by decide +kernel, rfl, by decide +kernel, by decide +kernel⟩
abbrev s_law_is_book : Stmt := top 16
abbrev N_law_is_book : List Str := ["_law_book", "_law_names_here", "_law_name", "_law_number_here", "_law_due", "_law_text"]
theorem sc_law_is_book : FnScope ["_law_book", "_law_names_here", "_law_name", "_law_number_here", "_law_due", "_law_text"] ["_law_book", "_law_names_here"] (defScope s_law_is_book) := ⟨rfl, rfl, rfl, by decide +kernel, rfl, by decide +kernel, by decide +kernel⟩
abbrev s_law_bad_text : Stmt := top 17
theorem sc_law_bad_text : FnScope ["_law_text", "e"] ["_law_text"] (defScope s_law_bad_text) := ⟨rfl, rfl, rfl, by decide +kernel, rfl, by decide +kernel, by decide +kernel⟩
abbrev s_law_bad_number : Stmt := top 18
theorem sc_law_bad_number : FnScope ["_law_number_here", "e"] ["_law_number_here"] (defScope s_law_bad_number) := ⟨rfl, rfl, rfl, by decide +kernel, rfl, by decide +kernel, by decide +kernel⟩
abbrev s_law_bad_names : Stmt := top 19
theorem sc_law_bad_names : FnScope ["_law_names_here", "e"] ["_law_names_here"] (defScope s_law_bad_names) := ⟨rfl, rfl, rfl, by decide +kernel, rfl, by decide +kernel, by decide +kernel⟩
abbrev s_law_spoilt : Stmt := top 20
theorem sc_law_spoilt : FnScope ["_law_names_here", "_law_at", "_law_texts", "_law_text", "_law_name", "_law_turned", "_law_k"] ["_law_names_here", "_law_at"] (defScope s_law_spoilt) := ⟨rfl, rfl, rfl, by decide +kernel, rfl, by decide +kernel, by decide +kernel⟩
abbrev s_law : Stmt := top 21
abbrev N_law : List Str := ["_law_script", "_law_feed_here", "_law_first", "_law_second", "_law_at", "_law_names_here", "_law_others", "_law_book", "_law_other", "_law_both", "_law_name", "_law_text", "_law_number_here", "_law_word"]
theorem sc_law : FnScope ["_law_script", "_law_feed_here", "_law_first", "_law_second", "_law_at", "_law_names_here", "_law_others", "_law_book", "_law_other", "_law_both", "_law_name", "_law_text", "_law_number_here", "_law_word"] ["_law_script"] (defScope s_law) := ⟨rfl, rfl, rfl, by decide +kernel, rfl, by decide +kernel, by decide +kernel⟩
abbrev s_Book_init : Stmt := inClass (top 7) 1
theorem sc_Book_init : FnScope ["self", "names", "name", "chosen", "number", "weight"] ["self", "names"] (defScope s_Book_init) := ⟨rfl, rfl, rfl, by decide +kernel, rfl, by decide +kernel, by decide +kernel⟩
abbrev s_Book_contains : Stmt := inClass (top 7) 2
theorem sc_Book_contains : FnScope ["self", "name"] ["self", "name"] (defScope s_Book_contains) := ⟨rfl, rfl, rfl, by decide +kernel, rfl, by decide +kernel, by decide +kernel⟩
abbrev s_Book_iter : Stmt := inClass (top 7) 3
theorem sc_Book_iter : FnScope ["self"] ["self"] (defScope s_Book_iter) := ⟨rfl, rfl, rfl, by decide +kernel, rfl, by decide +kernel, by decide +kernel⟩
abbrev s_Book_text : Stmt := inClass (top 7) 4
theorem sc_Book_text : FnScope ["self"] ["self"] (defScope s_Book_text) := ⟨rfl, rfl, rfl, by decide +kernel, rfl, by decide +kernel, by decide +kernel⟩
abbrev s_Book_or : Stmt := inClass (top 9) 4
theorem sc_Book_or : FnScope ["self", "other"] ["self", "other"] (defScope s_Book_or) := ⟨rfl, rfl, rfl, by decide +kernel, rfl, by decide +kernel, by decide +kernel⟩
abbrev s_Book_sub : Stmt := inClass (top 9) 5
abbrev N_Book_sub : List Str := ["self", "other", "name"]
theorem sc_Book_sub : FnScope ["self", "other", "name"] ["self", "other"] (defScope s_Book_sub) := ⟨rfl, rfl, rfl, by decide +kernel, rfl, by decide +kernel, by decide +kernel⟩
abbrev s_Book_read : Stmt := inClass (top 9) 1
theorem sc_Book_read : FnScope ["text", "names", "name", "book"] ["text"] (defScope s_Book_read) := ⟨rfl, rfl, rfl, by decide +kernel, rfl, by decide +kernel, by decide +kernel⟩
abbrev s_Book_of_number : Stmt := inClass (top 9) 2
theorem sc_Book_of_number : FnScope ["number", "names", "rest", "name"] ["number"] (defScope s_Book_of_number) := ⟨rfl, rfl, rfl, by decide +kernel, rfl, by decide +kernel, by decide +kernel⟩
abbrev s_Book_full : Stmt := inClass (top 9) 3
theorem sc_Book_full : FnScope [] [] (defScope s_Book_full) := ⟨rfl, rfl, rfl, by decide +kernel, rfl, by decide +kernel, by decide +kernel⟩
/-- what the top has left -/
structure Txt (K : PySem.W.Frag) (mg : Str → Option Value) where
  c_RuleSet : Addr
  C_RuleSet : Cls K c_RuleSet
  g_RuleSet : mg "RuleSet" = some (.ref c_RuleSet)
  kp_RuleSet : PySem.W.keepIn K (.ref c_RuleSet) = true
  mk_RuleSet : PySem.W.makesIn K c_RuleSet = true
  r_RuleSet : ClX.CRead K c_RuleSet (.type "type")
  c_RuleSet_RULES : Addr
  w_RuleSet_RULES : SqT K (fun _ => none) c_RuleSet_RULES []
  k_RuleSet_RULES : ClX.CVal K c_RuleSet (.type "type") "RULES" (.ref c_RuleSet_RULES) (.ref c_RuleSet_RULES)
  ki_RuleSet_RULES : Con K c_RuleSet "RULES" (.ref c_RuleSet_RULES) (.ref c_RuleSet_RULES)
  c_Book : Addr
  C_Book : Cls K c_Book
  g_Book : mg "Book" = some (.ref c_Book)
  kp_Book : PySem.W.keepIn K (.ref c_Book) = true
  mk_Book : PySem.W.makesIn K c_Book = true
  n_Book_names : NoAttr K c_Book "names"
  n_Book_number : NoAttr K c_Book "number"
  in_Book : C8.InsC K c_Book
  iu_Book_RuleSet : PySem.W.kitOne K (.ref c_Book) (.ref c_RuleSet) = some true
  sf_Book : PySem.W.selfFirst K c_Book = true
  r_Book : ClX.CRead K c_Book (.type "type")
  c_Book_RULES : Addr
  w_Book_RULES : SqT K (fun _ => none) c_Book_RULES [(.str "copies"), (.str "mark"), (.str "words"), (.str "reuse"), (.str "late"), (.str "revoke"), (.str "lapse"), (.str "shelve"), (.str "frozen"), (.str "wait"), (.str "room"), (.str "told")]
  k_Book_RULES : ClX.CVal K c_Book (.type "type") "RULES" (.ref c_Book_RULES) (.ref c_Book_RULES)
  ki_Book_RULES : Con K c_Book "RULES" (.ref c_Book_RULES) (.ref c_Book_RULES)
  a_law_feed : Addr
  fd_law_feed : FuncData
  F_law_feed : Fun K "_law_feed" "_law_feed" s_law_feed a_law_feed fd_law_feed
  b_law_feed : Binds K fd_law_feed ["_law_script"] []
  m_law_feed : mg "_law_feed" = some (.ref a_law_feed)
  a_law_pick : Addr
  fd_law_pick : FuncData
  F_law_pick : Fun K "_law_pick" "_law_pick" s_law_pick a_law_pick fd_law_pick
  b_law_pick : Binds K fd_law_pick ["_law_feed_here", "_law_limit"] []
  m_law_pick : mg "_law_pick" = some (.ref a_law_pick)
  a_law_rules : Addr
  fd_law_rules : FuncData
  F_law_rules : Fun K "_law_rules" "_law_rules" s_law_rules a_law_rules fd_law_rules
  b_law_rules : Binds K fd_law_rules [] []
  m_law_rules : mg "_law_rules" = some (.ref a_law_rules)
  a_law_names : Addr
  fd_law_names : FuncData
  F_law_names : Fun K "_law_names" "_law_names" s_law_names a_law_names fd_law_names
  b_law_names : Binds K fd_law_names ["_law_number_here"] []
  m_law_names : mg "_law_names" = some (.ref a_law_names)
  a_law_number : Addr
  fd_law_number : FuncData
  F_law_number : Fun K "_law_number" "_law_number" s_law_number a_law_number fd_law_number
  b_law_number : Binds K fd_law_number ["_law_names_here"] []
  m_law_number : mg "_law_number" = some (.ref a_law_number)
  a_law_is_book : Addr
  fd_law_is_book : FuncData
  F_law_is_book : Fun K "_law_is_book" "_law_is_book" s_law_is_book a_law_is_book fd_law_is_book
  b_law_is_book : Binds K fd_law_is_book ["_law_book", "_law_names_here"] []
  m_law_is_book : mg "_law_is_book" = some (.ref a_law_is_book)
  a_law_bad_text : Addr
  fd_law_bad_text : FuncData
  F_law_bad_text : Fun K "_law_bad_text" "_law_bad_text" s_law_bad_text a_law_bad_text fd_law_bad_text
  b_law_bad_text : Binds K fd_law_bad_text ["_law_text"] []
  m_law_bad_text : mg "_law_bad_text" = some (.ref a_law_bad_text)
  a_law_bad_number : Addr
  fd_law_bad_number : FuncData
  F_law_bad_number : Fun K "_law_bad_number" "_law_bad_number" s_law_bad_number a_law_bad_number fd_law_bad_number
  b_law_bad_number : Binds K fd_law_bad_number ["_law_number_here"] []
  m_law_bad_number : mg "_law_bad_number" = some (.ref a_law_bad_number)
  a_law_bad_names : Addr
  fd_law_bad_names : FuncData
  F_law_bad_names : Fun K "_law_bad_names" "_law_bad_names" s_law_bad_names a_law_bad_names fd_law_bad_names
  b_law_bad_names : Binds K fd_law_bad_names ["_law_names_here"] []
  m_law_bad_names : mg "_law_bad_names" = some (.ref a_law_bad_names)
  a_law_spoilt : Addr
  fd_law_spoilt : FuncData
  F_law_spoilt : Fun K "_law_spoilt" "_law_spoilt" s_law_spoilt a_law_spoilt fd_law_spoilt
  b_law_spoilt : Binds K fd_law_spoilt ["_law_names_here", "_law_at"] []
  m_law_spoilt : mg "_law_spoilt" = some (.ref a_law_spoilt)
  a_law : Addr
  fd_law : FuncData
  F_law : Fun K "law" "law" s_law a_law fd_law
  b_law : Binds K fd_law ["_law_script"] []
  m_law : mg "law" = some (.ref a_law)
  a_Book_init : Addr
  fd_Book_init : FuncData
  F_Book_init : Fun K "__init__" "RuleSet.__init__" s_Book_init a_Book_init fd_Book_init
  b_Book_init : Binds K fd_Book_init ["self", "names"] []
  m_Book_init : Mk K c_Book a_Book_init
  a_Book_contains : Addr
  fd_Book_contains : FuncData
  F_Book_contains : Fun K "__contains__" "RuleSet.__contains__" s_Book_contains a_Book_contains fd_Book_contains
  b_Book_contains : Binds K fd_Book_contains ["self", "name"] []
  m_Book_contains : Meth K c_Book "__contains__" a_Book_contains
  a_Book_iter : Addr
  fd_Book_iter : FuncData
  F_Book_iter : Fun K "__iter__" "RuleSet.__iter__" s_Book_iter a_Book_iter fd_Book_iter
  b_Book_iter : Binds K fd_Book_iter ["self"] []
  m_Book_iter : Meth K c_Book "__iter__" a_Book_iter
  a_Book_text : Addr
  fd_Book_text : FuncData
  F_Book_text : Fun K "text" "RuleSet.text" s_Book_text a_Book_text fd_Book_text
  b_Book_text : Binds K fd_Book_text ["self"] []
  m_Book_text : Meth K c_Book "text" a_Book_text
  a_Book_or : Addr
  fd_Book_or : FuncData
  F_Book_or : Fun K "__or__" "Book.__or__" s_Book_or a_Book_or fd_Book_or
  b_Book_or : Binds K fd_Book_or ["self", "other"] []
  m_Book_or : Meth K c_Book "__or__" a_Book_or
  a_Book_sub : Addr
  fd_Book_sub : FuncData
  F_Book_sub : Fun K "__sub__" "Book.__sub__" s_Book_sub a_Book_sub fd_Book_sub
  b_Book_sub : Binds K fd_Book_sub ["self", "other"] []
  m_Book_sub : Meth K c_Book "__sub__" a_Book_sub
  a_Book_read : Addr
  fd_Book_read : FuncData
  F_Book_read : Fun K "read" "Book.read" s_Book_read a_Book_read fd_Book_read
  b_Book_read : Binds K fd_Book_read ["text"] []
  m_Book_read : SMet K c_Book "read" a_Book_read
  a_Book_of_number : Addr
  fd_Book_of_number : FuncData
  F_Book_of_number : Fun K "of_number" "Book.of_number" s_Book_of_number a_Book_of_number fd_Book_of_number
  b_Book_of_number : Binds K fd_Book_of_number ["number"] []
  m_Book_of_number : SMet K c_Book "of_number" a_Book_of_number
  a_Book_full : Addr
  fd_Book_full : FuncData
  F_Book_full : Fun K "full" "Book.full" s_Book_full a_Book_full fd_Book_full
  b_Book_full : Binds K fd_Book_full [] []
  m_Book_full : SMet K c_Book "full" a_Book_full
  n_ValueError : mg "ValueError" = none
  n_abs : mg "abs" = none
  n_bool : mg "bool" = none
  n_int : mg "int" = none
  n_isinstance : mg "isinstance" = none
  n_iter : mg "iter" = none
  n_len : mg "len" = none
  n_list : mg "list" = none
  n_range : mg "range" = none
  n_reversed : mg "reversed" = none
  n_staticmethod : mg "staticmethod" = none
  n_str : mg "str" = none
  n_tuple : mg "tuple" = none
  e_BadValue : Addr
  g_BadValue : mg "BadValue" = some (.ref e_BadValue)
  x_BadValue : PySem.W.excIn K e_BadValue [.type "ValueError", .type "Exception", .type "BaseException", .type "object"] "ValueError.__new__" = true
  k_BadValue : PySem.W.keepIn K (.ref e_BadValue) = true
  sb_BadValue : PySem.W.subIn K (.ref e_BadValue) (.type "BaseException") = some true
  ty_BadValue : PySem.W.typeIn K (.ref e_BadValue) = some (.type "type")
  is_BadValue : ExcC K e_BadValue
  e_BadText : Addr
  g_BadText : mg "BadText" = some (.ref e_BadText)
  x_BadText : PySem.W.excIn K e_BadText [.type "ValueError", .type "Exception", .type "BaseException", .type "object"] "ValueError.__new__" = true
  k_BadText : PySem.W.keepIn K (.ref e_BadText) = true
  sb_BadText : PySem.W.subIn K (.ref e_BadText) (.type "BaseException") = some true
  ty_BadText : PySem.W.typeIn K (.ref e_BadText) = some (.type "type")
  is_BadText : ExcC K e_BadText
  e_StoreError : Addr
  g_StoreError : mg "StoreError" = some (.ref e_StoreError)
  x_StoreError : PySem.W.excIn K e_StoreError [.type "ValueError", .type "Exception", .type "BaseException", .type "object"] "ValueError.__new__" = true
  k_StoreError : PySem.W.keepIn K (.ref e_StoreError) = true
  sb_StoreError : PySem.W.subIn K (.ref e_StoreError) (.type "BaseException") = some true
  ty_StoreError : PySem.W.typeIn K (.ref e_StoreError) = some (.type "type")
  is_StoreError : ExcC K e_StoreError
  e_Refused : Addr
  g_Refused : mg "Refused" = some (.ref e_Refused)
  x_Refused : PySem.W.excIn K e_Refused [.type "ValueError", .type "Exception", .type "BaseException", .type "object"] "ValueError.__new__" = true
  k_Refused : PySem.W.keepIn K (.ref e_Refused) = true
  sb_Refused : PySem.W.subIn K (.ref e_Refused) (.type "BaseException") = some true
  ty_Refused : PySem.W.typeIn K (.ref e_Refused) = some (.type "type")
  is_Refused : ExcC K e_Refused
  e_NotNow : Addr
  g_NotNow : mg "NotNow" = some (.ref e_NotNow)
  x_NotNow : PySem.W.excIn K e_NotNow [.type "ValueError", .type "Exception", .type "BaseException", .type "object"] "ValueError.__new__" = true
  k_NotNow : PySem.W.keepIn K (.ref e_NotNow) = true
  sb_NotNow : PySem.W.subIn K (.ref e_NotNow) (.type "BaseException") = some true
  ty_NotNow : PySem.W.typeIn K (.ref e_NotNow) = some (.type "type")
  is_NotNow : ExcC K e_NotNow
  m_BadValue_StoreError : PySem.W.exmOne K (.ref e_BadValue) (.ref e_StoreError) = some true
  m_BadText_StoreError : PySem.W.exmOne K (.ref e_BadText) (.ref e_StoreError) = some true
  i_BadValue_BadText : PySem.W.kitOne K (.ref e_BadValue) (.ref e_BadText) = some false
  i_BadValue_ValueError : PySem.W.kitOne K (.ref e_BadValue) (.type "ValueError") = some true
  i_BadValue_BadValue : PySem.W.kitOne K (.ref e_BadValue) (.ref e_BadValue) = some true
  i_BadValue_Refused : PySem.W.kitOne K (.ref e_BadValue) (.ref e_Refused) = some false
  i_BadValue_NotNow : PySem.W.kitOne K (.ref e_BadValue) (.ref e_NotNow) = some false
  i_BadText_BadText : PySem.W.kitOne K (.ref e_BadText) (.ref e_BadText) = some true
  i_BadText_ValueError : PySem.W.kitOne K (.ref e_BadText) (.type "ValueError") = some true
  i_BadText_BadValue : PySem.W.kitOne K (.ref e_BadText) (.ref e_BadValue) = some false
  i_BadText_Refused : PySem.W.kitOne K (.ref e_BadText) (.ref e_Refused) = some false
  i_BadText_NotNow : PySem.W.kitOne K (.ref e_BadText) (.ref e_NotNow) = some false
-- excs BadValue BadText StoreError Refused NotNow
-- classes RuleSet Book
def cnm : Nat → List Str
  | 0 => []
  | 1 => ["names", "number"]
  | _ => []
noncomputable section
variable {P : Program} {w : World} {K : PySem.W.Frag} {mg : Str → Option Value} {base : Heap}
def kct (T : Txt K mg) : Nat → Addr
  | 0 => T.c_RuleSet
  | 1 => T.c_Book
  | _ => 0
def ket (T : Txt K mg) : Nat → Addr
  | 0 => T.e_BadValue
  | 1 => T.e_BadText
  | 2 => T.e_StoreError
  | 3 => T.e_Refused
  | 4 => T.e_NotNow
  | _ => 0
abbrev kt (P : Program) (w : World) (T : Txt K mg) : KT := ⟨P, w, kct T, cnm, ket T⟩
abbrev tab_names : List (Nat × Nat) := [(1, 0)]
theorem fo_names (T : Txt K mg) : FldOk K (kt P w T) "names" tab_names := (.cons T.C_Book T.n_Book_names (show (cnm 1).idxOf? ("names" : Str) = some 0 by decide +kernel) .nil)
abbrev tab_number : List (Nat × Nat) := [(1, 1)]
theorem fo_number (T : Txt K mg) : FldOk K (kt P w T) "number" tab_number := (.cons T.C_Book T.n_Book_number (show (cnm 1).idxOf? ("number" : Str) = some 1 by decide +kernel) .nil)
abbrev tabc_RULES : List (Nat × Tr) := [(0, (.nd .tup .frz [])), (1, (.nd .tup .frz [(.a (.str "copies")), (.a (.str "mark")), (.a (.str "words")), (.a (.str "reuse")), (.a (.str "late")), (.a (.str "revoke")), (.a (.str "lapse")), (.a (.str "shelve")), (.a (.str "frozen")), (.a (.str "wait")), (.a (.str "room")), (.a (.str "told"))]))]
theorem ct_RULES (T : Txt K mg) : ConTab K (kt P w T) "RULES" tabc_RULES := (.cons T.C_RuleSet T.ki_RuleSet_RULES (con_tup T.w_RuleSet_RULES con_nil) (show (cnm 0).idxOf? ("RULES" : Str) = none by decide +kernel) (.cons T.C_Book T.ki_Book_RULES (con_tup T.w_Book_RULES (con_cons con_a (con_cons con_a (con_cons con_a (con_cons con_a (con_cons con_a (con_cons con_a (con_cons con_a (con_cons con_a (con_cons con_a (con_cons con_a (con_cons con_a (con_cons con_a con_nil))))))))))))) (show (cnm 1).idxOf? ("RULES" : Str) = none by decide +kernel) .nil))
abbrev md_law_pick : List Bool := [true, false]
def g_law_pick : GS := (sSeq (sIf (gSeq (gSeq (gSeq (gSeq (gVar 0) gNil) fLen) (gC (.int 0))) fEq) (sRet (gC (.int 0))) sNil)
    (sRet (gSeq (gSeq (gSeq (gSeq (gSeq (gVar 0) (gSeq chkL (gSeq (gSeq (gC (.int 0)) gNil) fPopA))) gNil) fInt) (gVar 1)) fMod)))
def G_law_pick : GF := runF md_law_pick 2 g_law_pick
theorem sim_law_pick (T : Txt K mg) : FnOk P w K mg base (L2N.CX P w) 1 T.a_law_pick T.fd_law_pick ["_law_feed_here", "_law_limit"] (spOf (kcm K (kt P w T)) md_law_pick G_law_pick) :=
  fn_sim T.F_law_pick sc_law_pick rfl (by decide) fun cdv A outer s H E hr =>
  (mss_cons (ms_if (mt_cmp (OpR.or op_eq (op_eqD hr.units)) fEq_ok (me_callB (CallR.or call_len call_lenR) fLen_ok (by rfl) T.n_len (by decide +kernel) (ma_cons (me_var (pv 0)) ma_nil)) (me_c pe_int) (nomark _)) (mss_one (ms_ret (me_c pe_int)))
    mss_nil)
    (mss_one (ms_ret (me_mod (me_callTy call_int1 fInt_ok (by rfl) T.n_int (by decide +kernel) (ma_cons (me_bm (me_var (pv 0)) (ma_cons (me_c pe_int) ma_nil) fPopA_ok (fun a b => pe_bm PySem.F.plainAttrs_list PySem.F.slot_list_pop PySem.F.type_list_pop mt_popAt a b)) ma_nil)) (me_var (pv 1))))))
abbrev md_law_rules : List Bool := []
def g_law_rules : GS := (sSeq (sSet md_law_rules 0 (gSeq (gSeq (gC (.str "copies")) (gSeq (gC (.str "mark")) (gSeq (gC (.str "words")) (gSeq (gC (.str "reuse")) (gSeq (gC (.str "late")) (gSeq (gC (.str "revoke")) (gSeq (gC (.str "lapse")) (gSeq (gC (.str "shelve")) (gSeq (gC (.str "frozen")) (gSeq (gC (.str "wait")) (gSeq (gC (.str "room")) (gSeq (gC (.str "told")) gNil)))))))))))) (fNew .lst 12)))
    (sRet (gSeq (gVar 0) (fMv md_law_rules))))
def G_law_rules : GF := runF md_law_rules 1 g_law_rules
theorem sim_law_rules (T : Txt K mg) : FnOk P w K mg base (L2N.CX P w) 1 T.a_law_rules T.fd_law_rules [] (spOf (kcm K (kt P w T)) md_law_rules G_law_rules) :=
  fn_sim T.F_law_rules sc_law_rules rfl (by decide) fun cdv A outer s H E hr =>
  (mss_cons (ms_set (i := 0) sc_law_rules.nd rfl (Or.inl rfl) (me_lst (ma_cons (me_c pe_str) (ma_cons (me_c pe_str) (ma_cons (me_c pe_str) (ma_cons (me_c pe_str) (ma_cons (me_c pe_str) (ma_cons (me_c pe_str) (ma_cons (me_c pe_str) (ma_cons (me_c pe_str) (ma_cons (me_c pe_str) (ma_cons (me_c pe_str) (ma_cons (me_c pe_str) (ma_cons (me_c pe_str) ma_nil)))))))))))) (by show 12 ≤ sizeLine; decide)))
    (mss_one (ms_ret (me_mv (me_var (pv 0))))))
abbrev md_law_names : List Bool := [false]
def b_law_names_1 : GS := (sSeq (sIf (gSeq (gSeq (gSeq (gSeq (gSeq (gSeq (gVar 2) gNil) fInt) (gC (.int 2))) fMod) (gC (.int 1))) fEq) (sExpr (gSeq (gVar 1) (gSeq chkL (gSeq (gSeq (gVar 3) gNil) fApp)))) sNil)
    (sSet md_law_names 2 (gSeq (gSeq (gVar 2) (gC (.int 2))) fDiv)))
def g_law_names : GS := (sSeq (sSet md_law_names 1 (gSeq gNil (fNew .lst 0)))
    (sSeq (sSet md_law_names 2 (gVar 0))
    (sSeq (sFor (noEx (gCall [] md_law_rules G_law_rules 0)) (bind md_law_names 3) b_law_names_1)
    (sRet (gSeq (gVar 1) (fMv md_law_names))))))
def G_law_names : GF := runF md_law_names 4 g_law_names
theorem sim_law_names (T : Txt K mg) : FnOk P w K mg base (L2N.CX P w) 2 T.a_law_names T.fd_law_names ["_law_number_here"] (spOf (kcm K (kt P w T)) md_law_names G_law_names) :=
  fn_sim T.F_law_names sc_law_names rfl (by decide) fun cdv A outer s H E hr =>
  (mss_cons (ms_set (i := 1) sc_law_names.nd rfl (Or.inl rfl) (me_lst ma_nil (by show 0 ≤ sizeLine; decide)))
    (mss_cons (ms_set (i := 2) sc_law_names.nd rfl (Or.inl rfl) (me_var (pv 0)))
    (mss_cons (ms_for (me_call0 (sim_law_rules T) (hr.mono (by decide)) rfl T.m_law_rules T.F_law_rules.kp T.b_law_rules) (mg_name (i := 3) sc_law_names.nd rfl (Or.inl rfl))
    (mss_cons (ms_if (mt_cmp (OpR.or op_eq (op_eqD hr.units)) fEq_ok (me_mod (me_callTy call_int1 fInt_ok (by rfl) T.n_int (by decide +kernel) (ma_cons (me_var (pv 2)) ma_nil)) (me_c pe_int)) (me_c pe_int) (nomark _)) (mss_one (ms_expr (me_bm (me_var (pv 1)) (ma_cons (me_var (pv 3)) ma_nil) fApp_ok (fun a b => pe_bm PySem.F.plainAttrs_list PySem.F.slot_list_append PySem.F.type_list_append mt_append a b))))
    mss_nil)
    (mss_one (ms_set (i := 2) sc_law_names.nd rfl (Or.inl rfl) (me_div (me_var (pv 2)) (me_c pe_int))))) (passes_of rfl) rfl)
    (mss_one (ms_ret (me_mv (me_var (pv 1))))))))
abbrev md_law_number : List Bool := [false]
def b_law_number_1 : GS := (sSeq (sIf (gSeq (gSeq (gVar 3) (gVar 0)) fInA) (sSet md_law_number 1 (gSeq (gSeq (gVar 1) (gVar 2)) fAdd)) sNil)
    (sSet md_law_number 2 (gSeq (gSeq (gVar 2) (gC (.int 2))) fMul)))
def g_law_number : GS := (sSeq (sSet md_law_number 1 (gC (.int 0)))
    (sSeq (sSet md_law_number 2 (gC (.int 1)))
    (sSeq (sFor (noEx (gCall [] md_law_rules G_law_rules 0)) (bind md_law_number 3) b_law_number_1)
    (sRet (gSeq (gVar 1) (fMv md_law_number))))))
def G_law_number : GF := runF md_law_number 4 g_law_number
theorem sim_law_number (T : Txt K mg) : FnOk P w K mg base (L2N.CX P w) 2 T.a_law_number T.fd_law_number ["_law_names_here"] (spOf (kcm K (kt P w T)) md_law_number G_law_number) :=
  fn_sim T.F_law_number sc_law_number rfl (by decide) fun cdv A outer s H E hr =>
  (mss_cons (ms_set (i := 1) sc_law_number.nd rfl (Or.inl rfl) (me_c pe_int))
    (mss_cons (ms_set (i := 2) sc_law_number.nd rfl (Or.inl rfl) (me_c pe_int))
    (mss_cons (ms_for (me_call0 (sim_law_rules T) (hr.mono (by decide)) rfl T.m_law_rules T.F_law_rules.kp T.b_law_rules) (mg_name (i := 3) sc_law_number.nd rfl (Or.inl rfl))
    (mss_cons (ms_if (mt_cmp (op_inA hr.units) fInA_ok (me_var (pv 3)) (me_var (pv 0)) rfl) (mss_one (ms_set (i := 1) sc_law_number.nd rfl (Or.inl rfl) (me_add (me_var (pv 1)) (me_var (pv 2)))))
    mss_nil)
    (mss_one (ms_set (i := 2) sc_law_number.nd rfl (Or.inl rfl) (me_mul (me_var (pv 2)) (me_c pe_int))))) (passes_of rfl) rfl)
    (mss_one (ms_ret (me_mv (me_var (pv 1))))))))
theorem it_Book_iter (T : Txt K mg) : FnAt P w K mg base (L2N.CX P w) 1 T.a_Book_iter T.fd_Book_iter ["self"] (spItQ K T.c_Book "names") :=
  fn_itQ T.F_Book_iter sc_Book_iter T.C_Book T.n_Book_names fun cdv A outer s H E => pss_one (ps_ret (pe_callB call_iterQ (by rfl) T.n_iter (by decide +kernel) (pa_cons (pe_fld (pv 0) rfl) pa_nil)))
abbrev md_Book_text : List Bool := [false]
def g_Book_text : GS := (sSeq (sIf (gSeq (gSeq (gSeq (gSeq (gSeq (gVar 0) (fFld tab_names)) gNil) fLen) (gC (.int 0))) fEq) (sRet (gC (.str "none"))) sNil)
    (sRet (gSeq (gSeq (gC (.str " ")) (gSeq chkS (gSeq (gVar 0) (fFld tab_names)))) fJoin)))
def G_Book_text : GF := runF md_Book_text 1 g_Book_text
theorem sim_Book_text (T : Txt K mg) : FnOk P w K mg base (L2N.CX P w) 1 T.a_Book_text T.fd_Book_text ["self"] (spOf (kcm K (kt P w T)) md_Book_text G_Book_text) :=
  fn_sim T.F_Book_text sc_Book_text rfl (by decide) fun cdv A outer s H E hr =>
  (mss_cons (ms_if (mt_cmp (OpR.or op_eq (op_eqD hr.units)) fEq_ok (me_callB (CallR.or call_len call_lenR) fLen_ok (by rfl) T.n_len (by decide +kernel) (ma_cons (me_fld (me_var (pv 0)) (fo_names T)) ma_nil)) (me_c pe_int) (nomark _)) (mss_one (ms_ret (me_c pe_str)))
    mss_nil)
    (mss_one (ms_ret (me_m1 (me_c pe_str) (me_fld (me_var (pv 0)) (fo_names T)) fJoin_ok (fun a b => pe_join a b)))))
abbrev md_Book_contains : List Bool := [false, false]
def g_Book_contains : GS := (sRet (gSeq (gSeq (gVar 1) (gSeq (gVar 0) (fFld tab_names))) fInA))
def G_Book_contains : GF := runF md_Book_contains 2 g_Book_contains
theorem sim_Book_contains (T : Txt K mg) : FnOk P w K mg base (L2N.CX P w) 1 T.a_Book_contains T.fd_Book_contains ["self", "name"] (spOf (kcm K (kt P w T)) md_Book_contains G_Book_contains) :=
  fn_sim T.F_Book_contains sc_Book_contains rfl (by decide) fun cdv A outer s H E hr =>
  (mss_one (ms_ret (me_cmp (op_inA hr.units) fInA_ok (me_var (pv 1)) (me_fld (me_var (pv 0)) (fo_names T)) rfl)))
abbrev md_law_is_book : List Bool := [false, false]
def e_law_is_book_1 : GE := (gVar 2)
def b_law_is_book_1 : GS := (sIf (gSeq (gSeq (gSeq (gSeq (gVar 2) (gVar 0)) (fInO 1 md_Book_contains G_Book_contains false)) (gSeq (gSeq (gVar 2) (gVar 1)) fInA)) fNe) (sRet (gC (.bl false))) sNil)
def g_law_is_book : GS := (sSeq (sIf (gOrB (gNot (gSeq (gVar 0) (fIsO 1))) (gNot (gSeq (gVar 0) (fIsO 1)))) (sRet (gC (.bl false))) sNil)
    (sSeq (sIf (gOrB (gNot (gSeq (gSeq (gSeq (gVar 0) (fFld tab_names)) (gSeq (gC (.ty "tuple")) gNil)) fIsi)) (gOrB (gSeq (gSeq (gSeq (gSeq (gSeq (gVar 0) (fFld tab_names)) gNil) fLst) (gVar 1)) fNe) (gSeq (gSeq (gClr 2 (gLc [2] (gSeq (gVar 0) (fOwnF 1 tab_names)) (bind md_law_is_book 2) (gC (.bl true)) e_law_is_book_1)) (gVar 1)) fNe))) (sRet (gC (.bl false))) sNil)
    (sSeq (sSet md_law_is_book 3 (gSeq (gVar 0) (fFld tab_number)))
    (sSeq (sIf (gOrB (gNot (gSeq (gSeq (gVar 3) (gSeq (gC (.ty "int")) gNil)) fIsi)) (gOrB (gSeq (gSeq (gVar 3) (gSeq (gC (.ty "bool")) gNil)) fIsi) (gSeq (gSeq (gVar 3) (gSeq (gSeq (gVar 1) gNil) (gCall [] md_law_number G_law_number 1))) fNe))) (sRet (gC (.bl false))) sNil)
    (sSeq (sFor (noEx (gCall [] md_law_rules G_law_rules 0)) (bind md_law_is_book 2) b_law_is_book_1)
    (sSeq (sSet md_law_is_book 4 (gC (.str "none")))
    (sSeq (sIf (gSeq (gSeq (gSeq (gSeq (gVar 1) gNil) fLen) (gC (.int 0))) fGt) (sSet md_law_is_book 4 (gSeq (gSeq (gC (.str " ")) (gSeq chkS (gVar 1))) fJoin)) sNil)
    (sSeq (sSet md_law_is_book 5 (gSeq (gVar 0) (gSeq (chkI 1) (gCall [] md_Book_text G_Book_text 1))))
    (sRet (gAnd (gSeq (gSeq (gVar 5) (gSeq (gC (.ty "str")) gNil)) fIsi) (gSeq (gSeq (gVar 5) (gVar 4)) fEq)))))))))))
def G_law_is_book : GF := runF md_law_is_book 6 g_law_is_book
theorem sim_law_is_book (T : Txt K mg) : FnOk P w K mg base (L2N.CX P w) 3 T.a_law_is_book T.fd_law_is_book ["_law_book", "_law_names_here"] (spOf (kcm K (kt P w T)) md_law_is_book G_law_is_book) :=
  fn_sim T.F_law_is_book sc_law_is_book rfl (by decide) fun cdv A outer s H E hr =>
  (mss_cons (ms_if (mw_pt (mw_or (mt_not (mt_val (me_isO T.in_Book (by rfl) T.n_isinstance (by decide +kernel) (me_var (pv 0)) (pe_glob (v := .ref T.c_Book) rfl T.g_Book rfl)))) (mw_or1 (mt_not (mt_val (me_isU T.in_Book T.iu_Book_RuleSet (by rfl) T.n_isinstance (by decide +kernel) (me_var (pv 0)) (pe_glob (v := .ref T.c_RuleSet) rfl T.g_RuleSet rfl))))))) (mss_one (ms_ret (me_c pe_bl)))
    mss_nil)
    (mss_cons (ms_if (mw_pt (mw_or (mt_not (mt_val (me_callB (CallR.or call_isi (CallR.or call_isiT call_isiK)) fIsi_ok (by rfl) T.n_isinstance (by decide +kernel) (ma_cons (me_fld (me_var (pv 0)) (fo_names T)) (ma_cons (me_c (pe_bltn (v := .ty "tuple") (u := .type "tuple") (by rfl) T.n_tuple (by decide +kernel) rfl)) ma_nil))))) (mw_or (mt_cmp (OpR.or op_ne (op_neD hr.units)) fNe_ok (me_callTy call_list_of fLst_ok (by rfl) T.n_list (by decide +kernel) (ma_cons (me_fld (me_var (pv 0)) (fo_names T)) ma_nil)) (me_var (pv 1)) (nomark _)) (mw_or1 (mt_cmp (OpR.or op_ne (op_neD hr.units)) fNe_ok (me_clr (i := 2) (me_lcO0 (me_var (pv 0)) (fo_names T) T.m_Book_iter (it_Book_iter T) T.b_Book_iter (hr.mono (by decide)) (blkOk_by (own := [("_law_name", 2)]) (N := N_law_is_book) (sc := defScope s_law_is_book) (by decide +kernel)) (fun _ _ _ _ _ => pg_name (i := 2) sc_law_is_book.nd rfl (Or.inl rfl)) (fun _ _ _ _ _ => (me_var (pv 2))) rfl sc_law_is_book.nd)) (me_var (pv 1)) (nomark _)))))) (mss_one (ms_ret (me_c pe_bl)))
    mss_nil)
    (mss_cons (ms_set (i := 3) sc_law_is_book.nd rfl (Or.inl rfl) (me_fld (me_var (pv 0)) (fo_number T)))
    (mss_cons (ms_if (mw_pt (mw_or (mt_not (mt_val (me_callB (CallR.or call_isi (CallR.or call_isiT call_isiK)) fIsi_ok (by rfl) T.n_isinstance (by decide +kernel) (ma_cons (me_var (pv 3)) (ma_cons (me_c (pe_bltn (v := .ty "int") (u := .type "int") (by rfl) T.n_int (by decide +kernel) rfl)) ma_nil))))) (mw_or (mt_val (me_callB (CallR.or call_isi (CallR.or call_isiT call_isiK)) fIsi_ok (by rfl) T.n_isinstance (by decide +kernel) (ma_cons (me_var (pv 3)) (ma_cons (me_c (pe_bltn (v := .ty "bool") (u := .type "bool") (by rfl) T.n_bool (by decide +kernel) rfl)) ma_nil)))) (mw_or1 (mt_cmp (OpR.or op_ne (op_neD hr.units)) fNe_ok (me_var (pv 3)) (me_call (is := []) (sim_law_number T) (hr.mono (by decide)) (takes_of rfl rfl rfl rfl) rfl T.m_law_number T.F_law_number.kp T.b_law_number (ma_cons (me_var (pv 1)) ma_nil) (by decide) (by decide)) (nomark _)))))) (mss_one (ms_ret (me_c pe_bl)))
    mss_nil)
    (mss_cons (ms_for (me_call0 (sim_law_rules T) (hr.mono (by decide)) rfl T.m_law_rules T.F_law_rules.kp T.b_law_rules) (mg_name (i := 2) sc_law_is_book.nd rfl (Or.inl rfl))
    (mss_one (ms_if (mt_cmp (OpR.or op_ne (op_neD hr.units)) fNe_ok (me_cmp (op_inO T.m_Book_contains (sim_Book_contains T) (hr.mono (by decide)) T.b_Book_contains) fInO_ok (me_var (pv 2)) (me_var (pv 0)) rfl) (me_cmp (op_inA hr.units) fInA_ok (me_var (pv 2)) (me_var (pv 1)) rfl) (nomark _)) (mss_one (ms_ret (me_c pe_bl)))
    mss_nil)) (passes_of rfl) rfl)
    (mss_cons (ms_set (i := 4) sc_law_is_book.nd rfl (Or.inl rfl) (me_c pe_str))
    (mss_cons (ms_if (mt_cmp op_gt fI_ok0 (me_callB (CallR.or call_len call_lenR) fLen_ok (by rfl) T.n_len (by decide +kernel) (ma_cons (me_var (pv 1)) ma_nil)) (me_c pe_int) (nomark _)) (mss_one (ms_set (i := 4) sc_law_is_book.nd rfl (Or.inl rfl) (me_m1 (me_c pe_str) (me_var (pv 1)) fJoin_ok (fun a b => pe_join a b))))
    mss_nil)
    (mss_cons (ms_set (i := 5) sc_law_is_book.nd rfl (Or.inl rfl) (me_meth0 (is := []) (n := 1) (me_var (pv 0)) T.C_Book T.m_Book_text (show (cnm 1).idxOf? ("text" : Str) = none by decide +kernel) (sim_Book_text T) (hr.mono (by decide)) (takes_of rfl rfl rfl rfl) T.b_Book_text (by decide) (by decide)))
    (mss_one (ms_ret (me_and (me_callB (CallR.or call_isi (CallR.or call_isiT call_isiK)) fIsi_ok (by rfl) T.n_isinstance (by decide +kernel) (ma_cons (me_var (pv 5)) (ma_cons (me_c (pe_bltn (v := .ty "str") (u := .type "str") (by rfl) T.n_str (by decide +kernel) rfl)) ma_nil))) (me_one (me_cmp (OpR.or op_eq (op_eqD hr.units)) fEq_ok (me_var (pv 5)) (me_var (pv 4)) (nomark _))))))))))))))
abbrev md_Book_init : List Bool := [true, false]
def b_Book_init_1 : GS := (sIf (gSeq (gSeq (gVar 2) (gSeq (gVar 0) (fCon tabc_RULES))) fNotInA) (sRaise 0) sNil)
def b_Book_init_2 : GS := (sSeq (sIf (gSeq (gSeq (gVar 2) (gVar 1)) fInA) (sSeq (sExpr (gSeq (gVar 3) (gSeq chkL (gSeq (gSeq (gVar 2) gNil) fApp))))
    (sSet md_Book_init 4 (gSeq (gSeq (gVar 4) (gVar 5)) fAdd))) sNil)
    (sSet md_Book_init 5 (gSeq (gSeq (gVar 5) (gC (.int 2))) fMul)))
def g_Book_init : GS := (sSeq (sFor (gVar 1) (bind md_Book_init 2) b_Book_init_1)
    (sSeq (sSet md_Book_init 3 (gSeq gNil (fNew .lst 0)))
    (sSeq (sSet md_Book_init 4 (gC (.int 0)))
    (sSeq (sSet md_Book_init 5 (gC (.int 1)))
    (sSeq (sFor (gSeq (gVar 0) (fCon tabc_RULES)) (bind md_Book_init 2) b_Book_init_2)
    (sSeq (sFldS tab_names (gSeq (gSeq (gVar 3) gNil) fTup) (gVar 0))
    (sFldS tab_number (gSeq (gVar 4) (fMv md_Book_init)) (gVar 0))))))))
def G_Book_init : GF := runF md_Book_init 6 g_Book_init
theorem sim_Book_init (T : Txt K mg) : FnOk P w K mg base (L2N.CX P w) 1 T.a_Book_init T.fd_Book_init ["self", "names"] (spOf (kcm K (kt P w T)) md_Book_init G_Book_init) :=
  fn_sim T.F_Book_init sc_Book_init rfl (by decide) fun cdv A outer s H E hr =>
  (mss_cons (ms_for (me_var (pv 1)) (mg_name (i := 2) sc_Book_init.nd rfl (Or.inl rfl))
    (mss_one (ms_if (mt_cmp (op_notInA hr.units) fNotInA_ok (me_var (pv 2)) (me_iCon (me_var (pv 0)) (ct_RULES T)) rfl) (mss_one (ms_raise (n := 0) rfl (takes_of rfl rfl rfl rfl) (pmk_own PySem.F.excBase_ValueError T.x_BadValue T.g_BadValue T.k_BadValue (raises_own T.sb_BadValue T.ty_BadValue) rfl)))
    mss_nil)) (passes_of rfl) rfl)
    (mss_cons (ms_set (i := 3) sc_Book_init.nd rfl (Or.inl rfl) (me_lst ma_nil (by show 0 ≤ sizeLine; decide)))
    (mss_cons (ms_set (i := 4) sc_Book_init.nd rfl (Or.inl rfl) (me_c pe_int))
    (mss_cons (ms_set (i := 5) sc_Book_init.nd rfl (Or.inl rfl) (me_c pe_int))
    (mss_cons (ms_for (me_iCon (me_var (pv 0)) (ct_RULES T)) (mg_name (i := 2) sc_Book_init.nd rfl (Or.inl rfl))
    (mss_cons (ms_if (mt_cmp (op_inA hr.units) fInA_ok (me_var (pv 2)) (me_var (pv 1)) rfl) (mss_cons (ms_expr (me_bm (me_var (pv 3)) (ma_cons (me_var (pv 2)) ma_nil) fApp_ok (fun a b => pe_bm PySem.F.plainAttrs_list PySem.F.slot_list_append PySem.F.type_list_append mt_append a b)))
    (mss_one (ms_set (i := 4) sc_Book_init.nd rfl (Or.inl rfl) (me_add (me_var (pv 4)) (me_var (pv 5))))))
    mss_nil)
    (mss_one (ms_set (i := 5) sc_Book_init.nd rfl (Or.inl rfl) (me_mul (me_var (pv 5)) (me_c pe_int))))) (passes_of rfl) rfl)
    (mss_cons (ms_fld (me_callTy call_tuple_of fTup_ok (by rfl) T.n_tuple (by decide +kernel) (ma_cons (me_var (pv 3)) ma_nil)) (me_var (pv 0)) (fo_names T))
    (mss_one (ms_fld (me_mv (me_var (pv 4))) (me_var (pv 0)) (fo_number T)))))))))
abbrev md_Book_read : List Bool := [false]
def b_Book_read_1 : GS := (sIf (gSeq (gSeq (gVar 2) (gCon (.nd .tup .frz [(.a (.str "copies")), (.a (.str "mark")), (.a (.str "words")), (.a (.str "reuse")), (.a (.str "late")), (.a (.str "revoke")), (.a (.str "lapse")), (.a (.str "shelve")), (.a (.str "frozen")), (.a (.str "wait")), (.a (.str "room")), (.a (.str "told"))]))) fNotInA) (sRaise 1) sNil)
def g_Book_read : GS := (sSeq (sIf (gSeq (gSeq (gVar 0) (gC (.str "none"))) fEq) (sRet (gSeq (gSeq (gSeq (gSeq gNil (fNew .tup 0)) gNil) (noEx (gMake 1 (md_Book_init).tail G_Book_init 1))) fFrz)) sNil)
    (sSeq (sSet md_Book_read 1 (gSeq (gSeq (gVar 0) (gSeq chkS (gC (.str " ")))) fSplit))
    (sSeq (sFor (gVar 1) (bind md_Book_read 2) b_Book_read_1)
    (sSeq (sSet md_Book_read 3 (gSeq (gSeq (gSeq (gVar 1) gNil) (noEx (gMake 1 (md_Book_init).tail G_Book_init 1))) fFrz))
    (sSeq (sIf (gSeq (gSeq (gSeq (gVar 3) (gSeq (chkI 1) (gCall [] md_Book_text G_Book_text 1))) (gVar 0)) fNe) (sRaise 1) sNil)
    (sRet (gSeq (gVar 3) (fMv md_Book_read))))))))
def G_Book_read : GF := runF md_Book_read 4 g_Book_read
theorem sim_Book_read (T : Txt K mg) : FnOk P w K mg base (L2N.CX P w) 3 T.a_Book_read T.fd_Book_read ["text"] (spOf (kcm K (kt P w T)) md_Book_read G_Book_read) :=
  fn_sim T.F_Book_read sc_Book_read rfl (by decide) fun cdv A outer s H E hr =>
  (mss_cons (ms_if (mt_cmp (OpR.or op_eq (op_eqD hr.units)) fEq_ok (me_var (pv 0)) (me_c pe_str) (nomark _)) (mss_one (ms_ret (me_frz (me_make (n := 1) T.m_Book_init (sim_Book_init T) (hr.mono (by decide)) rfl T.g_Book T.b_Book_init (ma_cons (me_tup ma_nil (by show 0 ≤ sizeLine; decide)) ma_nil)))))
    mss_nil)
    (mss_cons (ms_set (i := 1) sc_Book_read.nd rfl (Or.inl rfl) (me_m1 (me_var (pv 0)) (me_c pe_str) fSplit_ok (fun a b => pe_split a b)))
    (mss_cons (ms_for (me_var (pv 1)) (mg_name (i := 2) sc_Book_read.nd rfl (Or.inl rfl))
    (mss_one (ms_if (mt_cmp (op_notInA hr.units) fNotInA_ok (me_var (pv 2)) (me_cvalT (pe_glob (v := .ref T.c_Book) rfl T.g_Book rfl) T.r_Book T.k_Book_RULES (con_tup T.w_Book_RULES (con_cons con_a (con_cons con_a (con_cons con_a (con_cons con_a (con_cons con_a (con_cons con_a (con_cons con_a (con_cons con_a (con_cons con_a (con_cons con_a (con_cons con_a (con_cons con_a con_nil)))))))))))))) rfl) (mss_one (ms_raise (n := 1) rfl (takes_of rfl rfl rfl rfl) (pmk_own PySem.F.excBase_ValueError T.x_BadText T.g_BadText T.k_BadText (raises_own T.sb_BadText T.ty_BadText) rfl)))
    mss_nil)) (passes_of rfl) rfl)
    (mss_cons (ms_set (i := 3) sc_Book_read.nd rfl (Or.inl rfl) (me_frz (me_make (n := 1) T.m_Book_init (sim_Book_init T) (hr.mono (by decide)) rfl T.g_Book T.b_Book_init (ma_cons (me_var (pv 1)) ma_nil))))
    (mss_cons (ms_if (mt_cmp (OpR.or op_ne (op_neD hr.units)) fNe_ok (me_meth0 (is := []) (n := 1) (me_var (pv 3)) T.C_Book T.m_Book_text (show (cnm 1).idxOf? ("text" : Str) = none by decide +kernel) (sim_Book_text T) (hr.mono (by decide)) (takes_of rfl rfl rfl rfl) T.b_Book_text (by decide) (by decide)) (me_var (pv 0)) (nomark _)) (mss_one (ms_raise (n := 1) rfl (takes_of rfl rfl rfl rfl) (pmk_own PySem.F.excBase_ValueError T.x_BadText T.g_BadText T.k_BadText (raises_own T.sb_BadText T.ty_BadText) rfl)))
    mss_nil)
    (mss_one (ms_ret (me_mv (me_var (pv 3))))))))))
abbrev md_law_bad_text : List Bool := [false]
def g_law_bad_text : GS := (sSeq (sTry md_law_bad_text 1 [(0, true), (1, true)] (sExpr (gSeq (gSeq (gVar 0) gNil) (gCall [] md_Book_read G_Book_read 1))) (suC 0 (fun a => (sRet (gAnd (gIsE 1 a false) (gAnd (gIsE 1 a true) (gNot (gIsE 1 a true)))))) (suC 1 (fun a => (sRet (gAnd (gIsE 1 a true) (gAnd (gIsE 1 a true) (gNot (gIsE 1 a false)))))) suN)))
    (sRet (gC (.bl false))))
def G_law_bad_text : GF := runF md_law_bad_text 2 g_law_bad_text
theorem sim_law_bad_text (T : Txt K mg) : FnOk P w K mg base (L2N.CX P w) 4 T.a_law_bad_text T.fd_law_bad_text ["_law_text"] (spOf (kcm K (kt P w T)) md_law_bad_text G_law_bad_text) :=
  fn_sim T.F_law_bad_text sc_law_bad_text rfl (by decide) fun cdv A outer s H E hr =>
  (mss_cons (ms_try (i := 1) rfl rfl sc_law_bad_text.nd rfl rfl ⟨rfl, by decide, .inl T.g_StoreError⟩ (takes_of rfl rfl rfl rfl) (fun W pn xe tk po => (mss_one (ms_expr (me_smethS (is := []) (pe_glob (v := .ref T.c_Book) rfl T.g_Book rfl) T.m_Book_read (sim_Book_read T) (hr.mono (by decide)) tk T.b_Book_read (ma_cons (me_var (pv 0)) ma_nil) (by decide) (by decide))))) (su_T (k := 0) T.m_BadValue_StoreError (fun a oe pn hz hf => (mss_one (ms_ret (me_and (me_isE T.is_BadValue hz hf T.i_BadValue_BadText (by rfl) T.n_isinstance (by decide +kernel) (pv 1) (pe_glob (v := .ref T.e_BadText) rfl T.g_BadText rfl)) (me_and (me_isV T.is_BadValue hz hf (fun u hu => by cases hu; rfl) T.i_BadValue_ValueError (by rfl) T.n_isinstance (by decide +kernel) (pv 1) (pe_bltn (v := .ty "ValueError") (u := .type "ValueError") (by rfl) T.n_ValueError (by decide +kernel) rfl)) (me_one (me_not (me_isET T.is_BadValue hz hf (.cons (ClsV.own _) (.cons (ClsV.own _) (.cons (ClsV.own _) .nil))) (kitAny_cons (r := true) T.i_BadValue_BadValue (fun z => by cases z) (fun _ => rfl)) (by show 3 ≤ sizeLine; decide) (by rfl) T.n_isinstance (by decide +kernel) (pv 1) (pcl_cons (pe_glob (v := .ref T.e_BadValue) rfl T.g_BadValue rfl) (pcl_cons (pe_glob (v := .ref T.e_Refused) rfl T.g_Refused rfl) (pcl_cons (pe_glob (v := .ref T.e_NotNow) rfl T.g_NotNow rfl) pcl_nil))))))))))) (su_T (k := 1) T.m_BadText_StoreError (fun a oe pn hz hf => (mss_one (ms_ret (me_and (me_isE T.is_BadText hz hf T.i_BadText_BadText (by rfl) T.n_isinstance (by decide +kernel) (pv 1) (pe_glob (v := .ref T.e_BadText) rfl T.g_BadText rfl)) (me_and (me_isV T.is_BadText hz hf (fun u hu => by cases hu; rfl) T.i_BadText_ValueError (by rfl) T.n_isinstance (by decide +kernel) (pv 1) (pe_bltn (v := .ty "ValueError") (u := .type "ValueError") (by rfl) T.n_ValueError (by decide +kernel) rfl)) (me_one (me_not (me_isET T.is_BadText hz hf (.cons (ClsV.own _) (.cons (ClsV.own _) (.cons (ClsV.own _) .nil))) (kitAny_cons (r := false) T.i_BadText_BadValue (fun _ => (kitAny_cons (r := false) T.i_BadText_Refused (fun _ => (kitAny_cons (r := false) T.i_BadText_NotNow (fun _ => kitAny_nil) (fun z => by cases z))) (fun z => by cases z))) (fun z => by cases z)) (by show 3 ≤ sizeLine; decide) (by rfl) T.n_isinstance (by decide +kernel) (pv 1) (pcl_cons (pe_glob (v := .ref T.e_BadValue) rfl T.g_BadValue rfl) (pcl_cons (pe_glob (v := .ref T.e_Refused) rfl T.g_Refused rfl) (pcl_cons (pe_glob (v := .ref T.e_NotNow) rfl T.g_NotNow rfl) pcl_nil))))))))))) su_nil)))
    (mss_one (ms_ret (me_c pe_bl))))
abbrev md_Book_of_number : List Bool := [false]
def b_Book_of_number_1 : GS := (sSeq (sIf (gSeq (gSeq (gSeq (gSeq (gVar 2) (gC (.int 2))) fMod) (gC (.int 1))) fEq) (sExpr (gSeq (gVar 1) (gSeq chkL (gSeq (gSeq (gVar 3) gNil) fApp)))) sNil)
    (sSet md_Book_of_number 2 (gSeq (gSeq (gVar 2) (gC (.int 2))) fDiv)))
def g_Book_of_number : GS := (sSeq (sIf (gNot (gChain (gC (.int 0)) (gVar 0) fLe (gC (.int 4096)) fLt)) (sRaise 0) sNil)
    (sSeq (sSet md_Book_of_number 1 (gSeq gNil (fNew .lst 0)))
    (sSeq (sSet md_Book_of_number 2 (gVar 0))
    (sSeq (sFor (gCon (.nd .tup .frz [(.a (.str "copies")), (.a (.str "mark")), (.a (.str "words")), (.a (.str "reuse")), (.a (.str "late")), (.a (.str "revoke")), (.a (.str "lapse")), (.a (.str "shelve")), (.a (.str "frozen")), (.a (.str "wait")), (.a (.str "room")), (.a (.str "told"))])) (bind md_Book_of_number 3) b_Book_of_number_1)
    (sRet (gSeq (gSeq (gSeq (gVar 1) gNil) (noEx (gMake 1 (md_Book_init).tail G_Book_init 1))) fFrz))))))
def G_Book_of_number : GF := runF md_Book_of_number 4 g_Book_of_number
theorem sim_Book_of_number (T : Txt K mg) : FnOk P w K mg base (L2N.CX P w) 3 T.a_Book_of_number T.fd_Book_of_number ["number"] (spOf (kcm K (kt P w T)) md_Book_of_number G_Book_of_number) :=
  fn_sim T.F_Book_of_number sc_Book_of_number rfl (by decide) fun cdv A outer s H E hr =>
  (mss_cons (ms_if (mt_not (mt_chain (me_c pe_int) (me_var (pv 0)) fI_ok0 (me_c pe_int) fI_ok0 (fun a b c => pt_chain op_le op_lt a b c))) (mss_one (ms_raise (n := 0) rfl (takes_of rfl rfl rfl rfl) (pmk_own PySem.F.excBase_ValueError T.x_BadValue T.g_BadValue T.k_BadValue (raises_own T.sb_BadValue T.ty_BadValue) rfl)))
    mss_nil)
    (mss_cons (ms_set (i := 1) sc_Book_of_number.nd rfl (Or.inl rfl) (me_lst ma_nil (by show 0 ≤ sizeLine; decide)))
    (mss_cons (ms_set (i := 2) sc_Book_of_number.nd rfl (Or.inl rfl) (me_var (pv 0)))
    (mss_cons (ms_for (me_cvalT (pe_glob (v := .ref T.c_Book) rfl T.g_Book rfl) T.r_Book T.k_Book_RULES (con_tup T.w_Book_RULES (con_cons con_a (con_cons con_a (con_cons con_a (con_cons con_a (con_cons con_a (con_cons con_a (con_cons con_a (con_cons con_a (con_cons con_a (con_cons con_a (con_cons con_a (con_cons con_a con_nil)))))))))))))) (mg_name (i := 3) sc_Book_of_number.nd rfl (Or.inl rfl))
    (mss_cons (ms_if (mt_cmp (OpR.or op_eq (op_eqD hr.units)) fEq_ok (me_mod (me_var (pv 2)) (me_c pe_int)) (me_c pe_int) (nomark _)) (mss_one (ms_expr (me_bm (me_var (pv 1)) (ma_cons (me_var (pv 3)) ma_nil) fApp_ok (fun a b => pe_bm PySem.F.plainAttrs_list PySem.F.slot_list_append PySem.F.type_list_append mt_append a b))))
    mss_nil)
    (mss_one (ms_set (i := 2) sc_Book_of_number.nd rfl (Or.inl rfl) (me_div (me_var (pv 2)) (me_c pe_int))))) (passes_of rfl) rfl)
    (mss_one (ms_ret (me_frz (me_make (n := 1) T.m_Book_init (sim_Book_init T) (hr.mono (by decide)) rfl T.g_Book T.b_Book_init (ma_cons (me_var (pv 1)) ma_nil)))))))))
abbrev md_law_bad_number : List Bool := [false]
def g_law_bad_number : GS := (sSeq (sTry md_law_bad_number 1 [(0, true)] (sExpr (gSeq (gSeq (gVar 0) gNil) (gCall [] md_Book_of_number G_Book_of_number 1))) (suC 0 (fun a => (sRet (gAnd (gIsE 1 a true) (gAnd (gIsE 1 a true) (gNot (gIsE 1 a false)))))) suN))
    (sRet (gC (.bl false))))
def G_law_bad_number : GF := runF md_law_bad_number 2 g_law_bad_number
theorem sim_law_bad_number (T : Txt K mg) : FnOk P w K mg base (L2N.CX P w) 4 T.a_law_bad_number T.fd_law_bad_number ["_law_number_here"] (spOf (kcm K (kt P w T)) md_law_bad_number G_law_bad_number) :=
  fn_sim T.F_law_bad_number sc_law_bad_number rfl (by decide) fun cdv A outer s H E hr =>
  (mss_cons (ms_try (i := 1) rfl rfl sc_law_bad_number.nd rfl rfl ⟨rfl, by decide, .inl T.g_StoreError⟩ (takes_of rfl rfl rfl rfl) (fun W pn xe tk po => (mss_one (ms_expr (me_smethS (is := []) (pe_glob (v := .ref T.c_Book) rfl T.g_Book rfl) T.m_Book_of_number (sim_Book_of_number T) (hr.mono (by decide)) tk T.b_Book_of_number (ma_cons (me_var (pv 0)) ma_nil) (by decide) (by decide))))) (su_T (k := 0) T.m_BadValue_StoreError (fun a oe pn hz hf => (mss_one (ms_ret (me_and (me_isE T.is_BadValue hz hf T.i_BadValue_BadValue (by rfl) T.n_isinstance (by decide +kernel) (pv 1) (pe_glob (v := .ref T.e_BadValue) rfl T.g_BadValue rfl)) (me_and (me_isV T.is_BadValue hz hf (fun u hu => by cases hu; rfl) T.i_BadValue_ValueError (by rfl) T.n_isinstance (by decide +kernel) (pv 1) (pe_bltn (v := .ty "ValueError") (u := .type "ValueError") (by rfl) T.n_ValueError (by decide +kernel) rfl)) (me_one (me_not (me_isET T.is_BadValue hz hf (.cons (ClsV.own _) (.cons (ClsV.own _) (.cons (ClsV.own _) .nil))) (kitAny_cons (r := false) T.i_BadValue_BadText (fun _ => (kitAny_cons (r := false) T.i_BadValue_Refused (fun _ => (kitAny_cons (r := false) T.i_BadValue_NotNow (fun _ => kitAny_nil) (fun z => by cases z))) (fun z => by cases z))) (fun z => by cases z)) (by show 3 ≤ sizeLine; decide) (by rfl) T.n_isinstance (by decide +kernel) (pv 1) (pcl_cons (pe_glob (v := .ref T.e_BadText) rfl T.g_BadText rfl) (pcl_cons (pe_glob (v := .ref T.e_Refused) rfl T.g_Refused rfl) (pcl_cons (pe_glob (v := .ref T.e_NotNow) rfl T.g_NotNow rfl) pcl_nil))))))))))) su_nil))
    (mss_one (ms_ret (me_c pe_bl))))
abbrev md_law_bad_names : List Bool := [false]
def g_law_bad_names : GS := (sSeq (sTry md_law_bad_names 1 [(0, true)] (sExpr (gSeq (gSeq (gSeq (gVar 0) gNil) (gMake 1 (md_Book_init).tail G_Book_init 1)) fFrz)) (suC 0 (fun a => (sRet (gAnd (gIsE 1 a true) (gAnd (gIsE 1 a true) (gNot (gIsE 1 a false)))))) suN))
    (sRet (gC (.bl false))))
def G_law_bad_names : GF := runF md_law_bad_names 2 g_law_bad_names
theorem sim_law_bad_names (T : Txt K mg) : FnOk P w K mg base (L2N.CX P w) 3 T.a_law_bad_names T.fd_law_bad_names ["_law_names_here"] (spOf (kcm K (kt P w T)) md_law_bad_names G_law_bad_names) :=
  fn_sim T.F_law_bad_names sc_law_bad_names rfl (by decide) fun cdv A outer s H E hr =>
  (mss_cons (ms_try (i := 1) rfl rfl sc_law_bad_names.nd rfl rfl ⟨rfl, by decide, .inl T.g_StoreError⟩ (takes_of rfl rfl rfl rfl) (fun W pn xe tk po => (mss_one (ms_expr (me_frz (me_makeS (n := 1) T.m_Book_init (sim_Book_init T) (hr.mono (by decide)) tk rfl T.g_Book T.b_Book_init (ma_cons (me_var (pv 0)) ma_nil)))))) (su_T (k := 0) T.m_BadValue_StoreError (fun a oe pn hz hf => (mss_one (ms_ret (me_and (me_isE T.is_BadValue hz hf T.i_BadValue_BadValue (by rfl) T.n_isinstance (by decide +kernel) (pv 1) (pe_glob (v := .ref T.e_BadValue) rfl T.g_BadValue rfl)) (me_and (me_isV T.is_BadValue hz hf (fun u hu => by cases hu; rfl) T.i_BadValue_ValueError (by rfl) T.n_isinstance (by decide +kernel) (pv 1) (pe_bltn (v := .ty "ValueError") (u := .type "ValueError") (by rfl) T.n_ValueError (by decide +kernel) rfl)) (me_one (me_not (me_isET T.is_BadValue hz hf (.cons (ClsV.own _) (.cons (ClsV.own _) (.cons (ClsV.own _) .nil))) (kitAny_cons (r := false) T.i_BadValue_BadText (fun _ => (kitAny_cons (r := false) T.i_BadValue_Refused (fun _ => (kitAny_cons (r := false) T.i_BadValue_NotNow (fun _ => kitAny_nil) (fun z => by cases z))) (fun z => by cases z))) (fun z => by cases z)) (by show 3 ≤ sizeLine; decide) (by rfl) T.n_isinstance (by decide +kernel) (pv 1) (pcl_cons (pe_glob (v := .ref T.e_BadText) rfl T.g_BadText rfl) (pcl_cons (pe_glob (v := .ref T.e_Refused) rfl T.g_Refused rfl) (pcl_cons (pe_glob (v := .ref T.e_NotNow) rfl T.g_NotNow rfl) pcl_nil))))))))))) su_nil))
    (mss_one (ms_ret (me_c pe_bl))))
abbrev md_law_spoilt : List Bool := [false, false]
def g_law_spoilt : GS := (sSeq (sSet md_law_spoilt 2 (gSeq (gSeq (gC (.str "")) (gSeq (gC (.str "None")) (gSeq (gC (.str "copies mark copies")) (gSeq (gC (.str "mark copies")) (gSeq (gC (.str "told room")) (gSeq (gC (.str "copies  mark")) (gSeq (gC (.str "none copies")) (gSeq (gC (.str "Copies")) gNil)))))))) (fNew .lst 8)))
    (sSeq (sIf (gSeq (gSeq (gSeq (gSeq (gVar 0) gNil) fLen) (gC (.int 0))) fGt) (sSeq (sSet md_law_spoilt 3 (gSeq (gSeq (gC (.str " ")) (gSeq chkS (gVar 0))) fJoin))
    (sSeq (sSet md_law_spoilt 4 (gSeq (gSeq (gVar 0) (gSeq (gSeq (gVar 1) (gSeq (gSeq (gVar 0) gNil) fLen)) fMod)) fIxA))
    (sExpr (gSeq (gVar 2) (gSeq chkL (gSeq (gSeq (gSeq (gSeq (gSeq (gSeq (gVar 3) (gC (.str " "))) fAdd) (gSeq (gSeq (gSeq (gC (.str " ")) (gVar 3)) fAdd) (gSeq (gSeq (gSeq (gSeq (gSeq (gVar 3) (gC (.str " "))) fAdd) (gVar 4)) fAdd) (gSeq (gSeq (gSeq (gSeq (gSeq (gVar 4) (gC (.str " "))) fAdd) (gVar 3)) fAdd) (gSeq (gSeq (gSeq (gVar 3) (gC (.str " none"))) fAdd) (gSeq (gSeq (gSeq (gVar 3) (gC (.str "x"))) fAdd) gNil)))))) (fNew .lst 6)) gNil) fExt)))))) sNil)
    (sSeq (sIf (gSeq (gSeq (gSeq (gSeq (gVar 0) gNil) fLen) (gC (.int 1))) fGt) (sSeq (sSet md_law_spoilt 5 (gSeq (gSeq (gVar 0) gNil) fLst))
    (sSeq (sSet md_law_spoilt 6 (gSeq (gSeq (gVar 1) (gSeq (gSeq (gSeq (gSeq (gVar 0) gNil) fLen) (gC (.int 1))) fSub)) fMod))
    (sSeq (sSubA (gSeq (gSeq (gVar 0) (gSeq (gSeq (gVar 6) (gC (.int 1))) fAdd)) fIxA) (gVar 5) (gVar 6))
    (sSeq (sSubA (gSeq (gSeq (gVar 0) (gVar 6)) fIxA) (gVar 5) (gSeq (gSeq (gVar 6) (gC (.int 1))) fAdd))
    (sSeq (sExpr (gSeq (gVar 2) (gSeq chkL (gSeq (gSeq (gSeq (gSeq (gC (.str " ")) (gSeq chkS (gVar 5))) fJoin) gNil) fApp))))
    (sExpr (gSeq (gVar 2) (gSeq chkL (gSeq (gSeq (gSeq (gSeq (gC (.str "  ")) (gSeq chkS (gVar 0))) fJoin) gNil) fApp))))))))) sNil)
    (sRet (gSeq (gVar 2) (fMv md_law_spoilt))))))
def G_law_spoilt : GF := runF md_law_spoilt 7 g_law_spoilt
theorem sim_law_spoilt (T : Txt K mg) : FnOk P w K mg base (L2N.CX P w) 1 T.a_law_spoilt T.fd_law_spoilt ["_law_names_here", "_law_at"] (spOf (kcm K (kt P w T)) md_law_spoilt G_law_spoilt) :=
  fn_sim T.F_law_spoilt sc_law_spoilt rfl (by decide) fun cdv A outer s H E hr =>
  (mss_cons (ms_set (i := 2) sc_law_spoilt.nd rfl (Or.inl rfl) (me_lst (ma_cons (me_c pe_str) (ma_cons (me_c pe_str) (ma_cons (me_c pe_str) (ma_cons (me_c pe_str) (ma_cons (me_c pe_str) (ma_cons (me_c pe_str) (ma_cons (me_c pe_str) (ma_cons (me_c pe_str) ma_nil)))))))) (by show 8 ≤ sizeLine; decide)))
    (mss_cons (ms_if (mt_cmp op_gt fI_ok0 (me_callB (CallR.or call_len call_lenR) fLen_ok (by rfl) T.n_len (by decide +kernel) (ma_cons (me_var (pv 0)) ma_nil)) (me_c pe_int) (nomark _)) (mss_cons (ms_set (i := 3) sc_law_spoilt.nd rfl (Or.inl rfl) (me_m1 (me_c pe_str) (me_var (pv 0)) fJoin_ok (fun a b => pe_join a b)))
    (mss_cons (ms_set (i := 4) sc_law_spoilt.nd rfl (Or.inl rfl) (me_ixA hr.units (me_var (pv 0)) (me_mod (me_var (pv 1)) (me_callB (CallR.or call_len call_lenR) fLen_ok (by rfl) T.n_len (by decide +kernel) (ma_cons (me_var (pv 0)) ma_nil))) (fun _ _ => rfl)))
    (mss_one (ms_expr (me_bm (me_var (pv 2)) (ma_cons (me_lst (ma_cons (me_add (me_var (pv 3)) (me_c pe_str)) (ma_cons (me_add (me_c pe_str) (me_var (pv 3))) (ma_cons (me_add (me_add (me_var (pv 3)) (me_c pe_str)) (me_var (pv 4))) (ma_cons (me_add (me_add (me_var (pv 4)) (me_c pe_str)) (me_var (pv 3))) (ma_cons (me_add (me_var (pv 3)) (me_c pe_str)) (ma_cons (me_add (me_var (pv 3)) (me_c pe_str)) ma_nil)))))) (by show 6 ≤ sizeLine; decide)) ma_nil) fExt_ok (fun a b => pe_bm PySem.F.plainAttrs_list PySem.F.slot_list_extend PySem.F.type_list_extend mt_extend a b))))))
    mss_nil)
    (mss_cons (ms_if (mt_cmp op_gt fI_ok0 (me_callB (CallR.or call_len call_lenR) fLen_ok (by rfl) T.n_len (by decide +kernel) (ma_cons (me_var (pv 0)) ma_nil)) (me_c pe_int) (nomark _)) (mss_cons (ms_set (i := 5) sc_law_spoilt.nd rfl (Or.inl rfl) (me_callTy call_list_of fLst_ok (by rfl) T.n_list (by decide +kernel) (ma_cons (me_var (pv 0)) ma_nil)))
    (mss_cons (ms_set (i := 6) sc_law_spoilt.nd rfl (Or.inl rfl) (me_mod (me_var (pv 1)) (me_sub (me_callB (CallR.or call_len call_lenR) fLen_ok (by rfl) T.n_len (by decide +kernel) (ma_cons (me_var (pv 0)) ma_nil)) (me_c pe_int))))
    (mss_cons (ms_subA (me_ixA hr.units (me_var (pv 0)) (me_add (me_var (pv 6)) (me_c pe_int)) (fun _ _ => rfl)) (me_var (pv 5)) (me_var (pv 6)) (fun a b c => ps_asg c (pg_sub a b (set_A hr.units))))
    (mss_cons (ms_subA (me_ixA hr.units (me_var (pv 0)) (me_var (pv 6)) (fun _ _ => rfl)) (me_var (pv 5)) (me_add (me_var (pv 6)) (me_c pe_int)) (fun a b c => ps_asg c (pg_sub a b (set_A hr.units))))
    (mss_cons (ms_expr (me_bm (me_var (pv 2)) (ma_cons (me_m1 (me_c pe_str) (me_var (pv 5)) fJoin_ok (fun a b => pe_join a b)) ma_nil) fApp_ok (fun a b => pe_bm PySem.F.plainAttrs_list PySem.F.slot_list_append PySem.F.type_list_append mt_append a b)))
    (mss_one (ms_expr (me_bm (me_var (pv 2)) (ma_cons (me_m1 (me_c pe_str) (me_var (pv 0)) fJoin_ok (fun a b => pe_join a b)) ma_nil) fApp_ok (fun a b => pe_bm PySem.F.plainAttrs_list PySem.F.slot_list_append PySem.F.type_list_append mt_append a b)))))))))
    mss_nil)
    (mss_one (ms_ret (me_mv (me_var (pv 2))))))))
abbrev md_Book_full : List Bool := []
def g_Book_full : GS := (sRet (gSeq (gSeq (gSeq (gCon (.nd .tup .frz [(.a (.str "copies")), (.a (.str "mark")), (.a (.str "words")), (.a (.str "reuse")), (.a (.str "late")), (.a (.str "revoke")), (.a (.str "lapse")), (.a (.str "shelve")), (.a (.str "frozen")), (.a (.str "wait")), (.a (.str "room")), (.a (.str "told"))])) gNil) (noEx (gMake 1 (md_Book_init).tail G_Book_init 1))) fFrz))
def G_Book_full : GF := runF md_Book_full 0 g_Book_full
theorem sim_Book_full (T : Txt K mg) : FnOk P w K mg base (L2N.CX P w) 3 T.a_Book_full T.fd_Book_full [] (spOf (kcm K (kt P w T)) md_Book_full G_Book_full) :=
  fn_sim T.F_Book_full sc_Book_full rfl (by decide) fun cdv A outer s H E hr =>
  (mss_one (ms_ret (me_frz (me_make (n := 1) T.m_Book_init (sim_Book_init T) (hr.mono (by decide)) rfl T.g_Book T.b_Book_init (ma_cons (me_cvalT (pe_glob (v := .ref T.c_Book) rfl T.g_Book rfl) T.r_Book T.k_Book_RULES (con_tup T.w_Book_RULES (con_cons con_a (con_cons con_a (con_cons con_a (con_cons con_a (con_cons con_a (con_cons con_a (con_cons con_a (con_cons con_a (con_cons con_a (con_cons con_a (con_cons con_a (con_cons con_a con_nil)))))))))))))) ma_nil)))))
abbrev md_Book_sub : List Bool := [false, false]
def t_Book_sub_1 : GE := (gSeq (gSeq (gVar 2) (gSeq (gVar 1) (fFld tab_names))) fNotInA)
def e_Book_sub_1 : GE := (gVar 2)
def g_Book_sub : GS := (sRet (gSeq (gSeq (gSeq (gLc [2] (gSeq (gVar 0) (fFld tab_names)) (bind md_Book_sub 2) t_Book_sub_1 e_Book_sub_1) gNil) (noEx (gMake 1 (md_Book_init).tail G_Book_init 1))) fFrz))
def G_Book_sub : GF := runF md_Book_sub 3 g_Book_sub
theorem sim_Book_sub (T : Txt K mg) : FnOk P w K mg base (L2N.CX P w) 3 T.a_Book_sub T.fd_Book_sub ["self", "other"] (spOf (kcm K (kt P w T)) md_Book_sub G_Book_sub) :=
  fn_sim T.F_Book_sub sc_Book_sub rfl (by decide) fun cdv A outer s H E hr =>
  (mss_one (ms_ret (me_frz (me_make (n := 1) T.m_Book_init (sim_Book_init T) (hr.mono (by decide)) rfl T.g_Book T.b_Book_init (ma_cons (me_lc (me_fld (me_var (pv 0)) (fo_names T)) (blkOk_by (own := [("name", 2)]) (N := N_Book_sub) (sc := defScope s_Book_sub) (by decide +kernel)) (fun _ _ _ _ _ => pg_name (i := 2) sc_Book_sub.nd rfl (Or.inl rfl)) (fun _ _ _ _ _ => (mt_cmp (op_notInA hr.units) fNotInA_ok (me_var (pv 2)) (me_fld (me_var (pv 1)) (fo_names T)) rfl)) (fun _ _ _ _ _ => (me_var (pv 2))) rfl sc_Book_sub.nd) ma_nil)))))
abbrev md_Book_or : List Bool := [false, false]
def g_Book_or : GS := (sRet (gSeq (gSeq (gSeq (gSeq (gSeq (gSeq (gVar 0) (fFld tab_names)) (gSeq (gVar 1) (fFld tab_names))) fCatT) gNil) (noEx (gMake 1 (md_Book_init).tail G_Book_init 1))) fFrz))
def G_Book_or : GF := runF md_Book_or 2 g_Book_or
theorem sim_Book_or (T : Txt K mg) : FnOk P w K mg base (L2N.CX P w) 3 T.a_Book_or T.fd_Book_or ["self", "other"] (spOf (kcm K (kt P w T)) md_Book_or G_Book_or) :=
  fn_sim T.F_Book_or sc_Book_or rfl (by decide) fun cdv A outer s H E hr =>
  (mss_one (ms_ret (me_frz (me_make (n := 1) T.m_Book_init (sim_Book_init T) (hr.mono (by decide)) rfl T.g_Book T.b_Book_init (ma_cons (me_catT (me_fld (me_var (pv 0)) (fo_names T)) (me_fld (me_var (pv 1)) (fo_names T))) ma_nil)))))
abbrev md_law : List Bool := [false]
def t_law_1 : GE := (gOrB (gSeq (gSeq (gVar 10) (gVar 5)) fInA) (gSeq (gSeq (gVar 10) (gVar 6)) fInA))
def e_law_1 : GE := (gVar 10)
def t_law_2 : GE := (gSeq (gSeq (gVar 10) (gVar 6)) fNotInA)
def e_law_2 : GE := (gVar 10)
def b_law_1 : GS := (sIf (gNot (gSeq (gSeq (gVar 11) gNil) (gCall [] md_law_bad_text G_law_bad_text 1))) (sRet (gC (.bl false))) sNil)
def b_law_2 : GS := (sIf (gNot (gSeq (gSeq (gVar 12) gNil) (gCall [] md_law_bad_number G_law_bad_number 1))) (sRet (gC (.bl false))) sNil)
def b_law_3 : GS := (sIf (gOrB (gNot (gSeq (gSeq (gSeq (gSeq (gVar 5) (gSeq (gSeq (gVar 13) gNil) (fNew .lst 1))) fAdd) gNil) (gCall [] md_law_bad_names G_law_bad_names 1))) (gNot (gSeq (gSeq (gSeq (gSeq (gSeq (gSeq (gVar 13) gNil) (fNew .lst 1)) (gVar 6)) fAdd) gNil) (gCall [] md_law_bad_names G_law_bad_names 1)))) (sRet (gC (.bl false))) sNil)
def g_law : GS := (sSeq (sSet md_law 2 (gSeq (gSeq (gSeq (gSeq (gVar 1) (gSeq (gC (.int 64)) gNil)) (gCall [0] md_law_pick G_law_pick 2)) (gSeq (gSeq (gC (.int 64)) (gSeq (gSeq (gVar 1) (gSeq (gC (.int 64)) gNil)) (gCall [0] md_law_pick G_law_pick 2))) fMul)) fAdd))
    (sSeq (sSet md_law 3 (gSeq (gSeq (gSeq (gSeq (gVar 1) (gSeq (gC (.int 64)) gNil)) (gCall [0] md_law_pick G_law_pick 2)) (gSeq (gSeq (gC (.int 64)) (gSeq (gSeq (gVar 1) (gSeq (gC (.int 64)) gNil)) (gCall [0] md_law_pick G_law_pick 2))) fMul)) fAdd))
    (sSeq (sSet md_law 4 (gSeq (gSeq (gVar 1) (gSeq (gC (.int 99)) gNil)) (gCall [0] md_law_pick G_law_pick 2)))
    (sSeq (sSet md_law 5 (gSeq (gSeq (gVar 2) gNil) (gCall [] md_law_names G_law_names 1)))
    (sSeq (sSet md_law 6 (gSeq (gSeq (gVar 3) gNil) (gCall [] md_law_names G_law_names 1)))
    (sSeq (sSet md_law 7 (gSeq (gSeq (gVar 2) gNil) (noEx (gCall [] md_Book_of_number G_Book_of_number 1))))
    (sSeq (sSet md_law 8 (gSeq (gSeq (gSeq (gSeq (gSeq (gSeq (gVar 6) fLstR) (gVar 6)) fAdd) gNil) (noEx (gMake 1 (md_Book_init).tail G_Book_init 1))) fFrz))
    (sSeq (sIf (gOrB (gNot (gSeq (gSeq (gVar 7) (gSeq (gVar 5) gNil)) (gCall [] md_law_is_book G_law_is_book 2))) (gNot (gSeq (gSeq (gVar 8) (gSeq (gVar 6) gNil)) (gCall [] md_law_is_book G_law_is_book 2)))) (sRet (gC (.bl false))) sNil)
    (sSeq (sIf (gOrB (gNot (gSeq (gSeq (gSeq (gSeq (gSeq (gVar 7) (gSeq (chkI 1) (gCall [] md_Book_text G_Book_text 1))) gNil) (noEx (gCall [] md_Book_read G_Book_read 1))) (gSeq (gVar 5) gNil)) (gCall [] md_law_is_book G_law_is_book 2))) (gNot (gSeq (gSeq (gSeq (gSeq (gSeq (gSeq (gSeq (gVar 5) gNil) fTup) gNil) (noEx (gMake 1 (md_Book_init).tail G_Book_init 1))) fFrz) (gSeq (gVar 5) gNil)) (gCall [] md_law_is_book G_law_is_book 2)))) (sRet (gC (.bl false))) sNil)
    (sSeq (sSet md_law 9 (gLc [10] (noEx (gCall [] md_law_rules G_law_rules 0)) (bind md_law 10) t_law_1 e_law_1))
    (sSeq (sIf (gNot (gSeq (gSeq (gSeq (gSeq (gVar 7) (gVar 8)) (fBinO 1 md_Book_or G_Book_or)) (gSeq (gVar 9) gNil)) (gCall [] md_law_is_book G_law_is_book 2))) (sRet (gC (.bl false))) sNil)
    (sSeq (sIf (gNot (gSeq (gSeq (gSeq (gSeq (gVar 7) (gVar 8)) (fBinO 1 md_Book_sub G_Book_sub)) (gSeq (gLc [10] (gVar 5) (bind md_law 10) t_law_2 e_law_2) gNil)) (gCall [] md_law_is_book G_law_is_book 2))) (sRet (gC (.bl false))) sNil)
    (sSeq (sIf (gOrB (gNot (gSeq (gSeq (gVar 7) (gSeq (gVar 5) gNil)) (gCall [] md_law_is_book G_law_is_book 2))) (gNot (gSeq (gSeq (gVar 8) (gSeq (gVar 6) gNil)) (gCall [] md_law_is_book G_law_is_book 2)))) (sRet (gC (.bl false))) sNil)
    (sSeq (sIf (gOrB (gNot (gSeq (gSeq (gCall [] md_Book_full G_Book_full 0) (gSeq (noEx (gCall [] md_law_rules G_law_rules 0)) gNil)) (gCall [] md_law_is_book G_law_is_book 2))) (gNot (gSeq (gSeq (gSeq (gSeq (gSeq (gSeq gNil (fNew .lst 0)) gNil) (noEx (gMake 1 (md_Book_init).tail G_Book_init 1))) fFrz) (gSeq (gSeq gNil (fNew .lst 0)) gNil)) (gCall [] md_law_is_book G_law_is_book 2)))) (sRet (gC (.bl false))) sNil)
    (sSeq (sFor (gSeq (gSeq (gVar 5) (gSeq (gVar 4) gNil)) (gCall [] md_law_spoilt G_law_spoilt 2)) (bind md_law 11) b_law_1)
    (sSeq (sFor (gSeq (gSeq (gSeq (gC (.int 1)) fNeg) (gSeq (gSeq (gSeq (gSeq (gC (.int 1)) fNeg) (gVar 2)) fSub) (gSeq (gC (.int 4096)) (gSeq (gSeq (gSeq (gC (.int 4096)) (gVar 3)) fAdd) gNil)))) (fNew .lst 4)) (bind md_law 12) b_law_2)
    (sSeq (sFor (gSeq (gSeq (gC (.str "copy")) (gSeq (gC (.str "")) (gSeq (gC (.str "none")) (gSeq (gC (.str "told ")) (gSeq (gC (.str "first")) gNil))))) (fNew .lst 5)) (bind md_law 13) b_law_3)
    (sRet (gAnd (gSeq (gSeq (gSeq (gSeq (gCon (.nd .tup .frz [])) gNil) fLen) (gC (.int 0))) fEq) (gSeq (gSeq (gSeq (gSeq (gCon (.nd .tup .frz [(.a (.str "copies")), (.a (.str "mark")), (.a (.str "words")), (.a (.str "reuse")), (.a (.str "late")), (.a (.str "revoke")), (.a (.str "lapse")), (.a (.str "shelve")), (.a (.str "frozen")), (.a (.str "wait")), (.a (.str "room")), (.a (.str "told"))])) gNil) fLst) (noEx (gCall [] md_law_rules G_law_rules 0))) fEq))))))))))))))))))))
/-! the drawn row, and what is drawn of it -/
def Feed (fs : List Int) : Prop := fs.length ≤ 5000 ∧ ∀ x ∈ fs, 0 ≤ x ∧ x < 1000000
theorem Feed.tail {x : Int} {fs : List Int} (h : Feed (x :: fs)) : Feed fs := ⟨by have := h.1; simp at this; omega, fun y hy => h.2 y (List.mem_cons_of_mem _ hy)⟩
def sp_law_feed (K : PySem.W.Frag) : Sp := fun vs H Q _ => ∃ (a : Addr) (ns : List Int), vs = [.ref a] ∧ SqL K H a (ns.map V.int) ∧ ns.length ≤ 63 ∧
  ∀ H' p fs, Fr [] H H' → H p = none → H' p = some (.lst (fs.map V.int)) → Feed fs → Q (.ref p) H'
theorem mem_app1 {P : Int → Prop} {fs : List Int} {y : Int} (h : ∀ x ∈ fs, P x) (hy : P y) : ∀ x ∈ fs ++ [y], P x := fun x hx => by
  rcases List.mem_append.mp hx with q | q
  · exact h x q
  · rw [List.mem_singleton.mp q]
    exact hy
theorem map_app1 {fs : List Int} {y : Int} : fs.map V.int ++ [V.int y] = (fs ++ [y]).map V.int := by simp
theorem ok_law_feed (T : Txt K mg) : FnOk P w K mg base CX0 1 T.a_law_feed T.fd_law_feed ["_law_script"] (sp_law_feed K) := by
  refine T.F_law_feed.ok sc_law_feed (fun vs H Q E h => ?_) (fun cdv A outer s H vs Q E hr h => ?_)
  · obtain ⟨a, ns, rfl, _⟩ := h
    rfl
  · obtain ⟨a, ns, rfl, hS, hl, k⟩ := h
    refine ⟨_, (pss_cons (ps_set (i := 1) sc_law_feed.nd rfl (Or.inl rfl) (pe_lst pa_nil))
        (pss_cons (ps_for PassesOwn.never rfl (pi_list (pv 0)) (pg_name (i := 2) sc_law_feed.nd rfl (Or.inl rfl))
        (pss_cons (ps_set (i := 3) sc_law_feed.nd rfl (Or.inl rfl) (pe_callB call_abs (by rfl) T.n_abs (by decide +kernel) (pa_cons (pv 2) pa_nil)))
        (C8.pss_cut (ps_if (pt_cmpR op_lt (pv 3) (pe_op op_pow pe_int pe_int) (nomark _)) (pss_cons (ps_set (i := 3) sc_law_feed.nd rfl (Or.inl rfl) (pe_op op_mod (pe_callTy call_int1 (by rfl) T.n_int (by decide +kernel) (pa_cons (pe_op op_add (pe_op op_mul (pv 3) pe_int) pe_int) pa_nil)) pe_int))
        (pss_cons (ps_expr (pe_bm PySem.F.plainAttrs_list PySem.F.slot_list_append PySem.F.type_list_append mt_append (pv 1) (pa_cons (pe_op op_mod (pe_callTy call_int1 (by rfl) T.n_int (by decide +kernel) (pa_cons (pe_op op_add (pe_op op_mul (pv 3) pe_int) pe_int) pa_nil)) pe_int) pa_nil)))
        (pss_one (ps_set (i := 3) sc_law_feed.nd rfl (Or.inl rfl) pe_int)))) pss_nil)
        (pss_one (ps_for PassesOwn.never rfl (pi_range1 rfl T.n_range (pa_cons pe_int pa_nil)) (pg_name (i := 4) sc_law_feed.nd rfl (Or.inl rfl))
        (pss_one (ps_if (pt_cmpR op_gt (pv 3) pe_int (nomark _)) (pss_cons (ps_expr (pe_bm PySem.F.plainAttrs_list PySem.F.slot_list_append PySem.F.type_list_append mt_append (pv 1) (pa_cons (pe_op op_mod (pe_callTy call_int1 (by rfl) T.n_int (by decide +kernel) (pa_cons (pv 3) pa_nil)) pe_int) pa_nil)))
        (pss_one (ps_set (i := 3) sc_law_feed.nd rfl (Or.inl rfl) (pe_op op_fdiv (pv 3) pe_int)))) pss_nil)))))))
        (pss_one (ps_ret (pv 1))))), ?_⟩
    refine ⟨by decide, fun p np => ?_⟩
    generalize hH : upd H p _ = H1
    obtain ⟨f1, h1⟩ := gen_new np hH
    refine ⟨_, rfl, a, rfl, ⟨_, f1.seq0 hS⟩, for_list (K := K) (a := a) (xs := ns.map V.int) (fun i σ H2 => ∃ (fs : List Int) (u v x : Option V), σ = [some (.ref a), some (.ref p), u, v, x] ∧ Fr [] H H2 ∧ H2 p = some (.lst (fs.map V.int)) ∧ fs.length ≤ 61 * i ∧ ∀ x ∈ fs, 0 ≤ x ∧ x < 1000000) ?_ ?_ ?_ ?_⟩
    · exact ⟨[], none, none, none, rfl, f1, h1, by simp, by simp⟩
    · rintro i σ H2 _ ⟨fs, u, v, x, rfl, f2, _⟩
      exact f2.seq0 hS
    · rintro i y σ H2 hi ⟨fs, u, v, x, rfl, f2, h2, hf, hb⟩
      obtain ⟨z, hz, rfl⟩ := map_get hi
      have hil := getq_lt hz
      refine ⟨_, rfl, _, rfl, ?_⟩
      have hr0 : 0 ≤ (if z < 0 then -z else z) := by split <;> omega
      generalize (if z < 0 then -z else z) = r at hr0
      refine ⟨fun σ H3 => ∃ (r : Int) (fs : List Int), σ = [some (.ref a), some (.ref p), some (.int z), some (.int r), x] ∧ Fr [] H H3 ∧ H3 p = some (.lst (fs.map V.int)) ∧ 0 ≤ r ∧ fs.length ≤ 61 * i + 1 ∧ ∀ x ∈ fs, 0 ≤ x ∧ x < 1000000, ?_, ?_⟩
      · refine ⟨_, rfl, _, _, rfl, rfl, ⟨by decide, by decide, by decide⟩, _, _, rfl, rfl, _, rfl, ?_⟩
        refine ite2 (fun c => ?_) (fun c => ?_)
        · refine ⟨_, rfl, _, _, rfl, rfl, .inr ⟨by decide, by decide⟩, _, _, rfl, rfl, .inl ⟨_, rfl, _, _, rfl, rfl, (by show (0 : Int) < 2147483647; decide), ?_⟩⟩
          refine ⟨_, rfl, .inl ⟨rfl, _, sq h2⟩, _, rfl, _, _, rfl, rfl, .inr ⟨by decide, by decide⟩, _, _, rfl, rfl, .inl ⟨_, rfl, _, _, rfl, rfl, (by show (0 : Int) < 999983; decide), p, _, _, rfl, rfl, h2, sz (by simp; omega), ?_⟩⟩
          generalize hH3 : upd H2 p _ = H3
          obtain ⟨f3, h3⟩ := gen_upd hH3
          rw [map_app1] at h3
          refine ⟨0, _, rfl, f2.up1 f3 (.inr np), h3, by decide, by simp; omega, mem_app1 hb ?_⟩
          exact ⟨Int.emod_nonneg _ (by decide), Int.lt_trans (Int.emod_lt_of_pos _ (by decide)) (by decide)⟩
        · exact ⟨r, fs, rfl, f2, h2, hr0, by omega, hb⟩
      · rintro σ H3 ⟨r, fs, rfl, f3, h3, hr1, hf1, hb1⟩
        refine ⟨60, rfl, by decide, by decide, for_range (n := 60) (fun j σ H4 => ∃ (r : Int) (fs : List Int) (x : Option V), σ = [some (.ref a), some (.ref p), some (.int z), some (.int r), x] ∧ Fr [] H H4 ∧ H4 p = some (.lst (fs.map V.int)) ∧ 0 ≤ r ∧ fs.length ≤ 61 * i + 1 + j ∧ ∀ x ∈ fs, 0 ≤ x ∧ x < 1000000) ?_ ?_ ?_⟩
        · exact ⟨r, fs, x, rfl, f3, h3, hr1, by omega, hb1⟩
        · rintro j σ H4 hj ⟨r, fs, x, rfl, f4, h4, hr2, hf2, hb2⟩
          refine ⟨_, rfl, _, _, rfl, rfl, _, rfl, ?_⟩
          refine ite2 (fun c => ?_) (fun c => ?_)
          · refine ⟨_, rfl, .inl ⟨rfl, _, sq h4⟩, _, rfl, .inl ⟨_, rfl, _, _, rfl, rfl, (by show (0 : Int) < 1000; decide), p, _, _, rfl, rfl, h4, sz (by simp; omega), ?_⟩⟩
            generalize hH5 : upd H4 p _ = H5
            obtain ⟨f5, h5⟩ := gen_upd hH5
            rw [map_app1] at h5
            refine ⟨_, rfl, _, _, rfl, rfl, ⟨by decide, by decide⟩, _, _, _, rfl, f4.up1 f5 (.inr np), h5, Int.ediv_nonneg hr2 (by decide), by simp; omega, mem_app1 hb2 ?_⟩
            exact ⟨Int.emod_nonneg _ (by decide), Int.lt_trans (Int.emod_lt_of_pos _ (by decide)) (by decide)⟩
          · exact ⟨r, fs, _, rfl, f4, h4, hr2, by omega, hb2⟩
        · rintro σ H4 ⟨r, fs, x, rfl, f4, h4, hr2, hf2, hb2⟩
          exact ⟨fs, _, _, _, rfl, f4, h4, by omega, hb2⟩
    · rintro σ H2 ⟨fs, u, v, x, rfl, f2, h2, hf, hb⟩
      rw [List.length_map] at hf
      exact ⟨_, rfl, k H2 p fs f2 np h2 ⟨by omega, hb⟩⟩

def LawIs : Prop := ∀ fs, Feed fs → ∃ m, g_law (feedG 12 fs) = some (.rt (bT true) m)
theorem ok_law_of (pl : LawIs) (T : Txt K mg) : FnOk P w K mg base CX0 5 T.a_law T.fd_law ["_law_script"] (spLaw K) :=
  law_sim (Fe := Feed) (T := kt P w T) (n := 12) (g := g_law) T.F_law sc_law rfl rfl (fun cdv A outer s H E hr =>
  ⟨⟨_, (ps_set (i := 1) sc_law.nd rfl (Or.inl rfl) (pe_call (ok_law_feed T) (hr.mono (by decide)) rfl T.m_law_feed T.F_law_feed.kp T.b_law_feed .nil pass0 (pa_cons (pv 0) pa_nil))), fun a ns H D hS hl k => ⟨_, rfl, a, ns, rfl, hS, hl, fun H1 p fs1 _ _ h1 hf1 => k H1 p fs1 h1 hf1⟩⟩,
  (mss_cons (ms_set (i := 2) sc_law.nd rfl (Or.inl rfl) (me_add (me_call (is := [0]) (sim_law_pick T) (hr.mono (by decide)) takes0 rfl T.m_law_pick T.F_law_pick.kp T.b_law_pick (ma_cons (me_var (pv 1)) (ma_cons (me_c pe_int) ma_nil)) (by decide) (by decide)) (me_mul (me_c pe_int) (me_call (is := [0]) (sim_law_pick T) (hr.mono (by decide)) takes0 rfl T.m_law_pick T.F_law_pick.kp T.b_law_pick (ma_cons (me_var (pv 1)) (ma_cons (me_c pe_int) ma_nil)) (by decide) (by decide)))))
    (mss_cons (ms_set (i := 3) sc_law.nd rfl (Or.inl rfl) (me_add (me_call (is := [0]) (sim_law_pick T) (hr.mono (by decide)) takes0 rfl T.m_law_pick T.F_law_pick.kp T.b_law_pick (ma_cons (me_var (pv 1)) (ma_cons (me_c pe_int) ma_nil)) (by decide) (by decide)) (me_mul (me_c pe_int) (me_call (is := [0]) (sim_law_pick T) (hr.mono (by decide)) takes0 rfl T.m_law_pick T.F_law_pick.kp T.b_law_pick (ma_cons (me_var (pv 1)) (ma_cons (me_c pe_int) ma_nil)) (by decide) (by decide)))))
    (mss_cons (ms_set (i := 4) sc_law.nd rfl (Or.inl rfl) (me_call (is := [0]) (sim_law_pick T) (hr.mono (by decide)) takes0 rfl T.m_law_pick T.F_law_pick.kp T.b_law_pick (ma_cons (me_var (pv 1)) (ma_cons (me_c pe_int) ma_nil)) (by decide) (by decide)))
    (mss_cons (ms_set (i := 5) sc_law.nd rfl (Or.inr rfl) (me_call (is := []) (sim_law_names T) (hr.mono (by decide)) takes0 rfl T.m_law_names T.F_law_names.kp T.b_law_names (ma_cons (me_var (pv 2)) ma_nil) (by decide) (by decide)))
    (mss_cons (ms_set (i := 6) sc_law.nd rfl (Or.inr rfl) (me_call (is := []) (sim_law_names T) (hr.mono (by decide)) takes0 rfl T.m_law_names T.F_law_names.kp T.b_law_names (ma_cons (me_var (pv 3)) ma_nil) (by decide) (by decide)))
    (mss_cons (ms_set (i := 7) sc_law.nd rfl (Or.inl rfl) (me_smeth (is := []) (pe_glob (v := .ref T.c_Book) rfl T.g_Book rfl) T.m_Book_of_number (sim_Book_of_number T) (hr.mono (by decide)) T.b_Book_of_number (ma_cons (me_var (pv 2)) ma_nil) (by decide) (by decide)))
    (mss_cons (ms_set (i := 8) sc_law.nd rfl (Or.inl rfl) (me_frz (me_make (n := 1) T.m_Book_init (sim_Book_init T) (hr.mono (by decide)) rfl T.g_Book T.b_Book_init (ma_cons (me_add (me_lstRev (me_var (pv 6)) rfl (by rfl) T.n_list (by rfl) T.n_reversed) (me_var (pv 6))) ma_nil))))
    (mss_cons (ms_if (mw_pt (mw_or (mt_not (mt_val (me_call (is := []) (sim_law_is_book T) (hr.mono (by decide)) takes0 rfl T.m_law_is_book T.F_law_is_book.kp T.b_law_is_book (ma_cons (me_var (pv 7)) (ma_cons (me_var (pv 5)) ma_nil)) (by decide) (by decide)))) (mw_or1 (mt_not (mt_val (me_call (is := []) (sim_law_is_book T) (hr.mono (by decide)) takes0 rfl T.m_law_is_book T.F_law_is_book.kp T.b_law_is_book (ma_cons (me_var (pv 8)) (ma_cons (me_var (pv 6)) ma_nil)) (by decide) (by decide))))))) (mss_one (ms_ret (me_c pe_bl)))
    mss_nil)
    (mss_cons (ms_if (mw_pt (mw_or (mt_not (mt_val (me_call (is := []) (sim_law_is_book T) (hr.mono (by decide)) takes0 rfl T.m_law_is_book T.F_law_is_book.kp T.b_law_is_book (ma_cons (me_smeth (is := []) (pe_glob (v := .ref T.c_Book) rfl T.g_Book rfl) T.m_Book_read (sim_Book_read T) (hr.mono (by decide)) T.b_Book_read (ma_cons (me_meth0 (is := []) (n := 1) (me_var (pv 7)) T.C_Book T.m_Book_text (show (cnm 1).idxOf? ("text" : Str) = none by decide +kernel) (sim_Book_text T) (hr.mono (by decide)) takes0 T.b_Book_text (by decide) (by decide)) ma_nil) (by decide) (by decide)) (ma_cons (me_var (pv 5)) ma_nil)) (by decide) (by decide)))) (mw_or1 (mt_not (mt_val (me_call (is := []) (sim_law_is_book T) (hr.mono (by decide)) takes0 rfl T.m_law_is_book T.F_law_is_book.kp T.b_law_is_book (ma_cons (me_frz (me_make (n := 1) T.m_Book_init (sim_Book_init T) (hr.mono (by decide)) rfl T.g_Book T.b_Book_init (ma_cons (me_callTy call_tuple_of fTup_ok (by rfl) T.n_tuple (by decide +kernel) (ma_cons (me_var (pv 5)) ma_nil)) ma_nil))) (ma_cons (me_var (pv 5)) ma_nil)) (by decide) (by decide))))))) (mss_one (ms_ret (me_c pe_bl)))
    mss_nil)
    (mss_cons (ms_lc (me_call0 (sim_law_rules T) (hr.mono (by decide)) rfl T.m_law_rules T.F_law_rules.kp T.b_law_rules) (blkOk_by (own := [("_law_name", 10)]) (N := N_law) (sc := defScope s_law) (by decide +kernel)) (fun _ _ _ _ _ => pg_name (i := 10) sc_law.nd rfl (Or.inl rfl)) (fun _ _ _ _ _ => (mw_pt (mw_or (mt_cmp (op_inA hr.units) fInA_ok (me_var (pv 10)) (me_var (pv 5)) rfl) (mw_or1 (mt_cmp (op_inA hr.units) fInA_ok (me_var (pv 10)) (me_var (pv 6)) rfl))))) (fun _ _ _ _ _ => (me_var (pv 10))) rfl sc_law.nd rfl rfl (sw_true rfl rfl rfl (by decide +kernel)))
    (mss_cons (ms_if (mt_not (mt_val (me_call (is := []) (sim_law_is_book T) (hr.mono (by decide)) takes0 rfl T.m_law_is_book T.F_law_is_book.kp T.b_law_is_book (ma_cons (me_bin (op_binO T.sf_Book T.m_Book_or (sim_Book_or T) (hr.mono (by decide)) T.b_Book_or) fBinO_ok (me_var (pv 7)) (me_var (pv 8))) (ma_cons (me_var (pv 9)) ma_nil)) (by decide) (by decide)))) (mss_one (ms_ret (me_c pe_bl)))
    mss_nil)
    (mss_cons (ms_if (mt_not (mt_val (me_call (is := []) (sim_law_is_book T) (hr.mono (by decide)) takes0 rfl T.m_law_is_book T.F_law_is_book.kp T.b_law_is_book (ma_cons (me_bin (op_binO T.sf_Book T.m_Book_sub (sim_Book_sub T) (hr.mono (by decide)) T.b_Book_sub) fBinO_ok (me_var (pv 7)) (me_var (pv 8))) (ma_cons (me_lc (me_var (pv 5)) (blkOk_by (own := [("_law_name", 10)]) (N := N_law) (sc := defScope s_law) (by decide +kernel)) (fun _ _ _ _ _ => pg_name (i := 10) sc_law.nd rfl (Or.inl rfl)) (fun _ _ _ _ _ => (mt_cmp (op_notInA hr.units) fNotInA_ok (me_var (pv 10)) (me_var (pv 6)) rfl)) (fun _ _ _ _ _ => (me_var (pv 10))) rfl sc_law.nd) ma_nil)) (by decide) (by decide)))) (mss_one (ms_ret (me_c pe_bl)))
    mss_nil)
    (mss_cons (ms_if (mw_pt (mw_or (mt_not (mt_val (me_call (is := []) (sim_law_is_book T) (hr.mono (by decide)) takes0 rfl T.m_law_is_book T.F_law_is_book.kp T.b_law_is_book (ma_cons (me_var (pv 7)) (ma_cons (me_var (pv 5)) ma_nil)) (by decide) (by decide)))) (mw_or1 (mt_not (mt_val (me_call (is := []) (sim_law_is_book T) (hr.mono (by decide)) takes0 rfl T.m_law_is_book T.F_law_is_book.kp T.b_law_is_book (ma_cons (me_var (pv 8)) (ma_cons (me_var (pv 6)) ma_nil)) (by decide) (by decide))))))) (mss_one (ms_ret (me_c pe_bl)))
    mss_nil)
    (mss_cons (ms_if (mw_pt (mw_or (mt_not (mt_val (me_call (is := []) (sim_law_is_book T) (hr.mono (by decide)) takes0 rfl T.m_law_is_book T.F_law_is_book.kp T.b_law_is_book (ma_cons (me_smeth0 (pe_glob (v := .ref T.c_Book) rfl T.g_Book rfl) T.m_Book_full (sim_Book_full T) (hr.mono (by decide)) takes0 T.b_Book_full) (ma_cons (me_call0 (sim_law_rules T) (hr.mono (by decide)) rfl T.m_law_rules T.F_law_rules.kp T.b_law_rules) ma_nil)) (by decide) (by decide)))) (mw_or1 (mt_not (mt_val (me_call (is := []) (sim_law_is_book T) (hr.mono (by decide)) takes0 rfl T.m_law_is_book T.F_law_is_book.kp T.b_law_is_book (ma_cons (me_frz (me_make (n := 1) T.m_Book_init (sim_Book_init T) (hr.mono (by decide)) rfl T.g_Book T.b_Book_init (ma_cons (me_lst ma_nil (by show 0 ≤ sizeLine; decide)) ma_nil))) (ma_cons (me_lst ma_nil (by show 0 ≤ sizeLine; decide)) ma_nil)) (by decide) (by decide))))))) (mss_one (ms_ret (me_c pe_bl)))
    mss_nil)
    (mss_cons (ms_for (me_call (is := []) (sim_law_spoilt T) (hr.mono (by decide)) takes0 rfl T.m_law_spoilt T.F_law_spoilt.kp T.b_law_spoilt (ma_cons (me_var (pv 5)) (ma_cons (me_var (pv 4)) ma_nil)) (by decide) (by decide)) (mg_name (i := 11) sc_law.nd rfl (Or.inl rfl))
    (mss_one (ms_if (mt_not (mt_val (me_call (is := []) (sim_law_bad_text T) (hr.mono (by decide)) takes0 rfl T.m_law_bad_text T.F_law_bad_text.kp T.b_law_bad_text (ma_cons (me_var (pv 11)) ma_nil) (by decide) (by decide)))) (mss_one (ms_ret (me_c pe_bl)))
    mss_nil)) PassesOwn.never rfl)
    (mss_cons (ms_for (me_lst (ma_cons (me_neg (me_c pe_int)) (ma_cons (me_sub (me_neg (me_c pe_int)) (me_var (pv 2))) (ma_cons (me_c pe_int) (ma_cons (me_add (me_c pe_int) (me_var (pv 3))) ma_nil)))) (by show 4 ≤ sizeLine; decide)) (mg_name (i := 12) sc_law.nd rfl (Or.inl rfl))
    (mss_one (ms_if (mt_not (mt_val (me_call (is := []) (sim_law_bad_number T) (hr.mono (by decide)) takes0 rfl T.m_law_bad_number T.F_law_bad_number.kp T.b_law_bad_number (ma_cons (me_var (pv 12)) ma_nil) (by decide) (by decide)))) (mss_one (ms_ret (me_c pe_bl)))
    mss_nil)) PassesOwn.never rfl)
    (mss_cons (ms_for (me_lst (ma_cons (me_c pe_str) (ma_cons (me_c pe_str) (ma_cons (me_c pe_str) (ma_cons (me_c pe_str) (ma_cons (me_c pe_str) ma_nil))))) (by show 5 ≤ sizeLine; decide)) (mg_name (i := 13) sc_law.nd rfl (Or.inl rfl))
    (mss_one (ms_if (mw_pt (mw_or (mt_not (mt_val (me_call (is := []) (sim_law_bad_names T) (hr.mono (by decide)) takes0 rfl T.m_law_bad_names T.F_law_bad_names.kp T.b_law_bad_names (ma_cons (me_add (me_var (pv 5)) (me_lst (ma_cons (me_var (pv 13)) ma_nil) (by show 1 ≤ sizeLine; decide))) ma_nil) (by decide) (by decide)))) (mw_or1 (mt_not (mt_val (me_call (is := []) (sim_law_bad_names T) (hr.mono (by decide)) takes0 rfl T.m_law_bad_names T.F_law_bad_names.kp T.b_law_bad_names (ma_cons (me_add (me_lst (ma_cons (me_var (pv 13)) ma_nil) (by show 1 ≤ sizeLine; decide)) (me_var (pv 6))) ma_nil) (by decide) (by decide))))))) (mss_one (ms_ret (me_c pe_bl)))
    mss_nil)) PassesOwn.never rfl)
    (mss_one (ms_ret (me_and (me_cmp (OpR.or op_eq (op_eqD hr.units)) fEq_ok (me_callB (CallR.or call_len call_lenR) fLen_ok (by rfl) T.n_len (by decide +kernel) (ma_cons (me_cvalT (pe_glob (v := .ref T.c_RuleSet) rfl T.g_RuleSet rfl) T.r_RuleSet T.k_RuleSet_RULES (con_tup T.w_RuleSet_RULES con_nil)) ma_nil)) (me_c pe_int) (nomark _)) (me_one (me_cmp (OpR.or op_eq (op_eqD hr.units)) fEq_ok (me_callTy call_list_of fLst_ok (by rfl) T.n_list (by decide +kernel) (ma_cons (me_cvalT (pe_glob (v := .ref T.c_Book) rfl T.g_Book rfl) T.r_Book T.k_Book_RULES (con_tup T.w_Book_RULES (con_cons con_a (con_cons con_a (con_cons con_a (con_cons con_a (con_cons con_a (con_cons con_a (con_cons con_a (con_cons con_a (con_cons con_a (con_cons con_a (con_cons con_a (con_cons con_a con_nil)))))))))))))) ma_nil)) (me_call0 (sim_law_rules T) (hr.mono (by decide)) rfl T.m_law_rules T.F_law_rules.kp T.b_law_rules) (nomark _)))))))))))))))))))))))⟩) pl
-- level 5
end
local macro_rules | `(tactic| simp! [$xs,*]) => `(tactic| simp [gSeq_e, bE_ok, bE_ex, bE_ite, gNil_e, gC_e, ok_ite, gVar_e, varE_tr, varE_al, gNot_e, nE_ok, nE_ite, gAnd_e, aE_ok, aE_ite, aE_ex, gOrB_e, oE_ok, oE_ite, oE_ex, gIf_e, iE_ok, iE_ite, noEx_e, xE_ok, sSeq_e, bS_nx, bS_rt, bS_bk, bS_ct, bS_ex, bS_ite, sNil_e, sIf_e, iS_ok, iS_ex, iS_ite, sRet_e, rS_ok, rS_ex, rS_ite, sExpr_e, eS_ok, eS_ex, eS_ite, nxO_some, kS_ok, kS_ex, kS_ite, sSet_e, sAsg_e, sSubA_e, sFldS_e, gCall_e, c1_some, c2_some, c3_rt, c3_ex, c3_ite, gMake_e, k1_some, k2_rt, k2_ex, k2_ite, gChain_e, h1_ok, h2_ok, sPar_e, pS2_ok, sPar3_e, pS3_ok, sSubB_e, gCon_e, gK0_e, fKD_e, runF_e, fR_ite, fR_nx, fR_rt, fR_ex, rt_ite, int_ite, bl_ite, nos, fP1, fP2, FI, cT, viewE, kidE, kidX, kid, eff, cp, cpL, esc, escL, fFld, fIxA, fIx, fIxK, gOr, fNew, popN, mkN, fMv, fFrz, outP, Ent.tree, extAll, extAt, argT, resAll, resAt, getG, getT, getP, setG, setT, kill, killR_tr, killR_no, killR_al, killE_tr, killE_no, killE_al, killJ_tr, killJ_no, killJ_al, pre, nbel, chkI, chkL, List.lookup, fAdd, fSub, fDiv, fMod, fLt, fLe, fGt, fGe, cMul, cPos, cDiv, fEq, fNe, FEq_int, FEq_row, FEq_tup, FEq_pair, FEq_mat, FEq_str, FEq_bl, fIn, fNotIn, fInA, fNotInA, FInD, kit_int_int, kit_int_bool, kit_int_str, kit_int_list, kit_int_tuple, kit_int_dict, kit_bool_int, kit_bool_bool, kit_bool_str, kit_bool_list, kit_bool_tuple, kit_bool_dict, kit_str_int, kit_str_bool, kit_str_str, kit_str_list, kit_str_tuple, kit_str_dict, kit_list_int, kit_list_bool, kit_list_str, kit_list_list, kit_list_tuple, kit_list_dict, kit_tuple_int, kit_tuple_bool, kit_tuple_str, kit_tuple_list, kit_tuple_tuple, kit_tuple_dict, kit_dict_int, kit_dict_bool, kit_dict_str, kit_dict_list, kit_dict_tuple, kit_dict_dict, kit_NoneType_int, kit_NoneType_bool, kit_NoneType_str, kit_NoneType_list, kit_NoneType_tuple, kit_NoneType_dict, FIn_l, FIn_t, ixL_1_0, ixL_2_0, ixL_2_1, ixL_3_0, ixL_3_1, ixL_3_2, ixL_4_0, ixL_4_1, ixL_4_2, ixL_4_3, ixL_5_0, ixL_5_1, ixL_5_2, ixL_5_3, ixL_5_4, ixL_6_0, ixL_6_1, ixL_6_2, ixL_6_3, ixL_6_4, ixL_6_5, ixL_7_0, ixL_7_1, ixL_7_2, ixL_7_3, ixL_7_4, ixL_7_5, ixL_7_6, ixL_8_0, ixL_8_1, ixL_8_2, ixL_8_3, ixL_8_4, ixL_8_5, ixL_8_6, ixL_8_7, ixL_9_0, ixL_9_1, ixL_9_2, ixL_9_3, ixL_9_4, ixL_9_5, ixL_9_6, ixL_9_7, ixL_9_8, ixL_10_0, ixL_10_1, ixL_10_2, ixL_10_3, ixL_10_4, ixL_10_5, ixL_10_6, ixL_10_7, ixL_10_8, ixL_10_9, ixL_11_0, ixL_11_1, ixL_11_2, ixL_11_3, ixL_11_4, ixL_11_5, ixL_11_6, ixL_11_7, ixL_11_8, ixL_11_9, ixL_11_10, ixL_12_0, ixL_12_1, ixL_12_2, ixL_12_3, ixL_12_4, ixL_12_5, ixL_12_6, ixL_12_7, ixL_12_8, ixL_12_9, ixL_12_10, ixL_12_11, fIsN, fNotN, FIs, fIsB, FIsB, fIsBV, FIsBV, fNotBV, fNotB, fLen, FLen, fInt, FInt, fIsi, FIsi, tyN, fApp, fPopA, fPop, stSubA, stSub, stSubK, stFld, unpk, unpkT, sTryRe, bindAll, unpkP, sRaise, sRetN, sFAug, sSAug, sAug, fAddI, fSubI, bind, fNeg, FNeg, fTup, fLst, itemsE, kidL, kidL_iT, gClr, sClr, clr, fEqE, FEqE, mapk_iT, kidc_iT, set_iT, set_rowT, -List.map_set, -List.map_append, app_iT, app_map, FS, fCat, -getElem?_pos, List.getElem?_cons_zero, fMvD, fHid, CMul, gDc0, gD0, ready, cpE, fInB, fNotInB, FInT, keyT, keysA, keyOf, stSubB, stSubT, fPut1, fInO, fCon, fRevL, atoms, $xs,*])
local macro_rules | `(tactic| simp! []) => `(tactic| simp [gSeq_e, bE_ok, bE_ex, bE_ite, gNil_e, gC_e, ok_ite, gVar_e, varE_tr, varE_al, gNot_e, nE_ok, nE_ite, gAnd_e, aE_ok, aE_ite, aE_ex, gOrB_e, oE_ok, oE_ite, oE_ex, gIf_e, iE_ok, iE_ite, noEx_e, xE_ok, sSeq_e, bS_nx, bS_rt, bS_bk, bS_ct, bS_ex, bS_ite, sNil_e, sIf_e, iS_ok, iS_ex, iS_ite, sRet_e, rS_ok, rS_ex, rS_ite, sExpr_e, eS_ok, eS_ex, eS_ite, nxO_some, kS_ok, kS_ex, kS_ite, sSet_e, sAsg_e, sSubA_e, sFldS_e, gCall_e, c1_some, c2_some, c3_rt, c3_ex, c3_ite, gMake_e, k1_some, k2_rt, k2_ex, k2_ite, gChain_e, h1_ok, h2_ok, sPar_e, pS2_ok, sPar3_e, pS3_ok, sSubB_e, gCon_e, gK0_e, fKD_e, runF_e, fR_ite, fR_nx, fR_rt, fR_ex, rt_ite, int_ite, bl_ite, nos, fP1, fP2, FI, cT, viewE, kidE, kidX, kid, eff, cp, cpL, esc, escL, fFld, fIxA, fIx, fIxK, gOr, fNew, popN, mkN, fMv, fFrz, outP, Ent.tree, extAll, extAt, argT, resAll, resAt, getG, getT, getP, setG, setT, kill, killR_tr, killR_no, killR_al, killE_tr, killE_no, killE_al, killJ_tr, killJ_no, killJ_al, pre, nbel, chkI, chkL, List.lookup, fAdd, fSub, fDiv, fMod, fLt, fLe, fGt, fGe, cMul, cPos, cDiv, fEq, fNe, FEq_int, FEq_row, FEq_tup, FEq_pair, FEq_mat, FEq_str, FEq_bl, fIn, fNotIn, fInA, fNotInA, FInD, kit_int_int, kit_int_bool, kit_int_str, kit_int_list, kit_int_tuple, kit_int_dict, kit_bool_int, kit_bool_bool, kit_bool_str, kit_bool_list, kit_bool_tuple, kit_bool_dict, kit_str_int, kit_str_bool, kit_str_str, kit_str_list, kit_str_tuple, kit_str_dict, kit_list_int, kit_list_bool, kit_list_str, kit_list_list, kit_list_tuple, kit_list_dict, kit_tuple_int, kit_tuple_bool, kit_tuple_str, kit_tuple_list, kit_tuple_tuple, kit_tuple_dict, kit_dict_int, kit_dict_bool, kit_dict_str, kit_dict_list, kit_dict_tuple, kit_dict_dict, kit_NoneType_int, kit_NoneType_bool, kit_NoneType_str, kit_NoneType_list, kit_NoneType_tuple, kit_NoneType_dict, FIn_l, FIn_t, ixL_1_0, ixL_2_0, ixL_2_1, ixL_3_0, ixL_3_1, ixL_3_2, ixL_4_0, ixL_4_1, ixL_4_2, ixL_4_3, ixL_5_0, ixL_5_1, ixL_5_2, ixL_5_3, ixL_5_4, ixL_6_0, ixL_6_1, ixL_6_2, ixL_6_3, ixL_6_4, ixL_6_5, ixL_7_0, ixL_7_1, ixL_7_2, ixL_7_3, ixL_7_4, ixL_7_5, ixL_7_6, ixL_8_0, ixL_8_1, ixL_8_2, ixL_8_3, ixL_8_4, ixL_8_5, ixL_8_6, ixL_8_7, ixL_9_0, ixL_9_1, ixL_9_2, ixL_9_3, ixL_9_4, ixL_9_5, ixL_9_6, ixL_9_7, ixL_9_8, ixL_10_0, ixL_10_1, ixL_10_2, ixL_10_3, ixL_10_4, ixL_10_5, ixL_10_6, ixL_10_7, ixL_10_8, ixL_10_9, ixL_11_0, ixL_11_1, ixL_11_2, ixL_11_3, ixL_11_4, ixL_11_5, ixL_11_6, ixL_11_7, ixL_11_8, ixL_11_9, ixL_11_10, ixL_12_0, ixL_12_1, ixL_12_2, ixL_12_3, ixL_12_4, ixL_12_5, ixL_12_6, ixL_12_7, ixL_12_8, ixL_12_9, ixL_12_10, ixL_12_11, fIsN, fNotN, FIs, fIsB, FIsB, fIsBV, FIsBV, fNotBV, fNotB, fLen, FLen, fInt, FInt, fIsi, FIsi, tyN, fApp, fPopA, fPop, stSubA, stSub, stSubK, stFld, unpk, unpkT, sTryRe, bindAll, unpkP, sRaise, sRetN, sFAug, sSAug, sAug, fAddI, fSubI, bind, fNeg, FNeg, fTup, fLst, itemsE, kidL, kidL_iT, gClr, sClr, clr, fEqE, FEqE, mapk_iT, kidc_iT, set_iT, set_rowT, -List.map_set, -List.map_append, app_iT, app_map, FS, fCat, -getElem?_pos, List.getElem?_cons_zero, fMvD, fHid, CMul, gDc0, gD0, ready, cpE, fInB, fNotInB, FInT, keyT, keysA, keyOf, stSubB, stSubT, fPut1, fInO, fCon, fRevL, atoms])
/-! books: their rows of names, texts -/
section
variable {neg : Bool} {o : Ow}
abbrev aS (x : Str) : Tr := .a (.str x)
theorem kidL_str : ∀ (xs : List Str), kidL o (xs.map aS) = xs.map aS
  | [] => rfl
  | x :: xs => by rw [List.map_cons, kidL, kidL_str xs]; rfl
theorem cpL_str : ∀ (xs : List Str), cpL (xs.map aS) = true
  | [] => rfl
  | x :: xs => by rw [List.map_cons, cpL, cpL_str xs]; rfl
theorem escL_str : ∀ (xs : List Str), escL (xs.map aS) = true
  | [] => rfl
  | x :: xs => by rw [List.map_cons, escL, escL_str xs]; rfl
theorem inV_str : ∀ (x : Str) (xs : List Str), inV (.str x) (xs.map V.str) = decide (x ∈ xs)
  | x, [] => by simp [inV]
  | x, y :: xs => by
    have ih := inV_str x xs
    simp only [inV, List.map_cons, List.any_cons] at ih ⊢
    rw [ih]
    by_cases h : x = y
    · simp [h, eqV]
    · have h2 : y ≠ x := fun q => h q.symm
      simp [h, h2, eqV]
theorem FIn_ts (x : Str) (xs : List Str) : FIn neg (.a (.str x)) (.nd .tup o (xs.map aS)) = some (.bl (if neg then !decide (x ∈ xs) else decide (x ∈ xs))) := by
  have h1 : atoms (xs.map aS) = some (xs.map V.str) := atoms_map (f := V.str) xs
  have h2 : (xs.map V.str).all flatV = true := by simp [flatV]
  unfold FIn
  simp only [h1]
  rw [if_pos ⟨rfl, h2⟩, inV_str]
theorem FIn_ls (x : Str) (xs : List Str) : FIn neg (.a (.str x)) (.nd .lst o (xs.map aS)) = some (.bl (if neg then !decide (x ∈ xs) else decide (x ∈ xs))) := by
  have h1 : atoms (xs.map aS) = some (xs.map V.str) := atoms_map (f := V.str) xs
  have h2 : (xs.map V.str).all flatV = true := by simp [flatV]
  unfold FIn
  simp only [h1]
  rw [if_pos ⟨rfl, h2⟩, inV_str]
abbrev namesT (ns : List Str) : Tr := .nd .tup .own (ns.map aS)
abbrev bkT (ns : List Str) (num : Int) : Tr := .nd (.ins 1 2) .frz [namesT ns, .a (.int num)]
theorem P_contains (ns : List Str) (num : Int) (x : Str) : G_Book_contains [bkT ns num, aS x] = some (.rt (.a (.bl (decide (x ∈ ns)))) [.any, .any]) := by
  simp! [G_Book_contains, g_Book_contains, kidL_str, FIn_ts]
theorem G_pick {fs : List Int} {n : Int} (hf : Feed fs) (hn : 0 < n) : ∃ c fs', G_law_pick [rowT fs, iT n] = some (.rt (iT c) [rowT fs', .any]) ∧ 0 ≤ c ∧ c < n ∧ Feed fs' := by
  cases fs with
  | nil => exact ⟨0, [], by simp! [G_law_pick, g_law_pick], by omega, hn, hf⟩
  | cons x fs =>
    have h0 := (hf.2 x List.mem_cons_self)
    have hp : seqIndex? 0 (fs.length + 1) = some 0 := by simp [seqIndex?]
    have h1 : ¬ ((fs.length : Int) + 1 = 0) := by omega
    exact ⟨x % n, fs, by simp! [G_law_pick, g_law_pick, hp, hn, h1], Int.emod_nonneg _ (by omega), Int.emod_lt_of_pos _ hn, hf.tail⟩
abbrev RL : List Str := ["copies", "mark", "words", "reuse", "late", "revoke", "lapse", "shelve", "frozen", "wait", "room", "told"]
theorem nodup_RL : RL.Nodup := by decide +kernel
theorem sub_filter {α : Type} [DecidableEq α] {l r : List α} (h : List.Sublist l r) : r.Nodup → r.filter (fun x => decide (x ∈ l)) = l := by
  induction h with
  | slnil => intro _; rfl
  | cons a hs ih =>
    intro hn
    rw [List.nodup_cons] at hn
    rw [List.filter_cons_of_neg (by simpa using fun hm => hn.1 (hs.subset hm))]
    exact ih hn.2
  | cons_cons a hs ih =>
    rename_i l1 l2
    intro hn
    rw [List.nodup_cons] at hn
    rw [List.filter_cons_of_pos (by simp)]
    congr 1
    rw [show l2.filter (fun x => decide (x ∈ a :: l1)) = l2.filter (fun x => decide (x ∈ l1)) from List.filter_congr fun x hx => by
      have : x ≠ a := fun e => hn.1 (e ▸ hx)
      simp [this]]
    exact ih hn.2
theorem sub_len {ns : List Str} (h : List.Sublist ns RL) : ns.length ≤ 12 := h.length_le
abbrev lsT (o : Ow) (ns : List Str) : Tr := .nd .lst o (ns.map aS)
theorem kidc_aS (o : Ow) : kid o ∘ aS = aS := rfl
theorem mapk_aS (o : Ow) (xs : List Str) : (xs.map aS).map (kid o) = xs.map aS := by rw [List.map_map]; rfl
abbrev rlT (o : Ow) : Tr := .nd .tup o [aS "copies", aS "mark", aS "words", aS "reuse", aS "late", aS "revoke", aS "lapse", aS "shelve", aS "frozen", aS "wait", aS "room", aS "told"]
theorem P_law_rules : G_law_rules [] = some (.rt (lsT .own RL) []) := by
  simp! [G_law_rules, g_law_rules]
theorem eqs_all : ∀ xs ys : List Str, PyData.eqvAll (xs.map PyData.str) (ys.map PyData.str) = decide (xs = ys)
  | [], [] => by simp [PyData.eqvAll]
  | [], _ :: _ => by simp [PyData.eqvAll]
  | _ :: _, [] => by simp [PyData.eqvAll]
  | a :: r, b :: t => by
    simp only [List.map_cons, PyData.eqvAll, PyData.eqv, eqs_all r t]
    by_cases h1 : a = b <;> by_cases h2 : r = t <;> simp [h1, h2]
theorem sh_strs {xs : List Str} (h : ∀ x ∈ xs, PyData.strOk x = true) : Sh 1 (.list (xs.map PyData.str)) := .lst fun d hd => by
  obtain ⟨x, hx, rfl⟩ := List.mem_map.mp hd
  exact .str (h x hx)
theorem toD_strs (k : Nk) (hk : k = .lst) {o : Ow} (r : List Str) : toD (.nd .lst o (r.map aS)) = some (.list (r.map .str)) := by
  rw [toD, toDL_map (dd := PyData.str) fun x => rfl]
theorem FEq_strs {neg : Bool} {o o' : Ow} {xs ys : List Str} (hx : ∀ x ∈ xs, PyData.strOk x = true) (hy : ∀ x ∈ ys, PyData.strOk x = true) : FEq neg (.nd .lst o (xs.map aS)) (.nd .lst o' (ys.map aS)) = some (.bl (if neg then !decide (xs = ys) else decide (xs = ys))) := by
  unfold FEq
  simp only [toD_strs .lst rfl, ((sh_strs hx).mono (by decide : 1 ≤ 64)).shaped, ((sh_strs hy).mono (by decide : 1 ≤ 64)).shaped, PyData.eqv, eqs_all, true_and, if_true]
theorem ok_RL : ∀ x ∈ RL, PyData.strOk x = true := by decide +kernel
end
/-! joined texts -/
section
open TL
abbrev jn (L : List Str) : Str := Txt.join " " L
theorem tl_sp : TL.tl (" " : Str) = [32] := by decide +kernel
theorem split_jn {L : List Str} (hne : L ≠ []) (h : ∀ p ∈ L, 32 ∉ TL.tl p) : Txt.split (jn L) " " = L := split_join tl_sp (by decide +kernel) hne h
theorem jn_inj {L M : List Str} (h1 : L ≠ []) (h2 : ∀ p ∈ L, 32 ∉ TL.tl p) (h3 : M ≠ []) (h4 : ∀ p ∈ M, 32 ∉ TL.tl p) (e : jn L = jn M) : L = M := by
  rw [← split_jn h1 h2, e, split_jn h3 h4]
theorem tl_jn (L : List Str) : TL.tl (jn L) = joinL [32] (L.map TL.tl) := by
  rw [jn, join_eq, tl_join, tl_sp]
theorem joinL_cons {S : List Nat} (z : List Nat) {xs : List (List Nat)} (h : xs ≠ []) : joinL S (z :: xs) = z ++ (S ++ joinL S xs) := by
  cases xs with
  | nil => exact absurd rfl h
  | cons x xs => rfl
theorem joinL_app {S : List Nat} : ∀ (xs : List (List Nat)) (z : List Nat), xs ≠ [] → joinL S (xs ++ [z]) = joinL S xs ++ (S ++ z)
  | [], _, h => absurd rfl h
  | [x], z, _ => rfl
  | x :: y :: xs, z, _ => by
    rw [List.cons_append, joinL_cons _ (by simp), joinL_cons _ (by simp), joinL_app (y :: xs) z (by simp)]
    simp only [List.append_assoc]
theorem jn_app {L : List Str} (h : L ≠ []) (z : Str) : jn L ++ " " ++ z = jn (L ++ [z]) := by
  refine ext_tl ?_
  rw [tl_append, tl_append, tl_jn, tl_jn, List.map_append, List.map_singleton, joinL_app _ _ (by simpa using h), tl_sp, List.append_assoc]
theorem jn_cons {L : List Str} (h : L ≠ []) (z : Str) : z ++ " " ++ jn L = jn (z :: L) := by
  refine ext_tl ?_
  rw [tl_append, tl_append, tl_jn, tl_jn, List.map_cons, joinL_cons _ (by simpa using h), tl_sp, List.append_assoc]
theorem app_empty (x : Str) : x ++ ("" : Str) = x := ext_tl (by rw [tl_append]; exact List.append_nil _)
theorem empty_app (x : Str) : ("" : Str) ++ x = x := ext_tl (by rw [tl_append]; rfl)
theorem app_assoc (x y z : Str) : x ++ y ++ z = x ++ (y ++ z) := ext_tl (by rw [tl_append, tl_append, tl_append, tl_append, List.append_assoc])
theorem jn_end {L : List Str} (h : L ≠ []) : jn L ++ " " = jn (L ++ ([""] : List Str)) := by rw [← jn_app h, app_empty]
theorem jn_start {L : List Str} (h : L ≠ []) : " " ++ jn L = jn ("" :: L) := by rw [← jn_cons h, empty_app]
theorem jn_none {L : List Str} (h : L ≠ []) : jn L ++ " none" = jn (L ++ (["none"] : List Str)) := by
  rw [← jn_app h, app_assoc]
  congr 1
theorem jn_last (M : List Str) (z w : Str) : jn (M ++ [z]) ++ w = jn (M ++ [z ++ w]) := by
  refine ext_tl ?_
  cases M with
  | nil =>
    rw [tl_append, tl_jn, tl_jn]
    show TL.tl z ++ TL.tl w = TL.tl (z ++ w)
    rw [tl_append]
  | cons m M =>
    rw [tl_append, tl_jn, tl_jn, List.map_append, List.map_append, List.map_singleton, List.map_singleton, joinL_app _ _ (by simp), joinL_app _ _ (by simp), tl_append]
    simp only [List.append_assoc]
def dbl : List Str → List Str
  | [] => []
  | [x] => [x]
  | x :: y :: r => x :: "" :: dbl (y :: r)
theorem dbl_ne {L : List Str} (h : L ≠ []) : dbl L ≠ [] := by
  match L, h with
  | [x], _ => simp [dbl]
  | x :: y :: r, _ => simp [dbl]
theorem tl_sp2 : TL.tl ("  " : Str) = [32, 32] := by decide +kernel
theorem jn_dbl : ∀ {L : List Str}, Txt.join "  " L = jn (dbl L)
  | [] => rfl
  | [x] => by
    refine ext_tl ?_
    rw [tl_jn, join_eq, tl_join]
    rfl
  | x :: y :: r => by
    refine ext_tl ?_
    have ih := congrArg TL.tl (jn_dbl (L := y :: r))
    rw [tl_jn, join_eq, tl_join, tl_sp2] at ih
    rw [tl_jn, join_eq, tl_join, tl_sp2, List.map_cons, joinL_cons _ (by simp), ih]
    show _ = joinL [32] (TL.tl x :: TL.tl "" :: (dbl (y :: r)).map TL.tl)
    rw [joinL_cons _ (by simp), joinL_cons _ (by simpa using dbl_ne (L := y :: r) (by simp))]
    rfl
theorem dbl_mem : ∀ {L : List Str} {p : Str}, p ∈ dbl L → p ∈ L ∨ p = ""
  | [], p, h => by cases h
  | [x], p, h => .inl h
  | x :: y :: r, p, h => by
    simp only [dbl, List.mem_cons] at h
    rcases h with h | h | h
    · exact .inl (by simp [h])
    · exact .inr h
    · rcases dbl_mem h with h | h
      · exact .inl (List.mem_cons_of_mem _ h)
      · exact .inr h
theorem dbl_len : ∀ L : List Str, (dbl L).length ≤ 2 * L.length
  | [] => by simp [dbl]
  | [x] => by simp [dbl]
  | x :: y :: r => by
    have := dbl_len (y :: r)
    simp only [dbl, List.length_cons] at this ⊢
    omega
/-- short parts without a space -/
def Sm (L : List Str) : Prop := L.length ≤ 40 ∧ ∀ p ∈ L, p.length ≤ 10 ∧ 32 ∉ TL.tl p
theorem Sm.sum {L : List Str} (h : ∀ p ∈ L, p.length ≤ 10) : (L.map (·.length)).sum ≤ 10 * L.length := by
  induction L with
  | nil => simp
  | cons x L ih =>
    have h1 := h x List.mem_cons_self
    have h2 := ih fun p hp => h p (List.mem_cons_of_mem _ hp)
    simp only [List.map_cons, List.sum_cons, List.length_cons]
    omega
theorem Sm.join {L : List Str} (h : Sm L) (s : Str) (hs : s.length ≤ 10) : (L.map (·.length)).sum + L.length * s.length ≤ 16777216 := by
  have h1 := Sm.sum fun p hp => (h.2 p hp).1
  have h2 := h.1
  have h3 : L.length * s.length ≤ 40 * 10 := Nat.mul_le_mul h2 hs
  omega
theorem joinL_len : ∀ xs : List (List Nat), (∀ p ∈ xs, p.length ≤ 10) → (joinL [32] xs).length ≤ 11 * xs.length
  | [], _ => by simp [joinL]
  | [x], h => by
    have := h x List.mem_cons_self
    simp only [joinL, List.length_singleton]
    omega
  | x :: y :: r, h => by
    have h1 := h x List.mem_cons_self
    have h2 := joinL_len (y :: r) fun p hp => h p (List.mem_cons_of_mem _ hp)
    simp only [joinL, List.length_append, List.length_cons, List.length_nil] at h2 ⊢
    omega
theorem Sm.len {L : List Str} (h : Sm L) : (jn L).length ≤ 440 := by
  rw [len_tl, tl_jn]
  have h1 := joinL_len (L.map TL.tl) fun p hp => by
    obtain ⟨x, hx, rfl⟩ := List.mem_map.mp hp
    rw [← len_tl]
    exact (h.2 x hx).1
  have h2 := h.1
  rw [List.length_map] at h1
  omega
theorem Sm.ns {L : List Str} (h : Sm L) : ∀ p ∈ L, 32 ∉ TL.tl p := fun p hp => (h.2 p hp).2
theorem sm_RL : ∀ p ∈ RL, p.length ≤ 10 ∧ 32 ∉ TL.tl p := by decide +kernel
theorem Sm.of {L : List Str} (h : L.length ≤ 40) (h2 : ∀ p ∈ L, p ∈ RL ∨ p.length ≤ 10 ∧ 32 ∉ TL.tl p) : Sm L := ⟨h, fun p hp => by
  rcases h2 p hp with h | h
  · exact sm_RL p h
  · exact h⟩
theorem Sm.sub {L : List Str} (h : List.Sublist L RL) : Sm L := .of (by have := sub_len h; omega) fun p hp => .inl (h.subset hp)
/-- a text that is no book's -/
def BadT (t : Str) : Prop := ∃ L : List Str, t = jn L ∧ L ≠ [] ∧ L ≠ (["none"] : List Str) ∧ Sm L ∧ ¬ List.Sublist L RL
theorem BadT.mk {L : List Str} (h1 : L ≠ []) (h2 : L ≠ (["none"] : List Str)) (h3 : Sm L) (h4 : ¬ List.Sublist L RL) : BadT (jn L) := ⟨L, rfl, h1, h2, h3, h4⟩
theorem no_sub {L : List Str} {x : Str} (h : x ∈ L) (h2 : x ∉ RL) : ¬ List.Sublist L RL := fun z => h2 (z.subset h)
theorem no_filter {L : List Str} (h : RL.filter (fun x => decide (x ∈ L)) ≠ L) : ¬ List.Sublist L RL := fun z => h (sub_filter z nodup_RL)
theorem nd_sub {L : List Str} (h : List.Sublist L RL) : L.Nodup := h.nodup nodup_RL
end
/-! books by their names -/
section
def bits : List Str → Int → List Str
  | [], _ => []
  | x :: r, n => if n % 2 = 1 then x :: bits r (n / 2) else bits r (n / 2)
theorem bits_sub : ∀ (xs : List Str) (n : Int), List.Sublist (bits xs n) xs
  | [], _ => List.Sublist.refl _
  | x :: r, n => by
    unfold bits
    split
    · exact (bits_sub r (n / 2)).cons_cons x
    · exact (bits_sub r (n / 2)).cons x
/-- the number of the rules for which p holds; w: the weight of the next one -/
def nB (p : Str → Bool) : List Str → Int → Int → Int
  | [], _, n => n
  | x :: r, w, n => nB p r (w * 2) (if p x then n + w else n)
theorem nB_congr {p q : Str → Bool} : ∀ (xs : List Str) (w n : Int), (∀ x ∈ xs, p x = q x) → nB p xs w n = nB q xs w n
  | [], _, _, _ => rfl
  | x :: r, w, n, h => by
    unfold nB
    rw [h x List.mem_cons_self]
    exact nB_congr r _ _ fun y hy => h y (List.mem_cons_of_mem _ hy)
def dbN (w : Int) : Nat → Int
  | 0 => w
  | n + 1 => dbN (w * 2) n
theorem dbN_s : ∀ (n : Nat) (w : Int), dbN w (n + 1) = dbN w n * 2
  | 0, _ => rfl
  | n + 1, w => by
    show dbN (w * 2) (n + 1) = dbN (w * 2) n * 2
    exact dbN_s n (w * 2)
theorem dbN_le : ∀ n : Nat, n ≤ 11 → 0 ≤ dbN 1 n ∧ dbN 1 n ≤ 2048 := by decide
theorem nB_app (p : Str → Bool) : ∀ (xs : List Str) (x : Str) (w n : Int), nB p (xs ++ [x]) w n = (if p x then nB p xs w n + dbN w xs.length else nB p xs w n)
  | [], x, w, n => by simp [nB, dbN]
  | y :: r, x, w, n => by
    show nB p (r ++ [x]) (w * 2) _ = _
    rw [nB_app p r x]
    rfl
abbrev prs (xs : List Str) (x : Str) : Bool := decide (x ∈ xs)
abbrev numB (xs : List Str) : Int := nB (prs xs) RL 1 0
theorem P_init_l {xs : List Str} (hR : ∀ x ∈ xs, x ∈ RL) (hl : xs.length ≤ 100000) : G_Book_init [.nd (.ins 1 0) .own [], .nd .lst .lnt (xs.map aS)] = some (.rt (.a .non) [.nd (.ins 1 2) .own [namesT (RL.filter fun x => decide (x ∈ xs)), .a (.int (numB xs))], .any]) := by
  obtain ⟨Γ1, ⟨e1, n1, rfl⟩, h1⟩ := loopE_pre (gs := b_Book_init_1) (bd := bind md_Book_init 2) (s := []) (xs := xs) (enc := aS) (.tr (.nd .lst .lnt (xs.map aS))) .lst .lnt
    (fun p Γ => ∃ (e2 : Ent), Nal e2 ∧ Γ = [.tr (.nd (.ins 1 0) .own []), .tr (.nd .lst .lnt (xs.map aS)), e2, .no, .no, .no])
    (fun p Γ ⟨_, _, e⟩ => by rw [e]; rfl) rfl (fun x _ => rfl) (Γ := [.tr (.nd (.ins 1 0) .own []), .tr (.nd .lst .lnt (xs.map aS)), .no, .no, .no, .no])
    (by
      rintro p x q Γ hx ⟨e2, n2, rfl⟩
      have hx : x ∈ RL := hR x (by rw [hx]; simp)
      have hf : FIn true (aS x) (rlT .frz) = some (.bl false) := (FIn_ts (neg := true) (o := .frz) x RL).trans (by rw [decide_eq_true hx]; rfl)
      have hf2 : FIn true (aS x) (rlT .own) = some (.bl false) := (FIn_ts (neg := true) (o := .own) x RL).trans (by rw [decide_eq_true hx]; rfl)
      refine ⟨_, _, by simp! [n2.kr]; rfl, ⟨.tr (aS x), nal_tr, rfl⟩, .inl ?_⟩
      simp! [b_Book_init_1, hf, hf2])
    ⟨.no, nal_no, rfl⟩
  obtain ⟨Γ', ⟨e2, n2, rfl⟩, h2⟩ := loopE_pre (gs := b_Book_init_2) (bd := bind md_Book_init 2) (s := []) (xs := RL) (enc := aS) (.tr (rlT .own)) .tup .own
    (fun p Γ => ∃ (e2 : Ent), Nal e2 ∧ Γ = [.tr (.nd (.ins 1 0) .own []), .tr (.nd .lst .lnt (xs.map aS)), e2, .tr (lsT .own (p.filter fun x => decide (x ∈ xs))), .tr (.a (.int (nB (prs xs) p 1 0))), .tr (.a (.int (dbN 1 p.length)))])
    (fun p Γ ⟨_, _, e⟩ => by rw [e]; rfl) rfl (fun x _ => rfl) (Γ := [.tr (.nd (.ins 1 0) .own []), .tr (.nd .lst .lnt (xs.map aS)), e1, .tr (lsT .own []), .tr (.a (.int 0)), .tr (.a (.int 1))])
    (by
      rintro p x q Γ hx ⟨e2, n2, rfl⟩
      have hl : p.length ≤ 11 := by have := congrArg List.length hx; simp at this; omega
      have hw := dbN_le p.length hl
      have hm : cMul (dbN 1 p.length) 2 = true := decide_eq_true (by unfold CMul; omega)
      have hp : (p.filter fun x => decide (x ∈ xs)).length < sizeLine := by
        have := List.length_filter_le (fun x => decide (x ∈ xs)) p
        have : (100000 : Nat) < sizeLine := by decide
        omega
      have w2 : dbN 1 (p ++ [x]).length = dbN 1 p.length * 2 := by
        rw [List.length_append, List.length_singleton, dbN_s]
      have hnb := nB_app (prs xs) p x 1 0
      rw [List.filter_append, hnb, w2]
      generalize dbN 1 p.length = wt at *
      generalize nB (prs xs) p 1 0 = num at *
      generalize p.filter (fun x => decide (x ∈ xs)) = acc at hp
      by_cases z : x ∈ xs
      · refine ⟨_, _, by simp! [n2.kr]; rfl, ⟨.tr (aS x), nal_tr, rfl⟩, .inl ?_⟩
        simp! [b_Book_init_2, FIn_ls, z, hp, fMul_int hm]
        rw [List.map_append]
        rfl
      · refine ⟨_, _, by simp! [n2.kr]; rfl, ⟨.tr (aS x), nal_tr, rfl⟩, .inl ?_⟩
        simp! [b_Book_init_2, FIn_ls, z, fMul_int hm])
    ⟨e1, n1, rfl⟩
  have h2 : loopE .tup (bind md_Book_init 2) b_Book_init_2 12 0 ⟨[.tr (.nd (.ins 1 0) .own []), .tr (.nd .lst .lnt (xs.map aS)), e1, .tr (.nd .lst .own []), .tr (.a (.int 0)), .tr (.a (.int 1))], [.tr (rlT .own)]⟩ = _ := h2
  rw [show numB xs = nB (prs xs) RL 1 0 from rfl]
  generalize (RL.filter fun x => decide (x ∈ xs)) = R at *
  generalize nB (prs xs) RL 1 0 = N at *
  have hk := kidL_str (o := .lnt) xs
  have hk2 := kidL_str (o := .own) xs
  simp! [G_Book_init, g_Book_init, sFor, h1, h2, n1.kr, n2.kr, kidc_aS, cpL_str, escL_str, hk, hk2]
theorem P_init_t {xs : List Str} (hR : ∀ x ∈ xs, x ∈ RL) (hl : xs.length ≤ 100000) : G_Book_init [.nd (.ins 1 0) .own [], .nd .tup .own (xs.map aS)] = some (.rt (.a .non) [.nd (.ins 1 2) .own [namesT (RL.filter fun x => decide (x ∈ xs)), .a (.int (numB xs))], .any]) := by
  obtain ⟨Γ1, ⟨e1, n1, rfl⟩, h1⟩ := loopE_pre (gs := b_Book_init_1) (bd := bind md_Book_init 2) (s := []) (xs := xs) (enc := aS) (.tr (.nd .tup .own (xs.map aS))) .tup .own
    (fun p Γ => ∃ (e2 : Ent), Nal e2 ∧ Γ = [.tr (.nd (.ins 1 0) .own []), .tr (.nd .tup .own (xs.map aS)), e2, .no, .no, .no])
    (fun p Γ ⟨_, _, e⟩ => by rw [e]; rfl) (cpL_str xs) (fun x _ => rfl) (Γ := [.tr (.nd (.ins 1 0) .own []), .tr (.nd .tup .own (xs.map aS)), .no, .no, .no, .no])
    (by
      rintro p x q Γ hx ⟨e2, n2, rfl⟩
      have hx : x ∈ RL := hR x (by rw [hx]; simp)
      have hf : FIn true (aS x) (rlT .frz) = some (.bl false) := (FIn_ts (neg := true) (o := .frz) x RL).trans (by rw [decide_eq_true hx]; rfl)
      have hf2 : FIn true (aS x) (rlT .own) = some (.bl false) := (FIn_ts (neg := true) (o := .own) x RL).trans (by rw [decide_eq_true hx]; rfl)
      refine ⟨_, _, by simp! [n2.kr]; rfl, ⟨.tr (aS x), nal_tr, rfl⟩, .inl ?_⟩
      simp! [b_Book_init_1, hf, hf2])
    ⟨.no, nal_no, rfl⟩
  obtain ⟨Γ', ⟨e2, n2, rfl⟩, h2⟩ := loopE_pre (gs := b_Book_init_2) (bd := bind md_Book_init 2) (s := []) (xs := RL) (enc := aS) (.tr (rlT .own)) .tup .own
    (fun p Γ => ∃ (e2 : Ent), Nal e2 ∧ Γ = [.tr (.nd (.ins 1 0) .own []), .tr (.nd .tup .own (xs.map aS)), e2, .tr (lsT .own (p.filter fun x => decide (x ∈ xs))), .tr (.a (.int (nB (prs xs) p 1 0))), .tr (.a (.int (dbN 1 p.length)))])
    (fun p Γ ⟨_, _, e⟩ => by rw [e]; rfl) rfl (fun x _ => rfl) (Γ := [.tr (.nd (.ins 1 0) .own []), .tr (.nd .tup .own (xs.map aS)), e1, .tr (lsT .own []), .tr (.a (.int 0)), .tr (.a (.int 1))])
    (by
      rintro p x q Γ hx ⟨e2, n2, rfl⟩
      have hl : p.length ≤ 11 := by have := congrArg List.length hx; simp at this; omega
      have hw := dbN_le p.length hl
      have hm : cMul (dbN 1 p.length) 2 = true := decide_eq_true (by unfold CMul; omega)
      have hp : (p.filter fun x => decide (x ∈ xs)).length < sizeLine := by
        have := List.length_filter_le (fun x => decide (x ∈ xs)) p
        have : (100000 : Nat) < sizeLine := by decide
        omega
      have w2 : dbN 1 (p ++ [x]).length = dbN 1 p.length * 2 := by
        rw [List.length_append, List.length_singleton, dbN_s]
      have hnb := nB_app (prs xs) p x 1 0
      rw [List.filter_append, hnb, w2]
      generalize dbN 1 p.length = wt at *
      generalize nB (prs xs) p 1 0 = num at *
      generalize p.filter (fun x => decide (x ∈ xs)) = acc at hp
      by_cases z : x ∈ xs
      · refine ⟨_, _, by simp! [n2.kr]; rfl, ⟨.tr (aS x), nal_tr, rfl⟩, .inl ?_⟩
        simp! [b_Book_init_2, FIn_ts, z, hp, fMul_int hm, cpL_str]
        rw [List.map_append]
        rfl
      · refine ⟨_, _, by simp! [n2.kr]; rfl, ⟨.tr (aS x), nal_tr, rfl⟩, .inl ?_⟩
        simp! [b_Book_init_2, FIn_ts, z, fMul_int hm, cpL_str])
    ⟨e1, n1, rfl⟩
  have h2 : loopE .tup (bind md_Book_init 2) b_Book_init_2 12 0 ⟨[.tr (.nd (.ins 1 0) .own []), .tr (.nd .tup .own (xs.map aS)), e1, .tr (.nd .lst .own []), .tr (.a (.int 0)), .tr (.a (.int 1))], [.tr (rlT .own)]⟩ = _ := h2
  rw [show numB xs = nB (prs xs) RL 1 0 from rfl]
  generalize (RL.filter fun x => decide (x ∈ xs)) = R at *
  generalize nB (prs xs) RL 1 0 = N at *
  have hk := kidL_str (o := .lnt) xs
  have hk2 := kidL_str (o := .own) xs
  simp! [G_Book_init, g_Book_init, sFor, h1, h2, n1.kr, n2.kr, kidc_aS, cpL_str, escL_str, hk, hk2]
theorem P_init_bad {xs : List Str} (h : ∃ x ∈ xs, x ∉ RL) : ∃ rest, G_Book_init [.nd (.ins 1 0) .own [], lsT .lnt xs] = some (.ex 0 rest) := by
  obtain ⟨oo, h1, y, rfl⟩ := loopE_go (k := .lst) (bd := bind md_Book_init 2) (gs := b_Book_init_1) (n := xs.length)
    (I := fun j m => (∀ x ∈ xs.take j, x ∈ RL) ∧ ∃ e2, Nal e2 ∧ m = ⟨[.tr (.nd (.ins 1 0) .own []), .tr (lsT .lnt xs), e2, .no, .no, .no], [.tr (lsT .lnt xs)]⟩)
    (Q := fun oo => ∃ y : Str, oo = .ex 0 [.tr (.nd (.ins 1 0) .own []), .tr (lsT .lnt xs), .tr (aS y), .no, .no, .no])
    (by
      rintro m ⟨hR, e2, n2, rfl⟩
      obtain ⟨x, hx, hn⟩ := h
      rw [List.take_length] at hR
      exact absurd (hR x hx) hn)
    (by
      rintro j m hj ⟨hR, e2, n2, rfl⟩
      have hk : kidX (.tr (lsT .lnt xs)) .lst .lnt (xs.map aS) j = some (.tr (aS xs[j])) := by
        unfold kidX
        simp only [List.getElem?_map, List.getElem?_eq_getElem hj, Option.map_some]
        rfl
      have hb : bind md_Book_init 2 ⟨[.tr (.nd (.ins 1 0) .own []), .tr (lsT .lnt xs), e2, .no, .no, .no], .tr (aS xs[j]) :: .tr (lsT .lnt xs) :: []⟩ = some ⟨[.tr (.nd (.ins 1 0) .own []), .tr (lsT .lnt xs), .tr (aS xs[j]), .no, .no, .no], [.tr (lsT .lnt xs)]⟩ := by
        simp! [n2.kr]
      by_cases z : xs[j] ∈ RL
      · have hf : FIn true (aS xs[j]) (rlT .frz) = some (.bl false) := (FIn_ts (neg := true) (o := .frz) xs[j] RL).trans (by rw [decide_eq_true z]; rfl)
        refine ⟨.tr (lsT .lnt xs), [], .lnt, xs.map aS, _, _, .nx ⟨[.tr (.nd (.ins 1 0) .own []), .tr (lsT .lnt xs), .tr (aS xs[j]), .no, .no, .no], [.tr (lsT .lnt xs)]⟩, rfl, rfl, rfl, by simp, hk, hb, by simp! [b_Book_init_1, hf], ?_, _, nal_tr, rfl⟩
        intro x hx
        rw [List.take_succ_eq_append_getElem hj] at hx
        rcases List.mem_append.mp hx with hx | hx
        · exact hR x hx
        · rw [List.mem_singleton.mp hx]
          exact z
      · have hf : FIn true (aS xs[j]) (rlT .frz) = some (.bl true) := (FIn_ts (neg := true) (o := .frz) xs[j] RL).trans (by rw [decide_eq_false z]; rfl)
        exact ⟨.tr (lsT .lnt xs), [], .lnt, xs.map aS, _, _, .ex 0 [.tr (.nd (.ins 1 0) .own []), .tr (lsT .lnt xs), .tr (aS xs[j]), .no, .no, .no], rfl, rfl, rfl, by simp, hk, hb, by simp! [b_Book_init_1, hf], _, rfl⟩)
    xs.length 0 ⟨[.tr (.nd (.ins 1 0) .own []), .tr (lsT .lnt xs), .no, .no, .no, .no], [.tr (lsT .lnt xs)]⟩ (by omega) ⟨fun x hx => by simp at hx, .no, nal_no, rfl⟩
  have h1 : loopE .lst (bind md_Book_init 2) b_Book_init_1 xs.length 0 ⟨[.tr (.nd (.ins 1 0) .own []), .tr (lsT .lnt xs), .no, .no, .no, .no], [.tr (lsT .lnt xs)]⟩ = some (.ex 0 [.tr (.nd (.ins 1 0) .own []), .tr (lsT .lnt xs), .tr (aS y), .no, .no, .no]) := h1
  simp! [G_Book_init, g_Book_init, sFor, h1, kidc_aS]
end
/-! texts of books, read back -/
section
theorem filter_of {xs : List Str} (h : ∀ x ∈ xs, x ∈ RL) : List.Sublist (RL.filter fun x => decide (x ∈ xs)) RL := List.filter_sublist
def txt (ns : List Str) : Str := if ns = [] then "none" else jn ns
theorem ne_len {ns : List Str} : ((ns.length : Int) = 0) ↔ ns = [] := by
  rw [← List.length_eq_zero_iff]
  omega
theorem P_text {ns : List Str} (h : List.Sublist ns RL) (num : Int) : G_Book_text [bkT ns num] = some (.rt (aS (txt ns)) [.any]) := by
  have hj := FJoin_t " " .own ns (Sm.join (Sm.sub h) " " (by decide +kernel))
  have hk := kidL_str (o := .frz) ns
  have hc := cpL_str ns
  unfold txt
  by_cases z : ns = []
  · subst z
    simp! [G_Book_text, g_Book_text]
  · simp! [G_Book_text, g_Book_text, fJoin, hj, hk, hc, chkS, z, ne_len]
theorem jn_ne_none {L : List Str} (h1 : L ≠ []) (h2 : L ≠ (["none"] : List Str)) (h3 : Sm L) : jn L ≠ "none" := fun e => h2 (jn_inj h1 h3.ns (M := ["none"]) (by simp) (by decide +kernel) (e.trans (by decide +kernel)))
theorem ns_ne_none {ns : List Str} (h : List.Sublist ns RL) : ns ≠ (["none"] : List Str) := fun e => by
  have := h.subset (show ("none" : Str) ∈ ns by rw [e]; simp)
  revert this
  decide +kernel
theorem rd_turn {T : Tr} {L : List Str} {x : Str} {s : List Ent} (h : x ∈ RL) : b_Book_read_1 ⟨[.tr T, .tr (lsT .own L), .tr (aS x), .no], s⟩ = some (.nx ⟨[.tr T, .tr (lsT .own L), .tr (aS x), .no], s⟩) := by
  have hf : FIn true (aS x) (rlT .frz) = some (.bl false) := (FIn_ts (neg := true) (o := .frz) x RL).trans (by rw [decide_eq_true h]; rfl)
  have hf2 : FIn true (aS x) (rlT .own) = some (.bl false) := (FIn_ts (neg := true) (o := .own) x RL).trans (by rw [decide_eq_true h]; rfl)
  simp! [b_Book_read_1, hf, hf2]
theorem rd_bad {T : Tr} {L : List Str} {x : Str} {s : List Ent} (h : x ∉ RL) : b_Book_read_1 ⟨[.tr T, .tr (lsT .own L), .tr (aS x), .no], s⟩ = some (.ex 1 [.tr T, .tr (lsT .own L), .tr (aS x), .no]) := by
  have hf : FIn true (aS x) (rlT .frz) = some (.bl true) := (FIn_ts (neg := true) (o := .frz) x RL).trans (by rw [decide_eq_false h]; rfl)
  have hf2 : FIn true (aS x) (rlT .own) = some (.bl true) := (FIn_ts (neg := true) (o := .own) x RL).trans (by rw [decide_eq_false h]; rfl)
  simp! [b_Book_read_1, hf, hf2]
/-- the names of a text, looked at one by one -/
theorem rd_loop (T : Tr) (L : List Str) : ((∀ x ∈ L, x ∈ RL) → ∃ e2, Nal e2 ∧ loopE .lst (bind md_Book_read 2) b_Book_read_1 L.length 0 ⟨[.tr T, .tr (lsT .own L), .no, .no], [.al [1]]⟩ = some (.nx ⟨[.tr T, .tr (lsT .own L), e2, .no], []⟩)) ∧
    ((∃ x ∈ L, x ∉ RL) → ∃ y : Str, loopE .lst (bind md_Book_read 2) b_Book_read_1 L.length 0 ⟨[.tr T, .tr (lsT .own L), .no, .no], [.al [1]]⟩ = some (.ex 1 [.tr T, .tr (lsT .own L), .tr (aS y), .no])) := by
  obtain ⟨oo, h1, h2⟩ := loopE_go (k := .lst) (bd := bind md_Book_read 2) (gs := b_Book_read_1) (n := L.length)
    (I := fun j m => (∀ x ∈ L.take j, x ∈ RL) ∧ ∃ e2, Nal e2 ∧ m = ⟨[.tr T, .tr (lsT .own L), e2, .no], [.al [1]]⟩)
    (Q := fun oo => ((∀ x ∈ L, x ∈ RL) ∧ ∃ e2, Nal e2 ∧ oo = .nx ⟨[.tr T, .tr (lsT .own L), e2, .no], []⟩) ∨ ((∃ x ∈ L, x ∉ RL) ∧ ∃ y : Str, oo = .ex 1 [.tr T, .tr (lsT .own L), .tr (aS y), .no]))
    (by
      rintro m ⟨hR, e2, n2, rfl⟩
      rw [List.take_length] at hR
      exact ⟨.al [1], [], .own, L.map aS, rfl, rfl, by simp, .inl ⟨hR, e2, n2, rfl⟩⟩)
    (by
      rintro j m hj ⟨hR, e2, n2, rfl⟩
      have hk : kidX (.al [1]) .lst .own (L.map aS) j = some (.tr (aS L[j])) := by
        unfold kidX
        simp only [List.getElem?_map, List.getElem?_eq_getElem hj, Option.map_some]
        rfl
      have hb : bind md_Book_read 2 ⟨[.tr T, .tr (lsT .own L), e2, .no], .tr (aS L[j]) :: .al [1] :: []⟩ = some ⟨[.tr T, .tr (lsT .own L), .tr (aS L[j]), .no], [.al [1]]⟩ := by
        simp! [n2.kr]
      by_cases z : L[j] ∈ RL
      · refine ⟨.al [1], [], .own, L.map aS, _, _, .nx ⟨[.tr T, .tr (lsT .own L), .tr (aS L[j]), .no], [.al [1]]⟩, rfl, rfl, rfl, by simp, hk, hb, rd_turn z, ?_, _, nal_tr, rfl⟩
        intro x hx
        rw [List.take_succ_eq_append_getElem hj] at hx
        rcases List.mem_append.mp hx with hx | hx
        · exact hR x hx
        · rw [List.mem_singleton.mp hx]
          exact z
      · exact ⟨.al [1], [], .own, L.map aS, _, _, .ex 1 [.tr T, .tr (lsT .own L), .tr (aS L[j]), .no], rfl, rfl, rfl, by simp, hk, hb, rd_bad z, .inr ⟨⟨_, List.getElem_mem hj, z⟩, _, rfl⟩⟩)
    L.length 0 ⟨[.tr T, .tr (lsT .own L), .no, .no], [.al [1]]⟩ (by omega) ⟨fun x hx => by simp at hx, .no, nal_no, rfl⟩
  rcases h2 with ⟨h2, e2, n2, rfl⟩ | ⟨h2, y, rfl⟩
  · exact ⟨fun _ => ⟨e2, n2, h1⟩, fun ⟨x, hx, hn⟩ => absurd (h2 x hx) hn⟩
  · refine ⟨fun h3 => ?_, fun _ => ⟨y, h1⟩⟩
    obtain ⟨x, hx, hn⟩ := h2
    exact absurd (h3 x hx) hn
theorem P_read_good {ns : List Str} (h : List.Sublist ns RL) : G_Book_read [aS (txt ns)] = some (.rt (bkT ns (numB ns)) [.any]) := by
  by_cases z : ns = []
  · subst z
    have hi := P_init_t (xs := []) (fun x hx => by cases hx) (by simp)
    have hi : G_Book_init [.nd (.ins 1 0) .own [], .nd .tup .own []] = some (.rt (.a .non) [.nd (.ins 1 2) .own [.nd .tup .own [], .a (.int (numB []))], .any]) := hi
    simp! [G_Book_read, g_Book_read, txt, hi]
  · have hs := split_jn z (Sm.sub h).ns
    have hn := jn_ne_none z (ns_ne_none h) (Sm.sub h)
    have hlen := (Sm.sub h).len
    have hl := sub_len h
    have ht := P_text h (numB ns)
    have hi := P_init_l (xs := ns) (fun x hx => h.subset hx) (by omega)
    rw [sub_filter h nodup_RL] at hi
    have hb : txt ns = jn ns := if_neg z
    rw [hb] at ht ⊢
    obtain ⟨e2, n2, h1⟩ := (rd_loop (aS (jn ns)) ns).1 fun x hx => h.subset hx
    have hk := kidL_str (o := .frz) ns
    have hk2 := mapk_aS .lnt ns
    have hspl : fSplit ⟨[.tr (aS (jn ns)), .no, .no, .no], [.tr (aS " "), .tr (aS (jn ns))]⟩ = some (.ok ⟨[.tr (aS (jn ns)), .no, .no, .no], [.tr (lsT .own ns)]⟩) := by
      unfold fSplit
      simp only
      rw [if_pos ⟨by decide +kernel, by omega⟩, hs]
    generalize jn ns = J at *
    simp! [G_Book_read, g_Book_read, hn, chkS, hspl, sFor, h1, hi, ht, hk, hk2, kidc_aS, cpL_str, n2.kr, n2.ke]
theorem P_read_bad {t : Str} (h : BadT t) : ∃ rest, G_Book_read [aS t] = some (.ex 1 rest) := by
  obtain ⟨L, rfl, hne, hno, hsm, hsub⟩ := h
  have hs := split_jn hne hsm.ns
  have hn := jn_ne_none hne hno hsm
  have hlen := hsm.len
  have hl := hsm.1
  have hspl : fSplit ⟨[.tr (aS (jn L)), .no, .no, .no], [.tr (aS " "), .tr (aS (jn L))]⟩ = some (.ok ⟨[.tr (aS (jn L)), .no, .no, .no], [.tr (lsT .own L)]⟩) := by
    unfold fSplit
    simp only
    rw [if_pos ⟨by decide +kernel, by omega⟩, hs]
  by_cases z : ∃ x ∈ L, x ∉ RL
  · obtain ⟨y, h1⟩ := (rd_loop (aS (jn L)) L).2 z
    generalize jn L = J at *
    simp! [G_Book_read, g_Book_read, hn, chkS, hspl, sFor, h1, kidc_aS]
  · have hR : ∀ x ∈ L, x ∈ RL := fun x hx => Classical.byContradiction fun q => z ⟨x, hx, q⟩
    obtain ⟨e2, n2, h1⟩ := (rd_loop (aS (jn L)) L).1 hR
    have hi := P_init_l (xs := L) hR (by omega)
    have hf := filter_of hR
    have ht := P_text hf (numB L)
    have hM : RL.filter (fun x => decide (x ∈ L)) ≠ [] := fun e => by
      obtain ⟨x, hx⟩ := List.exists_mem_of_ne_nil L hne
      have : x ∈ RL.filter (fun x => decide (x ∈ L)) := List.mem_filter.mpr ⟨hR x hx, decide_eq_true hx⟩
      rw [e] at this
      cases this
    have htx : txt (RL.filter fun x => decide (x ∈ L)) = jn (RL.filter fun x => decide (x ∈ L)) := if_neg hM
    have hd : jn (RL.filter fun x => decide (x ∈ L)) ≠ jn L := fun e => hsub (by
      have := jn_inj hM (Sm.sub hf).ns hne hsm.ns e
      rw [← this]
      exact hf)
    rw [htx] at ht
    have hk2 := mapk_aS .lnt L
    generalize (RL.filter fun x => decide (x ∈ L)) = R at *
    have hk := kidL_str (o := .frz) R
    generalize jn L = J at *
    generalize jn R = J2 at *
    simp! [G_Book_read, g_Book_read, hn, chkS, hspl, sFor, h1, hi, ht, hd, hk, hk2, kidc_aS, cpL_str, n2.kr, n2.ke]
end
/-! the law's helpers -/
section
def dvN (n : Int) : Nat → Int
  | 0 => n
  | k + 1 => dvN (n / 2) k
theorem dvN_s : ∀ (k : Nat) (n : Int), dvN n (k + 1) = dvN n k / 2
  | 0, _ => rfl
  | k + 1, n => by
    show dvN (n / 2) (k + 1) = dvN (n / 2) k / 2
    exact dvN_s k (n / 2)
theorem bits_app : ∀ (xs : List Str) (x : Str) (n : Int), bits (xs ++ [x]) n = if dvN n xs.length % 2 = 1 then bits xs n ++ [x] else bits xs n
  | [], x, n => by simp [bits, dvN]
  | y :: r, x, n => by
    show bits (y :: (r ++ [x])) n = _
    unfold bits
    rw [bits_app r x]
    show _ = if dvN (n / 2) r.length % 2 = 1 then _ else _
    split <;> split <;> rfl
theorem P_law_names (n : Int) : G_law_names [.a (.int n)] = some (.rt (lsT .own (bits RL n)) [.any]) := by
  obtain ⟨Γ', ⟨e3, n3, rfl⟩, h2⟩ := loopE_pre (gs := b_law_names_1) (bd := bind md_law_names 3) (s := []) (xs := RL) (enc := aS) (.tr (lsT .lnt RL)) .lst .lnt
    (fun p Γ => ∃ e3 : Ent, Nal e3 ∧ Γ = [.tr (.a (.int n)), .tr (lsT .own (bits p n)), .tr (.a (.int (dvN n p.length))), e3])
    (fun p Γ ⟨_, _, e⟩ => by rw [e]; rfl) rfl (fun x _ => rfl) (Γ := [.tr (.a (.int n)), .tr (lsT .own []), .tr (.a (.int n)), .no])
    (by
      rintro p x q Γ hx ⟨e3, n3, rfl⟩
      have hp : (bits p n).length < sizeLine := by
        have h100 : (100000 : Nat) < sizeLine := by decide
        have := (bits_sub p n).length_le
        have := congrArg List.length hx
        simp at this
        omega
      rw [List.length_append, List.length_singleton, dvN_s, bits_app]
      generalize bits p n = acc at *
      generalize dvN n p.length = rest at *
      by_cases z : rest % 2 = 1
      · refine ⟨_, _, by simp! [n3.kr]; rfl, ⟨.tr (aS x), nal_tr, rfl⟩, .inl ?_⟩
        simp! [b_law_names_1, z, hp]
        rw [List.map_append]
        rfl
      · refine ⟨_, _, by simp! [n3.kr]; rfl, ⟨.tr (aS x), nal_tr, rfl⟩, .inl ?_⟩
        simp! [b_law_names_1, z])
    ⟨.no, nal_no, rfl⟩
  have h2 : loopE .lst (bind md_law_names 3) b_law_names_1 12 0 ⟨[.tr (.a (.int n)), .tr (.nd .lst .own []), .tr (.a (.int n)), .no], [.tr (.nd .lst .lnt [aS "copies", aS "mark", aS "words", aS "reuse", aS "late", aS "revoke", aS "lapse", aS "shelve", aS "frozen", aS "wait", aS "room", aS "told"])]⟩ = _ := h2
  generalize bits RL n = R at *
  simp! [G_law_names, g_law_names, P_law_rules, sFor, h2, escL_str]
theorem P_of_number {n : Int} (h0 : 0 ≤ n) (h1 : n < 4096) : G_Book_of_number [.a (.int n)] = some (.rt (bkT (bits RL n) (numB (bits RL n))) [.any]) := by
  obtain ⟨Γ', ⟨e3, n3, rfl⟩, h2⟩ := loopE_pre (gs := b_Book_of_number_1) (bd := bind md_Book_of_number 3) (s := []) (xs := RL) (enc := aS) (.tr (rlT .own)) .tup .own
    (fun p Γ => ∃ e3 : Ent, Nal e3 ∧ Γ = [.tr (.a (.int n)), .tr (lsT .own (bits p n)), .tr (.a (.int (dvN n p.length))), e3])
    (fun p Γ ⟨_, _, e⟩ => by rw [e]; rfl) rfl (fun x _ => rfl) (Γ := [.tr (.a (.int n)), .tr (lsT .own []), .tr (.a (.int n)), .no])
    (by
      rintro p x q Γ hx ⟨e3, n3, rfl⟩
      have hp : (bits p n).length < sizeLine := by
        have h100 : (100000 : Nat) < sizeLine := by decide
        have := (bits_sub p n).length_le
        have := congrArg List.length hx
        simp at this
        omega
      rw [List.length_append, List.length_singleton, dvN_s, bits_app]
      generalize bits p n = acc at *
      generalize dvN n p.length = rest at *
      by_cases z : rest % 2 = 1
      · refine ⟨_, _, by simp! [n3.kr]; rfl, ⟨.tr (aS x), nal_tr, rfl⟩, .inl ?_⟩
        simp! [b_Book_of_number_1, z, hp]
        rw [List.map_append]
        rfl
      · refine ⟨_, _, by simp! [n3.kr]; rfl, ⟨.tr (aS x), nal_tr, rfl⟩, .inl ?_⟩
        simp! [b_Book_of_number_1, z])
    ⟨.no, nal_no, rfl⟩
  have h2 : loopE .tup (bind md_Book_of_number 3) b_Book_of_number_1 12 0 ⟨[.tr (.a (.int n)), .tr (.nd .lst .own []), .tr (.a (.int n)), .no], [.tr (rlT .own)]⟩ = _ := h2
  have hs := bits_sub RL n
  have hi := P_init_l (xs := bits RL n) (fun x hx => hs.subset hx) (by have := sub_len hs; omega)
  rw [sub_filter hs nodup_RL] at hi
  have hk := kidL_str (o := .frz) (bits RL n)
  generalize numB (bits RL n) = N at *
  generalize bits RL n = R at *
  simp! [G_Book_of_number, g_Book_of_number, sFor, h0, h1, h2, hi, hk, kidc_aS, escL_str, cpL_str]
theorem P_of_bad {n : Int} (h : n < 0 ∨ 4096 ≤ n) : ∃ rest, G_Book_of_number [.a (.int n)] = some (.ex 0 rest) := by
  by_cases z : 0 ≤ n
  · have z2 : ¬ n < 4096 := by omega
    simp! [G_Book_of_number, g_Book_of_number, z, z2]
  · simp! [G_Book_of_number, g_Book_of_number, z]
theorem P_law_number (ns : List Str) : G_law_number [lsT .lnt ns] = some (.rt (.a (.int (numB ns))) [.any]) := by
  obtain ⟨Γ', ⟨e3, n3, rfl⟩, h2⟩ := loopE_pre (gs := b_law_number_1) (bd := bind md_law_number 3) (s := []) (xs := RL) (enc := aS) (.tr (lsT .lnt RL)) .lst .lnt
    (fun p Γ => ∃ e3 : Ent, Nal e3 ∧ Γ = [.tr (lsT .lnt ns), .tr (.a (.int (nB (prs ns) p 1 0))), .tr (.a (.int (dbN 1 p.length))), e3])
    (fun p Γ ⟨_, _, e⟩ => by rw [e]; rfl) rfl (fun x _ => rfl) (Γ := [.tr (lsT .lnt ns), .tr (.a (.int 0)), .tr (.a (.int 1)), .no])
    (by
      rintro p x q Γ hx ⟨e3, n3, rfl⟩
      have hl : p.length ≤ 11 := by have := congrArg List.length hx; simp at this; omega
      have hw := dbN_le p.length hl
      have hm : cMul (dbN 1 p.length) 2 = true := decide_eq_true (by unfold CMul; omega)
      rw [List.length_append, List.length_singleton, dbN_s, nB_app (prs ns) p x 1 0]
      generalize dbN 1 p.length = wt at *
      generalize nB (prs ns) p 1 0 = num at *
      by_cases z : x ∈ ns
      · refine ⟨_, _, by simp! [n3.kr]; rfl, ⟨.tr (aS x), nal_tr, rfl⟩, .inl ?_⟩
        simp! [b_law_number_1, FIn_ls, z, fMul_int hm]
      · refine ⟨_, _, by simp! [n3.kr]; rfl, ⟨.tr (aS x), nal_tr, rfl⟩, .inl ?_⟩
        simp! [b_law_number_1, FIn_ls, z, fMul_int hm])
    ⟨.no, nal_no, rfl⟩
  have h2 : loopE .lst (bind md_law_number 3) b_law_number_1 12 0 ⟨[.tr (lsT .lnt ns), .tr (.a (.int 0)), .tr (.a (.int 1)), .no], [.tr (.nd .lst .lnt [aS "copies", aS "mark", aS "words", aS "reuse", aS "late", aS "revoke", aS "lapse", aS "shelve", aS "frozen", aS "wait", aS "room", aS "told"])]⟩ = _ := h2
  rw [show numB ns = nB (prs ns) RL 1 0 from rfl]
  generalize nB (prs ns) RL 1 0 = N at *
  simp! [G_law_number, g_law_number, P_law_rules, sFor, h2]
theorem P_bad_text {t : Str} (h : BadT t) : G_law_bad_text [aS t] = some (.rt (bT true) [.any]) := by
  obtain ⟨rest, hr⟩ := P_read_bad h
  simp! [G_law_bad_text, g_law_bad_text]
  rw [sTry_ex (C := 1) (g' := [.tr (aS t), .no]) (o := .rt (bT true) ⟨[.tr (aS t), .no], []⟩) rfl (by simp! [hr]) rfl (fun a => by simp! [suR, suC, gIsE])]
  simp! []
theorem P_bad_number {n : Int} (h : n < 0 ∨ 4096 ≤ n) : G_law_bad_number [.a (.int n)] = some (.rt (bT true) [.any]) := by
  obtain ⟨rest, hr⟩ := P_of_bad h
  simp! [G_law_bad_number, g_law_bad_number]
  rw [sTry_ex (C := 0) (g' := [.tr (.a (.int n)), .no]) (o := .rt (bT true) ⟨[.tr (.a (.int n)), .no], []⟩) rfl (by simp! [hr]) rfl (fun a => by simp! [suR, suC, gIsE])]
  simp! []
theorem P_bad_names {xs : List Str} (h : ∃ x ∈ xs, x ∉ RL) : G_law_bad_names [lsT .lnt xs] = some (.rt (bT true) [.any]) := by
  obtain ⟨rest, hr⟩ := P_init_bad h
  simp! [G_law_bad_names, g_law_bad_names]
  rw [sTry_ex (C := 0) (g' := [.tr (lsT .lnt xs), .no]) (o := .rt (bT true) ⟨[.tr (lsT .lnt xs), .no], []⟩) rfl (by simp! [hr, gMake, kidc_aS]) rfl (fun a => by simp! [suR, suC, gIsE])]
  simp! []
end
/-! what a book is asked -/
section
theorem ok_sub {ns : List Str} (h : List.Sublist ns RL) : ∀ x ∈ ns, PyData.strOk x = true := fun x hx => ok_RL x (h.subset hx)
abbrev ibG (ns : List Str) (N : Int) (e2 e3 e4 e5 : Ent) : List Ent := [.tr (bkT ns N), .tr (lsT .lnt ns), e2, e3, e4, e5]
theorem ib_lc {ns : List Str} (N : Int) (h : List.Sublist ns RL) : gLc [2] (gSeq (gVar 0) (fOwnF 1 tab_names)) (bind md_law_is_book 2) (gC (.bl true)) e_law_is_book_1 ⟨ibG ns N .no .no .no .no, []⟩ = some (.ok ⟨ibG ns N .no .no .no .no, [.tr (lsT .own ns)]⟩) := by
  have hl := sub_len h
  have hc := cpL_str ns
  have hk := kidL_str (o := .frz) ns
  rw [gLcP_is (xs := ns) (enc := aS) (.tr (namesT ns)) (.tr (namesT ns)) .tup .own (by simp! [fOwnF, hk, hc]) (by simp! [hc, kidL_str]) rfl (by simp! [hc]) (by omega) rfl rfl rfl rfl rfl (fun x _ => rfl) (fun _ => true) aS (fun x _ s' => by simp! []) (fun x _ s' _ => ⟨by simp! [e_law_is_book_1], by simp! []⟩)]
  rw [filt_true]
theorem ib_loop {ns : List Str} (N : Int) (h : List.Sublist ns RL) : ∃ e2, Nal e2 ∧ loopE .lst (bind md_law_is_book 2) b_law_is_book_1 12 0 ⟨ibG ns N .no (.tr (.a (.int N))) .no .no, [.tr (lsT .lnt RL)]⟩ = some (.nx ⟨ibG ns N e2 (.tr (.a (.int N))) .no .no, []⟩) := by
  obtain ⟨Γ', ⟨e2, n2, rfl⟩, h2⟩ := loopE_pre (gs := b_law_is_book_1) (bd := bind md_law_is_book 2) (s := []) (xs := RL) (enc := aS) (.tr (lsT .lnt RL)) .lst .lnt
    (fun p Γ => ∃ e2 : Ent, Nal e2 ∧ Γ = ibG ns N e2 (.tr (.a (.int N))) .no .no)
    (fun p Γ ⟨_, _, e⟩ => by rw [e]; rfl) rfl (fun x _ => rfl) (Γ := ibG ns N .no (.tr (.a (.int N))) .no .no)
    (by
      rintro p x q Γ hx ⟨e2, n2, rfl⟩
      have hc := P_contains ns N x
      refine ⟨_, _, by simp! [n2.kr]; rfl, ⟨.tr (aS x), nal_tr, rfl⟩, .inl ?_⟩
      simp! [b_law_is_book_1, fInO, hc, FIn_ls, fNe])
    ⟨.no, nal_no, rfl⟩
  exact ⟨e2, n2, h2⟩
theorem P_is_book {ns : List Str} (h : List.Sublist ns RL) : G_law_is_book [bkT ns (numB ns), lsT .lnt ns] = some (.rt (bT true) [.any, .any]) := by
  have hlc := ib_lc (numB ns) h
  obtain ⟨e2, n2, hlp⟩ := ib_loop (numB ns) h
  have ht := P_text h (numB ns)
  have hj := FJoin_l " " .lnt ns (Sm.join (Sm.sub h) " " (by decide +kernel))
  have hnum := P_law_number ns
  have hc := cpL_str ns
  have hk := kidL_str (o := .frz) ns
  have he : ∀ o o', FEq true (lsT o ns) (lsT o' ns) = some (.bl false) := fun o o' => by rw [FEq_strs (ok_sub h) (ok_sub h)]; simp
  generalize numB ns = N at *
  have hlp : loopE .lst (bind md_law_is_book 2) b_law_is_book_1 12 0 ⟨[.tr (bkT ns N), .tr (lsT .lnt ns), .no, .tr (.a (.int N)), .no, .no], [.tr (.nd .lst .lnt [aS "copies", aS "mark", aS "words", aS "reuse", aS "late", aS "revoke", aS "lapse", aS "shelve", aS "frozen", aS "wait", aS "room", aS "told"])]⟩ = _ := hlp
  simp! [G_law_is_book, g_law_is_book, fIsO, gClr, hlc, he, hnum, P_law_rules, sFor, hlp, hj, ht, hc, hk, fJoin, chkS, txt, ne_len, n2.kr, n2.ke, kidc_aS, escL_str, cpL_str]
  by_cases z : ns = []
  · simp [z]
  · simp [z, List.length_pos_iff.mpr z]
abbrev nf (xs : List Str) : List Str := RL.filter fun x => decide (x ∈ xs)
theorem numB_nf (xs : List Str) : numB xs = numB (nf xs) := nB_congr RL 1 0 fun x hx => by
  unfold prs
  simp [hx]
abbrev orL (ns ms : List Str) : List Str := RL.filter fun x => decide (x ∈ ns) || decide (x ∈ ms)
theorem nf_or (ns ms : List Str) : nf (ns ++ ms) = orL ns ms := List.filter_congr fun x _ => by simp
abbrev sbL (ns ms : List Str) : List Str := ns.filter fun x => !decide (x ∈ ms)
theorem P_or {ns ms : List Str} {a b : Int} (h1 : List.Sublist ns RL) (h2 : List.Sublist ms RL) : G_Book_or [bkT ns a, bkT ms b] = some (.rt (bkT (orL ns ms) (numB (orL ns ms))) [.any, .any]) := by
  have l1 := sub_len h1
  have l2 := sub_len h2
  have hi := P_init_t (xs := ns ++ ms) (fun x hx => by
    rcases List.mem_append.mp hx with hx | hx
    · exact h1.subset hx
    · exact h2.subset hx) (by rw [List.length_append]; omega)
  rw [numB_nf, show (RL.filter fun x => decide (x ∈ ns ++ ms)) = orL ns ms from nf_or ns ms, show nf (ns ++ ms) = orL ns ms from nf_or ns ms] at hi
  have a1 : atoms (ns.map aS) = some (ns.map V.str) := atoms_map (f := V.str) ns
  have a2 : atoms (ms.map aS) = some (ms.map V.str) := atoms_map (f := V.str) ms
  have hc : fCatT ⟨[.tr (bkT ns a), .tr (bkT ms b)], [.tr (namesT ms), .tr (namesT ns)]⟩ = some (.ok ⟨[.tr (bkT ns a), .tr (bkT ms b)], [.tr (namesT (ns ++ ms))]⟩) := by
    unfold fCatT
    simp only [a1, a2]
    rw [if_pos (by simp only [List.length_map]; omega), ← List.map_append, List.map_map]
    rfl
  have k1 := kidL_str (o := .frz) ns
  have k2 := kidL_str (o := .frz) ms
  have c1 := cpL_str ns
  have c2 := cpL_str ms
  have c3 := cpL_str (ns ++ ms)
  have k3 := kidL_str (o := .frz) (ns ++ ms)
  have k4 := kidL_str (o := .lnt) (ns ++ ms)
  have k5 := kidL_str (o := .frz) (orL ns ms)
  generalize numB (orL ns ms) = N at *
  generalize orL ns ms = R at *
  simp! [G_Book_or, g_Book_or, k1, k2, c1, c2, hc, k3, c3, k4, hi, k5, kidc_aS, escL_str, cpL_str]
theorem P_sub {ns ms : List Str} {a b : Int} (h1 : List.Sublist ns RL) : G_Book_sub [bkT ns a, bkT ms b] = some (.rt (bkT (sbL ns ms) (numB (sbL ns ms))) [.any, .any]) := by
  have l1 := sub_len h1
  have h3 : List.Sublist (sbL ns ms) RL := List.filter_sublist.trans h1
  have l3 := sub_len h3
  have hi := P_init_l (xs := sbL ns ms) (fun x hx => h3.subset hx) (by omega)
  rw [sub_filter h3 nodup_RL] at hi
  have k1 := kidL_str (o := .frz) ns
  have k2 := kidL_str (o := .frz) ms
  have c1 := cpL_str ns
  have c2 := cpL_str ms
  have hlc : gLc [2] (gSeq (gVar 0) (fFld tab_names)) (bind md_Book_sub 2) t_Book_sub_1 e_Book_sub_1 ⟨[.tr (bkT ns a), .tr (bkT ms b), .no], []⟩ = some (.ok ⟨[.tr (bkT ns a), .tr (bkT ms b), .no], [.tr (lsT .own (sbL ns ms))]⟩) := by
    rw [gLcP_is (xs := ns) (enc := aS) (.tr (namesT ns)) (.tr (namesT ns)) .tup .own (by simp! [k1, c1]) (by simp! [c1, kidL_str]) rfl (by simp! [c1]) (by omega) rfl rfl rfl rfl rfl (fun x _ => rfl) (fun x => !decide (x ∈ ms)) aS (fun x _ s' => by simp! [t_Book_sub_1, k2, c2, FIn_ts]) (fun x _ s' _ => ⟨by simp! [e_Book_sub_1], by simp! []⟩)]
  have k5 := kidL_str (o := .frz) (sbL ns ms)
  generalize numB (sbL ns ms) = N at *
  generalize sbL ns ms = R at *
  simp! [G_Book_sub, g_Book_sub, hlc, hi, k5, kidc_aS, escL_str, cpL_str]
theorem P_full : G_Book_full [] = some (.rt (bkT RL (numB RL)) []) := by
  have hi := P_init_t (xs := RL) (fun x hx => hx) (by decide)
  rw [sub_filter (List.Sublist.refl RL) nodup_RL] at hi
  have hi : G_Book_init [.nd (.ins 1 0) .own [], .nd .tup .own [aS "copies", aS "mark", aS "words", aS "reuse", aS "late", aS "revoke", aS "lapse", aS "shelve", aS "frozen", aS "wait", aS "room", aS "told"]] = some (.rt (.a .non) [.nd (.ins 1 2) .own [.nd .tup .own [aS "copies", aS "mark", aS "words", aS "reuse", aS "late", aS "revoke", aS "lapse", aS "shelve", aS "frozen", aS "wait", aS "room", aS "told"], .a (.int (numB RL))], .any]) := hi
  generalize numB RL = N at *
  simp! [G_Book_full, g_Book_full, hi]
end
/-! the spoilt texts -/
section
def badB (L : List Str) : Bool := L ≠ [] && (L ≠ (["none"] : List Str)) && decide (L.length ≤ 40) && L.all (fun p => decide (p.length ≤ 10) && decide (32 ∉ TL.tl p)) && decide (nf L ≠ L)
theorem badB_ok {L : List Str} (h : badB L = true) : BadT (jn L) := by
  unfold badB at h
  simp only [Bool.and_eq_true, decide_eq_true_eq, List.all_eq_true] at h
  obtain ⟨⟨⟨⟨h1, h2⟩, h3⟩, h4⟩, h5⟩ := h
  exact .mk h1 h2 ⟨h3, h4⟩ (no_filter h5)
def spL : List (List Str) := [([""] : List Str), (["None"] : List Str), (["copies", "mark", "copies"] : List Str), (["mark", "copies"] : List Str), (["told", "room"] : List Str), (["copies", "", "mark"] : List Str), (["none", "copies"] : List Str), (["Copies"] : List Str)]
abbrev spB : List Str := ["", "None", "copies mark copies", "mark copies", "told room", "copies  mark", "none copies", "Copies"]
theorem spB_is : spB = spL.map jn := by decide +kernel
theorem spL_bad : ∀ L ∈ spL, badB L = true := by decide +kernel
theorem bad_base : ∀ t ∈ spB, BadT t := fun t ht => by
  rw [spB_is, List.mem_map] at ht
  obtain ⟨L, hL, rfl⟩ := ht
  exact badB_ok (spL_bad L hL)
theorem ne_none {L : List Str} {x : Str} (h : x ∈ L) (hx : x ≠ "none") : L ≠ (["none"] : List Str) := fun e => hx (by rw [e] at h; exact List.mem_singleton.mp h)
theorem RL_ne : ∀ x ∈ RL, x ≠ ("none" : Str) := by decide +kernel
theorem RL_x : ∀ x ∈ RL, (x ++ "x" : Str) ∉ RL ∧ (x ++ "x" : Str) ≠ "none" ∧ (x ++ "x" : Str).length ≤ 10 ∧ 32 ∉ TL.tl (x ++ "x" : Str) := by decide +kernel
theorem sm_mt : ("" : Str).length ≤ 10 ∧ 32 ∉ TL.tl ("" : Str) := by decide +kernel
theorem sm_no : ("none" : Str).length ≤ 10 ∧ 32 ∉ TL.tl ("none" : Str) := by decide +kernel
section
variable {ns : List Str} (h : List.Sublist ns RL) (hne : ns ≠ [])
include h hne
theorem bad_end : BadT (jn ns ++ " ") := by
  rw [jn_end hne]
  refine .mk (by simp) (ne_none (x := "") (by simp) (by decide +kernel)) (.of (by have := sub_len h; simp; omega) fun p hp => ?_) (no_sub (x := "") (by simp) (by decide +kernel))
  rcases List.mem_append.mp hp with hp | hp
  · exact .inl (h.subset hp)
  · rw [List.mem_singleton.mp hp]; exact .inr sm_mt
theorem bad_start : BadT (" " ++ jn ns) := by
  rw [jn_start hne]
  refine .mk (by simp) (ne_none (x := "") (by simp) (by decide +kernel)) (.of (by have := sub_len h; simp; omega) fun p hp => ?_) (no_sub (x := "") (by simp) (by decide +kernel))
  rcases List.mem_cons.mp hp with hp | hp
  · rw [hp]; exact .inr sm_mt
  · exact .inl (h.subset hp)
theorem bad_none : BadT (jn ns ++ " none") := by
  rw [jn_none hne]
  obtain ⟨x, hx⟩ := List.exists_mem_of_ne_nil ns hne
  refine .mk (by simp) (ne_none (x := x) (by simp [hx]) (RL_ne x (h.subset hx))) (.of (by have := sub_len h; simp; omega) fun p hp => ?_) (no_sub (x := "none") (by simp) (by decide +kernel))
  rcases List.mem_append.mp hp with hp | hp
  · exact .inl (h.subset hp)
  · rw [List.mem_singleton.mp hp]; exact .inr sm_no
theorem bad_x : BadT (jn ns ++ "x") := by
  obtain ⟨M, z, rfl⟩ : ∃ M z, ns = M ++ [z] := ⟨ns.dropLast, ns.getLast hne, (List.dropLast_concat_getLast hne).symm⟩
  rw [jn_last]
  obtain ⟨z1, z2, z3⟩ := RL_x z (h.subset (by simp))
  refine .mk (by simp) (ne_none (x := z ++ "x") (by simp) z2) (.of (by have := sub_len h; simp at this ⊢; omega) fun p hp => ?_) (no_sub (x := z ++ "x") (by simp) z1)
  rcases List.mem_append.mp hp with hp | hp
  · exact .inl (h.subset (by simp [hp]))
  · rw [List.mem_singleton.mp hp]; exact .inr z3
theorem bad_again {x : Str} (hx : x ∈ ns) : BadT (jn ns ++ " " ++ x) := by
  rw [jn_app hne]
  refine .mk (by simp) (ne_none (x := x) (by simp) (RL_ne x (h.subset hx))) (.of (by have := sub_len h; simp; omega) fun p hp => ?_) fun e => ?_
  · rcases List.mem_append.mp hp with hp | hp
    · exact .inl (h.subset hp)
    · rw [List.mem_singleton.mp hp]; exact .inl (h.subset hx)
  · have := nd_sub e
    rw [List.nodup_append] at this
    exact this.2.2 x hx x (by simp) rfl
theorem bad_twice {x : Str} (hx : x ∈ ns) : BadT (x ++ " " ++ jn ns) := by
  rw [jn_cons hne]
  refine .mk (by simp) (ne_none (x := x) (by simp) (RL_ne x (h.subset hx))) (.of (by have := sub_len h; simp; omega) fun p hp => ?_) fun e => ?_
  · rcases List.mem_cons.mp hp with hp | hp
    · rw [hp]; exact .inl (h.subset hx)
    · exact .inl (h.subset hp)
  · have := nd_sub e
    rw [List.nodup_cons] at this
    exact this.1 hx
end
theorem bad_dbl {ns : List Str} (h : List.Sublist ns RL) (hl : 1 < ns.length) : BadT (Txt.join "  " ns) := by
  rw [jn_dbl]
  match ns, hl with
  | x :: y :: r, _ =>
    have hx : x ∈ RL := h.subset (by simp)
    refine .mk (dbl_ne (by simp)) (ne_none (x := x) (by simp [dbl]) (RL_ne x hx)) (.of (by have := sub_len h; have := dbl_len (x :: y :: r); omega) fun p hp => ?_) (no_sub (x := "") (by simp [dbl]) (by decide +kernel))
    rcases dbl_mem hp with hp | hp
    · exact .inl (h.subset hp)
    · rw [hp]; exact .inr sm_mt
theorem bad_turned {ns : List Str} (h : List.Sublist ns RL) {k : Nat} (hk : k + 1 < ns.length) : BadT (jn ((ns.set k ns[k + 1]).set (k + 1) ns[k])) := by
  have hm : ∀ x, x ∈ (ns.set k ns[k + 1]).set (k + 1) ns[k] ↔ x ∈ ns := fun x => by
    constructor
    · intro hx
      rcases List.mem_or_eq_of_mem_set hx with hx | rfl
      · rcases List.mem_or_eq_of_mem_set hx with hx | rfl
        · exact hx
        · exact List.getElem_mem _
      · exact List.getElem_mem _
    · intro hx
      obtain ⟨i, hi, rfl⟩ := List.mem_iff_getElem.mp hx
      by_cases i1 : i = k
      · subst i1
        refine List.mem_iff_getElem.mpr ⟨i + 1, by simpa using hk, by simp⟩
      · by_cases i2 : i = k + 1
        · subst i2
          exact List.mem_iff_getElem.mpr ⟨k, by simp; omega, by rw [List.getElem_set_ne (by omega)]; simp⟩
        · exact List.mem_iff_getElem.mpr ⟨i, by simpa using hi, by rw [List.getElem_set_ne (by omega), List.getElem_set_ne (by omega)]⟩
  have hne : (ns.set k ns[k + 1]).set (k + 1) ns[k] ≠ [] := fun e => by
    have := congrArg List.length e
    simp at this
    rw [this] at hk
    simp at hk
  have hx : ns[k] ∈ ns := List.getElem_mem _
  refine .mk hne (ne_none (x := ns[k]) ((hm _).mpr hx) (RL_ne _ (h.subset hx))) (.of (by have := sub_len h; simp; omega) fun p hp => .inl (h.subset ((hm p).mp hp))) fun e => ?_
  have e1 := sub_filter e nodup_RL
  have e2 := sub_filter h nodup_RL
  have e3 : ns = (ns.set k ns[k + 1]).set (k + 1) ns[k] := e2.symm.trans ((List.filter_congr fun x _ => by rw [decide_eq_decide]; exact (hm x).symm).trans e1)
  have e4 : ns[k]'(by omega) = ns[k + 1] := by
    have : ∀ (M : List Str) (e : ns = M) , ns[k]'(by omega) = M[k]'(by rw [← e]; omega) := fun M e => by subst e; rfl
    rw [this _ e3, List.getElem_set_ne (by omega)]
    simp
  exact (List.pairwise_iff_getElem.mp (nd_sub h)) k (k + 1) (by omega) hk (by omega) e4
theorem len_app (x y : Str) : (x ++ y).length = x.length + y.length := by rw [TL.len_tl, TL.tl_append, List.length_append, ← TL.len_tl, ← TL.len_tl]
theorem szS {n : Nat} (h : n ≤ 10000) : n ≤ sizeLine := Nat.le_trans h (by decide)
theorem l_sp : (" " : Str).length = 1 := by decide +kernel
theorem l_no : (" none" : Str).length = 5 := by decide +kernel
theorem l_x : ("x" : Str).length = 1 := by decide +kernel
abbrev sp6 (J x : Str) : List Str := [J ++ " ", " " ++ J, J ++ " " ++ x, x ++ " " ++ J, J ++ " none", J ++ "x"]
theorem P_spoilt {ns : List Str} (h : List.Sublist ns RL) {a : Int} (ha : 0 ≤ a) : ∃ ts : List Str, (∀ t ∈ ts, BadT t) ∧ G_law_spoilt [lsT .lnt ns, .a (.int a)] = some (.rt (lsT .own ts) [.any, .any]) := by
  have hl := sub_len h
  rcases Nat.lt_or_ge 0 ns.length with z0 | z0
  · have hj : FJoin (.a (.str " ")) (lsT .lnt ns) = some (.str (jn ns)) := FJoin_l " " .lnt ns (Sm.join (Sm.sub h) " " (by decide +kernel))
    have hne : ns ≠ [] := fun e => by rw [e] at z0; simp at z0
    have m0 : (0 : Int) < ns.length := by omega
    have i1 := Int.emod_nonneg a (b := (ns.length : Int)) (by omega)
    have i2 := Int.emod_lt_of_pos a m0
    obtain ⟨k, hk⟩ : ∃ k : Nat, a % (ns.length : Int) = (k : Int) := ⟨(a % (ns.length : Int)).toNat, by omega⟩
    rw [hk] at i1 i2
    have hk2 : k < ns.length := by omega
    have hix : ixN ns.length (k : Int) = some k := by simp [ixN, hk2]
    have hg : ns[k]? = some ns[k] := List.getElem?_eq_getElem hk2
    have hmem : ns[k] ∈ ns := List.getElem_mem hk2
    have hx := (sm_RL _ (h.subset hmem)).1
    have hJ : (jn ns).length ≤ 440 := (Sm.sub h).len
    have b6 : ∀ t ∈ sp6 (jn ns) ns[k], BadT t := by
      simp only [List.mem_cons, List.not_mem_nil, or_false]
      rintro t (rfl | rfl | rfl | rfl | rfl | rfl)
      · exact bad_end h hne
      · exact bad_start h hne
      · exact bad_again h hne hmem
      · exact bad_twice h hne hmem
      · exact bad_none h hne
      · exact bad_x h hne
    rcases Nat.lt_or_ge 1 ns.length with z1 | z1
    · have hj2 := FJoin_l "  " .lnt ns (Sm.join (Sm.sub h) "  " (by decide +kernel))
      have m1 : (0 : Int) < ns.length - 1 := by omega
      have j1 := Int.emod_nonneg a (b := (ns.length : Int) - 1) (by omega)
      have j2 := Int.emod_lt_of_pos a m1
      obtain ⟨l, hll⟩ : ∃ l : Nat, a % ((ns.length : Int) - 1) = (l : Int) := ⟨(a % ((ns.length : Int) - 1)).toNat, by omega⟩
      rw [hll] at j1 j2
      have hl2 : l + 1 < ns.length := by omega
      have bt := bad_turned h hl2
      have bd := bad_dbl h z1
      refine ⟨spB ++ sp6 (jn ns) ns[k] ++ ([jn ((ns.set l ns[l + 1]).set (l + 1) ns[l]), Txt.join "  " ns] : List Str), ?_, ?_⟩
      · intro t ht
        rcases List.mem_append.mp ht with ht | ht
        · rcases List.mem_append.mp ht with ht | ht
          · exact bad_base t ht
          · exact b6 t ht
        · simp only [List.mem_cons, List.not_mem_nil, or_false] at ht
          rcases ht with rfl | rfl
          · exact bt
          · exact bd
      · have hix2 : ixN ns.length (l : Int) = some l := by rw [ixN_len (by omega) (by omega)]; simp
        have hix3 : ixN ns.length ((l : Int) + 1) = some (l + 1) := by rw [ixN_len (by omega) (by omega)]; simp
        have hg2 : ns[l]? = some ns[l] := List.getElem?_eq_getElem (by omega)
        have hg3 : ns[l + 1]? = some ns[l + 1] := List.getElem?_eq_getElem hl2
        have hj3 : FJoin (.a (.str " ")) (lsT .own ((ns.set l ns[l + 1]).set (l + 1) ns[l])) = some (.str (jn ((ns.set l ns[l + 1]).set (l + 1) ns[l]))) := FJoin_l " " .own ((ns.set l ns[l + 1]).set (l + 1) ns[l]) (Sm.join (L := (ns.set l ns[l + 1]).set (l + 1) ns[l]) (.of (by simp; omega) fun p hp => .inl (by
          rcases List.mem_or_eq_of_mem_set hp with hp | rfl
          · rcases List.mem_or_eq_of_mem_set hp with hp | rfl
            · exact h.subset hp
            · exact h.subset (List.getElem_mem _)
          · exact h.subset (List.getElem_mem _))) " " (by decide +kernel))
        have hs : ((ns.map aS).set l (aS ns[l + 1])).set (l + 1) (aS ns[l]) = ((ns.set l ns[l + 1]).set (l + 1) ns[l]).map aS := by rw [List.map_set, List.map_set]
        generalize (ns.set l ns[l + 1]).set (l + 1) ns[l] = M at *
        generalize ns[l] = y1 at *
        generalize ns[l + 1] = y2 at *
        generalize ns[k] = x at *
        generalize jn ns = J at *
        generalize Txt.join "  " ns = J2 at *
        generalize jn M = J3 at *
        have q1 : J.length + (" " : Str).length ≤ sizeLine := szS (by rw [l_sp]; omega)
        have q2 : (" " : Str).length + J.length ≤ sizeLine := szS (by rw [l_sp]; omega)
        have q3 : (J ++ (" " : Str)).length + x.length ≤ sizeLine := szS (by rw [len_app, l_sp]; omega)
        have q4 : x.length + (" " : Str).length ≤ sizeLine := szS (by rw [l_sp]; omega)
        have q5 : (x ++ (" " : Str)).length + J.length ≤ sizeLine := szS (by rw [len_app, l_sp]; omega)
        have q6 : J.length + (" none" : Str).length ≤ sizeLine := szS (by rw [l_no]; omega)
        have q7 : J.length + ("x" : Str).length ≤ sizeLine := szS (by rw [l_x]; omega)
        have s14 : 14 ≤ sizeLine := szS (by decide)
        have s15 : 14 < sizeLine := szS (n := 15) (by decide)
        have s16 : 15 < sizeLine := szS (n := 16) (by decide)
        have z1c : (1 : Int) < ns.length := by omega
        simp! [G_law_spoilt, g_law_spoilt, fExt, s14, s15, s16, z1c, hj, hj2, hj3, fJoin, chkS, z0, z1, hk, hix, hg, q1, q2, q3, q4, q5, q6, q7, hll, hix2, hix3, hg2, hg3, hs, kidc_aS, cpL_str, escL_str, kidL_str]
    · have z1n : ¬ (1 < ns.length) := by omega
      have z1c : ¬ ((1 : Int) < ns.length) := by omega
      refine ⟨spB ++ sp6 (jn ns) ns[k], ?_, ?_⟩
      · intro t ht
        rcases List.mem_append.mp ht with ht | ht
        · exact bad_base t ht
        · exact b6 t ht
      · generalize ns[k] = x at *
        generalize jn ns = J at *
        have q1 : J.length + (" " : Str).length ≤ sizeLine := szS (by rw [l_sp]; omega)
        have q2 : (" " : Str).length + J.length ≤ sizeLine := szS (by rw [l_sp]; omega)
        have q3 : (J ++ (" " : Str)).length + x.length ≤ sizeLine := szS (by rw [len_app, l_sp]; omega)
        have q4 : x.length + (" " : Str).length ≤ sizeLine := szS (by rw [l_sp]; omega)
        have q5 : (x ++ (" " : Str)).length + J.length ≤ sizeLine := szS (by rw [len_app, l_sp]; omega)
        have q6 : J.length + (" none" : Str).length ≤ sizeLine := szS (by rw [l_no]; omega)
        have q7 : J.length + ("x" : Str).length ≤ sizeLine := szS (by rw [l_x]; omega)
        have s14 : 14 ≤ sizeLine := szS (by decide)
        simp! [G_law_spoilt, g_law_spoilt, fExt, s14, z1n, z1c, hj, fJoin, chkS, z0, hk, hix, hg, q1, q2, q3, q4, q5, q6, q7]
  · have hz : ns = [] := List.length_eq_zero_iff.mp (by omega)
    subst hz
    exact ⟨spB, bad_base, by simp! [G_law_spoilt, g_law_spoilt]⟩
end
/-! the law -/
section
noncomputable def lw1 (z : GS) : GS := (sSeq (sSet md_law 2 (gSeq (gSeq (gSeq (gSeq (gVar 1) (gSeq (gC (.int 64)) gNil)) (gCall [0] md_law_pick G_law_pick 2)) (gSeq (gSeq (gC (.int 64)) (gSeq (gSeq (gVar 1) (gSeq (gC (.int 64)) gNil)) (gCall [0] md_law_pick G_law_pick 2))) fMul)) fAdd))
    (sSeq (sSet md_law 3 (gSeq (gSeq (gSeq (gSeq (gVar 1) (gSeq (gC (.int 64)) gNil)) (gCall [0] md_law_pick G_law_pick 2)) (gSeq (gSeq (gC (.int 64)) (gSeq (gSeq (gVar 1) (gSeq (gC (.int 64)) gNil)) (gCall [0] md_law_pick G_law_pick 2))) fMul)) fAdd))
    (sSeq (sSet md_law 4 (gSeq (gSeq (gVar 1) (gSeq (gC (.int 99)) gNil)) (gCall [0] md_law_pick G_law_pick 2)))
    (sSeq (sSet md_law 5 (gSeq (gSeq (gVar 2) gNil) (gCall [] md_law_names G_law_names 1)))
    (sSeq (sSet md_law 6 (gSeq (gSeq (gVar 3) gNil) (gCall [] md_law_names G_law_names 1)))
    (sSeq (sSet md_law 7 (gSeq (gSeq (gVar 2) gNil) (noEx (gCall [] md_Book_of_number G_Book_of_number 1))))
    z))))))
noncomputable def lw2 (z : GS) : GS := (sSeq (sSet md_law 8 (gSeq (gSeq (gSeq (gSeq (gSeq (gSeq (gVar 6) fLstR) (gVar 6)) fAdd) gNil) (noEx (gMake 1 (md_Book_init).tail G_Book_init 1))) fFrz))
    z)
noncomputable def lw3 (z : GS) : GS := (sSeq (sIf (gOrB (gNot (gSeq (gSeq (gVar 7) (gSeq (gVar 5) gNil)) (gCall [] md_law_is_book G_law_is_book 2))) (gNot (gSeq (gSeq (gVar 8) (gSeq (gVar 6) gNil)) (gCall [] md_law_is_book G_law_is_book 2)))) (sRet (gC (.bl false))) sNil)
    z)
noncomputable def lw4 (z : GS) : GS := (sSeq (sIf (gOrB (gNot (gSeq (gSeq (gSeq (gSeq (gSeq (gVar 7) (gSeq (chkI 1) (gCall [] md_Book_text G_Book_text 1))) gNil) (noEx (gCall [] md_Book_read G_Book_read 1))) (gSeq (gVar 5) gNil)) (gCall [] md_law_is_book G_law_is_book 2))) (gNot (gSeq (gSeq (gSeq (gSeq (gSeq (gSeq (gSeq (gVar 5) gNil) fTup) gNil) (noEx (gMake 1 (md_Book_init).tail G_Book_init 1))) fFrz) (gSeq (gVar 5) gNil)) (gCall [] md_law_is_book G_law_is_book 2)))) (sRet (gC (.bl false))) sNil)
    z)
noncomputable def lw5 (z : GS) : GS := (sSeq (sSet md_law 9 (gLc [10] (noEx (gCall [] md_law_rules G_law_rules 0)) (bind md_law 10) t_law_1 e_law_1))
    z)
noncomputable def lw6 (z : GS) : GS := (sSeq (sIf (gNot (gSeq (gSeq (gSeq (gSeq (gVar 7) (gVar 8)) (fBinO 1 md_Book_or G_Book_or)) (gSeq (gVar 9) gNil)) (gCall [] md_law_is_book G_law_is_book 2))) (sRet (gC (.bl false))) sNil)
    z)
noncomputable def lw7 (z : GS) : GS := (sSeq (sIf (gNot (gSeq (gSeq (gSeq (gSeq (gVar 7) (gVar 8)) (fBinO 1 md_Book_sub G_Book_sub)) (gSeq (gLc [10] (gVar 5) (bind md_law 10) t_law_2 e_law_2) gNil)) (gCall [] md_law_is_book G_law_is_book 2))) (sRet (gC (.bl false))) sNil)
    z)
noncomputable def lw8 (z : GS) : GS := (sSeq (sIf (gOrB (gNot (gSeq (gSeq (gVar 7) (gSeq (gVar 5) gNil)) (gCall [] md_law_is_book G_law_is_book 2))) (gNot (gSeq (gSeq (gVar 8) (gSeq (gVar 6) gNil)) (gCall [] md_law_is_book G_law_is_book 2)))) (sRet (gC (.bl false))) sNil)
    (sSeq (sIf (gOrB (gNot (gSeq (gSeq (gCall [] md_Book_full G_Book_full 0) (gSeq (noEx (gCall [] md_law_rules G_law_rules 0)) gNil)) (gCall [] md_law_is_book G_law_is_book 2))) (gNot (gSeq (gSeq (gSeq (gSeq (gSeq (gSeq gNil (fNew .lst 0)) gNil) (noEx (gMake 1 (md_Book_init).tail G_Book_init 1))) fFrz) (gSeq (gSeq gNil (fNew .lst 0)) gNil)) (gCall [] md_law_is_book G_law_is_book 2)))) (sRet (gC (.bl false))) sNil)
    z))
noncomputable def lw9 : GS := (sSeq (sFor (gSeq (gSeq (gVar 5) (gSeq (gVar 4) gNil)) (gCall [] md_law_spoilt G_law_spoilt 2)) (bind md_law 11) b_law_1)
    (sSeq (sFor (gSeq (gSeq (gSeq (gC (.int 1)) fNeg) (gSeq (gSeq (gSeq (gSeq (gC (.int 1)) fNeg) (gVar 2)) fSub) (gSeq (gC (.int 4096)) (gSeq (gSeq (gSeq (gC (.int 4096)) (gVar 3)) fAdd) gNil)))) (fNew .lst 4)) (bind md_law 12) b_law_2)
    (sSeq (sFor (gSeq (gSeq (gC (.str "copy")) (gSeq (gC (.str "")) (gSeq (gC (.str "none")) (gSeq (gC (.str "told ")) (gSeq (gC (.str "first")) gNil))))) (fNew .lst 5)) (bind md_law 13) b_law_3)
    (sRet (gAnd (gSeq (gSeq (gSeq (gSeq (gCon (.nd .tup .frz [])) gNil) fLen) (gC (.int 0))) fEq) (gSeq (gSeq (gSeq (gSeq (gCon (.nd .tup .frz [(.a (.str "copies")), (.a (.str "mark")), (.a (.str "words")), (.a (.str "reuse")), (.a (.str "late")), (.a (.str "revoke")), (.a (.str "lapse")), (.a (.str "shelve")), (.a (.str "frozen")), (.a (.str "wait")), (.a (.str "room")), (.a (.str "told"))])) gNil) fLst) (noEx (gCall [] md_law_rules G_law_rules 0))) fEq))))))
theorem e_g_law : g_law = lw1 (lw2 (lw3 (lw4 (lw5 (lw6 (lw7 (lw8 (lw9)))))))) := rfl
abbrev LG (fs : List Int) (n1 n2 p : Int) (ns ms : List Str) (b1 b2 : Int) (os : List Str) (e10 e11 e12 e13 : Ent) : List Ent := [.no, .tr (rowT fs), .tr (iT n1), .tr (iT n2), .tr (iT p), .tr (lsT .own ns), .tr (lsT .own ms), .tr (bkT ns b1), .tr (bkT ms b2), .tr (lsT .own os), e10, e11, e12, e13]
section
variable {fs : List Int} {n1 n2 p b1 b2 : Int} {ns ms os : List Str}
theorem law_l1 {ts : List Str} (h : ∀ t ∈ ts, BadT t) : ∃ e, Nal e ∧ loopE .lst (bind md_law 11) b_law_1 ts.length 0 ⟨LG fs n1 n2 p ns ms b1 b2 os .no .no .no .no, [.tr (lsT .lnt ts)]⟩ = some (.nx ⟨LG fs n1 n2 p ns ms b1 b2 os .no e .no .no, []⟩) := by
  obtain ⟨Γ', ⟨e2, m2, rfl⟩, h2⟩ := loopE_pre (gs := b_law_1) (bd := bind md_law 11) (s := []) (xs := ts) (enc := aS) (.tr (lsT .lnt ts)) .lst .lnt
    (fun _ Γ => ∃ e2 : Ent, Nal e2 ∧ Γ = LG fs n1 n2 p ns ms b1 b2 os .no e2 .no .no)
    (fun p Γ ⟨_, _, e⟩ => by rw [e]; rfl) rfl (fun x _ => rfl) (Γ := LG fs n1 n2 p ns ms b1 b2 os .no .no .no .no)
    (by
      rintro p x q Γ hx ⟨e2, m2, rfl⟩
      have hb := P_bad_text (h x (by rw [hx]; simp))
      refine ⟨_, _, by simp! [m2.kr]; rfl, ⟨.tr (aS x), nal_tr, rfl⟩, .inl ?_⟩
      simp! [b_law_1, hb])
    ⟨.no, nal_no, rfl⟩
  exact ⟨e2, m2, h2⟩
theorem law_l2 {e11 : Ent} (k11 : Nal e11) {xs : List Int} (h : ∀ x ∈ xs, x < 0 ∨ 4096 ≤ x) (hl : xs.length ≤ 100000) : ∃ e, Nal e ∧ loopE .lst (bind md_law 12) b_law_2 xs.length 0 ⟨LG fs n1 n2 p ns ms b1 b2 os .no e11 .no .no, [.tr (.nd .lst .lnt (xs.map iT))]⟩ = some (.nx ⟨LG fs n1 n2 p ns ms b1 b2 os .no e11 e .no, []⟩) := by
  obtain ⟨Γ', ⟨e2, m2, rfl⟩, h2⟩ := loopE_pre (gs := b_law_2) (bd := bind md_law 12) (s := []) (xs := xs) (enc := iT) (.tr (.nd .lst .lnt (xs.map iT))) .lst .lnt
    (fun _ Γ => ∃ e2 : Ent, Nal e2 ∧ Γ = LG fs n1 n2 p ns ms b1 b2 os .no e11 e2 .no)
    (fun p Γ ⟨_, _, e⟩ => by rw [e]; rfl) rfl (fun x _ => rfl) (Γ := LG fs n1 n2 p ns ms b1 b2 os .no e11 .no .no)
    (by
      rintro p x q Γ hx ⟨e2, m2, rfl⟩
      have hb := P_bad_number (h x (by rw [hx]; simp))
      refine ⟨_, _, by simp! [m2.kr, k11.kr]; rfl, ⟨.tr (iT x), nal_tr, rfl⟩, .inl ?_⟩
      simp! [b_law_2, hb])
    ⟨.no, nal_no, rfl⟩
  exact ⟨e2, m2, h2⟩
abbrev wdL : List Str := ["copy", "", "none", "told ", "first"]
theorem wd_bad : ∀ w ∈ wdL, w ∉ RL := by decide +kernel
theorem law_l3 {e11 e12 : Ent} (k11 : Nal e11) (k12 : Nal e12) (l1 : ns.length ≤ 12) (l2 : ms.length ≤ 12) : ∃ e, Nal e ∧ loopE .lst (bind md_law 13) b_law_3 5 0 ⟨LG fs n1 n2 p ns ms b1 b2 os .no e11 e12 .no, [.tr (lsT .lnt wdL)]⟩ = some (.nx ⟨LG fs n1 n2 p ns ms b1 b2 os .no e11 e12 e, []⟩) := by
  obtain ⟨Γ', ⟨e2, m2, rfl⟩, h2⟩ := loopE_pre (gs := b_law_3) (bd := bind md_law 13) (s := []) (xs := wdL) (enc := aS) (.tr (lsT .lnt wdL)) .lst .lnt
    (fun _ Γ => ∃ e2 : Ent, Nal e2 ∧ Γ = LG fs n1 n2 p ns ms b1 b2 os .no e11 e12 e2)
    (fun p Γ ⟨_, _, e⟩ => by rw [e]; rfl) rfl (fun x _ => rfl) (Γ := LG fs n1 n2 p ns ms b1 b2 os .no e11 e12 .no)
    (by
      rintro p x q Γ hx ⟨e2, m2, rfl⟩
      have hw := wd_bad x (by rw [hx]; simp)
      have hb1 := P_bad_names (xs := ns ++ [x]) ⟨x, by simp, hw⟩
      have hb2 := P_bad_names (xs := x :: ms) ⟨x, by simp, hw⟩
      rw [show lsT .lnt (ns ++ [x]) = .nd .lst .lnt (ns.map aS ++ [aS x]) from by rw [lsT, List.map_append]; rfl] at hb1
      rw [show lsT .lnt (x :: ms) = .nd .lst .lnt (aS x :: ms.map aS) from rfl] at hb2
      have z1 : ns.length + 1 ≤ sizeLine := szS (by omega)
      have z2 : 1 + ms.length ≤ sizeLine := szS (by omega)
      have he1 : escL (ns.map aS ++ [aS x]) = true := by rw [show ns.map aS ++ [aS x] = (ns ++ [x]).map aS from by rw [List.map_append]; rfl, escL_str]
      have he2 : escL (aS x :: ms.map aS) = true := escL_str (x :: ms)
      have he3 : escL (ms.map aS) = true := escL_str ms
      have c1 := cpL_str ns
      have c2 := cpL_str ms
      refine ⟨_, _, by simp! [m2.kr, k11.kr, k12.kr]; rfl, ⟨.tr (aS x), nal_tr, rfl⟩, .inl ?_⟩
      simp! [b_law_3, hb1, hb2, z1, z2, he1, he2, he3, c1, c2, kidL_str, mapk_aS, kidc_aS, m2.ke, k11.ke, k12.ke])
    ⟨.no, nal_no, rfl⟩
  exact ⟨e2, m2, h2⟩
end
theorem P_init_two {ms : List Str} (h : List.Sublist ms RL) : G_Book_init [.nd (.ins 1 0) .own [], .nd .lst .lnt (ms.reverse.map aS ++ ms.map aS)] = some (.rt (.a .non) [.nd (.ins 1 2) .own [namesT ms, .a (.int (numB ms))], .any]) := by
  have l2 := sub_len h
  have hi := P_init_l (xs := ms.reverse ++ ms) (fun x hx => by
    rcases List.mem_append.mp hx with hx | hx
    · exact h.subset (List.mem_reverse.mp hx)
    · exact h.subset hx) (by rw [List.length_append, List.length_reverse]; omega)
  have e : nf (ms.reverse ++ ms) = ms := (List.filter_congr fun x _ => by simp).trans (sub_filter h nodup_RL)
  rw [numB_nf, show (RL.filter fun x => decide (x ∈ ms.reverse ++ ms)) = ms from e, e, List.map_append] at hi
  exact hi
theorem lawIs : ∀ fs, Feed fs → ∃ m, g_law (feedG 12 fs) = some (.rt (bT true) m) := by
  intro fs hf
  obtain ⟨p1, f1, e1, p1a, p1b, hf1⟩ := G_pick (n := 64) hf (by decide)
  obtain ⟨p2, f2, e2, p2a, p2b, hf2⟩ := G_pick (n := 64) hf1 (by decide)
  obtain ⟨p3, f3, e3, p3a, p3b, hf3⟩ := G_pick (n := 64) hf2 (by decide)
  obtain ⟨p4, f4, e4, p4a, p4b, hf4⟩ := G_pick (n := 64) hf3 (by decide)
  obtain ⟨p5, f5, e5, p5a, p5b, hf5⟩ := G_pick (n := 99) hf4 (by decide)
  have cm : cMul 64 p2 = true := decide_eq_true (by unfold CMul; omega)
  have cm2 : cMul 64 p4 = true := decide_eq_true (by unfold CMul; omega)
  have hn1 := P_law_names (p1 + 64 * p2)
  have hn2 := P_law_names (p3 + 64 * p4)
  have hb1 := P_of_number (n := p1 + 64 * p2) (by omega) (by omega)
  have s1 := bits_sub RL (p1 + 64 * p2)
  have s2 := bits_sub RL (p3 + 64 * p4)
  generalize bits RL (p1 + 64 * p2) = ns at *
  generalize bits RL (p3 + 64 * p4) = ms at *
  rw [e_g_law]
  have q1 : ∀ z, lw1 z (feedG 12 fs) = z ⟨[.no, .tr (rowT f5), .tr (iT (p1 + 64 * p2)), .tr (iT (p3 + 64 * p4)), .tr (iT p5), .tr (lsT .own ns), .tr (lsT .own ms), .tr (bkT ns (numB ns)), .no, .no, .no, .no, .no, .no], []⟩ := fun z => by
    unfold lw1 feedG
    simp! [feedT, e1, e2, e3, e4, e5, fMul_int cm, fMul_int cm2, hn1, hn2, hb1]
  rw [q1]
  have n1u : p1 + 64 * p2 < 4096 := by omega
  have n1l : 0 ≤ p1 + 64 * p2 := by omega
  have n2l : 0 ≤ p3 + 64 * p4 := by omega
  clear q1 hn1 hn2 hb1 e1 e2 e3 e4 e5 cm cm2
  generalize p1 + 64 * p2 = N1 at *
  generalize p3 + 64 * p4 = N2 at *
  have l1 := sub_len s1
  have l2 := sub_len s2
  have k1 := kidL_str (o := .lnt) ns
  have k2 := kidL_str (o := .lnt) ms
  have c1 := cpL_str ns
  have c2 := cpL_str ms
  have x1 := escL_str ns
  have x2 := escL_str ms
  have q2 : ∀ z, lw2 z ⟨[.no, .tr (rowT f5), .tr (iT N1), .tr (iT N2), .tr (iT p5), .tr (lsT .own ns), .tr (lsT .own ms), .tr (bkT ns (numB ns)), .no, .no, .no, .no, .no, .no], []⟩ = z ⟨[.no, .tr (rowT f5), .tr (iT N1), .tr (iT N2), .tr (iT p5), .tr (lsT .own ns), .tr (lsT .own ms), .tr (bkT ns (numB ns)), .tr (bkT ms (numB ms)), .no, .no, .no, .no, .no], []⟩ := fun z => by
    have hi2 := P_init_two s2
    have hst : strsT (ms.map aS) = some ms := strsT_map ms
    have x3 : escL ((ms.map aS).reverse ++ ms.map aS) = true := by rw [← List.map_reverse, ← List.map_append, escL_str]
    have z3 : ms.length + ms.length ≤ sizeLine := szS (by omega)
    rw [List.map_reverse] at hi2
    have hk := kidL_str (o := .frz) ms
    generalize numB ms = b2 at *
    generalize numB ns = b1 at *
    unfold lw2
    simp! [fLstR, hst, k2, c2, x2, x3, z3, hi2, hk, kidc_aS]
  rw [q2]
  clear q2
  have hib1 := P_is_book s1
  have hib2 := P_is_book s2
  have q3 : ∀ z, lw3 z ⟨[.no, .tr (rowT f5), .tr (iT N1), .tr (iT N2), .tr (iT p5), .tr (lsT .own ns), .tr (lsT .own ms), .tr (bkT ns (numB ns)), .tr (bkT ms (numB ms)), .no, .no, .no, .no, .no], []⟩ = z ⟨[.no, .tr (rowT f5), .tr (iT N1), .tr (iT N2), .tr (iT p5), .tr (lsT .own ns), .tr (lsT .own ms), .tr (bkT ns (numB ns)), .tr (bkT ms (numB ms)), .no, .no, .no, .no, .no], []⟩ := fun z => by
    generalize numB ms = b2 at *
    generalize numB ns = b1 at *
    unfold lw3
    simp! [hib1, hib2, k1, k2, kidc_aS, c1, c2]
  rw [q3]
  clear q3
  have q4 : ∀ z, lw4 z ⟨[.no, .tr (rowT f5), .tr (iT N1), .tr (iT N2), .tr (iT p5), .tr (lsT .own ns), .tr (lsT .own ms), .tr (bkT ns (numB ns)), .tr (bkT ms (numB ms)), .no, .no, .no, .no, .no], []⟩ = z ⟨[.no, .tr (rowT f5), .tr (iT N1), .tr (iT N2), .tr (iT p5), .tr (lsT .own ns), .tr (lsT .own ms), .tr (bkT ns (numB ns)), .tr (bkT ms (numB ms)), .no, .no, .no, .no, .no], []⟩ := fun z => by
    have ht1 := P_text s1 (numB ns)
    have hr1 := P_read_good s1
    have hit := P_init_t (xs := ns) (fun x hx => s1.subset hx) (by omega)
    rw [sub_filter s1 nodup_RL] at hit
    have hk := kidL_str (o := .frz) ns
    have hk3 := kidL_str (o := .own) ns
    generalize numB ms = b2 at *
    generalize numB ns = b1 at *
    unfold lw4
    simp! [hib1, ht1, hr1, hit, k1, hk, hk3, kidc_aS, c1, x1]
  rw [q4]
  clear q4
  have s3 : List.Sublist (orL ns ms) RL := List.filter_sublist
  have q5 : ∀ z, lw5 z ⟨[.no, .tr (rowT f5), .tr (iT N1), .tr (iT N2), .tr (iT p5), .tr (lsT .own ns), .tr (lsT .own ms), .tr (bkT ns (numB ns)), .tr (bkT ms (numB ms)), .no, .no, .no, .no, .no], []⟩ = z ⟨LG f5 N1 N2 p5 ns ms (numB ns) (numB ms) (orL ns ms) .no .no .no .no, []⟩ := fun z => by
    generalize numB ms = b2 at *
    generalize numB ns = b1 at *
    have hlc : gLc [10] (noEx (gCall [] md_law_rules G_law_rules 0)) (bind md_law 10) t_law_1 e_law_1 ⟨[.no, .tr (rowT f5), .tr (iT N1), .tr (iT N2), .tr (iT p5), .tr (lsT .own ns), .tr (lsT .own ms), .tr (bkT ns b1), .tr (bkT ms b2), .no, .no, .no, .no, .no], []⟩ = some (.ok ⟨[.no, .tr (rowT f5), .tr (iT N1), .tr (iT N2), .tr (iT p5), .tr (lsT .own ns), .tr (lsT .own ms), .tr (bkT ns b1), .tr (bkT ms b2), .no, .no, .no, .no, .no], [.tr (lsT .own (orL ns ms))]⟩) := by
      rw [gLcP_is (xs := RL) (enc := aS) (.tr (lsT .own RL)) (.tr (lsT .lnt RL)) .lst .lnt (by simp! [P_law_rules]) rfl rfl rfl (by decide) rfl rfl rfl rfl rfl (fun x _ => rfl) (fun x => decide (x ∈ ns) || decide (x ∈ ms)) aS (fun x hx s' => by
        by_cases z1 : x ∈ ns <;> by_cases z2 : x ∈ ms <;> simp! [t_law_1, z1, z2, FIn_ls]) (fun x hx s' _ => ⟨by simp! [e_law_1], rfl⟩)]
    generalize orL ns ms = os at *
    unfold lw5
    simp! [hlc]
  rw [q5]
  clear q5
  have hib3 := P_is_book s3
  have q6 : ∀ z, lw6 z ⟨LG f5 N1 N2 p5 ns ms (numB ns) (numB ms) (orL ns ms) .no .no .no .no, []⟩ = z ⟨LG f5 N1 N2 p5 ns ms (numB ns) (numB ms) (orL ns ms) .no .no .no .no, []⟩ := fun z => by
    have ho := P_or (a := numB ns) (b := numB ms) s1 s2
    have k3 := kidL_str (o := .lnt) (orL ns ms)
    have k4 := cpL_str (orL ns ms)
    generalize orL ns ms = os at *
    generalize numB os = b3 at *
    generalize numB ms = b2 at *
    generalize numB ns = b1 at *
    unfold lw6
    simp! [fBinO, ho, hib3, k3, k4, kidc_aS]
  rw [q6]
  clear q6
  generalize orL ns ms = os at *
  have q7 : ∀ z, lw7 z ⟨LG f5 N1 N2 p5 ns ms (numB ns) (numB ms) os .no .no .no .no, []⟩ = z ⟨LG f5 N1 N2 p5 ns ms (numB ns) (numB ms) os .no .no .no .no, []⟩ := fun z => by
    have s4 : List.Sublist (sbL ns ms) RL := List.filter_sublist.trans s1
    have hib4 := P_is_book s4
    have hs := P_sub (a := numB ns) (b := numB ms) (ms := ms) s1
    have k3 := kidL_str (o := .lnt) (sbL ns ms)
    have k4 := cpL_str (sbL ns ms)
    generalize numB (sbL ns ms) = b3 at *
    generalize numB ms = b2 at *
    generalize numB ns = b1 at *
    have hlc : gLc [10] (gVar 5) (bind md_law 10) t_law_2 e_law_2 ⟨LG f5 N1 N2 p5 ns ms b1 b2 os .no .no .no .no, [.tr (bkT (sbL ns ms) b3)]⟩ = some (.ok ⟨LG f5 N1 N2 p5 ns ms b1 b2 os .no .no .no .no, [.tr (lsT .own (sbL ns ms)), .tr (bkT (sbL ns ms) b3)]⟩) := by
      rw [gLcP_is (xs := ns) (enc := aS) (.al [5]) (.al [5]) .lst .own rfl (by simp! []) rfl rfl (by omega) rfl rfl rfl rfl rfl (fun x _ => rfl) (fun x => !decide (x ∈ ms)) aS (fun x hx s' => by
        by_cases z2 : x ∈ ms <;> simp! [t_law_2, z2, FIn_ls]) (fun x hx s' _ => ⟨by simp! [e_law_2], rfl⟩)]
    generalize sbL ns ms = sb at *
    unfold lw7
    simp! [fBinO, hs, hlc, hib4, k3, k4, kidc_aS]
  rw [q7]
  clear q7
  have q8 : ∀ z, lw8 z ⟨LG f5 N1 N2 p5 ns ms (numB ns) (numB ms) os .no .no .no .no, []⟩ = z ⟨LG f5 N1 N2 p5 ns ms (numB ns) (numB ms) os .no .no .no .no, []⟩ := fun z => by
    have hib5 := P_is_book (List.Sublist.refl RL)
    have hib6 := P_is_book (List.nil_sublist RL)
    have hi0 := P_init_l (xs := []) (fun x hx => by cases hx) (by decide)
    have hi0 : G_Book_init [.nd (.ins 1 0) .own [], .nd .lst .lnt []] = some (.rt (.a .non) [.nd (.ins 1 2) .own [.nd .tup .own [], .a (.int (numB []))], .any]) := hi0
    have hib6 : G_law_is_book [.nd (.ins 1 2) .frz [.nd .tup .own [], .a (.int (numB []))], .nd .lst .lnt []] = some (.rt (bT true) [.any, .any]) := hib6
    have hib5 : G_law_is_book [bkT RL (numB RL), .nd .lst .lnt [aS "copies", aS "mark", aS "words", aS "reuse", aS "late", aS "revoke", aS "lapse", aS "shelve", aS "frozen", aS "wait", aS "room", aS "told"]] = some (.rt (bT true) [.any, .any]) := hib5
    have hfull := P_full
    generalize numB ms = b2 at *
    generalize numB ns = b1 at *
    generalize numB [] = b0 at *
    generalize numB RL = bF at *
    unfold lw8
    simp! [hib1, hib2, k1, k2, kidc_aS, c1, c2, hfull, P_law_rules, hib5, hi0, hib6]
  rw [q8]
  clear q8
  generalize numB ms = b2 at *
  generalize numB ns = b1 at *
  obtain ⟨ts, hts, hsp⟩ := P_spoilt s1 p5a
  obtain ⟨e11, k11, h1⟩ := law_l1 (fs := f5) (n1 := N1) (n2 := N2) (p := p5) (b1 := b1) (b2 := b2) (ns := ns) (ms := ms) (os := os) hts
  obtain ⟨e12, k12, h2⟩ := law_l2 (fs := f5) (n1 := N1) (n2 := N2) (p := p5) (b1 := b1) (b2 := b2) (ns := ns) (ms := ms) (os := os) k11 (xs := [-1, -1 - N1, 4096, 4096 + N2]) (by
    intro x hx
    simp only [List.mem_cons, List.not_mem_nil, or_false] at hx
    omega) (by simp)
  obtain ⟨e13, k13, h3⟩ := law_l3 (fs := f5) (n1 := N1) (n2 := N2) (p := p5) (b1 := b1) (b2 := b2) (ns := ns) (ms := ms) (os := os) k11 k12 l1 l2
  unfold lw9
  have h2 : loopE .lst (bind md_law 12) b_law_2 4 0 ⟨LG f5 N1 N2 p5 ns ms b1 b2 os .no e11 .no .no, [.tr (.nd .lst .lnt [iT (-1), iT (-1 - N1), iT 4096, iT (4096 + N2)])]⟩ = _ := h2
  have h3 : loopE .lst (bind md_law 13) b_law_3 5 0 ⟨LG f5 N1 N2 p5 ns ms b1 b2 os .no e11 e12 .no, [.tr (.nd .lst .lnt [aS "copy", aS "", aS "none", aS "told ", aS "first"])]⟩ = _ := h3
  simp! [hsp, sFor, kidc_aS, k1, c1, h1]
  erw [h2]
  simp! [sFor]
  erw [h3]
  have hq : FEq false (.nd .lst .own [aS "copies", aS "mark", aS "words", aS "reuse", aS "late", aS "revoke", aS "lapse", aS "shelve", aS "frozen", aS "wait", aS "room", aS "told"]) (lsT .own RL) = some (.bl true) := (FEq_strs (neg := false) (o := .own) (o' := .own) ok_RL ok_RL).trans (by simp)
  simp! [P_law_rules, hq]
end
section
variable {P : Program} {w : World} {K : PySem.W.Frag} {mg : Str → Option Value} {base : Heap}
theorem ok_law (T : Txt K mg) : FnOk P w K mg base CX0 5 T.a_law T.fd_law ["_law_script"] (spLaw K) := ok_law_of lawIs T
end
theorem txt_mk {K : PySem.W.Frag} {h : Heap} {mg : Str → Option Value} (X : K.In h) (G : h.Ns mainGlobals mg)
    {c_RuleSet : Addr}
    {c_RuleSet_RULES : Addr} {odc_RuleSet_RULES : Option Addr} {nc_RuleSet_RULES : Nat} {slc_RuleSet_RULES : Array (Option Value)}
    {c_Book : Addr}
    {c_Book_RULES : Addr} {odc_Book_RULES : Option Addr} {nc_Book_RULES : Nat} {slc_Book_RULES : Array (Option Value)}
    {tkc_Book_RULES_0 : Tok}
    {tkc_Book_RULES_1 : Tok}
    {tkc_Book_RULES_2 : Tok}
    {tkc_Book_RULES_3 : Tok}
    {tkc_Book_RULES_4 : Tok}
    {tkc_Book_RULES_5 : Tok}
    {tkc_Book_RULES_6 : Tok}
    {tkc_Book_RULES_7 : Tok}
    {tkc_Book_RULES_8 : Tok}
    {tkc_Book_RULES_9 : Tok}
    {tkc_Book_RULES_10 : Tok}
    {tkc_Book_RULES_11 : Tok}
    {f0 : Addr} {od0 an0 : Option Addr} {sl0 : Array (Option Value)} {oc0 kV0 dc0 pm0 cd0 ct0 : Value}
    {f1 : Addr} {od1 an1 : Option Addr} {sl1 : Array (Option Value)} {oc1 kV1 dc1 pm1 cd1 ct1 : Value}
    {f2 : Addr} {od2 an2 : Option Addr} {sl2 : Array (Option Value)} {oc2 kV2 dc2 pm2 cd2 ct2 : Value}
    {f3 : Addr} {od3 an3 : Option Addr} {sl3 : Array (Option Value)} {oc3 kV3 dc3 pm3 cd3 ct3 : Value}
    {f4 : Addr} {od4 an4 : Option Addr} {sl4 : Array (Option Value)} {oc4 kV4 dc4 pm4 cd4 ct4 : Value}
    {f5 : Addr} {od5 an5 : Option Addr} {sl5 : Array (Option Value)} {oc5 kV5 dc5 pm5 cd5 ct5 : Value}
    {f6 : Addr} {od6 an6 : Option Addr} {sl6 : Array (Option Value)} {oc6 kV6 dc6 pm6 cd6 ct6 : Value}
    {f7 : Addr} {od7 an7 : Option Addr} {sl7 : Array (Option Value)} {oc7 kV7 dc7 pm7 cd7 ct7 : Value}
    {f8 : Addr} {od8 an8 : Option Addr} {sl8 : Array (Option Value)} {oc8 kV8 dc8 pm8 cd8 ct8 : Value}
    {f9 : Addr} {od9 an9 : Option Addr} {sl9 : Array (Option Value)} {oc9 kV9 dc9 pm9 cd9 ct9 : Value}
    {f10 : Addr} {od10 an10 : Option Addr} {sl10 : Array (Option Value)} {oc10 kV10 dc10 pm10 cd10 ct10 : Value}
    {f11 : Addr} {od11 an11 : Option Addr} {sl11 : Array (Option Value)} {oc11 kV11 dc11 pm11 cd11 ct11 : Value}
    {f12 : Addr} {od12 an12 : Option Addr} {sl12 : Array (Option Value)} {oc12 kV12 dc12 pm12 cd12 ct12 : Value}
    {f13 : Addr} {od13 an13 : Option Addr} {sl13 : Array (Option Value)} {oc13 kV13 dc13 pm13 cd13 ct13 : Value}
    {f14 : Addr} {od14 an14 : Option Addr} {sl14 : Array (Option Value)} {oc14 kV14 dc14 pm14 cd14 ct14 : Value}
    {f15 : Addr} {od15 an15 : Option Addr} {sl15 : Array (Option Value)} {oc15 kV15 dc15 pm15 cd15 ct15 : Value}
    {f16 : Addr} {od16 an16 : Option Addr} {sl16 : Array (Option Value)} {oc16 kV16 dc16 pm16 cd16 ct16 : Value}
    {f17 : Addr} {od17 an17 : Option Addr} {sl17 : Array (Option Value)} {oc17 kV17 dc17 pm17 cd17 ct17 : Value}
    {ps17 : Addr} {rs17 : List Value}
    {f18 : Addr} {od18 an18 : Option Addr} {sl18 : Array (Option Value)} {oc18 kV18 dc18 pm18 cd18 ct18 : Value}
    {ps18 : Addr} {rs18 : List Value}
    {f19 : Addr} {od19 an19 : Option Addr} {sl19 : Array (Option Value)} {oc19 kV19 dc19 pm19 cd19 ct19 : Value}
    {ps19 : Addr} {rs19 : List Value}
    {e_BadValue : Addr}
    {e_BadText : Addr}
    {e_StoreError : Addr}
    {e_Refused : Addr}
    {e_NotNow : Addr}
    (aC_RuleSet : PySem.W.nsIn K mainGlobals "RuleSet" = some (some (.ref c_RuleSet)))
    (pg_RuleSet : PySem.W.plainGet K c_RuleSet Str.empty = true)
    (hd_RuleSet : PySem.W.hasDictIn K c_RuleSet = true)
    (po_RuleSet : PySem.W.plainOver K c_RuleSet = true)
    (sa_RuleSet : PySem.W.findIn K (.ref c_RuleSet) "__setattr__" = some (some (.builtin "object.__setattr__")))
    (mk_RuleSet : PySem.W.makesIn K c_RuleSet = true)
    (kc_RuleSet : PySem.W.keepIn K (.ref c_RuleSet) = true)
    (rd_RuleSet : PySem.W.readsIn K c_RuleSet (.type "type") = true)
    (ga_RuleSet : PySem.W.specialIn K (.ref c_RuleSet) "__getattribute__" = some (some (.builtin "type.__getattribute__")))
    (lkc_RuleSet_RULES : K.lookup c_RuleSet_RULES = some ⟨.type "tuple", odc_RuleSet_RULES, .seq #[] nc_RuleSet_RULES, slc_RuleSet_RULES⟩)
    (cv_RuleSet_RULES : PySem.W.findCls K (.ref c_RuleSet) (.type "type") "RULES" = some (.val (.ref c_RuleSet_RULES)))
    (ci_RuleSet_RULES : PySem.W.findIn K (.ref c_RuleSet) "RULES" = some (some (.ref c_RuleSet_RULES)))
    (cg_RuleSet_RULES : PySem.W.specialIn K (.ref c_RuleSet_RULES) "__get__" = some none)
    (aC_Book : PySem.W.nsIn K mainGlobals "Book" = some (some (.ref c_Book)))
    (pg_Book : PySem.W.plainGet K c_Book Str.empty = true)
    (hd_Book : PySem.W.hasDictIn K c_Book = true)
    (po_Book : PySem.W.plainOver K c_Book = true)
    (sa_Book : PySem.W.findIn K (.ref c_Book) "__setattr__" = some (some (.builtin "object.__setattr__")))
    (mk_Book : PySem.W.makesIn K c_Book = true)
    (kc_Book : PySem.W.keepIn K (.ref c_Book) = true)
    (nf_Book_names : PySem.W.findIn K (.ref c_Book) "names" = some none)
    (nf_Book_number : PySem.W.findIn K (.ref c_Book) "number" = some none)
    (iha_Book : PySem.W.findIn K (.ref c_Book) "__class__" = some (some (.builtin "object.__class__")))
    (ihn_Book : PySem.W.specialIn K (.builtin "object.__class__") "__get__" = some (some (.builtin "getset_descriptor.__get__")))
    (iht_Book : PySem.W.takesIn K (.builtin "object.__class__") = some true)
    (ihm_Book : PySem.W.mroIn K c_Book (.type "object") = some true)
    (hu_RuleSet : PySem.W.hasDictIn K c_RuleSet = true)
    (tu_RuleSet : PySem.W.typeIn K (.ref c_RuleSet) = some (.type "type"))
    (xu_Book_RuleSet : PySem.W.subIn K (.ref c_Book) (.ref c_RuleSet) = some true)
    (sff_Book : PySem.W.selfFirst K c_Book = true)
    (rd_Book : PySem.W.readsIn K c_Book (.type "type") = true)
    (ga_Book : PySem.W.specialIn K (.ref c_Book) "__getattribute__" = some (some (.builtin "type.__getattribute__")))
    (lkc_Book_RULES : K.lookup c_Book_RULES = some ⟨.type "tuple", odc_Book_RULES, .seq #[.str "copies" tkc_Book_RULES_0, .str "mark" tkc_Book_RULES_1, .str "words" tkc_Book_RULES_2, .str "reuse" tkc_Book_RULES_3, .str "late" tkc_Book_RULES_4, .str "revoke" tkc_Book_RULES_5, .str "lapse" tkc_Book_RULES_6, .str "shelve" tkc_Book_RULES_7, .str "frozen" tkc_Book_RULES_8, .str "wait" tkc_Book_RULES_9, .str "room" tkc_Book_RULES_10, .str "told" tkc_Book_RULES_11] nc_Book_RULES, slc_Book_RULES⟩)
    (cv_Book_RULES : PySem.W.findCls K (.ref c_Book) (.type "type") "RULES" = some (.val (.ref c_Book_RULES)))
    (ci_Book_RULES : PySem.W.findIn K (.ref c_Book) "RULES" = some (some (.ref c_Book_RULES)))
    (cg_Book_RULES : PySem.W.specialIn K (.ref c_Book_RULES) "__get__" = some none)
    (a0 : PySem.W.nsIn K mainGlobals "_law_feed" = some (some (.ref f0)))
    (l0 : K.lookup f0 = some ⟨oc0, od0, .func (PySem.W.fnOf "_law_feed" "_law_feed" (defArgs s_law_feed) (defBody s_law_feed) (defScope s_law_feed) .none kV0 dc0 pm0 an0 cd0 ct0), sl0⟩)
    (c0 : PySem.W.codeIn K cd0 "_law_feed" = true)
    (k0 : PySem.W.keepIn K (.ref f0) = true)
    (a1 : PySem.W.nsIn K mainGlobals "_law_pick" = some (some (.ref f1)))
    (l1 : K.lookup f1 = some ⟨oc1, od1, .func (PySem.W.fnOf "_law_pick" "_law_pick" (defArgs s_law_pick) (defBody s_law_pick) (defScope s_law_pick) .none kV1 dc1 pm1 an1 cd1 ct1), sl1⟩)
    (c1 : PySem.W.codeIn K cd1 "_law_pick" = true)
    (k1 : PySem.W.keepIn K (.ref f1) = true)
    (a2 : PySem.W.nsIn K mainGlobals "_law_rules" = some (some (.ref f2)))
    (l2 : K.lookup f2 = some ⟨oc2, od2, .func (PySem.W.fnOf "_law_rules" "_law_rules" (defArgs s_law_rules) (defBody s_law_rules) (defScope s_law_rules) .none kV2 dc2 pm2 an2 cd2 ct2), sl2⟩)
    (c2 : PySem.W.codeIn K cd2 "_law_rules" = true)
    (k2 : PySem.W.keepIn K (.ref f2) = true)
    (a3 : PySem.W.nsIn K mainGlobals "_law_names" = some (some (.ref f3)))
    (l3 : K.lookup f3 = some ⟨oc3, od3, .func (PySem.W.fnOf "_law_names" "_law_names" (defArgs s_law_names) (defBody s_law_names) (defScope s_law_names) .none kV3 dc3 pm3 an3 cd3 ct3), sl3⟩)
    (c3 : PySem.W.codeIn K cd3 "_law_names" = true)
    (k3 : PySem.W.keepIn K (.ref f3) = true)
    (a4 : PySem.W.nsIn K mainGlobals "_law_number" = some (some (.ref f4)))
    (l4 : K.lookup f4 = some ⟨oc4, od4, .func (PySem.W.fnOf "_law_number" "_law_number" (defArgs s_law_number) (defBody s_law_number) (defScope s_law_number) .none kV4 dc4 pm4 an4 cd4 ct4), sl4⟩)
    (c4 : PySem.W.codeIn K cd4 "_law_number" = true)
    (k4 : PySem.W.keepIn K (.ref f4) = true)
    (a5 : PySem.W.nsIn K mainGlobals "_law_is_book" = some (some (.ref f5)))
    (l5 : K.lookup f5 = some ⟨oc5, od5, .func (PySem.W.fnOf "_law_is_book" "_law_is_book" (defArgs s_law_is_book) (defBody s_law_is_book) (defScope s_law_is_book) .none kV5 dc5 pm5 an5 cd5 ct5), sl5⟩)
    (c5 : PySem.W.codeIn K cd5 "_law_is_book" = true)
    (k5 : PySem.W.keepIn K (.ref f5) = true)
    (a6 : PySem.W.nsIn K mainGlobals "_law_bad_text" = some (some (.ref f6)))
    (l6 : K.lookup f6 = some ⟨oc6, od6, .func (PySem.W.fnOf "_law_bad_text" "_law_bad_text" (defArgs s_law_bad_text) (defBody s_law_bad_text) (defScope s_law_bad_text) .none kV6 dc6 pm6 an6 cd6 ct6), sl6⟩)
    (c6 : PySem.W.codeIn K cd6 "_law_bad_text" = true)
    (k6 : PySem.W.keepIn K (.ref f6) = true)
    (a7 : PySem.W.nsIn K mainGlobals "_law_bad_number" = some (some (.ref f7)))
    (l7 : K.lookup f7 = some ⟨oc7, od7, .func (PySem.W.fnOf "_law_bad_number" "_law_bad_number" (defArgs s_law_bad_number) (defBody s_law_bad_number) (defScope s_law_bad_number) .none kV7 dc7 pm7 an7 cd7 ct7), sl7⟩)
    (c7 : PySem.W.codeIn K cd7 "_law_bad_number" = true)
    (k7 : PySem.W.keepIn K (.ref f7) = true)
    (a8 : PySem.W.nsIn K mainGlobals "_law_bad_names" = some (some (.ref f8)))
    (l8 : K.lookup f8 = some ⟨oc8, od8, .func (PySem.W.fnOf "_law_bad_names" "_law_bad_names" (defArgs s_law_bad_names) (defBody s_law_bad_names) (defScope s_law_bad_names) .none kV8 dc8 pm8 an8 cd8 ct8), sl8⟩)
    (c8 : PySem.W.codeIn K cd8 "_law_bad_names" = true)
    (k8 : PySem.W.keepIn K (.ref f8) = true)
    (a9 : PySem.W.nsIn K mainGlobals "_law_spoilt" = some (some (.ref f9)))
    (l9 : K.lookup f9 = some ⟨oc9, od9, .func (PySem.W.fnOf "_law_spoilt" "_law_spoilt" (defArgs s_law_spoilt) (defBody s_law_spoilt) (defScope s_law_spoilt) .none kV9 dc9 pm9 an9 cd9 ct9), sl9⟩)
    (c9 : PySem.W.codeIn K cd9 "_law_spoilt" = true)
    (k9 : PySem.W.keepIn K (.ref f9) = true)
    (a10 : PySem.W.nsIn K mainGlobals "law" = some (some (.ref f10)))
    (l10 : K.lookup f10 = some ⟨oc10, od10, .func (PySem.W.fnOf "law" "law" (defArgs s_law) (defBody s_law) (defScope s_law) .none kV10 dc10 pm10 an10 cd10 ct10), sl10⟩)
    (c10 : PySem.W.codeIn K cd10 "law" = true)
    (k10 : PySem.W.keepIn K (.ref f10) = true)
    (a11 : PySem.W.findIn K (.ref c_Book) "__init__" = some (some (.ref f11)))
    (i11 : PySem.W.isFn K (.ref f11) = true)
    (l11 : K.lookup f11 = some ⟨oc11, od11, .func (PySem.W.fnOf "__init__" "RuleSet.__init__" (defArgs s_Book_init) (defBody s_Book_init) (defScope s_Book_init) .none kV11 dc11 pm11 an11 cd11 ct11), sl11⟩)
    (c11 : PySem.W.codeIn K cd11 "RuleSet.__init__" = true)
    (k11 : PySem.W.keepIn K (.ref f11) = true)
    (a12 : PySem.W.findIn K (.ref c_Book) "__contains__" = some (some (.ref f12)))
    (i12 : PySem.W.isFn K (.ref f12) = true)
    (l12 : K.lookup f12 = some ⟨oc12, od12, .func (PySem.W.fnOf "__contains__" "RuleSet.__contains__" (defArgs s_Book_contains) (defBody s_Book_contains) (defScope s_Book_contains) .none kV12 dc12 pm12 an12 cd12 ct12), sl12⟩)
    (c12 : PySem.W.codeIn K cd12 "RuleSet.__contains__" = true)
    (k12 : PySem.W.keepIn K (.ref f12) = true)
    (a13 : PySem.W.findIn K (.ref c_Book) "__iter__" = some (some (.ref f13)))
    (i13 : PySem.W.isFn K (.ref f13) = true)
    (l13 : K.lookup f13 = some ⟨oc13, od13, .func (PySem.W.fnOf "__iter__" "RuleSet.__iter__" (defArgs s_Book_iter) (defBody s_Book_iter) (defScope s_Book_iter) .none kV13 dc13 pm13 an13 cd13 ct13), sl13⟩)
    (c13 : PySem.W.codeIn K cd13 "RuleSet.__iter__" = true)
    (k13 : PySem.W.keepIn K (.ref f13) = true)
    (a14 : PySem.W.findIn K (.ref c_Book) "text" = some (some (.ref f14)))
    (i14 : PySem.W.isFn K (.ref f14) = true)
    (l14 : K.lookup f14 = some ⟨oc14, od14, .func (PySem.W.fnOf "text" "RuleSet.text" (defArgs s_Book_text) (defBody s_Book_text) (defScope s_Book_text) .none kV14 dc14 pm14 an14 cd14 ct14), sl14⟩)
    (c14 : PySem.W.codeIn K cd14 "RuleSet.text" = true)
    (k14 : PySem.W.keepIn K (.ref f14) = true)
    (a15 : PySem.W.findIn K (.ref c_Book) "__or__" = some (some (.ref f15)))
    (i15 : PySem.W.isFn K (.ref f15) = true)
    (l15 : K.lookup f15 = some ⟨oc15, od15, .func (PySem.W.fnOf "__or__" "Book.__or__" (defArgs s_Book_or) (defBody s_Book_or) (defScope s_Book_or) .none kV15 dc15 pm15 an15 cd15 ct15), sl15⟩)
    (c15 : PySem.W.codeIn K cd15 "Book.__or__" = true)
    (k15 : PySem.W.keepIn K (.ref f15) = true)
    (a16 : PySem.W.findIn K (.ref c_Book) "__sub__" = some (some (.ref f16)))
    (i16 : PySem.W.isFn K (.ref f16) = true)
    (l16 : K.lookup f16 = some ⟨oc16, od16, .func (PySem.W.fnOf "__sub__" "Book.__sub__" (defArgs s_Book_sub) (defBody s_Book_sub) (defScope s_Book_sub) .none kV16 dc16 pm16 an16 cd16 ct16), sl16⟩)
    (c16 : PySem.W.codeIn K cd16 "Book.__sub__" = true)
    (k16 : PySem.W.keepIn K (.ref f16) = true)
    (a17 : PySem.W.findCls K (.ref c_Book) (.type "type") "read" = some (.get (.builtin "staticmethod.__get__") (.ref ps17) .none (.ref c_Book)))
    (i17 : PySem.W.recIn K ps17 "staticmethod" = some (.ref f17 :: rs17))
    (l17 : K.lookup f17 = some ⟨oc17, od17, .func (PySem.W.fnOf "read" "Book.read" (defArgs s_Book_read) (defBody s_Book_read) (defScope s_Book_read) .none kV17 dc17 pm17 an17 cd17 ct17), sl17⟩)
    (c17 : PySem.W.codeIn K cd17 "Book.read" = true)
    (k17 : PySem.W.keepIn K (.ref f17) = true)
    (a18 : PySem.W.findCls K (.ref c_Book) (.type "type") "of_number" = some (.get (.builtin "staticmethod.__get__") (.ref ps18) .none (.ref c_Book)))
    (i18 : PySem.W.recIn K ps18 "staticmethod" = some (.ref f18 :: rs18))
    (l18 : K.lookup f18 = some ⟨oc18, od18, .func (PySem.W.fnOf "of_number" "Book.of_number" (defArgs s_Book_of_number) (defBody s_Book_of_number) (defScope s_Book_of_number) .none kV18 dc18 pm18 an18 cd18 ct18), sl18⟩)
    (c18 : PySem.W.codeIn K cd18 "Book.of_number" = true)
    (k18 : PySem.W.keepIn K (.ref f18) = true)
    (a19 : PySem.W.findCls K (.ref c_Book) (.type "type") "full" = some (.get (.builtin "staticmethod.__get__") (.ref ps19) .none (.ref c_Book)))
    (i19 : PySem.W.recIn K ps19 "staticmethod" = some (.ref f19 :: rs19))
    (l19 : K.lookup f19 = some ⟨oc19, od19, .func (PySem.W.fnOf "full" "Book.full" (defArgs s_Book_full) (defBody s_Book_full) (defScope s_Book_full) .none kV19 dc19 pm19 an19 cd19 ct19), sl19⟩)
    (c19 : PySem.W.codeIn K cd19 "Book.full" = true)
    (k19 : PySem.W.keepIn K (.ref f19) = true)
    (z_ValueError : PySem.W.nsIn K mainGlobals "ValueError" = some none)
    (z_abs : PySem.W.nsIn K mainGlobals "abs" = some none)
    (z_bool : PySem.W.nsIn K mainGlobals "bool" = some none)
    (z_int : PySem.W.nsIn K mainGlobals "int" = some none)
    (z_isinstance : PySem.W.nsIn K mainGlobals "isinstance" = some none)
    (z_iter : PySem.W.nsIn K mainGlobals "iter" = some none)
    (z_len : PySem.W.nsIn K mainGlobals "len" = some none)
    (z_list : PySem.W.nsIn K mainGlobals "list" = some none)
    (z_range : PySem.W.nsIn K mainGlobals "range" = some none)
    (z_reversed : PySem.W.nsIn K mainGlobals "reversed" = some none)
    (z_staticmethod : PySem.W.nsIn K mainGlobals "staticmethod" = some none)
    (z_str : PySem.W.nsIn K mainGlobals "str" = some none)
    (z_tuple : PySem.W.nsIn K mainGlobals "tuple" = some none)
    (gx_BadValue : PySem.W.nsIn K mainGlobals "BadValue" = some (some (.ref e_BadValue)))
    (xx_BadValue : PySem.W.excIn K e_BadValue [.type "ValueError", .type "Exception", .type "BaseException", .type "object"] "ValueError.__new__" = true)
    (kx_BadValue : PySem.W.keepIn K (.ref e_BadValue) = true)
    (bx_BadValue : PySem.W.subIn K (.ref e_BadValue) (.type "BaseException") = some true)
    (tx_BadValue : PySem.W.typeIn K (.ref e_BadValue) = some (.type "type"))
    (hg_BadValue : PySem.W.findIn K (.ref e_BadValue) "__getattribute__" = some (some (.builtin "BaseException.__getattribute__")))
    (hk_BadValue : PySem.W.findIn K (.ref e_BadValue) "__getattr__" = some none)
    (hh_BadValue : PySem.W.hasDictIn K e_BadValue = true)
    (ha_BadValue : PySem.W.findIn K (.ref e_BadValue) "__class__" = some (some (.builtin "object.__class__")))
    (hn_BadValue : PySem.W.specialIn K (.builtin "object.__class__") "__get__" = some (some (.builtin "getset_descriptor.__get__")))
    (ht_BadValue : PySem.W.takesIn K (.builtin "object.__class__") = some true)
    (hm_BadValue : PySem.W.mroIn K e_BadValue (.type "object") = some true)
    (gx_BadText : PySem.W.nsIn K mainGlobals "BadText" = some (some (.ref e_BadText)))
    (xx_BadText : PySem.W.excIn K e_BadText [.type "ValueError", .type "Exception", .type "BaseException", .type "object"] "ValueError.__new__" = true)
    (kx_BadText : PySem.W.keepIn K (.ref e_BadText) = true)
    (bx_BadText : PySem.W.subIn K (.ref e_BadText) (.type "BaseException") = some true)
    (tx_BadText : PySem.W.typeIn K (.ref e_BadText) = some (.type "type"))
    (hg_BadText : PySem.W.findIn K (.ref e_BadText) "__getattribute__" = some (some (.builtin "BaseException.__getattribute__")))
    (hk_BadText : PySem.W.findIn K (.ref e_BadText) "__getattr__" = some none)
    (hh_BadText : PySem.W.hasDictIn K e_BadText = true)
    (ha_BadText : PySem.W.findIn K (.ref e_BadText) "__class__" = some (some (.builtin "object.__class__")))
    (hn_BadText : PySem.W.specialIn K (.builtin "object.__class__") "__get__" = some (some (.builtin "getset_descriptor.__get__")))
    (ht_BadText : PySem.W.takesIn K (.builtin "object.__class__") = some true)
    (hm_BadText : PySem.W.mroIn K e_BadText (.type "object") = some true)
    (gx_StoreError : PySem.W.nsIn K mainGlobals "StoreError" = some (some (.ref e_StoreError)))
    (xx_StoreError : PySem.W.excIn K e_StoreError [.type "ValueError", .type "Exception", .type "BaseException", .type "object"] "ValueError.__new__" = true)
    (kx_StoreError : PySem.W.keepIn K (.ref e_StoreError) = true)
    (bx_StoreError : PySem.W.subIn K (.ref e_StoreError) (.type "BaseException") = some true)
    (tx_StoreError : PySem.W.typeIn K (.ref e_StoreError) = some (.type "type"))
    (hg_StoreError : PySem.W.findIn K (.ref e_StoreError) "__getattribute__" = some (some (.builtin "BaseException.__getattribute__")))
    (hk_StoreError : PySem.W.findIn K (.ref e_StoreError) "__getattr__" = some none)
    (hh_StoreError : PySem.W.hasDictIn K e_StoreError = true)
    (ha_StoreError : PySem.W.findIn K (.ref e_StoreError) "__class__" = some (some (.builtin "object.__class__")))
    (hn_StoreError : PySem.W.specialIn K (.builtin "object.__class__") "__get__" = some (some (.builtin "getset_descriptor.__get__")))
    (ht_StoreError : PySem.W.takesIn K (.builtin "object.__class__") = some true)
    (hm_StoreError : PySem.W.mroIn K e_StoreError (.type "object") = some true)
    (gx_Refused : PySem.W.nsIn K mainGlobals "Refused" = some (some (.ref e_Refused)))
    (xx_Refused : PySem.W.excIn K e_Refused [.type "ValueError", .type "Exception", .type "BaseException", .type "object"] "ValueError.__new__" = true)
    (kx_Refused : PySem.W.keepIn K (.ref e_Refused) = true)
    (bx_Refused : PySem.W.subIn K (.ref e_Refused) (.type "BaseException") = some true)
    (tx_Refused : PySem.W.typeIn K (.ref e_Refused) = some (.type "type"))
    (hg_Refused : PySem.W.findIn K (.ref e_Refused) "__getattribute__" = some (some (.builtin "BaseException.__getattribute__")))
    (hk_Refused : PySem.W.findIn K (.ref e_Refused) "__getattr__" = some none)
    (hh_Refused : PySem.W.hasDictIn K e_Refused = true)
    (ha_Refused : PySem.W.findIn K (.ref e_Refused) "__class__" = some (some (.builtin "object.__class__")))
    (hn_Refused : PySem.W.specialIn K (.builtin "object.__class__") "__get__" = some (some (.builtin "getset_descriptor.__get__")))
    (ht_Refused : PySem.W.takesIn K (.builtin "object.__class__") = some true)
    (hm_Refused : PySem.W.mroIn K e_Refused (.type "object") = some true)
    (gx_NotNow : PySem.W.nsIn K mainGlobals "NotNow" = some (some (.ref e_NotNow)))
    (xx_NotNow : PySem.W.excIn K e_NotNow [.type "ValueError", .type "Exception", .type "BaseException", .type "object"] "ValueError.__new__" = true)
    (kx_NotNow : PySem.W.keepIn K (.ref e_NotNow) = true)
    (bx_NotNow : PySem.W.subIn K (.ref e_NotNow) (.type "BaseException") = some true)
    (tx_NotNow : PySem.W.typeIn K (.ref e_NotNow) = some (.type "type"))
    (hg_NotNow : PySem.W.findIn K (.ref e_NotNow) "__getattribute__" = some (some (.builtin "BaseException.__getattribute__")))
    (hk_NotNow : PySem.W.findIn K (.ref e_NotNow) "__getattr__" = some none)
    (hh_NotNow : PySem.W.hasDictIn K e_NotNow = true)
    (ha_NotNow : PySem.W.findIn K (.ref e_NotNow) "__class__" = some (some (.builtin "object.__class__")))
    (hn_NotNow : PySem.W.specialIn K (.builtin "object.__class__") "__get__" = some (some (.builtin "getset_descriptor.__get__")))
    (ht_NotNow : PySem.W.takesIn K (.builtin "object.__class__") = some true)
    (hm_NotNow : PySem.W.mroIn K e_NotNow (.type "object") = some true)
    (mx_BadValue_StoreError : PySem.W.subIn K (.ref e_BadValue) (.ref e_StoreError) = some true)
    (mx_BadText_StoreError : PySem.W.subIn K (.ref e_BadText) (.ref e_StoreError) = some true)
    (ix_BadValue_BadText : PySem.W.subIn K (.ref e_BadValue) (.ref e_BadText) = some false)
    (is_BadValue_BadText : PySem.W.subIn K (.ref e_BadValue) (.ref e_BadValue) = some true)
    (ix_BadValue_ValueError : PySem.W.subIn K (.ref e_BadValue) (.type "ValueError") = some true)
    (ix_BadValue_BadValue : PySem.W.subIn K (.ref e_BadValue) (.ref e_BadValue) = some true)
    (ix_BadValue_Refused : PySem.W.subIn K (.ref e_BadValue) (.ref e_Refused) = some false)
    (is_BadValue_Refused : PySem.W.subIn K (.ref e_BadValue) (.ref e_BadValue) = some true)
    (ix_BadValue_NotNow : PySem.W.subIn K (.ref e_BadValue) (.ref e_NotNow) = some false)
    (is_BadValue_NotNow : PySem.W.subIn K (.ref e_BadValue) (.ref e_BadValue) = some true)
    (ix_BadText_BadText : PySem.W.subIn K (.ref e_BadText) (.ref e_BadText) = some true)
    (ix_BadText_ValueError : PySem.W.subIn K (.ref e_BadText) (.type "ValueError") = some true)
    (ix_BadText_BadValue : PySem.W.subIn K (.ref e_BadText) (.ref e_BadValue) = some false)
    (is_BadText_BadValue : PySem.W.subIn K (.ref e_BadText) (.ref e_BadText) = some true)
    (ix_BadText_Refused : PySem.W.subIn K (.ref e_BadText) (.ref e_Refused) = some false)
    (is_BadText_Refused : PySem.W.subIn K (.ref e_BadText) (.ref e_BadText) = some true)
    (ix_BadText_NotNow : PySem.W.subIn K (.ref e_BadText) (.ref e_NotNow) = some false)
    (is_BadText_NotNow : PySem.W.subIn K (.ref e_BadText) (.ref e_BadText) = some true)
    : ∃ T : Txt K mg, mg "law" = some (.ref T.a_law) ∧ (∀ (s : Shared) (v : Value), BindsTo s T.fd_law ⟨[v], []⟩ [("_law_script", v)]) := by
  have F0 := fun_mk (st := s_law_feed) l0 c0 k0
  have b0 := F0.binds (ps := ["_law_script"]) fun _ _ _ _ _ _ us hl => match us, hl with | [_], _ => rfl
  have F1 := fun_mk (st := s_law_pick) l1 c1 k1
  have b1 := F1.binds (ps := ["_law_feed_here", "_law_limit"]) fun _ _ _ _ _ _ us hl => match us, hl with | [_, _], _ => rfl
  have F2 := fun_mk (st := s_law_rules) l2 c2 k2
  have b2 := F2.binds (ps := []) fun _ _ _ _ _ _ us hl => match us, hl with | [], _ => rfl
  have F3 := fun_mk (st := s_law_names) l3 c3 k3
  have b3 := F3.binds (ps := ["_law_number_here"]) fun _ _ _ _ _ _ us hl => match us, hl with | [_], _ => rfl
  have F4 := fun_mk (st := s_law_number) l4 c4 k4
  have b4 := F4.binds (ps := ["_law_names_here"]) fun _ _ _ _ _ _ us hl => match us, hl with | [_], _ => rfl
  have F5 := fun_mk (st := s_law_is_book) l5 c5 k5
  have b5 := F5.binds (ps := ["_law_book", "_law_names_here"]) fun _ _ _ _ _ _ us hl => match us, hl with | [_, _], _ => rfl
  have F6 := fun_mk (st := s_law_bad_text) l6 c6 k6
  have b6 := F6.binds (ps := ["_law_text"]) fun _ _ _ _ _ _ us hl => match us, hl with | [_], _ => rfl
  have F7 := fun_mk (st := s_law_bad_number) l7 c7 k7
  have b7 := F7.binds (ps := ["_law_number_here"]) fun _ _ _ _ _ _ us hl => match us, hl with | [_], _ => rfl
  have F8 := fun_mk (st := s_law_bad_names) l8 c8 k8
  have b8 := F8.binds (ps := ["_law_names_here"]) fun _ _ _ _ _ _ us hl => match us, hl with | [_], _ => rfl
  have F9 := fun_mk (st := s_law_spoilt) l9 c9 k9
  have b9 := F9.binds (ps := ["_law_names_here", "_law_at"]) fun _ _ _ _ _ _ us hl => match us, hl with | [_, _], _ => rfl
  have F10 := fun_mk (st := s_law) l10 c10 k10
  have b10 := F10.binds (ps := ["_law_script"]) fun _ _ _ _ _ _ us hl => match us, hl with | [_], _ => rfl
  have F11 := fun_mk (st := s_Book_init) l11 c11 k11
  have b11 := F11.binds (ps := ["self", "names"]) fun _ _ _ _ _ _ us hl => match us, hl with | [_, _], _ => rfl
  have F12 := fun_mk (st := s_Book_contains) l12 c12 k12
  have b12 := F12.binds (ps := ["self", "name"]) fun _ _ _ _ _ _ us hl => match us, hl with | [_, _], _ => rfl
  have F13 := fun_mk (st := s_Book_iter) l13 c13 k13
  have b13 := F13.binds (ps := ["self"]) fun _ _ _ _ _ _ us hl => match us, hl with | [_], _ => rfl
  have F14 := fun_mk (st := s_Book_text) l14 c14 k14
  have b14 := F14.binds (ps := ["self"]) fun _ _ _ _ _ _ us hl => match us, hl with | [_], _ => rfl
  have F15 := fun_mk (st := s_Book_or) l15 c15 k15
  have b15 := F15.binds (ps := ["self", "other"]) fun _ _ _ _ _ _ us hl => match us, hl with | [_, _], _ => rfl
  have F16 := fun_mk (st := s_Book_sub) l16 c16 k16
  have b16 := F16.binds (ps := ["self", "other"]) fun _ _ _ _ _ _ us hl => match us, hl with | [_, _], _ => rfl
  have F17 := fun_mk (st := s_Book_read) l17 c17 k17
  have b17 := F17.binds (ps := ["text"]) fun _ _ _ _ _ _ us hl => match us, hl with | [_], _ => rfl
  have F18 := fun_mk (st := s_Book_of_number) l18 c18 k18
  have b18 := F18.binds (ps := ["number"]) fun _ _ _ _ _ _ us hl => match us, hl with | [_], _ => rfl
  have F19 := fun_mk (st := s_Book_full) l19 c19 k19
  have b19 := F19.binds (ps := []) fun _ _ _ _ _ _ us hl => match us, hl with | [], _ => rfl
  exact ⟨{
    c_RuleSet := _
    C_RuleSet := ⟨pg_RuleSet, hd_RuleSet, po_RuleSet, sa_RuleSet⟩
    g_RuleSet := PySem.W.mg_of X G aC_RuleSet
    kp_RuleSet := kc_RuleSet
    mk_RuleSet := mk_RuleSet
    r_RuleSet := ⟨rd_RuleSet, ga_RuleSet⟩
    c_RuleSet_RULES := _
    w_RuleSet_RULES := sqt_w lkc_RuleSet_RULES (by show 0 ≤ sizeLine; decide) .nil
    k_RuleSet_RULES := ⟨cv_RuleSet_RULES, rfl⟩
    ki_RuleSet_RULES := ⟨ci_RuleSet_RULES, rfl, cg_RuleSet_RULES, by decide +kernel⟩
    c_Book := _
    C_Book := ⟨pg_Book, hd_Book, po_Book, sa_Book⟩
    g_Book := PySem.W.mg_of X G aC_Book
    kp_Book := kc_Book
    mk_Book := mk_Book
    n_Book_names := nf_Book_names
    n_Book_number := nf_Book_number
    in_Book := ⟨⟨pg_Book, hd_Book, po_Book, sa_Book⟩, iha_Book, ihn_Book, iht_Book, ihm_Book, by show (if _ then _ else _) = _; rw [if_pos (beq_self_eq_true _)]⟩
    iu_Book_RuleSet := kit_true hu_RuleSet tu_RuleSet xu_Book_RuleSet
    sf_Book := sff_Book
    r_Book := ⟨rd_Book, ga_Book⟩
    c_Book_RULES := _
    w_Book_RULES := sqt_w lkc_Book_RULES (by show 12 ≤ sizeLine; decide) (.cons ⟨_, rfl⟩ (.cons ⟨_, rfl⟩ (.cons ⟨_, rfl⟩ (.cons ⟨_, rfl⟩ (.cons ⟨_, rfl⟩ (.cons ⟨_, rfl⟩ (.cons ⟨_, rfl⟩ (.cons ⟨_, rfl⟩ (.cons ⟨_, rfl⟩ (.cons ⟨_, rfl⟩ (.cons ⟨_, rfl⟩ (.cons ⟨_, rfl⟩ .nil))))))))))))
    k_Book_RULES := ⟨cv_Book_RULES, rfl⟩
    ki_Book_RULES := ⟨ci_Book_RULES, rfl, cg_Book_RULES, by decide +kernel⟩
    a_law_feed := _
    fd_law_feed := _
    F_law_feed := F0
    b_law_feed := b0
    m_law_feed := PySem.W.mg_of X G a0
    a_law_pick := _
    fd_law_pick := _
    F_law_pick := F1
    b_law_pick := b1
    m_law_pick := PySem.W.mg_of X G a1
    a_law_rules := _
    fd_law_rules := _
    F_law_rules := F2
    b_law_rules := b2
    m_law_rules := PySem.W.mg_of X G a2
    a_law_names := _
    fd_law_names := _
    F_law_names := F3
    b_law_names := b3
    m_law_names := PySem.W.mg_of X G a3
    a_law_number := _
    fd_law_number := _
    F_law_number := F4
    b_law_number := b4
    m_law_number := PySem.W.mg_of X G a4
    a_law_is_book := _
    fd_law_is_book := _
    F_law_is_book := F5
    b_law_is_book := b5
    m_law_is_book := PySem.W.mg_of X G a5
    a_law_bad_text := _
    fd_law_bad_text := _
    F_law_bad_text := F6
    b_law_bad_text := b6
    m_law_bad_text := PySem.W.mg_of X G a6
    a_law_bad_number := _
    fd_law_bad_number := _
    F_law_bad_number := F7
    b_law_bad_number := b7
    m_law_bad_number := PySem.W.mg_of X G a7
    a_law_bad_names := _
    fd_law_bad_names := _
    F_law_bad_names := F8
    b_law_bad_names := b8
    m_law_bad_names := PySem.W.mg_of X G a8
    a_law_spoilt := _
    fd_law_spoilt := _
    F_law_spoilt := F9
    b_law_spoilt := b9
    m_law_spoilt := PySem.W.mg_of X G a9
    a_law := _
    fd_law := _
    F_law := F10
    b_law := b10
    m_law := PySem.W.mg_of X G a10
    a_Book_init := _
    fd_Book_init := _
    F_Book_init := F11
    b_Book_init := b11
    m_Book_init := ⟨mk_Book, a11, i11, kc_Book⟩
    a_Book_contains := _
    fd_Book_contains := _
    F_Book_contains := F12
    b_Book_contains := b12
    m_Book_contains := ⟨a12, i12, k12⟩
    a_Book_iter := _
    fd_Book_iter := _
    F_Book_iter := F13
    b_Book_iter := b13
    m_Book_iter := ⟨a13, i13, k13⟩
    a_Book_text := _
    fd_Book_text := _
    F_Book_text := F14
    b_Book_text := b14
    m_Book_text := ⟨a14, i14, k14⟩
    a_Book_or := _
    fd_Book_or := _
    F_Book_or := F15
    b_Book_or := b15
    m_Book_or := ⟨a15, i15, k15⟩
    a_Book_sub := _
    fd_Book_sub := _
    F_Book_sub := F16
    b_Book_sub := b16
    m_Book_sub := ⟨a16, i16, k16⟩
    a_Book_read := _
    fd_Book_read := _
    F_Book_read := F17
    b_Book_read := b17
    m_Book_read := ⟨⟨rd_Book, ga_Book⟩, ⟨_, _, a17, i17⟩, k17⟩
    a_Book_of_number := _
    fd_Book_of_number := _
    F_Book_of_number := F18
    b_Book_of_number := b18
    m_Book_of_number := ⟨⟨rd_Book, ga_Book⟩, ⟨_, _, a18, i18⟩, k18⟩
    a_Book_full := _
    fd_Book_full := _
    F_Book_full := F19
    b_Book_full := b19
    m_Book_full := ⟨⟨rd_Book, ga_Book⟩, ⟨_, _, a19, i19⟩, k19⟩
    n_ValueError := PySem.W.mg_none_of X G z_ValueError
    n_abs := PySem.W.mg_none_of X G z_abs
    n_bool := PySem.W.mg_none_of X G z_bool
    n_int := PySem.W.mg_none_of X G z_int
    n_isinstance := PySem.W.mg_none_of X G z_isinstance
    n_iter := PySem.W.mg_none_of X G z_iter
    n_len := PySem.W.mg_none_of X G z_len
    n_list := PySem.W.mg_none_of X G z_list
    n_range := PySem.W.mg_none_of X G z_range
    n_reversed := PySem.W.mg_none_of X G z_reversed
    n_staticmethod := PySem.W.mg_none_of X G z_staticmethod
    n_str := PySem.W.mg_none_of X G z_str
    n_tuple := PySem.W.mg_none_of X G z_tuple
    e_BadValue := e_BadValue
    g_BadValue := PySem.W.mg_of X G gx_BadValue
    x_BadValue := xx_BadValue
    k_BadValue := kx_BadValue
    sb_BadValue := bx_BadValue
    ty_BadValue := tx_BadValue
    is_BadValue := ⟨hg_BadValue, hk_BadValue, bx_BadValue, hh_BadValue, ha_BadValue, hn_BadValue, ht_BadValue, hm_BadValue⟩
    e_BadText := e_BadText
    g_BadText := PySem.W.mg_of X G gx_BadText
    x_BadText := xx_BadText
    k_BadText := kx_BadText
    sb_BadText := bx_BadText
    ty_BadText := tx_BadText
    is_BadText := ⟨hg_BadText, hk_BadText, bx_BadText, hh_BadText, ha_BadText, hn_BadText, ht_BadText, hm_BadText⟩
    e_StoreError := e_StoreError
    g_StoreError := PySem.W.mg_of X G gx_StoreError
    x_StoreError := xx_StoreError
    k_StoreError := kx_StoreError
    sb_StoreError := bx_StoreError
    ty_StoreError := tx_StoreError
    is_StoreError := ⟨hg_StoreError, hk_StoreError, bx_StoreError, hh_StoreError, ha_StoreError, hn_StoreError, ht_StoreError, hm_StoreError⟩
    e_Refused := e_Refused
    g_Refused := PySem.W.mg_of X G gx_Refused
    x_Refused := xx_Refused
    k_Refused := kx_Refused
    sb_Refused := bx_Refused
    ty_Refused := tx_Refused
    is_Refused := ⟨hg_Refused, hk_Refused, bx_Refused, hh_Refused, ha_Refused, hn_Refused, ht_Refused, hm_Refused⟩
    e_NotNow := e_NotNow
    g_NotNow := PySem.W.mg_of X G gx_NotNow
    x_NotNow := xx_NotNow
    k_NotNow := kx_NotNow
    sb_NotNow := bx_NotNow
    ty_NotNow := tx_NotNow
    is_NotNow := ⟨hg_NotNow, hk_NotNow, bx_NotNow, hh_NotNow, ha_NotNow, hn_NotNow, ht_NotNow, hm_NotNow⟩
    m_BadValue_StoreError := PySem.W.exm_ref bx_StoreError hh_StoreError tx_StoreError mx_BadValue_StoreError
    m_BadText_StoreError := PySem.W.exm_ref bx_StoreError hh_StoreError tx_StoreError mx_BadText_StoreError
    i_BadValue_BadText := kit_false hh_BadText tx_BadText ix_BadValue_BadText is_BadValue_BadText
    i_BadValue_ValueError := kit_type (by decide +kernel) ix_BadValue_ValueError
    i_BadValue_BadValue := kit_true hh_BadValue tx_BadValue ix_BadValue_BadValue
    i_BadValue_Refused := kit_false hh_Refused tx_Refused ix_BadValue_Refused is_BadValue_Refused
    i_BadValue_NotNow := kit_false hh_NotNow tx_NotNow ix_BadValue_NotNow is_BadValue_NotNow
    i_BadText_BadText := kit_true hh_BadText tx_BadText ix_BadText_BadText
    i_BadText_ValueError := kit_type (by decide +kernel) ix_BadText_ValueError
    i_BadText_BadValue := kit_false hh_BadValue tx_BadValue ix_BadText_BadValue is_BadText_BadValue
    i_BadText_Refused := kit_false hh_Refused tx_Refused ix_BadText_Refused is_BadText_Refused
    i_BadText_NotNow := kit_false hh_NotNow tx_NotNow ix_BadText_NotNow is_BadText_NotNow }, PySem.W.mg_of X G a10, fun s v => .of_eq rfl⟩
theorem walk {l : PySem.W.OpenLaw} {q : Program} {loose : List Str} {XP : (Str → Option Value) → Heap → Prop} {YP : World → Heap → Prop} {d : DefRec} {K : Params → PySem.W.Frag} (hn : l.most = some 63) (hdf : d.params.defaults = [])
    (hY : ∀ (w : World) (h : Heap), YP w h → (K w.params).In h)
    (F : ∀ (w : World) (mg : Str → Option Value) (fa : Addr) (h : Heap), (K w.params).In h → h.Ns mainGlobals mg → mg d.name = some (.ref fa) →
      ∃ fd : FuncData, (∀ (s : Shared) (u : Value), BindsTo s fd ⟨[u], []⟩ [("_law_script", u)]) ∧ ∀ base : Heap, (K w.params).In base → base.Ns mainGlobals mg → FnOk l.prog w (K w.params) mg base CX0 5 fa fd ["_law_script"] (spLaw (K w.params))) :
    PySem.W.WalkO q loose XP YP l.row.toRowW d [] (fun f vs => PySem.call f vs) :=
  L2.walk_of (n := 63) (k := 5) (x := "_law_script") (CX := fun _ => CX0) (sp := fun w => spLaw (K w.params)) hn (by decide) hdf ⟨rfl, by decide, by decide⟩ hY F (fun _ _ a ns hl _ hS => ⟨a, ns, rfl, hS, hl, fun _ => rfl⟩) fun _ _ _ _ _ z => z
end Mine
open PySem PySem.W PyProof.Rows
set_option maxRecDepth 100000 in
set_option maxHeartbeats 0 in
theorem PySem.Challenge.cw_lotsandties_k87_books_holds : PySem.Challenge.rw_lotsandties_k87_books.Holds := by
  w_on; o_law; k_head; (case hw => w_witness2)
  k_fill
  refine Mine.walk (l := PySem.Challenge.rw_lotsandties_k87_books) rfl rfl (fun w h Y => PySem.W.kIn_of Y) ?F
  case F =>
    intro w mg fa h KX G hmg
    obtain ⟨T, e1, e2⟩ : ∃ T : Mine.Txt _ mg, mg "law" = some (.ref T.a_law) ∧ (∀ (s : Shared) (v : Value), BindsTo s T.fd_law ⟨[v], []⟩ [("_law_script", v)]) := by
      refine' Mine.txt_mk KX G ?aC_RuleSet ?pg_RuleSet ?hd_RuleSet ?po_RuleSet ?sa_RuleSet ?mk_RuleSet ?kc_RuleSet ?rd_RuleSet ?ga_RuleSet ?lkc_RuleSet_RULES ?cv_RuleSet_RULES ?ci_RuleSet_RULES ?cg_RuleSet_RULES ?aC_Book ?pg_Book ?hd_Book ?po_Book ?sa_Book ?mk_Book ?kc_Book ?nf_Book_names ?nf_Book_number ?iha_Book ?ihn_Book ?iht_Book ?ihm_Book ?hu_RuleSet ?tu_RuleSet ?xu_Book_RuleSet ?sff_Book ?rd_Book ?ga_Book ?lkc_Book_RULES ?cv_Book_RULES ?ci_Book_RULES ?cg_Book_RULES ?a0 ?l0 ?c0 ?k0 ?a1 ?l1 ?c1 ?k1 ?a2 ?l2 ?c2 ?k2 ?a3 ?l3 ?c3 ?k3 ?a4 ?l4 ?c4 ?k4 ?a5 ?l5 ?c5 ?k5 ?a6 ?l6 ?c6 ?k6 ?a7 ?l7 ?c7 ?k7 ?a8 ?l8 ?c8 ?k8 ?a9 ?l9 ?c9 ?k9 ?a10 ?l10 ?c10 ?k10 ?a11 ?i11 ?l11 ?c11 ?k11 ?a12 ?i12 ?l12 ?c12 ?k12 ?a13 ?i13 ?l13 ?c13 ?k13 ?a14 ?i14 ?l14 ?c14 ?k14 ?a15 ?i15 ?l15 ?c15 ?k15 ?a16 ?i16 ?l16 ?c16 ?k16 ?a17 ?i17 ?l17 ?c17 ?k17 ?a18 ?i18 ?l18 ?c18 ?k18 ?a19 ?i19 ?l19 ?c19 ?k19 ?z_ValueError ?z_abs ?z_bool ?z_int ?z_isinstance ?z_iter ?z_len ?z_list ?z_range ?z_reversed ?z_staticmethod ?z_str ?z_tuple ?gx_BadValue ?xx_BadValue ?kx_BadValue ?bx_BadValue ?tx_BadValue ?hg_BadValue ?hk_BadValue ?hh_BadValue ?ha_BadValue ?hn_BadValue ?ht_BadValue ?hm_BadValue ?gx_BadText ?xx_BadText ?kx_BadText ?bx_BadText ?tx_BadText ?hg_BadText ?hk_BadText ?hh_BadText ?ha_BadText ?hn_BadText ?ht_BadText ?hm_BadText ?gx_StoreError ?xx_StoreError ?kx_StoreError ?bx_StoreError ?tx_StoreError ?hg_StoreError ?hk_StoreError ?hh_StoreError ?ha_StoreError ?hn_StoreError ?ht_StoreError ?hm_StoreError ?gx_Refused ?xx_Refused ?kx_Refused ?bx_Refused ?tx_Refused ?hg_Refused ?hk_Refused ?hh_Refused ?ha_Refused ?hn_Refused ?ht_Refused ?hm_Refused ?gx_NotNow ?xx_NotNow ?kx_NotNow ?bx_NotNow ?tx_NotNow ?hg_NotNow ?hk_NotNow ?hh_NotNow ?ha_NotNow ?hn_NotNow ?ht_NotNow ?hm_NotNow ?mx_BadValue_StoreError ?mx_BadText_StoreError ?ix_BadValue_BadText ?is_BadValue_BadText ?ix_BadValue_ValueError ?ix_BadValue_BadValue ?ix_BadValue_Refused ?is_BadValue_Refused ?ix_BadValue_NotNow ?is_BadValue_NotNow ?ix_BadText_BadText ?ix_BadText_ValueError ?ix_BadText_BadValue ?is_BadText_BadValue ?ix_BadText_Refused ?is_BadText_Refused ?ix_BadText_NotNow ?is_BadText_NotNow
      (case aC_RuleSet => k_is); (case pg_RuleSet => k_is); (case hd_RuleSet => k_is); (case po_RuleSet => k_is); (case sa_RuleSet => k_is); (case mk_RuleSet => k_is)
      (case kc_RuleSet => k_is); (case rd_RuleSet => k_is); (case ga_RuleSet => k_is); (case cv_RuleSet_RULES => k_is); (case ci_RuleSet_RULES => k_is); (case cg_RuleSet_RULES => k_is)
      (case aC_Book => k_is); (case pg_Book => k_is); (case hd_Book => k_is); (case po_Book => k_is); (case sa_Book => k_is); (case mk_Book => k_is)
      (case kc_Book => k_is); (case nf_Book_names => k_is); (case nf_Book_number => k_is); (case iha_Book => k_is); (case ihn_Book => k_is); (case iht_Book => k_is)
      (case ihm_Book => k_is); (case hu_RuleSet => k_is); (case tu_RuleSet => k_is); (case xu_Book_RuleSet => k_is); (case sff_Book => k_is); (case rd_Book => k_is)
      (case ga_Book => k_is); (case cv_Book_RULES => k_is); (case ci_Book_RULES => k_is); (case cg_Book_RULES => k_is); (case a0 => k_is); (case l0 => k_is)
      (case c0 => k_is); (case k0 => k_is); (case a1 => k_is); (case l1 => k_is); (case c1 => k_is); (case k1 => k_is)
      (case a2 => k_is); (case l2 => k_is); (case c2 => k_is); (case k2 => k_is); (case a3 => k_is); (case l3 => k_is)
      (case c3 => k_is); (case k3 => k_is); (case a4 => k_is); (case l4 => k_is); (case c4 => k_is); (case k4 => k_is)
      (case a5 => k_is); (case l5 => k_is); (case c5 => k_is); (case k5 => k_is); (case a6 => k_is); (case l6 => k_is)
      (case c6 => k_is); (case k6 => k_is); (case a7 => k_is); (case l7 => k_is); (case c7 => k_is); (case k7 => k_is)
      (case a8 => k_is); (case l8 => k_is); (case c8 => k_is); (case k8 => k_is); (case a9 => k_is); (case l9 => k_is)
      (case c9 => k_is); (case k9 => k_is); (case a10 => k_is); (case l10 => k_is); (case c10 => k_is); (case k10 => k_is)
      (case a11 => k_is); (case i11 => k_is); (case l11 => k_is); (case c11 => k_is); (case k11 => k_is); (case a12 => k_is)
      (case i12 => k_is); (case l12 => k_is); (case c12 => k_is); (case k12 => k_is); (case a13 => k_is); (case i13 => k_is)
      (case l13 => k_is); (case c13 => k_is); (case k13 => k_is); (case a14 => k_is); (case i14 => k_is); (case l14 => k_is)
      (case c14 => k_is); (case k14 => k_is); (case a15 => k_is); (case i15 => k_is); (case l15 => k_is); (case c15 => k_is)
      (case k15 => k_is); (case a16 => k_is); (case i16 => k_is); (case l16 => k_is); (case c16 => k_is); (case k16 => k_is)
      (case a17 => k_is); (case i17 => k_is); (case l17 => k_is); (case c17 => k_is); (case k17 => k_is); (case a18 => k_is)
      (case i18 => k_is); (case l18 => k_is); (case c18 => k_is); (case k18 => k_is); (case a19 => k_is); (case i19 => k_is)
      (case l19 => k_is); (case c19 => k_is); (case k19 => k_is); (case z_ValueError => k_is); (case z_abs => k_is); (case z_bool => k_is)
      (case z_int => k_is); (case z_isinstance => k_is); (case z_iter => k_is); (case z_len => k_is); (case z_list => k_is); (case z_range => k_is)
      (case z_reversed => k_is); (case z_staticmethod => k_is); (case z_str => k_is); (case z_tuple => k_is); (case gx_BadValue => k_is); (case xx_BadValue => k_exc)
      (case kx_BadValue => k_is); (case bx_BadValue => k_is); (case tx_BadValue => k_is); (case hg_BadValue => k_is); (case hk_BadValue => k_is); (case hh_BadValue => k_is)
      (case ha_BadValue => k_is); (case hn_BadValue => k_is); (case ht_BadValue => k_is); (case hm_BadValue => k_is); (case gx_BadText => k_is); (case xx_BadText => k_exc)
      (case kx_BadText => k_is); (case bx_BadText => k_is); (case tx_BadText => k_is); (case hg_BadText => k_is); (case hk_BadText => k_is); (case hh_BadText => k_is)
      (case ha_BadText => k_is); (case hn_BadText => k_is); (case ht_BadText => k_is); (case hm_BadText => k_is); (case gx_StoreError => k_is); (case xx_StoreError => k_exc)
      (case kx_StoreError => k_is); (case bx_StoreError => k_is); (case tx_StoreError => k_is); (case hg_StoreError => k_is); (case hk_StoreError => k_is); (case hh_StoreError => k_is)
      (case ha_StoreError => k_is); (case hn_StoreError => k_is); (case ht_StoreError => k_is); (case hm_StoreError => k_is); (case gx_Refused => k_is); (case xx_Refused => k_exc)
      (case kx_Refused => k_is); (case bx_Refused => k_is); (case tx_Refused => k_is); (case hg_Refused => k_is); (case hk_Refused => k_is); (case hh_Refused => k_is)
      (case ha_Refused => k_is); (case hn_Refused => k_is); (case ht_Refused => k_is); (case hm_Refused => k_is); (case gx_NotNow => k_is); (case xx_NotNow => k_exc)
      (case kx_NotNow => k_is); (case bx_NotNow => k_is); (case tx_NotNow => k_is); (case hg_NotNow => k_is); (case hk_NotNow => k_is); (case hh_NotNow => k_is)
      (case ha_NotNow => k_is); (case hn_NotNow => k_is); (case ht_NotNow => k_is); (case hm_NotNow => k_is); (case mx_BadValue_StoreError => k_is); (case mx_BadText_StoreError => k_is)
      (case ix_BadValue_BadText => k_is); (case is_BadValue_BadText => k_is); (case ix_BadValue_ValueError => k_is); (case ix_BadValue_BadValue => k_is); (case ix_BadValue_Refused => k_is); (case is_BadValue_Refused => k_is)
      (case ix_BadValue_NotNow => k_is); (case is_BadValue_NotNow => k_is); (case ix_BadText_BadText => k_is); (case ix_BadText_ValueError => k_is); (case ix_BadText_BadValue => k_is); (case is_BadText_BadValue => k_is)
      (case ix_BadText_Refused => k_is); (case is_BadText_Refused => k_is); (case ix_BadText_NotNow => k_is); (case is_BadText_NotNow => k_is); (case lkc_RuleSet_RULES => k_is); (case lkc_Book_RULES => k_is)
    have e := hmg.symm.trans e1
    cases e
    exact ⟨T.fd_law, e2, fun base _ _ => Mine.ok_law T⟩

