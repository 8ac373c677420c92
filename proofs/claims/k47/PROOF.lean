import PyProof.Rows.All
import Wide.All
import OpenK.AllK
import Wide.FinOn
import HandS.ForMost
import HandS.More
import HandS.Codes
import HandS.TupLe
import HandS.IsInst
import HandS.Walk
import HandS.Deep
import HandS.MakeKwOnly
import HandS.Style
import HandS.ClsMeth
import HandS.DictComp
import HandS.Exc
import HandS.ExcOwn
import HandS.TryOnly
import HandS.ExcIs
import HandS.WordsExc
import HandS.CallSlots
import HandS.DeepEq
import HandS.DictTup
import HandS.Property
import HandS.TupAny
import HandS.TupMul
import HandS.NoneIn
import HandS.SortInts
import HandS.SortRule
import HandS.Rev
import HandS.RevRange
import HandS.SetFor
import HandS.TryMany
import HandS.SuiteRaise
import HandS.Star
import HandS.HotCalls
import HandS.Hot
import KE.KExcRaise
import KE.GoesEnum
import KE.DataFind
import KE.KDictDisplayH
import HandS.CallLocal
import HandS.StrMore
import HandS.StrSplit
import HandS.IterVal
import HandS.FStr
import KE.SortData
import KE.DataCmp
import HandS.GenCall
import HandS.GenList
import PyProof.RulesMatchSeq
import PyProof.Rows.MatchSeqLen
import KE.KeyNested
import PySem.Challenge.RW_lotsandties_k47_slots_that_are_read
set_option Elab.async false
set_option linter.all false
set_option maxRecDepth 100000
set_option maxHeartbeats 4000000
namespace Mine
open PySem L2
/-! Trees: what an object of the heap holds, without addresses. own: this place alone has it and may change it; frz: nobody changes it any more;
lnt: lent for the time of this def. -/
inductive Ow | own | frz | lnt
  deriving DecidableEq
/-- the written part; the classes by number, their fields' names in the order in which they come; the errors' classes by number -/
structure KC where
  K : PySem.W.Frag
  P : Program
  w : World
  ct : Nat → Addr
  nm : Nat → List Str
  et : Nat → Addr
/-- ins n k: an instance of class n with its first k fields -/
inductive Nk | lst | tup | ins (n k : Nat) | dct (ks : List Key) | dcT (ks : List NestedKey) | sti (l : List Int)
  deriving DecidableEq
inductive Tr | any | a (v : V) | nd (k : Nk) (o : Ow) (ts : List Tr)
def eff : Ow → Ow → Ow
  | .own, o => o
  | .lnt, .frz => .frz
  | .lnt, _ => .lnt
  | .frz, _ => .frz
mutual
/-- a child as seen from its parent; a tuple hands the flag on to its items -/
def kid : Ow → Tr → Tr
  | o, .nd .tup o' ts => .nd .tup .own (kidL (eff o o') ts)
  | o, .nd .lst o' ts => .nd .lst (eff o o') ts
  | o, .nd (.ins n k) o' ts => .nd (.ins n k) (eff o o') ts
  | o, .nd (.dct ks) o' ts => .nd (.dct ks) (eff o o') ts
  | o, .nd (.dcT ks) o' ts => .nd (.dcT ks) (eff o o') ts
  | o, .nd (.sti l) o' ts => .nd (.sti l) (eff o o') ts
  | _, .any => .any
  | _, .a v => .a v
def kidL : Ow → List Tr → List Tr
  | _, [] => []
  | o, t :: ts => kid o t :: kidL o ts
end
mutual
/-- may be read twice: nothing in it is own -/
def cp : Tr → Bool
  | .any => false
  | .a _ => true
  | .nd .tup .own ts => cpL ts
  | .nd _ .own _ => false
  | .nd _ _ _ => true
def cpL : List Tr → Bool
  | [] => true
  | t :: ts => cp t && cpL ts
end
mutual
/-- may leave the def: nothing in it is lent -/
def esc : Tr → Bool
  | .any => true
  | .a _ => true
  | .nd .tup .own ts => escL ts
  | .nd _ .lnt _ => false
  | .nd _ _ _ => true
def escL : List Tr → Bool
  | [] => true
  | t :: ts => esc t && escL ts
end
abbrev Ps := Addr → Prop
structure Zn where
  fz : Ps
  ln : Ps
def TSK (K : KC) (H H' : Hp) : Prop := ∀ a xs, H a = some (.tup xs) → H' a = some (.tup xs)
mutual
/-- what is a key: numbers, texts, None, and tuples of such (new ones or ones of the written part) -/
def KeyV (K : PySem.W.Frag) (H : Hp) : NestedKey → V → Prop
  | .none, v => v = .non
  | .num i, v => v = .int i
  | .text x, v => v = .str x
  | .tup ks, v => ∃ b vs, v = .ref b ∧ (H b = some (.tup vs) ∨ SqT K (fun _ => none) b vs) ∧ KeyVs K H ks vs
def KeyVs (K : PySem.W.Frag) (H : Hp) : List NestedKey → List V → Prop
  | [], vs => vs = []
  | k :: ks, vs => ∃ v vs', vs = v :: vs' ∧ KeyV K H k v ∧ KeyVs K H ks vs'
end
/-- a tuple that is a key -/
def KeyAt (K : PySem.W.Frag) (H : Hp) (b : Addr) (k : NestedKey) : Prop := KeyV K H k (.ref b) ∧ k.depth ≤ 8
mutual
theorem KeyV.imp {K : PySem.W.Frag} {H H' : Hp} (tp : ∀ a xs, H a = some (.tup xs) → H' a = some (.tup xs)) : ∀ {k : NestedKey} {v : V}, KeyV K H k v → KeyV K H' k v
  | .none, _, h => by simp only [KeyV] at h ⊢; exact h
  | .num _, _, h => by simp only [KeyV] at h ⊢; exact h
  | .text _, _, h => by simp only [KeyV] at h ⊢; exact h
  | .tup ks, _, h => by
    simp only [KeyV] at h ⊢
    obtain ⟨b, vs, e, h1, h2⟩ := h
    exact ⟨b, vs, e, h1.imp (tp _ _) id, KeyVs.imp tp h2⟩
theorem KeyVs.imp {K : PySem.W.Frag} {H H' : Hp} (tp : ∀ a xs, H a = some (.tup xs) → H' a = some (.tup xs)) : ∀ {ks : List NestedKey} {vs : List V}, KeyVs K H ks vs → KeyVs K H' ks vs
  | [], _, h => by simp only [KeyVs] at h ⊢; exact h
  | _ :: _, _, h => by
    simp only [KeyVs] at h ⊢
    obtain ⟨v, vs', e, h1, h2⟩ := h
    exact ⟨v, vs', e, KeyV.imp tp h1, KeyVs.imp tp h2⟩
end
theorem KeyAt.imp {K : PySem.W.Frag} {H H' : Hp} {b : Addr} {k : NestedKey} (tp : ∀ a xs, H a = some (.tup xs) → H' a = some (.tup xs)) (h : KeyAt K H b k) : KeyAt K H' b k := ⟨h.1.imp tp, h.2⟩
/-- a dict with tuples as keys: the keys, their places, the values -/
def dphi (P : Program) (w : World) (a : Addr) (l : List (NestedKey × Addr × V)) : Heap → Prop := fun h => ∃ xs : List (NestedKey × Addr × Value),
  Paired (fun (p : NestedKey × Addr × V) (q : NestedKey × Addr × Value) => p.1 = q.1 ∧ p.2.1 = q.2.1 ∧ RelV p.2.2 q.2.2) l xs ∧
  ∃ o es ep, h.get? a = some o ∧ o.ExactDict ∧ o.data = .dict es ep ∧ es.toList = xs.map (entryOfKey (nestedKind P w))
def ObjAt (K : KC) : Nk → Ow → Hp → Addr → List V → Prop
  | .lst, _, H, a, vs => H a = some (.lst vs)
  | .tup, _, H, a, vs => H a = some (.tup vs) ∨ SqT K.K (fun _ => none) a vs
  | .ins n k, _, H, a, vs => ((K.nm n).take k).length = vs.length ∧ ∃ dx, H a = some (.ins (K.ct n) dx (((K.nm n).take k).zip vs))
  | .dct ks, .own, H, a, vs => ks.length = vs.length ∧ H a = some (.dK (ks.zip vs))
  | .dct ks, _, H, a, vs => ks.length = vs.length ∧ Rd H a (.dK (ks.zip vs))
  | .dcT ks, _, H, a, vs => ∃ bs : List Addr, ks.length = vs.length ∧ bs.length = vs.length ∧ ks.Nodup ∧ vs.length ≤ sizeLine ∧ (a == sysModules) = false ∧ (∀ p ∈ ks.zip bs, KeyAt K.K H p.2 p.1) ∧ H a = some (.ext (dphi K.P K.w a (ks.zip (bs.zip vs))))
  | .sti l, _, H, a, vs => vs = [] ∧ l.Nodup ∧ H a = some (.set (fun i => decide (i ∈ l)) l.length)
/-- a node's own address and what it owns -/
def Nod (Z : Zn) : Nk → Ow → Addr → List Tr → Ps → Ps → Prop
  | .tup, .own, _, _, Ψ, Φ => ∀ b, Φ b ↔ Ψ b
  | .tup, _, _, _, _, Φ => ∀ b, ¬ Φ b
  | _, .own, a, ts, Ψ, Φ => (∀ b, Φ b ↔ b = a ∨ Ψ b) ∧ ¬ Ψ a ∧ escL ts = true
  | _, .frz, a, _, _, Φ => (∀ b, ¬ Φ b) ∧ Z.fz a
  | _, .lnt, a, _, _, Φ => (∀ b, ¬ Φ b) ∧ Z.ln a
mutual
def Rep (K : KC) (Z : Zn) (H : Hp) : Ow → Tr → V → Ps → Prop
  | _, .any, _, Φ => ∀ b, ¬ Φ b
  | _, .a u, v, Φ => v = u ∧ ∀ b, ¬ Φ b
  | m, .nd k o ts, v, Φ => ∃ a vs Ψ, v = .ref a ∧ ObjAt K k (eff m o) H a vs ∧ RepL K Z H (eff m o) ts vs Ψ ∧ Nod Z k (eff m o) a ts Ψ Φ
def RepL (K : KC) (Z : Zn) (H : Hp) : Ow → List Tr → List V → Ps → Prop
  | _, [], vs, Φ => vs = [] ∧ ∀ b, ¬ Φ b
  | m, t :: ts, vs, Φ => ∃ v vs' Φ1 Φ2, vs = v :: vs' ∧ Rep K Z H m t v Φ1 ∧ RepL K Z H m ts vs' Φ2 ∧ (∀ b, ¬ (Φ1 b ∧ Φ2 b)) ∧ ∀ b, Φ b ↔ Φ1 b ∨ Φ2 b
end
section
variable {K : KC} {Z Z' : Zn} {H H' : Hp} {m : Ow} {t : Tr} {ts : List Tr} {v : V} {vs : List V} {Φ Ψ : Ps} {a : Addr} {k : Nk} {o : Ow}
theorem eff_nown {m o : Ow} (h : m ≠ .own) : eff m o ≠ .own := by cases m <;> cases o <;> simp_all [eff]
/-- what is seen stays, where what it rests on stays -/
structure Kp (K : KC) (Z Z' : Zn) (H H' : Hp) (Φ : Ps) : Prop where
  fz : ∀ b, Z.fz b → Z'.fz b
  ln : ∀ b, Z.ln b → Z'.ln b
  ob : ∀ b ob, (Φ b ∨ Z.fz b ∨ Z.ln b) → H b = some ob → H' b = some ob
  tp : TSK K H H'
theorem Kp.sub {Ψ : Ps} (h : Kp K Z Z' H H' Φ) (s : ∀ b, Ψ b → Φ b) : Kp K Z Z' H H' Ψ := ⟨h.fz, h.ln, fun b ob q e => h.ob b ob (by grind) e, h.tp⟩
theorem ObjAt.fr (h : ObjAt K k o H a vs) (hk : k ≠ .tup → ∀ ob, H a = some ob → H' a = some ob) (tp : TSK K H H') : ObjAt K k o H' a vs := by
  cases k with
  | tup => exact h.imp (tp _ _) id
  | lst => exact hk (by simp) _ h
  | ins n j =>
    obtain ⟨l, dx, e⟩ := h
    exact ⟨l, dx, hk (by simp) _ e⟩
  | dct ks =>
    cases o with
    | own => exact ⟨h.1, hk (by simp) _ h.2⟩
    | frz => exact ⟨h.1, h.2.imp (hk (by simp) _) fun ⟨ob, e⟩ => ⟨ob, hk (by simp) _ e⟩⟩
    | lnt => exact ⟨h.1, h.2.imp (hk (by simp) _) fun ⟨ob, e⟩ => ⟨ob, hk (by simp) _ e⟩⟩
  | dcT ks =>
    obtain ⟨bs, h1, h2, h3, h4, h5, h6, h7⟩ := h
    exact ⟨bs, h1, h2, h3, h4, h5, fun p hp => (h6 p hp).imp tp, hk (by simp) _ h7⟩
  | sti l => exact ⟨h.1, h.2.1, hk (by simp) _ h.2.2⟩
/-- what is seen of a thing, whatever the flag -/
theorem ObjAt.weak {o' : Ow} (h : ObjAt K k o H a vs) (ho : o' ≠ .own) : ObjAt K k o' H a vs := by
  cases k with
  | dct ks => cases o <;> cases o' <;> first | exact absurd rfl ho | exact h | exact ⟨h.1, .inl h.2⟩
  | _ => exact h
theorem ObjAt.rd {ks : List Key} (h : ObjAt K (.dct ks) o H a vs) : ks.length = vs.length ∧ Rd H a (.dK (ks.zip vs)) := by
  cases o
  · exact ⟨h.1, .inl h.2⟩
  · exact h
  · exact h
theorem Nod.zone (h : Nod Z k o a ts Ψ Φ) (hk : k ≠ .tup) : (o = .own ∧ Φ a) ∨ Z.fz a ∨ Z.ln a := by
  cases k <;> cases o <;> simp_all [Nod]
theorem Nod.mono (h : Nod Z k o a ts Ψ Φ) (f : ∀ b, Z.fz b → Z'.fz b) (l : ∀ b, Z.ln b → Z'.ln b) : Nod Z' k o a ts Ψ Φ := by
  cases k <;> cases o <;> simp_all [Nod]
theorem Nod.sub (h : Nod Z k o a ts Ψ Φ) (ho : o = .own) : ∀ b, Ψ b → Φ b := by
  cases k <;> cases o <;> simp_all [Nod]
/-- what is not own owns nothing -/
theorem Rep.no0 : ∀ (t : Tr) {m : Ow} {v : V} {Φ : Ps}, m ≠ .own → Rep K Z H m t v Φ → ∀ b, ¬ Φ b
  | .any, _, _, _, _, h => h
  | .a _, _, _, _, _, h => h.2
  | .nd k o ts, m, v, Φ, hm, h => by
    obtain ⟨a, vs, Ψ, _, _, hl, hn⟩ := h
    have e := eff_nown (o := o) hm
    cases k <;> cases eo : eff m o <;> simp_all [Nod]
theorem RepL.no0 : ∀ (ts : List Tr) {m : Ow} {vs : List V} {Φ : Ps}, m ≠ .own → RepL K Z H m ts vs Φ → ∀ b, ¬ Φ b
  | [], _, _, _, _, h => h.2
  | t :: ts, m, vs, Φ, hm, h => by
    obtain ⟨v, vs', Φ1, Φ2, e, h1, h2, d, u⟩ := h
    intro b q
    rcases (u b).mp q with z | z
    · exact Rep.no0 t hm h1 b z
    · exact RepL.no0 ts hm h2 b z
mutual
theorem Rep.fr : ∀ (t : Tr) {m : Ow} {v : V} {Φ : Ps}, Rep K Z H m t v Φ → Kp K Z Z' H H' Φ → Rep K Z' H' m t v Φ
  | .any, _, _, _, h, _ => h
  | .a _, _, _, _, h, _ => h
  | .nd k o ts, m, v, Φ, h, kp => by
    obtain ⟨a, vs, Ψ, e, ho, hl, hn⟩ := h
    refine ⟨a, vs, Ψ, e, ho.fr (fun hk ob q => kp.ob a ob ?_ q) kp.tp, RepL.fr ts hl (kp.sub ?_), hn.mono kp.fz kp.ln⟩
    · rcases hn.zone hk with z | z
      · exact .inl z.2
      · exact .inr z
    · intro b hb
      by_cases eo : eff m o = .own
      · exact hn.sub eo b hb
      · exact absurd hb (RepL.no0 ts eo hl b)
theorem RepL.fr : ∀ (ts : List Tr) {m : Ow} {vs : List V} {Φ : Ps}, RepL K Z H m ts vs Φ → Kp K Z Z' H H' Φ → RepL K Z' H' m ts vs Φ
  | [], _, _, _, h, _ => h
  | t :: ts, m, vs, Φ, h, kp => by
    obtain ⟨v, vs', Φ1, Φ2, e, h1, h2, d, u⟩ := h
    exact ⟨v, vs', Φ1, Φ2, e, Rep.fr t h1 (kp.sub fun b q => (u b).mpr (.inl q)), RepL.fr ts h2 (kp.sub fun b q => (u b).mpr (.inr q)), d, u⟩
end
mutual
theorem rep_kid : ∀ {t : Tr} {m : Ow} {v : V} {Φ : Ps}, Rep K Z H .own (kid m t) v Φ ↔ Rep K Z H m t v Φ
  | .any, _, _, _ => Iff.rfl
  | .a _, _, _, _ => Iff.rfl
  | .nd .lst o ts, m, v, Φ => by simp [kid, Rep, eff]
  | .nd (.ins _ _) o ts, m, v, Φ => by simp [kid, Rep, eff]
  | .nd (.dct _) o ts, m, v, Φ => by simp [kid, Rep, eff]
  | .nd (.dcT _) o ts, m, v, Φ => by simp [kid, Rep, eff]
  | .nd (.sti _) o ts, m, v, Φ => by simp [kid, Rep, eff]
  | .nd .tup o ts, m, v, Φ => by
    show (∃ a vs Ψ, v = .ref a ∧ ObjAt K .tup .own H a vs ∧ RepL K Z H .own (kidL (eff m o) ts) vs Ψ ∧ Nod Z .tup .own a (kidL (eff m o) ts) Ψ Φ) ↔ (∃ a vs Ψ, v = .ref a ∧ ObjAt K .tup (eff m o) H a vs ∧ RepL K Z H (eff m o) ts vs Ψ ∧ Nod Z .tup (eff m o) a ts Ψ Φ)
    constructor
    · rintro ⟨a, vs, Ψ, e, ho, hl, hn⟩
      have hl := (repL_kid (ts := ts) (m := eff m o)).mp hl
      refine ⟨a, vs, Ψ, e, ho, hl, ?_⟩
      have hn : ∀ b, Φ b ↔ Ψ b := hn
      cases eo : eff m o with
      | own => exact hn
      | frz => exact fun b q => RepL.no0 ts (by rw [eo]; simp) hl b ((hn b).mp q)
      | lnt => exact fun b q => RepL.no0 ts (by rw [eo]; simp) hl b ((hn b).mp q)
    · rintro ⟨a, vs, Ψ, e, ho, hl, hn⟩
      refine ⟨a, vs, Ψ, e, ho, (repL_kid (ts := ts) (m := eff m o)).mpr hl, ?_⟩
      show ∀ b, Φ b ↔ Ψ b
      cases eo : eff m o with
      | own =>
        rw [eo] at hn
        exact hn
      | frz =>
        rw [eo] at hn hl
        exact fun b => ⟨fun q => absurd q (hn b), fun q => absurd q (RepL.no0 ts (by simp) hl b)⟩
      | lnt =>
        rw [eo] at hn hl
        exact fun b => ⟨fun q => absurd q (hn b), fun q => absurd q (RepL.no0 ts (by simp) hl b)⟩
theorem repL_kid : ∀ {ts : List Tr} {m : Ow} {vs : List V} {Φ : Ps}, RepL K Z H .own (kidL m ts) vs Φ ↔ RepL K Z H m ts vs Φ
  | [], _, _, _ => Iff.rfl
  | t :: ts, m, vs, Φ => by
    simp only [kidL, RepL]
    constructor
    · rintro ⟨v, vs', Φ1, Φ2, e, h1, h2, d, u⟩
      exact ⟨v, vs', Φ1, Φ2, e, rep_kid.mp h1, repL_kid.mp h2, d, u⟩
    · rintro ⟨v, vs', Φ1, Φ2, e, h1, h2, d, u⟩
      exact ⟨v, vs', Φ1, Φ2, e, rep_kid.mpr h1, repL_kid.mpr h2, d, u⟩
end
end
section
variable {K : KC} {Z Z' : Zn} {H H' : Hp} {m : Ow} {t t' : Tr} {ts : List Tr} {v w : V} {vs us : List V} {Φ Ψ : Ps} {a : Addr} {k : Nk} {o : Ow} {i : Nat}
theorem getq_lt' {α : Type} {l : List α} {i : Nat} {x : α} (h : l[i]? = some x) : i < l.length := (List.getElem?_eq_some_iff.mp h).1
theorem RepL.len : ∀ (ts : List Tr) {vs : List V} {Φ : Ps}, RepL K Z H m ts vs Φ → ts.length = vs.length
  | [], _, _, h => by rw [h.1]; rfl
  | t :: ts, vs, Φ, h => by
    obtain ⟨v, vs', Φ1, Φ2, e, h1, h2, d, u⟩ := h
    rw [e, List.length_cons, List.length_cons, RepL.len ts h2]
theorem RepL.cast {Ψ : Ps} : ∀ (ts : List Tr) {vs : List V} {Φ : Ps}, RepL K Z H m ts vs Φ → (∀ b, Ψ b ↔ Φ b) → RepL K Z H m ts vs Ψ
  | [], _, _, h, e => ⟨h.1, fun b q => h.2 b ((e b).mp q)⟩
  | t :: ts, vs, Φ, h, e => by
    obtain ⟨v, vs', Φ1, Φ2, e1, h1, h2, d, u⟩ := h
    exact ⟨v, vs', Φ1, Φ2, e1, h1, h2, d, fun b => (e b).trans (u b)⟩
theorem Nod.cast {Ψ' Φ' : Ps} (h : Nod Z k o a ts Ψ Φ) (e1 : ∀ b, Ψ' b ↔ Ψ b) (e2 : ∀ b, Φ' b ↔ Φ b) : Nod Z k o a ts Ψ' Φ' := by
  cases k <;> cases o <;> simp_all [Nod]
theorem Rep.cast {Ψ : Ps} : ∀ (t : Tr) {v : V} {Φ : Ps}, Rep K Z H m t v Φ → (∀ b, Ψ b ↔ Φ b) → Rep K Z H m t v Ψ
  | .any, _, _, h, e => fun b q => h b ((e b).mp q)
  | .a _, _, _, h, e => ⟨h.1, fun b q => h.2 b ((e b).mp q)⟩
  | .nd k o ts, v, Φ, h, e => by
    obtain ⟨a, vs, Ψ', e1, ho, hl, hn⟩ := h
    exact ⟨a, vs, Ψ', e1, ho, hl, hn.cast (fun _ => Iff.rfl) e⟩
/-- one item of a row, and how another one takes its place -/
theorem RepL.at_ : ∀ (ts : List Tr) {vs : List V} {Φ : Ps} {i : Nat} {t : Tr}, RepL K Z H m ts vs Φ → ts[i]? = some t → ∃ v Φ1 Φ2, vs[i]? = some v ∧ Rep K Z H m t v Φ1 ∧ (∀ b, ¬ (Φ1 b ∧ Φ2 b)) ∧ (∀ b, Φ b ↔ Φ1 b ∨ Φ2 b) ∧
    RepL K Z H m (ts.set i .any) vs Φ2 ∧ RepL K Z H m (ts.eraseIdx i) (vs.eraseIdx i) Φ2
  | [], _, _, _, _, _, q => by simp at q
  | x :: ts, vs, Φ, 0, t, h, q => by
    obtain ⟨v, vs', Φ1, Φ2, e, h1, h2, d, u⟩ := h
    cases q
    subst e
    exact ⟨v, Φ1, Φ2, rfl, h1, d, u, ⟨v, vs', fun _ => False, Φ2, rfl, fun _ h => h, h2, fun _ h => h.1, by simp⟩, h2⟩
  | x :: ts, vs, Φ, i + 1, t, h, q => by
    obtain ⟨v, vs', Φ1, Φ2, e, h1, h2, d, u⟩ := h
    subst e
    obtain ⟨w, Θ1, Θ2, e2, r1, d2, u2, r2, r3⟩ := RepL.at_ ts (i := i) (t := t) h2 (by simpa using q)
    exact ⟨w, Θ1, fun b => Φ1 b ∨ Θ2 b, by simpa using e2, r1, by grind, by grind, ⟨v, vs', Φ1, Θ2, rfl, h1, r2, by grind, fun _ => Iff.rfl⟩, ⟨v, _, Φ1, Θ2, rfl, h1, r3, by grind, fun _ => Iff.rfl⟩⟩
/-- something comes to a place that is known to be nothing -/
theorem RepL.put : ∀ (ts : List Tr) {vs : List V} {Φ Ψ : Ps} {i : Nat} {t : Tr} {v : V}, RepL K Z H m ts vs Φ → ts[i]? = some .any → vs[i]? = some v → Rep K Z H m t v Ψ → (∀ b, ¬ (Ψ b ∧ Φ b)) → RepL K Z H m (ts.set i t) vs (fun b => Ψ b ∨ Φ b)
  | [], _, _, _, _, _, _, _, q, _, _, _ => by simp at q
  | x :: ts, vs, Φ, Ψ, 0, t, v, h, q, e, r, d => by
    obtain ⟨v', vs', Φ1, Φ2, e1, h1, h2, d1, u⟩ := h
    cases q
    subst e1
    cases e
    have h1' : ∀ b, ¬ Φ1 b := h1
    exact ⟨v, vs', Ψ, Φ2, rfl, r, h2, by grind, by grind⟩
  | x :: ts, vs, Φ, Ψ, i + 1, t, v, h, q, e, r, d => by
    obtain ⟨v', vs', Φ1, Φ2, e1, h1, h2, d1, u⟩ := h
    subst e1
    have := RepL.put ts (i := i) (t := t) (v := v) (Ψ := Ψ) h2 (by simpa using q) (by simpa using e) r (by grind)
    exact ⟨v', vs', Φ1, fun b => Ψ b ∨ Φ2 b, rfl, h1, this, by grind, by grind⟩
theorem RepL.append : ∀ (ts : List Tr) {us : List Tr} {vs ws : List V} {Φ Ψ : Ps}, RepL K Z H m ts vs Φ → RepL K Z H m us ws Ψ → (∀ b, ¬ (Φ b ∧ Ψ b)) → RepL K Z H m (ts ++ us) (vs ++ ws) (fun b => Φ b ∨ Ψ b)
  | [], us, vs, ws, Φ, Ψ, h, r, d => by
    obtain ⟨rfl, h2⟩ := h
    exact r.cast us (by grind)
  | t :: ts, us, vs, ws, Φ, Ψ, h, r, d => by
    obtain ⟨v, vs', Φ1, Φ2, e1, h1, h2, d1, u⟩ := h
    subst e1
    exact ⟨v, vs' ++ ws, Φ1, fun b => Φ2 b ∨ Ψ b, rfl, h1, RepL.append ts h2 r (by grind), by grind, by grind⟩
theorem RepL.split : ∀ (ts : List Tr) {us : List Tr} {vs : List V} {Φ : Ps}, RepL K Z H m (ts ++ us) vs Φ → ∃ v1 v2 Φ1 Φ2, vs = v1 ++ v2 ∧ RepL K Z H m ts v1 Φ1 ∧ RepL K Z H m us v2 Φ2 ∧ (∀ b, ¬ (Φ1 b ∧ Φ2 b)) ∧ ∀ b, Φ b ↔ Φ1 b ∨ Φ2 b
  | [], us, vs, Φ, h => ⟨[], vs, fun _ => False, Φ, rfl, ⟨rfl, fun _ h => h⟩, h, by grind, by grind⟩
  | t :: ts, us, vs, Φ, h => by
    obtain ⟨v, vs', Φ1, Φ2, e1, h1, h2, d1, u⟩ := h
    obtain ⟨v1, v2, Θ1, Θ2, e, r1, r2, d, u2⟩ := RepL.split ts h2
    subst e1 e
    exact ⟨v :: v1, v2, fun b => Φ1 b ∨ Θ1 b, Θ2, rfl, ⟨v, v1, Φ1, Θ1, rfl, h1, r1, by grind, fun _ => Iff.rfl⟩, r2, by grind, by grind⟩
theorem escL_all : ∀ {ts : List Tr}, escL ts = true ↔ ∀ t ∈ ts, esc t = true
  | [] => by simp [escL]
  | t :: ts => by simp [escL, escL_all (ts := ts)]
theorem escL_set {ts : List Tr} (h : escL ts = true) (e : esc t = true) : escL (ts.set i t) = true := by
  rw [escL_all] at h ⊢
  intro x hx
  rcases List.mem_or_eq_of_mem_set hx with z | z
  · exact h x z
  · rw [z]; exact e
/-! paths -/
def getP : List Tr → List Nat → Option Tr
  | _, [] => none
  | ts, [i] => ts[i]?
  | ts, i :: j :: p => match ts[i]? with
    | some (.nd .tup _ _) => none
    | some (.nd _ .own us) => getP us (j :: p)
    | _ => none
def setP : List Tr → List Nat → Tr → List Tr
  | ts, [], _ => ts
  | ts, [i], t => ts.set i t
  | ts, i :: j :: p, t => match ts[i]? with
    | some (.nd k o us) => ts.set i (.nd k o (setP us (j :: p) t))
    | _ => ts
theorem relV_ex : ∀ v : V, ∃ u, RelV v u
  | .non => ⟨_, rfl⟩
  | .bl _ => ⟨_, rfl⟩
  | .int i => ⟨.int i 0, 0, rfl⟩
  | .str x => ⟨.str x 0, 0, rfl⟩
  | .byt b => ⟨.bytes b 0, 0, rfl⟩
  | .flt b => ⟨.float b 0, 0, rfl⟩
  | .ref _ => ⟨_, rfl⟩
  | .ty _ => ⟨_, rfl⟩
theorem relV_inj : ∀ {v v' : V} {u : Value}, RelV v u → RelV v' u → v = v' := by
  intro v v' u h h'
  cases v <;> cases v' <;> simp only [RelV] at h h' <;> grind
abbrev DR : NestedKey × Addr × V → NestedKey × Addr × Value → Prop := fun p q => p.1 = q.1 ∧ p.2.1 = q.2.1 ∧ RelV p.2.2 q.2.2
theorem dr_ex : ∀ l : List (NestedKey × Addr × V), ∃ xs, Paired DR l xs
  | [] => ⟨[], .nil⟩
  | p :: l => by
    obtain ⟨u, hu⟩ := relV_ex p.2.2
    obtain ⟨xs, h⟩ := dr_ex l
    exact ⟨(p.1, p.2.1, u) :: xs, .cons ⟨rfl, rfl, hu⟩ h⟩
theorem dr_inj {P P' : Program} {w w' : World} {l : List (NestedKey × Addr × V)} {xs : List (NestedKey × Addr × Value)} (h : Paired DR l xs) : ∀ {l' : List (NestedKey × Addr × V)} {xs' : List (NestedKey × Addr × Value)}, Paired DR l' xs' →
    xs.map (entryOfKey (nestedKind P w)) = xs'.map (entryOfKey (nestedKind P' w')) → l.map (·.2.2) = l'.map (·.2.2) := by
  induction h with
  | nil =>
    intro l' xs' h' e
    cases h' with
    | nil => rfl
    | cons _ _ => cases e
  | cons a t ih =>
    intro l' xs' h' e
    cases h' with
    | nil => cases e
    | cons a' t' =>
      rw [List.map_cons, List.map_cons] at e
      have e1 := (List.cons.inj e).1
      have e2 := (List.cons.inj e).2
      have e3 := congrArg DictEntry.val e1
      simp only [entryOfKey] at e3
      rw [List.map_cons, List.map_cons, ih t' e2, relV_inj a.2.2 (e3 ▸ a'.2.2)]
theorem dphi_inj {P P' : Program} {w w' : World} {a : Addr} {l l' : List (NestedKey × Addr × V)} (e : dphi P w a l = dphi P' w' a l') : l.map (·.2.2) = l'.map (·.2.2) := by
  obtain ⟨xs, h⟩ := dr_ex l
  let o : Obj := { cls := .type "dict", data := .dict (xs.map (entryOfKey (nestedKind P w))).toArray 0 }
  let hp : Heap := ⟨Array.replicate (a + 1) o, {}⟩
  have hg : hp.get? a = some o := by
    unfold Heap.get?
    have : hp.objs[a]? = some o := by
      show (Array.replicate (a + 1) o)[a]? = some o
      rw [Array.getElem?_replicate, if_pos (by omega)]
    rw [this]
  have h1 : dphi P w a l hp := ⟨xs, h, o, _, _, hg, ⟨rfl, rfl, rfl⟩, rfl, by simp⟩
  rw [e] at h1
  obtain ⟨xs', h', o', es, ep, hg', _, hd, he⟩ := h1
  rw [hg] at hg'
  cases hg'
  have hd : Data.dict (xs.map (entryOfKey (nestedKind P w))).toArray 0 = Data.dict es ep := hd
  injection hd with hd1 _
  subst hd1
  exact dr_inj h h' (by simpa using he)
def Kids (H : Hp) (v : V) (vs : List V) : Prop := ∃ a, v = .ref a ∧ (H a = some (.lst vs) ∨ (∃ C dx ns, H a = some (.ins C dx (List.zip ns vs)) ∧ ns.length = vs.length) ∨ (∃ ks, H a = some (.dK (List.zip ks vs)) ∧ ks.length = vs.length) ∨
  (∃ P w l, H a = some (.ext (dphi P w a l)) ∧ l.map (·.2.2) = vs) ∨ ∃ S n, H a = some (.set S n) ∧ vs = [])
theorem Kids.fn (h : Kids H v vs) (h' : Kids H v us) : vs = us := by
  obtain ⟨a, e, h⟩ := h
  obtain ⟨b, e', h'⟩ := h'
  subst e
  cases e'
  have key : ∀ {α : Type} {x y : List α} {p q : List V}, x.zip p = y.zip q → x.length = p.length → y.length = q.length → p = q := by
    intro α x y p q e h1 h2
    have e1 := congrArg (List.map Prod.snd) e
    rwa [List.map_snd_zip (by omega), List.map_snd_zip (by omega)] at e1
  rcases h with h | ⟨C, dx, ns, h, l⟩ | ⟨ks, h, l⟩ | ⟨P, w, m, h, l⟩ | ⟨S, n, h, l⟩ <;> rcases h' with h' | ⟨C', dx', ns', h', l'⟩ | ⟨ks', h', l'⟩ | ⟨P', w', m', h', l'⟩ | ⟨S', n', h', l'⟩ <;> rw [h] at h' <;> first
    | exact HO.noConfusion (Option.some.inj h')
    | exact HO.lst.inj (Option.some.inj h')
    | exact key (HO.ins.inj (Option.some.inj h')).2.2 l l'
    | exact key (HO.dK.inj (Option.some.inj h')) l l'
    | rw [l, l']
    | exact l.symm.trans ((dphi_inj (HO.ext.inj (Option.some.inj h'))).trans l')
def Raw (H : Hp) : List V → List Nat → V → Prop
  | _, [], _ => False
  | vs, [i], w => vs[i]? = some w
  | vs, i :: j :: p, w => ∃ v us, vs[i]? = some v ∧ Kids H v us ∧ Raw H us (j :: p) w
theorem Raw.fn : ∀ {p : List Nat} {vs : List V} {w w' : V}, Raw H vs p w → Raw H vs p w' → w = w'
  | [], _, _, _, h, _ => h.elim
  | [i], vs, w, w', h, h' => by
    have h1 : vs[i]? = some w := h
    have h2 : vs[i]? = some w' := h'
    rw [h1] at h2
    exact Option.some.inj h2
  | i :: j :: p, vs, w, w', h, h' => by
    obtain ⟨v, us, e, k1, r⟩ := h
    obtain ⟨v', us', e', k2, r'⟩ := h'
    rw [e] at e'
    cases e'
    cases k1.fn k2
    exact Raw.fn r r'
theorem objKids (h : ObjAt K k .own H a vs) (hk : k ≠ .tup) : Kids H (.ref a) vs := by
  cases k with
  | tup => exact absurd rfl hk
  | lst => exact ⟨a, rfl, .inl h⟩
  | ins n j =>
    obtain ⟨l, dx, e⟩ := h
    exact ⟨a, rfl, .inr (.inl ⟨_, dx, _, e, l⟩)⟩
  | dct ks => exact ⟨a, rfl, .inr (.inr (.inl ⟨ks, h.2, h.1⟩))⟩
  | dcT ks =>
    obtain ⟨bs, h1, h2, _, _, _, _, h7⟩ := h
    refine ⟨a, rfl, .inr (.inr (.inr (.inl ⟨_, _, _, h7, ?_⟩)))⟩
    rw [show (fun p : NestedKey × Addr × V => p.2.2) = Prod.snd ∘ Prod.snd from rfl, ← List.map_map, List.map_snd_zip (by simp; omega), List.map_snd_zip (by omega)]
  | sti l => exact ⟨a, rfl, .inr (.inr (.inr (.inr ⟨_, _, h.2.2, h.1⟩)))⟩
theorem Kids.fr (h : Kids H (.ref a) vs) (hk : ∀ ob, H a = some ob → H' a = some ob) : Kids H' (.ref a) vs := by
  obtain ⟨b, e, h⟩ := h
  cases e
  refine ⟨a, rfl, ?_⟩
  rcases h with h | ⟨C, dx, ns, h, l⟩ | ⟨ks, h, l⟩ | ⟨P, w, m, h, l⟩ | ⟨S, n, h, l⟩
  · exact .inl (hk _ h)
  · exact .inr (.inl ⟨C, dx, ns, hk _ h, l⟩)
  · exact .inr (.inr (.inl ⟨ks, hk _ h, l⟩))
  · exact .inr (.inr (.inr (.inl ⟨P, w, m, hk _ h, l⟩)))
  · exact .inr (.inr (.inr (.inr ⟨S, n, hk _ h, l⟩)))
/-- q does not lead into what stands at p -/
def nbel : List Nat → List Nat → Bool
  | [], [] => true
  | [], _ :: _ => false
  | _, [] => true
  | i :: p, j :: q => if i = j then nbel p q else true
theorem getP_cons {j : Nat} {p : List Nat} (h : getP ts (i :: j :: p) = some t) : ∃ k us, ts[i]? = some (.nd k .own us) ∧ k ≠ .tup ∧ getP us (j :: p) = some t := by
  simp only [getP] at h
  split at h
  · cases h
  · rename_i k us hne e
    exact ⟨_, _, e, fun hk => hne hk, h⟩
  · cases h
end
section
variable {K : KC} {Z Z' : Zn} {H H' : Hp} {m : Ow} {t t' : Tr} {ts : List Tr} {v w : V} {vs us : List V} {Φ Ψ : Ps} {a : Addr} {k : Nk} {o : Ow} {i : Nat}
theorem Nod.own (h : Nod Z k .own a ts Ψ Φ) (hk : k ≠ .tup) : (∀ b, Φ b ↔ b = a ∨ Ψ b) ∧ ¬ Ψ a ∧ escL ts = true := by
  cases k <;> first | exact absurd rfl hk | exact h
theorem Nod.mk (hk : k ≠ .tup) (h1 : ∀ b, Φ b ↔ b = a ∨ Ψ b) (h2 : ¬ Ψ a) (h3 : escL ts = true) : Nod Z k .own a ts Ψ Φ := by
  cases k <;> first | exact absurd rfl hk | exact ⟨h1, h2, h3⟩
/-- the addresses on the way to q, where a path of own things leads there -/
theorem Raw.keep : ∀ {q : List Nat} {ts : List Tr} {vs : List V} {Φ : Ps} {w : V}, RepL K Z H .own ts vs Φ → (getP ts q).isSome = true → Raw H vs q w → (∀ b ob, Φ b → H b = some ob → H' b = some ob) → Raw H' vs q w
  | [], _, _, _, _, _, _, r, _ => r
  | [i], _, _, _, _, _, _, r, _ => r
  | i :: j :: p, ts, vs, Φ, w, h, g, r, kp => by
    obtain ⟨t, g⟩ := Option.isSome_iff_exists.mp g
    obtain ⟨k, us, e, hk, g⟩ := getP_cons g
    obtain ⟨v, us', e2, kd, r⟩ := r
    obtain ⟨v', Φ1, Φ2, e3, r1, d, u, _⟩ := h.at_ ts e
    rw [e2] at e3
    cases e3
    obtain ⟨a, vs2, Ψ, rfl, ho, hl, hn⟩ := r1
    have ho : ObjAt K k .own H a vs2 := ho
    have hl : RepL K Z H .own us vs2 Ψ := hl
    have hn : Nod Z k .own a us Ψ Φ1 := hn
    cases (objKids ho hk).fn kd
    have hn := hn.own hk
    exact ⟨_, _, e2, kd.fr (kp a · (by grind)), Raw.keep hl (by rw [g]; rfl) r fun b ob hb => kp b ob (by grind)⟩
theorem escL_setP (ht : esc t = true) : ∀ (p : List Nat) (us : List Tr), escL us = true → escL (setP us p t) = true
  | [], us, h => by simpa [setP] using h
  | [i], us, h => by simp only [setP]; exact escL_set h ht
  | i :: j :: p, us, h => by
    simp only [setP]
    split
    · rename_i k o us2 e
      refine escL_set h ?_
      have h1 := escL_all.mp h _ (List.mem_of_getElem? e)
      have ih := escL_setP ht (j :: p) us2
      cases k <;> cases o <;> simp_all [esc]
    · exact h
theorem RepL.path : ∀ {p : List Nat} {ts : List Tr} {vs : List V} {Φ : Ps} {t : Tr}, RepL K Z H .own ts vs Φ → getP ts p = some t → ∃ w Φ1 Φ2, Raw H vs p w ∧ Rep K Z H .own t w Φ1 ∧ (∀ b, ¬ (Φ1 b ∧ Φ2 b)) ∧ (∀ b, Φ b ↔ Φ1 b ∨ Φ2 b) ∧
    RepL K Z H .own (setP ts p .any) vs Φ2 ∧
    (∀ q w' H', nbel p q = true → (getP ts q).isSome = true → Raw H vs q w' → (∀ b ob, ¬ Φ1 b → H b = some ob → H' b = some ob) → Raw H' vs q w')
  | [], _, _, _, _, _, g => by simp [getP] at g
  | [i], ts, vs, Φ, t, h, g => by
    obtain ⟨v, Φ1, Φ2, e, r, d, u, r2, _⟩ := h.at_ ts (i := i) g
    refine ⟨v, Φ1, Φ2, e, r, d, u, r2, fun q w' H' nb gq rq kp => ?_⟩
    match q with
    | [] => exact rq
    | [j] => exact rq
    | j :: j2 :: q =>
      have hij : i ≠ j := by
        intro e
        subst e
        simp [nbel] at nb
      have g2 : (getP (ts.set i .any) (j :: j2 :: q)).isSome = true := by
        obtain ⟨t2, gq⟩ := Option.isSome_iff_exists.mp gq
        obtain ⟨k, us, e, hk, g⟩ := getP_cons gq
        unfold getP at gq ⊢
        rw [List.getElem?_set_ne hij, gq]
        rfl
      exact Raw.keep r2 g2 rq fun b ob hb => kp b ob (by grind)
  | i :: j :: p, ts, vs, Φ, t, h, g => by
    obtain ⟨k, us, e, hk, g⟩ := getP_cons g
    obtain ⟨v, Φ1, Φ2, e2, r, d, u, r2, _⟩ := h.at_ ts e
    obtain ⟨a, vs2, Ψ, rfl, ho, hl, hn⟩ := r
    have ho : ObjAt K k .own H a vs2 := ho
    have hl : RepL K Z H .own us vs2 Ψ := hl
    have hn : Nod Z k .own a us Ψ Φ1 := hn
    have hn := hn.own hk
    obtain ⟨w, Θ1, Θ2, raw, rt, d2, u2, rs, st⟩ := RepL.path hl g
    have kd := objKids ho hk
    have hset : setP ts (i :: j :: p) .any = ts.set i (.nd k .own (setP us (j :: p) .any)) := by simp only [setP, e]
    have hes : escL (setP us (j :: p) .any) = true := by
      exact escL_setP rfl _ _ hn.2.2
    refine ⟨w, Θ1, fun b => Φ2 b ∨ b = a ∨ Θ2 b, ⟨_, _, e2, kd, raw⟩, rt, by grind, by grind, ?_, fun q w' H' nb gq rq kp => ?_⟩
    · rw [hset]
      have r3 := r2.put (ts := ts.set i .any) (i := i) (t := .nd k .own (setP us (j :: p) .any)) (v := .ref a) (Ψ := fun b => b = a ∨ Θ2 b) (by rw [List.getElem?_set_self (getq_lt' e)]) e2 ⟨a, vs2, Θ2, rfl, ho, rs, .mk hk (fun _ => Iff.rfl) (by grind) hes⟩ (by grind)
      rw [List.set_set] at r3
      exact r3.cast _ (by grind)
    · match q with
      | [] => exact rq
      | [_] => exact rq
      | i2 :: j2 :: q =>
        by_cases hi : i = i2
        · subst hi
          have nb : nbel (j :: p) (j2 :: q) = true := by simpa [nbel] using nb
          obtain ⟨t2, gq⟩ := Option.isSome_iff_exists.mp gq
          obtain ⟨k', us', e', hk', gq⟩ := getP_cons gq
          rw [e] at e'
          cases e'
          obtain ⟨v', us2, e3, kd2, rq⟩ := rq
          rw [e2] at e3
          cases e3
          cases kd.fn kd2
          exact ⟨_, _, e2, kd.fr (kp a · (by grind)), st (j2 :: q) w' H' nb (by rw [gq]; rfl) rq kp⟩
        · have g2 : (getP (ts.set i .any) (i2 :: j2 :: q)).isSome = true := by
            obtain ⟨t2, gq⟩ := Option.isSome_iff_exists.mp gq
            unfold getP at gq ⊢
            rw [List.getElem?_set_ne hi, gq]
            rfl
          exact Raw.keep r2 g2 rq fun b ob hb => kp b ob (by grind)
/-- something comes to a place, at the end of a path, that is known to be nothing -/
theorem RepL.putP : ∀ {p : List Nat} {ts : List Tr} {vs : List V} {Φ Ψ : Ps} {t : Tr} {w : V}, RepL K Z H .own ts vs Φ → getP ts p = some .any → Raw H vs p w → Rep K Z H .own t w Ψ → (∀ b, ¬ (Ψ b ∧ Φ b)) → esc t = true → RepL K Z H .own (setP ts p t) vs (fun b => Ψ b ∨ Φ b)
  | [], _, _, _, _, _, _, _, g, _, _, _, _ => by simp [getP] at g
  | [i], ts, vs, Φ, Ψ, t, w, h, g, r, rt, d, _ => h.put ts (i := i) g r rt d
  | i :: j :: p, ts, vs, Φ, Ψ, t, w, h, g, r, rt, d, he => by
    obtain ⟨k, us, e, hk, g⟩ := getP_cons g
    obtain ⟨v, Φ1, Φ2, e2, r1, d1, u, r2, _⟩ := h.at_ ts e
    obtain ⟨a, vs2, Ψ', rfl, ho, hl, hn⟩ := r1
    have ho : ObjAt K k .own H a vs2 := ho
    have hl : RepL K Z H .own us vs2 Ψ' := hl
    have hn : Nod Z k .own a us Ψ' Φ1 := hn
    have hn := hn.own hk
    obtain ⟨v', us2, e3, kd, raw⟩ := r
    rw [e2] at e3
    cases e3
    cases (objKids ho hk).fn kd
    have r3 := RepL.putP hl g raw rt (by grind) he
    have hset : setP ts (i :: j :: p) t = ts.set i (.nd k .own (setP us (j :: p) t)) := by simp only [setP, e]
    rw [hset]
    have r4 := r2.put (ts := ts.set i .any) (i := i) (t := .nd k .own (setP us (j :: p) t)) (v := .ref a) (Ψ := fun b => b = a ∨ Ψ b ∨ Ψ' b) (by rw [List.getElem?_set_self (getq_lt' e)]) e2 ⟨a, vs2, fun b => Ψ b ∨ Ψ' b, rfl, ho, r3, .mk hk (fun _ => Iff.rfl) ?_ (escL_setP he _ _ hn.2.2)⟩ ?_
    · rw [List.set_set] at r4
      exact r4.cast _ (by grind)
    · intro q
      rcases q with q | q
      · exact d a ⟨q, by grind⟩
      · exact hn.2.1 q
    · grind
theorem getP_setP_same : ∀ {p : List Nat} {ts : List Tr}, (getP ts p).isSome = true → getP (setP ts p t) p = some t
  | [], _, g => by simp [getP] at g
  | [i], ts, g => by
    obtain ⟨x, g⟩ := Option.isSome_iff_exists.mp g
    show (ts.set i t)[i]? = some t
    rw [List.getElem?_set_self (getq_lt' (show ts[i]? = some x from g))]
  | i :: j :: p, ts, g => by
    obtain ⟨x, g⟩ := Option.isSome_iff_exists.mp g
    obtain ⟨k, us, e, hk, g⟩ := getP_cons g
    simp only [setP, e]
    unfold getP
    rw [List.getElem?_set_self (getq_lt' e)]
    have := getP_setP_same (p := j :: p) (ts := us) (by rw [g]; rfl)
    cases k <;> simp_all
theorem getP_setP : ∀ {p q : List Nat} {ts : List Tr}, nbel p q = true → (getP ts q).isSome = true → (getP (setP ts p t) q).isSome = true
  | _, [], ts, _, g => by simp [getP] at g
  | [], q, ts, _, g => by simpa [setP] using g
  | [i], j :: q, ts, nb, g => by
    by_cases e : i = j
    · subst e
      match q, nb, g with
      | [], _, g =>
        obtain ⟨x, g⟩ := Option.isSome_iff_exists.mp g
        show ((ts.set i t)[i]?).isSome = true
        rw [List.getElem?_set_self (getq_lt' (show ts[i]? = some x from g))]
        rfl
      | _ :: _, nb, _ => simp [nbel] at nb
    · match q, nb, g with
      | [], _, g =>
        show ((ts.set i t)[j]?).isSome = true
        rw [List.getElem?_set_ne e]
        exact g
      | _ :: _, _, g =>
        simp only [setP]
        unfold getP at g ⊢
        rw [List.getElem?_set_ne e]
        exact g
  | i :: i2 :: p, j :: q, ts, nb, g => by
    simp only [setP]
    split
    · rename_i k o us e
      by_cases hij : i = j
      · subst hij
        match q, nb, g with
        | [], _, g =>
          show ((ts.set i _)[i]?).isSome = true
          rw [List.getElem?_set_self (getq_lt' e)]
          rfl
        | j2 :: q, nb, g =>
          obtain ⟨x, g⟩ := Option.isSome_iff_exists.mp g
          obtain ⟨k', us', e', hk, g⟩ := getP_cons g
          rw [e] at e'
          cases e'
          have nb : nbel (i2 :: p) (j2 :: q) = true := by simpa [nbel] using nb
          have ih := getP_setP (p := i2 :: p) (q := j2 :: q) (ts := us) nb (by rw [g]; rfl)
          unfold getP
          rw [List.getElem?_set_self (getq_lt' e)]
          cases k <;> simp_all
      · match q, g with
        | [], g =>
          show ((ts.set i _)[j]?).isSome = true
          rw [List.getElem?_set_ne hij]
          exact g
        | _ :: _, g =>
          unfold getP at g ⊢
          rw [List.getElem?_set_ne hij]
          exact g
    · exact g
/-- a path through nothing changed -/
theorem setP_setP {t' : Tr} : ∀ {p : List Nat} {ts : List Tr}, setP (setP ts p t) p t' = setP ts p t'
  | [], _ => rfl
  | [i], ts => by simp [setP]
  | i :: j :: p, ts => by
    cases e : ts[i]? with
    | none => simp only [setP, e]
    | some x =>
      cases x with
      | nd k o us =>
        simp only [setP, e, List.getElem?_set_self (getq_lt' e)]
        rw [List.set_set, setP_setP]
      | any => simp only [setP, e]
      | a v => simp only [setP, e]
end
inductive Ent | no | tr (t : Tr) | al (p : List Nat)
def Ent.tree : Ent → Tr
  | .tr t => t
  | _ => .any
def getT : Tr → List Nat → Option Tr
  | t, [] => some t
  | .nd .tup _ _, _ :: _ => none
  | .nd _ .own us, j :: p => match us[j]? with
    | some y => getT y p
    | none => none
  | _, _ :: _ => none
def setT : Tr → List Nat → Tr → Tr
  | _, [], x => x
  | .nd k o us, j :: p, x => match us[j]? with
    | some y => .nd k o (us.set j (setT y p x))
    | none => .nd k o us
  | t, _ :: _, _ => t
def getG (Γ : List Ent) : List Nat → Option Tr
  | [] => none
  | i :: p => match Γ[i]? with
    | some (.tr t) => getT t p
    | _ => none
def setG (Γ : List Ent) : List Nat → Tr → List Ent
  | [], _ => Γ
  | i :: p, x => match Γ[i]? with
    | some (.tr t) => Γ.set i (.tr (setT t p x))
    | _ => Γ
/-- an alias that leads into what stands at p is forgotten -/
def killE (p : List Nat) : Ent → Ent
  | .al q => if nbel p q = true then .al q else .no
  | e => e
abbrev trees (Γ : List Ent) : List Tr := Γ.map Ent.tree
section
variable {K : KC} {Z Z' : Zn} {H H' : Hp} {m : Ow} {t t' : Tr} {ts : List Tr} {v w : V} {vs us ws : List V} {Φ Ψ : Ps} {a : Addr} {k : Nk} {o : Ow} {i : Nat} {p q : List Nat} {Γ τ : List Ent} {σ : St}
theorem set_same {α : Type} : ∀ {l : List α} {i : Nat} {x : α}, l[i]? = some x → l.set i x = l
  | [], _, _, h => by simp at h
  | y :: l, 0, x, h => by cases h; rfl
  | y :: l, i + 1, x, h => by rw [List.set_cons_succ, set_same (by simpa using h)]
theorem getP_getT : ∀ {p : List Nat} {i : Nat} {ts : List Tr} {t : Tr}, ts[i]? = some t → getP ts (i :: p) = getT t p
  | [], i, ts, t, e => by simp [getP, getT, e]
  | j :: p, i, ts, t, e => by
    unfold getP
    rw [e]
    cases t with
    | any => simp [getT]
    | a v => simp [getT]
    | nd k o us =>
      have key : getP us (j :: p) = match us[j]? with
          | some y => getT y p
          | none => none := by
        cases e2 : us[j]? with
        | none => cases p <;> simp [getP, e2]
        | some y => exact getP_getT e2
      cases k <;> cases o <;> simp_all [getT]
theorem setP_setT : ∀ {p : List Nat} {i : Nat} {ts : List Tr} {t x : Tr}, ts[i]? = some t → setP ts (i :: p) x = ts.set i (setT t p x)
  | [], i, ts, t, x, e => by simp [setP, setT]
  | j :: p, i, ts, t, x, e => by
    simp only [setP, e]
    cases t with
    | any => simp only [setT]; rw [set_same e]
    | a v => simp only [setT]; rw [set_same e]
    | nd k o us =>
      simp only [setT]
      cases e2 : us[j]? with
      | none =>
        simp only []
        congr 2
        have : us.length ≤ j := List.getElem?_eq_none_iff.mp e2
        cases p with
        | nil => simp only [setP]; exact List.set_eq_of_length_le this
        | cons j2 p => simp only [setP, e2]
      | some y =>
        simp only []
        rw [setP_setT e2]
end
/-- what a def was called with: the heap, what it may change, what is frozen, which parameters are its own, their values -/
structure Cz where
  H0 : Hp
  F0 : Ps
  S0 : Ps
  md : List Bool
  vs : List V
def SlotOk (H : Hp) (Γ : List Ent) (ws : List V) (σ : St) (i : Nat) : Ent → Prop
  | .no => True
  | .tr _ => ∃ v, ws[i]? = some v ∧ σ[i]? = some (some v)
  | .al p => ∃ w, σ[i]? = some (some w) ∧ Raw H ws p w ∧ (getG Γ p).isSome = true
structure Ev (K : KC) (c : Cz) (Z : Zn) (ws : List V) (Φ Ψ : Ps) (σ : St) (H : Hp) (Γ τ : List Ent) (us : List V) : Prop where
  sl : RepL K Z H .own (trees Γ) ws Φ
  tm : RepL K Z H .own (trees τ) us Ψ
  dj : ∀ b, ¬ (Φ b ∧ Ψ b)
  so : ∀ (i : Nat) (e : Ent), Γ[i]? = some e → SlotOk H Γ ws σ i e
  to : ∀ (i : Nat) (p : List Nat), τ[i]? = some (Ent.al p) → ∃ w, us[i]? = some w ∧ Raw H ws p w ∧ (getG Γ p).isSome = true
  ln : σ.length = Γ.length
  zo : ∀ b, Φ b ∨ Ψ b → (c.F0 b ∨ c.H0 b = none) ∧ ¬ Z.fz b ∧ ¬ Z.ln b
  zf : ∀ b, Z.fz b → c.S0 b ∨ c.F0 b ∨ c.H0 b = none
  z0 : ∀ b, c.S0 b → Z.fz b
  zs : ∀ b, Z.fz b ∨ Z.ln b → (H b).isSome = true
  st : ∀ b o, c.H0 b = some o → ∃ o', H b = some o' ∧ (¬ c.F0 b → o' = o)
  pv : ∀ i : Nat, c.md[i]? = some true → ws[i]? = c.vs[i]?
def EnvOk (K : KC) (c : Cz) (σ : St) (H : Hp) (Γ τ : List Ent) (us : List V) : Prop := ∃ Z ws Φ Ψ, Ev K c Z ws Φ Ψ σ H Γ τ us
section
variable {K : KC} {Z Z' : Zn} {H H' : Hp} {m : Ow} {t t' : Tr} {ts : List Tr} {v w : V} {vs us ws : List V} {Φ Ψ : Ps} {a : Addr} {k : Nk} {o : Ow} {i : Nat} {p q : List Nat} {Γ τ : List Ent} {σ : St} {c : Cz}
theorem getG_getP (h : (getG Γ p).isSome = true) : getP (trees Γ) p = getG Γ p := by
  cases p with
  | nil => simp [getG] at h
  | cons i p =>
    simp only [getG] at h ⊢
    cases e : Γ[i]? with
    | none => simp [e] at h
    | some x =>
      cases x with
      | no => simp [e] at h
      | al _ => simp [e] at h
      | tr t =>
        simp only []
        exact getP_getT (by simp [e, Ent.tree])
theorem trees_setG (h : (getG Γ p).isSome = true) : trees (setG Γ p t) = setP (trees Γ) p t := by
  cases p with
  | nil => simp [getG] at h
  | cons i p =>
    simp only [getG, setG] at h ⊢
    cases e : Γ[i]? with
    | none => simp [e] at h
    | some x =>
      cases x with
      | no => simp [e] at h
      | al _ => simp [e] at h
      | tr t' =>
        simp only []
        rw [setP_setT (t := t') (by simp [e, Ent.tree])]
        simp [trees, List.map_set, Ent.tree]
mutual
theorem Rep.isS : ∀ (t : Tr) {m : Ow} {v : V} {Φ : Ps}, Rep K Z H m t v Φ → ∀ b, Φ b → (H b).isSome = true
  | .any, _, _, _, h, b, q => absurd q (h b)
  | .a _, _, _, _, h, b, q => absurd q (h.2 b)
  | .nd k o ts, m, v, Φ, h, b, q => by
    obtain ⟨a, vs, Ψ, e, ho, hl, hn⟩ := h
    have ih := RepL.isS ts hl b
    cases k with
    | tup => cases eo : eff m o <;> simp_all [Nod]
    | lst =>
      cases eo : eff m o <;> simp_all [Nod, ObjAt]
      rcases hn with ⟨h1, h2, h3⟩
      rcases q with rfl | q <;> simp_all
    | ins n j =>
      obtain ⟨l, dx, ho⟩ := ho
      cases eo : eff m o <;> simp_all [Nod]
      rcases q with rfl | q <;> simp_all
    | dct ks =>
      cases eo : eff m o <;> simp_all [Nod, ObjAt]
      rcases hn with ⟨h1, h2, h3⟩
      rcases q with rfl | q <;> simp_all
    | dcT ks =>
      obtain ⟨bs, _, _, _, _, _, _, ho⟩ := ho
      cases eo : eff m o <;> simp_all [Nod]
      rcases q with rfl | q <;> simp_all
    | sti l =>
      obtain ⟨_, _, ho⟩ := ho
      cases eo : eff m o <;> simp_all [Nod]
      rcases q with rfl | q <;> simp_all
theorem RepL.isS : ∀ (ts : List Tr) {m : Ow} {vs : List V} {Φ : Ps}, RepL K Z H m ts vs Φ → ∀ b, Φ b → (H b).isSome = true
  | [], _, _, _, h, b, q => absurd q (h.2 b)
  | t :: ts, m, vs, Φ, h, b, q => by
    obtain ⟨v, vs', Φ1, Φ2, e, h1, h2, d, u⟩ := h
    rcases (u b).mp q with z | z
    · exact Rep.isS t h1 b z
    · exact RepL.isS ts h2 b z
end
/-- no tuple is owned -/
def nt' : HO → Bool
  | .tup _ => false
  | .frz _ _ => false
  | _ => true
theorem tsk (h : ∀ b ob, H b = some ob → nt' ob = false → H' b = some ob) : TSK K H H' := fun a xs q => h a _ q rfl
mutual
theorem Rep.nt : ∀ (t : Tr) {m : Ow} {v : V} {Φ : Ps}, Rep K Z H m t v Φ → ∀ b ob, Φ b → H b = some ob → nt' ob = true
  | .any, _, _, _, h, b, _, q, _ => absurd q (h b)
  | .a _, _, _, _, h, b, _, q, _ => absurd q (h.2 b)
  | .nd k o ts, m, v, Φ, h, b, ob, q, hb => by
    obtain ⟨a, vs, Ψ, e, ho, hl, hn⟩ := h
    have ih := RepL.nt ts hl b ob
    cases k with
    | tup => cases eo : eff m o <;> simp_all [Nod]
    | lst =>
      cases eo : eff m o <;> simp_all [Nod, ObjAt]
      rcases q with rfl | q
      · simp_all; subst hb; rfl
      · exact ih q
    | ins n j =>
      obtain ⟨l, dx, ho⟩ := ho
      cases eo : eff m o <;> simp_all [Nod]
      rcases q with rfl | q
      · simp_all; subst hb; rfl
      · exact ih q
    | dct ks =>
      cases eo : eff m o <;> simp_all [Nod, ObjAt]
      rcases q with rfl | q
      · simp_all; subst hb; rfl
      · exact ih q
    | dcT ks =>
      obtain ⟨bs, _, _, _, _, _, _, ho⟩ := ho
      cases eo : eff m o <;> simp_all [Nod]
      rcases q with rfl | q
      · simp_all; subst hb; rfl
      · exact ih q
    | sti l =>
      obtain ⟨_, _, ho⟩ := ho
      cases eo : eff m o <;> simp_all [Nod]
      rcases q with rfl | q
      · simp_all; subst hb; rfl
      · exact ih q
theorem RepL.nt : ∀ (ts : List Tr) {m : Ow} {vs : List V} {Φ : Ps}, RepL K Z H m ts vs Φ → ∀ b ob, Φ b → H b = some ob → nt' ob = true
  | [], _, _, _, h, b, _, q, _ => absurd q (h.2 b)
  | t :: ts, m, vs, Φ, h, b, ob, q, hb => by
    obtain ⟨v, vs', Φ1, Φ2, e, h1, h2, d, u⟩ := h
    rcases (u b).mp q with z | z
    · exact Rep.nt t h1 b ob z hb
    · exact RepL.nt ts h2 b ob z hb
end
/-- the upper temps change: what they own may change, new things may come -/
structure Chg (Z Z' : Zn) (H H' : Hp) (Ψ Ψ' : Ps) : Prop where
  fz : ∀ b, Z.fz b → Z'.fz b
  ln : ∀ b, Z.ln b → Z'.ln b
  fz' : ∀ b, Z'.fz b → Z.fz b ∨ Ψ b ∨ H b = none
  ln' : ∀ b, Z'.ln b → Z.ln b ∨ Ψ b ∨ H b = none
  zs : ∀ b, Z'.fz b ∨ Z'.ln b → (H' b).isSome = true
  ob : ∀ b ob, H b = some ob → ¬ Ψ b → H' b = some ob
  oc : ∀ b, Ψ b → (H' b).isSome = true
  nw : ∀ b, Ψ' b → (Ψ b ∨ H b = none) ∧ ¬ Z'.fz b ∧ ¬ Z'.ln b
theorem Ev.swapX {τ1 τ1' : List Ent} {us1 us1' : List V} {Ψ1 Ψ2 Ψ1' : Ps} (E : Ev K c Z ws Φ Ψ σ H Γ (τ1 ++ τ) (us1 ++ us)) (hl : τ1.length = us1.length) (hal : ∀ e ∈ τ1', ∀ p, e ≠ .al p)
    (r1 : RepL K Z H .own (trees τ1) us1 Ψ1) (r2 : RepL K Z H .own (trees τ) us Ψ2) (d : ∀ b, ¬ (Ψ1 b ∧ Ψ2 b)) (u : ∀ b, Ψ b ↔ Ψ1 b ∨ Ψ2 b)
    (n1 : RepL K Z' H' .own (trees τ1') us1' Ψ1') (ch : Chg Z Z' H H' Ψ1 Ψ1') (hl' : τ1'.length = us1'.length) : EnvOk K c σ H' Γ (τ1' ++ τ) (us1' ++ us) := by
  obtain ⟨sl, tm, dj, so, to, ln, zo, zf, z0, zs, st, pv⟩ := E
  have nt1 := RepL.nt _ r1
  have tp : TSK K H H' := tsk fun b ob e n => ch.ob b ob e fun q => by
    have := nt1 b ob q e
    rw [n] at this
    cases this
  have kpF : Kp K Z Z' H H' Φ := ⟨ch.fz, ch.ln, fun b ob q e => ch.ob b ob e (by grind), tp⟩
  have kpT : Kp K Z Z' H H' Ψ2 := ⟨ch.fz, ch.ln, fun b ob q e => ch.ob b ob e (by grind), tp⟩
  have hsome := RepL.isS _ sl
  have hsome2 := RepL.isS _ r2
  have rk : ∀ {p : List Nat} {w : V}, (getG Γ p).isSome = true → Raw H ws p w → Raw H' ws p w := fun {p w} g r => Raw.keep sl (by rw [getG_getP g]; exact g) r fun b ob hb e => ch.ob b ob e (by grind)
  refine ⟨Z', ws, Φ, fun b => Ψ1' b ∨ Ψ2 b, ⟨RepL.fr _ sl kpF, ?_, ?_, ?_, ?_, ln, ?_, ?_, fun b q => ch.fz b (z0 b q), ch.zs, ?_, pv⟩⟩
  · have := RepL.append _ n1 (RepL.fr _ r2 kpT) (by
      intro b ⟨q1, q2⟩
      have h1 := ch.nw b q1
      have h2 := hsome2 b q2
      rcases h1.1 with z | z
      · exact d b ⟨z, q2⟩
      · rw [z] at h2; cases h2)
    simpa [trees] using this
  · intro b ⟨q1, q2⟩
    have h2 := hsome b q1
    rcases q2 with q2 | q2
    · have h1 := ch.nw b q2
      rcases h1.1 with z | z
      · exact dj b ⟨q1, (u b).mpr (.inl z)⟩
      · rw [z] at h2; cases h2
    · exact dj b ⟨q1, (u b).mpr (.inr q2)⟩
  · intro i e he
    have := so i e he
    cases e with
    | no => trivial
    | tr t => exact this
    | al p =>
      obtain ⟨w, h1, h2, h3⟩ := this
      exact ⟨w, h1, rk h3 h2, h3⟩
  · intro i p hp
    by_cases hi : i < τ1'.length
    · rw [List.getElem?_append_left hi] at hp
      exact absurd rfl (hal _ (List.mem_of_getElem? hp) p)
    · rw [List.getElem?_append_right (by omega)] at hp
      have := to (i - τ1'.length + τ1.length) p (by rw [List.getElem?_append_right (by omega)]; rw [show i - τ1'.length + τ1.length - τ1.length = i - τ1'.length by omega]; exact hp)
      obtain ⟨w, h1, h2, h3⟩ := this
      refine ⟨w, ?_, rk h3 h2, h3⟩
      rw [List.getElem?_append_right (by omega)] at h1 ⊢
      rw [show i - us1'.length = i - τ1'.length + τ1.length - us1.length by omega]
      exact h1
  · intro b q
    rcases q with q | q | q
    · have h1 := zo b (.inl q)
      have h2 := hsome b q
      refine ⟨h1.1, fun z => ?_, fun z => ?_⟩
      · rcases ch.fz' b z with z | z | z
        · exact h1.2.1 z
        · exact dj b ⟨q, (u b).mpr (.inl z)⟩
        · rw [z] at h2; cases h2
      · rcases ch.ln' b z with z | z | z
        · exact h1.2.2 z
        · exact dj b ⟨q, (u b).mpr (.inl z)⟩
        · rw [z] at h2; cases h2
    · have h1 := ch.nw b q
      refine ⟨?_, h1.2⟩
      rcases h1.1 with z | z
      · exact (zo b (.inr ((u b).mpr (.inl z)))).1
      · cases e0 : c.H0 b with
        | none => exact .inr rfl
        | some o0 =>
          obtain ⟨o', h', _⟩ := st b o0 e0
          rw [z] at h'; cases h'
    · have h1 := zo b (.inr ((u b).mpr (.inr q)))
      have h2 := hsome2 b q
      refine ⟨h1.1, fun z => ?_, fun z => ?_⟩
      · rcases ch.fz' b z with z | z | z
        · exact h1.2.1 z
        · exact d b ⟨z, q⟩
        · rw [z] at h2; cases h2
      · rcases ch.ln' b z with z | z | z
        · exact h1.2.2 z
        · exact d b ⟨z, q⟩
        · rw [z] at h2; cases h2
  · intro b z
    rcases ch.fz' b z with z | z | z
    · exact zf b z
    · exact .inr (zo b (.inr ((u b).mpr (.inl z)))).1
    · cases e0 : c.H0 b with
      | none => exact .inr (.inr rfl)
      | some o0 =>
        obtain ⟨o', h', _⟩ := st b o0 e0
        rw [z] at h'; cases h'
  · intro b o0 e0
    obtain ⟨o', h', hn⟩ := st b o0 e0
    by_cases q : Ψ1 b
    · obtain ⟨o2, e2⟩ := Option.isSome_iff_exists.mp (ch.oc b q)
      refine ⟨o2, e2, fun nf => ?_⟩
      rcases (zo b (.inr ((u b).mpr (.inl q)))).1 with z | z
      · exact absurd z nf
      · rw [z] at e0; cases e0
    · exact ⟨o', ch.ob b o' h' q, hn⟩
theorem Ev.swap {τ1 τ1' : List Ent} {us1 us1' : List V} {Ψ1' : Ps} (E : Ev K c Z ws Φ Ψ σ H Γ (τ1 ++ τ) (us1 ++ us)) (hl : τ1.length = us1.length) (hal : ∀ e ∈ τ1', ∀ p, e ≠ .al p)
    (step : ∀ Ψ1, RepL K Z H .own (trees τ1) us1 Ψ1 → RepL K Z' H' .own (trees τ1') us1' Ψ1' ∧ Chg Z Z' H H' Ψ1 Ψ1') (hl' : τ1'.length = us1'.length) : EnvOk K c σ H' Γ (τ1' ++ τ) (us1' ++ us) := by
  have tm' : RepL K Z H .own (trees τ1 ++ trees τ) (us1 ++ us) Ψ := by simpa [trees] using E.tm
  obtain ⟨v1, v2, Ψ1, Ψ2, e, r1, r2, d, u⟩ := RepL.split _ tm'
  have hl1 := RepL.len _ r1
  have hlt : (trees τ1).length = τ1.length := by simp [trees]
  obtain ⟨rfl, rfl⟩ := List.append_inj e (by omega)
  obtain ⟨n1, ch⟩ := step Ψ1 r1
  exact E.swapX hl hal r1 r2 d u n1 ch hl'
end
section
variable {K : KC} {Z Z' : Zn} {H H' : Hp} {m : Ow} {t t' : Tr} {ts : List Tr} {v w : V} {vs us ws : List V} {Φ Ψ : Ps} {a : Addr} {k : Nk} {o : Ow} {i : Nat} {p q : List Nat} {Γ τ : List Ent} {σ : St} {c : Cz} {e : Ent}
mutual
theorem Rep.cp0 : ∀ (t : Tr) {v : V} {Φ : Ps}, Rep K Z H .own t v Φ → cp t = true → ∀ b, ¬ Φ b
  | .any, _, _, h, _ => h
  | .a _, _, _, h, _ => h.2
  | .nd k o ts, v, Φ, h, q => by
    obtain ⟨a, vs, Ψ, _, _, hl, hn⟩ := h
    cases o with
    | own =>
      cases k with
      | tup => 
        have ih := RepL.cp0 ts hl (by simpa [cp] using q)
        have hn : ∀ b, Φ b ↔ Ψ b := hn
        exact fun b z => ih b ((hn b).mp z)
      | _ => simp [cp] at q
    | frz => cases k <;> simp_all [Nod, eff]
    | lnt => cases k <;> simp_all [Nod, eff]
theorem RepL.cp0 : ∀ (ts : List Tr) {vs : List V} {Φ : Ps}, RepL K Z H .own ts vs Φ → cpL ts = true → ∀ b, ¬ Φ b
  | [], _, _, h, _ => h.2
  | t :: ts, vs, Φ, h, q => by
    obtain ⟨v, vs', Φ1, Φ2, _, h1, h2, _, u⟩ := h
    simp only [cpL, Bool.and_eq_true] at q
    intro b z
    rcases (u b).mp z with z | z
    · exact Rep.cp0 t h1 q.1 b z
    · exact RepL.cp0 ts h2 q.2 b z
end
def kill (p : List Nat) (Γ : List Ent) : List Ent := Γ.map (killE p)
/-- every alias of the slot i is forgotten -/
def killR (i : Nat) : Ent → Ent
  | .al q => if q.head? = some i then .no else .al q
  | e => e
theorem trees_kill : trees (kill p Γ) = trees Γ := by
  simp only [trees, kill, List.map_map]
  congr 1
  funext e
  cases e with
  | al q => by_cases h : nbel p q = true <;> simp [killE, h, Ent.tree]
  | _ => rfl
theorem trees_killR : trees (Γ.map (killR i)) = trees Γ := by
  simp only [trees, List.map_map]
  congr 1
  funext e
  cases e with
  | al q => by_cases h : q.head? = some i <;> simp [killR, h, Ent.tree]
  | _ => rfl
theorem kill_at (h : (kill p Γ)[i]? = some e) : ∃ e', Γ[i]? = some e' ∧ e = killE p e' := by
  rw [kill, List.getElem?_map] at h
  cases q : Γ[i]? with
  | none => simp [q] at h
  | some x => exact ⟨x, rfl, by simpa [q, eq_comm] using h⟩
theorem getG_kill : getG (kill p Γ) q = getG Γ q := by
  cases q with
  | nil => rfl
  | cons j q =>
    simp only [getG, kill, List.getElem?_map]
    cases Γ[j]? with
    | none => rfl
    | some x =>
      cases x with
      | al r => by_cases h : nbel p r = true <;> simp [killE, h]
      | _ => rfl
theorem getG_isP (h : (getG Γ p).isSome = true) : (getP (trees Γ) p).isSome = true := by rw [getG_getP h]; exact h
theorem head_tr (h : (getG Γ (i :: p)).isSome = true) : ∃ t, Γ[i]? = some (.tr t) := by
  simp only [getG] at h
  cases e : Γ[i]? with
  | none => simp [e] at h
  | some x =>
    cases x with
    | no => simp [e] at h
    | al _ => simp [e] at h
    | tr t => exact ⟨t, rfl⟩
theorem setG_len : (setG Γ p t).length = Γ.length := by
  cases p with
  | nil => rfl
  | cons i p =>
    simp only [setG]
    split <;> simp
theorem getG_setG (h : (getG Γ q).isSome = true) (hp : (getG Γ p).isSome = true) (nb : nbel p q = true) : (getG (setG Γ p t) q).isSome = true := by
  have h2 := getP_setP (t := t) nb (getG_isP h)
  rw [← trees_setG hp] at h2
  cases q with
  | nil => simp [getG] at h
  | cons j q =>
    obtain ⟨x, hx⟩ := head_tr h
    have : ∃ y, (setG Γ p t)[j]? = some (.tr y) := by
      cases p with
      | nil => exact ⟨x, hx⟩
      | cons i p =>
        obtain ⟨z, hz⟩ := head_tr hp
        simp only [setG, hz]
        by_cases e : i = j
        · subst e
          exact ⟨_, List.getElem?_set_self (getq_lt' hz)⟩
        · exact ⟨x, by rw [List.getElem?_set_ne e]; exact hx⟩
    obtain ⟨y, hy⟩ := this
    have e1 : getP (trees (setG Γ p t)) (j :: q) = getT y q := getP_getT (by simp [trees, hy, Ent.tree])
    simp only [getG, hy]
    rw [← e1]
    exact h2
theorem nbel_any : ∀ {p q : List Nat} {ts : List Tr}, getP ts p = some .any → (getP ts q).isSome = true → nbel p q = true
  | [], _, _, h, _ => by simp [getP] at h
  | _, [], _, _, h => by simp [getP] at h
  | [i], [j], ts, _, _ => by simp [nbel]
  | [i], j :: j2 :: q, ts, h, g => by
    by_cases e : i = j
    · subst e
      have h : ts[i]? = some .any := h
      simp [getP, h] at g
    · simp [nbel, e]
  | i :: i2 :: p, [j], ts, _, _ => by simp [nbel]
  | i :: i2 :: p, j :: j2 :: q, ts, h, g => by
    by_cases e : i = j
    · subst e
      obtain ⟨k, us, e1, hk, h⟩ := getP_cons h
      obtain ⟨x, g⟩ := Option.isSome_iff_exists.mp g
      obtain ⟨k', us', e2, hk', g⟩ := getP_cons g
      rw [e1] at e2
      cases e2
      have := nbel_any h (show (getP us (j2 :: q)).isSome = true by rw [g]; rfl)
      simpa [nbel] using this
    · simp [nbel, e]
theorem setG_at {j : Nat} (h : (setG Γ p t)[j]? = some e) : (∃ x y, Γ[j]? = some (.tr x) ∧ e = .tr y) ∨ Γ[j]? = some e := by
  cases p with
  | nil => exact .inr h
  | cons i p =>
    simp only [setG] at h
    split at h
    · rename_i x hx
      by_cases q : i = j
      · subst q
        rw [List.getElem?_set_self (getq_lt' hx)] at h
        exact .inl ⟨x, _, hx, (Option.some.inj h).symm⟩
      · rw [List.getElem?_set_ne q] at h
        exact .inr h
    · exact .inr h
/-- what stands at a place is taken out and held by hand -/
theorem EnvOk.ext (E : EnvOk K c σ H Γ (.al p :: τ) (w :: us)) (g : getG Γ p = some t) : EnvOk K c σ H (kill p (setG Γ p .any)) (.tr t :: .al p :: kill p τ) (w :: w :: us) := by
  obtain ⟨Z, ws, Φ, Ψ, sl, tm, dj, so, to, ln, zo, zf, z0, zs, st, pv⟩ := E
  have gs : (getG Γ p).isSome = true := by rw [g]; rfl
  have g2 : getP (trees Γ) p = some t := by rw [getG_getP gs, g]
  obtain ⟨w', Φ1, Φ2, raw, r, d, u, r2, _⟩ := RepL.path sl g2
  obtain ⟨w0, e0, raw0, _⟩ := to 0 p rfl
  have e0 : w = w0 := Option.some.inj e0
  subst e0
  cases raw.fn raw0
  obtain ⟨v0, vs0, Θ1, Θ2, e1, a1, a2, ad, au⟩ := tm
  cases e1
  have a1 : ∀ b, ¬ Θ1 b := a1
  have npp : ∀ {p : List Nat}, nbel p p = true := by
    intro p
    induction p with
    | nil => rfl
    | cons i p ih => simp [nbel, ih]
  refine ⟨Z, ws, Φ2, fun b => Φ1 b ∨ Ψ b, ⟨?_, ?_, by grind, ?_, ?_, ?_, by grind, zf, z0, zs, st, pv⟩⟩
  · rw [trees_kill, trees_setG gs]
    exact r2
  · refine ⟨w, _, Φ1, Ψ, rfl, r, ⟨w, us, Θ1, Θ2, rfl, a1, ?_, ad, au⟩, by grind, fun _ => Iff.rfl⟩
    show RepL K Z H .own (trees (kill p τ)) us Θ2
    rw [trees_kill]
    exact a2
  · intro j e he
    obtain ⟨e', he', rfl⟩ := kill_at he
    rcases setG_at he' with ⟨x, y, hx, rfl⟩ | he'
    · exact so j _ hx
    · have h1 := so j e' he'
      cases e' with
      | no => trivial
      | tr x => exact h1
      | al q =>
        obtain ⟨w1, s1, s2, s3⟩ := h1
        by_cases nb : nbel p q = true
        · simp only [killE, nb, if_true]
          exact ⟨w1, s1, s2, by rw [getG_kill]; exact getG_setG s3 gs nb⟩
        · simp only [killE, nb]
          trivial
  · intro j q hj
    match j with
    | 0 => simp at hj
    | 1 =>
      simp at hj
      subst hj
      exact ⟨w, rfl, raw, by rw [getG_kill]; exact getG_setG gs gs npp⟩
    | j + 2 =>
      have hj : (kill p τ)[j]? = some (.al q) := by simpa using hj
      obtain ⟨e', he', hk⟩ := kill_at hj
      cases e' with
      | no => simp [killE] at hk
      | tr _ => simp [killE] at hk
      | al r =>
        by_cases nb : nbel p r = true
        · simp only [killE, nb, if_true] at hk
          cases hk
          obtain ⟨w1, s1, s2, s3⟩ := to (j + 1) q (by simpa using he')
          exact ⟨w1, by simpa using s1, s2, by rw [getG_kill]; exact getG_setG s3 gs nb⟩
        · simp [killE, nb] at hk
  · rw [ln]; simp [kill, setG_len]
/-- it is put back -/
theorem EnvOk.back (E : EnvOk K c σ H Γ (.tr t :: .al p :: τ) (w :: w :: us)) (g : getG Γ p = some .any) (he : esc t = true) : EnvOk K c σ H (setG Γ p t) (.al p :: τ) (w :: us) := by
  obtain ⟨Z, ws, Φ, Ψ, sl, tm, dj, so, to, ln, zo, zf, z0, zs, st, pv⟩ := E
  have gs : (getG Γ p).isSome = true := by rw [g]; rfl
  have g2 : getP (trees Γ) p = some .any := by rw [getG_getP gs, g]
  obtain ⟨w0, e0, raw0, _⟩ := to 1 p rfl
  have e0 : w = w0 := Option.some.inj e0
  subst e0
  obtain ⟨v0, vs0, Θ1, Θ2, e1, a1, a2, ad, au⟩ := tm
  cases e1
  have r3 := RepL.putP sl g2 raw0 a1 (by grind) he
  have nb : ∀ {q : List Nat}, (getG Γ q).isSome = true → nbel p q = true := fun h => nbel_any g2 (getG_isP h)
  refine ⟨Z, ws, fun b => Θ1 b ∨ Φ b, Θ2, ⟨by rw [trees_setG gs]; exact r3, a2, by grind, ?_, ?_, by rw [ln]; simp [setG_len], by grind, zf, z0, zs, st, pv⟩⟩
  · intro j e he
    rcases setG_at he with ⟨x, y, hx, rfl⟩ | he'
    · exact so j _ hx
    · have h1 := so j e he'
      cases e with
      | no => trivial
      | tr x => exact h1
      | al q =>
        obtain ⟨w1, s1, s2, s3⟩ := h1
        exact ⟨w1, s1, s2, getG_setG s3 gs (nb s3)⟩
  · intro j q hj
    obtain ⟨w1, s1, s2, s3⟩ := to (j + 1) q (by simpa using hj)
    exact ⟨w1, by simpa using s1, s2, getG_setG s3 gs (nb s3)⟩
end
def viewE (Γ : List Ent) : Ent → Option Tr
  | .tr t => some t
  | .al p => getG Γ p
  | .no => none
/-- the j-th item of what stands there -/
def kidE (e : Ent) (k : Nk) (o : Ow) (ts : List Tr) (j : Nat) : Option Ent := match ts[j]? with
  | none => none
  | some t => if cp (kid o t) = true then some (.tr (kid o t)) else match e, k with
    | .tr _, _ => some (.tr (kid o t))
    | .al _, .tup => none
    | .al p, _ => if o = .own then some (.al (p ++ [j])) else none
    | .no, _ => none
section
variable {K : KC} {Z Z' : Zn} {H H' : Hp} {m : Ow} {t t' : Tr} {ts : List Tr} {v w : V} {vs us ws : List V} {Φ Ψ : Ps} {a : Addr} {k : Nk} {o : Ow} {i j : Nat} {p q : List Nat} {Γ τ : List Ent} {σ : St} {c : Cz} {e e' : Ent}
theorem EnvOk.var (E : EnvOk K c σ H Γ τ us) (h : Γ[i]? = some (.tr t)) (hc : cp t = true) : ∃ v, σ[i]? = some (some v) ∧ EnvOk K c σ H Γ (.tr t :: τ) (v :: us) := by
  obtain ⟨Z, ws, Φ, Ψ, sl, tm, dj, so, to, ln, zo, zf, z0, zs, st, pv⟩ := E
  obtain ⟨v, hv, hs⟩ := so i _ h
  obtain ⟨v', Φ1, Φ2, e1, r, _⟩ := RepL.at_ _ sl (i := i) (t := t) (by simp [trees, h, Ent.tree])
  rw [hv] at e1
  cases e1
  have n0 := Rep.cp0 t r hc
  refine ⟨v, hs, Z, ws, Φ, Ψ, ⟨sl, ⟨v, us, Φ1, Ψ, rfl, r, tm, by grind, by grind⟩, dj, so, ?_, ln, zo, zf, z0, zs, st, pv⟩⟩
  intro j p hj
  match j with
  | 0 => simp at hj
  | j + 1 => exact to j p (by simpa using hj)
theorem EnvOk.pushA (E : EnvOk K c σ H Γ τ us) (h : ∀ ws, (∀ Z Φ Ψ, Ev K c Z ws Φ Ψ σ H Γ τ us → Raw H ws p v)) (g : (getG Γ p).isSome = true) : EnvOk K c σ H Γ (.al p :: τ) (v :: us) := by
  obtain ⟨Z, ws, Φ, Ψ, EE⟩ := E
  have raw := h ws Z Φ Ψ EE
  obtain ⟨sl, tm, dj, so, to, ln, zo, zf, z0, zs, st, pv⟩ := EE
  refine ⟨Z, ws, Φ, Ψ, ⟨sl, ⟨v, us, fun _ => False, Ψ, rfl, fun _ h => h, tm, by grind, by grind⟩, dj, so, ?_, ln, zo, zf, z0, zs, st, pv⟩⟩
  intro j q hj
  match j with
  | 0 =>
    simp at hj
    subst hj
    exact ⟨v, rfl, raw, g⟩
  | j + 1 => exact to j q (by simpa using hj)
theorem EnvOk.varP (E : EnvOk K c σ H Γ τ us) (h : Γ[i]? = some (.tr t)) : ∃ v, σ[i]? = some (some v) ∧ EnvOk K c σ H Γ (.al [i] :: τ) (v :: us) := by
  obtain ⟨Z, ws, Φ, Ψ, EE⟩ := id E
  obtain ⟨v, hv, hs⟩ := EE.so i _ h
  refine ⟨v, hs, E.pushA (fun ws2 Z2 Φ2 Ψ2 EE2 => ?_) (by simp [getG, h, getT])⟩
  obtain ⟨v2, hv2, hs2⟩ := EE2.so i _ h
  rw [hs] at hs2
  cases hs2
  exact hv2
theorem EnvOk.varA (E : EnvOk K c σ H Γ τ us) (h : Γ[i]? = some (.al p)) : ∃ v, σ[i]? = some (some v) ∧ EnvOk K c σ H Γ (.al p :: τ) (v :: us) := by
  obtain ⟨Z, ws, Φ, Ψ, EE⟩ := id E
  obtain ⟨v, hs, raw, g⟩ := EE.so i _ h
  refine ⟨v, hs, E.pushA (fun ws2 Z2 Φ2 Ψ2 EE2 => ?_) g⟩
  obtain ⟨v2, hs2, raw2, _⟩ := EE2.so i _ h
  rw [hs] at hs2
  cases hs2
  exact raw2
theorem Ev.view (E : Ev K c Z ws Φ Ψ σ H Γ τ us) {n : Nat} (h1 : τ[n]? = some e) (h2 : us[n]? = some v) (hv : viewE Γ e = some t) : ∃ Θ, Rep K Z H .own t v Θ := by
  cases e with
  | no => simp [viewE] at hv
  | tr x =>
    obtain ⟨v', Φ1, Φ2, e1, r, _⟩ := RepL.at_ _ E.tm (i := n) (t := x) (by simp [trees, h1, Ent.tree])
    rw [h2] at e1
    cases e1
    simp only [viewE] at hv
    cases hv
    exact ⟨Φ1, r⟩
  | al p =>
    obtain ⟨w, e1, raw, g⟩ := E.to n p h1
    rw [h2] at e1
    cases e1
    obtain ⟨w', Φ1, Φ2, raw', r, _⟩ := RepL.path E.sl (p := p) (t := t) (by rw [getG_getP g]; exact hv)
    cases raw.fn raw'
    exact ⟨Φ1, r⟩
theorem Chg.same (Z : Zn) (H : Hp) (Ψ : Ps) (zs : ∀ b, Z.fz b ∨ Z.ln b → (H b).isSome = true) (hs : ∀ b, Ψ b → (H b).isSome = true) (Ψ' : Ps) (n : ∀ b, Ψ' b → Ψ b ∧ ¬ Z.fz b ∧ ¬ Z.ln b) : Chg Z Z H H Ψ Ψ' :=
  ⟨fun _ h => h, fun _ h => h, fun _ h => .inl h, fun _ h => .inl h, zs, fun _ _ h _ => h, hs, fun b q => ⟨.inl (n b q).1, (n b q).2⟩⟩
/-- the top is dropped -/
theorem EnvOk.drop (E : EnvOk K c σ H Γ (e :: τ) (v :: us)) : EnvOk K c σ H Γ τ us := by
  obtain ⟨Z, ws, Φ, Ψ, EE⟩ := E
  exact EE.swap (τ1 := [e]) (us1 := [v]) (τ1' := []) (us1' := []) (Ψ1' := fun _ => False) rfl (by simp) (fun Ψ1 r => ⟨⟨rfl, fun _ h => h⟩, .same _ _ _ EE.zs (fun b q => RepL.isS _ r b q) _ (by simp)⟩) rfl
theorem EnvOk.atom (E : EnvOk K c σ H Γ τ us) (v : V) : EnvOk K c σ H Γ (.tr (.a v) :: τ) (v :: us) := by
  obtain ⟨Z, ws, Φ, Ψ, EE⟩ := E
  exact EE.swap (τ1 := []) (us1 := []) (τ1' := [.tr (.a v)]) (us1' := [v]) (Ψ1' := fun _ => False) rfl (by simp) (fun Ψ1 r => ⟨⟨v, [], fun _ => False, fun _ => False, rfl, ⟨rfl, fun _ h => h⟩, ⟨rfl, fun _ h => h⟩, by simp, by simp⟩, .same _ _ _ EE.zs (fun b q => RepL.isS _ r b q) _ (by simp)⟩) rfl
theorem Raw.snoc : ∀ {p : List Nat} {vs us : List V} {w w' : V}, Raw H vs p w → Kids H w us → us[j]? = some w' → Raw H vs (p ++ [j]) w'
  | [], _, _, _, _, r, _, _ => r.elim
  | [i], vs, us, w, w', r, kd, e => ⟨w, us, r, kd, e⟩
  | i :: i2 :: p, vs, us, w, w', r, kd, e => by
    obtain ⟨v, us2, e1, k1, r⟩ := r
    exact ⟨v, us2, e1, k1, r.snoc kd e⟩
theorem getT_snoc : ∀ {p : List Nat} {t : Tr}, getT t p = some (.nd k .own ts) → k ≠ .tup → getT t (p ++ [j]) = ts[j]?
  | [], t, h, hk => by
    cases h
    show getT _ [j] = _
    cases k <;> simp_all [getT] <;> cases ts[j]? <;> rfl
  | i :: p, t, h, hk => by
    cases t with
    | any => simp [getT] at h
    | a v => simp [getT] at h
    | nd k' o us =>
      cases k' <;> cases o <;> simp_all [getT]
      all_goals
        cases e : us[i]? with
        | none => simp [e] at h
        | some y =>
          simp only [e] at h ⊢
          exact getT_snoc h hk
theorem getG_snoc (h : getG Γ p = some (.nd k .own ts)) (hk : k ≠ .tup) : getG Γ (p ++ [j]) = ts[j]? := by
  cases p with
  | nil => simp [getG] at h
  | cons i p =>
    simp only [getG, List.cons_append] at h ⊢
    cases e : Γ[i]? with
    | none => simp [e] at h
    | some x =>
      cases x with
      | no => simp [e] at h
      | al _ => simp [e] at h
      | tr t =>
        simp only [e] at h ⊢
        exact getT_snoc h hk
theorem EnvOk.kidOf (E : EnvOk K c σ H Γ (e :: τ) (w :: us)) (hv : viewE Γ e = some (.nd k o ts)) (hk : kidE e k o ts j = some e') :
    ∃ a vs w', w = .ref a ∧ ObjAt K k o H a vs ∧ ts.length = vs.length ∧ vs[j]? = some w' ∧ EnvOk K c σ H Γ (e' :: τ) (w' :: us) := by
  obtain ⟨Z, ws, Φ, Ψ, EE⟩ := id E
  have view : ∃ Θ, Rep K Z H .own (.nd k o ts) w Θ ∧ ∀ x, e = .tr x → ∃ Ψ2, RepL K Z H .own (trees τ) us Ψ2 ∧ (∀ b, ¬ (Θ b ∧ Ψ2 b)) ∧ ∀ b, Ψ b ↔ Θ b ∨ Ψ2 b := by
    cases e with
    | tr x =>
      obtain ⟨v0, vs0, Θ1, Θ2, e1, a1, a2, ad, au⟩ := EE.tm
      cases e1
      simp only [viewE] at hv
      cases hv
      exact ⟨Θ1, a1, fun _ _ => ⟨Θ2, a2, ad, au⟩⟩
    | no => simp [viewE] at hv
    | al p =>
      obtain ⟨Θ, r⟩ := EE.view (n := 0) rfl rfl hv
      exact ⟨Θ, r, fun _ h => by cases h⟩
  obtain ⟨Θ, rT, rX⟩ := view
  obtain ⟨a, vs, Ξ, rfl, ho, hl, hn⟩ := id rT
  have ho : ObjAt K k o H a vs := ho
  have hl : RepL K Z H o ts vs Ξ := hl
  have hn : Nod Z k o a ts Ξ Θ := hn
  unfold kidE at hk
  cases ht : ts[j]? with
  | none => simp [ht] at hk
  | some t =>
    simp only [ht] at hk
    obtain ⟨w', Ξ1, Ξ2, e1, r1, d1, u1, _⟩ := RepL.at_ _ hl ht
    refine ⟨a, vs, w', rfl, ho, RepL.len _ hl, e1, ?_⟩
    have r1' : Rep K Z H .own (kid o t) w' Ξ1 := rep_kid.mpr r1
    by_cases hc : cp (kid o t) = true
    · rw [if_pos hc] at hk
      cases hk
      have n0 := Rep.cp0 _ r1' hc
      exact EE.swap (τ1 := [e]) (us1 := [.ref a]) (τ1' := [.tr (kid o t)]) (us1' := [w']) (Ψ1' := Ξ1) rfl (by simp) (fun Ψ1 r => ⟨⟨w', [], Ξ1, fun _ => False, rfl, r1', ⟨rfl, fun _ h => h⟩, by grind, by grind⟩, .same _ _ _ EE.zs (fun b q => RepL.isS _ r b q) _ (by grind)⟩) rfl
    · rw [if_neg hc] at hk
      cases e with
      | no => simp [viewE] at hv
      | tr x =>
        simp only at hk
        cases hk
        simp only [viewE] at hv
        cases hv
        obtain ⟨Ψ2, rR, rD, rU⟩ := rX _ rfl
        exact EE.swapX (τ1 := [.tr (.nd k o ts)]) (us1 := [.ref a]) (τ1' := [.tr (kid o t)]) (us1' := [w']) (Ψ1 := Θ) (Ψ1' := Ξ1) rfl (by simp) ⟨.ref a, [], Θ, fun _ => False, rfl, rT, ⟨rfl, fun _ h => h⟩, by grind, by grind⟩ rR rD rU ⟨w', [], Ξ1, fun _ => False, rfl, r1', ⟨rfl, fun _ h => h⟩, by grind, by grind⟩ (.same _ _ _ EE.zs (Rep.isS _ rT) _ (by
          intro b q
          have hb : Θ b := by
            by_cases eo : o = .own
            · exact hn.sub eo b ((u1 b).mpr (.inl q))
            · exact absurd ((u1 b).mpr (.inl q)) (RepL.no0 _ eo hl b)
          exact ⟨hb, (EE.zo b (.inr ((rU b).mpr (.inl hb)))).2⟩)) rfl
      | al p =>
        have g : getG Γ p = some (.nd k o ts) := hv
        obtain ⟨w0, e0, raw, gg⟩ := EE.to 0 p rfl
        cases e0
        have : k ≠ .tup ∧ o = .own ∧ e' = .al (p ++ [j]) := by
          cases k <;> simp_all
          all_goals grind
        obtain ⟨h1, rfl, rfl⟩ := this
        have gs2 : (getG Γ (p ++ [j])).isSome = true := by rw [getG_snoc g h1, ht]; rfl
        have raw2 := raw.snoc (objKids ho h1) e1
        obtain ⟨sl, tm, dj, so, to, ln, zo, zf, z0, zs, st, pv⟩ := EE
        obtain ⟨v0, vs0, Θ1, Θ2, e2, a1, a2, ad, au⟩ := tm
        cases e2
        refine ⟨Z, ws, Φ, Ψ, ⟨sl, ⟨w', us, Θ1, Θ2, rfl, a1, a2, ad, au⟩, dj, so, ?_, ln, zo, zf, z0, zs, st, pv⟩⟩
        intro i q hi
        match i with
        | 0 =>
          simp at hi
          subst hi
          exact ⟨w', rfl, raw2, gs2⟩
        | i + 1 =>
          obtain ⟨w1, s1, s2, s3⟩ := to (i + 1) q (by simpa using hi)
          exact ⟨w1, by simpa using s1, s2, s3⟩
end
section
variable {K : KC} {Z Z' : Zn} {H H' : Hp} {m : Ow} {t t' : Tr} {ts : List Tr} {v w : V} {vs us ws : List V} {Φ Ψ : Ps} {a : Addr} {k : Nk} {o : Ow} {i j : Nat} {p q : List Nat} {Γ τ : List Ent} {σ : St} {c : Cz} {e e' : Ent}
theorem RepL.anyv : ∀ (ts : List Tr) {vs : List V} {Φ : Ps} {i : Nat}, RepL K Z H m ts vs Φ → ts[i]? = some .any → RepL K Z H m ts (vs.set i v) Φ
  | [], _, _, _, _, q => by simp at q
  | x :: ts, vs, Φ, 0, h, q => by
    obtain ⟨v', vs', Φ1, Φ2, e1, h1, h2, d1, u⟩ := h
    cases q
    subst e1
    exact ⟨v, vs', Φ1, Φ2, rfl, h1, h2, d1, u⟩
  | x :: ts, vs, Φ, i + 1, h, q => by
    obtain ⟨v', vs', Φ1, Φ2, e1, h1, h2, d1, u⟩ := h
    subst e1
    exact ⟨v', vs'.set i v, Φ1, Φ2, rfl, h1, RepL.anyv ts h2 (by simpa using q), d1, u⟩
theorem Raw.setv (h : q.head? ≠ some i) (r : Raw H ws q w) : Raw H (ws.set i v) q w := by
  match q with
  | [] => exact r
  | [j] =>
    have : i ≠ j := fun e => h (by rw [e]; rfl)
    show (ws.set i v)[j]? = some w
    rw [List.getElem?_set_ne this]
    exact r
  | j :: j2 :: q =>
    have : i ≠ j := fun e => h (by rw [e]; rfl)
    obtain ⟨v', us, e1, k1, r⟩ := r
    exact ⟨v', us, by rw [List.getElem?_set_ne this]; exact e1, k1, r⟩
theorem getG_ne (h : q.head? ≠ some i) : getG ((Γ.map (killR i)).set i e) q = getG Γ q := by
  match q with
  | [] => rfl
  | j :: q =>
    have : i ≠ j := fun e => h (by rw [e]; rfl)
    simp only [getG]
    rw [List.getElem?_set_ne this, List.getElem?_map]
    cases Γ[j]? with
    | none => rfl
    | some x =>
      cases x with
      | al r => by_cases h : r.head? = some i <;> simp [killR, h]
      | _ => rfl
theorem killR_at (h : (Γ.map (killR i))[j]? = some e) : ∃ e', Γ[j]? = some e' ∧ e = killR i e' := by
  rw [List.getElem?_map] at h
  cases q : Γ[j]? with
  | none => simp [q] at h
  | some x => exact ⟨x, rfl, by simpa [q, eq_comm] using h⟩
theorem EnvOk.setT (E : EnvOk K c σ H Γ (.tr t :: τ) (v :: us)) (hi : i < Γ.length) (hm : c.md[i]? ≠ some true) : EnvOk K c (σ.set i (some v)) H ((Γ.map (killR i)).set i (.tr t)) (τ.map (killR i)) us := by
  obtain ⟨Z, ws, Φ, Ψ, sl, tm, dj, so, to, ln, zo, zf, z0, zs, st, pv⟩ := E
  obtain ⟨v0, vs0, Θ1, Θ2, e1, a1, a2, ad, au⟩ := tm
  cases e1
  have hlt : i < (trees Γ).length := by simpa [trees] using hi
  obtain ⟨v', Φ1, Φ2, e2, r, d, u, r2, _⟩ := RepL.at_ _ sl (i := i) (t := (trees Γ)[i]) (List.getElem?_eq_getElem hlt)
  have hw : i < ws.length := getq_lt' e2
  have g1 : ((trees Γ).set i .any)[i]? = some .any := List.getElem?_set_self hlt
  have r3 := RepL.put _ (RepL.anyv (v := v) _ r2 g1) g1 (List.getElem?_set_self hw) a1 (by grind)
  rw [List.set_set] at r3
  have et : trees ((Γ.map (killR i)).set i (.tr t)) = (trees Γ).set i t := by
    have := trees_killR (Γ := Γ) (i := i)
    simp only [trees, List.map_set] at this ⊢
    rw [this]
    rfl
  refine ⟨Z, ws.set i v, fun b => Θ1 b ∨ Φ2 b, Θ2, ⟨by rw [et]; exact r3, ?_, by grind, ?_, ?_, by simp [ln], by grind, zf, z0, zs, st, ?_⟩⟩
  · show RepL K Z H .own (trees (τ.map (killR i))) us Θ2
    rw [trees_killR]
    exact a2
  · intro j e he
    by_cases hj : i = j
    · subst hj
      rw [List.getElem?_set_self (by simpa using hi)] at he
      cases he
      exact ⟨v, List.getElem?_set_self hw, List.getElem?_set_self (by omega)⟩
    · rw [List.getElem?_set_ne hj] at he
      obtain ⟨e', he', rfl⟩ := killR_at he
      have h1 := so j e' he'
      cases e' with
      | no => trivial
      | tr x =>
        obtain ⟨x1, x2, x3⟩ := h1
        exact ⟨x1, by rw [List.getElem?_set_ne hj]; exact x2, by rw [List.getElem?_set_ne hj]; exact x3⟩
      | al q =>
        obtain ⟨x1, x2, x3, x4⟩ := h1
        by_cases hq : q.head? = some i
        · simp only [killR, hq, if_true]
          trivial
        · simp only [killR, hq, if_false]
          exact ⟨x1, by rw [List.getElem?_set_ne hj]; exact x2, x3.setv hq, by rw [getG_ne hq]; exact x4⟩
  · intro j q hj
    obtain ⟨e', he', hk⟩ := killR_at hj
    cases e' with
    | no => simp [killR] at hk
    | tr _ => simp [killR] at hk
    | al r =>
      by_cases hq : r.head? = some i
      · simp [killR, hq] at hk
      · simp only [killR, hq, if_false] at hk
        cases hk
        obtain ⟨w1, s1, s2, s3⟩ := to (j + 1) q (by simpa using he')
        exact ⟨w1, by simpa using s1, s2.setv hq, by rw [getG_ne hq]; exact s3⟩
  · intro j hj
    have : i ≠ j := fun e => hm (by rw [e]; exact hj)
    rw [List.getElem?_set_ne this]
    exact pv j hj
theorem EnvOk.setA (E : EnvOk K c σ H Γ (.al p :: τ) (v :: us)) (hi : i < Γ.length) (hm : c.md[i]? ≠ some true) (hp : p.head? ≠ some i) : EnvOk K c (σ.set i (some v)) H ((Γ.map (killR i)).set i (.al p)) (τ.map (killR i)) us := by
  obtain ⟨Z, ws, Φ, Ψ, sl, tm, dj, so, to, ln, zo, zf, z0, zs, st, pv⟩ := E
  obtain ⟨w0, e0, raw0, g0⟩ := to 0 p rfl
  cases e0
  obtain ⟨v0, vs0, Θ1, Θ2, e1, a1, a2, ad, au⟩ := tm
  cases e1
  have a1 : ∀ b, ¬ Θ1 b := a1
  have hlt : i < (trees Γ).length := by simpa [trees] using hi
  obtain ⟨v', Φ1, Φ2, e2, r, d, u, r2, _⟩ := RepL.at_ _ sl (i := i) (t := (trees Γ)[i]) (List.getElem?_eq_getElem hlt)
  have et : trees ((Γ.map (killR i)).set i (.al p)) = (trees Γ).set i .any := by
    have := trees_killR (Γ := Γ) (i := i)
    simp only [trees, List.map_set] at this ⊢
    rw [this]
    rfl
  refine ⟨Z, ws, Φ2, Θ2, ⟨by rw [et]; exact r2, ?_, by grind, ?_, ?_, by simp [ln], by grind, zf, z0, zs, st, pv⟩⟩
  · show RepL K Z H .own (trees (τ.map (killR i))) us Θ2
    rw [trees_killR]
    exact a2
  · intro j e he
    by_cases hj : i = j
    · subst hj
      rw [List.getElem?_set_self (by simpa using hi)] at he
      cases he
      exact ⟨v, List.getElem?_set_self (by omega), raw0, by rw [getG_ne hp]; exact g0⟩
    · rw [List.getElem?_set_ne hj] at he
      obtain ⟨e', he', rfl⟩ := killR_at he
      have h1 := so j e' he'
      cases e' with
      | no => trivial
      | tr x =>
        obtain ⟨x1, x2, x3⟩ := h1
        exact ⟨x1, x2, by rw [List.getElem?_set_ne hj]; exact x3⟩
      | al q =>
        obtain ⟨x1, x2, x3, x4⟩ := h1
        by_cases hq : q.head? = some i
        · simp only [killR, hq, if_true]
          trivial
        · simp only [killR, hq, if_false]
          exact ⟨x1, by rw [List.getElem?_set_ne hj]; exact x2, x3, by rw [getG_ne hq]; exact x4⟩
  · intro j q hj
    obtain ⟨e', he', hk⟩ := killR_at hj
    cases e' with
    | no => simp [killR] at hk
    | tr _ => simp [killR] at hk
    | al r =>
      by_cases hq : r.head? = some i
      · simp [killR, hq] at hk
      · simp only [killR, hq, if_false] at hk
        cases hk
        obtain ⟨w1, s1, s2, s3⟩ := to (j + 1) q (by simpa using he')
        exact ⟨w1, by simpa using s1, s2, by rw [getG_ne hq]; exact s3⟩
theorem RepL.reverse : ∀ (ts : List Tr) {vs : List V} {Φ : Ps}, RepL K Z H m ts vs Φ → RepL K Z H m ts.reverse vs.reverse Φ
  | [], vs, Φ, h => by
    obtain ⟨rfl, h2⟩ := h
    exact ⟨rfl, h2⟩
  | t :: ts, vs, Φ, h => by
    obtain ⟨v', vs', Φ1, Φ2, e1, h1, h2, d1, u⟩ := h
    subst e1
    rw [List.reverse_cons, List.reverse_cons]
    have r1 : RepL K Z H m [t] [v'] Φ1 := ⟨v', [], Φ1, fun _ => False, rfl, h1, ⟨rfl, fun _ h => h⟩, by grind, by grind⟩
    exact (RepL.append _ (RepL.reverse ts h2) r1 (by grind)).cast _ (by grind)
/-- how a new node is marked -/
def mkN (k : Nk) (ts : List Tr) : Option Tr := if k = .tup then some (.nd .tup .own ts) else if escL ts = true then some (.nd k .own ts) else if cpL ts = true then some (.nd k .lnt ts) else none
mutual
theorem Rep.lend : ∀ (t : Tr) {m : Ow} {v : V} {Φ : Ps}, Rep K Z H m t v Φ → (∀ b, Z.fz b → Z'.fz b) → (∀ b, Z.ln b ∨ Φ b → Z'.ln b) → Rep K Z' H (eff .lnt m) t v (fun _ => False)
  | .any, _, _, _, h, _, _ => fun _ h => h
  | .a _, _, _, _, h, _, _ => ⟨h.1, fun _ h => h⟩
  | .nd k o ts, m, v, Φ, h, f, l => by
    obtain ⟨a, vs, Ψ, e1, ho, hl, hn⟩ := h
    have ee : eff (eff .lnt m) o = eff .lnt (eff m o) := by cases m <;> cases o <;> rfl
    have sub : ∀ b, Ψ b → Φ b := by
      intro b q
      by_cases eo : eff m o = .own
      · exact hn.sub eo b q
      · exact absurd q (RepL.no0 ts eo hl b)
    refine ⟨a, vs, fun _ => False, e1, ?_, ?_, ?_⟩
    · rw [ee]
      exact ho.weak (by cases eff m o <;> simp [eff])
    · rw [ee]
      exact RepL.lend ts hl f fun b q => l b (q.imp id (sub b))
    · rw [ee]
      cases k <;> cases eo : eff m o <;> simp_all [Nod, eff]
theorem RepL.lend : ∀ (ts : List Tr) {m : Ow} {vs : List V} {Φ : Ps}, RepL K Z H m ts vs Φ → (∀ b, Z.fz b → Z'.fz b) → (∀ b, Z.ln b ∨ Φ b → Z'.ln b) → RepL K Z' H (eff .lnt m) ts vs (fun _ => False)
  | [], _, _, _, h, _, _ => ⟨h.1, fun _ h => h⟩
  | t :: ts, m, vs, Φ, h, f, l => by
    obtain ⟨v', vs', Φ1, Φ2, e1, h1, h2, d1, u⟩ := h
    exact ⟨v', vs', _, _, e1, Rep.lend t h1 f (by grind), RepL.lend ts h2 f (by grind), by simp, by simp⟩
end
mutual
theorem Rep.freeze : ∀ (t : Tr) {m : Ow} {v : V} {Φ : Ps}, Rep K Z H m t v Φ → m ≠ .lnt → (m = .own → esc t = true) → (∀ b, Z.fz b ∨ Φ b → Z'.fz b) → Rep K Z' H .frz t v (fun _ => False)
  | .any, _, _, _, h, _, _, _ => fun _ h => h
  | .a _, _, _, _, h, _, _, _ => ⟨h.1, fun _ h => h⟩
  | .nd k o ts, m, v, Φ, h, hm, he, f => by
    obtain ⟨a, vs, Ψ, e1, ho, hl, hn⟩ := h
    have sub : ∀ b, Ψ b → Φ b := by
      intro b q
      by_cases eo : eff m o = .own
      · exact hn.sub eo b q
      · exact absurd q (RepL.no0 ts eo hl b)
    have nl : eff m o ≠ .lnt := by
      cases m with
      | lnt => exact absurd rfl hm
      | frz => simp [eff]
      | own =>
        have := he rfl
        cases k <;> cases o <;> simp_all [esc, eff]
    have ee : eff .frz o = .frz := rfl
    refine ⟨a, vs, fun _ => False, e1, ?_, ?_, ?_⟩
    · rw [ee]
      exact ho.weak (by simp)
    · rw [ee]
      refine RepL.freeze ts hl nl (fun q => ?_) fun b q => f b (q.imp id (sub b))
      cases m with
      | lnt => exact absurd rfl hm
      | frz => simp [eff] at q
      | own =>
        have := he rfl
        cases k <;> cases o <;> simp_all [esc, eff, Nod]
    · rw [ee]
      cases k <;> cases eo : eff m o <;> simp_all [Nod]
theorem RepL.freeze : ∀ (ts : List Tr) {m : Ow} {vs : List V} {Φ : Ps}, RepL K Z H m ts vs Φ → m ≠ .lnt → (m = .own → escL ts = true) → (∀ b, Z.fz b ∨ Φ b → Z'.fz b) → RepL K Z' H .frz ts vs (fun _ => False)
  | [], _, _, _, h, _, _, _ => ⟨h.1, fun _ h => h⟩
  | t :: ts, m, vs, Φ, h, hm, he, f => by
    obtain ⟨v', vs', Φ1, Φ2, e1, h1, h2, d1, u⟩ := h
    exact ⟨v', vs', _, _, e1, Rep.freeze t h1 hm (fun q => by have := he q; simp_all [escL]) (by grind), RepL.freeze ts h2 hm (fun q => by have := he q; simp_all [escL]) (by grind), by simp, by simp⟩
end
end
section
variable {K : KC} {Z Z' : Zn} {H H' : Hp} {m : Ow} {t t' : Tr} {ts : List Tr} {v w : V} {vs us ws : List V} {Φ Ψ : Ps} {a : Addr} {k k' : Nk} {o : Ow} {i j : Nat} {p q : List Nat} {Γ τ τ1 τ1' : List Ent} {σ : St} {c : Cz} {e e' : Ent}
theorem Ev.swapE {us1 us1' : List V} (E : Ev K c Z ws Φ Ψ σ H Γ (τ1 ++ τ) (us1 ++ us)) (hl : τ1.length = us1.length) (hal : ∀ e ∈ τ1', ∀ p, e ≠ .al p)
    (step : ∀ Ψ1, RepL K Z H .own (trees τ1) us1 Ψ1 → (∀ b, Ψ1 b → ¬ Z.fz b ∧ ¬ Z.ln b) → ∃ Z' Ψ1', RepL K Z' H' .own (trees τ1') us1' Ψ1' ∧ Chg Z Z' H H' Ψ1 Ψ1') (hl' : τ1'.length = us1'.length) : EnvOk K c σ H' Γ (τ1' ++ τ) (us1' ++ us) := by
  have tm' : RepL K Z H .own (trees τ1 ++ trees τ) (us1 ++ us) Ψ := by simpa [trees] using E.tm
  obtain ⟨v1, v2, Ψ1, Ψ2, e, r1, r2, d, u⟩ := RepL.split _ tm'
  have hl1 := RepL.len _ r1
  have hlt : (trees τ1).length = τ1.length := by simp [trees]
  obtain ⟨rfl, rfl⟩ := List.append_inj e (by omega)
  obtain ⟨Z', Ψ1', n1, ch⟩ := step Ψ1 r1 fun b q => (E.zo b (.inr ((u b).mpr (.inl q)))).2
  exact E.swapX hl hal r1 r2 d u n1 ch hl'
theorem upd_kp {pa : Addr} {ob : HO} (hp : H pa = none) (Φ : Ps) : Kp K Z Z H (upd H pa ob) Φ :=
  ⟨fun _ h => h, fun _ h => h, fun b o _ e => by rw [upd_ne (ne_of_none e hp)]; exact e, tsk fun b o e _ => by rw [upd_ne (ne_of_none e hp)]; exact e⟩
theorem trees_tr : trees (ts.map Ent.tr) = ts := by
  simp only [trees, List.map_map]
  exact List.map_id' ts
theorem EnvOk.new {pa : Addr} {ob : HO} (E : EnvOk K c σ H Γ (ts.reverse.map Ent.tr ++ τ) (vs.reverse ++ us)) (hl : ts.length = vs.length) (hp : H pa = none) (hk : mkN k ts = some t) (ho : ∀ o, ObjAt K k o (upd H pa ob) pa vs) : EnvOk K c σ (upd H pa ob) Γ (.tr t :: τ) (.ref pa :: us) := by
  obtain ⟨Z, ws, Φ, Ψ, EE⟩ := E
  refine EE.swapE (τ1' := [.tr t]) (us1' := [.ref pa]) (by simp [hl]) (by simp) (fun Ψ1 r zo => ?_) rfl
  rw [trees_tr] at r
  have r := RepL.reverse _ r
  rw [List.reverse_reverse, List.reverse_reverse] at r
  have r2 := RepL.fr _ r (upd_kp (K := K) (Z := Z) (ob := ob) hp Ψ1)
  have hs := RepL.isS _ r
  have np : ¬ Ψ1 pa := fun q => by have := hs pa q; rw [hp] at this; cases this
  have nz : ∀ b, Z.fz b ∨ Z.ln b → b ≠ pa := fun b q e => by have := EE.zs b q; rw [e, hp] at this; cases this
  have kb : ∀ b, (H b).isSome = true → (upd H pa ob b).isSome = true := fun b q => by
    by_cases e : b = pa
    · rw [e, upd_same]; rfl
    · rw [upd_ne e]; exact q
  have one : ∀ {Z' : Zn} {Θ : Ps}, Rep K Z' (upd H pa ob) .own t (.ref pa) Θ → RepL K Z' (upd H pa ob) .own (trees [.tr t]) [.ref pa] Θ := fun {Z' Θ} h => ⟨.ref pa, [], Θ, fun _ => False, rfl, h, ⟨rfl, fun _ h => h⟩, by simp, by simp⟩
  unfold mkN at hk
  by_cases h1 : k = .tup
  · rw [if_pos h1] at hk
    cases hk
    subst h1
    refine ⟨Z, Ψ1, one ⟨pa, vs, Ψ1, rfl, ho _, r2, fun _ => Iff.rfl⟩, ⟨fun _ h => h, fun _ h => h, fun _ h => .inl h, fun _ h => .inl h, fun b q => kb b (EE.zs b q), fun b o e _ => by rw [upd_ne (ne_of_none e hp)]; exact e, fun b q => kb b (hs b q), fun b q => ⟨.inl q, zo b q⟩⟩⟩
  · rw [if_neg h1] at hk
    by_cases h2 : escL ts = true
    · rw [if_pos h2] at hk
      cases hk
      refine ⟨Z, fun b => b = pa ∨ Ψ1 b, one ⟨pa, vs, Ψ1, rfl, ho _, r2, .mk h1 (fun _ => Iff.rfl) np h2⟩, ⟨fun _ h => h, fun _ h => h, fun _ h => .inl h, fun _ h => .inl h, fun b q => kb b (EE.zs b q), fun b o e _ => by rw [upd_ne (ne_of_none e hp)]; exact e, fun b q => kb b (hs b q), fun b q => ?_⟩⟩
      rcases q with q | q
      · subst q
        exact ⟨.inr hp, fun z => nz b (.inl z) rfl, fun z => nz b (.inr z) rfl⟩
      · exact ⟨.inl q, zo b q⟩
    · rw [if_neg h2] at hk
      by_cases h3 : cpL ts = true
      · rw [if_pos h3] at hk
        cases hk
        have n0 := RepL.cp0 _ r h3
        refine ⟨⟨Z.fz, fun b => b = pa ∨ Z.ln b⟩, fun _ => False, one ⟨pa, vs, fun _ => False, rfl, ho _, ?_, ?_⟩, ⟨fun _ h => h, fun _ h => .inr h, fun _ h => .inl h, fun b h => ?_, fun b q => ?_, fun b o e _ => by rw [upd_ne (ne_of_none e hp)]; exact e, fun b q => kb b (hs b q), fun b q => q.elim⟩⟩
        · exact RepL.lend (m := .own) ts r2 (fun _ h => h) fun b q => .inr (q.elim id fun z => absurd z (n0 b))
        · cases k with
          | tup => exact absurd rfl h1
          | _ => exact ⟨fun _ h => h, .inl rfl⟩
        · rcases h with h | h
          · exact .inr (.inr (by rw [h]; exact hp))
          · exact .inl h
        · rcases q with q | q | q
          · exact kb b (EE.zs b (.inl q))
          · rw [q, upd_same]; rfl
          · exact kb b (EE.zs b (.inr q))
      · rw [if_neg h3] at hk
        cases hk
theorem EnvOk.lend (E : EnvOk K c σ H Γ (.tr t :: τ) (v :: us)) : EnvOk K c σ H Γ (.tr (kid .lnt t) :: τ) (v :: us) := by
  obtain ⟨Z, ws, Φ, Ψ, EE⟩ := E
  refine EE.swapE (τ1 := [.tr t]) (us1 := [v]) (τ1' := [.tr (kid .lnt t)]) (us1' := [v]) rfl (by simp) (fun Ψ1 r zo => ?_) rfl
  have hs := RepL.isS _ r
  obtain ⟨v0, vs0, Θ1, Θ2, e1, a1, a2, ad, au⟩ := r
  cases e1
  refine ⟨⟨Z.fz, fun b => Z.ln b ∨ Ψ1 b⟩, fun _ => False, ⟨v, [], fun _ => False, fun _ => False, rfl, rep_kid.mpr (Rep.lend (m := .own) t a1 (fun _ h => h) fun b q => q.imp id fun z => (au b).mpr (.inl z)), ⟨rfl, fun _ h => h⟩, by simp, by simp⟩,
    ⟨fun _ h => h, fun _ h => .inl h, fun _ h => .inl h, fun b h => h.imp id .inl, fun b q => ?_, fun b o e _ => e, hs, fun b q => q.elim⟩⟩
  rcases q with q | q | q
  · exact EE.zs b (.inl q)
  · exact EE.zs b (.inr q)
  · exact hs b q
theorem EnvOk.freeze (E : EnvOk K c σ H Γ (.tr t :: τ) (v :: us)) (he : esc t = true) : EnvOk K c σ H Γ (.tr (kid .frz t) :: τ) (v :: us) := by
  obtain ⟨Z, ws, Φ, Ψ, EE⟩ := E
  refine EE.swapE (τ1 := [.tr t]) (us1 := [v]) (τ1' := [.tr (kid .frz t)]) (us1' := [v]) rfl (by simp) (fun Ψ1 r zo => ?_) rfl
  have hs := RepL.isS _ r
  obtain ⟨v0, vs0, Θ1, Θ2, e1, a1, a2, ad, au⟩ := r
  cases e1
  refine ⟨⟨fun b => Z.fz b ∨ Ψ1 b, Z.ln⟩, fun _ => False, ⟨v, [], fun _ => False, fun _ => False, rfl, rep_kid.mpr (Rep.freeze (m := .own) t a1 (by simp) (fun _ => he) fun b q => q.imp id fun z => (au b).mpr (.inl z)), ⟨rfl, fun _ h => h⟩, by simp, by simp⟩,
    ⟨fun _ h => .inl h, fun _ h => h, fun b h => h.imp id .inl, fun _ h => .inl h, fun b q => ?_, fun b o e _ => e, hs, fun b q => q.elim⟩⟩
  rcases q with (q | q) | q
  · exact EE.zs b (.inl q)
  · exact hs b q
  · exact EE.zs b (.inr q)
/-- an own node that is held changes in place; items may come out of it -/
theorem EnvOk.mut {us1 vs' vouts : List V} {ts' outs : List Tr} {ob : HO} (E : EnvOk K c σ H Γ (.tr (.nd k .own ts) :: (τ1 ++ τ)) (.ref a :: (us1 ++ us))) (hk : k ≠ .tup) (hk' : k' ≠ .tup) (hl : τ1.length = us1.length) (ho : ObjAt K k .own H a vs)
    (step : ∀ Z Ψa Ψb, RepL K Z H .own ts vs Ψa → RepL K Z H .own (trees τ1) us1 Ψb → (∀ b, ¬ (Ψa b ∧ Ψb b)) → ∃ Ψ', RepL K Z H .own (ts' ++ outs) (vs' ++ vouts) Ψ' ∧ ∀ b, Ψ' b → Ψa b ∨ Ψb b)
    (hl2 : ts'.length = vs'.length) (hl3 : outs.length = vouts.length) (he : escL ts' = true) (ho' : ObjAt K k' .own (upd H a ob) a vs') :
    EnvOk K c σ (upd H a ob) Γ (.tr (.nd k' .own ts') :: (outs.map .tr ++ τ)) (.ref a :: (vouts ++ us)) := by
  obtain ⟨Z, ws, Φ, Ψ, EE⟩ := E
  refine EE.swapE (τ1 := .tr (.nd k .own ts) :: τ1) (us1 := .ref a :: us1) (τ1' := .tr (.nd k' .own ts') :: outs.map .tr) (us1' := .ref a :: vouts) (by simp [hl]) (by simp) (fun Ψ1 r zo => ?_) (by simp [hl3])
  have hs := RepL.isS _ r
  have nt := RepL.nt _ r
  obtain ⟨v0, vs0, Θ1, Θ2, e1, a1, a2, ad, au⟩ := r
  cases e1
  obtain ⟨a', vs2, Ξ, e2, ho2, hl4, hn⟩ := a1
  cases e2
  have ho2 : ObjAt K k .own H a vs2 := ho2
  have hl4 : RepL K Z H .own ts vs2 Ξ := hl4
  have hn : Nod Z k .own a ts Ξ Θ1 := hn
  cases (objKids ho hk).fn (objKids ho2 hk)
  have hn := hn.own hk
  obtain ⟨Ψ', r', sub⟩ := step Z Ξ Θ2 hl4 a2 (by grind)
  have na : ¬ Ψ' a := by grind
  have aΨ : Ψ1 a := by grind
  have nz := zo a aΨ
  have kp : Kp K Z Z H (upd H a ob) Ψ' := ⟨fun _ h => h, fun _ h => h, fun b o q e => by rw [upd_ne (by grind)]; exact e, tsk fun b o e n => by
    rw [upd_ne (fun q => by subst q; have := nt b o aΨ e; rw [n] at this; cases this)]; exact e⟩
  have r' := RepL.fr _ r' kp
  obtain ⟨w1, w2, Ξ1, Ξ2, e3, b1, b2, bd, bu⟩ := RepL.split _ r'
  have hlen := RepL.len _ b1
  obtain ⟨rfl, rfl⟩ := List.append_inj e3 (by omega)
  refine ⟨Z, fun b => b = a ∨ Ψ' b, ⟨.ref a, vouts, fun b => b = a ∨ Ξ1 b, Ξ2, rfl, ⟨a, vs', Ξ1, rfl, ho', b1, .mk hk' (fun _ => Iff.rfl) (by grind) he⟩, ?_, by grind, by grind⟩, ⟨fun _ h => h, fun _ h => h, fun _ h => .inl h, fun _ h => .inl h, fun b q => ?_, fun b o e n => by rw [upd_ne (by grind)]; exact e, fun b q => ?_, fun b q => ?_⟩⟩
  · show RepL K Z (upd H a ob) .own (trees (outs.map .tr)) vouts Ξ2
    rw [trees_tr]
    exact b2
  · rw [upd_ne (by grind)]; exact EE.zs b q
  · by_cases e : b = a
    · rw [e, upd_same]; rfl
    · rw [upd_ne e]; exact hs b q
  · have : Ψ1 b := by grind
    exact ⟨.inl this, zo b this⟩
end
/-! the machine: readings as functions on trees -/
structure KT where
  P : Program
  w : World
  ct : Nat → Addr
  nm : Nat → List Str
  et : Nat → Addr
abbrev kcm (K : PySem.W.Frag) (T : KT) : KC := ⟨K, T.P, T.w, T.ct, T.nm, T.et⟩
structure Ms where
  g : List Ent
  s : List Ent
inductive Rs | ok (m : Ms) | ex (C : Nat) (g : List Ent)
abbrev GE := Ms → Option Rs
def PostE (K : KC) (c : Cz) (W : WX) (σ : St) (us : List V) (Q : VK) : Rs → Prop
  | .ok m' => ∀ v H', EnvOk K c σ H' m'.g m'.s (v :: us) → Q v H'
  | .ex C g' => ∀ H', EnvOk K c σ H' g' [] [] → W (.ref (K.et C)) none σ H'
def SE (K : KC) (md : List Bool) (W : WX) (t : TE) (g : GE) : Prop := ∀ (c : Cz) (σ : St) (H : Hp) (m : Ms) (us : List V) (Q : VK) (r : Rs), c.md = md → EnvOk K c σ H m.g m.s us → g m = some r → PostE K c W σ us Q r → t σ H Q
def PostA (K : KC) (c : Cz) (W : WX) (σ : St) (us : List V) (n : Nat) (Q : List V → Hp → Prop) : Rs → Prop
  | .ok m' => ∀ vs H', vs.length = n → EnvOk K c σ H' m'.g m'.s (vs.reverse ++ us) → Q vs H'
  | .ex C g' => ∀ H', EnvOk K c σ H' g' [] [] → W (.ref (K.et C)) none σ H'
def SA (K : KC) (md : List Bool) (W : WX) (n : Nat) (t : TA) (g : GE) : Prop := ∀ (c : Cz) (σ : St) (H : Hp) (m : Ms) (us : List V) (Q : List V → Hp → Prop) (r : Rs), c.md = md → EnvOk K c σ H m.g m.s us → g m = some r → PostA K c W σ us n Q r → t σ H Q
/-- a test leaves a truth value on top -/
def PostT (K : KC) (c : Cz) (W : WX) (σ : St) (us : List V) (Q : Bool → Hp → Prop) : Rs → Prop
  | .ok ⟨g', .tr (.a (.bl b)) :: s'⟩ => ∀ H', EnvOk K c σ H' g' s' us → Q b H'
  | .ok _ => False
  | .ex C g' => ∀ H', EnvOk K c σ H' g' [] [] → W (.ref (K.et C)) none σ H'
def ST (K : KC) (md : List Bool) (W : WX) (t : TT) (g : GE) : Prop := ∀ (c : Cz) (σ : St) (H : Hp) (m : Ms) (us : List V) (Q : Bool → Hp → Prop) (r : Rs), c.md = md → EnvOk K c σ H m.g m.s us → g m = some r → PostT K c W σ us Q r → t σ H Q
def ME (X : Cx) (T : KT) (md : List Bool) (W : WX) (e : Expr) (g : GE) : Prop := ∃ t, PE X e t ∧ SE (kcm X.K T) md W t g
def MA (X : Cx) (T : KT) (md : List Bool) (W : WX) (es : List Expr) (g : GE) : Prop := ∃ t, PA X es t ∧ SA (kcm X.K T) md W es.length t g
def MT (X : Cx) (T : KT) (md : List Bool) (W : WX) (e : Expr) (g : GE) : Prop := ∃ t, PT X e t ∧ ST (kcm X.K T) md W t g
def MW (X : Cx) (T : KT) (md : List Bool) (W : WX) (e : Expr) (g : GE) : Prop := ∃ t, PW X e t ∧ ST (kcm X.K T) md W t g
def gSeq (a b : GE) : GE := fun m => match a m with
  | some (.ok m') => b m'
  | r => r
/-- what an operation on n values of the stack does -/
def RA (K : KC) (md : List Bool) (W : WX) (n : Nat) (r : St → List V → Hp → VK → Prop) (f : GE) : Prop := ∀ (c : Cz) (σ : St) (H : Hp) (m : Ms) (us vs : List V) (Q : VK) (rr : Rs), c.md = md → vs.length = n → EnvOk K c σ H m.g m.s (vs.reverse ++ us) → f m = some rr → PostE K c W σ us Q rr → r σ vs H Q
abbrev RA2 (K : KC) (md : List Bool) (W : WX) (r : R2) (f : GE) : Prop := RA K md W 2 (fun _ vs H Q => ∃ x y, vs = [x, y] ∧ r x y H Q) f
section
variable {K : KC} {X : Cx} {T : KT} {md : List Bool} {W : WX} {t ta tb : TE} {g ga gb f f' : GE} {e a b : Expr} {es : List Expr} {pos : Pos} {n : Nat} {r r' : R2} {v : V}
theorem RA2.mk (h : ∀ (c : Cz) (σ : St) (H : Hp) (m : Ms) (us : List V) (x y : V) (Q : VK) (rr : Rs), c.md = md → EnvOk K c σ H m.g m.s (y :: x :: us) → f m = some rr → PostE K c W σ us Q rr → r x y H Q) : RA2 K md W r f := by
  intro c σ H m us vs Q rr hc hl E hf hp
  match vs, hl with
  | [x, y], _ => exact ⟨x, y, rfl, h c σ H m us x y Q rr hc E hf hp⟩
theorem RA2.use (h : RA2 K md W r f) {c : Cz} {σ : St} {H : Hp} {m : Ms} {us : List V} {x y : V} {Q : VK} {rr : Rs} (hc : c.md = md) (E : EnvOk K c σ H m.g m.s (y :: x :: us)) (hf : f m = some rr) (hp : PostE K c W σ us Q rr) : r x y H Q := by
  obtain ⟨x', y', e, q⟩ := h c σ H m us [x, y] Q rr hc rfl E hf hp
  cases e
  exact q
theorem se_op (hr : RA2 K md W r f) (ha : SE K md W ta ga) (hb : SE K md W tb gb) : SE K md W (tOp r ta tb) (gSeq (gSeq ga gb) f) := by
  intro c σ H m us Q rr hc E hg hp
  simp only [gSeq] at hg
  cases e1 : ga m with
  | none => simp [e1] at hg
  | some r1 =>
    cases r1 with
    | ex C g' =>
      simp only [e1] at hg
      cases hg
      exact ha c σ H m us _ _ hc E e1 hp
    | ok m1 =>
      simp only [e1] at hg
      refine ha c σ H m us _ _ hc E e1 fun x H1 E1 => ?_
      cases e2 : gb m1 with
      | none => simp [e2] at hg
      | some r2 =>
        cases r2 with
        | ex C g' =>
          simp only [e2] at hg
          cases hg
          exact hb c σ H1 m1 _ _ _ hc E1 e2 hp
        | ok m2 =>
          simp only [e2] at hg
          exact hb c σ H1 m1 _ _ _ hc E1 e2 fun y H2 E2 => hr.use hc E2 hg hp
theorem OpR.or {f : Value → Value → Sem Value} (h : OpR X f r) (h' : OpR X f r') : OpR X f (fun x y H Q => r x y H Q ∨ r' x y H Q) := by
  intro pins s σ H x y v u Q I rx ry q
  rcases q with q | q
  · exact h pins s σ H x y v u Q I rx ry q
  · exact h' pins s σ H x y v u Q I rx ry q
def gOr (f f' : GE) : GE := fun m => match f m with
  | none => f' m
  | r => r
theorem RA2.or (h : RA2 K md W r f) (h' : RA2 K md W r' f') : RA2 K md W (fun x y H Q => r x y H Q ∨ r' x y H Q) (gOr f f') := by
  refine .mk fun c σ H m us x y Q rr hc E hf hp => ?_
  simp only [gOr] at hf
  cases e1 : f m with
  | none =>
    simp only [e1] at hf
    exact .inr (h'.use hc E hf hp)
  | some r1 =>
    simp only [e1] at hf
    exact .inl (h.use hc E (by rw [e1]; exact hf) hp)
/-- an operation that looks at two things and gives a plain value -/
def fP2 (F : Tr → Tr → Option V) : GE := fun m => match m.s with
  | y :: x :: s => match viewE m.g x, viewE m.g y with
    | some tx, some ty => match F tx ty with
      | some v => some (.ok ⟨m.g, .tr (.a v) :: s⟩)
      | none => none
    | _, _ => none
  | _ => none
theorem fP2_ok {F : Tr → Tr → Option V} (hF : ∀ (Z : Zn) (H : Hp) (x y : V) (tx ty : Tr) (u : V) (Φ Ψ : Ps) (Q : VK), Rep K Z H .own tx x Φ → Rep K Z H .own ty y Ψ → F tx ty = some u → Q u H → r x y H Q) : RA2 K md W r (fP2 F) := by
  refine .mk fun c σ H m us x y Q rr hc E hf hp => ?_
  simp only [fP2] at hf
  split at hf
  · rename_i ey ex s hs
    split at hf
    · rename_i tx ty h1 h2
      split at hf
      · rename_i u hu
        cases hf
        rw [hs] at E
        obtain ⟨Z, ws, Φ, Ψ, EE⟩ := id E
        obtain ⟨Θ1, r1⟩ := EE.view (n := 1) rfl rfl h1
        obtain ⟨Θ2, r2⟩ := EE.view (n := 0) rfl rfl h2
        exact hF Z H x y tx ty u Θ1 Θ2 Q r1 r2 hu (hp u H (E.drop.drop.atom u))
      · cases hf
    · cases hf
  · cases hf
/-- the same of one thing -/
def fP1 (F : Tr → Option V) : GE := fun m => match m.s with
  | x :: s => match viewE m.g x with
    | some tx => match F tx with
      | some v => some (.ok ⟨m.g, .tr (.a v) :: s⟩)
      | none => none
    | _ => none
  | _ => none
theorem fP1_ok {F : Tr → Option V} {r : St → List V → Hp → VK → Prop} (hF : ∀ (σ : St) (Z : Zn) (H : Hp) (x : V) (tx : Tr) (u : V) (Φ : Ps) (Q : VK), Rep K Z H .own tx x Φ → F tx = some u → Q u H → r σ [x] H Q) : RA K md W 1 r (fP1 F) := by
  intro c σ H m us vs Q rr hc hl E hf hp
  match vs, hl with
  | [x], _ =>
    simp only [fP1] at hf
    split at hf
    · rename_i ex s hs
      split at hf
      · rename_i tx h1
        split at hf
        · rename_i u hu
          cases hf
          rw [hs] at E
          obtain ⟨Z, ws, Φ, Ψ, EE⟩ := id E
          obtain ⟨Θ1, r1⟩ := EE.view (n := 0) rfl rfl h1
          exact hF σ Z H x tx u Θ1 Q r1 hu (hp u H (E.drop.atom u))
        · cases hf
      · cases hf
    · cases hf
def gC (v : V) : GE := fun m => some (.ok ⟨m.g, .tr (.a v) :: m.s⟩)
theorem se_c : SE K md W (tC v) (gC v) := by
  intro c σ H m us Q rr hc E hg hp
  cases hg
  exact hp v H (E.atom v)
theorem me_c (h : PE X e (tC v)) : ME X T md W e (gC v) := ⟨_, h, se_c⟩
def gVar (i : Nat) : GE := fun m => match m.g[i]? with
  | some (.tr t) => if cp t = true then some (.ok ⟨m.g, .tr t :: m.s⟩) else some (.ok ⟨m.g, .al [i] :: m.s⟩)
  | some (.al p) => some (.ok ⟨m.g, .al p :: m.s⟩)
  | _ => none
theorem se_var {i : Nat} : SE K md W (tVar i) (gVar i) := by
  intro c σ H m us Q rr hc E hg hp
  simp only [gVar] at hg
  split at hg
  · rename_i t ht
    by_cases h : cp t = true
    · rw [if_pos h] at hg
      cases hg
      obtain ⟨v, h1, E1⟩ := E.var ht h
      exact ⟨v, h1, hp v H E1⟩
    · rw [if_neg h] at hg
      cases hg
      obtain ⟨v, h1, E1⟩ := E.varP ht
      exact ⟨v, h1, hp v H E1⟩
  · rename_i p ht
    cases hg
    obtain ⟨v, h1, E1⟩ := E.varA ht
    exact ⟨v, h1, hp v H E1⟩
  · cases hg
theorem me_var {i : Nat} (h : PE X e (tVar i)) : ME X T md W e (gVar i) := ⟨_, h, se_var⟩
theorem me_bin {op : Operator} (ho : OpR X (binaryOp op) r) (hf : RA2 (kcm X.K T) md W r f) (ha : ME X T md W a ga) (hb : ME X T md W b gb) : ME X T md W (.BinOp a op b pos) (gSeq (gSeq ga gb) f) := by
  obtain ⟨ta, pa, sa⟩ := ha
  obtain ⟨tb, pb, sb⟩ := hb
  exact ⟨_, pe_op ho pa pb, se_op hf sa sb⟩
theorem me_cmp {op : CmpOp} (ho : OpR X (compareOp op) r) (hf : RA2 (kcm X.K T) md W r f) (ha : ME X T md W a ga) (hb : ME X T md W b gb) (hm : behindInMarks op b = false) : ME X T md W (.Compare a [op] [b] pos) (gSeq (gSeq ga gb) f) := by
  obtain ⟨ta, pa, sa⟩ := ha
  obtain ⟨tb, pb, sb⟩ := hb
  exact ⟨_, pe_cmpR ho pa pb hm, se_op hf sa sb⟩
theorem me_ix (ho : IxR X r) (hf : RA2 (kcm X.K T) md W r f) (ha : ME X T md W a ga) (hb : ME X T md W b gb) (hs : PlainIx b) : ME X T md W (.Subscript a b pos) (gSeq (gSeq ga gb) f) := by
  obtain ⟨ta, pa, sa⟩ := ha
  obtain ⟨tb, pb, sb⟩ := hb
  exact ⟨_, pe_ix ho pa pb hs, se_op hf sa sb⟩
/-! tests -/
theorem st_of (hs : SE K md W t g) : ST K md W (fun σ H Q => t σ H fun x H' => ∃ k, x = .bl k ∧ Q k H') g := by
  intro c σ H m us Q rr hc E hg hp
  refine hs c σ H m us _ rr hc E hg ?_
  cases rr with
  | ex C g' => exact hp
  | ok m' =>
    intro v H' E'
    obtain ⟨g', s'⟩ := m'
    match s', hp with
    | .tr (.a (.bl b)) :: s', hp =>
      obtain ⟨Z, ws, Φ, Ψ, EE⟩ := id E'
      obtain ⟨Θ1, r1⟩ := EE.view (n := 0) (e := .tr (.a (.bl b))) rfl rfl rfl
      obtain ⟨rfl, _⟩ := r1
      exact ⟨b, rfl, hp H' E'.drop⟩
theorem mt_val (h : ME X T md W e g) (he : ∀ whole, isTrue e X.env whole = (do let v ← whole; standAt e.pos; holding [v] (truthy v)) := by intro _; rfl) : MT X T md W e g := by
  obtain ⟨t, p, s⟩ := h
  exact ⟨_, pt_val p he, st_of s⟩
theorem mt_cmp {op : CmpOp} (ho : OpR X (compareOp op) r) (hf : RA2 (kcm X.K T) md W r f) (ha : ME X T md W a ga) (hb : ME X T md W b gb) (hm : behindInMarks op b = false) : MT X T md W (.Compare a [op] [b] pos) (gSeq (gSeq ga gb) f) := by
  obtain ⟨ta, pa, sa⟩ := ha
  obtain ⟨tb, pb, sb⟩ := hb
  exact ⟨_, pt_cmpR ho pa pb hm, st_of (se_op hf sa sb)⟩
def gNot (g : GE) : GE := fun m => match g m with
  | some (.ok ⟨g', .tr (.a (.bl b)) :: s'⟩) => some (.ok ⟨g', .tr (.a (.bl (!b))) :: s'⟩)
  | some (.ex C g') => some (.ex C g')
  | _ => none
theorem st_not {t : TT} (hs : ST K md W t g) : ST K md W (tNot t) (gNot g) := by
  intro c σ H m us Q rr hc E hg hp
  simp only [gNot] at hg
  split at hg
  · rename_i g' b s' h1
    cases hg
    exact hs c σ H m us _ _ hc E h1 hp
  · rename_i C g' h1
    cases hg
    exact hs c σ H m us _ _ hc E h1 hp
  · cases hg
theorem mt_not (h : MT X T md W e g) : MT X T md W (.UnaryOp .Not e pos) (gNot g) := by
  obtain ⟨t, p, s⟩ := h
  exact ⟨_, pt_not p, st_not s⟩
def gAnd (g h : GE) : GE := fun m => match g m with
  | some (.ok ⟨g', .tr (.a (.bl true)) :: s'⟩) => h ⟨g', s'⟩
  | some (.ok ⟨g', .tr (.a (.bl false)) :: s'⟩) => some (.ok ⟨g', .tr (.a (.bl false)) :: s'⟩)
  | some (.ex C g') => some (.ex C g')
  | _ => none
def gOrB (g h : GE) : GE := fun m => match g m with
  | some (.ok ⟨g', .tr (.a (.bl false)) :: s'⟩) => h ⟨g', s'⟩
  | some (.ok ⟨g', .tr (.a (.bl true)) :: s'⟩) => some (.ok ⟨g', .tr (.a (.bl true)) :: s'⟩)
  | some (.ex C g') => some (.ex C g')
  | _ => none
theorem top_bl {c : Cz} {σ : St} {H : Hp} {g' s' : List Ent} {x : V} {us : List V} {b : Bool} (E : EnvOk K c σ H g' (.tr (.a (.bl b)) :: s') (x :: us)) : x = .bl b := by
  obtain ⟨Z, ws, Φ, Ψ, EE⟩ := E
  obtain ⟨Θ1, r1⟩ := EE.view (n := 0) (e := .tr (.a (.bl b))) rfl rfl rfl
  exact r1.1
theorem st_and {t u : TT} {h : GE} (hs : ST K md W t g) (hu : ST K md W u h) : ST K md W (tAnd t u) (gAnd g h) := by
  intro c σ H m us Q rr hc E hg hp
  simp only [gAnd] at hg
  split at hg
  · rename_i g' s' h1
    exact hs c σ H m us _ _ hc E h1 fun H' E' => iteT (hu c σ H' _ us _ _ hc E' hg hp)
  · rename_i g' s' h1
    cases hg
    exact hs c σ H m us _ _ hc E h1 fun H' E' => iteF (hp H' E')
  · rename_i C g' h1
    cases hg
    exact hs c σ H m us _ _ hc E h1 hp
  · cases hg
theorem st_or {t u : TT} {h : GE} (hs : ST K md W t g) (hu : ST K md W u h) : ST K md W (tOr t u) (gOrB g h) := by
  intro c σ H m us Q rr hc E hg hp
  simp only [gOrB] at hg
  split at hg
  · rename_i g' s' h1
    exact hs c σ H m us _ _ hc E h1 fun H' E' => iteF (hu c σ H' _ us _ _ hc E' hg hp)
  · rename_i g' s' h1
    cases hg
    exact hs c σ H m us _ _ hc E h1 fun H' E' => iteT (hp H' E')
  · rename_i C g' h1
    cases hg
    exact hs c σ H m us _ _ hc E h1 hp
  · cases hg
theorem se_and {h : GE} (hs : SE K md W ta g) (hu : SE K md W tb h) : SE K md W (tAndV ta tb) (gAnd g h) := by
  intro c σ H m us Q rr hc E hg hp
  simp only [gAnd] at hg
  split at hg
  · rename_i g' s' h1
    exact hs c σ H m us _ _ hc E h1 fun x H' E' => ⟨true, top_bl E', iteT (hu c σ H' _ us _ _ hc E'.drop hg hp)⟩
  · rename_i g' s' h1
    cases hg
    exact hs c σ H m us _ _ hc E h1 fun x H' E' => ⟨false, top_bl E', iteF (hp _ H' (top_bl E' ▸ E'))⟩
  · rename_i C g' h1
    cases hg
    exact hs c σ H m us _ _ hc E h1 hp
  · cases hg
theorem se_or {h : GE} (hs : SE K md W ta g) (hu : SE K md W tb h) : SE K md W (tOrV ta tb) (gOrB g h) := by
  intro c σ H m us Q rr hc E hg hp
  simp only [gOrB] at hg
  split at hg
  · rename_i g' s' h1
    exact hs c σ H m us _ _ hc E h1 fun x H' E' => ⟨false, top_bl E', iteF (hu c σ H' _ us _ _ hc E'.drop hg hp)⟩
  · rename_i g' s' h1
    cases hg
    exact hs c σ H m us _ _ hc E h1 fun x H' E' => ⟨true, top_bl E', iteT (hp _ H' (top_bl E' ▸ E'))⟩
  · rename_i C g' h1
    cases hg
    exact hs c σ H m us _ _ hc E h1 hp
  · cases hg
theorem se_not (hs : SE K md W ta g) : SE K md W (tNotV ta) (gNot g) := by
  intro c σ H m us Q rr hc E hg hp
  simp only [gNot] at hg
  split at hg
  · rename_i g' b s' h1
    cases hg
    exact hs c σ H m us _ _ hc E h1 fun x H' E' => ⟨b, top_bl E', hp _ H' (E'.drop.atom _)⟩
  · rename_i C g' h1
    cases hg
    exact hs c σ H m us _ _ hc E h1 hp
  · cases hg
theorem me_one {op : BoolOp} (h : ME X T md W a g) : ME X T md W (.BoolOp op [a] pos) g := by
  obtain ⟨t, p, s⟩ := h
  exact ⟨_, pe_one p, s⟩
theorem me_and {h : GE} {rest : List Expr} (ha : ME X T md W a g) (hb : ME X T md W (.BoolOp .And (b :: rest) pos) h) : ME X T md W (.BoolOp .And (a :: b :: rest) pos) (gAnd g h) := by
  obtain ⟨t, p, s⟩ := ha
  obtain ⟨t', p', s'⟩ := hb
  exact ⟨_, pe_and p p', se_and s s'⟩
theorem me_or {h : GE} {rest : List Expr} (ha : ME X T md W a g) (hb : ME X T md W (.BoolOp .Or (b :: rest) pos) h) : ME X T md W (.BoolOp .Or (a :: b :: rest) pos) (gOrB g h) := by
  obtain ⟨t, p, s⟩ := ha
  obtain ⟨t', p', s'⟩ := hb
  exact ⟨_, pe_or p p', se_or s s'⟩
theorem me_not (h : ME X T md W a g) : ME X T md W (.UnaryOp .Not a pos) (gNot g) := by
  obtain ⟨t, p, s⟩ := h
  exact ⟨_, pe_not p, se_not s⟩
def gIf (c g h : GE) : GE := fun m => match c m with
  | some (.ok ⟨g', .tr (.a (.bl true)) :: s'⟩) => g ⟨g', s'⟩
  | some (.ok ⟨g', .tr (.a (.bl false)) :: s'⟩) => h ⟨g', s'⟩
  | some (.ex C g') => some (.ex C g')
  | _ => none
theorem mw_and1 (h : MT X T md W a g) : MW X T md W (.BoolOp .And [a] pos) g := by
  obtain ⟨t, p, s⟩ := h
  exact ⟨_, pw_and1 p, s⟩
theorem mw_or1 (h : MT X T md W a g) : MW X T md W (.BoolOp .Or [a] pos) g := by
  obtain ⟨t, p, s⟩ := h
  exact ⟨_, pw_or1 p, s⟩
theorem mw_and {h : GE} {rest : List Expr} (ha : MT X T md W a g) (hb : MW X T md W (.BoolOp .And (b :: rest) pos) h) : MW X T md W (.BoolOp .And (a :: b :: rest) pos) (gAnd g h) := by
  obtain ⟨t, p, s⟩ := ha
  obtain ⟨t', p', s'⟩ := hb
  exact ⟨_, pw_and p p', st_and s s'⟩
theorem mw_or {h : GE} {rest : List Expr} (ha : MT X T md W a g) (hb : MW X T md W (.BoolOp .Or (b :: rest) pos) h) : MW X T md W (.BoolOp .Or (a :: b :: rest) pos) (gOrB g h) := by
  obtain ⟨t, p, s⟩ := ha
  obtain ⟨t', p', s'⟩ := hb
  exact ⟨_, pw_or p p', st_or s s'⟩
theorem mw_pt (h : MW X T md W e g) : MT X T md W e g := by
  obtain ⟨t, p, s⟩ := h
  exact ⟨_, PW.pt p, s⟩
end
section
variable {K : KC} {X : Cx} {T : KT} {md : List Bool} {W : WX} {t ta tb : TE} {g ga gb f f' : GE} {e a b : Expr} {es : List Expr} {pos : Pos} {n : Nat} {r r' : R2} {v : V}
/-! arguments, displays -/
def gNil : GE := fun m => some (.ok m)
theorem ma_nil : MA X T md W [] gNil := ⟨_, pa_nil, fun c σ H m us Q rr hc E hg hp => by
  cases hg
  exact hp [] H rfl E⟩
theorem ma_cons (ha : ME X T md W e g) (hr : MA X T md W es f) (hs : starEach (e :: es) X.env = (false, eval e X.env) :: starEach es X.env := by rfl) : MA X T md W (e :: es) (gSeq g f) := by
  obtain ⟨t, p, s⟩ := ha
  obtain ⟨t', p', s'⟩ := hr
  refine ⟨_, pa_cons p p' hs, fun c σ H m us Q rr hc E hg hp => ?_⟩
  simp only [gSeq] at hg
  split at hg
  · rename_i m1 h1
    refine s c σ H m us _ _ hc E h1 fun x H1 E1 => s' c σ H1 m1 _ _ _ hc E1 hg ?_
    cases rr with
    | ex C g' => exact hp
    | ok m2 => exact fun vs H2 hl E2 => hp (x :: vs) H2 (by simp [hl]) (by simpa using E2)
  · rename_i h1
    refine s c σ H m us _ _ hc E hg ?_
    cases rr with
    | ex C g' => exact hp
    | ok m2 => exact absurd hg (h1 m2)
def popN : Nat → List Ent → Option (List Tr × List Ent)
  | 0, s => some ([], s)
  | n + 1, .tr t :: s => match popN n s with
    | some (ts, s') => some (ts ++ [t], s')
    | none => none
  | _, _ => none
theorem popN_eq : ∀ {n : Nat} {s s' : List Ent} {ts : List Tr}, popN n s = some (ts, s') → s = ts.reverse.map Ent.tr ++ s' ∧ ts.length = n
  | 0, s, s', ts, h => by
    simp only [popN] at h
    cases h
    exact ⟨rfl, rfl⟩
  | n + 1, s, s', ts, h => by
    match s, h with
    | .tr t :: s, h =>
      simp only [popN] at h
      split at h
      · rename_i ts1 s1 h1
        cases h
        obtain ⟨rfl, rfl⟩ := popN_eq h1
        exact ⟨by simp, by simp⟩
      · cases h
/-- a new object of the n values on top -/
def fNew (k : Nk) (n : Nat) : GE := fun m => match popN n m.s with
  | some (ts, s') => match mkN k ts with
    | some t => some (.ok ⟨m.g, .tr t :: s'⟩)
    | none => none
  | none => none
theorem fNew_ok {c : Cz} {σ : St} {H : Hp} {m : Ms} {us vs : List V} {Q : VK} {rr : Rs} {k : Nk} {ob : HO} (E : EnvOk K c σ H m.g m.s (vs.reverse ++ us)) (hl : vs.length = n) (hf : fNew k n m = some rr) (hp : PostE K c W σ us Q rr) (ho : ∀ o pa, ObjAt K k o (upd H pa ob) pa vs) : ∀ pa, H pa = none → Q (.ref pa) (upd H pa ob) := by
  intro pa np
  simp only [fNew] at hf
  split at hf
  · rename_i ts s' h1
    split at hf
    · rename_i t h2
      cases hf
      obtain ⟨e1, e2⟩ := popN_eq h1
      rw [e1] at E
      exact hp _ _ (E.new (by omega) np h2 fun o => ho o pa)
    · cases hf
  · cases hf
theorem me_lst (h : MA X T md W es g) (hl : es.length ≤ sizeLine) : ME X T md W (.List es pos) (gSeq g (fNew .lst es.length)) := by
  obtain ⟨t, p, s⟩ := h
  refine ⟨_, pe_lst p, fun c σ H m us Q rr hc E hg hp => ?_⟩
  simp only [gSeq] at hg
  split at hg
  · rename_i m1 h1
    exact s c σ H m us _ _ hc E h1 fun vs H1 hv E1 => ⟨by omega, fNew_ok E1 hv hg hp fun o pa => upd_same⟩
  · rename_i h1
    refine s c σ H m us _ _ hc E hg ?_
    cases rr with
    | ex C g' => exact hp
    | ok m2 => exact absurd hg (h1 m2)
theorem me_tup {x1 : Nat} (h : MA X T md W es g) (hl : es.length ≤ sizeLine) : ME X T md W (.Tuple es x1 pos) (gSeq g (fNew .tup es.length)) := by
  obtain ⟨t, p, s⟩ := h
  refine ⟨_, pe_tup p, fun c σ H m us Q rr hc E hg hp => ?_⟩
  simp only [gSeq] at hg
  split at hg
  · rename_i m1 h1
    exact s c σ H m us _ _ hc E h1 fun vs H1 hv E1 => ⟨by omega, fNew_ok E1 hv hg hp fun o pa => .inl upd_same⟩
  · rename_i h1
    refine s c σ H m us _ _ hc E hg ?_
    cases rr with
    | ex C g' => exact hp
    | ok m2 => exact absurd hg (h1 m2)
/-! a thing is handed on: what a name held alone goes out of it -/
def fMv (md : List Bool) : GE := fun m => match m.s with
  | .tr t :: s => some (.ok ⟨m.g, .tr t :: s⟩)
  | .al [j] :: s => if md.getD j false = true then none else match m.g[j]? with
    | some (.tr t) => some (.ok ⟨kill [j] (m.g.set j (.tr .any)), .tr t :: kill [j] s⟩)
    | _ => none
  | _ => none
theorem EnvOk.drop2 {c : Cz} {σ : St} {H : Hp} {Γ τ : List Ent} {tr : Tr} {p : List Nat} {us : List V} {x y : V} (E : EnvOk K c σ H Γ (.tr tr :: .al p :: τ) (x :: y :: us)) : EnvOk K c σ H Γ (.tr tr :: τ) (x :: us) := by
  obtain ⟨Z, ws, Φ, Ψ, EE⟩ := E
  refine EE.swapE (τ1 := [.tr tr, .al p]) (us1 := [x, y]) (τ1' := [.tr tr]) (us1' := [x]) rfl (by simp) (fun Ψ1 r zo => ?_) rfl
  have hs := RepL.isS _ r
  obtain ⟨v0, vs0, Θ1, Θ2, e1, a1, a2, ad, au⟩ := r
  cases e1
  exact ⟨Z, Θ1, ⟨x, [], Θ1, fun _ => False, rfl, a1, ⟨rfl, fun _ h => h⟩, by simp, by simp⟩, .same _ _ _ EE.zs hs _ fun b q => ⟨(au b).mpr (.inl q), zo b ((au b).mpr (.inl q))⟩⟩
theorem fMv_ok {c : Cz} {σ : St} {H : Hp} {m m' : Ms} {us : List V} {x : V} (E : EnvOk K c σ H m.g m.s (x :: us)) (hf : fMv md m = some (.ok m')) : EnvOk K c σ H m'.g m'.s (x :: us) := by
  simp only [fMv] at hf
  split at hf
  · rename_i t s hs
    cases hf
    rw [hs] at E
    exact E
  · rename_i j s hs
    split at hf
    · cases hf
    · split at hf
      · rename_i t ht
        cases hf
        rw [hs] at E
        have := EnvOk.drop2 (E.ext (t := t) (by simp [getG, ht, getT]))
        simpa [setG, ht, setT] using this
      · cases hf
  · cases hf
theorem fMv_ex {m : Ms} {C : Nat} {g' : List Ent} : fMv md m ≠ some (.ex C g') := by
  intro h
  simp only [fMv] at h
  split at h
  · cases h
  · split at h
    · cases h
    · split at h <;> cases h
  · cases h
theorem me_mv (h : ME X T md W e g) : ME X T md W e (gSeq g (fMv md)) := by
  obtain ⟨t, p, s⟩ := h
  refine ⟨_, p, fun c σ H m us Q rr hc E hg hp => ?_⟩
  simp only [gSeq] at hg
  split at hg
  · rename_i m1 h1
    cases rr with
    | ex C g' => exact absurd hg fMv_ex
    | ok m2 => exact s c σ H m us _ _ hc E h1 fun x H1 E1 => hp x H1 (fMv_ok E1 hg)
  · rename_i h1
    refine s c σ H m us _ _ hc E hg ?_
    cases rr with
    | ex C g' => exact hp
    | ok m2 => exact absurd hg (h1 m2)
/-- what is on top is never changed any more -/
def fFrz : GE := fun m => match m.s with
  | .tr t :: s => if esc t = true then some (.ok ⟨m.g, .tr (kid .frz t) :: s⟩) else none
  | _ => none
theorem me_frz (h : ME X T md W e g) : ME X T md W e (gSeq g fFrz) := by
  obtain ⟨t, p, s⟩ := h
  refine ⟨_, p, fun c σ H m us Q rr hc E hg hp => ?_⟩
  simp only [gSeq] at hg
  split at hg
  · rename_i m1 h1
    simp only [fFrz] at hg
    split at hg
    · rename_i t s1 hs
      split at hg
      · rename_i he
        cases hg
        exact s c σ H m us _ _ hc E h1 fun x H1 E1 => hp x H1 (EnvOk.freeze (hs ▸ E1) he)
      · cases hg
    · cases hg
  · rename_i h1
    refine s c σ H m us _ _ hc E hg ?_
    cases rr with
    | ex C g' => exact hp
    | ok m2 => exact absurd hg (h1 m2)
/-! fields -/
theorem lookup_zip {f : Str} : ∀ {ns : List Str} {vs : List V} {j : Nat}, ns.idxOf? f = some j → ns.length = vs.length → (ns.zip vs).lookup f = vs[j]?
  | [], _, _, h, _ => by simp at h
  | n :: ns, [], _, _, l => by simp at l
  | n :: ns, v :: vs, j, h, l => by
    rw [List.idxOf?_cons] at h
    rw [List.zip_cons_cons, List.lookup_cons]
    by_cases e : n = f
    · subst e
      simp at h
      subst h
      simp
    · have e1 : (n == f) = false := by simpa using e
      have e2 : (f == n) = false := by simpa using fun q : f = n => e q.symm
      rw [e1] at h
      simp only [Bool.false_eq_true, if_false, Option.map_eq_some_iff] at h
      obtain ⟨j', h1, rfl⟩ := h
      rw [e2]
      simpa using lookup_zip h1 (by simpa using l)
theorem idx_take {f : Str} : ∀ {ns : List Str} {j k : Nat}, ns.idxOf? f = some j → j < k → (ns.take k).idxOf? f = some j
  | [], _, _, h, _ => by simp at h
  | n :: ns, j, 0, h, l => by omega
  | n :: ns, j, k + 1, h, l => by
    rw [List.take_succ_cons]
    rw [List.idxOf?_cons] at h ⊢
    by_cases e : (n == f) = true
    · rw [if_pos e] at h ⊢
      exact h
    · rw [if_neg e] at h ⊢
      simp only [Option.map_eq_some_iff] at h ⊢
      obtain ⟨j', h1, rfl⟩ := h
      exact ⟨j', idx_take h1 (by omega), rfl⟩
/-- the classes that have a field f, with its place -/
def FldOk (K : PySem.W.Frag) (T : KT) (f : Str) (tab : List (Nat × Nat)) : Prop := ∀ n j, (n, j) ∈ tab → Cls K (T.ct n) ∧ NoAttr K (T.ct n) f ∧ (T.nm n).idxOf? f = some j
def fFld (tab : List (Nat × Nat)) : GE := fun m => match m.s with
  | e :: s => match viewE m.g e with
    | some (.nd (.ins n k) o ts) => match tab.lookup n with
      | some j => match kidE e (.ins n k) o ts j with
        | some e' => some (.ok ⟨m.g, e' :: s⟩)
        | none => none
      | none => none
    | _ => none
  | _ => none
theorem mem_lookup {α : Type} : ∀ {tab : List (Nat × α)} {n : Nat} {j : α}, tab.lookup n = some j → (n, j) ∈ tab
  | [], _, _, h => by simp at h
  | (n', j') :: tab, n, j, h => by
    rw [List.lookup_cons] at h
    by_cases e : (n == n') = true
    · rw [e] at h
      simp only [Option.some.injEq] at h
      have : n = n' := by simpa using e
      subst this h
      exact List.mem_cons_self
    · have e : (n == n') = false := by simpa using e
      rw [e] at h
      exact List.mem_cons_of_mem _ (mem_lookup h)
theorem me_fld {fl : Str} {tab : List (Nat × Nat)} (h : ME X T md W e g) (ht : FldOk X.K T fl tab) (hb : attributeBase e fl X.env (eval e X.env) = eval e X.env := by rfl) : ME X T md W (.Attribute e fl pos) (gSeq g (fFld tab)) := by
  obtain ⟨t, p, s⟩ := h
  refine ⟨_, pe_fld p hb, fun c σ H m us Q rr hc E hg hp => ?_⟩
  simp only [gSeq] at hg
  split at hg
  · rename_i m1 h1
    refine s c σ H m us _ _ hc E h1 fun x H1 E1 => ?_
    simp only [fFld] at hg
    split at hg
    · rename_i en s1 hs
      split at hg
      · rename_i nn k o ts hv
        split at hg
        · rename_i j hj
          split at hg
          · rename_i e' hk
            cases hg
            rw [hs] at E1
            obtain ⟨ad, vs, w', rfl, ho, hl, hw, E2⟩ := E1.kidOf hv hk
            obtain ⟨l, dx, ho⟩ := ho
            obtain ⟨c1, c2, c3⟩ := ht nn j (mem_lookup hj)
            have hjk : j < k := by
              have h1 := getq_lt' hw
              have h2 : ((T.nm nn).take k).length = vs.length := l
              rw [List.length_take] at h2
              omega
            refine ⟨ad, T.ct nn, dx, _, w', rfl, ho, c1, c2, ?_, hp w' H1 E2⟩
            rw [lookup_zip (idx_take c3 hjk) l]
            exact hw
          · cases hg
        · cases hg
      · cases hg
    · cases hg
  · rename_i h1
    refine s c σ H m us _ _ hc E hg ?_
    cases rr with
    | ex C g' => exact hp
    | ok m2 => exact absurd hg (h1 m2)
/-! subscripts of lists and tuples -/
def fIx : GE := fun m => match m.s with
  | .tr (.a (.int i)) :: e :: s => match viewE m.g e with
    | some (.nd .lst o ts) => match ixN ts.length i with
      | some j => match kidE e .lst o ts j with
        | some e' => some (.ok ⟨m.g, e' :: s⟩)
        | none => none
      | none => none
    | some (.nd .tup o ts) => match ixN ts.length i with
      | some j => match kidE e .tup o ts j with
        | some e' => some (.ok ⟨m.g, e' :: s⟩)
        | none => none
      | none => none
    | _ => none
  | _ => none
theorem objL {H : Hp} {ad : Addr} {vs : List V} {o : Ow} (h : ObjAt K .lst o H ad vs) : SqL K.K H ad vs := .inl (.inl h)
theorem objT {H : Hp} {ad : Addr} {vs : List V} {o : Ow} (h : ObjAt K .tup o H ad vs) : SqT K.K H ad vs := by
  rcases h with h | (h | ⟨_, h⟩) | h
  · exact .inl (.inl h)
  · cases h
  · cases h
  · exact .inr h
theorem top_a {c : Cz} {σ : St} {H : Hp} {g' s' : List Ent} {x u : V} {us : List V} (E : EnvOk K c σ H g' (.tr (.a u) :: s') (x :: us)) : x = u := by
  obtain ⟨Z, ws, Φ, Ψ, EE⟩ := E
  obtain ⟨Θ1, r1⟩ := EE.view (n := 0) (e := .tr (.a u)) rfl rfl rfl
  exact r1.1
theorem fIx_ok : RA2 K md W (fun x y H Q => rIxL K.K x y H Q ∨ rIxT K.K x y H Q) fIx := by
  refine .mk fun c σ H m us x y Q rr hc E hf hp => ?_
  simp only [fIx] at hf
  split at hf
  · rename_i i e s hs
    rw [hs] at E
    have ey := top_a E
    subst ey
    have E1 := E.drop
    split at hf
    · rename_i o ts hv
      split at hf
      · rename_i j hj
        split at hf
        · rename_i e' hk
          cases hf
          obtain ⟨ad, vs, w', rfl, ho, hl, hw, E2⟩ := E1.kidOf hv hk
          refine .inl ⟨ad, vs, i, w', rfl, rfl, objL ho, ?_, hp w' H E2⟩
          unfold atI
          rw [← hl, hj]
          exact hw
        · cases hf
      · cases hf
    · rename_i o ts hv
      split at hf
      · rename_i j hj
        split at hf
        · rename_i e' hk
          cases hf
          obtain ⟨ad, vs, w', rfl, ho, hl, hw, E2⟩ := E1.kidOf hv hk
          refine .inr ⟨ad, vs, i, w', rfl, rfl, objT ho, ?_, hp w' H E2⟩
          unfold atI
          rw [← hl, hj]
          exact hw
        · cases hf
      · cases hf
    · cases hf
  · cases hf
end
section
variable {K : KC} {X : Cx} {T : KT} {md : List Bool} {W : WX} {t ta tb : TE} {g ga gb f f' : GE} {e a b : Expr} {es : List Expr} {pos : Pos} {n : Nat} {r r' : R2} {v : V}
/-! numbers -/
def FI (C : Int → Int → Bool) (h : Int → Int → V) : Tr → Tr → Option V
  | .a (.int i), .a (.int j) => if C i j = true then some (h i j) else none
  | _, _ => none
def cT : Int → Int → Bool := fun _ _ => true
theorem FI_eq {C : Int → Int → Bool} {h : Int → Int → V} {tx ty : Tr} {u : V} (e : FI C h tx ty = some u) : ∃ i j, tx = .a (.int i) ∧ ty = .a (.int j) ∧ C i j = true ∧ u = h i j := by
  unfold FI at e
  split at e
  · rename_i i j
    split at e
    · rename_i hc
      exact ⟨i, j, rfl, rfl, hc, (Option.some.inj e).symm⟩
    · cases e
  · cases e
theorem fI_ok0 {h : Int → Int → V} : RA2 K md W (rI0 h) (fP2 (FI cT h)) := fP2_ok fun Z H x y tx ty u Φ Ψ Q r1 r2 e q => by
  obtain ⟨i, j, rfl, rfl, _, rfl⟩ := FI_eq e
  exact ⟨i, j, r1.1, r2.1, q⟩
theorem fI_ok {C : Int → Int → Bool} {P : Int → Int → Prop} {h : Int → Int → V} (hC : ∀ i j, C i j = true → P i j) : RA2 K md W (rI P h) (fP2 (FI C h)) := fP2_ok fun Z H x y tx ty u Φ Ψ Q r1 r2 e q => by
  obtain ⟨i, j, rfl, rfl, hc, rfl⟩ := FI_eq e
  exact ⟨i, j, r1.1, r2.1, hC i j hc, q⟩
def FS : Tr → Tr → Option V
  | .a (.str i), .a (.str j) => if i.length + j.length ≤ sizeLine then some (.str (i ++ j)) else none
  | _, _ => none
theorem fS_ok : RA2 K md W (fun x y H Q => ∃ i j, x = .str i ∧ y = .str j ∧ i.length + j.length ≤ sizeLine ∧ Q (.str (i ++ j)) H) (fP2 FS) := fP2_ok fun Z H x y tx ty u Φ Ψ Q r1 r2 e q => by
  unfold FS at e
  split at e
  · split at e
    · rename_i i j hc
      cases e
      exact ⟨i, j, r1.1, r2.1, hc, q⟩
    · cases e
  · cases e
/-! lists: + and * -/
/-- the items of a list that is read, to be put into a new one -/
def itemsE (e : Ent) (o : Ow) (ts : List Tr) : Option (List Tr) := match e with
  | .tr _ => some (ts.map (kid o))
  | _ => if cpL (ts.map (kid o)) = true then some (ts.map (kid o)) else none
def fCat : GE := fun m => match m.s with
  | y :: x :: s => match viewE m.g x, viewE m.g y with
    | some (.nd .lst o ts), some (.nd .lst o' us) => match itemsE x o ts, itemsE y o' us with
      | some ts', some us' => if ts.length + us.length ≤ sizeLine then match mkN .lst (ts' ++ us') with
          | some t => some (.ok ⟨m.g, .tr t :: s⟩)
          | none => none
        else none
      | _, _ => none
    | _, _ => none
  | _ => none
theorem RepL.kids {Z : Zn} {H : Hp} {o : Ow} : ∀ (ts : List Tr) {vs : List V} {Φ : Ps}, RepL K Z H o ts vs Φ → RepL K Z H .own (ts.map (kid o)) vs Φ
  | [], _, _, h => h
  | t :: ts, vs, Φ, h => by
    obtain ⟨v, vs', Φ1, Φ2, e, h1, h2, d, u⟩ := h
    exact ⟨v, vs', Φ1, Φ2, e, rep_kid.mpr h1, RepL.kids ts h2, d, u⟩
/-- the items of the thing on top, held by hand in its place -/
theorem EnvOk.items {c : Cz} {σ : St} {H : Hp} {Γ τ : List Ent} {us : List V} {w : V} {en : Ent} {k : Nk} {o : Ow} {ts ts' : List Tr} (E : EnvOk K c σ H Γ (en :: τ) (w :: us)) (hv : viewE Γ en = some (.nd k o ts)) (hi : itemsE en o ts = some ts') :
    ∃ ad vs, w = .ref ad ∧ ObjAt K k o H ad vs ∧ ts.length = vs.length ∧ ts' = ts.map (kid o) ∧ EnvOk K c σ H Γ (ts'.reverse.map Ent.tr ++ τ) (vs.reverse ++ us) := by
  obtain ⟨Z, ws, Φ, Ψ, EE⟩ := E
  have view : ∃ Θ, Rep K Z H .own (.nd k o ts) w Θ ∧ ((cpL (ts.map (kid o)) = true) ∨ ∃ Ψ2, RepL K Z H .own (trees [en]) [w] Θ ∧ RepL K Z H .own (trees τ) us Ψ2 ∧ (∀ b, ¬ (Θ b ∧ Ψ2 b)) ∧ ∀ b, Ψ b ↔ Θ b ∨ Ψ2 b) ∧ ts' = ts.map (kid o) := by
    cases en with
    | tr x =>
      obtain ⟨v0, vs0, Θ1, Θ2, e1, a1, a2, ad, au⟩ := EE.tm
      cases e1
      simp only [viewE] at hv
      cases hv
      simp only [itemsE] at hi
      exact ⟨Θ1, a1, .inr ⟨Θ2, ⟨w, [], Θ1, fun _ => False, rfl, a1, ⟨rfl, fun _ h => h⟩, by simp, by simp⟩, a2, ad, au⟩, (Option.some.inj hi).symm⟩
    | no => simp [viewE] at hv
    | al p =>
      obtain ⟨Θ, r⟩ := EE.view (n := 0) rfl rfl hv
      simp only [itemsE] at hi
      split at hi
      · rename_i hc
        exact ⟨Θ, r, .inl hc, (Option.some.inj hi).symm⟩
      · cases hi
  obtain ⟨Θ, r, hor, ets⟩ := view
  obtain ⟨ad, vs, Ξ, rfl, ho, hl, hn⟩ := id r
  have ho : ObjAt K k o H ad vs := ho
  have hl : RepL K Z H o ts vs Ξ := hl
  have hn : Nod Z k o ad ts Ξ Θ := hn
  have hsub : ∀ b, Ξ b → Θ b := fun b q => by
    by_cases eo : o = .own
    · exact hn.sub eo b q
    · exact absurd q (RepL.no0 _ eo hl b)
  have r2 := RepL.reverse _ (RepL.kids _ hl)
  refine ⟨ad, vs, rfl, ho, RepL.len _ hl, ets, ?_⟩
  have hlen := RepL.len _ hl
  subst ets
  rcases hor with hc | ⟨Ψ2, r3, r4, d, u⟩
  · have n0 := RepL.cp0 _ (RepL.kids _ hl) hc
    refine EE.swapE (τ1 := [en]) (us1 := [.ref ad]) (us1' := vs.reverse) rfl (by simp) (fun Ψ1 r zo => ⟨Z, Ξ, by rw [trees_tr]; exact r2, .same _ _ _ EE.zs (fun b q => RepL.isS _ r b q) _ fun b q => absurd q (n0 b)⟩) (by simp [hlen])
  · exact EE.swapX (τ1 := [en]) (us1 := [.ref ad]) (us1' := vs.reverse) rfl (by simp) r3 r4 d u (by rw [trees_tr]; exact r2) (.same _ _ _ EE.zs (Rep.isS _ r) _ fun b q => ⟨hsub b q, (EE.zo b (.inr ((u b).mpr (.inl (hsub b q))))).2⟩) (by simp [hlen])
/-- the second thing comes on top -/
theorem RepL.swap2 {Z : Zn} {H : Hp} {m : Ow} {t1 t2 : Tr} {ts : List Tr} {v1 v2 : V} {vs : List V} {Φ : Ps} (h : RepL K Z H m (t1 :: t2 :: ts) (v1 :: v2 :: vs) Φ) : RepL K Z H m (t2 :: t1 :: ts) (v2 :: v1 :: vs) Φ := by
  obtain ⟨_, _, Φ1, Φ2, e, h1, ⟨_, _, Φ3, Φ4, e', h2, h3, d', u'⟩, d, u⟩ := h
  cases e
  cases e'
  exact ⟨_, _, Φ3, fun b => Φ1 b ∨ Φ4 b, rfl, h2, ⟨_, _, Φ1, Φ4, rfl, h1, h3, by grind, fun _ => Iff.rfl⟩, by grind, by grind⟩
theorem EnvOk.swap2 {c : Cz} {σ : St} {H : Hp} {Γ τ : List Ent} {us : List V} {v1 v2 : V} {e1 e2 : Ent} (E : EnvOk K c σ H Γ (e1 :: e2 :: τ) (v1 :: v2 :: us)) : EnvOk K c σ H Γ (e2 :: e1 :: τ) (v2 :: v1 :: us) := by
  obtain ⟨Z, ws, Φ, Ψ, sl, tm, dj, so, to, ln, zo, zf, z0, zs, st, pv⟩ := E
  refine ⟨Z, ws, Φ, Ψ, ⟨sl, RepL.swap2 tm, dj, so, ?_, ln, zo, zf, z0, zs, st, pv⟩⟩
  intro i p hi
  match i with
  | 0 => exact to 1 p (by simpa using hi)
  | 1 => exact to 0 p (by simpa using hi)
  | i + 2 => exact to (i + 2) p (by simpa using hi)
/-- the order of what is held by hand does not matter -/
theorem RepL.perm {Z : Zn} {H : Hp} {m : Ow} {l l' : List (Ent × V)} (h : l.Perm l') : ∀ {Φ : Ps}, RepL K Z H m (l.map (·.1.tree)) (l.map (·.2)) Φ → RepL K Z H m (l'.map (·.1.tree)) (l'.map (·.2)) Φ := by
  induction h with
  | nil => intro Φ h; exact h
  | cons x _ ih =>
    intro Φ h
    obtain ⟨v, vs', Φ1, Φ2, e, h1, h2, d, u⟩ := h
    cases e
    exact ⟨_, _, Φ1, Φ2, rfl, h1, ih h2, d, u⟩
  | swap x y l => intro Φ h; exact RepL.swap2 h
  | trans _ _ ih1 ih2 => intro Φ h; exact ih2 (ih1 h)
theorem EnvOk.perm {c : Cz} {σ : St} {H : Hp} {Γ : List Ent} {l l' : List (Ent × V)} (h : l.Perm l') (E : EnvOk K c σ H Γ (l.map (·.1)) (l.map (·.2))) : EnvOk K c σ H Γ (l'.map (·.1)) (l'.map (·.2)) := by
  obtain ⟨Z, ws, Φ, Ψ, sl, tm, dj, so, to, ln, zo, zf, z0, zs, st, pv⟩ := E
  have et : ∀ l : List (Ent × V), trees (l.map (·.1)) = l.map (·.1.tree) := fun l => by simp [trees, List.map_map]
  have tm : RepL K Z H .own (l.map (·.1.tree)) (l.map (·.2)) Ψ := by rw [← et]; exact tm
  refine ⟨Z, ws, Φ, Ψ, ⟨sl, by rw [et]; exact RepL.perm h tm, dj, so, ?_, ln, zo, zf, z0, zs, st, pv⟩⟩
  intro i p hi
  rw [List.getElem?_map] at hi ⊢
  cases q : l'[i]? with
  | none => simp [q] at hi
  | some x =>
    obtain ⟨j, hj⟩ := List.getElem?_of_mem (h.mem_iff.mpr (List.mem_of_getElem? q))
    have := to j p (by rw [List.getElem?_map, hj]; simpa [q] using hi)
    rw [List.getElem?_map, hj] at this
    simpa using this
theorem EnvOk.permA {c : Cz} {σ : St} {H : Hp} {Γ A B τ : List Ent} {va vb us : List V} (la : A.length = va.length) (lb : B.length = vb.length) (E : EnvOk K c σ H Γ (A ++ (B ++ τ)) (va ++ (vb ++ us))) : EnvOk K c σ H Γ (B ++ (A ++ τ)) (vb ++ (va ++ us)) := by
  have lt : τ.length = us.length := by
    obtain ⟨Z, ws, Φ, Ψ, EE⟩ := E
    have := RepL.len _ EE.tm
    simp [trees] at this
    omega
  have h := EnvOk.perm (K := K) (c := c) (σ := σ) (H := H) (Γ := Γ) (l := A.zip va ++ (B.zip vb ++ τ.zip us)) (l' := B.zip vb ++ (A.zip va ++ τ.zip us)) (by
    rw [← List.append_assoc, ← List.append_assoc]
    exact List.Perm.append_right _ List.perm_append_comm)
  simp only [List.map_append, List.map_fst_zip (Nat.le_of_eq la), List.map_snd_zip (Nat.le_of_eq la.symm), List.map_fst_zip (Nat.le_of_eq lb), List.map_snd_zip (Nat.le_of_eq lb.symm), List.map_fst_zip (Nat.le_of_eq lt), List.map_snd_zip (Nat.le_of_eq lt.symm)] at h
  exact h E
theorem fCat_ok : RA2 K md W rCat fCat := by
  refine .mk fun c σ H m us x y Q rr hc E hf hp => ?_
  simp only [fCat] at hf
  split at hf
  · rename_i ey ex s hs
    split at hf
    · rename_i o ts o' us' hx hy
      split at hf
      · rename_i ts' us2 h1 h2
        split at hf
        · rename_i hlen
          split at hf
          · rename_i tn hn
            cases hf
            rw [hs] at E
            obtain ⟨ad, vs, rfl, ho, hl, e1, E1⟩ := E.items hy h2
            have l2 : us2.length = vs.length := by rw [e1]; simpa using hl
            have E2 := EnvOk.permA (B := [ex]) (vb := [x]) (by simp [l2]) rfl E1
            obtain ⟨ad2, vs2, rfl, ho2, hl2, e2, E3⟩ := EnvOk.items (τ := us2.reverse.map Ent.tr ++ s) (us := vs.reverse ++ us) E2 hx h1
            have l1 : ts'.length = vs2.length := by rw [e2]; simpa using hl2
            refine ⟨ad2, ad, vs2, vs, rfl, rfl, ho2, ho, by omega, fun p np => hp _ _ ?_⟩
            have E4 := EnvOk.permA (A := ts'.reverse.map Ent.tr) (B := us2.reverse.map Ent.tr) (va := vs2.reverse) (vb := vs.reverse) (by simp [l1]) (by simp [l2]) E3
            refine EnvOk.new (ts := ts' ++ us2) (vs := vs2 ++ vs) (by simpa using E4) (by simp [l1, l2]) np hn fun o => upd_same
          · cases hf
        · cases hf
      · cases hf
    · cases hf
  · cases hf
def fRep : GE := fun m => match m.s with
  | .tr (.a (.int k)) :: x :: s => match viewE m.g x with
    | some (.nd .lst o ts) => if cpL (ts.map (kid o)) = true ∧ -(2 ^ 63) ≤ k ∧ k < 2 ^ 63 ∧ ts.length * k.toNat ≤ sizeLine then match mkN .lst (List.replicate k.toNat (ts.map (kid o))).flatten with
        | some t => some (.ok ⟨m.g, .tr t :: s⟩)
        | none => none
      else none
    | _ => none
  | _ => none
theorem RepL.rep {Z : Zn} {H : Hp} {ts : List Tr} {vs : List V} {Φ : Ps} (h : RepL K Z H .own ts vs Φ) (hc : cpL ts = true) : ∀ k : Nat, ∃ Ψ, RepL K Z H .own (List.replicate k ts).flatten (List.replicate k vs).flatten Ψ ∧ ∀ b, ¬ Ψ b
  | 0 => ⟨fun _ => False, ⟨rfl, fun _ h => h⟩, fun _ h => h⟩
  | k + 1 => by
    obtain ⟨Ψ, r, n⟩ := RepL.rep h hc k
    have n0 := RepL.cp0 _ h hc
    refine ⟨fun b => Φ b ∨ Ψ b, ?_, by grind⟩
    rw [List.replicate_succ, List.replicate_succ, List.flatten_cons, List.flatten_cons]
    exact RepL.append _ h r (by grind)
theorem fRep_ok : RA2 K md W rRep fRep := by
  refine .mk fun c σ H m us x y Q rr hc E hf hp => ?_
  simp only [fRep] at hf
  split at hf
  · rename_i k ex s hs
    split at hf
    · rename_i o ts hx
      split at hf
      · rename_i hg
        split at hf
        · rename_i tn hn
          cases hf
          rw [hs] at E
          have ey := top_a E
          subst ey
          obtain ⟨ad, vs, rfl, ho, hl, _, E1⟩ := E.drop.items (ts' := ts.map (kid o)) hx (by
            cases ex with
            | tr _ => rfl
            | no => simp [viewE] at hx
            | al p => simp only [itemsE]; rw [if_pos hg.1])
          refine ⟨ad, k, vs, rfl, rfl, ho, hg.2.1, hg.2.2.1, by rw [← hl]; exact hg.2.2.2, fun p np => hp _ _ ?_⟩
          obtain ⟨Z, ws, Φ, Ψ, EE⟩ := E1
          refine EnvOk.new (ts := (List.replicate k.toNat (ts.map (kid o))).flatten) (vs := (List.replicate k.toNat vs).flatten) ?_ (by simp [hl]) np hn fun o => upd_same
          refine EE.swapE (by simp [hl]) (fun e he p => by obtain ⟨x, _, rfl⟩ := List.mem_map.mp he; exact fun q => by cases q) (fun Ψ1 r zo => ?_) (by simp [hl])
          rw [trees_tr] at r ⊢
          have r0 := RepL.reverse _ r
          rw [List.reverse_reverse, List.reverse_reverse] at r0
          obtain ⟨Ψ2, r2, n2⟩ := RepL.rep r0 hg.1 k.toNat
          exact ⟨Z, Ψ2, RepL.reverse _ r2, .same _ _ _ EE.zs (RepL.isS _ r) _ fun b q => absurd q (n2 b)⟩
        · cases hf
      · cases hf
    · cases hf
  · cases hf
/-! + - * // % -/
instance (i j : Int) : Decidable (CMul i j) := by unfold CMul; infer_instance
def cMul : Int → Int → Bool := fun i j => decide (CMul i j)
def cPos : Int → Int → Bool := fun _ j => decide (0 < j)
def cDiv : Int → Int → Bool := fun i j => decide (0 < j ∧ j < 1073741824)
def fAdd : GE := gOr (fP2 (FI cT fun i j => .int (i + j))) (gOr (fP2 FS) fCat)
def fSub : GE := fP2 (FI cT fun i j => .int (i - j))
def fMul : GE := gOr (fP2 (FI cMul fun i j => .int (i * j))) fRep
def fMod : GE := fP2 (FI cPos fun i j => .int (i % j))
def fDiv : GE := fP2 (FI cDiv fun i j => .int (i / j))
theorem me_add (ha : ME X T md W a ga) (hb : ME X T md W b gb) : ME X T md W (.BinOp a .Add b pos) (gSeq (gSeq ga gb) fAdd) := me_bin (op_add.or (op_add_str.or op_cat)) (fI_ok0.or (fS_ok.or fCat_ok)) ha hb
theorem me_sub (ha : ME X T md W a ga) (hb : ME X T md W b gb) : ME X T md W (.BinOp a .Sub b pos) (gSeq (gSeq ga gb) fSub) := me_bin op_sub fI_ok0 ha hb
theorem me_mul (ha : ME X T md W a ga) (hb : ME X T md W b gb) : ME X T md W (.BinOp a .Mult b pos) (gSeq (gSeq ga gb) fMul) := me_bin (op_mul.or op_rep) ((fI_ok (C := cMul) fun _ _ h => of_decide_eq_true h).or fRep_ok) ha hb
theorem me_mod (ha : ME X T md W a ga) (hb : ME X T md W b gb) : ME X T md W (.BinOp a .Mod b pos) (gSeq (gSeq ga gb) fMod) := me_bin op_mod (fI_ok (C := cPos) fun _ _ h => of_decide_eq_true h) ha hb
theorem me_div (ha : ME X T md W a ga) (hb : ME X T md W b gb) : ME X T md W (.BinOp a .FloorDiv b pos) (gSeq (gSeq ga gb) fDiv) := me_bin op_fdiv (fI_ok (C := cDiv) fun i j h => (of_decide_eq_true h : 0 < j ∧ j < 1073741824)) ha hb
/-! comparisons -/
def fLt : GE := fP2 (FI cT fun i j => .bl (decide (i < j)))
def fLe : GE := fP2 (FI cT fun i j => .bl (decide (i ≤ j)))
def fGt : GE := fP2 (FI cT fun i j => .bl (decide (j < i)))
def fGe : GE := fP2 (FI cT fun i j => .bl (decide (j ≤ i)))
mutual
def toD : Tr → Option PyData
  | .a .non => some .none
  | .a (.bl b) => some (.bool b)
  | .a (.int i) => some (.int i)
  | .a (.str x) => some (.str x)
  | .nd .lst _ ts => match toDL ts with
    | some ds => some (.list ds)
    | none => none
  | .nd .tup _ ts => match toDL ts with
    | some ds => some (.tuple ds)
    | none => none
  | _ => none
def toDL : List Tr → Option (List PyData)
  | [] => some []
  | t :: ts => match toD t, toDL ts with
    | some d, some ds => some (d :: ds)
    | _, _ => none
end
mutual
theorem toD_ok {Z : Zn} {H : Hp} : ∀ (t : Tr) {m : Ow} {v : V} {Φ : Ps} {d : PyData}, Rep K Z H m t v Φ → toD t = some d → Dp K.K H v d
  | .any, _, _, _, _, _, e => by simp [toD] at e
  | .a u, _, v, _, d, h, e => by
    obtain ⟨rfl, _⟩ := h
    cases v <;> simp [toD] at e <;> subst e <;> constructor
  | .nd k o ts, m, v, Φ, d, h, e => by
    obtain ⟨ad, vs, Ψ, rfl, ho, hl, hn⟩ := h
    cases k with
    | lst =>
      simp only [toD] at e
      split at e
      · rename_i ds hd
        cases e
        exact .lst (objL ho) (toDL_ok ts hl hd)
      · cases e
    | tup =>
      simp only [toD] at e
      split at e
      · rename_i ds hd
        cases e
        exact .tup (objT ho) (toDL_ok ts hl hd)
      · cases e
    | ins _ _ => simp [toD] at e
    | dct _ => simp [toD] at e
    | dcT _ => simp [toD] at e
    | sti _ => simp [toD] at e
theorem toDL_ok {Z : Zn} {H : Hp} : ∀ (ts : List Tr) {m : Ow} {vs : List V} {Φ : Ps} {ds : List PyData}, RepL K Z H m ts vs Φ → toDL ts = some ds → DpAll K.K H vs ds
  | [], _, vs, _, ds, h, e => by
    obtain ⟨rfl, _⟩ := h
    simp only [toDL] at e
    cases e
    exact .nil
  | t :: ts, m, vs, Φ, ds, h, e => by
    obtain ⟨v, vs', Φ1, Φ2, rfl, h1, h2, _, _⟩ := h
    simp only [toDL] at e
    split at e
    · rename_i d ds' hd hds
      cases e
      exact .cons (toD_ok t h1 hd) (toDL_ok ts h2 hds)
    · cases e
end
def FEq (neg : Bool) : Tr → Tr → Option V
  | .a u, .a v => if scal u v = true then some (.bl (if neg then !decide (u = v) else decide (u = v))) else none
  | tx, ty => match toD tx, toD ty with
    | some d, some e => if SeqAt.shaped d = true ∧ SeqAt.shaped e = true then some (.bl (if neg then !PyData.eqv d e else PyData.eqv d e)) else none
    | _, _ => none
def fEq : GE := fP2 (FEq false)
def fNe : GE := fP2 (FEq true)
theorem FEq_eq {neg : Bool} {tx ty : Tr} {u : V} (h : FEq neg tx ty = some u) : (∃ x y, tx = .a x ∧ ty = .a y ∧ scal x y = true ∧ u = .bl (if neg then !decide (x = y) else decide (x = y))) ∨ ∃ d e, toD tx = some d ∧ toD ty = some e ∧ SeqAt.shaped d = true ∧ SeqAt.shaped e = true ∧ u = .bl (if neg then !PyData.eqv d e else PyData.eqv d e) := by
  unfold FEq at h
  split at h
  · rename_i x y
    split at h
    · rename_i hc
      exact .inl ⟨x, y, rfl, rfl, hc, (Option.some.inj h).symm⟩
    · cases h
  · split at h
    · rename_i d e hd he
      split at h
      · rename_i hc
        exact .inr ⟨d, e, hd, he, hc.1, hc.2, (Option.some.inj h).symm⟩
      · cases h
    · cases h
theorem fEq_ok : RA2 K md W (fun x y H Q => rEq x y H Q ∨ rEqD K.K x y H Q) fEq := fP2_ok fun Z H x y tx ty u Φ Ψ Q r1 r2 e q => by
  rcases FEq_eq e with ⟨x', y', rfl, rfl, hc, rfl⟩ | ⟨d, e', hd, he, s1, s2, rfl⟩
  · obtain ⟨rfl, _⟩ := r1
    obtain ⟨rfl, _⟩ := r2
    exact .inl ⟨hc, q⟩
  · exact .inr ⟨d, e', toD_ok _ r1 hd, toD_ok _ r2 he, s1, s2, q⟩
theorem fNe_ok : RA2 K md W (fun x y H Q => rNe x y H Q ∨ rNeD K.K x y H Q) fNe := fP2_ok fun Z H x y tx ty u Φ Ψ Q r1 r2 e q => by
  rcases FEq_eq e with ⟨x', y', rfl, rfl, hc, rfl⟩ | ⟨d, e', hd, he, s1, s2, rfl⟩
  · obtain ⟨rfl, _⟩ := r1
    obtain ⟨rfl, _⟩ := r2
    exact .inl ⟨hc, q⟩
  · exact .inr ⟨d, e', toD_ok _ r1 hd, toD_ok _ r2 he, s1, s2, q⟩
/-- is None -/
def FIs (neg : Bool) : Tr → Tr → Option V
  | .a u, .a .non => some (.bl (if neg then !decide (u = .non) else decide (u = .non)))
  | .nd _ _ _, .a .non => some (.bl neg)
  | _, _ => none
def fIsN : GE := fP2 (FIs false)
def fNotN : GE := fP2 (FIs true)
theorem fIsN_ok : RA2 K md W (fun x y H Q => y = .non ∧ Q (.bl (decide (x = .non))) H) fIsN := fP2_ok fun Z H x y tx ty u Φ Ψ Q r1 r2 e q => by
  unfold FIs at e
  split at e
  · cases e
    obtain ⟨rfl, _⟩ := r1
    exact ⟨r2.1, q⟩
  · cases e
    obtain ⟨ad, vs, Ξ, rfl, _⟩ := r1
    exact ⟨r2.1, q⟩
  · cases e
theorem fNotN_ok : RA2 K md W (fun x y H Q => y = .non ∧ Q (.bl (!decide (x = .non))) H) fNotN := fP2_ok fun Z H x y tx ty u Φ Ψ Q r1 r2 e q => by
  unfold FIs at e
  split at e
  · cases e
    obtain ⟨rfl, _⟩ := r1
    exact ⟨r2.1, q⟩
  · cases e
    obtain ⟨ad, vs, Ξ, rfl, _⟩ := r1
    exact ⟨r2.1, q⟩
  · cases e
def FIsB (neg : Bool) : Tr → Tr → Option V
  | .a (.bl a), .a (.bl b) => some (.bl (if neg then !decide (a = b) else decide (a = b)))
  | _, _ => none
def fIsB : GE := fP2 (FIsB false)
/-- in, of flat things -/
def atoms : List Tr → Option (List V)
  | [] => some []
  | .a v :: ts => match atoms ts with
    | some vs => some (v :: vs)
    | none => none
  | _ => none
theorem atoms_ok {Z : Zn} {H : Hp} {m : Ow} : ∀ {ts : List Tr} {vs us : List V} {Φ : Ps}, RepL K Z H m ts vs Φ → atoms ts = some us → vs = us
  | [], _, _, _, h, e => by
    obtain ⟨rfl, _⟩ := h
    simp only [atoms] at e
    cases e
    rfl
  | t :: ts, vs, us, Φ, h, e => by
    obtain ⟨v, vs', Φ1, Φ2, rfl, h1, h2, _, _⟩ := h
    cases t with
    | a w =>
      simp only [atoms] at e
      split at e
      · rename_i us' he
        cases e
        rw [atoms_ok h2 he, h1.1]
      · cases e
    | any => simp [atoms] at e
    | nd _ _ _ => simp [atoms] at e
def FIn (neg : Bool) : Tr → Tr → Option V
  | .a x, .nd .lst _ ts => match atoms ts with
    | some vs => if flatV x = true ∧ vs.all flatV = true then some (.bl (if neg then !inV x vs else inV x vs)) else none
    | none => none
  | .a x, .nd .tup _ ts => match atoms ts with
    | some vs => if flatV x = true ∧ vs.all flatV = true then some (.bl (if neg then !inV x vs else inV x vs)) else none
    | none => none
  | _, _ => none
theorem fIn_ok {neg : Bool} : RA2 K md W (rIn K.K neg) (fP2 (FIn neg)) := fP2_ok fun Z H x y tx ty u Φ Ψ Q r1 r2 e q => by
  unfold FIn at e
  split at e
  · split at e
    · rename_i vs hv
      split at e
      · rename_i hc
        cases e
        obtain ⟨rfl, _⟩ := r1
        obtain ⟨ad, vs', Ξ, rfl, ho, hl, _⟩ := r2
        cases atoms_ok hl hv
        exact ⟨ad, vs, rfl, .inl (objL ho), hc.1, hc.2, q⟩
      · cases e
    · cases e
  · split at e
    · rename_i vs hv
      split at e
      · rename_i hc
        cases e
        obtain ⟨rfl, _⟩ := r1
        obtain ⟨ad, vs', Ξ, rfl, ho, hl, _⟩ := r2
        cases atoms_ok hl hv
        exact ⟨ad, vs, rfl, .inr (objT ho), hc.1, hc.2, q⟩
      · cases e
    · cases e
  · cases e
def fIn : GE := fP2 (FIn false)
def fNotIn : GE := fP2 (FIn true)
end
section
variable {K : KC} {X : Cx} {T : KT} {md : List Bool} {W : WX} {g ga gb f f' : GE} {e a b : Expr} {es : List Expr} {pos p : Pos} {n : Nat} {v : V} {x : Str} {id Ty : String} {q q' : List V → Hp → VK → Prop}
theorem se_cb {t : TA} (ha : SA K md W n t g) (hf : RA K md W n (fun _ => q) f) : SE K md W (tCB q t) (gSeq g f) := by
  intro c σ H m us Q rr hc E hg hp
  simp only [gSeq] at hg
  split at hg
  · rename_i m1 h1
    exact ha c σ H m us _ _ hc E h1 fun vs H1 hl E1 => hf c σ H1 m1 us vs Q rr hc hl E1 hg hp
  · rename_i h1
    refine ha c σ H m us _ _ hc E hg ?_
    cases rr with
    | ex C g' => exact hp
    | ok m2 => exact absurd hg (h1 m2)
theorem me_callB (hc : CallR X (.builtin id) q) (hf : RA (kcm X.K T) md W (e :: es).length (fun _ => q) f) (hg : Gl X x) (hm : X.mg x = none) (hv : bootBuiltins x = some (.builtin id)) (ha : MA X T md W (e :: es) g) (hn : x ≠ "__name__" := by decide) (hdb : (x == ("__debug__" : Str)) = false := by decide)
    (he : starEach (e :: es) X.env = (false, eval e X.env) :: starEach es X.env := by rfl) (hpl : (backTo pos (starEach es X.env)).any (·.1) = false := by rfl) : ME X T md W (.Call (.Name x p) (e :: es) [] pos) (gSeq g f) := by
  obtain ⟨t, pa, sa⟩ := ha
  exact ⟨_, pe_callB hc hg hm hv pa hn hdb he hpl, se_cb sa hf⟩
theorem me_callTy (hc : CallR X (.type Ty) q) (hf : RA (kcm X.K T) md W (e :: es).length (fun _ => q) f) (hg : Gl X x) (hm : X.mg x = none) (hv : bootBuiltins x = some (.type Ty)) (ha : MA X T md W (e :: es) g) (hn : x ≠ "__name__" := by decide) (hdb : (x == ("__debug__" : Str)) = false := by decide)
    (he : starEach (e :: es) X.env = (false, eval e X.env) :: starEach es X.env := by rfl) (hpl : (backTo pos (starEach es X.env)).any (·.1) = false := by rfl) : ME X T md W (.Call (.Name x p) (e :: es) [] pos) (gSeq g f) := by
  obtain ⟨t, pa, sa⟩ := ha
  exact ⟨_, pe_callTy hc hg hm hv pa hn hdb he hpl, se_cb sa hf⟩
theorem CallR.or {f : Value} (h : CallR X f q) (h' : CallR X f q') : CallR X f (fun xs H Q => q xs H Q ∨ q' xs H Q) := by
  intro pins s σ H xs us Q I r z
  rcases z with z | z
  · exact h pins s σ H xs us Q I r z
  · exact h' pins s σ H xs us Q I r z
theorem RA.or {r r' : St → List V → Hp → VK → Prop} (h : RA K md W n r f) (h' : RA K md W n r' f') : RA K md W n (fun σ xs H Q => r σ xs H Q ∨ r' σ xs H Q) (gOr f f') := by
  intro c σ H m us vs Q rr hc hl E hf hp
  simp only [gOr] at hf
  cases e1 : f m with
  | none =>
    simp only [e1] at hf
    exact .inr (h' c σ H m us vs Q rr hc hl E hf hp)
  | some r1 =>
    simp only [e1] at hf
    exact .inl (h c σ H m us vs Q rr hc hl E (by rw [e1]; exact hf) hp)
/-! len -/
def FLen : Tr → Option V
  | .a (.str z) => if z.length ≤ sizeLine then some (.int z.length) else none
  | .nd .lst _ ts => some (.int ts.length)
  | .nd .tup _ ts => some (.int ts.length)
  | .nd (.dct ks) _ ts => some (.int ts.length)
  | _ => none
def fLen : GE := fP1 FLen
theorem call_lenR : CallR X (.builtin "len") (fun xs H Q => ∃ a kvs, xs = [V.ref a] ∧ Rd H a (.dK kvs) ∧ Q (.int kvs.length) H) := by
  intro pins s σ H xs us Q I r h
  obtain ⟨a, kvs, rfl, ha, q⟩ := h
  obtain ⟨u, rfl, ru⟩ := vals1 r
  cases ru
  exact d_len I ha fun t s' I' => ⟨.int kvs.length, H, I', ⟨t, rfl⟩, q⟩
theorem fLen_ok : RA K md W 1 (fun _ xs H Q => (∃ x n, xs = [x] ∧ LenV K.K x H n ∧ Q (.int n) H) ∨ ∃ a kvs, xs = [V.ref a] ∧ Rd H a (.dK kvs) ∧ Q (.int kvs.length) H) fLen := fP1_ok fun σ Z H x tx u Φ Q r e q => by
  unfold FLen at e
  split at e
  · split at e
    · rename_i z hz
      cases e
      obtain ⟨rfl, _⟩ := r
      exact .inl ⟨_, _, rfl, ⟨hz, rfl⟩, q⟩
    · cases e
  · cases e
    obtain ⟨ad, vs, Ξ, rfl, ho, hl, _⟩ := r
    rw [RepL.len _ hl] at q
    exact .inl ⟨_, _, rfl, .inl ⟨vs, objL ho, rfl⟩, q⟩
  · cases e
    obtain ⟨ad, vs, Ξ, rfl, ho, hl, _⟩ := r
    rw [RepL.len _ hl] at q
    exact .inl ⟨_, _, rfl, .inr ⟨vs, objT ho, rfl⟩, q⟩
  · cases e
    obtain ⟨ad, vs, Ξ, rfl, ho, hl, _⟩ := r
    rw [RepL.len _ hl] at q
    have ho := ObjAt.rd ho
    refine .inr ⟨ad, _, rfl, ho.2, ?_⟩
    rw [List.length_zip, ho.1, Nat.min_self]
    exact q
  · cases e
/-! list(x), tuple(x) -/
def fLst : GE := fun m => match m.s with
  | e :: s => match viewE m.g e with
    | some (.nd .lst o ts) => match itemsE e o ts with
      | some ts' => match mkN .lst ts' with
        | some t => some (.ok ⟨m.g, .tr t :: s⟩)
        | none => none
      | none => none
    | some (.nd .tup o ts) => match itemsE e o ts with
      | some ts' => match mkN .lst ts' with
        | some t => some (.ok ⟨m.g, .tr t :: s⟩)
        | none => none
      | none => none
    | _ => none
  | _ => none
theorem fLst_ok : RA K md W 1 (fun _ xs H Q => ∃ p ys, xs = [.ref p] ∧ (SqL K.K H p ys ∨ SqT K.K H p ys) ∧ ∀ l, H l = none → Q (.ref l) (upd H l (.lst ys))) fLst := by
  intro c σ H m us vs Q rr hc hl E hf hp
  match vs, hl with
  | [x], _ =>
    simp only [fLst] at hf
    split at hf
    · rename_i ex s hs
      rw [hs] at E
      split at hf
      · rename_i o ts hv
        split at hf
        · rename_i ts' h2
          split at hf
          · rename_i tn hn
            cases hf
            obtain ⟨ad, vs, rfl, ho, hl, e1, E1⟩ := EnvOk.items E hv h2
            exact ⟨ad, vs, rfl, .inl (objL ho), fun l nl => hp _ _ (E1.new (by rw [e1]; simpa using hl) nl hn fun o => upd_same)⟩
          · cases hf
        · cases hf
      · rename_i o ts hv
        split at hf
        · rename_i ts' h2
          split at hf
          · rename_i tn hn
            cases hf
            obtain ⟨ad, vs, rfl, ho, hl, e1, E1⟩ := EnvOk.items E hv h2
            exact ⟨ad, vs, rfl, .inr (objT ho), fun l nl => hp _ _ (E1.new (by rw [e1]; simpa using hl) nl hn fun o => upd_same)⟩
          · cases hf
        · cases hf
      · cases hf
    · cases hf
def fTup : GE := fun m => match m.s with
  | e :: s => match viewE m.g e with
    | some (.nd .lst o ts) => match itemsE e o ts with
      | some ts' => some (.ok ⟨m.g, .tr (.nd .tup .own ts') :: s⟩)
      | none => none
    | some (.nd .tup _ _) => some (.ok ⟨m.g, e :: s⟩)
    | _ => none
  | _ => none
theorem fTup_ok : RA K md W 1 (fun _ xs H Q => ∃ p ys, xs = [.ref p] ∧ ((SqL K.K H p ys ∧ ∀ l, H l = none → Q (.ref l) (upd H l (.tup ys))) ∨ (SqT K.K H p ys ∧ Q (.ref p) H))) fTup := by
  intro c σ H m us vs Q rr hc hl E hf hp
  match vs, hl with
  | [x], _ =>
    simp only [fTup] at hf
    split at hf
    · rename_i ex s hs
      rw [hs] at E
      split at hf
      · rename_i o ts hv
        split at hf
        · rename_i ts' h2
          cases hf
          obtain ⟨ad, vs, rfl, ho, hl, e1, E1⟩ := EnvOk.items E hv h2
          exact ⟨ad, vs, rfl, .inl ⟨objL ho, fun l nl => hp _ _ (EnvOk.new (k := .tup) E1 (by rw [e1]; simpa using hl) nl (by simp [mkN]) fun o => .inl upd_same)⟩⟩
        · cases hf
      · rename_i o ts hv
        cases hf
        obtain ⟨Z, ws, Φ, Ψ, EE⟩ := id E
        obtain ⟨Θ1, ad, vs, Ξ, rfl, ho, _⟩ := EE.view (n := 0) rfl rfl hv
        exact ⟨ad, vs, rfl, .inr ⟨objT ho, hp _ _ E⟩⟩
      · cases hf
    · cases hf
/-! int, abs, min, max -/
def FInt : Tr → Option V
  | .a (.int i) => some (.int i)
  | .a (.bl k) => some (.int (if k then 1 else 0))
  | _ => none
def fInt : GE := fP1 FInt
theorem fInt_ok : RA K md W 1 (fun _ xs H Q => (∃ i, xs = [.int i] ∧ Q (.int i) H) ∨ ∃ k, xs = [.bl k] ∧ Q (.int (if k then 1 else 0)) H) fInt := fP1_ok fun σ Z H x tx u Φ Q r e q => by
  unfold FInt at e
  split at e
  · cases e
    exact .inl ⟨_, by rw [r.1], q⟩
  · cases e
    exact .inr ⟨_, by rw [r.1], q⟩
  · cases e
def fMax : GE := fP2 (FI cT fun i j => .int (if j > i then j else i))
theorem fII_ok {h : Int → Int → Int} : RA K md W 2 (fun _ xs H Q => ∃ i j, xs = [.int i, .int j] ∧ Q (.int (h i j)) H) (fP2 (FI cT fun i j => .int (h i j))) := by
  intro c σ H m us vs Q rr hc hl E hf hp
  obtain ⟨x, y, e, i, j, h1, h2, q⟩ := fI_ok0 (K := K) (md := md) (W := W) (h := fun i j => .int (h i j)) c σ H m us vs Q rr hc hl E hf hp
  exact ⟨i, j, by rw [e, h1, h2], q⟩
def FNeg : Tr → Option V
  | .a (.int i) => some (.int (-i))
  | _ => none
def fNeg : GE := fP1 FNeg
theorem fNeg_ok : RA K md W 1 (fun _ xs H Q => ∃ i, xs = [.int i] ∧ Q (.int (-i)) H) fNeg := fP1_ok fun σ Z H x tx u Φ Q r e q => by
  unfold FNeg at e
  split at e
  · cases e
    exact ⟨_, by rw [r.1], q⟩
  · cases e
theorem me_neg (h : ME X T md W a ga) : ME X T md W (.UnaryOp .USub a pos) (gSeq ga fNeg) := by
  obtain ⟨t, p, s⟩ := h
  refine ⟨_, pe_un un_neg p, fun c σ H m us Q rr hc E hg hp => ?_⟩
  simp only [gSeq] at hg
  split at hg
  · rename_i m1 h1
    refine s c σ H m us _ _ hc E h1 fun x H1 E1 => ?_
    obtain ⟨i, e, q⟩ := fNeg_ok c σ H1 m1 us [x] Q rr hc rfl E1 hg hp
    cases e
    exact ⟨i, rfl, q⟩
  · rename_i h1
    refine s c σ H m us _ _ hc E hg ?_
    cases rr with
    | ex C g' => exact hp
    | ok m2 => exact absurd hg (h1 m2)
/-! isinstance of built-in classes -/
def tyN : Tr → Option String
  | .a .non => some "NoneType"
  | .a (.bl _) => some "bool"
  | .a (.int _) => some "int"
  | .a (.str _) => some "str"
  | .nd .lst _ _ => some "list"
  | .nd .tup _ _ => some "tuple"
  | .nd (.dct _) .own _ => some "dict"
  | _ => none
theorem tyN_ok {Z : Zn} {H : Hp} {t : Tr} {v : V} {Φ : Ps} {s : String} (r : Rep K Z H .own t v Φ) (h : tyN t = some s) : TyX K.K H v (.type s) := by
  unfold tyN at h
  split at h <;> cases h
  · rw [r.1]; exact .base .non
  · rw [r.1]; exact .base (.bl _)
  · rw [r.1]; exact .base (.int _)
  · rw [r.1]; exact .base (.str _)
  · obtain ⟨ad, vs, Ξ, rfl, ho, _⟩ := r
    exact .base (.lst ho)
  · obtain ⟨ad, vs, Ξ, rfl, ho, _⟩ := r
    rcases ho with ho | (ho | ⟨_, ho⟩) | ⟨o, its, k, h1, h2, _⟩
    · exact .base (.tup ho)
    · cases ho
    · cases ho
    · exact .kTuple h1 h2
  · obtain ⟨ad, vs, Ξ, rfl, ho, _⟩ := r
    exact .base (.dK ho.2)
def kitAnyB (a : String) : List String → Option Bool
  | [] => some false
  | b :: bs => match kitB a b with
    | some true => some true
    | some false => kitAnyB a bs
    | none => none
def tyNames : List Tr → Option (List String)
  | [] => some []
  | .a (.ty n) :: ts => match tyNames ts with
    | some ns => some (n :: ns)
    | none => none
  | _ => none
def FIsi : Tr → Tr → Option V
  | tx, .a (.ty n) => match tyN tx with
    | some s => match kitB s n with
      | some b => some (.bl b)
      | none => none
    | none => none
  | tx, .nd .tup .own ts => match tyN tx, tyNames ts with
    | some s, some ns => match kitAnyB s ns with
      | some b => some (.bl b)
      | none => none
    | _, _ => none
  | _, _ => none
def fIsi : GE := fP2 FIsi
theorem kitAnyB_ok {K : PySem.W.Frag} {a : String} : ∀ {ns : List String} {b : Bool}, kitAnyB a ns = some b → PySem.W.kitAny K (.type a) (ns.map Value.type) = some b
  | [], b, h => by
    simp only [kitAnyB] at h
    rw [← h]
    rfl
  | n :: ns, b, h => by
    simp only [kitAnyB] at h
    split at h
    · rename_i h1
      cases h
      exact kitAny_cons (kit_ty h1) (fun q => by cases q) (fun _ => rfl)
    · rename_i h1
      exact kitAny_cons (kit_ty h1) (fun _ => kitAnyB_ok h) (fun q => by cases q)
    · cases h
theorem tyNames_ok {Z : Zn} {H : Hp} {m : Ow} : ∀ {ts : List Tr} {vs : List V} {Φ : Ps} {ns : List String}, RepL K Z H m ts vs Φ → tyNames ts = some ns → Paired ClsV vs (ns.map Value.type)
  | [], _, _, _, h, e => by
    obtain ⟨rfl, _⟩ := h
    simp only [tyNames] at e
    cases e
    exact .nil
  | t :: ts, vs, Φ, ns, h, e => by
    obtain ⟨v, vs', Φ1, Φ2, rfl, h1, h2, _, _⟩ := h
    unfold tyNames at e
    split at e
    · rename_i heq
      cases heq
    · rename_i n ts2 heq
      cases heq
      split at e
      · rename_i ns' hn
        cases e
        rw [h1.1]
        exact .cons (.ty n) (tyNames_ok h2 hn)
      · cases e
    · cases e
theorem fIsi_ok : RA K md W 2 (fun _ xs H Q => rIsi K.K xs H Q ∨ (rIsiT K.K xs H Q ∨ rIsiK K.K xs H Q)) fIsi := by
  intro c σ H m us vs Q rr hc hl E hf hp
  have := fP2_ok (K := K) (md := md) (W := W) (F := FIsi) (r := fun x y H Q => rIsi K.K [x, y] H Q ∨ (rIsiT K.K [x, y] H Q ∨ rIsiK K.K [x, y] H Q)) (fun Z H x y tx ty u Φ Ψ Q r1 r2 e q => by
    unfold FIsi at e
    split at e
    · split at e
      · rename_i n _ s hs
        split at e
        · rename_i b hb
          cases e
          rw [r2.1]
          exact .inl ⟨x, _, _, _, b, rfl, .ty n, tyN_ok r1 hs, kit_ty hb, q⟩
        · cases e
      · cases e
    · split at e
      · rename_i ts s ns hs hn
        split at e
        · rename_i b hb
          cases e
          obtain ⟨ad, vs, Ξ, rfl, ho, hl, _⟩ := r2
          rcases ho with ho | ho
          · exact .inr (.inl ⟨x, ad, vs, _, _, b, rfl, ho, tyNames_ok hl hn, tyN_ok r1 hs, kitAnyB_ok hb, q⟩)
          · rcases ho with (ho | ⟨_, ho⟩) | ⟨o, its, k, h1, h2, h3, h4, h5⟩
            · cases ho
            · cases ho
            · have e3 := ClsV.all (tyNames_ok hl hn) h5
              obtain ⟨oc, od, dt, sl⟩ := o
              simp only at h2 h3
              subst h2 h3
              exact .inr (.inr ⟨x, ad, od, its.toList, k, sl, _, b, rfl, by rw [Array.toArray_toList]; exact h1, tyN_ok r1 hs, by rw [e3]; exact kitAnyB_ok hb, q⟩)
        · cases e
      · cases e
    · cases e) c σ H m us vs Q rr hc hl E hf hp
  obtain ⟨x, y, rfl, z⟩ := this
  exact z
end
section
variable {K : KC} {X : Cx} {T : KT} {md : List Bool} {W : WX} {c : Cz} {σ : St} {H H' : Hp} {Γ τ τ1 : List Ent} {us us1 vs vs' : List V} {v w : V} {p q : List Nat} {t : Tr} {ts ts' : List Tr} {k k' : Nk} {i j : Nat} {a : Addr}
theorem kill_set {e : Ent} : kill p (Γ.set i e) = (kill p Γ).set i (killE p e) := by simp [kill, List.map_set]
theorem setG_kill : setG (kill p Γ) q t = kill p (setG Γ q t) := by
  cases q with
  | nil => rfl
  | cons i q =>
    simp only [setG]
    cases e : Γ[i]? with
    | none => simp [kill, e]
    | some x =>
      have e2 : (kill p Γ)[i]? = some (killE p x) := by simp [kill, e]
      cases x with
      | no => simp [e2, killE]
      | tr y => simp only [e2, killE, kill_set]
      | al r =>
        by_cases nb : nbel p r = true
        · simp [e2, killE, nb]
        · simp [e2, killE, nb]
theorem setT_setT : ∀ {p : List Nat} {t x y : Tr}, setT (setT t p x) p y = setT t p y
  | [], _, _, _ => rfl
  | j :: p, t, x, y => by
    cases t with
    | any => rfl
    | a v => rfl
    | nd k o us =>
      simp only [setT]
      cases e : us[j]? with
      | none => simp [e, setT]
      | some z =>
        simp only [setT, List.getElem?_set_self (getq_lt' e), List.set_set]
        rw [setT_setT]
theorem setG_setG {x y : Tr} : setG (setG Γ p x) p y = setG Γ p y := by
  cases p with
  | nil => rfl
  | cons i p =>
    simp only [setG]
    cases e : Γ[i]? with
    | none => simp [e]
    | some z =>
      cases z with
      | no => simp [e]
      | al _ => simp [e]
      | tr t => simp only [List.getElem?_set_self (getq_lt' e), List.set_set, setT_setT]
theorem kill_trs : kill p (ts.map Ent.tr) = ts.map Ent.tr := by
  simp [kill, killE]
theorem getG_setG_same {x : Tr} (h : (getG Γ p).isSome = true) : getG (setG Γ p x) p = some x := by
  have h1 := getG_setG (t := x) h h (by
    have npp : ∀ {p : List Nat}, nbel p p = true := by
      intro p
      induction p with
      | nil => rfl
      | cons i p ih => simp [nbel, ih]
    exact npp)
  rw [← getG_getP h1, trees_setG h]
  exact getP_setP_same (getG_isP h)
/-- the things on top of a place go into it, or change it: the node at the place becomes another one -/
theorem EnvOk.modP {ins outs : List Tr} {vouts : List V} {ob : HO} (E : EnvOk K c σ H Γ (.al p :: (ins.map Ent.tr ++ τ)) (w :: (us1 ++ us))) (hl : ins.length = us1.length) (g : getG Γ p = some (.nd k .own ts)) (hk : k ≠ .tup) (hk' : k' ≠ .tup)
    (step : ∀ a vs, w = .ref a → ObjAt K k .own H a vs → ts.length = vs.length → ∃ vs', ts'.length = vs'.length ∧ ObjAt K k' .own (upd H a ob) a vs' ∧ ∀ Z Ψa Ψb, RepL K Z H .own ts vs Ψa → RepL K Z H .own ins us1 Ψb → (∀ b, ¬ (Ψa b ∧ Ψb b)) → ∃ Ψ', RepL K Z H .own (ts' ++ outs) (vs' ++ vouts) Ψ' ∧ ∀ b, Ψ' b → Ψa b ∨ Ψb b)
    (hl3 : outs.length = vouts.length) (he : escL ts' = true) : ∃ a, w = .ref a ∧ EnvOk K c σ (upd H a ob) (kill p (setG Γ p (.nd k' .own ts'))) (outs.map .tr ++ kill p τ) (vouts ++ us) := by
  have gs : (getG Γ p).isSome = true := by rw [g]; rfl
  have E1 := E.ext g
  obtain ⟨Z, ws, Φ, Ψ, EE⟩ := id E1
  obtain ⟨Θ, a, vs, Ξ, rfl, ho, hlr, hn⟩ := EE.view (n := 0) (e := .tr (.nd k .own ts)) rfl rfl rfl
  have ho : ObjAt K k .own H a vs := ho
  obtain ⟨vs', l2, ho', st⟩ := step a vs rfl ho (RepL.len _ hlr)
  refine ⟨a, rfl, ?_⟩
  have ek : kill p (ins.map Ent.tr ++ τ) = ins.map Ent.tr ++ kill p τ := by
    have := kill_trs (p := p) (ts := ins)
    simp only [kill, List.map_append] at this ⊢
    rw [this]
  rw [ek] at E1
  have E2 : EnvOk K c σ H (kill p (setG Γ p .any)) ([.tr (.nd k .own ts)] ++ (ins.map Ent.tr ++ (.al p :: kill p τ))) ([.ref a] ++ (us1 ++ (.ref a :: us))) := by
    have h1 := EnvOk.permA (A := [.tr (.nd k .own ts)]) (B := [.al p] ++ ins.map Ent.tr) (τ := kill p τ) (va := [.ref a]) (vb := [.ref a] ++ us1) (us := us) rfl (by simp [hl]) (by simpa using E1)
    have h2 := EnvOk.permA (A := [.al p]) (B := ins.map Ent.tr) (τ := .tr (.nd k .own ts) :: kill p τ) (va := [.ref a]) (vb := us1) (us := .ref a :: us) rfl (by simp [hl]) (by simpa using h1)
    have h3 := EnvOk.permA (A := ins.map Ent.tr ++ [.al p]) (B := [.tr (.nd k .own ts)]) (τ := kill p τ) (va := us1 ++ [.ref a]) (vb := [.ref a]) (us := us) (by simp [hl]) rfl (by simpa using h2)
    simpa using h3
  have E3 := EnvOk.mut (τ1 := ins.map Ent.tr) (τ := .al p :: kill p τ) (us1 := us1) (us := .ref a :: us) (k' := k') (ts' := ts') (outs := outs) (vs' := vs') (vouts := vouts) (ob := ob) E2 hk hk' (by simp [hl]) ho (fun Z Ψa Ψb r1 r2 => by rw [trees_tr] at r2; exact st Z Ψa Ψb r1 r2) l2 hl3 he ho'
  have E4 : EnvOk K c σ (upd H a ob) (kill p (setG Γ p .any)) (.tr (.nd k' .own ts') :: .al p :: (outs.map .tr ++ kill p τ)) (.ref a :: .ref a :: (vouts ++ us)) := by
    have h1 := EnvOk.permA (A := [.tr (.nd k' .own ts')] ++ outs.map Ent.tr) (B := [.al p]) (τ := kill p τ) (va := [.ref a] ++ vouts) (vb := [.ref a]) (us := us) (by simp [hl3]) rfl (by simpa using E3)
    exact EnvOk.swap2 (by simpa using h1)
  have gk : getG (kill p (setG Γ p .any)) p = some .any := by rw [getG_kill]; exact getG_setG_same gs
  have E5 := (E4.back gk (by
    cases k' <;> first | exact absurd rfl hk' | rfl)).drop
  rw [setG_kill, setG_setG] at E5
  exact E5
/-! statements -/
inductive Os | nx (m : Ms) | rt (t : Tr) (m : Ms) | bk (m : Ms) | ct (m : Ms) | ex (C : Nat) (g : List Ent)
abbrev GS := Ms → Option Os
def PostS (K : KC) (c : Cz) (W : WX) (us : List V) (D : Ends) : Os → Prop
  | .nx m => ∀ σ' H', EnvOk K c σ' H' m.g m.s us → D.nx σ' H'
  | .rt t m => ∀ σ' v H', EnvOk K c σ' H' m.g (.tr t :: m.s) (v :: us) → D.rt v H'
  | .bk m => ∀ σ' H', EnvOk K c σ' H' m.g m.s us → D.bk σ' H'
  | .ct m => ∀ σ' H', EnvOk K c σ' H' m.g m.s us → D.ct σ' H'
  | .ex C g => ∀ σ' H', EnvOk K c σ' H' g [] [] → W (.ref (K.et C)) none σ' H'
def SS (K : KC) (md : List Bool) (W : WX) (t : L2.TS) (g : GS) : Prop := ∀ (c : Cz) (σ : St) (H : Hp) (m : Ms) (us : List V) (D : Ends) (o : Os), c.md = md → EnvOk K c σ H m.g m.s us → g m = some o → PostS K c W us D o → t D σ H
def MS (X : Cx) (T : KT) (md : List Bool) (W : WX) (st : Stmt) (g : GS) : Prop := ∃ t, PS X st t ∧ SS (kcm X.K T) md W t g
def MSs (X : Cx) (T : KT) (md : List Bool) (W : WX) (sts : List Stmt) (g : GS) : Prop := ∃ t, PSs X sts t ∧ SS (kcm X.K T) md W t g
variable {st : Stmt} {rest sts sts' : List Stmt} {g g' : GS} {ge gf gt : GE} {e b o : Expr} {pos pos' : Pos}
def sNil : GS := fun m => some (.nx m)
def sSeq (g h : GS) : GS := fun m => match g m with
  | some (.nx m') => h m'
  | r => r
theorem mss_nil : MSs X T md W [] sNil := ⟨_, pss_nil, fun c σ H m us D o hc E hg hp => by
  cases hg
  exact hp σ H E⟩
theorem mss_cons (h1 : MS X T md W st g) (h2 : MSs X T md W rest g') : MSs X T md W (st :: rest) (sSeq g g') := by
  obtain ⟨t, p, s⟩ := h1
  obtain ⟨t', p', s'⟩ := h2
  refine ⟨_, pss_cons p p', fun c σ H m us D o hc E hg hp => ?_⟩
  simp only [sSeq] at hg
  split at hg
  · rename_i m1 h1
    exact s c σ H m us _ _ hc E h1 fun σ' H' E' => s' c σ' H' m1 us D o hc E' hg hp
  · rename_i h1
    refine s c σ H m us _ _ hc E hg ?_
    cases o with
    | nx m' => exact absurd hg (h1 m')
    | rt t m' => exact hp
    | bk m' => exact hp
    | ct m' => exact hp
    | ex C g => exact hp
theorem mss_one (h1 : MS X T md W st g) : MSs X T md W [st] g := by
  obtain ⟨t, p, s⟩ := h1
  exact ⟨_, pss_one p, s⟩
def sExpr (ge : GE) : GS := fun m => match ge m with
  | some (.ok ⟨g, _ :: s⟩) => some (.nx ⟨g, s⟩)
  | some (.ex C g) => some (.ex C g)
  | _ => none
theorem ms_expr (h : ME X T md W e ge) (hs : swapsWith e none pos.line X.env = pure false := by rfl) : MS X T md W (.Expr e pos) (sExpr ge) := by
  obtain ⟨t, p, s⟩ := h
  refine ⟨_, ps_expr p hs, fun c σ H m us D o hc E hg hp => ?_⟩
  simp only [sExpr] at hg
  split at hg
  · rename_i h1
    cases hg
    exact s c σ H m us _ _ hc E h1 fun x H1 E1 => hp σ H1 E1.drop
  · rename_i h1
    cases hg
    exact s c σ H m us _ _ hc E h1 fun H1 E1 => hp σ H1 E1
  · cases hg
def sRet (ge : GE) : GS := fun m => match ge m with
  | some (.ok ⟨g, .tr t :: s⟩) => some (.rt t ⟨g, s⟩)
  | some (.ex C g) => some (.ex C g)
  | _ => none
theorem ms_ret (h : ME X T md W e ge) : MS X T md W (.Return (some e) pos) (sRet ge) := by
  obtain ⟨t, p, s⟩ := h
  refine ⟨_, ps_ret p, fun c σ H m us D o hc E hg hp => ?_⟩
  simp only [sRet] at hg
  split at hg
  · rename_i h1
    cases hg
    exact s c σ H m us _ _ hc E h1 fun x H1 E1 => hp σ x H1 E1
  · rename_i h1
    cases hg
    exact s c σ H m us _ _ hc E h1 fun H1 E1 => hp σ H1 E1
  · cases hg
def sRetN : GS := fun m => some (.rt (.a .non) m)
def sIf (gt : GE) (g h : GS) : GS := fun m => match gt m with
  | some (.ok ⟨g', .tr (.a (.bl true)) :: s'⟩) => g ⟨g', s'⟩
  | some (.ok ⟨g', .tr (.a (.bl false)) :: s'⟩) => h ⟨g', s'⟩
  | some (.ex C g') => some (.ex C g')
  | _ => none
theorem ms_if (hc : MT X T md W e gt) (ha : MSs X T md W sts g) (hb : MSs X T md W sts' g') : MS X T md W (.If e sts sts' pos) (sIf gt g g') := by
  obtain ⟨tc, pc, sc⟩ := hc
  obtain ⟨t, p, s⟩ := ha
  obtain ⟨t', p', s'⟩ := hb
  refine ⟨_, ps_if pc p p', fun c σ H m us D o hm E hg hp => ?_⟩
  simp only [sIf] at hg
  split at hg
  · rename_i h1
    exact sc c σ H m us _ _ hm E h1 fun H' E' => iteT (s c σ H' _ us D o hm E' hg hp)
  · rename_i h1
    exact sc c σ H m us _ _ hm E h1 fun H' E' => iteF (s' c σ H' _ us D o hm E' hg hp)
  · rename_i h1
    cases hg
    exact sc c σ H m us _ _ hm E h1 fun H' E' => hp σ H' E'
  · cases hg
/-- a name gets what is on top -/
def bind (md : List Bool) (i : Nat) (m : Ms) : Option Ms := if md.getD i false = true ∨ ¬ i < m.g.length then none else match m.s with
  | .tr t :: s => some ⟨(m.g.map (killR i)).set i (.tr t), s.map (killR i)⟩
  | .al p :: s => if p.head? = some i then none else some ⟨(m.g.map (killR i)).set i (.al p), s.map (killR i)⟩
  | _ => none
theorem bind_ok {m m' : Ms} {x : V} (hc : c.md = md) (E : EnvOk K c σ H m.g m.s (x :: us)) (h : bind md i m = some m') : EnvOk K c (σ.set i (some x)) H m'.g m'.s us := by
  unfold bind at h
  split at h
  · cases h
  · rename_i hn
    have h1 : i < m.g.length := Classical.byContradiction fun q => hn (.inr q)
    have h2 : c.md[i]? ≠ some true := fun q => hn (.inl (by rw [← hc, List.getD_eq_getElem?_getD, q]; rfl))
    split at h
    · rename_i t s hs
      cases h
      rw [hs] at E
      exact E.setT h1 h2
    · rename_i p s hs
      split at h
      · cases h
      · rename_i hp
        cases h
        rw [hs] at E
        exact E.setA h1 h2 hp
    · cases h
def sSet (md : List Bool) (i : Nat) (ge : GE) : GS := fun m => match ge m with
  | some (.ok m') => match bind md i m' with
    | some m2 => some (.nx m2)
    | none => none
  | some (.ex C g) => some (.ex C g)
  | none => none
theorem ss_set {t : TE} (s : SE K md W t ge) : SS K md W (tAsg t (gName i)) (sSet md i ge) := by
  intro c σ H m us D o hc E hg hp
  simp only [sSet] at hg
  split at hg
  · rename_i m1 h1
    split at hg
    · rename_i m2 h2
      cases hg
      exact s c σ H m us _ _ hc E h1 fun x H1 E1 => hp _ H1 (bind_ok hc E1 h2)
    · cases hg
  · rename_i h1
    cases hg
    exact s c σ H m us _ _ hc E h1 fun H1 E1 => hp σ H1 E1
  · cases hg
theorem ms_set {x : Str} (hN : X.N.Nodup) (hi : X.N[i]? = some x) (hx : Loc X.env.scope x) (h : ME X T md W e ge) (hs : swapsWith e (some (.Name x pos')) pos.line X.env = pure false := by rfl)
    (hf : X.fn x = true ∨ X.env.scope.names.lookup x = some .local := by first | exact .inl rfl | exact .inr rfl | assumption) : MS X T md W (.Assign [.Name x pos'] e pos) (sSet md i ge) := by
  obtain ⟨t, p, s⟩ := h
  exact ⟨_, ps_set hN hi hx p hs hf, ss_set s⟩
end
section
variable {K : KC} {X : Cx} {T : KT} {md : List Bool} {W : WX} {c : Cz} {σ : St} {H H' : Hp} {Γ τ : List Ent} {us vs ws : List V} {v w wp : V} {p q r : List Nat} {t : Tr} {ts : List Tr} {k : Nk} {i j j' : Nat} {a : Addr} {Z : Zn} {Φ Ψ : Ps} {ob : HO}
theorem RepL.set1 {Z : Zn} {Ψa Ψb : Ps} (h : RepL K Z H .own ts vs Ψa) (hj : j < ts.length) (h2 : RepL K Z H .own [t] [v] Ψb) (d : ∀ b, ¬ (Ψa b ∧ Ψb b)) : ∃ Ψ', RepL K Z H .own (ts.set j t) (vs.set j v) Ψ' ∧ ∀ b, Ψ' b → Ψa b ∨ Ψb b := by
  obtain ⟨v', Φ1, Φ2, e1, r, d1, u, r2, _⟩ := RepL.at_ _ h (i := j) (t := ts[j]) (List.getElem?_eq_getElem hj)
  obtain ⟨_, _, Θ1, Θ2, e2, a1, a2, ad, au⟩ := h2
  cases e2
  have n2 : ∀ b, ¬ Θ2 b := a2.2
  have hw := getq_lt' e1
  have g1 : (ts.set j .any)[j]? = some .any := List.getElem?_set_self hj
  have r3 := RepL.put _ (RepL.anyv (v := v) _ r2 g1) g1 (List.getElem?_set_self hw) a1 (by grind)
  rw [List.set_set] at r3
  exact ⟨_, r3, by grind⟩
/-- p leads into or to what stands at q -/
def pre : List Nat → List Nat → Bool
  | [], _ => true
  | _, [] => false
  | i :: p, j :: q => decide (i = j) && pre p q
def killJ (p : List Nat) : Ent → Ent
  | .al q => if pre p q = true then .no else .al q
  | e => e
theorem Raw.split : ∀ {p : List Nat} {ws : List V} {j : Nat} {r : List Nat} {w : V}, p ≠ [] → Raw H ws (p ++ j :: r) w → ∃ wp us, Raw H ws p wp ∧ Kids H wp us ∧ Raw H us (j :: r) w
  | [], _, _, _, _, h, _ => absurd rfl h
  | [i], ws, j, r, w, _, h => by
    obtain ⟨v, us, e, kd, h⟩ := h
    exact ⟨v, us, e, kd, h⟩
  | i :: i2 :: p, ws, j, r, w, _, h => by
    obtain ⟨v, us, e, kd, h⟩ := h
    obtain ⟨wp, us2, h1, h2, h3⟩ := Raw.split (p := i2 :: p) (by simp) h
    exact ⟨wp, us2, ⟨v, us, e, kd, h1⟩, h2, h3⟩
theorem Raw.join : ∀ {p : List Nat} {ws : List V} {j : Nat} {r : List Nat} {wp w : V} {us : List V}, Raw H ws p wp → Kids H wp us → Raw H us (j :: r) w → Raw H ws (p ++ j :: r) w
  | [], _, _, _, _, _, _, h, _, _ => h.elim
  | [i], ws, j, r, wp, w, us, h, kd, h2 => ⟨wp, us, h, kd, h2⟩
  | i :: i2 :: p, ws, j, r, wp, w, us, h, kd, h2 => by
    obtain ⟨v, us2, e, kd2, h⟩ := h
    exact ⟨v, us2, e, kd2, Raw.join h kd h2⟩
theorem nbel_or : ∀ {p q : List Nat}, nbel p q = true ∨ ∃ j r, q = p ++ j :: r
  | [], [] => .inl rfl
  | [], j :: q => .inr ⟨j, q, rfl⟩
  | i :: p, [] => .inl rfl
  | i :: p, j :: q => by
    by_cases e : i = j
    · subst e
      rcases nbel_or (p := p) (q := q) with h | ⟨j, r, h⟩
      · exact .inl (by simpa [nbel] using h)
      · exact .inr ⟨j, r, by rw [h]; rfl⟩
    · exact .inl (by simp [nbel, e])
theorem pre_app : ∀ {p : List Nat} {j j' : Nat} {r : List Nat}, pre (p ++ [j]) (p ++ j' :: r) = decide (j = j')
  | [], j, j', r => by simp [pre]
  | i :: p, j, j', r => by simp [pre, pre_app (p := p)]
theorem getT_app : ∀ {p : List Nat} {t : Tr} {j : Nat} {r : List Nat}, getT t p = some (.nd k .own ts) → k ≠ .tup → getT t (p ++ j :: r) = match ts[j]? with
    | some y => getT y r
    | none => none
  | [], t, j, r, h, hk => by
    cases h
    show getT (.nd k .own ts) (j :: r) = _
    cases k <;> simp_all [getT] <;> rfl
  | i :: p, t, j, r, h, hk => by
    cases t with
    | any => simp [getT] at h
    | a v => simp [getT] at h
    | nd k' o us =>
      cases k' <;> cases o <;> simp_all [getT]
      all_goals
        cases e : us[i]? with
        | none => simp [e] at h
        | some y =>
          simp only [e] at h ⊢
          exact getT_app h hk
theorem getG_app (h : getG Γ p = some (.nd k .own ts)) (hk : k ≠ .tup) : getG Γ (p ++ j :: r) = match ts[j]? with
    | some y => getT y r
    | none => none := by
  cases p with
  | nil => simp [getG] at h
  | cons i p =>
    simp only [getG, List.cons_append] at h ⊢
    cases e : Γ[i]? with
    | none => simp [e] at h
    | some x =>
      cases x with
      | no => simp [e] at h
      | al _ => simp [e] at h
      | tr t =>
        simp only [e] at h ⊢
        exact getT_app h hk
theorem getG_ne_nil (h : (getG Γ p).isSome = true) : p ≠ [] := fun e => by subst e; simp [getG] at h
/-- an item of a list, dict or instance that stands at a place is replaced; aliases of the other items stay -/
theorem EnvOk.setIn (E : EnvOk K c σ H Γ (.al p :: .tr t :: τ) (w :: v :: us)) (g : getG Γ p = some (.nd k .own ts)) (hk : k ≠ .tup) (hj : j < ts.length) (he : esc t = true) (hob : ∀ a vs, ObjAt K k .own H a vs → w = .ref a → ObjAt K k .own (upd H a ob) a (vs.set j v)) :
    ∃ a, w = .ref a ∧ EnvOk K c σ (upd H a ob) ((setG Γ p (.nd k .own (ts.set j t))).map (killJ (p ++ [j]))) (τ.map (killJ (p ++ [j]))) us := by
  obtain ⟨Z, ws, Φ, Ψ, sl, tm, dj, so, to, ln, zo, zf, z0, zs, st, pv⟩ := E
  have gs : (getG Γ p).isSome = true := by rw [g]; rfl
  have g2 : getP (trees Γ) p = some (.nd k .own ts) := by rw [getG_getP gs, g]
  obtain ⟨w', Φ1, Φ2, raw, rp, d, u, r2, stab⟩ := RepL.path sl g2
  obtain ⟨w0, e0, raw0, _⟩ := to 0 p rfl
  cases e0
  cases raw.fn raw0
  obtain ⟨a, vs, Ξ, rfl, ho, hl, hn⟩ := id rp
  have ho : ObjAt K k .own H a vs := ho
  have hl : RepL K Z H .own ts vs Ξ := hl
  have hn : Nod Z k .own a ts Ξ Φ1 := hn
  have hn' := hn.own hk
  obtain ⟨_, _, Θ1, Θ2, e1, a1, a2, ad, au⟩ := tm
  cases e1
  obtain ⟨_, _, Θ3, Θ4, e2, a3, a4, ad2, au2⟩ := a2
  cases e2
  have a1 : ∀ b, ¬ Θ1 b := a1
  have ho' := hob a vs ho rfl
  have hsome : (H a).isSome = true := Rep.isS _ rp a (by grind)
  have nta : ∀ ob, H a = some ob → nt' ob = true := fun ob e => Rep.nt _ rp a ob (by grind) e
  have tp : TSK K H (upd H a ob) := tsk fun b o' e n => by
    rw [upd_ne (fun q => by subst q; have := nta o' e; rw [n] at this; cases this)]; exact e
  have kpo : ∀ {Θ : Ps}, (∀ b, Θ b → b ≠ a) → (∀ b, Z.fz b ∨ Z.ln b → b ≠ a) → Kp K Z Z H (upd H a ob) Θ := fun {Θ} h1 h2 => ⟨fun _ h => h, fun _ h => h, fun b o' q e => by rw [upd_ne (by rcases q with q | q; exact h1 b q; exact h2 b q)]; exact e, tp⟩
  have za : ∀ b, Z.fz b ∨ Z.ln b → b ≠ a := fun b q e => by
    subst e
    have := (zo b (.inl ((u b).mpr (.inl (by grind))))).2
    rcases q with q | q
    · exact this.1 q
    · exact this.2 q
  have one : RepL K Z H .own [t] [v] Θ3 := ⟨v, [], Θ3, fun _ => False, rfl, a3, ⟨rfl, fun _ h => h⟩, by simp, by simp⟩
  obtain ⟨Ξ', rk, subk⟩ := RepL.set1 hl hj one (by grind)
  have rk' := RepL.fr _ rk (kpo (Θ := Ξ') (by grind) za)
  have node : Rep K Z (upd H a ob) .own (.nd k .own (ts.set j t)) (.ref a) (fun b => b = a ∨ Ξ' b) := ⟨a, vs.set j v, Ξ', rfl, ho', rk', .mk hk (fun _ => Iff.rfl) (by grind) (escL_set hn'.2.2 he)⟩
  have r3 := RepL.fr _ r2 (kpo (Θ := Φ2) (by grind) za)
  have keepR : ∀ b ob', ¬ Φ1 b → H b = some ob' → upd H a ob b = some ob' := fun b ob' nb e => by rw [upd_ne (by grind)]; exact e
  have npp : ∀ {p : List Nat}, nbel p p = true := by
    intro p
    induction p with
    | nil => rfl
    | cons i p ih => simp [nbel, ih]
  have rawp : Raw (upd H a ob) ws p (.ref a) := stab p (.ref a) _ npp (by rw [g2]; rfl) raw keepR
  have gset : getP (setP (trees Γ) p .any) p = some .any := getP_setP_same (by rw [g2]; rfl)
  have r4 := RepL.putP r3 gset rawp node (by grind) (by cases k <;> first | exact absurd rfl hk | rfl)
  rw [setP_setP] at r4
  have lenv := RepL.len _ hl
  -- aliases
  have rawq : ∀ {q : List Nat} {x : V}, (getG Γ q).isSome = true → pre (p ++ [j]) q = false → Raw H ws q x → Raw (upd H a ob) ws q x ∧ (getG (setG Γ p (.nd k .own (ts.set j t))) q).isSome = true := fun {q x} gq hpre rq => by
    rcases nbel_or (p := p) (q := q) with nb | ⟨j', r, rfl⟩
    · exact ⟨stab q x _ nb (getG_isP gq) rq keepR, getG_setG gq gs nb⟩
    · rw [pre_app] at hpre
      have hjj : j ≠ j' := by simpa using hpre
      obtain ⟨wq, us2, h1, h2, h3⟩ := Raw.split (getG_ne_nil gs) rq
      cases raw.fn h1
      cases (objKids ho hk).fn h2
      have gk : getG Γ (p ++ j' :: r) = match ts[j']? with
          | some y => getT y r
          | none => none := getG_app g hk
      have gk2 : (getP ts (j' :: r)).isSome = true := by
        cases e : ts[j']? with
        | none => rw [gk, e] at gq; cases gq
        | some y => rw [getP_getT e]; rw [gk, e] at gq; exact gq
      have h3' : Raw (upd H a ob) vs (j' :: r) x := Raw.keep hl gk2 h3 fun b ob' hb e => by rw [upd_ne (by grind)]; exact e
      refine ⟨Raw.join rawp (objKids ho' hk) ?_, ?_⟩
      · match r, h3' with
        | [], h3' =>
          show (vs.set j v)[j']? = some x
          rw [List.getElem?_set_ne hjj]
          exact h3'
        | j2 :: r, h3' =>
          obtain ⟨v2, us3, e3, k3, h4⟩ := h3'
          exact ⟨v2, us3, by rw [List.getElem?_set_ne hjj]; exact e3, k3, h4⟩
      · have : getG (setG Γ p (.nd k .own (ts.set j t))) p = some (.nd k .own (ts.set j t)) := getG_setG_same gs
        rw [getG_app this hk, List.getElem?_set_ne hjj]
        rw [gk] at gq
        exact gq
  have trk : ∀ (L : List Ent), trees (L.map (killJ (p ++ [j]))) = trees L := fun L => by
    simp only [trees, List.map_map]
    congr 1
    funext e
    cases e with
    | al q => by_cases h : pre (p ++ [j]) q = true <;> simp [killJ, h, Ent.tree]
    | _ => rfl
  have gkj : ∀ {Γ : List Ent} {q : List Nat}, getG (Γ.map (killJ (p ++ [j]))) q = getG Γ q := fun {Γ q} => by
    cases q with
    | nil => rfl
    | cons i q =>
      simp only [getG, List.getElem?_map]
      cases Γ[i]? with
      | none => rfl
      | some x =>
        cases x with
        | al r => by_cases h : pre (p ++ [j]) r = true <;> simp [killJ, h]
        | _ => rfl
  refine ⟨a, rfl, Z, ws, fun b => (b = a ∨ Ξ' b) ∨ Φ2 b, Θ4, ⟨by rw [trk, trees_setG gs]; exact r4, by rw [trk]; exact RepL.fr _ a4 (kpo (Θ := Θ4) (by grind) za), by grind, ?_, ?_, by rw [ln]; simp [setG_len], by grind, zf, z0, fun b q => ?_, fun b o0 e0 => ?_, pv⟩⟩
  · intro i e he
    rw [List.getElem?_map] at he
    cases hx : (setG Γ p (.nd k .own (ts.set j t)))[i]? with
    | none => simp [hx] at he
    | some x =>
      simp only [hx, Option.map_some, Option.some.injEq] at he
      subst he
      rcases setG_at hx with ⟨y, z, hy, rfl⟩ | hx'
      · exact so i _ hy
      · have h1 := so i x hx'
        cases x with
        | no => trivial
        | tr y => exact h1
        | al q =>
          obtain ⟨x1, x2, x3, x4⟩ := h1
          by_cases hq : pre (p ++ [j]) q = true
          · simp only [killJ, hq, if_true]
            trivial
          · simp only [killJ, hq, if_false]
            have := rawq x4 (by simpa using hq) x3
            exact ⟨x1, x2, this.1, by rw [gkj]; exact this.2⟩
  · intro i q hi
    rw [List.getElem?_map] at hi
    cases hx : τ[i]? with
    | none => simp [hx] at hi
    | some x =>
      simp only [hx, Option.map_some, Option.some.injEq] at hi
      cases x with
      | no => simp [killJ] at hi
      | tr _ => simp [killJ] at hi
      | al q' =>
        by_cases hq : pre (p ++ [j]) q' = true
        · simp [killJ, hq] at hi
        · simp only [killJ, hq, if_false] at hi
          cases hi
          obtain ⟨w1, s1, s2, s3⟩ := to (i + 2) q (by simpa using hx)
          have := rawq s3 (by simpa using hq) s2
          exact ⟨w1, by simpa using s1, this.1, by rw [gkj]; exact this.2⟩
  · rw [upd_ne (za b q)]
    exact zs b q
  · obtain ⟨o', e', hno⟩ := st b o0 e0
    by_cases hb : b = a
    · subst hb
      refine ⟨ob, upd_same, fun nf => ?_⟩
      rcases (zo b (.inl ((u b).mpr (.inl (by grind))))).1 with z | z
      · exact absurd z nf
      · rw [z] at e0; cases e0
    · exact ⟨o', by rw [upd_ne hb]; exact e', hno⟩
end
section
variable {K : KC} {X : Cx} {T : KT} {md : List Bool} {W : WX} {c : Cz} {σ : St} {H H' : Hp} {Γ τ τ1 : List Ent} {us us1 vs vs' : List V} {v w : V} {p q : List Nat} {t : Tr} {ts ts' : List Tr} {k k' : Nk} {i j : Nat} {a : Addr}
variable {st : Stmt} {rest sts sts' : List Stmt} {g g' : GS} {ge gf gt gi go gv : GE} {e b o ie : Expr} {pos pos' : Pos}
/-- o[i] = v, of a list -/
def stSub : Ms → Option Ms := fun m => match m.s with
  | .tr (.a (.int x)) :: .al p :: .tr t :: s => match getG m.g p with
    | some (.nd .lst .own ts) => match ixN ts.length x with
      | some j => if esc t = true then some ⟨(setG m.g p (.nd .lst .own (ts.set j t))).map (killJ (p ++ [j])), s.map (killJ (p ++ [j]))⟩ else none
      | none => none
    | _ => none
  | _ => none
theorem ixN_lt {n : Nat} {x : Int} {j : Nat} (h : ixN n x = some j) : j < n := by
  unfold ixN at h
  split at h
  · split at h
    · cases h; omega
    · cases h
  · split at h
    · cases h; omega
    · cases h
theorem nodE (hk : k ≠ .tup) : ∀ {ts : List Tr}, (∀ {Z : Zn} {H : Hp} {v : V} {Φ : Ps}, Rep K Z H .own (.nd k .own ts) v Φ → escL ts = true) := fun {ts Z H v Φ} r => by
  obtain ⟨a, vs, Ψ, _, _, _, hn⟩ := r
  have hn : Nod Z k .own a ts Ψ Φ := hn
  exact (hn.own hk).2.2
theorem EnvOk.escAt (E : EnvOk K c σ H Γ (.al p :: τ) (w :: us)) (g : getG Γ p = some (.nd k .own ts)) (hk : k ≠ .tup) : escL ts = true := by
  obtain ⟨Z, ws, Φ, Ψ, EE⟩ := E
  obtain ⟨Θ, r⟩ := EE.view (n := 0) (e := .al p) rfl rfl g
  exact nodE hk r
theorem stSub_ok {m m' : Ms} {x y z : V} {Q : Hp → Prop} (E : EnvOk K c σ H m.g m.s (z :: y :: x :: us)) (h : stSub m = some m') (hq : ∀ H', EnvOk K c σ H' m'.g m'.s us → Q H') : rSetL y z x H Q := by
  unfold stSub at h
  split at h
  · rename_i xi p t s hs
    split at h
    · rename_i ts hg
      split at h
      · rename_i j hj
        split at h
        · rename_i he
          cases h
          rw [hs] at E
          have ez := top_a E
          subst ez
          have E1 := E.drop
          have hes := E1.escAt hg (by simp)
          have hjl := ixN_lt hj
          obtain ⟨Z, ws, Φ, Ψ, EE⟩ := id E1
          obtain ⟨Θ, a, vs, Ξ, rfl, ho, hlr, hn⟩ := EE.view (n := 0) (e := .al p) rfl rfl hg
          have ho : H a = some (.lst vs) := ho
          have hlen := RepL.len _ hlr
          refine ⟨a, vs, xi, j, rfl, rfl, ho, by rw [← hlen]; exact hj, hq _ ?_⟩
          obtain ⟨a', e, E2⟩ := EnvOk.setIn (j := j) (ob := .lst (vs.set j x)) E1 hg (by simp) hjl he (fun a2 vs2 ho2 e2 => by
            cases e2
            have ho2 : H a = some (.lst vs2) := ho2
            rw [ho] at ho2
            cases ho2
            exact upd_same)
          cases e
          exact E2
        · cases h
      · cases h
    · cases h
  · cases h
/-- o.f = v -/
def stFld (tab : List (Nat × Nat)) : Ms → Option Ms := fun m => match m.s with
  | .al p :: .tr t :: s => match getG m.g p with
    | some (.nd (.ins n k) .own ts) => match tab.lookup n with
      | some j => if esc t = true ∧ k < 900 then
          if j < k then some ⟨(setG m.g p (.nd (.ins n k) .own (ts.set j t))).map (killJ (p ++ [j])), s.map (killJ (p ++ [j]))⟩
          else if j = k then some ⟨kill p (setG m.g p (.nd (.ins n (k + 1)) .own (ts ++ [t]))), kill p s⟩ else none
        else none
      | none => none
    | _ => none
  | _ => none
theorem putF_set {f : Str} : ∀ {ns : List Str} {vs : List V} {j : Nat}, ns.idxOf? f = some j → ns.length = vs.length → putF f v (ns.zip vs) = ns.zip (vs.set j v)
  | [], _, _, h, _ => by simp at h
  | n :: ns, [], _, _, l => by simp at l
  | n :: ns, x :: vs, j, h, l => by
    rw [List.idxOf?_cons] at h
    rw [List.zip_cons_cons]
    unfold putF
    by_cases e : n = f
    · subst e
      simp at h
      subst h
      simp
    · have e1 : (n == f) = false := by simpa using e
      rw [e1] at h
      simp only [Bool.false_eq_true, if_false, Option.map_eq_some_iff] at h
      obtain ⟨j', h1, rfl⟩ := h
      rw [if_neg e, putF_set h1 (by simpa using l)]
      simp
theorem putF_app {f : Str} : ∀ {ns : List Str} {vs : List V} {k : Nat}, ns.idxOf? f = some k → (ns.take k).length = vs.length → putF f v ((ns.take k).zip vs) = (ns.take (k + 1)).zip (vs ++ [v])
  | [], _, _, h, _ => by simp at h
  | n :: ns, [], k, h, l => by
    have : k = 0 := by
      cases k with
      | zero => rfl
      | succ k => simp at l
    subst this
    rw [List.idxOf?_cons] at h
    by_cases e : (n == f) = true
    · have : n = f := by simpa using e
      subst this
      simp [putF]
    · simp [e] at h
  | n :: ns, x :: vs, k, h, l => by
    cases k with
    | zero => simp at l
    | succ k =>
      rw [List.idxOf?_cons] at h
      by_cases e : (n == f) = true
      · simp [e] at h
      · rw [if_neg e] at h
        simp only [Option.map_eq_some_iff] at h
        obtain ⟨j', h1, h2⟩ := h
        have : j' = k := by omega
        subst this
        have ne : n ≠ f := by simpa using e
        rw [List.take_succ_cons, List.zip_cons_cons]
        unfold putF
        rw [if_neg ne, putF_app h1 (by simpa using l)]
        simp
theorem stFld_ok {m m' : Ms} {x y : V} {fl : Str} {tab : List (Nat × Nat)} {Q : Hp → Prop} (ht : FldOk K.K ⟨K.P, K.w, K.ct, K.nm, K.et⟩ fl tab) (E : EnvOk K c σ H m.g m.s (y :: x :: us)) (h : stFld tab m = some m') (hq : ∀ H', EnvOk K c σ H' m'.g m'.s us → Q H') :
    ∃ a C dx fs, y = .ref a ∧ H a = some (.ins C dx fs) ∧ Cls K.K C ∧ NoAttr K.K C fl ∧ fs.length < 1000 ∧ Q (upd H a (.ins C dx (putF fl x fs))) ∧ ∀ n k o ts e s', m.s = e :: s' → viewE m.g e = some (.nd (.ins n k) o ts) → C = K.ct n := by
  unfold stFld at h
  split at h
  · rename_i p t s hs
    split at h
    · rename_i n k ts hg
      split at h
      · rename_i j hj
        split at h
        · rename_i he
          rw [hs] at E
          have hes := E.escAt hg (by simp)
          obtain ⟨Z, ws, Φ, Ψ, EE⟩ := id E
          obtain ⟨Θ, a, vs, Ξ, rfl, ho, hlr, hn⟩ := EE.view (n := 0) (e := .al p) rfl rfl hg
          obtain ⟨l, dx, ho⟩ := ho
          have hlen := RepL.len _ hlr
          obtain ⟨c1, c2, c3⟩ := ht n j (mem_lookup hj)
          have c3 : (K.nm n).idxOf? fl = some j := c3
          have c1 : Cls K.K (K.ct n) := c1
          have c2 : NoAttr K.K (K.ct n) fl := c2
          have lt : (((K.nm n).take k).zip vs).length < 1000 := by
            rw [List.length_zip, List.length_take]
            have := he.2
            omega
          refine ⟨a, _, dx, _, rfl, ho, c1, c2, lt, ?_, fun n' k' o' ts' e' s' q1 q2 => by
            rw [hs] at q1
            cases q1
            rw [show viewE m.g (.al p) = getG m.g p from rfl, hg] at q2
            cases q2
            rfl⟩
          split at h
          · rename_i hjk
            cases h
            refine hq _ ?_
            have hjt : j < ts.length := by
              rw [hlen, ← l, List.length_take]
              have : j < (K.nm n).length := by
                have h3 := c3
                rw [List.idxOf?_eq_some_iff] at h3
                exact h3.1
              omega
            rw [putF_set (idx_take c3 hjk) l]
            obtain ⟨a', e, E2⟩ := EnvOk.setIn (j := j) (ob := .ins (K.ct n) dx (((K.nm n).take k).zip (vs.set j x))) E hg (by simp) hjt he.1 (fun a2 vs2 ho2 e2 => by
              cases e2
              obtain ⟨l3, dx2, ho2⟩ := ho2
              have ev : vs = vs2 := Kids.fn (H := H) (v := .ref a) ⟨a, rfl, .inr (.inl ⟨_, dx, _, ho, l⟩)⟩ ⟨a, rfl, .inr (.inl ⟨_, dx2, _, ho2, l3⟩)⟩
              subst ev
              exact ⟨by simpa using l, dx, upd_same⟩)
            cases e
            exact E2
          · split at h
            · rename_i hjk hjk2
              cases h
              subst hjk2
              refine hq _ ?_
              rw [putF_app c3 l]
              have hjn : j < (K.nm n).length := by
                have h3 := c3
                rw [List.idxOf?_eq_some_iff] at h3
                exact h3.1
              obtain ⟨a', e, E2⟩ := EnvOk.modP (ins := [t]) (us1 := [x]) (outs := []) (vouts := []) (k' := .ins n (j + 1)) (ts' := ts ++ [t]) (ob := .ins (K.ct n) dx (((K.nm n).take (j + 1)).zip (vs ++ [x]))) (τ := s) (us := us) E rfl hg (by simp) (by simp) (fun a2 vs2 e2 ho2 l2 => by
                cases e2
                obtain ⟨l3, dx2, ho2⟩ := ho2
                have ev : vs = vs2 := Kids.fn (H := H) (v := .ref a) ⟨a, rfl, .inr (.inl ⟨_, dx, _, ho, l⟩)⟩ ⟨a, rfl, .inr (.inl ⟨_, dx2, _, ho2, l3⟩)⟩
                subst ev
                refine ⟨vs ++ [x], by simpa using l2, ⟨by rw [List.length_take] at l ⊢; simp; omega, dx, upd_same⟩, fun Z Ψa Ψb r1 r2 d => ⟨_, by simpa using RepL.append _ r1 r2 d, fun b q => q⟩⟩) rfl (by
                  rw [escL_all] at hes ⊢
                  intro y hy
                  rcases List.mem_append.mp hy with z | z
                  · exact hes y z
                  · rw [List.mem_singleton.mp z]; exact he.1)
              cases e
              simpa using E2
            · cases h
        · cases h
      · cases h
    · cases h
  · cases h
def sFldS (tab : List (Nat × Nat)) (gv go : GE) : GS := fun m => match gSeq gv go m with
  | some (.ok m') => match stFld tab m' with
    | some m2 => some (.nx m2)
    | none => none
  | some (.ex C g) => some (.ex C g)
  | none => none
theorem ms_fld {fl : Str} {tab : List (Nat × Nat)} {spos tpos : Pos} (hv : ME X T md W e gv) (ho : ME X T md W o go) (ht : FldOk X.K T fl tab) (hs : swapsWith e (some (.Attribute o fl spos)) tpos.line X.env = pure false := by rfl) : MS X T md W (.Assign [.Attribute o fl spos] e tpos) (sFldS tab gv go) := by
  obtain ⟨tv, pv, sv⟩ := hv
  obtain ⟨to, po, so⟩ := ho
  refine ⟨_, ps_fld po pv hs, fun c σ H m us D oo hc E hg hp => ?_⟩
  simp only [sFldS, gSeq] at hg
  cases e1 : gv m with
  | none => simp [e1] at hg
  | some r1 =>
    cases r1 with
    | ex C g' =>
      simp only [e1] at hg
      cases hg
      exact sv c σ H m us _ _ hc E e1 fun H1 E1 => hp σ H1 E1
    | ok m1 =>
      simp only [e1] at hg
      refine sv c σ H m us _ _ hc E e1 fun x H1 E1 => ?_
      cases e2 : go m1 with
      | none => simp [e2] at hg
      | some r2 =>
        cases r2 with
        | ex C g' =>
          simp only [e2] at hg
          cases hg
          exact so c σ H1 m1 _ _ _ hc E1 e2 fun H2 E2 => hp σ H2 E2
        | ok m2 =>
          simp only [e2] at hg
          refine so c σ H1 m1 _ _ _ hc E1 e2 fun y H2 E2 => ?_
          split at hg
          · rename_i m4 h4
            cases hg
            obtain ⟨a, C, dx, fs, z1, z2, z3, z4, z5, z6, _⟩ := stFld_ok ht E2 h4 fun H4 E4 => hp σ H4 E4
            exact ⟨a, C, dx, fs, z1, z2, z3, z4, z5, z6⟩
          · cases hg
end
section
variable {K : KC} {X : Cx} {T : KT} {md : List Bool} {W : WX} {c : Cz} {σ : St} {H H' : Hp} {Γ τ τ1 : List Ent} {us us1 vs vs' : List V} {v w : V} {p q : List Nat} {t : Tr} {ts ts' : List Tr} {k k' : Nk} {i j n : Nat} {a : Addr} {en en' : Ent} {o : Ow}
variable {st : Stmt} {rest sts sts' body : List Stmt} {g g' gb : GS} {ge gf gt gi go gv ga gs f : GE} {e b oe ie tg iter : Expr} {es : List Expr} {pos pos' : Pos}
/-! methods of lists -/
def chkL : GE := fun m => match m.s with
  | e :: _ => match viewE m.g e with
    | some (.nd .lst _ _) => some (.ok m)
    | _ => none
  | _ => none
def RM (K : KC) (md : List Bool) (W : WX) (n : Nat) (r : V → List V → Hp → VK → Prop) (f : GE) : Prop := ∀ (c : Cz) (σ : St) (H : Hp) (m : Ms) (us vs : List V) (x : V) (Q : VK) (rr : Rs), c.md = md → vs.length = n → EnvOk K c σ H m.g m.s (vs.reverse ++ x :: us) → f m = some rr → PostE K c W σ us Q rr → r x vs H Q
theorem chkL_ok {m : Ms} {x : V} {rr : Rs} (E : EnvOk K c σ H m.g m.s (x :: us)) (h : chkL m = some rr) : rr = .ok m ∧ tyV K.K "list" x H := by
  unfold chkL at h
  split at h
  · rename_i e s hs
    split at h
    · rename_i o ts hv
      cases h
      rw [hs] at E
      obtain ⟨Z, ws, Φ, Ψ, EE⟩ := E
      obtain ⟨Θ, a, vs, Ξ, rfl, ho, _⟩ := EE.view (n := 0) rfl rfl hv
      exact ⟨rfl, .inl ⟨rfl, vs, objL ho⟩⟩
    · cases h
  · cases h
theorem me_bm {r : V → List V → Hp → VK → Prop} {nmm : Str} {apos : Pos} (ho : ME X T md W oe go) (ha : MA X T md W es ga) (hf : RM (kcm X.K T) md W es.length r f) (h : ∀ {to : TE} {t : TA}, PE X oe to → PA X es t → PE X (.Call (.Attribute oe nmm apos) es [] pos) (tBM X.K "list" r to t)) : ME X T md W (.Call (.Attribute oe nmm apos) es [] pos) (gSeq go (gSeq chkL (gSeq ga f))) := by
  obtain ⟨to, po, so⟩ := ho
  obtain ⟨t, pa, sa⟩ := ha
  refine ⟨_, h po pa, fun c σ H m us Q rr hc E hg hp => ?_⟩
  simp only [gSeq] at hg
  split at hg
  · rename_i m1 h1
    refine so c σ H m us _ _ hc E h1 fun x H1 E1 => ?_
    split at hg
    · rename_i m2 h2
      obtain ⟨e2, ty⟩ := chkL_ok E1 h2
      cases e2
      refine ⟨ty, ?_⟩
      split at hg
      · rename_i m3 h3
        exact sa c σ H1 m1 _ _ _ hc E1 h3 fun vs H2 hl E2 => hf c σ H2 m3 us vs x Q rr hc hl E2 hg hp
      · rename_i h3
        refine sa c σ H1 m1 _ _ _ hc E1 hg ?_
        cases rr with
        | ex C g' => exact hp
        | ok m2 => exact absurd hg (h3 m2)
    · rename_i h2
      obtain ⟨e2, ty⟩ := chkL_ok E1 hg
      exact absurd (e2 ▸ hg) (h2 m1)
  · rename_i h1
    refine so c σ H m us _ _ hc E hg ?_
    cases rr with
    | ex C g' => exact hp
    | ok m2 => exact absurd hg (h1 m2)
def fApp : GE := fun m => match m.s with
  | .tr t :: .al p :: s => match getG m.g p with
    | some (.nd .lst .own ts) => if esc t = true ∧ ts.length < sizeLine then some (.ok ⟨kill p (setG m.g p (.nd .lst .own (ts ++ [t]))), .tr (.a .non) :: kill p s⟩) else none
    | _ => none
  | _ => none
theorem escL_app (h : escL ts = true) (he : esc t = true) : escL (ts ++ [t]) = true := by
  rw [escL_all] at h ⊢
  intro y hy
  rcases List.mem_append.mp hy with z | z
  · exact h y z
  · rw [List.mem_singleton.mp z]; exact he
theorem fApp_ok : RM K md W 1 rAppend fApp := by
  intro c σ H m us vs x Q rr hc hl E hf hp
  match vs, hl with
  | [y], _ =>
    unfold fApp at hf
    split at hf
    · rename_i t p s hs
      split at hf
      · rename_i ts hg
        split at hf
        · rename_i he
          cases hf
          rw [hs] at E
          have E1 : EnvOk K c σ H m.g (.al p :: .tr t :: s) (x :: y :: us) := EnvOk.swap2 E
          have hes := E1.escAt hg (by simp)
          obtain ⟨Z, ws, Φ, Ψ, EE⟩ := id E1
          obtain ⟨Θ, a, vs, Ξ, rfl, ho, hlr, hn⟩ := EE.view (n := 0) (e := .al p) rfl rfl hg
          have ho : H a = some (.lst vs) := ho
          have hlen := RepL.len _ hlr
          refine ⟨a, vs, y, rfl, rfl, ho, by rw [← hlen]; exact he.2, hp _ _ ?_⟩
          obtain ⟨a', e, E2⟩ := EnvOk.modP (ins := [t]) (us1 := [y]) (outs := []) (vouts := []) (k' := .lst) (ts' := ts ++ [t]) (ob := .lst (vs ++ [y])) (τ := s) (us := us) E1 rfl hg (by simp) (by simp) (fun a2 vs2 e2 ho2 l2 => by
            cases e2
            have ho2 : H a = some (.lst vs2) := ho2
            rw [ho] at ho2
            cases ho2
            exact ⟨vs ++ [y], by simpa using l2, upd_same, fun Z Ψa Ψb r1 r2 d => ⟨_, by simpa using RepL.append _ r1 r2 d, fun b q => q⟩⟩) rfl (escL_app hes he.1)
          cases e
          exact EnvOk.atom (by simpa using E2) .non
        · cases hf
      · cases hf
    · cases hf
def fPopA : GE := fun m => match m.s with
  | .tr (.a (.int x)) :: .al p :: s => match getG m.g p with
    | some (.nd .lst .own ts) => if -(2 ^ 63) ≤ x ∧ x < 2 ^ 63 then match seqIndex? x ts.length with
        | some j => match ts[j]? with
          | some t => some (.ok ⟨kill p (setG m.g p (.nd .lst .own (ts.eraseIdx j))), .tr t :: kill p s⟩)
          | none => none
        | none => none
      else none
    | _ => none
  | _ => none
theorem escL_erase (h : escL ts = true) : escL (ts.eraseIdx j) = true := by
  rw [escL_all] at h ⊢
  exact fun y hy => h y (List.mem_of_mem_eraseIdx hy)
theorem popStep {ad : Addr} {E1 : EnvOk K c σ H Γ (.al p :: τ) (.ref ad :: us)} (hg : getG Γ p = some (.nd .lst .own ts)) (ho : H ad = some (.lst vs)) (ht : ts[j]? = some t) (hv : vs[j]? = some v) : EnvOk K c σ (upd H ad (.lst (vs.eraseIdx j))) (kill p (setG Γ p (.nd .lst .own (ts.eraseIdx j)))) (.tr t :: kill p τ) (v :: us) := by
  obtain ⟨a', e, E2⟩ := EnvOk.modP (ins := []) (us1 := []) (outs := [t]) (vouts := [v]) (k' := .lst) (ts' := ts.eraseIdx j) (ob := .lst (vs.eraseIdx j)) (τ := τ) (us := us) E1 rfl hg (by simp) (by simp) (fun a2 vs2 e2 ho2 l2 => by
    cases e2
    have ho2 : H ad = some (.lst vs2) := ho2
    rw [ho] at ho2
    cases ho2
    refine ⟨vs.eraseIdx j, by rw [List.length_eraseIdx, List.length_eraseIdx, l2], upd_same, fun Z Ψa Ψb r1 r2 d => ?_⟩
    obtain ⟨v', Φ1, Φ2, e1, r, d1, u, _, r3⟩ := RepL.at_ _ r1 ht
    rw [hv] at e1
    cases e1
    have one : RepL K Z H .own [t] [v] Φ1 := ⟨v, [], Φ1, fun _ => False, rfl, r, ⟨rfl, fun _ h => h⟩, by simp, by simp⟩
    exact ⟨_, RepL.append _ r3 one (by grind), by grind⟩) rfl (escL_erase (E1.escAt hg (by simp)))
  cases e
  simpa using E2
theorem fPopA_ok : RM K md W 1 rPopAt fPopA := by
  intro c σ H m us vs x Q rr hc hl E hf hp
  match vs, hl with
  | [y], _ =>
    unfold fPopA at hf
    split at hf
    · rename_i xi p s hs
      split at hf
      · rename_i ts hg
        split at hf
        · rename_i hb
          split at hf
          · rename_i j hj
            split at hf
            · rename_i t ht
              cases hf
              rw [hs] at E
              have ey := top_a E
              subst ey
              have E1 := E.drop
              obtain ⟨Z, ws, Φ, Ψ, EE⟩ := id E1
              obtain ⟨Θ, a, vs, Ξ, rfl, ho, hlr, hn⟩ := EE.view (n := 0) (e := .al p) rfl rfl hg
              have ho : H a = some (.lst vs) := ho
              have hlen := RepL.len _ hlr
              have hjv : j < vs.length := by rw [← hlen]; exact getq_lt' ht
              exact ⟨a, vs, xi, j, vs[j], rfl, rfl, ho, hb.1, hb.2, by rw [← hlen]; exact hj, List.getElem?_eq_getElem hjv, hp _ _ (popStep (E1 := E1) hg ho ht (List.getElem?_eq_getElem hjv))⟩
            · cases hf
          · cases hf
        · cases hf
      · cases hf
    · cases hf
def fPop : GE := fun m => match m.s with
  | .al p :: s => match getG m.g p with
    | some (.nd .lst .own ts) => match ts[ts.length - 1]? with
      | some t => some (.ok ⟨kill p (setG m.g p (.nd .lst .own (ts.eraseIdx (ts.length - 1)))), .tr t :: kill p s⟩)
      | none => none
    | _ => none
  | _ => none
/-! x op= e -/
def sAug (md : List Bool) (i : Nat) (ge f : GE) : GS := sSet md i (gSeq (gSeq (gVar i) ge) f)
/-! targets -/
def SG (K : KC) (md : List Bool) (t : TG) (b : Ms → Option Ms) : Prop := ∀ (c : Cz) (σ : St) (H : Hp) (m m' : Ms) (us : List V) (x : V) (Q : St → Hp → Prop), c.md = md → EnvOk K c σ H m.g m.s (x :: us) → b m = some m' → (∀ σ' H', EnvOk K c σ' H' m'.g m'.s us → Q σ' H') → t x σ H Q
def MG (X : Cx) (T : KT) (md : List Bool) (tg : Expr) (b : Ms → Option Ms) : Prop := ∃ t, PG X tg t ∧ SG (kcm X.K T) md t b
theorem sg_name : SG K md (gName i) (bind md i) := fun c σ H m m' us x Q hc E h hq => hq _ _ (bind_ok hc E h)
theorem mg_name {x : Str} (hN : X.N.Nodup) (hi : X.N[i]? = some x) (hx : Loc X.env.scope x) (hf : X.fn x = true ∨ X.env.scope.names.lookup x = some .local := by first | exact .inl rfl | exact .inr rfl | assumption) : MG X T md (.Name x pos) (bind md i) := ⟨_, pg_name hN hi hx hf, sg_name⟩
end
section
variable {K : KC} {X : Cx} {T : KT} {md : List Bool} {W : WX} {c : Cz} {σ : St} {H H' : Hp} {Γ τ τ1 : List Ent} {us us1 vs vs' : List V} {v w : V} {p q : List Nat} {t : Tr} {ts ts' : List Tr} {k k' : Nk} {i j n : Nat} {a : Addr} {en en' : Ent} {o : Ow}
variable {st : Stmt} {rest sts sts' body : List Stmt} {g g' gb : GS} {ge gf gt gi go gv ga gs f : GE} {e b oe ie tg iter : Expr} {es : List Expr} {pos pos' : Pos} {bd : Ms → Option Ms}
/-- the j-th item beside the thing itself -/
def kidX (e : Ent) (k : Nk) (o : Ow) (ts : List Tr) (j : Nat) : Option Ent := match ts[j]? with
  | none => none
  | some t => if cp (kid o t) = true then some (.tr (kid o t)) else match e, k with
    | .al _, .tup => none
    | .al p, _ => if o = .own then some (.al (p ++ [j])) else none
    | _, _ => none
theorem EnvOk.dup (E : EnvOk K c σ H Γ (.al p :: τ) (w :: us)) : EnvOk K c σ H Γ (.al p :: .al p :: τ) (w :: w :: us) := by
  obtain ⟨Z, ws, Φ, Ψ, EE⟩ := id E
  obtain ⟨w0, e0, raw, g⟩ := EE.to 0 p rfl
  cases e0
  refine E.pushA (fun ws2 Z2 Φ2 Ψ2 EE2 => ?_) g
  obtain ⟨w1, e1, raw1, _⟩ := EE2.to 0 p rfl
  cases e1
  exact raw1
theorem EnvOk.dupC (E : EnvOk K c σ H Γ (.tr t :: τ) (w :: us)) (hc : cp t = true) : EnvOk K c σ H Γ (.tr t :: .tr t :: τ) (w :: w :: us) := by
  obtain ⟨Z, ws, Φ, Ψ, EE⟩ := E
  refine EE.swapE (τ1 := [.tr t]) (us1 := [w]) (τ1' := [.tr t, .tr t]) (us1' := [w, w]) rfl (by simp) (fun Ψ1 r zo => ?_) rfl
  have hs := RepL.isS _ r
  obtain ⟨v0, vs0, Θ1, Θ2, e1, a1, a2, ad, au⟩ := id r
  cases e1
  have n0 := Rep.cp0 _ a1 hc
  have n2 : ∀ b, ¬ Θ2 b := a2.2
  exact ⟨Z, Θ1, ⟨w, [w], Θ1, Θ1, rfl, a1, ⟨w, [], Θ1, Θ2, rfl, a1, a2, by grind, by grind⟩, by grind, by grind⟩, .same _ _ _ EE.zs hs _ fun b q => absurd q (n0 b)⟩
theorem EnvOk.kidX (E : EnvOk K c σ H Γ (en :: τ) (w :: us)) (hc : ∀ t, en = .tr t → cp t = true) (hv : viewE Γ en = some (.nd k o ts)) (hk : kidX en k o ts j = some en') :
    ∃ a vs w', w = .ref a ∧ ObjAt K k o H a vs ∧ ts.length = vs.length ∧ vs[j]? = some w' ∧ EnvOk K c σ H Γ (en' :: en :: τ) (w' :: w :: us) := by
  have hE : kidE en k o ts j = some en' := by
    unfold Mine.kidX at hk
    unfold kidE
    split at hk
    · cases hk
    · rename_i t ht
      try simp only [ht]
      split at hk
      · rename_i hcp
        rw [if_pos hcp]
        exact hk
      · rename_i hcp
        rw [if_neg hcp]
        split at hk
        · cases hk
        · rename_i p hne
          split at hk
          · rename_i ho
            cases hk
            cases k <;> simp_all
          · cases hk
        · cases hk
  have E2 : EnvOk K c σ H Γ (en :: en :: τ) (w :: w :: us) := by
    cases en with
    | no => simp [viewE] at hv
    | tr t => exact E.dupC (hc t rfl)
    | al p => exact E.dup
  exact E2.kidOf hv hE
def cpE : Ent → Bool
  | .tr t => cp t
  | _ => true
/-- for over the thing on top, which stays there -/
def loopE (k : Nk) (bd : Ms → Option Ms) (body : GS) : Nat → Nat → Ms → Option Os
  | 0, i, m => match m.s with
    | e :: s => match viewE m.g e with
      | some (.nd k' _ ts) => if k' = k ∧ ts.length = i then some (.nx ⟨m.g, s⟩) else none
      | _ => none
    | _ => none
  | r + 1, i, m => match m.s with
    | e :: s => match viewE m.g e with
      | some (.nd k' o ts) => if k' = k ∧ cpE e = true ∧ ts.length = i + (r + 1) then match kidX e k o ts i with
          | some e' => match bd ⟨m.g, e' :: e :: s⟩ with
            | some m1 => match body m1 with
              | some (.nx m2) => loopE k bd body r (i + 1) m2
              | some (.ct m2) => loopE k bd body r (i + 1) m2
              | some (.bk m2) => some (.nx ⟨m2.g, m2.s.tail⟩)
              | some (.rt t m2) => some (.rt t ⟨m2.g, m2.s.tail⟩)
              | some (.ex C g) => some (.ex C g)
              | none => none
            | none => none
          | none => none
        else none
      | _ => none
    | _ => none
/-- what a for walks: made ready, with its length -/
def ready : Ms → Option (Ms × Nk × Nat) := fun m => match m.s with
  | .tr (.nd k o ts) :: s => if k = .lst ∨ k = .tup then some (⟨m.g, .tr (kid .lnt (.nd k o ts)) :: s⟩, k, ts.length) else none
  | .al p :: s => match getG m.g p with
    | some (.nd .lst .own ts) => some (⟨m.g, .al p :: s⟩, .lst, ts.length)
    | _ => none
  | _ => none
def sFor (gs : GE) (bd : Ms → Option Ms) (body : GS) : GS := fun m => match gs m with
  | some (.ok m1) => match ready m1 with
    | some (m2, k, n) => loopE k bd body n 0 m2
    | none => none
  | some (.ex C g) => some (.ex C g)
  | none => none
theorem tail_len {s : List Ent} (E : EnvOk K c σ H Γ s us) : s.length = us.length := by
  obtain ⟨Z, ws, Φ, Ψ, EE⟩ := E
  have := RepL.len _ EE.tm
  simpa [trees] using this
theorem EnvOk.tail {s : List Ent} {x : V} (E : EnvOk K c σ H Γ s (x :: us)) : EnvOk K c σ H Γ s.tail us := by
  have := tail_len E
  match s, this with
  | e :: s, _ => exact E.drop
theorem EnvOk.tail2 {s : List Ent} {x y : V} (E : EnvOk K c σ H Γ (.tr t :: s) (y :: x :: us)) : EnvOk K c σ H Γ (.tr t :: s.tail) (y :: us) := by
  have := tail_len E
  match s, this with
  | e :: s, _ => exact (EnvOk.swap2 E).drop
/-- the abstract loop: J walks, the items come as the machine has them -/
theorem loop_ok {J : It} {tb : L2.TS} {gT : TG} {D : Ends} {w : V} {oo : Os} (hm : c.md = md) (hT : SG K md gT bd) (hB : SS K md W tb gb)
    (stop : ∀ i H Γ τ σ us e ts o, EnvOk K c σ H Γ (e :: τ) (w :: us) → viewE Γ e = some (.nd k o ts) → ts.length = i → J.stop i H)
    (step : ∀ i H Γ τ σ us e ts o e', EnvOk K c σ H Γ (e :: τ) (w :: us) → cpE e = true → viewE Γ e = some (.nd k o ts) → kidX e k o ts i = some e' → i < ts.length → J.go i H ∧ ∀ x H', J.yld i H x H' → H' = H ∧ EnvOk K c σ H Γ (e' :: e :: τ) (x :: w :: us))
    (hp : PostS K c W us D oo) : ∀ {σ : St} {H : Hp} {m : Ms} {n : Nat}, EnvOk K c σ H m.g m.s (w :: us) → loopE k bd gb n 0 m = some oo →
    ∃ Wv : Nat → Nat → St → Hp → Prop, (∃ mm, Wv 0 mm σ H) ∧ ∀ i mm σ H, Wv i mm σ H →
      (J.stop i H ∧ D.nx σ H) ∨ (J.go i H ∧ ∃ N : St → Hp → Prop, (∀ σ' H', N σ' H' → ∃ m', m' < mm ∧ Wv (i + 1) m' σ' H') ∧ ∀ x H', J.yld i H x H' → gT x σ H' fun σ2 H2 => tb { D with nx := N, ct := N, bk := D.nx } σ2 H2) := by
  intro σ H m n E hg
  refine ⟨fun i r σ H => ∃ m : Ms, EnvOk K c σ H m.g m.s (w :: us) ∧ loopE k bd gb r i m = some oo, ⟨n, m, E, hg⟩, ?_⟩
  rintro i r σ H ⟨m, E, hg⟩
  cases r with
  | zero =>
    simp only [loopE] at hg
    split at hg
    · rename_i e s hs
      split at hg
      · rename_i k' o ts hv
        split at hg
        · rename_i hl
          cases hg
          rw [hs] at E
          obtain ⟨rfl, hl⟩ := hl
          exact .inl ⟨stop i H m.g s σ us e ts o E hv hl, hp σ H E.drop⟩
        · cases hg
      · cases hg
    · cases hg
  | succ r =>
    simp only [loopE] at hg
    split at hg
    · rename_i e s hs
      split at hg
      · rename_i k' o ts hv
        split at hg
        · rename_i hl
          obtain ⟨rfl, hl⟩ := hl
          split at hg
          · rename_i e' hk
            split at hg
            · rename_i m1 h1
              rw [hs] at E
              obtain ⟨go, yld⟩ := step i H m.g s σ us e ts o e' E hl.1 hv hk (by have := hl.2; omega)
              refine .inr ⟨go, fun σ' H' => ∃ m : Ms, EnvOk K c σ' H' m.g m.s (w :: us) ∧ loopE k' bd gb r (i + 1) m = some oo, fun σ' H' z => ⟨r, by omega, z⟩, fun x H' y => ?_⟩
              obtain ⟨rfl, E1⟩ := yld x H' y
              refine hT c σ H' ⟨m.g, e' :: e :: s⟩ m1 _ x _ hm E1 h1 fun σ2 H2 E2 => ?_
              cases h2 : gb m1 with
              | none => simp [h2] at hg
              | some o2 =>
                refine hB c σ2 H2 m1 _ _ o2 hm E2 h2 ?_
                cases o2 with
                | nx m2 =>
                  simp only [h2] at hg
                  exact fun σ3 H3 E3 => ⟨m2, E3, hg⟩
                | ct m2 =>
                  simp only [h2] at hg
                  exact fun σ3 H3 E3 => ⟨m2, E3, hg⟩
                | bk m2 =>
                  simp only [h2] at hg
                  cases hg
                  exact fun σ3 H3 E3 => hp σ3 H3 E3.tail
                | rt t m2 =>
                  simp only [h2] at hg
                  cases hg
                  exact fun σ3 x3 H3 E3 => hp σ3 x3 H3 E3.tail2
                | ex C g' =>
                  simp only [h2] at hg
                  cases hg
                  exact hp
            · cases hg
          · cases hg
        · cases hg
      · cases hg
    · cases hg
theorem PI.or {tg iter : Expr} {w1 w2 : TI} (h1 : PI X tg iter w1) (h2 : PI X tg iter w2) : PI X tg iter (fun σ H R => w1 σ H R ∨ w2 σ H R) := by
  refine ⟨fun pins s σ H R I h => ?_⟩
  rcases h with h | h
  · exact h1.run pins s σ H R I h
  · exact h2.run pins s σ H R I h
theorem ready_ok {m m' : Ms} {k : Nk} {x : V} (E : EnvOk K c σ H m.g m.s (x :: us)) (h : ready m = some (m', k, n)) : EnvOk K c σ H m'.g m'.s (x :: us) ∧ ∃ e s o ts, m'.s = e :: s ∧ viewE m'.g e = some (.nd k o ts) ∧ (k = .lst ∨ k = .tup) := by
  unfold ready at h
  split at h
  · rename_i k2 o ts s hs
    split at h
    · rename_i hk
      cases h
      rw [hs] at E
      rcases hk with rfl | rfl
      · exact ⟨E.lend, _, _, _, _, rfl, rfl, .inl rfl⟩
      · exact ⟨E.lend, _, _, _, _, rfl, rfl, .inr rfl⟩
    · cases h
  · rename_i p s hs
    split at h
    · rename_i ts hg
      cases h
      rw [hs] at E
      exact ⟨E, _, _, _, _, rfl, hg, .inl rfl⟩
    · cases h
  · cases h
theorem viewObj (E : EnvOk K c σ H Γ (en :: τ) (w :: us)) (hv : viewE Γ en = some (.nd k o ts)) : ∃ a vs, w = .ref a ∧ ObjAt K k o H a vs ∧ ts.length = vs.length := by
  obtain ⟨Z, ws, Φ, Ψ, EE⟩ := E
  obtain ⟨Θ, a, vs, Ξ, rfl, ho, hl, _⟩ := EE.view (n := 0) rfl rfl hv
  exact ⟨a, vs, rfl, ho, RepL.len _ hl⟩
theorem cpE_tr (h : cpE en = true) : ∀ t, en = .tr t → cp t = true := fun t e => by subst e; exact h
theorem ms_for (hs : ME X T md W iter gs) (hT : MG X T md tg bd) (hB : MSs X T md W body gb) (hp : PassesOwn (model X.prog X.w) X.A X.env X.xe) (hc : X.calm = true)
    (hf : ∀ x, foldedSetIterable iter X.env x = pure x := by intro _; rfl) : MS X T md W (.For tg iter body [] pos) (sFor gs bd gb) := by
  obtain ⟨ti, pi, si⟩ := hs
  obtain ⟨tt, pt, st⟩ := hT
  obtain ⟨tb, pb, sb⟩ := hB
  refine ⟨_, ps_for hp hc (PI.or (pi_list pi) (pi_tup pi)) pt pb hf, fun c σ H m us D oo hm E hg hpo => ?_⟩
  simp only [sFor] at hg
  split at hg
  · rename_i m1 h1
    split at hg
    · rename_i m2 k n h2
      -- the kind is known ahead
      have hk : k = .lst ∨ k = .tup := by
        unfold ready at h2
        split at h2
        · split at h2
          · rename_i hk
            cases h2
            exact hk
          · cases h2
        · split at h2
          · cases h2
            exact .inl rfl
          · cases h2
        · cases h2
      rcases hk with rfl | rfl
      · refine .inl (si c σ H m us _ _ hm E h1 fun x H1 E1 => ?_)
        obtain ⟨E2, e, s, o, ts, hs2, hv, _⟩ := ready_ok E1 h2
        obtain ⟨a, vs, rfl, ho, _⟩ := viewObj (hs2 ▸ E2) hv
        refine ⟨a, rfl, ⟨vs, objL ho⟩, ?_⟩
        refine loop_ok hm st sb (fun i H Γ τ σ us e ts o E hv hl => ?_) (fun i H Γ τ σ us e ts o e' E hcp hv hk hi => ?_) hpo E2 hg
        · obtain ⟨a', vs', e, ho, hl2⟩ := viewObj E hv
          cases e
          exact ⟨vs', objL ho, by omega⟩
        · obtain ⟨a', vs', w', e, ho, hl2, hw, E3⟩ := EnvOk.kidX E (cpE_tr hcp) hv hk
          cases e
          refine ⟨⟨vs', w', objL ho, hw⟩, fun x H' y => ?_⟩
          obtain ⟨rfl, y⟩ := y
          have := y vs' (objL ho)
          rw [hw] at this
          cases this
          exact ⟨rfl, E3⟩
      · refine .inr (si c σ H m us _ _ hm E h1 fun x H1 E1 => ?_)
        obtain ⟨E2, e, s, o, ts, hs2, hv, _⟩ := ready_ok E1 h2
        obtain ⟨a, vs, rfl, ho, _⟩ := viewObj (hs2 ▸ E2) hv
        refine ⟨a, rfl, ⟨vs, objT ho⟩, ?_⟩
        refine loop_ok hm st sb (fun i H Γ τ σ us e ts o E hv hl => ?_) (fun i H Γ τ σ us e ts o e' E hcp hv hk hi => ?_) hpo E2 hg
        · obtain ⟨a', vs', e, ho, hl2⟩ := viewObj E hv
          cases e
          exact ⟨vs', objT ho, by omega⟩
        · obtain ⟨a', vs', w', e, ho, hl2, hw, E3⟩ := EnvOk.kidX E (cpE_tr hcp) hv hk
          cases e
          refine ⟨⟨vs', w', objT ho, hw⟩, fun x H' y => ?_⟩
          obtain ⟨rfl, y⟩ := y
          have := y vs' (objT ho)
          rw [hw] at this
          cases this
          exact ⟨rfl, E3⟩
    · cases hg
  · rename_i h1
    cases hg
    exact .inl (si c σ H m us _ _ hm E h1 fun H1 E1 => hpo σ H1 E1)
  · cases hg
/-! for over a range: no object is on the stack -/
def loopR (bd : Ms → Option Ms) (body : GS) (lo : Int) : Nat → Nat → Ms → Option Os
  | 0, _, m => some (.nx m)
  | r + 1, i, m => match bd ⟨m.g, .tr (.a (.int (lo + i))) :: m.s⟩ with
    | some m1 => match body m1 with
      | some (.nx m2) => loopR bd body lo r (i + 1) m2
      | some (.ct m2) => loopR bd body lo r (i + 1) m2
      | some (.bk m2) => some (.nx m2)
      | some (.rt t m2) => some (.rt t m2)
      | some (.ex C g) => some (.ex C g)
      | none => none
    | none => none
theorem loopR_ok {lo : Int} {tb : L2.TS} {gT : TG} {D : Ends} {oo : Os} (hm : c.md = md) (hT : SG K md gT bd) (hB : SS K md W tb gb) (hp : PostS K c W us D oo) {m : Ms} (E : EnvOk K c σ H m.g m.s us) (hg : loopR bd gb lo n 0 m = some oo) :
    ∃ Wv : Nat → Nat → St → Hp → Prop, (∃ mm, Wv 0 mm σ H) ∧ ∀ i mm σ H, Wv i mm σ H →
      ((Itr lo n).stop i H ∧ D.nx σ H) ∨ ((Itr lo n).go i H ∧ ∃ N : St → Hp → Prop, (∀ σ' H', N σ' H' → ∃ m', m' < mm ∧ Wv (i + 1) m' σ' H') ∧ ∀ x H', (Itr lo n).yld i H x H' → gT x σ H' fun σ2 H2 => tb { D with nx := N, ct := N, bk := D.nx } σ2 H2) := by
  refine ⟨fun i r σ H => i + r = n ∧ ∃ m : Ms, EnvOk K c σ H m.g m.s us ∧ loopR bd gb lo r i m = some oo, ⟨n, by omega, m, E, hg⟩, ?_⟩
  rintro i r σ H ⟨hir, m, E, hg⟩
  cases r with
  | zero =>
    simp only [loopR] at hg
    cases hg
    exact .inl ⟨by show n ≤ i; omega, hp σ H E⟩
  | succ r =>
    simp only [loopR] at hg
    split at hg
    · rename_i m1 h1
      refine .inr ⟨by show i < n; omega, fun σ' H' => i + 1 + r = n ∧ ∃ m : Ms, EnvOk K c σ' H' m.g m.s us ∧ loopR bd gb lo r (i + 1) m = some oo, fun σ' H' z => ⟨r, by omega, z⟩, fun x H' y => ?_⟩
      obtain ⟨rfl, rfl⟩ := y
      refine hT c σ H' ⟨m.g, _ :: m.s⟩ m1 _ _ _ hm (E.atom _) h1 fun σ2 H2 E2 => ?_
      cases h2 : gb m1 with
      | none => simp [h2] at hg
      | some o2 =>
        refine hB c σ2 H2 m1 _ _ o2 hm E2 h2 ?_
        cases o2 with
        | nx m2 =>
          simp only [h2] at hg
          exact fun σ3 H3 E3 => ⟨by omega, m2, E3, hg⟩
        | ct m2 =>
          simp only [h2] at hg
          exact fun σ3 H3 E3 => ⟨by omega, m2, E3, hg⟩
        | bk m2 =>
          simp only [h2] at hg
          cases hg
          exact hp
        | rt t m2 =>
          simp only [h2] at hg
          cases hg
          exact hp
        | ex C g' =>
          simp only [h2] at hg
          cases hg
          exact hp
    · cases hg
def sForR1 (ga : GE) (bd : Ms → Option Ms) (body : GS) : GS := fun m => match ga m with
  | some (.ok ⟨g', .tr (.a (.int j)) :: s⟩) => if -(2 ^ 62) ≤ j ∧ j < 2 ^ 62 then loopR bd body 0 j.toNat 0 ⟨g', s⟩ else none
  | some (.ex C g) => some (.ex C g)
  | _ => none
def sForR2 (ga : GE) (bd : Ms → Option Ms) (body : GS) : GS := fun m => match ga m with
  | some (.ok ⟨g', .tr (.a (.int j)) :: .tr (.a (.int i)) :: s⟩) => if -(2 ^ 62) ≤ i ∧ i < 2 ^ 62 ∧ -(2 ^ 62) ≤ j ∧ j < 2 ^ 62 then loopR bd body i (j - i).toNat 0 ⟨g', s⟩ else none
  | some (.ex C g) => some (.ex C g)
  | _ => none
theorem ms_forR1 {rp : Pos} (ha : MA X T md W [e] ga) (hT : MG X T md tg bd) (hB : MSs X T md W body gb) (hgl : Gl X "range") (hmg : X.mg "range" = none) (hp : PassesOwn (model X.prog X.w) X.A X.env X.xe) (hc : X.calm = true)
    (hs : starEach [e] X.env = [(false, eval e X.env)] := by rfl) (hf : ∀ x, foldedSetIterable (.Call (.Name "range" rp) [e] [] pos') X.env x = pure x := by intro _; rfl) : MS X T md W (.For tg (.Call (.Name "range" rp) [e] [] pos') body [] pos) (sForR1 ga bd gb) := by
  obtain ⟨ta, pa, sa⟩ := ha
  obtain ⟨tt, pt, st⟩ := hT
  obtain ⟨tb, pb, sb⟩ := hB
  refine ⟨_, ps_for hp hc (pi_range1 hgl hmg pa hs) pt pb hf, fun c σ H m us D oo hm E hg hpo => ?_⟩
  simp only [sForR1] at hg
  split at hg
  · rename_i g' j s h1
    split at hg
    · rename_i hb
      refine sa c σ H m us _ _ hm E h1 fun vs H1 hl E1 => ?_
      match vs, hl with
      | [x], _ =>
        have E1 : EnvOk (kcm X.K T) c σ H1 g' (.tr (.a (.int j)) :: s) (x :: us) := E1
        cases top_a E1
        exact ⟨j, rfl, hb.1, hb.2, loopR_ok hm st sb hpo (m := ⟨g', s⟩) E1.drop hg⟩
    · cases hg
  · rename_i h1
    cases hg
    exact sa c σ H m us _ _ hm E h1 fun H1 E1 => hpo σ H1 E1
  · cases hg
theorem ms_forR2 {rp : Pos} (ha : MA X T md W [e, b] ga) (hT : MG X T md tg bd) (hB : MSs X T md W body gb) (hgl : Gl X "range") (hmg : X.mg "range" = none) (hp : PassesOwn (model X.prog X.w) X.A X.env X.xe) (hc : X.calm = true)
    (hs : starEach [e, b] X.env = [(false, eval e X.env), (false, eval b X.env)] := by rfl) (hs2 : starEach [b] X.env = [(false, eval b X.env)] := by rfl) (hf : ∀ x, foldedSetIterable (.Call (.Name "range" rp) [e, b] [] pos') X.env x = pure x := by intro _; rfl) : MS X T md W (.For tg (.Call (.Name "range" rp) [e, b] [] pos') body [] pos) (sForR2 ga bd gb) := by
  obtain ⟨ta, pa, sa⟩ := ha
  obtain ⟨tt, pt, st⟩ := hT
  obtain ⟨tb, pb, sb⟩ := hB
  refine ⟨_, ps_for hp hc (pi_range2 hgl hmg pa hs hs2) pt pb hf, fun c σ H m us D oo hm E hg hpo => ?_⟩
  simp only [sForR2] at hg
  split at hg
  · rename_i g' j i s h1
    split at hg
    · rename_i hb
      refine sa c σ H m us _ _ hm E h1 fun vs H1 hl E1 => ?_
      match vs, hl with
      | [x, y], _ =>
        have E1 : EnvOk (kcm X.K T) c σ H1 g' (.tr (.a (.int j)) :: .tr (.a (.int i)) :: s) (y :: x :: us) := E1
        cases top_a E1
        cases top_a E1.drop
        exact ⟨i, j, rfl, hb, loopR_ok hm st sb hpo (m := ⟨g', s⟩) E1.drop.drop hg⟩
    · cases hg
  · rename_i h1
    cases hg
    exact sa c σ H m us _ _ hm E h1 fun H1 E1 => hpo σ H1 E1
  · cases hg
end
/-! errors whose context is None (they are raised where nothing is handled): the names of ExcCtx in place of Exc's -/
section
variable {X : Cx} {W : WX} {E : XK}
abbrev Takes (X : Cx) (W : WX) : Prop := L2N.Takes X W
abbrev PMk := L2N.PMk
theorem passAt (tk : Takes X W) (σ : L2.St) : PassesAt (L2N.CX X.prog X.w) X σ (WE W σ) := L2N.passAt tk σ
theorem takes0 : Takes X (fun _ _ _ _ => False) := by
  rintro u s ⟨_, _, _, _, _, _, _, _, _, _, _, _, _, _, _, _, z⟩
  exact z.elim
theorem passL : Passes (L2N.CX X.prog X.w) X E0 := by
  rintro _ _ _ _ _ _ _ ⟨_, _, _, _, _, _, _, _, _, _, _, _, z⟩
  exact z.elim
theorem takes_of (hs : X.stack = X.env :: X.outer) (hf : X.env.frame = some X.env.locals) (hex : X.ex = []) {E₁ : Value → Shared → Prop} (hx : X.xe = fun e s' => wpAny (model X.prog X.w) X.A (leaving X.env e) (fun _ s'' => L2N.CX X.prog X.w X.outer X.H_0 X.s_0 E e s'') E₁ s') :
    Takes X (fun cls d _ H => E cls d H) := L2N.takes_of hs hf hex hx
theorem pmk_own {x m : Str} {j : Nat} {p p2 pos : Pos} {C : Addr} {bmB : List Value} {B newId initId : String} (F : ExcBaseFacts B newId initId bmB) (q : PySem.W.excIn X.K C bmB newId = true) (gC : X.mg x = some (.ref C)) (kC : PySem.W.keepIn X.K (.ref C) = true) (r : Raises X (.ref C)) (hg : Gl X x)
    (notDb : (x == ("__debug__" : Str)) = false := by decide) : PMk X (.Call (.Name x p) [.Constant (.str m) j p2] [] pos) (fun _ H Q => Q (.ref C) none H) := L2N.pmk_own F q gC kC r hg notDb
end
section
variable {K : KC} {X : Cx} {T : KT} {md mdc : List Bool} {W : WX} {c : Cz} {σ : St} {H H' : Hp} {Γ τ τ1 : List Ent} {us us1 vs vs' : List V} {v w : V} {p q : List Nat} {t : Tr} {ts ts' : List Tr} {k k' : Nk} {i j n d : Nat} {a : Addr} {en en' : Ent} {o : Ow}
/-! a def's promise by a function on trees -/
inductive Rt | rt (r : Tr) (ts : List Tr) | ex (C : Nat) (ts : List Tr)
abbrev GF := List Tr → Option Rt
structure Cl (H H' : Hp) (F S S' F1 : Ps) : Prop where
  ob : ∀ b ob, H b = some ob → ¬ F b → H' b = some ob
  oc : ∀ b, F b → (H' b).isSome = true
  nw : ∀ b, F1 b → (F b ∨ H b = none) ∧ ¬ S' b
  s0 : ∀ b, S b → S' b
  s1 : ∀ b, S' b → S b ∨ F b ∨ H b = none
  ss : ∀ b, S' b → (H' b).isSome = true
def PostF (K : KC) (vs : List V) (H : Hp) (F S : Ps) (Q : VK) (E : XK) : Rt → Prop
  | .rt r ts' => ∀ v H' S' F1, RepL K ⟨S', fun _ => False⟩ H' .own (r :: ts') (v :: vs) F1 → Cl H H' F S S' F1 → Q v H'
  | .ex C ts' => ∀ H' S' F1, RepL K ⟨S', fun _ => False⟩ H' .own ts' vs F1 → Cl H H' F S S' F1 → E (.ref (K.et C)) none H'
/-- only what is a parameter of its own comes back -/
def outP : List Bool → List Ent → List Tr
  | [], _ => []
  | true :: bs, e :: es => e.tree :: outP bs es
  | false :: bs, _ :: es => .any :: outP bs es
  | _ :: bs, [] => .any :: outP bs []
def mdOk : List Bool → List Tr → Bool
  | [], [] => true
  | b :: bs, t :: ts => (b || cp t) && mdOk bs ts
  | _, _ => false
def spOf (K : KC) (md : List Bool) (G : GF) : Sp := fun vs H Q E => ∃ (ts : List Tr) (Z : Zn) (F : Ps) (o : Rt), RepL K Z H .own ts vs F ∧ mdOk md ts = true ∧ (∀ b, F b → ¬ Z.fz b ∧ ¬ Z.ln b) ∧ (∀ b, Z.fz b ∨ Z.ln b → (H b).isSome = true) ∧ G ts = some o ∧ PostF K vs H F Z.fz Q E o
def runF (md : List Bool) (N : Nat) (g : GS) : GF := fun ts => match g ⟨ts.map Ent.tr ++ List.replicate (N - ts.length) .no, []⟩ with
  | some (.nx m) => if escL (outP md m.g) = true then some (.rt (.a .non) (outP md m.g)) else none
  | some (.rt t m) => if esc t = true ∧ escL (outP md m.g) = true then some (.rt t (outP md m.g)) else none
  | some (.ex C g') => if escL (outP md g') = true then some (.ex C (outP md g')) else none
  | _ => none
mutual
theorem Rep.esc0 {Z : Zn} {H : Hp} : ∀ (t : Tr) {m : Ow} {v : V} {Φ : Ps}, Rep K Z H m t v Φ → m ≠ .lnt → (m = .own → esc t = true) → Rep K ⟨Z.fz, fun _ => False⟩ H m t v Φ
  | .any, _, _, _, h, _, _ => h
  | .a _, _, _, _, h, _, _ => h
  | .nd k o ts, m, v, Φ, h, hm, he => by
    obtain ⟨a, vs, Ψ, e1, ho, hl, hn⟩ := h
    have nl : eff m o ≠ .lnt := by
      cases m with
      | lnt => exact absurd rfl hm
      | frz => simp [eff]
      | own =>
        have := he rfl
        cases k <;> cases o <;> simp_all [esc, eff]
    refine ⟨a, vs, Ψ, e1, ho, RepL.esc0 ts hl nl fun q => ?_, ?_⟩
    · cases m with
      | lnt => exact absurd rfl hm
      | frz => simp [eff] at q
      | own =>
        have := he rfl
        cases k <;> cases o <;> simp_all [esc, eff, Nod]
    · cases k <;> cases eo : eff m o <;> simp_all [Nod]
theorem RepL.esc0 {Z : Zn} {H : Hp} : ∀ (ts : List Tr) {m : Ow} {vs : List V} {Φ : Ps}, RepL K Z H m ts vs Φ → m ≠ .lnt → (m = .own → escL ts = true) → RepL K ⟨Z.fz, fun _ => False⟩ H m ts vs Φ
  | [], _, _, _, h, _, _ => h
  | t :: ts, m, vs, Φ, h, hm, he => by
    obtain ⟨v', vs', Φ1, Φ2, e1, h1, h2, d1, u⟩ := h
    exact ⟨v', vs', Φ1, Φ2, e1, Rep.esc0 t h1 hm (fun q => by have := he q; simp_all [escL]), RepL.esc0 ts h2 hm (fun q => by have := he q; simp_all [escL]), d1, u⟩
end
theorem outP_ok {Z : Zn} {H : Hp} : ∀ {md : List Bool} {Γ : List Ent} {ws vs : List V} {Φ : Ps}, RepL K Z H .own (trees Γ) ws Φ → vs.length = md.length → (∀ i : Nat, md[i]? = some true → ws[i]? = vs[i]?) → ∃ Φ', RepL K Z H .own (outP md Γ) vs Φ' ∧ ∀ b, Φ' b → Φ b
  | [], Γ, ws, vs, Φ, h, l, _ => by
    match vs, l with
    | [], _ => exact ⟨fun _ => False, ⟨rfl, fun _ h => h⟩, fun _ h => h.elim⟩
  | b :: md, [], ws, vs, Φ, h, l, e => by
    match vs, l with
    | x :: vs, l =>
      obtain ⟨Φ', r, s⟩ := outP_ok (md := md) (Γ := []) (ws := []) (vs := vs) (Φ := fun _ => False) ⟨rfl, fun _ h => h⟩ (by simpa using l) (fun i hi => by
        have := e (i + 1) (by simpa using hi)
        rw [h.1] at this
        simpa using this)
      have hb : outP (b :: md) [] = .any :: outP md [] := by cases b <;> rfl
      rw [hb]
      exact ⟨Φ', ⟨x, vs, fun _ => False, Φ', rfl, fun _ h => h, r, by simp, by simp⟩, fun b q => (s b q).elim⟩
  | b :: md, en :: Γ, ws, vs, Φ, h, l, e => by
    match vs, l with
    | x :: vs, l =>
      obtain ⟨v0, ws', Φ1, Φ2, e1, h1, h2, d, u⟩ := h
      subst e1
      obtain ⟨Φ', r, s⟩ := outP_ok (md := md) (Γ := Γ) (ws := ws') (vs := vs) h2 (by simpa using l) (fun i hi => by simpa using e (i + 1) (by simpa using hi))
      cases b with
      | false => exact ⟨Φ', ⟨x, vs, fun _ => False, Φ', rfl, fun _ h => h, r, by simp, by simp⟩, fun b q => (u b).mpr (.inr (s b q))⟩
      | true =>
        have : v0 = x := by simpa using e 0 rfl
        subst this
        exact ⟨fun b => Φ1 b ∨ Φ' b, ⟨v0, vs, Φ1, Φ', rfl, h1, r, by grind, fun _ => Iff.rfl⟩, by grind⟩
theorem mdOk_len : ∀ {md : List Bool} {ts : List Tr}, mdOk md ts = true → md.length = ts.length
  | [], [], _ => rfl
  | b :: bs, t :: ts, h => by
    simp only [mdOk, Bool.and_eq_true] at h
    simp [mdOk_len h.2]
  | [], _ :: _, h => by simp [mdOk] at h
  | _ :: _, [], h => by simp [mdOk] at h
theorem RepL.anys : ∀ (n : Nat) {Z : Zn} {H : Hp}, RepL K Z H .own (List.replicate n .any) (List.replicate n .non) (fun _ => False)
  | 0, _, _ => ⟨rfl, fun _ h => h⟩
  | n + 1, _, _ => ⟨.non, _, fun _ => False, fun _ => False, rfl, fun _ h => h, RepL.anys n, by simp, by simp⟩
theorem start_ok {N : List Str} {Z : Zn} {F : Ps} (r : RepL K Z H .own ts vs F) (hl : ts.length ≤ N.length) (hmd : md.length = ts.length) (zo : ∀ b, F b → ¬ Z.fz b ∧ ¬ Z.ln b) (zs : ∀ b, Z.fz b ∨ Z.ln b → (H b).isSome = true) :
    EnvOk K ⟨H, F, Z.fz, md, vs⟩ (start N vs) H (ts.map Ent.tr ++ List.replicate (N.length - ts.length) .no) [] [] := by
  have lt := RepL.len _ r
  have es : start N vs = vs.map some ++ List.replicate (N.length - vs.length) none := by
    first | rfl | (unfold start; rfl) | (unfold start; simp)
  refine ⟨Z, vs ++ List.replicate (N.length - ts.length) .non, F, fun _ => False, ⟨?_, ⟨rfl, fun _ h => h⟩, by simp, ?_, by simp, ?_, ?_, fun b q => .inl q, fun b q => q, zs, fun b o e => ⟨o, e, fun _ => rfl⟩, ?_⟩⟩
  · have := RepL.append _ r (RepL.anys (K := K) (Z := Z) (H := H) (N.length - ts.length)) (by simp)
    have et : trees (ts.map Ent.tr ++ List.replicate (N.length - ts.length) .no) = ts ++ List.replicate (N.length - ts.length) .any := by
      have := trees_tr (ts := ts)
      simp only [trees, List.map_append, List.map_replicate] at this ⊢
      rw [this]
      rfl
    rw [et]
    exact this.cast _ (by simp)
  · intro i e he
    by_cases hi : i < ts.length
    · rw [List.getElem?_append_left (by simpa using hi)] at he
      have : ∃ t, e = .tr t := by
        simp at he
        obtain ⟨_, _, he⟩ := he
        exact ⟨_, he.symm⟩
      obtain ⟨t, rfl⟩ := this
      have hiv : i < vs.length := by omega
      refine ⟨vs[i], by rw [List.getElem?_append_left hiv, List.getElem?_eq_getElem hiv], ?_⟩
      rw [es, List.getElem?_append_left (by simpa using hiv)]
      simp [hiv]
    · rw [List.getElem?_append_right (by simpa using hi)] at he
      have := List.mem_of_getElem? he
      simp at this
      rw [this.2]
      trivial
  · rw [es]
    simp
    omega
  · intro b q
    rcases q with q | q
    · exact ⟨.inl q, zo b q⟩
    · exact q.elim
  · intro i hi
    have h1 : i < md.length := getq_lt' hi
    rw [List.getElem?_append_left (by omega)]
theorem exit_ok {Z0 : Zn} {F : Ps} {s : List Ent} (hF : ∀ b, F b → (H b).isSome = true) (hmd : md.length = vs.length) (E : EnvOk K ⟨H, F, Z0.fz, md, vs⟩ σ H' Γ s us) (he : escL (trees s) = true) (ho : escL (outP md Γ) = true) : ∃ S' F1, RepL K ⟨S', fun _ => False⟩ H' .own (trees s ++ outP md Γ) (us ++ vs) F1 ∧ Cl H H' F Z0.fz S' F1 := by
  obtain ⟨Z, ws, Φ, Ψ, sl, tm, dj, so, to, ln, zo, zf, z0, zs, st, pv⟩ := E
  obtain ⟨Φ', r, sub⟩ := outP_ok (md := md) (vs := vs) sl hmd.symm pv
  have r1 := RepL.esc0 _ r (by simp) fun _ => ho
  have r2 := RepL.esc0 _ tm (by simp) fun _ => he
  have hs1 := RepL.isS _ sl
  have hs2 := RepL.isS _ tm
  refine ⟨Z.fz, fun b => Ψ b ∨ Φ' b, RepL.append _ r2 r1 (by grind), ⟨fun b ob e n => ?_, fun b q => ?_, fun b q => ?_, z0, fun b q => zf b q, fun b q => zs b (.inl q)⟩⟩
  · obtain ⟨o', e', h⟩ := st b ob e
    rw [e', h n]
  · obtain ⟨ob, e⟩ := Option.isSome_iff_exists.mp (hF b q)
    obtain ⟨o', e', _⟩ := st b ob e
    rw [e']; rfl
  · have h := zo b (by grind)
    exact ⟨h.1, h.2.1⟩
variable {P : Program} {Wd : World} {Kf : PySem.W.Frag} {mg : Str → Option Value} {base : Heap}
/-- a def whose body is a term of the machine -/
theorem fn_sim {x qual : Str} {st : Stmt} {f : Addr} {fd : FuncData} {N ps : List Str} {k : Nat} {g : GS} (F : Fun Kf x qual st f fd) (S : FnScope N ps (defScope st)) (hps : ps.length = md.length) (hN : ps.length ≤ N.length)
    (body : ∀ (cdv : Value) (A : Around) (outer : List Env) (s : Shared) (H : Hp) (E : XK), Room k (A.deeper (PyProof.Rows.envOfC qual (defScope st) s.heap.objs.size f cdv)) →
      MSs (cxOf (L2N.CX P Wd) P Wd Kf mg base N qual (defScope st) f cdv A outer s H E) T md (fun cls d _ H => E cls d H) (defBody st) g) :
    FnOk P Wd Kf mg base (L2N.CX P Wd) (k + 1) f fd ps (spOf (kcm Kf T) md (runF md N.length g)) := by
  obtain ⟨oc, od, kV, doc, pm, an, cdv, ct, osl, rfl, inK, cdOk⟩ := F.ex
  refine fn_of inK cdOk S (fun vs H Q E h => ?_) (fun A outer s H vs Q E hr h => ?_)
  · obtain ⟨ts, Z, F, o, r, hm, _⟩ := h
    have h1 := RepL.len _ r
    have h2 := mdOk_len hm
    omega
  · obtain ⟨ts, Z, F, o, r, hm, zo, zs, hG, hp⟩ := h
    have h1 := RepL.len _ r
    have h2 := mdOk_len hm
    obtain ⟨t, pt, sim⟩ := body cdv A outer s H E hr
    refine ⟨t, pt, ?_⟩
    have E0 := start_ok (K := kcm Kf T) (N := N) (md := md) r (by omega) h2 zo zs
    simp only [runF] at hG
    cases hg : g ⟨ts.map Ent.tr ++ List.replicate (N.length - ts.length) .no, []⟩ with
    | none => simp [hg] at hG
    | some oo =>
      refine sim ⟨H, F, Z.fz, md, vs⟩ (start N vs) H ⟨ts.map Ent.tr ++ List.replicate (N.length - ts.length) Ent.no, []⟩ [] _ oo rfl E0 hg ?_
      cases oo with
      | nx m =>
        simp only [hg] at hG
        split at hG
        · rename_i he
          cases hG
          intro σ' H' E1
          have hnil : m.s = [] := by have := tail_len E1; simpa using this
          rw [hnil] at E1
          obtain ⟨S', F1, r1, cl⟩ := exit_ok (RepL.isS _ r) (by omega) (E1.atom .non) (by simp [escL, esc, Ent.tree]) he
          exact hp .non H' S' F1 r1 cl
        · cases hG
      | rt tt m =>
        simp only [hg] at hG
        split at hG
        · rename_i he
          cases hG
          intro σ' v H' E1
          have hnil : m.s = [] := by have := tail_len E1; simpa using this
          rw [hnil] at E1
          obtain ⟨S', F1, r1, cl⟩ := exit_ok (RepL.isS _ r) (by omega) E1 (by simp [escL, Ent.tree, he.1]) he.2
          exact hp v H' S' F1 r1 cl
        · cases hG
      | ex C g' =>
        simp only [hg] at hG
        split at hG
        · rename_i he
          cases hG
          intro σ' H' E1
          obtain ⟨S', F1, r1, cl⟩ := exit_ok (RepL.isS _ r) (by omega) E1 (by simp [escL]) he
          exact hp H' S' F1 r1 cl
        · cases hG
      | bk m => simp [hg] at hG
      | ct m => simp [hg] at hG
end
section
variable {K : KC} {X : Cx} {T : KT} {md mdc : List Bool} {W : WX} {c : Cz} {σ : St} {H H' : Hp} {Γ τ τ1 A B P : List Ent} {us us1 vs vs' va vb vp : List V} {v w : V} {p q : List Nat} {t : Tr} {ts ts' : List Tr} {k k' : Nk} {i j n d : Nat} {a : Addr} {en en' : Ent} {o : Ow} {Z : Zn} {ws : List V} {Φ Ψ : Ps} {G : GF}
def argT (Γ : List Ent) : List Bool → List Ent → Option (List Tr)
  | [], [] => some []
  | true :: bs, .tr t :: es => match argT Γ bs es with
    | some ts => some (t :: ts)
    | none => none
  | false :: bs, e :: es => match viewE Γ e with
    | some t => if cp (kid .lnt t) = true then match argT Γ bs es with
        | some ts => some (kid .lnt t :: ts)
        | none => none
      else none
    | none => none
  | _, _ => none
theorem argT_ok : ∀ {mdc : List Bool} {ents : List Ent} {vs : List V} {Ψa : Ps} {ts : List Tr}, RepL K Z H .own (trees ents) vs Ψa → (∀ (i : Nat) (p : List Nat) (v : V) (t : Tr), ents[i]? = some (.al p) → vs[i]? = some v → getG Γ p = some t → ∃ Θ, Rep K Z H .own t v Θ ∧ ∀ b, Θ b → Φ b) →
    argT Γ mdc ents = some ts → mdOk mdc ts = true ∧ ∃ F R : Ps, (∀ b, Ψa b ↔ F b ∨ R b) ∧ (∀ b, ¬ (F b ∧ R b)) ∧ ∀ Zc : Zn, (∀ b, Z.fz b → Zc.fz b) → (∀ b, Z.ln b ∨ R b ∨ Φ b → Zc.ln b) → RepL K Zc H .own ts vs F
  | [], [], vs, Ψa, ts, r, _, h => by
    simp only [argT] at h
    cases h
    exact ⟨rfl, fun _ => False, fun _ => False, fun b => ⟨fun q => (r.2 b q).elim, fun q => by simp at q⟩, by simp, fun Zc _ _ => ⟨r.1, fun _ h => h⟩⟩
  | [], _ :: _, _, _, _, _, _, h => by simp [argT] at h
  | true :: bs, [], _, _, _, _, _, h => by simp [argT] at h
  | false :: bs, [], _, _, _, _, _, h => by simp [argT] at h
  | true :: bs, e :: es, vs, Ψa, ts, r, hv, h => by
    obtain ⟨v, vs', Φ1, Φ2, e1, h1, h2, d, u⟩ := r
    subst e1
    cases e with
    | no => simp [argT] at h
    | al _ => simp [argT] at h
    | tr t =>
      simp only [argT] at h
      split at h
      · rename_i ts' h3
        cases h
        obtain ⟨m1, F, R, u2, d2, bld⟩ := argT_ok (mdc := bs) (ents := es) (vs := vs') h2 (fun i p v t a b => hv (i + 1) p v t (by simpa using a) (by simpa using b)) h3
        refine ⟨by simp [mdOk, m1], fun b => Φ1 b ∨ F b, R, by grind, by grind, fun Zc hf hl => ⟨v, vs', Φ1, F, rfl, Rep.fr t h1 ⟨hf, fun b q => hl b (.inl q), fun b o _ e => e, fun _ _ h => h⟩, bld Zc hf hl, by grind, fun _ => Iff.rfl⟩⟩
      · cases h
  | false :: bs, e :: es, vs, Ψa, ts, r, hv, h => by
    obtain ⟨v, vs', Φ1, Φ2, e1, h1, h2, d, u⟩ := r
    subst e1
    simp only [argT] at h
    split at h
    · rename_i t ht
      split at h
      · rename_i hc
        split at h
        · rename_i ts' h3
          cases h
          obtain ⟨m1, F, R, u2, d2, bld⟩ := argT_ok (mdc := bs) (ents := es) (vs := vs') h2 (fun i p v t a b => hv (i + 1) p v t (by simpa using a) (by simpa using b)) h3
          have vw : ∃ Θ, Rep K Z H .own t v Θ ∧ ∀ b, Θ b → Φ b ∨ Φ1 b := by
            cases e with
            | no => simp [viewE] at ht
            | tr x =>
              simp only [viewE] at ht
              cases ht
              exact ⟨Φ1, h1, fun b q => .inr q⟩
            | al p =>
              obtain ⟨Θ, z1, z2⟩ := hv 0 p v t rfl rfl ht
              exact ⟨Θ, z1, fun b q => .inl (z2 b q)⟩
          obtain ⟨Θ, z1, z2⟩ := vw
          refine ⟨by simp [mdOk, m1, hc], F, fun b => Φ1 b ∨ R b, by grind, by grind, fun Zc hf hl => ⟨v, vs', fun _ => False, F, rfl, rep_kid.mpr (Rep.lend (m := .own) t z1 hf fun b q => hl b (by grind)), bld Zc hf (fun b q => hl b (by grind)), by simp, by simp⟩⟩
        · cases h
      · cases h
    · cases h
theorem call_ok {ents s : List Ent} {G : GF} {o : Rt} {Q : VK} {E : XK} (EE : Ev K c Z ws Φ Ψ σ H Γ (ents.reverse ++ s) (vs.reverse ++ us)) (l : ents.length = vs.length) (h : argT Γ mdc ents = some ts) (hG : G ts = some o)
    (post : match o with
      | .rt r ts' => ∀ v H', ts'.length = vs.length → EnvOk K c σ H' Γ (.tr r :: (ts'.map .tr ++ s)) (v :: (vs ++ us)) → Q v H'
      | .ex C ts' => ∀ H', ts'.length = vs.length → EnvOk K c σ H' Γ (ts'.map .tr ++ s) (vs ++ us) → E (.ref (K.et C)) none H') : spOf K mdc G vs H Q E := by
  have tm' : RepL K Z H .own (trees ents.reverse ++ trees s) (vs.reverse ++ us) Ψ := by simpa [trees] using EE.tm
  obtain ⟨v1, v2, Ψ1, Ψ2, e, r1, r2, d, u⟩ := RepL.split _ tm'
  have hl1 := RepL.len _ r1
  have hlt : (trees ents.reverse).length = ents.length := by simp [trees]
  obtain ⟨rfl, rfl⟩ := List.append_inj e (by simp; omega)
  have r0 : RepL K Z H .own (trees ents) vs Ψ1 := by
    have := RepL.reverse _ r1
    have e2 : (trees ents.reverse).reverse = trees ents := by simp [trees]
    rwa [e2, List.reverse_reverse] at this
  obtain ⟨m1, F, R, u2, d2, bld⟩ := argT_ok (Φ := Φ) (Γ := Γ) r0 (fun i p v t a b g => by
    have hi : i < ents.length := getq_lt' a
    have a' : (ents.reverse ++ s)[ents.length - 1 - i]? = some (.al p) := by
      rw [List.getElem?_append_left (by simp; omega), List.getElem?_reverse (by omega), show ents.length - 1 - (ents.length - 1 - i) = i by omega]
      exact a
    obtain ⟨w, b', raw, gs⟩ := EE.to _ p a'
    rw [List.getElem?_append_left (by simp; omega), List.getElem?_reverse (by omega), show vs.length - 1 - (ents.length - 1 - i) = i by omega, b] at b'
    cases b'
    obtain ⟨w', Φ1, Φ2, raw', r, _, uu, _⟩ := RepL.path EE.sl (p := p) (t := t) (by rw [getG_getP gs]; exact g)
    cases raw.fn raw'
    exact ⟨Φ1, r, fun b q => (uu b).mpr (.inl q)⟩) h
  have hsF := RepL.isS _ EE.sl
  have hsT := RepL.isS _ EE.tm
  refine ⟨ts, ⟨Z.fz, fun b => Z.ln b ∨ R b ∨ Φ b⟩, F, o, bld _ (fun _ h => h) (fun _ h => h), m1, fun b q => ?_, fun b q => ?_, hG, ?_⟩
  · have h1 := EE.zo b (.inr ((u b).mpr (.inl ((u2 b).mpr (.inl q)))))
    refine ⟨h1.2.1, fun z => ?_⟩
    rcases z with z | z | z
    · exact h1.2.2 z
    · exact d2 b ⟨q, z⟩
    · exact EE.dj b ⟨z, (u b).mpr (.inl ((u2 b).mpr (.inl q)))⟩
  · rcases q with q | q | q | q
    · exact EE.zs b (.inl q)
    · exact EE.zs b (.inr q)
    · exact hsT b ((u b).mpr (.inl ((u2 b).mpr (.inr q))))
    · exact hsF b q
  · have chg : ∀ {H' : Hp} {S' F1 : Ps}, Cl H H' F Z.fz S' F1 → Chg Z ⟨S', Z.ln⟩ H H' Ψ1 F1 := fun {H' S' F1} cl => by
      have zF : ∀ b, F b → ¬ Z.fz b ∧ ¬ Z.ln b := fun b q => (EE.zo b (.inr ((u b).mpr (.inl ((u2 b).mpr (.inl q)))))).2
      refine ⟨cl.s0, fun _ h => h, fun b q => ?_, fun b q => .inl q, fun b q => ?_, fun b ob e n => cl.ob b ob e (fun q => n ((u2 b).mpr (.inl q))), fun b q => ?_, fun b q => ?_⟩
      · rcases cl.s1 b q with z | z | z
        · exact .inl z
        · exact .inr (.inl ((u2 b).mpr (.inl z)))
        · exact .inr (.inr z)
      · rcases q with q | q
        · exact cl.ss b q
        · obtain ⟨ob, e⟩ := Option.isSome_iff_exists.mp (EE.zs b (.inr q))
          rw [cl.ob b ob e fun z => (zF b z).2 q]
          rfl
      · by_cases z : F b
        · exact cl.oc b z
        · obtain ⟨ob, e⟩ := Option.isSome_iff_exists.mp (hsT b ((u b).mpr (.inl q)))
          rw [cl.ob b ob e z]
          rfl
      · have h1 := cl.nw b q
        refine ⟨h1.1.imp (fun z => (u2 b).mpr (.inl z)) id, h1.2, fun z => ?_⟩
        rcases h1.1 with y | y
        · exact (zF b y).2 z
        · have := EE.zs b (.inr z)
          rw [y] at this
          cases this
    have mono : ∀ {H' : Hp} {S' F1 : Ps} {xs : List Tr} {ys : List V}, RepL K ⟨S', fun _ => False⟩ H' .own xs ys F1 → RepL K ⟨S', Z.ln⟩ H' .own xs ys F1 := fun {H' S' F1 xs ys} r => RepL.fr _ r ⟨fun _ h => h, fun _ h => h.elim, fun _ _ _ h => h, fun _ _ h => h⟩
    cases o with
    | rt r ts' =>
      intro v H' S' F1 rr cl
      have hlen : ts'.length = vs.length := by have := RepL.len _ rr; simpa using this
      refine post v H' hlen ?_
      exact EE.swapX (τ1' := .tr r :: ts'.map .tr) (us1' := v :: vs) (by simp; omega) (by simp) r1 r2 d u (by
        have := mono rr
        have et : trees (.tr r :: ts'.map .tr) = r :: ts' := by
          have := trees_tr (ts := ts')
          simp only [trees, List.map_cons] at this ⊢
          rw [this]
          rfl
        rw [et]
        exact this) (chg cl) (by simp [hlen])
    | ex C ts' =>
      intro H' S' F1 rr cl
      have hlen : ts'.length = vs.length := by have := RepL.len _ rr; simpa using this
      refine post H' hlen ?_
      exact EE.swapX (τ1' := ts'.map .tr) (us1' := vs) (by simp; omega) (by simp) r1 r2 d u (by rw [trees_tr]; exact mono rr) (chg cl) (by simp [hlen])
theorem EnvOk.permM (lp : P.length = vp.length) (la : A.length = va.length) (lb : B.length = vb.length) (E : EnvOk K c σ H Γ (P ++ (A ++ (B ++ τ))) (vp ++ (va ++ (vb ++ us)))) : EnvOk K c σ H Γ (P ++ (B ++ (A ++ τ))) (vp ++ (vb ++ (va ++ us))) := by
  have lt : τ.length = us.length := by
    have := tail_len E
    simp at this
    omega
  have h := EnvOk.perm (K := K) (c := c) (σ := σ) (H := H) (Γ := Γ) (l := P.zip vp ++ (A.zip va ++ (B.zip vb ++ τ.zip us))) (l' := P.zip vp ++ (B.zip vb ++ (A.zip va ++ τ.zip us))) (by
    refine List.Perm.append_left _ ?_
    rw [← List.append_assoc, ← List.append_assoc]
    exact List.Perm.append_right _ List.perm_append_comm)
  simp only [List.map_append, List.map_fst_zip (Nat.le_of_eq lp), List.map_snd_zip (Nat.le_of_eq lp.symm), List.map_fst_zip (Nat.le_of_eq la), List.map_snd_zip (Nat.le_of_eq la.symm), List.map_fst_zip (Nat.le_of_eq lb), List.map_snd_zip (Nat.le_of_eq lb.symm), List.map_fst_zip (Nat.le_of_eq lt), List.map_snd_zip (Nat.le_of_eq lt.symm)] at h
  exact h E
end
section
variable {K : KC} {X : Cx} {T : KT} {md mdc : List Bool} {W : WX} {c : Cz} {σ : St} {H H' : Hp} {Γ τ τ1 A B P : List Ent} {us us1 vs vs' va vb vp : List V} {v w : V} {p q : List Nat} {t : Tr} {ts ts' : List Tr} {k k' : Nk} {i j n d h : Nat} {a : Addr} {en en' : Ent} {o : Ow} {Z : Zn} {ws : List V} {Φ Ψ : Ps} {G : GF} {m m' : Ms}
/-- an own argument at depth d of n is taken out of its place; the place is kept below the arguments -/
def extAt (d n : Nat) (m : Ms) : Option Ms := match m.s[d]? with
  | some (.al p) => match getG m.g p with
    | some t => some ⟨kill p (setG m.g p .any), (kill p (m.s.eraseIdx d)).take d ++ .tr t :: (((kill p (m.s.eraseIdx d)).drop d).take (n - 1 - d) ++ .al p :: (kill p (m.s.eraseIdx d)).drop (n - 1))⟩
    | none => none
  | some (.tr _) => some ⟨m.g, m.s.take n ++ .no :: m.s.drop n⟩
  | _ => none
theorem split_at {α : Type} {l : List α} {d : Nat} {x : α} (h : l[d]? = some x) : l = l.take d ++ ([x] ++ l.drop (d + 1)) := by
  have hlt := getq_lt' h
  have e := (List.getElem?_eq_some_iff.mp h).2
  have h1 : l.drop d = [x] ++ l.drop (d + 1) := by rw [List.drop_eq_getElem_cons hlt, e]; rfl
  rw [← h1, List.take_append_drop]
theorem erase_split {α : Type} {l : List α} {d : Nat} : l.eraseIdx d = l.take d ++ l.drop (d + 1) := List.eraseIdx_eq_take_drop_succ _ _
theorem EnvOk.pushNo (E : EnvOk K c σ H Γ τ us) (v : V) : EnvOk K c σ H Γ (.no :: τ) (v :: us) := by
  obtain ⟨Z, ws, Φ, Ψ, EE⟩ := E
  exact EE.swap (τ1 := []) (us1 := []) (τ1' := [.no]) (us1' := [v]) (Ψ1' := fun _ => False) rfl (by simp) (fun Ψ1 r => ⟨⟨v, [], fun _ => False, fun _ => False, rfl, fun _ h => h, ⟨rfl, fun _ h => h⟩, by simp, by simp⟩, .same _ _ _ EE.zs (fun b q => RepL.isS _ r b q) _ (by simp)⟩) rfl
theorem extAt_ok (E : EnvOk K c σ H m.g m.s us) (hd : d < n) (hn : n ≤ us.length) (h : extAt d n m = some m') : ∃ w, us[d]? = some w ∧ EnvOk K c σ H m'.g m'.s (us.take n ++ w :: us.drop n) := by
  have hl := tail_len E
  have hdu : d < us.length := by omega
  refine ⟨us[d], List.getElem?_eq_getElem hdu, ?_⟩
  have eu := split_at (List.getElem?_eq_getElem hdu)
  unfold extAt at h
  split at h
  · rename_i p hp
    split at h
    · rename_i t ht
      cases h
      have es := split_at hp
      have E1 : EnvOk K c σ H m.g (m.s.take d ++ ([.al p] ++ m.s.drop (d + 1))) (us.take d ++ ([us[d]] ++ us.drop (d + 1))) := by rw [← es, ← eu]; exact E
      have E2 := EnvOk.permA (by simp; omega) rfl E1
      rw [← erase_split, ← erase_split] at E2
      have E3 := EnvOk.ext (p := p) (t := t) (τ := m.s.eraseIdx d) (us := us.eraseIdx d) E2 ht
      -- lengths
      generalize hs' : kill p (m.s.eraseIdx d) = s' at *
      generalize hu' : us.eraseIdx d = u' at *
      have ls : s'.length = m.s.length - 1 := by rw [← hs']; simp [kill, List.length_eraseIdx]; omega
      have lu : u'.length = us.length - 1 := by rw [← hu', List.length_eraseIdx]; simp; omega
      have sp : ∀ {α : Type} (l : List α), l = l.take d ++ ((l.drop d).take (n - 1 - d) ++ l.drop (n - 1)) := fun l => by
        have : l.drop (n - 1) = (l.drop d).drop (n - 1 - d) := by rw [List.drop_drop]; congr 1; omega
        rw [this, List.take_append_drop, List.take_append_drop]
      have E4 : EnvOk K c σ H (kill p (setG m.g p .any)) ([.tr t] ++ ([.al p] ++ ((s'.take d ++ (s'.drop d).take (n - 1 - d)) ++ s'.drop (n - 1)))) ([us[d]] ++ ([us[d]] ++ ((u'.take d ++ (u'.drop d).take (n - 1 - d)) ++ u'.drop (n - 1)))) := by
        rw [List.append_assoc (s'.take d), List.append_assoc (u'.take d), ← sp s', ← sp u']
        exact E3
      have E5 := EnvOk.permM (P := [.tr t]) (vp := [us[d]]) rfl rfl (by simp; omega) E4
      rw [List.append_assoc (s'.take d), List.append_assoc (u'.take d)] at E5
      have E6 := EnvOk.permA (A := [.tr t]) (va := [us[d]]) rfl (by simp; omega) E5
      have ev : us.take n ++ us[d] :: us.drop n = u'.take d ++ ([us[d]] ++ ((u'.drop d).take (n - 1 - d) ++ ([us[d]] ++ u'.drop (n - 1)))) := by
        have h1 : u'.take d = us.take d := by rw [← hu', erase_split, List.take_append_of_le_length (by simp; omega), List.take_take]; simp
        have h2 : u'.drop d = us.drop (d + 1) := by
          rw [← hu', erase_split, List.drop_append]
          have : (us.take d).length = d := by simp; omega
          rw [this]
          simp
        have h3 : u'.drop (n - 1) = us.drop n := by
          have : u'.drop (n - 1) = (u'.drop d).drop (n - 1 - d) := by rw [List.drop_drop]; congr 1; omega
          rw [this, h2, List.drop_drop]
          congr 1
          omega
        have h4 : us.take n = us.take d ++ ([us[d]] ++ (us.drop (d + 1)).take (n - 1 - d)) := by
          have : n = d + (1 + (n - 1 - d)) := by omega
          conv => lhs; rw [this, List.take_add]
          congr 1
          rw [List.drop_eq_getElem_cons hdu, Nat.add_comm 1, List.take_succ_cons]
          rfl
        rw [h1, h2, h3, h4]
        simp
      rw [ev]
      exact E6
    · cases h
  · cases h
    have E1 := E.pushNo us[d]
    have E2 : EnvOk K c σ H m.g ([.no] ++ (m.s.take n ++ m.s.drop n)) ([us[d]] ++ (us.take n ++ us.drop n)) := by rw [List.take_append_drop, List.take_append_drop]; exact E1
    exact EnvOk.permA (A := [.no]) (va := [us[d]]) rfl (by simp; omega) E2
  · cases h
/-- behind the call: what came back at index i of n goes to its place; h things lie above -/
def resAt (h i n : Nat) (m : Ms) : Option Ms := match m.s[h + i]?, m.s[h + n]? with
  | some (.tr t), some (.al p) => match getG m.g p with
    | some .any => if esc t = true then some ⟨setG m.g p t, (m.s.eraseIdx (h + n)).eraseIdx (h + i)⟩ else none
    | _ => none
  | some (.tr _), some .no => some ⟨m.g, (m.s.eraseIdx (h + n)).eraseIdx (h + i)⟩
  | _, _ => none
theorem two_split {α : Type} {l : List α} {x y : Nat} {a b : α} (hx : l[x]? = some a) (hy : l[y]? = some b) (hxy : x < y) : l = l.take x ++ ([a] ++ ((l.drop (x + 1)).take (y - x - 1) ++ ([b] ++ l.drop (y + 1)))) ∧ (l.eraseIdx y).eraseIdx x = l.take x ++ ((l.drop (x + 1)).take (y - x - 1) ++ l.drop (y + 1)) := by
  have h1 := split_at hx
  have hyl := getq_lt' hy
  have h2 : (l.drop (x + 1))[y - x - 1]? = some b := by rw [List.getElem?_drop, show x + 1 + (y - x - 1) = y by omega]; exact hy
  have h3 := split_at h2
  have h4 : (l.drop (x + 1)).drop (y - x - 1 + 1) = l.drop (y + 1) := by rw [List.drop_drop]; congr 1; omega
  rw [h4] at h3
  refine ⟨by rw [← h3]; exact h1, ?_⟩
  rw [erase_split (l := l.eraseIdx y)]
  have e1 : (l.eraseIdx y).take x = l.take x := by rw [erase_split, List.take_append_of_le_length (by simp; omega), List.take_take]; congr 1; omega
  have e2 : (l.eraseIdx y).drop (x + 1) = (l.drop (x + 1)).take (y - x - 1) ++ l.drop (y + 1) := by
    rw [erase_split, List.drop_append]
    have hlen : (l.take y).length = y := by simp; omega
    rw [hlen, show x + 1 - y = 0 by omega, List.drop_zero]
    congr 1
    rw [List.drop_take]
    congr 1
  rw [e1, e2]
theorem resAt_ok (E : EnvOk K c σ H m.g m.s us) (hi : i < n) (hu : us[h + i]? = us[h + n]?) (hh : resAt h i n m = some m') : EnvOk K c σ H m'.g m'.s ((us.eraseIdx (h + n)).eraseIdx (h + i)) := by
  have hl := tail_len E
  unfold resAt at hh
  split at hh
  · rename_i t p h1 h2
    split at hh
    · rename_i hg
      split at hh
      · rename_i he
        cases hh
        have hlt := getq_lt' h2
        have hlt1 := getq_lt' h1
        obtain ⟨w, hw⟩ : ∃ w, us[h + n]? = some w := ⟨_, List.getElem?_eq_getElem (by omega)⟩
        have hw2 : us[h + i]? = some w := by rw [hu]; exact hw
        obtain ⟨s1, s2⟩ := two_split h1 h2 (by omega)
        obtain ⟨u1, u2⟩ := two_split hw2 hw (by omega)
        rw [s1, u1] at E
        have E1 := EnvOk.permA (A := m.s.take (h + i)) (B := [.tr t]) (va := us.take (h + i)) (vb := [w]) (by simp; omega) rfl E
        have E2 := EnvOk.permM (P := [.tr t]) (vp := [w]) (A := m.s.take (h + i) ++ (m.s.drop (h + i + 1)).take (h + n - (h + i) - 1)) (va := us.take (h + i) ++ (us.drop (h + i + 1)).take (h + n - (h + i) - 1)) (B := [.al p]) (vb := [w]) rfl (by simp; omega) rfl (by simpa [List.append_assoc] using E1)
        have E3 := (EnvOk.back E2 hg he).drop
        rw [s2, u2]
        simpa [List.append_assoc] using E3
      · cases hh
    · cases hh
  · rename_i t h1 h2
    cases hh
    have hlt := getq_lt' h2
    have hlt1 := getq_lt' h1
    obtain ⟨w, hw⟩ : ∃ w, us[h + n]? = some w := ⟨_, List.getElem?_eq_getElem (by omega)⟩
    have hw2 : us[h + i]? = some w := by rw [hu]; exact hw
    obtain ⟨s1, s2⟩ := two_split h1 h2 (by omega)
    obtain ⟨u1, u2⟩ := two_split hw2 hw (by omega)
    rw [s1, u1] at E
    have E1 := EnvOk.permA (A := m.s.take (h + i)) (B := [.tr t]) (va := us.take (h + i)) (vb := [w]) (by simp; omega) rfl E
    have E2 := EnvOk.permM (P := [.tr t]) (vp := [w]) (A := m.s.take (h + i) ++ (m.s.drop (h + i + 1)).take (h + n - (h + i) - 1)) (va := us.take (h + i) ++ (us.drop (h + i + 1)).take (h + n - (h + i) - 1)) (B := [.no]) (vb := [w]) rfl (by simp; omega) rfl (by simpa [List.append_assoc] using E1)
    have E3 := E2.drop.drop
    rw [s2, u2]
    simpa [List.append_assoc] using E3
  · cases hh
end
section
variable {K : KC} {X : Cx} {T : KT} {md mdc : List Bool} {W : WX} {c : Cz} {σ : St} {H H' : Hp} {Γ τ τ1 A B P : List Ent} {us us0 us1 vs vs' va vb vp : List V} {v w : V} {p q : List Nat} {t : Tr} {ts ts' : List Tr} {k k' : Nk} {i j n d h : Nat} {a : Addr} {en en' : Ent} {o : Ow} {Z : Zn} {ws : List V} {Φ Ψ : Ps} {G : GF} {m m' : Ms} {is : List Nat}
def extAll (n : Nat) : List Nat → Ms → Option Ms
  | [], m => some m
  | i :: is, m => match extAt (n - 1 - i) n m with
    | some m' => extAll n is m'
    | none => none
theorem extAll_ok : ∀ {is : List Nat} {m m' : Ms} {us0 : List V}, EnvOk K c σ H m.g m.s (vs.reverse ++ us0) → vs.length = n → (∀ i ∈ is, i < n) → extAll n is m = some m' → EnvOk K c σ H m'.g m'.s (vs.reverse ++ (is.reverse.map (vs.getD · .non) ++ us0))
  | [], m, m', us0, E, hl, hi, h => by
    simp only [extAll] at h
    cases h
    simpa using E
  | i :: is, m, m', us0, E, hl, hi, h => by
    simp only [extAll] at h
    split at h
    · rename_i m1 h1
      have hin := hi i List.mem_cons_self
      obtain ⟨w, hw, E1⟩ := extAt_ok E (by omega) (by simp; omega) h1
      rw [List.getElem?_append_left (by simp; omega), List.getElem?_reverse (by omega), show vs.length - 1 - (n - 1 - i) = i by omega] at hw
      have e1 : (vs.reverse ++ us0).take n = vs.reverse := by rw [List.take_append_of_le_length (by simp; omega)]; exact List.take_of_length_le (by simp; omega)
      have e2 : (vs.reverse ++ us0).drop n = us0 := by rw [List.drop_append_of_le_length (by simp; omega), List.drop_of_length_le (by simp; omega)]; rfl
      rw [e1, e2] at E1
      have := extAll_ok (is := is) (us0 := w :: us0) E1 hl (fun i h => hi i (List.mem_cons_of_mem _ h)) h
      simpa [hw] using this
    · cases h
def resAll (h : Nat) : Nat → List Nat → Ms → Option Ms
  | _, [], m => some m
  | n, i :: is, m => match resAt h i n m with
    | some m' => resAll h (n - 1) is m'
    | none => none
theorem resAll_ok {hv : List V} (hh : hv.length = h) : ∀ {is : List Nat} {n : Nat} {m m' : Ms} {vals : List V}, vals.length = n → (∀ i ∈ is, i < n) → is.Pairwise (· > ·) → EnvOk K c σ H m.g m.s (hv ++ (vals ++ (is.map (vals.getD · .non) ++ us0))) → resAll h n is m = some m' → ∃ vals' : List V, vals'.length = n - is.length ∧ EnvOk K c σ H m'.g m'.s (hv ++ (vals' ++ us0))
  | [], n, m, m', vals, hl, hi, hp, E, hr => by
    simp only [resAll] at hr
    cases hr
    exact ⟨vals, by simpa using hl, by simpa using E⟩
  | i :: is, n, m, m', vals, hl, hi, hp, E, hr => by
    simp only [resAll] at hr
    split at hr
    · rename_i m1 h1
      have hin := hi i List.mem_cons_self
      have hpw := List.pairwise_cons.mp hp
      have g1 : (hv ++ (vals ++ ((i :: is).map (vals.getD · .non) ++ us0)))[h + i]? = vals[i]? := by
        rw [List.getElem?_append_right (by omega), show h + i - hv.length = i by omega, List.getElem?_append_left (by omega)]
      have g2 : (hv ++ (vals ++ ((i :: is).map (vals.getD · .non) ++ us0)))[h + n]? = some (vals.getD i .non) := by
        rw [List.getElem?_append_right (by omega), show h + n - hv.length = n by omega, List.getElem?_append_right (by omega), show n - vals.length = 0 by omega]
        rfl
      have E1 := resAt_ok (n := n) E hin (by rw [g1, g2, List.getD_eq_getElem?_getD, List.getElem?_eq_getElem (by omega)]; rfl) h1
      have ev : ((hv ++ (vals ++ ((i :: is).map (vals.getD · .non) ++ us0))).eraseIdx (h + n)).eraseIdx (h + i) = hv ++ (vals.eraseIdx i ++ (is.map ((vals.eraseIdx i).getD · .non) ++ us0)) := by
        have e1 : (hv ++ (vals ++ ((i :: is).map (vals.getD · .non) ++ us0))).eraseIdx (h + n) = hv ++ (vals ++ (is.map (vals.getD · .non) ++ us0)) := by
          rw [List.eraseIdx_append_of_length_le (by omega), show h + n - hv.length = n by omega, List.eraseIdx_append_of_length_le (by omega), show n - vals.length = 0 by omega]
          rfl
        rw [e1, List.eraseIdx_append_of_length_le (by omega), show h + i - hv.length = i by omega, List.eraseIdx_append_of_lt_length (by omega)]
        congr 3
        refine List.map_congr_left fun x hx => ?_
        have : x < i := hpw.1 x hx
        rw [List.getD_eq_getElem?_getD, List.getD_eq_getElem?_getD, List.getElem?_eraseIdx_of_lt this]
      rw [ev] at E1
      obtain ⟨vals', l', E2⟩ := resAll_ok hh (is := is) (n := n - 1) (vals := vals.eraseIdx i) (by rw [List.length_eraseIdx, if_pos (by omega)]; omega) (fun x hx => by have := hpw.1 x hx; omega) hpw.2 E1 hr
      exact ⟨vals', by simp; omega, E2⟩
    · cases hr
theorem EnvOk.dropN : ∀ {A : List Ent} {va : List V}, A.length = va.length → EnvOk K c σ H Γ (A ++ τ) (va ++ us) → EnvOk K c σ H Γ τ us
  | [], [], _, E => E
  | e :: A, v :: va, l, E => EnvOk.dropN (by simpa using l) (EnvOk.drop E)
theorem EnvOk.dropAll {s : List Ent} (E : EnvOk K c σ H Γ s us) : EnvOk K c σ H Γ [] [] := by
  have := tail_len E
  exact EnvOk.dropN (A := s) (va := us) (τ := []) (us := []) this (by simpa using E)
/-- a call of a def by its function on trees; is: the arguments that are its own and stand at places -/
def gCall (is : List Nat) (mdc : List Bool) (G : GF) (n : Nat) : GE := fun m => match extAll n is m with
  | none => none
  | some m1 => match argT m1.g mdc (m1.s.take n).reverse with
    | none => none
    | some ts => match G ts with
      | some (.rt r ts') => match resAll 1 n is.reverse ⟨m1.g, .tr r :: (ts'.map .tr ++ m1.s.drop n)⟩ with
        | some m2 => some (.ok ⟨m2.g, m2.s.take 1 ++ m2.s.drop (1 + (n - is.length))⟩)
        | none => none
      | some (.ex C ts') => match resAll 0 n is.reverse ⟨m1.g, ts'.map .tr ++ m1.s.drop n⟩ with
        | some m2 => some (.ex C m2.g)
        | none => none
      | none => none
theorem gCall_ok (hin : ∀ i ∈ is, i < n) (hpw : is.reverse.Pairwise (· > ·)) : RA K md W n (fun σ vs H Q => spOf K mdc G vs H Q (fun cls d H => W cls d σ H)) (gCall is mdc G n) := by
  intro c σ H m us vs Q rr hc hl E hf hp
  unfold gCall at hf
  split at hf
  · cases hf
  · rename_i m1 h1
    have E1 := extAll_ok E hl hin h1
    split at hf
    · cases hf
    · rename_i ts hts
      have hlen := tail_len E1
      have hn : n ≤ m1.s.length := by rw [hlen]; simp; omega
      obtain ⟨Z, ws, Φ, Ψ, EE⟩ := E1
      have es : m1.s = (m1.s.take n).reverse.reverse ++ m1.s.drop n := by rw [List.reverse_reverse, List.take_append_drop]
      split at hf
      · rename_i r ts' hG
        split at hf
        · rename_i m2 h2
          cases hf
          refine call_ok (ents := (m1.s.take n).reverse) (s := m1.s.drop n) (o := .rt r ts') (es ▸ EE) (by simp; omega) hts hG ?_
          intro v H' l' E2
          obtain ⟨vals', lv, E3⟩ := resAll_ok (hv := [v]) (h := 1) rfl (is := is.reverse) (n := n) (m := ⟨m1.g, .tr r :: (ts'.map .tr ++ m1.s.drop n)⟩) (vals := vs) hl (fun i hi => hin i (List.mem_reverse.mp hi)) hpw E2 h2
          have lm := tail_len E3
          simp only [List.length_append, List.length_cons, List.length_nil, List.length_reverse] at lm lv
          refine hp v H' ?_
          have e3 : m2.s = m2.s.take 1 ++ ((m2.s.drop 1).take (n - is.length) ++ m2.s.drop (1 + (n - is.length))) := by
            have : m2.s.drop (1 + (n - is.length)) = (m2.s.drop 1).drop (n - is.length) := by rw [List.drop_drop]
            rw [this, List.take_append_drop, List.take_append_drop]
          rw [e3] at E3
          have E4 := EnvOk.permA (A := m2.s.take 1) (va := [v]) (by simp; omega) (by simp; omega) E3
          exact EnvOk.dropN (by simp; omega) E4
        · cases hf
      · rename_i C ts' hG
        split at hf
        · rename_i m2 h2
          cases hf
          refine call_ok (ents := (m1.s.take n).reverse) (s := m1.s.drop n) (o := .ex C ts') (es ▸ EE) (by simp; omega) hts hG ?_
          intro H' l' E2
          obtain ⟨vals', lv, E3⟩ := resAll_ok (hv := []) (h := 0) rfl (is := is.reverse) (n := n) (m := ⟨m1.g, ts'.map .tr ++ m1.s.drop n⟩) (vals := vs) hl (fun i hi => hin i (List.mem_reverse.mp hi)) hpw E2 h2
          exact hp H' E3.dropAll
        · cases hf
      · cases hf
variable {x : Str} {pp pos apos : Pos} {e oe : Expr} {es : List Expr} {ga go : GE} {kk : Nat} {f : Addr} {fd : FuncData} {ps : List Str}
theorem seqA {tA : TA} {R : St → List V → Hp → VK → Prop} {fg : GE} (sa : SA K md W n tA ga) (hf : RA K md W n R fg) : SE K md W (fun σ H Q => tA σ H fun vs H1 => R σ vs H1 Q) (gSeq ga fg) := by
  intro c σ H m us Q rr hc E hg hp
  simp only [gSeq] at hg
  split at hg
  · rename_i m1 h1
    exact sa c σ H m us _ _ hc E h1 fun vs H1 hl E1 => hf c σ H1 m1 us vs Q rr hc hl E1 hg hp
  · rename_i h1
    refine sa c σ H m us _ _ hc E hg ?_
    cases rr with
    | ex C g' => exact hp
    | ok m2 => exact absurd hg (h1 m2)
theorem me_call (F : FnOk X.prog X.w X.K X.mg X.base (L2N.CX X.prog X.w) kk f fd ps (spOf (kcm X.K T) mdc G)) (hr : Room kk X.A) (tk : Takes X W) (hg : Gl X x) (hm : X.mg x = some (.ref f)) (hk : PySem.W.keepIn X.K (.ref f) = true) (hb : Binds X.K fd ps [])
    (ha : MA X T md W (e :: es) ga) (hin : ∀ i ∈ is, i < (e :: es).length) (hpw : is.reverse.Pairwise (· > ·)) (hdb : (x == ("__debug__" : Str)) = false := by decide)
    (he : starEach (e :: es) X.env = (false, eval e X.env) :: starEach es X.env := by rfl) (hpl : (backTo pos (starEach es X.env)).any (·.1) = false := by rfl) : ME X T md W (.Call (.Name x pp) (e :: es) [] pos) (gSeq ga (gCall is mdc G (e :: es).length)) := by
  obtain ⟨t, pa, sa⟩ := ha
  exact ⟨_, pe_callS (E := WE W) F hr hg hm hk hb (fun σ => passAt tk σ) pa hdb he hpl, seqA sa (gCall_ok hin hpw)⟩
end
section
variable {K : KC} {X : Cx} {T : KT} {md mdc : List Bool} {W : WX} {c : Cz} {σ : St} {H H' : Hp} {Γ τ τ1 A B P : List Ent} {us us0 us1 vs vs' va vb vp : List V} {v w : V} {p q : List Nat} {t : Tr} {ts ts' : List Tr} {k k' : Nk} {i j n d h : Nat} {a : Addr} {en en' : Ent} {o : Ow} {Z : Zn} {ws : List V} {Φ Ψ : Ps} {G : GF} {m m' : Ms} {is : List Nat}
variable {x me : Str} {pp pos apos : Pos} {e oe : Expr} {es : List Expr} {ga go : GE} {kk : Nat} {f C : Addr} {fd : FuncData} {ps : List Str} {CXk : CXT} {sp : Sp} {ta : TE} {tA : TA} {Ew : St → XK} {pl : Sem Bool}
/-! methods, with what is raised wished for at the slots -/
def tMethS (C : Addr) (m : Str) (sp : Sp) (E : St → XK) (ta : TE) (t : TA) : TE := fun σ H Q => ta σ H fun x H1 => ∃ a dx fs, x = .ref a ∧ H1 a = some (.ins C dx fs) ∧ fs.lookup m = none ∧ t σ H1 fun vs H2 => sp (x :: vs) H2 Q (E σ)
theorem pe_methS (po : PE X oe ta) (c : Cls X.K C) (hm : Meth X.K C me f) (F : FnOk X.prog X.w X.K X.mg X.base CXk kk f fd ps sp) (hr : Room kk X.A) (hb : Binds X.K fd ps []) (hx : ∀ σ, PassesAt CXk X σ (Ew σ)) (pa : PA X (e :: es) tA)
    (hst : starEach (e :: es) X.env = (false, eval e X.env) :: starEach es X.env := by rfl) (hpl : (backTo pos (starEach es X.env)).any (·.1) = false := by rfl)
    (ht : eval (.Call (.Attribute oe me apos) (e :: es) [] pos) X.env = (do let ov ← eval oe X.env; standAt apos.atName; let (f, first) ← holding [ov] (getMethod ov me pl); callWith pos f first (backTo pos (starEach (e :: es) X.env)) (backToKw pos (keywordEach [] X.env))) := by rfl) :
    PE X (.Call (.Attribute oe me apos) (e :: es) [] pos) (tMethS C me sp Ew ta tA) := by
  constructor
  intro pins s σ H Q I hh
  refine PySem.W.methodCall_KW (pl := pl) (he := ht) (thn (po.run pins s σ H _ I hh) ?_)
  rintro u s1 ⟨xv, H1, I1, rx, ad, dx, fs, rfl, ea, lk, q1⟩
  cases (show u = Value.ref ad from rx)
  apply getmeth_ok I1 ea c hm lk
  refine PySem.W.callWith_K (first := [.ref ad]) (h₀ := X.base) I.ok.mod.kin hm.kp (thn (pa.run pos pins s1 σ H1 _ I1 q1) ?_) hst hpl
  rintro us s2 ⟨vs, H2, I2, rr, q2⟩
  exact ⟨I2.kIn, run_fnS (us := .ref ad :: us) (vs := .ref ad :: vs) F hr hb (hx σ) I2 (.cons rfl rr) q2⟩
theorem pe_methS0 (po : PE X oe ta) (c : Cls X.K C) (hm : Meth X.K C me f) (F : FnOk X.prog X.w X.K X.mg X.base CXk kk f fd ps sp) (hr : Room kk X.A) (hb : Binds X.K fd ps []) (hx : ∀ σ, PassesAt CXk X σ (Ew σ))
    (ht : eval (.Call (.Attribute oe me apos) [] [] pos) X.env = (do let ov ← eval oe X.env; standAt apos.atName; let (f, first) ← holding [ov] (getMethod ov me pl); callWith pos f first (backTo pos (starEach [] X.env)) (backToKw pos (keywordEach [] X.env))) := by rfl) :
    PE X (.Call (.Attribute oe me apos) [] [] pos) (tMethS C me sp Ew ta tNil) := by
  constructor
  intro pins s σ H Q I hh
  refine PySem.W.methodCall_KW (pl := pl) (he := ht) (thn (po.run pins s σ H _ I hh) ?_)
  rintro u s1 ⟨xv, H1, I1, rx, ad, dx, fs, rfl, ea, lk, q1⟩
  cases (show u = Value.ref ad from rx)
  apply getmeth_ok I1 ea c hm lk
  exact PySem.W.callWith_K0 (first := [.ref ad]) I1.kIn hm.kp (run_fnS (us := [.ref ad]) (vs := [.ref ad]) F hr hb (hx σ) I1 (.cons rfl .nil) q1)
/-- on top stands an instance of the class n -/
def chkI (n : Nat) : GE := fun m => match m.s with
  | e :: _ => match viewE m.g e with
    | some (.nd (.ins n' _) _ _) => if n' = n then some (.ok m) else none
    | _ => none
  | _ => none
theorem lookup_none {fl : Str} : ∀ {ns : List Str} {vs : List V}, ns.idxOf? fl = none → (ns.zip vs).lookup fl = none
  | [], _, _ => rfl
  | n :: ns, [], _ => rfl
  | n :: ns, v :: vs, h => by
    rw [List.idxOf?_cons] at h
    by_cases e : (n == fl) = true
    · simp [e] at h
    · rw [if_neg e] at h
      have e2 : (fl == n) = false := by
        have : n ≠ fl := by simpa using e
        simpa using fun q : fl = n => this q.symm
      rw [List.zip_cons_cons, List.lookup_cons, e2]
      exact lookup_none (by simpa using h)
theorem take_none {fl : Str} {ns : List Str} {k : Nat} (h : ns.idxOf? fl = none) : (ns.take k).idxOf? fl = none := by
  rw [List.idxOf?_eq_none_iff] at h ⊢
  exact fun q => h (List.mem_of_mem_take q)
theorem chkI_ok {rr : Rs} {xv : V} (E : EnvOk K c σ H m.g m.s (xv :: us)) (h : chkI n m = some rr) (hno : (K.nm n).idxOf? me = none) : rr = .ok m ∧ ∃ a dx fs, xv = .ref a ∧ H a = some (.ins (K.ct n) dx fs) ∧ fs.lookup me = none := by
  unfold chkI at h
  split at h
  · rename_i e s hs
    split at h
    · rename_i n' kf o ts hv
      split at h
      · rename_i hn
        subst hn
        cases h
        rw [hs] at E
        obtain ⟨a, vs, rfl, ⟨l, dx, ho⟩, _⟩ := viewObj E hv
        exact ⟨rfl, a, dx, _, rfl, ho, lookup_none (take_none hno)⟩
      · cases h
    · cases h
  · cases h
theorem me_meth (ho : ME X T md W oe go) (c : Cls X.K (T.ct n)) (hm : Meth X.K (T.ct n) me f) (hno : (T.nm n).idxOf? me = none) (F : FnOk X.prog X.w X.K X.mg X.base (L2N.CX X.prog X.w) kk f fd ps (spOf (kcm X.K T) mdc G)) (hr : Room kk X.A) (tk : Takes X W) (hb : Binds X.K fd ps [])
    (ha : MA X T md W (e :: es) ga) (hin : ∀ i ∈ is, i < (e :: es).length + 1) (hpw : is.reverse.Pairwise (· > ·))
    (hst : starEach (e :: es) X.env = (false, eval e X.env) :: starEach es X.env := by rfl) (hpl : (backTo pos (starEach es X.env)).any (·.1) = false := by rfl)
    (ht : eval (.Call (.Attribute oe me apos) (e :: es) [] pos) X.env = (do let ov ← eval oe X.env; standAt apos.atName; let (f, first) ← holding [ov] (getMethod ov me pl); callWith pos f first (backTo pos (starEach (e :: es) X.env)) (backToKw pos (keywordEach [] X.env))) := by rfl) :
    ME X T md W (.Call (.Attribute oe me apos) (e :: es) [] pos) (gSeq go (gSeq (chkI n) (gSeq ga (gCall is mdc G ((e :: es).length + 1))))) := by
  obtain ⟨to, po, so⟩ := ho
  obtain ⟨t, pa, sa⟩ := ha
  refine ⟨_, pe_methS (Ew := WE W) po c hm F hr hb (fun σ => passAt tk σ) pa hst hpl ht, fun c σ H m us Q rr hc E hg hp => ?_⟩
  simp only [gSeq] at hg
  split at hg
  · rename_i m1 h1
    refine so c σ H m us _ _ hc E h1 fun xv H1 E1 => ?_
    split at hg
    · rename_i m2 h2
      obtain ⟨e2, a, dx, fs, ex, ea, lk⟩ := chkI_ok E1 h2 hno
      cases e2
      refine ⟨a, dx, fs, ex, ea, lk, ?_⟩
      split at hg
      · rename_i m3 h3
        exact sa c σ H1 m1 _ _ _ hc E1 h3 fun vs H2 hl E2 => gCall_ok hin hpw c σ H2 m3 us (xv :: vs) Q rr hc (by simp [hl]) (by simpa using E2) hg hp
      · rename_i h3
        refine sa c σ H1 m1 _ _ _ hc E1 hg ?_
        cases rr with
        | ex C g' => exact hp
        | ok m2 => exact absurd hg (h3 m2)
    · rename_i h2
      obtain ⟨e2, _⟩ := chkI_ok E1 hg hno
      exact absurd (e2 ▸ hg) (h2 m1)
  · rename_i h1
    refine so c σ H m us _ _ hc E hg ?_
    cases rr with
    | ex C g' => exact hp
    | ok m2 => exact absurd hg (h1 m2)
theorem me_meth0 (ho : ME X T md W oe go) (c : Cls X.K (T.ct n)) (hm : Meth X.K (T.ct n) me f) (hno : (T.nm n).idxOf? me = none) (F : FnOk X.prog X.w X.K X.mg X.base (L2N.CX X.prog X.w) kk f fd ps (spOf (kcm X.K T) mdc G)) (hr : Room kk X.A) (tk : Takes X W) (hb : Binds X.K fd ps [])
    (hin : ∀ i ∈ is, i < 1) (hpw : is.reverse.Pairwise (· > ·))
    (ht : eval (.Call (.Attribute oe me apos) [] [] pos) X.env = (do let ov ← eval oe X.env; standAt apos.atName; let (f, first) ← holding [ov] (getMethod ov me pl); callWith pos f first (backTo pos (starEach [] X.env)) (backToKw pos (keywordEach [] X.env))) := by rfl) :
    ME X T md W (.Call (.Attribute oe me apos) [] [] pos) (gSeq go (gSeq (chkI n) (gCall is mdc G 1))) := by
  obtain ⟨to, po, so⟩ := ho
  refine ⟨_, pe_methS0 (Ew := WE W) po c hm F hr hb (fun σ => passAt tk σ) ht, fun c σ H m us Q rr hc E hg hp => ?_⟩
  simp only [gSeq] at hg
  split at hg
  · rename_i m1 h1
    refine so c σ H m us _ _ hc E h1 fun xv H1 E1 => ?_
    split at hg
    · rename_i m2 h2
      obtain ⟨e2, a, dx, fs, ex, ea, lk⟩ := chkI_ok E1 h2 hno
      cases e2
      exact ⟨a, dx, fs, ex, ea, lk, gCall_ok hin hpw c σ H1 m1 us [xv] Q rr hc rfl E1 hg hp⟩
    · rename_i h2
      obtain ⟨e2, _⟩ := chkI_ok E1 hg hno
      exact absurd (e2 ▸ hg) (h2 m1)
  · rename_i h1
    refine so c σ H m us _ _ hc E hg ?_
    cases rr with
    | ex C g' => exact hp
    | ok m2 => exact absurd hg (h1 m2)
/-! a new instance -/
def gMake (n : Nat) (mdc : List Bool) (G : GF) (l : Nat) : GE := fun m => match argT m.g (true :: mdc) (.tr (.nd (.ins n 0) .own []) :: (m.s.take l).reverse) with
  | none => none
  | some ts => match G ts with
    | some (.rt (.a .non) (t :: _)) => some (.ok ⟨m.g, .tr t :: m.s.drop l⟩)
    | some (.ex C _) => some (.ex C m.g)
    | _ => none
theorem EnvOk.newIns {pa dx : Addr} (E : EnvOk K c σ H Γ τ us) (hp : H pa = none) (hd : H dx = none) (ne : dx ≠ pa) : EnvOk K c σ (upd (upd H dx (.own pa)) pa (.ins (K.ct n) dx [])) Γ (.tr (.nd (.ins n 0) .own []) :: τ) (.ref pa :: us) := by
  obtain ⟨Z, ws, Φ, Ψ, EE⟩ := E
  have hk : ∀ b ob, H b = some ob → upd (upd H dx (.own pa)) pa (.ins (K.ct n) dx []) b = some ob := fun b ob e => by
    rw [upd_ne (ne_of_none e hp), upd_ne (ne_of_none e hd)]
    exact e
  have hs : ∀ b, (H b).isSome = true → (upd (upd H dx (.own pa)) pa (.ins (K.ct n) dx []) b).isSome = true := fun b q => by
    obtain ⟨ob, e⟩ := Option.isSome_iff_exists.mp q
    rw [hk b ob e]
    rfl
  have nz : ∀ b, Z.fz b ∨ Z.ln b → b ≠ pa := fun b q e => by have := EE.zs b q; rw [e, hp] at this; cases this
  refine EE.swapE (τ1 := []) (us1 := []) (τ1' := [.tr (.nd (.ins n 0) .own [])]) (us1' := [.ref pa]) rfl (by simp) (fun Ψ1 r zo => ?_) rfl
  have n0 : ∀ b, ¬ Ψ1 b := r.2
  refine ⟨Z, fun b => b = pa, ⟨.ref pa, [], fun b => b = pa, fun _ => False, rfl, ⟨pa, [], fun _ => False, rfl, ⟨by simp, dx, by simp [upd_same]⟩, ⟨rfl, fun _ h => h⟩, .mk (by simp) (by simp) (by simp) rfl⟩, ⟨rfl, fun _ h => h⟩, by simp, by simp⟩, ⟨fun _ h => h, fun _ h => h, fun _ h => .inl h, fun _ h => .inl h, fun b q => hs b (EE.zs b q), fun b ob e _ => hk b ob e, fun b q => absurd q (n0 b), fun b q => ?_⟩⟩
  have : b = pa := q
  subst this
  exact ⟨.inr hp, fun z => nz b (.inl z) rfl, fun z => nz b (.inr z) rfl⟩
theorem gMake_ok {xa dx : Addr} {l : Nat} {Q : VK} {rr : Rs} {Ex : XK} (E : EnvOk K c σ H m.g m.s (vs.reverse ++ us)) (hl : vs.length = l) (hf : gMake n mdc G l m = some rr) (hp : PostE K c W σ us Q rr) (hE : ∀ C H', W (.ref (K.et C)) none σ H' → Ex (.ref (K.et C)) none H') (hx : H xa = none) (hd : H dx = none) (ne : dx ≠ xa) :
    spOf K (true :: mdc) G (.ref xa :: vs) (upd (upd H dx (.own xa)) xa (.ins (K.ct n) dx [])) (fun v H2 => v = .non ∧ Q (.ref xa) H2) Ex := by
  unfold gMake at hf
  split at hf
  · cases hf
  · rename_i ts hts
    have hlen := tail_len E
    have hn : l ≤ m.s.length := by rw [hlen]; simp; omega
    have E1 := E.newIns (n := n) hx hd ne
    have es : m.s = (m.s.take l).reverse.reverse ++ m.s.drop l := by rw [List.reverse_reverse, List.take_append_drop]
    rw [es] at E1
    have E2 := EnvOk.permA (A := [.tr (.nd (.ins n 0) .own [])]) (B := (m.s.take l).reverse.reverse) (va := [.ref xa]) (vb := vs.reverse) rfl (by simp; omega) E1
    obtain ⟨Z, ws, Φ, Ψ, EE⟩ := E2
    split at hf
    · rename_i t rest hG
      cases hf
      refine call_ok (ents := .tr (.nd (.ins n 0) .own []) :: (m.s.take l).reverse) (s := m.s.drop l) (vs := .ref xa :: vs) (us := us) (o := .rt (.a .non) (t :: rest)) (by simpa using EE) (by simp; omega) hts hG ?_
      intro v H' l' E3
      have ev := top_a E3
      refine ⟨ev, hp _ _ ?_⟩
      have E4 := E3.drop
      have E5 : EnvOk K c σ H' m.g ([.tr t] ++ (rest.map .tr ++ m.s.drop l)) ([.ref xa] ++ (vs ++ us)) := by simpa using E4
      have E6 := EnvOk.permA (A := [.tr t]) (va := [.ref xa]) rfl (by simp at l' ⊢; omega) E5
      exact EnvOk.dropN (by simp at l' ⊢; omega) E6
    · rename_i C rest hG
      cases hf
      refine call_ok (ents := .tr (.nd (.ins n 0) .own []) :: (m.s.take l).reverse) (s := m.s.drop l) (vs := .ref xa :: vs) (us := us) (o := .ex C rest) (by simpa using EE) (by simp; omega) hts hG ?_
      intro H' l' E3
      exact hE C H' (hp H' E3.dropAll)
    · cases hf
end
section
variable {K : KC} {X : Cx} {T : KT} {md mdc : List Bool} {W : WX} {c : Cz} {σ σ' : St} {H H' : Hp} {Γ τ τ1 A B P : List Ent} {us us0 us1 vs vs' : List V} {v w : V} {p q : List Nat} {t : Tr} {ts ts' : List Tr} {k k' : Nk} {i j n d h : Nat} {a : Addr} {en en' : Ent} {o : Ow} {Z : Zn} {ws : List V} {Φ Ψ : Ps} {m m' : Ms} {g ge gt gs ga : GE} {e tg iter elt : Expr} {bd : Ms → Option Ms}
/-! the machine's own reading: the same in every context -/
def wpE (K : KC) (md : List Bool) (W : WX) (g : GE) : TE := fun σ H Q => ∃ c m us r, c.md = md ∧ EnvOk K c σ H m.g m.s us ∧ g m = some r ∧ PostE K c W σ us Q r
theorem ME.pe (h : ME X T md W e g) : PE X e (wpE (kcm X.K T) md W g) := by
  obtain ⟨t, p, s⟩ := h
  exact ⟨fun pins st σ H Q I ⟨c, m, us, r, hc, E, hg, hp⟩ => p.run pins st σ H Q I (s c σ H m us Q r hc E hg hp)⟩
def wpT (K : KC) (md : List Bool) (W : WX) (g : GE) : TT := fun σ H Q => ∃ c m us r, c.md = md ∧ EnvOk K c σ H m.g m.s us ∧ g m = some r ∧ PostT K c W σ us Q r
theorem MT.pt (h : MT X T md W e g) : PT X e (wpT (kcm X.K T) md W g) := by
  obtain ⟨t, p, s⟩ := h
  exact ⟨fun pins st σ H Q I ⟨c, m, us, r, hc, E, hg, hp⟩ => p.run pins st σ H Q I (s c σ H m us Q r hc E hg hp)⟩
abbrev WF : WX := fun _ _ _ _ => False
theorem EnvOk.reσ (E : EnvOk K c σ H Γ τ us) (hl : σ'.length = σ.length) (h : ∀ (i : Nat) (e : Ent), Γ[i]? = some e → e = .no ∨ σ'[i]? = σ[i]?) : EnvOk K c σ' H Γ τ us := by
  obtain ⟨Z, ws, Φ, Ψ, sl, tm, dj, so, to, ln, zo, zf, z0, zs, st, pv⟩ := E
  refine ⟨Z, ws, Φ, Ψ, ⟨sl, tm, dj, fun i e he => ?_, to, by rw [hl]; exact ln, zo, zf, z0, zs, st, pv⟩⟩
  have h1 := so i e he
  rcases h i e he with h2 | h2
  · subst h2
    trivial
  · cases e with
    | no => trivial
    | tr t =>
      obtain ⟨x, a, b⟩ := h1
      exact ⟨x, a, by rw [h2]; exact b⟩
    | al p =>
      obtain ⟨x, a, b⟩ := h1
      exact ⟨x, by rw [h2]; exact a, b⟩
/-- a slot is forgotten -/
def clr (i : Nat) (m : Ms) : Ms := ⟨(m.g.map (killR i)).set i .no, m.s.map (killR i)⟩
theorem EnvOk.clr (E : EnvOk K c σ H m.g m.s us) (hi : i < m.g.length) : EnvOk K c σ H (clr i m).g (clr i m).s us := by
  obtain ⟨Z, ws, Φ, Ψ, sl, tm, dj, so, to, ln, zo, zf, z0, zs, st, pv⟩ := E
  have hlt : i < (trees m.g).length := by simpa [trees] using hi
  obtain ⟨v', Φ1, Φ2, e2, r, d, u, r2, _⟩ := RepL.at_ _ sl (i := i) (t := (trees m.g)[i]) (List.getElem?_eq_getElem hlt)
  have et : trees ((m.g.map (killR i)).set i .no) = (trees m.g).set i .any := by
    have := trees_killR (Γ := m.g) (i := i)
    simp only [trees, List.map_set] at this ⊢
    rw [this]
    rfl
  refine ⟨Z, ws, Φ2, Ψ, ⟨by show RepL _ _ _ _ (trees ((m.g.map (killR i)).set i .no)) _ _; rw [et]; exact r2, ?_, by grind, ?_, ?_, by simp [Mine.clr, ln], by grind, zf, z0, zs, st, pv⟩⟩
  · show RepL K Z H .own (trees (m.s.map (killR i))) us Ψ
    rw [trees_killR]
    exact tm
  · intro j e he
    by_cases hj : i = j
    · subst hj
      have he : ((m.g.map (killR i)).set i .no)[i]? = some e := he
      rw [List.getElem?_set_self (by simpa using hi)] at he
      cases he
      trivial
    · have he : ((m.g.map (killR i)).set i .no)[j]? = some e := he
      rw [List.getElem?_set_ne hj] at he
      obtain ⟨e', he', rfl⟩ := killR_at he
      have h1 := so j e' he'
      cases e' with
      | no => trivial
      | tr x => exact h1
      | al q =>
        obtain ⟨x1, x2, x3, x4⟩ := h1
        by_cases hq : q.head? = some i
        · simp only [killR, hq, if_true]
          trivial
        · simp only [killR, hq, if_false]
          exact ⟨x1, x2, x3, by show (getG ((m.g.map (killR i)).set i .no) q).isSome = true; rw [getG_ne hq]; exact x4⟩
  · intro j q hj
    obtain ⟨e', he', hk⟩ := killR_at hj
    cases e' with
    | no => simp [killR] at hk
    | tr _ => simp [killR] at hk
    | al r =>
      by_cases hq : r.head? = some i
      · simp [killR, hq] at hk
      · simp only [killR, hq, if_false] at hk
        cases hk
        obtain ⟨w1, s1, s2, s3⟩ := to j q he'
        exact ⟨w1, s1, s2, by show (getG ((m.g.map (killR i)).set i .no) q).isSome = true; rw [getG_ne hq]; exact s3⟩
/-- a target of a comprehension whose names are the slots cv -/
def SGW (K : KC) (md : List Bool) (cv : List Nat) (t : TG) (b : Ms → Option Ms) : Prop := ∀ (c : Cz) (σ : St) (H : Hp) (m m' : Ms) (us : List V) (x : V) (Q : St → Hp → Prop), c.md = md → EnvOk K c (wipe σ cv) H m.g m.s (x :: us) → b m = some m' → (∀ σ2, wipe σ2 cv = wipe σ cv → EnvOk K c σ2 H m'.g m'.s us → Q σ2 H) → t x (wipe σ cv) H Q
theorem sgw_name : SGW K md [i] (gName i) (bind md i) := fun c σ H m m' us x Q hc E h hq => by
  refine hq _ ?_ (bind_ok hc E h)
  simp [wipe, List.set_set]
def clrs : List Nat → Ms → Ms
  | [], m => m
  | i :: is, m => clrs is (clr i m)
def allNo (Γ : List Ent) : List Nat → Bool
  | [] => true
  | i :: is => (match Γ[i]? with
    | some .no => true
    | _ => false) && allNo Γ is
/-- one turn: the item is on top, the new list at depth d below it -/
def lcTurn (cv : List Nat) (bd : Ms → Option Ms) (gt ge : GE) (d : Nat) (m : Ms) : Option Ms := match bd m with
  | none => none
  | some m1 => match gt m1 with
    | some (.ok ⟨g2, .tr (.a (.bl true)) :: s2⟩) => match ge ⟨g2, s2⟩ with
      | some (.ok ⟨g3, .tr y :: s3⟩) => match s3[d]? with
        | some (.tr (.nd .lst .own acc)) => if esc y = true ∧ acc.length < sizeLine ∧ (∀ i ∈ cv, i < g3.length) then some (clrs cv ⟨g3, s3.set d (.tr (.nd .lst .own (acc ++ [y])))⟩) else none
        | _ => none
      | _ => none
    | some (.ok ⟨g2, .tr (.a (.bl false)) :: s2⟩) => if ∀ i ∈ cv, i < g2.length then some (clrs cv ⟨g2, s2⟩) else none
    | _ => none
theorem clrs_ok : ∀ {cv : List Nat} {m : Ms}, EnvOk K c σ H m.g m.s us → (∀ i ∈ cv, i < m.g.length) → EnvOk K c σ H (clrs cv m).g (clrs cv m).s us
  | [], m, E, _ => E
  | i :: cv, m, E, h => clrs_ok (cv := cv) (m := clr i m) (E.clr (h i List.mem_cons_self)) (fun j hj => by simpa [clr] using h j (List.mem_cons_of_mem _ hj))
end
section
variable {K : KC} {X : Cx} {T : KT} {md mdc : List Bool} {W : WX} {c : Cz} {σ σ' σ2 : St} {H H' : Hp} {Γ τ τ1 A B P : List Ent} {us us0 us1 vs vs' : List V} {v w : V} {p q : List Nat} {t : Tr} {ts ts' : List Tr} {k k' : Nk} {i j n d h : Nat} {a D : Addr} {en en' : Ent} {o : Ow} {Z : Zn} {ws : List V} {Φ Ψ : Ps} {m m' : Ms} {g ge gt gs ga : GE} {e b tg iter elt : Expr} {bd : Ms → Option Ms} {cv : List Nat}
theorem wipe_get : ∀ {cv : List Nat} {i : Nat}, i ∉ cv → (wipe σ cv)[i]? = σ[i]?
  | [], _, _ => rfl
  | v :: cv, i, h => by
    simp only [List.mem_cons, not_or] at h
    unfold wipe
    rw [List.getElem?_set_ne (fun e => h.1 e.symm), wipe_get h.2]
theorem clr_no {m : Ms} (h : (clr j m).g[i]? = some e') (hm : m.g[i]? = some .no ∨ i = j) : e' = .no := by
  unfold clr at h
  simp only at h
  by_cases hj : j = i
  · subst hj
    by_cases hl : j < (m.g.map (killR j)).length
    · rw [List.getElem?_set_self hl] at h
      cases h
      rfl
    · rw [List.getElem?_eq_none (by simpa using hl)] at h
      cases h
  · rw [List.getElem?_set_ne hj] at h
    obtain ⟨x, hx, rfl⟩ := killR_at h
    rcases hm with hm | hm
    · rw [hm] at hx
      cases hx
      rfl
    · exact absurd hm.symm hj
theorem clrs_no : ∀ {cv : List Nat} {m : Ms} {i : Nat} {e : Ent}, (clrs cv m).g[i]? = some e → (m.g[i]? = some .no ∨ i ∈ cv) → e = .no
  | [], m, i, e, h, hm => by
    rcases hm with hm | hm
    · rw [show (clrs [] m).g = m.g from rfl, hm] at h
      cases h
      rfl
    · simp at hm
  | j :: cv, m, i, e, h, hm => by
    refine clrs_no (cv := cv) (m := clr j m) h ?_
    by_cases hi : i ∈ cv
    · exact .inr hi
    · left
      have hj : m.g[i]? = some .no ∨ i = j := by
        rcases hm with hm | hm
        · exact .inl hm
        · rcases List.mem_cons.mp hm with hm | hm
          · exact .inr hm
          · exact absurd hm hi
      have hlen : ∀ {cv : List Nat} {m : Ms}, (clrs cv m).g.length = m.g.length := by
        intro cv
        induction cv with
        | nil => intro m; rfl
        | cons x cv ih => intro m; rw [show clrs (x :: cv) m = clrs cv (clr x m) from rfl, ih]; simp [clr]
      have hlt := getq_lt' h
      rw [hlen] at hlt
      have : i < (clr j m).g.length := by simpa [clr] using hlt
      have h2 := List.getElem?_eq_getElem this
      rw [h2, clr_no h2 hj]
theorem backσ (E : EnvOk K c σ2 H (clrs cv m).g (clrs cv m).s us) (hw : wipe σ2 cv = wipe σ cv) : EnvOk K c (wipe σ cv) H (clrs cv m).g (clrs cv m).s us := by
  refine E.reσ (by rw [← hw, wipe_length]) fun i e he => ?_
  by_cases hi : i ∈ cv
  · exact .inl (clrs_no he (.inr hi))
  · right
    rw [← hw, wipe_get hi]
/-- the list at depth d gets one more item, that on top -/
theorem EnvOk.appAt {s : List Ent} {y : Tr} {yv : V} {acc : List Tr} (E : EnvOk K c σ H Γ (.tr y :: s) (yv :: us)) (hs : s[d]? = some (.tr (.nd .lst .own acc))) (hu : us[d]? = some (.ref D)) (he : esc y = true) :
    ∃ vs, H D = some (.lst vs) ∧ acc.length = vs.length ∧ EnvOk K c σ (upd H D (.lst (vs ++ [yv]))) Γ (s.set d (.tr (.nd .lst .own (acc ++ [y])))) us := by
  obtain ⟨Z, ws, Φ, Ψ, EE⟩ := id E
  obtain ⟨Θ, a, vs, Ξ, ea, ho, hlr, hn⟩ := EE.view (n := d + 1) (e := .tr (.nd .lst .own acc)) (v := .ref D) (by simpa using hs) (by simpa using hu) rfl
  cases ea
  have ho : H D = some (.lst vs) := ho
  have hn : Nod Z .lst .own D acc Ξ Θ := hn
  have hesc := (hn.own (by simp)).2.2
  refine ⟨vs, ho, RepL.len _ hlr, ?_⟩
  have s1 := split_at hs
  have u1 := split_at hu
  have hl := tail_len E
  have lus : s.length = us.length := by simpa using hl
  have hds := getq_lt' hs
  have E1 : EnvOk K c σ H Γ ([.tr y] ++ (s.take d ++ ([.tr (.nd .lst .own acc)] ++ s.drop (d + 1)))) ([yv] ++ (us.take d ++ ([.ref D] ++ us.drop (d + 1)))) := by rw [← s1, ← u1]; exact E
  have E2 := EnvOk.permM (P := [.tr y]) (vp := [yv]) rfl (by simp; omega) rfl E1
  have E3 := EnvOk.permA (A := [.tr y]) (B := [.tr (.nd .lst .own acc)]) (va := [yv]) (vb := [.ref D]) rfl rfl E2
  have E4 := EnvOk.mut (k := .lst) (k' := .lst) (ts := acc) (ts' := acc ++ [y]) (outs := []) (vouts := []) (vs' := vs ++ [yv]) (ob := .lst (vs ++ [yv])) (τ1 := [.tr y]) (us1 := [yv]) (τ := s.take d ++ s.drop (d + 1)) (us := us.take d ++ us.drop (d + 1)) E3 (by simp) (by simp) rfl ho
    (fun Z Ψa Ψb r1 r2 dd => ⟨_, by simpa [Ent.tree] using RepL.append _ r1 r2 dd, fun b q => q⟩) (by simpa using RepL.len _ hlr) rfl (escL_app hesc he) upd_same
  have E5 := EnvOk.permA (A := [.tr (.nd .lst .own (acc ++ [y]))]) (B := s.take d) (τ := s.drop (d + 1)) (va := [.ref D]) (vb := us.take d) (us := us.drop (d + 1)) rfl (by simp; omega) (by simpa using E4)
  have e6 : s.set d (.tr (.nd .lst .own (acc ++ [y]))) = s.take d ++ ([.tr (.nd .lst .own (acc ++ [y]))] ++ s.drop (d + 1)) := by
    rw [List.set_eq_take_append_cons_drop, if_pos hds]
    rfl
  rw [e6, u1]
  simpa using E5
theorem lcTurn_ok {gT : TG} {tt : TT} {te : TE} {s : List Ent} {x : V} {Nx : Hp → Prop} (hm : c.md = md) (hT : SGW K md cv gT bd) (hTt : ST K md WF tt gt) (hTe : SE K md WF te ge) (E : EnvOk K c (wipe σ cv) H Γ s (x :: us)) (hD : us[d]? = some (.ref D))
    (ht : lcTurn cv bd gt ge d ⟨Γ, s⟩ = some m') (hN : ∀ H', EnvOk K c (wipe σ cv) H' m'.g m'.s us → Nx H') :
    gT x (wipe σ cv) H fun σ2 H2 => wipe σ2 cv = wipe σ cv ∧ tt σ2 H2 fun b H3 => if b = true then te σ2 H3 fun y H4 => ∃ acc, H4 D = some (.lst acc) ∧ acc.length < sizeLine ∧ Nx (upd H4 D (.lst (acc ++ [y]))) else Nx H3 := by
  unfold lcTurn at ht
  split at ht
  · cases ht
  · rename_i m1 h1
    refine hT c σ H ⟨Γ, s⟩ m1 us x _ hm E h1 fun σ2 hw E2 => ⟨hw, ?_⟩
    split at ht
    · rename_i g2 s2 h2
      refine hTt c σ2 H m1 us _ _ hm E2 h2 fun H3 E3 => iteT ?_
      split at ht
      · rename_i g3 y s3 h3
        refine hTe c σ2 H3 ⟨g2, s2⟩ us _ _ hm E3 h3 fun yv H4 E4 => ?_
        split at ht
        · rename_i acc hacc
          split at ht
          · rename_i hc
            cases ht
            obtain ⟨vs, ho, hl, E5⟩ := EnvOk.appAt E4 hacc hD hc.1
            refine ⟨vs, ho, by rw [← hl]; exact hc.2.1, hN _ ?_⟩
            exact backσ (clrs_ok (m := ⟨g3, s3.set d (.tr (.nd .lst .own (acc ++ [y])))⟩) E5 hc.2.2) hw
          · cases ht
        · cases ht
      · cases ht
    · rename_i g2 s2 h2
      refine hTt c σ2 H m1 us _ _ hm E2 h2 fun H3 E3 => iteF ?_
      split at ht
      · rename_i hc
        cases ht
        exact hN _ (backσ (clrs_ok (m := ⟨g2, s2⟩) E3 hc) hw)
      · cases ht
    · cases ht
/-! over a range -/
def lcR (cv : List Nat) (bd : Ms → Option Ms) (gt ge : GE) (lo : Int) : Nat → Nat → Ms → Option Ms
  | 0, _, m => some m
  | r + 1, i, m => match lcTurn cv bd gt ge 0 ⟨m.g, .tr (.a (.int (lo + i))) :: m.s⟩ with
    | some m' => lcR cv bd gt ge lo r (i + 1) m'
    | none => none
theorem lcR_ok {gT : TG} {tt : TT} {te : TE} {lo : Int} {Q : VK} (hm : c.md = md) (hT : SGW K md cv gT bd) (hTt : ST K md WF tt gt) (hTe : SE K md WF te ge) {m : Ms} (E : EnvOk K c (wipe σ cv) H m.g m.s (.ref D :: us)) (hg : lcR cv bd gt ge lo n 0 m = some m') (hQ : ∀ H', EnvOk K c (wipe σ cv) H' m'.g m'.s (.ref D :: us) → Q (.ref D) H') :
    ∃ Wv : Nat → Nat → Hp → Prop, (∃ mm, Wv 0 mm H) ∧ ∀ i mm H, Wv i mm H →
      ((Itr lo n).stop i H ∧ Q (.ref D) H) ∨ ((Itr lo n).go i H ∧ ∃ Nx : Hp → Prop, (∀ H', Nx H' → ∃ m', m' < mm ∧ Wv (i + 1) m' H') ∧ ∀ x H', (Itr lo n).yld i H x H' → gT x (wipe σ cv) H' fun σ2 H2 => wipe σ2 cv = wipe σ cv ∧ tt σ2 H2 fun b H3 =>
        if b = true then te σ2 H3 fun y H4 => ∃ acc, H4 D = some (.lst acc) ∧ acc.length < sizeLine ∧ Nx (upd H4 D (.lst (acc ++ [y]))) else Nx H3) := by
  refine ⟨fun i r H => i + r = n ∧ ∃ m : Ms, EnvOk K c (wipe σ cv) H m.g m.s (.ref D :: us) ∧ lcR cv bd gt ge lo r i m = some m', ⟨n, by omega, m, E, hg⟩, ?_⟩
  rintro i r H ⟨hir, m, E, hg⟩
  cases r with
  | zero =>
    simp only [lcR] at hg
    cases hg
    exact .inl ⟨by show n ≤ i; omega, hQ H E⟩
  | succ r =>
    simp only [lcR] at hg
    split at hg
    · rename_i m1 h1
      refine .inr ⟨by show i < n; omega, fun H' => i + 1 + r = n ∧ ∃ m : Ms, EnvOk K c (wipe σ cv) H' m.g m.s (.ref D :: us) ∧ lcR cv bd gt ge lo r (i + 1) m = some m', fun H' z => ⟨r, by omega, z⟩, fun x H' y => ?_⟩
      obtain ⟨rfl, rfl⟩ := y
      exact lcTurn_ok (d := 0) hm hT hTt hTe (E.atom _) rfl h1 fun H2 E2 => ⟨by omega, m1, E2, hg⟩
    · cases hg
/-! over a list or tuple -/
def lcL (k : Nk) (cv : List Nat) (bd : Ms → Option Ms) (gt ge : GE) : Nat → Nat → Ms → Option Ms
  | 0, i, m => match m.s with
    | e :: _ => match viewE m.g e with
      | some (.nd k' _ ts) => if k' = k ∧ ts.length = i then some m else none
      | _ => none
    | _ => none
  | r + 1, i, m => match m.s with
    | e :: s => match viewE m.g e with
      | some (.nd k' o ts) => if k' = k ∧ cpE e = true ∧ ts.length = i + (r + 1) then match kidX e k o ts i with
          | some e' => match lcTurn cv bd gt ge 1 ⟨m.g, e' :: e :: s⟩ with
            | some m' => lcL k cv bd gt ge r (i + 1) m'
            | none => none
          | none => none
        else none
      | _ => none
    | _ => none
theorem lcL_ok {J : It} {gT : TG} {tt : TT} {te : TE} {Q : VK} {w : V} (hm : c.md = md) (hT : SGW K md cv gT bd) (hTt : ST K md WF tt gt) (hTe : SE K md WF te ge)
    (stop : ∀ i H Γ τ σ us e ts o, EnvOk K c σ H Γ (e :: τ) (w :: us) → viewE Γ e = some (.nd k o ts) → ts.length = i → J.stop i H)
    (step : ∀ i H Γ τ σ us e ts o e', EnvOk K c σ H Γ (e :: τ) (w :: us) → cpE e = true → viewE Γ e = some (.nd k o ts) → kidX e k o ts i = some e' → i < ts.length → J.go i H ∧ ∀ x H', J.yld i H x H' → H' = H ∧ EnvOk K c σ H Γ (e' :: e :: τ) (x :: w :: us))
    {m : Ms} (E : EnvOk K c (wipe σ cv) H m.g m.s (w :: .ref D :: us)) (hg : lcL k cv bd gt ge n 0 m = some m') (hQ : ∀ H', EnvOk K c (wipe σ cv) H' m'.g m'.s (w :: .ref D :: us) → Q (.ref D) H') :
    ∃ Wv : Nat → Nat → Hp → Prop, (∃ mm, Wv 0 mm H) ∧ ∀ i mm H, Wv i mm H →
      (J.stop i H ∧ Q (.ref D) H) ∨ (J.go i H ∧ ∃ Nx : Hp → Prop, (∀ H', Nx H' → ∃ m', m' < mm ∧ Wv (i + 1) m' H') ∧ ∀ x H', J.yld i H x H' → gT x (wipe σ cv) H' fun σ2 H2 => wipe σ2 cv = wipe σ cv ∧ tt σ2 H2 fun b H3 =>
        if b = true then te σ2 H3 fun y H4 => ∃ acc, H4 D = some (.lst acc) ∧ acc.length < sizeLine ∧ Nx (upd H4 D (.lst (acc ++ [y]))) else Nx H3) := by
  refine ⟨fun i r H => ∃ m : Ms, EnvOk K c (wipe σ cv) H m.g m.s (w :: .ref D :: us) ∧ lcL k cv bd gt ge r i m = some m', ⟨n, m, E, hg⟩, ?_⟩
  rintro i r H ⟨m, E, hg⟩
  cases r with
  | zero =>
    simp only [lcL] at hg
    split at hg
    · rename_i e s hs
      split at hg
      · rename_i k' o ts hv
        split at hg
        · rename_i hl
          cases hg
          obtain ⟨rfl, hl⟩ := hl
          exact .inl ⟨stop i H m'.g s (wipe σ cv) _ e ts o (hs ▸ E) hv hl, hQ H E⟩
        · cases hg
      · cases hg
    · cases hg
  | succ r =>
    simp only [lcL] at hg
    split at hg
    · rename_i e s hs
      split at hg
      · rename_i k' o ts hv
        split at hg
        · rename_i hl
          obtain ⟨rfl, hl⟩ := hl
          split at hg
          · rename_i e' hk
            split at hg
            · rename_i m1 h1
              obtain ⟨go, yld⟩ := step i H m.g s (wipe σ cv) _ e ts o e' (hs ▸ E) hl.1 hv hk (by have := hl.2; omega)
              refine .inr ⟨go, fun H' => ∃ m : Ms, EnvOk K c (wipe σ cv) H' m.g m.s (w :: .ref D :: us) ∧ lcL k' cv bd gt ge r (i + 1) m = some m', fun H' z => ⟨r, by omega, z⟩, fun x H' y => ?_⟩
              obtain ⟨rfl, E1⟩ := yld x H' y
              exact lcTurn_ok (d := 1) hm hT hTt hTe E1 rfl h1 fun H2 E2 => ⟨m1, E2, hg⟩
            · cases hg
          · cases hg
        · cases hg
      · cases hg
    · cases hg
end
section
variable {K : KC} {X : Cx} {T : KT} {md mdc : List Bool} {W : WX} {c : Cz} {σ σ' σ2 : St} {H H' : Hp} {Γ τ τ1 A B P : List Ent} {us us0 us1 vs vs' : List V} {v w : V} {p q : List Nat} {t : Tr} {ts ts' : List Tr} {k k' : Nk} {i j n d h : Nat} {a D : Addr} {en en' : Ent} {o : Ow} {Z : Zn} {ws : List V} {Φ Ψ : Ps} {m m' : Ms} {g ge gt gs ga : GE} {e b tg iter elt : Expr} {ifs : List Expr} {bd : Ms → Option Ms} {cv : List Nat} {gT : TG} {tt : TT} {te : TE} {pos pos' rp : Pos} {scope : Scope} {own : List (Str × Nat)}
theorem allNo_ok : ∀ {cv : List Nat}, allNo Γ cv = true → ∀ i ∈ cv, Γ[i]? = some .no
  | [], _, i, hi => by simp at hi
  | j :: cv, h, i, hi => by
    simp only [allNo, Bool.and_eq_true] at h
    rcases List.mem_cons.mp hi with z | z
    · subst z
      have := h.1
      split at this
      · rename_i h1
        exact h1
      · cases this
    · exact allNo_ok h.2 i z
theorem toW (E : EnvOk K c σ H Γ τ us) (h : allNo Γ cv = true) : EnvOk K c (wipe σ cv) H Γ τ us := by
  refine E.reσ (by rw [wipe_length]) fun i e he => ?_
  by_cases hi : i ∈ cv
  · have := allNo_ok h i hi
    rw [this] at he
    cases he
    exact .inl rfl
  · exact .inr (wipe_get hi)
theorem fromW (E : EnvOk K c (wipe σ cv) H Γ τ us) (h : allNo Γ cv = true) : EnvOk K c σ H Γ τ us := by
  refine E.reσ (by rw [wipe_length]) fun i e he => ?_
  by_cases hi : i ∈ cv
  · have := allNo_ok h i hi
    rw [this] at he
    cases he
    exact .inl rfl
  · exact .inr (wipe_get hi).symm
theorem st_yes : ST K md W tYes (gC (.bl true)) := by
  intro c σ H m us Q rr hc E hg hp
  cases hg
  exact hp H E
/-- [elt for tg in iter if ..]: over a list or tuple -/
def gLc (cv : List Nat) (gs : GE) (bd : Ms → Option Ms) (gt ge : GE) : GE := fun m => match gs m with
  | some (.ok m1) => match ready m1 with
    | some (m2, k, n) => match m2.s with
      | e :: s => if allNo m2.g cv = true then match lcL k cv bd gt ge n 0 ⟨m2.g, e :: .tr (.nd .lst .own []) :: s⟩ with
          | some m3 => if allNo m3.g cv = true then some (.ok ⟨m3.g, m3.s.tail⟩) else none
          | none => none
        else none
      | _ => none
    | none => none
  | some (.ex C g) => some (.ex C g)
  | none => none
theorem EnvOk.empty {s : List Ent} (E : EnvOk K c σ H Γ s us) (hD : H D = none) : EnvOk K c σ (upd H D (.lst [])) Γ (.tr (.nd .lst .own []) :: s) (.ref D :: us) :=
  EnvOk.new (ts := []) (vs := []) (k := .lst) E rfl hD rfl fun o => upd_same
theorem ready_kind {m m' : Ms} (h : ready m = some (m', k, n)) : k = .lst ∨ k = .tup := by
  unfold ready at h
  split at h
  · split at h
    · rename_i hk
      cases h
      exact hk
    · cases h
  · split at h
    · cases h
      exact .inl rfl
    · cases h
  · cases h
theorem stopL {aa : Addr} : ∀ i H Γ τ σ us e ts o, EnvOk K c σ H Γ (e :: τ) (.ref aa :: us) → viewE Γ e = some (.nd .lst o ts) → ts.length = i → (Itl K.K aa).stop i H := fun i H Γ τ σ us e ts o E hv hl => by
  obtain ⟨a', vs', e, ho, hl2⟩ := viewObj E hv
  cases e
  exact ⟨vs', objL ho, by omega⟩
theorem stepL {aa : Addr} : ∀ i H Γ τ σ us e ts o e', EnvOk K c σ H Γ (e :: τ) (.ref aa :: us) → cpE e = true → viewE Γ e = some (.nd .lst o ts) → kidX e .lst o ts i = some e' → i < ts.length → (Itl K.K aa).go i H ∧ ∀ x H', (Itl K.K aa).yld i H x H' → H' = H ∧ EnvOk K c σ H Γ (e' :: e :: τ) (x :: .ref aa :: us) := fun i H Γ τ σ us e ts o e' E hcp hv hk hi => by
  obtain ⟨a', vs', w', e, ho, hl2, hw, E3⟩ := EnvOk.kidX E (cpE_tr hcp) hv hk
  cases e
  refine ⟨⟨vs', w', objL ho, hw⟩, fun x H' y => ?_⟩
  obtain ⟨rfl, y⟩ := y
  have := y vs' (objL ho)
  rw [hw] at this
  cases this
  exact ⟨rfl, E3⟩
theorem stopT {aa : Addr} : ∀ i H Γ τ σ us e ts o, EnvOk K c σ H Γ (e :: τ) (.ref aa :: us) → viewE Γ e = some (.nd .tup o ts) → ts.length = i → (Itt K.K aa).stop i H := fun i H Γ τ σ us e ts o E hv hl => by
  obtain ⟨a', vs', e, ho, hl2⟩ := viewObj E hv
  cases e
  exact ⟨vs', objT ho, by omega⟩
theorem stepT {aa : Addr} : ∀ i H Γ τ σ us e ts o e', EnvOk K c σ H Γ (e :: τ) (.ref aa :: us) → cpE e = true → viewE Γ e = some (.nd .tup o ts) → kidX e .tup o ts i = some e' → i < ts.length → (Itt K.K aa).go i H ∧ ∀ x H', (Itt K.K aa).yld i H x H' → H' = H ∧ EnvOk K c σ H Γ (e' :: e :: τ) (x :: .ref aa :: us) := fun i H Γ τ σ us e ts o e' E hcp hv hk hi => by
  obtain ⟨a', vs', w', e, ho, hl2, hw, E3⟩ := EnvOk.kidX E (cpE_tr hcp) hv hk
  cases e
  refine ⟨⟨vs', w', objT ho, hw⟩, fun x H' y => ?_⟩
  obtain ⟨rfl, y⟩ := y
  have := y vs' (objT ho)
  rw [hw] at this
  cases this
  exact ⟨rfl, E3⟩
theorem se_lc {tl : TE} (si : SE K md W tl gs) (hT : SGW K md cv gT bd) (hTt : ST K md WF tt gt) (hTe : SE K md WF te ge) : SE K md W (tLc (fun σ H R => iList K.K tl σ H R ∨ iTup K.K tl σ H R) gT tt te cv) (gLc cv gs bd gt ge) := by
  intro c σ H m us Q rr hm E hg hp
  simp only [gLc] at hg
  split at hg
  · rename_i m1 h1
    split at hg
    · rename_i m2 k n h2
      split at hg
      · rename_i e s hs
        split at hg
        · rename_i hn1
          split at hg
          · rename_i m3 h3
            split at hg
            · rename_i hn2
              cases hg
              rcases ready_kind h2 with rfl | rfl
              · refine .inl (si c σ H m us _ _ hm E h1 fun x H1 E1 => ?_)
                obtain ⟨E2, e2, s2, o, ts, hs2, hv, _⟩ := ready_ok E1 h2
                rw [hs] at hs2
                cases hs2
                rw [hs] at E2
                obtain ⟨aa, vs, rfl, ho, _⟩ := viewObj E2 hv
                refine ⟨aa, rfl, ⟨vs, objL ho⟩, fun D hD => ?_⟩
                have E3 := EnvOk.swap2 ((toW E2 hn1).empty hD)
                exact lcL_ok hm hT hTt hTe stopL stepL (m := ⟨m2.g, e :: .tr (.nd .lst .own []) :: s⟩) E3 h3 fun H' E4 => hp _ H' (fromW E4 hn2).tail
              · refine .inr (si c σ H m us _ _ hm E h1 fun x H1 E1 => ?_)
                obtain ⟨E2, e2, s2, o, ts, hs2, hv, _⟩ := ready_ok E1 h2
                rw [hs] at hs2
                cases hs2
                rw [hs] at E2
                obtain ⟨aa, vs, rfl, ho, _⟩ := viewObj E2 hv
                refine ⟨aa, rfl, ⟨vs, objT ho⟩, fun D hD => ?_⟩
                have E3 := EnvOk.swap2 ((toW E2 hn1).empty hD)
                exact lcL_ok hm hT hTt hTe stopT stepT (m := ⟨m2.g, e :: .tr (.nd .lst .own []) :: s⟩) E3 h3 fun H' E4 => hp _ H' (fromW E4 hn2).tail
            · cases hg
          · cases hg
        · cases hg
      · cases hg
    · cases hg
  · rename_i h1
    cases hg
    exact .inl (si c σ H m us _ _ hm E h1 hp)
  · cases hg
def gLcR1 (cv : List Nat) (ga : GE) (bd : Ms → Option Ms) (gt ge : GE) : GE := fun m => match ga m with
  | some (.ok ⟨g', .tr (.a (.int j)) :: s⟩) => if -(2 ^ 62) ≤ j ∧ j < 2 ^ 62 ∧ allNo g' cv = true then match lcR cv bd gt ge 0 j.toNat 0 ⟨g', .tr (.nd .lst .own []) :: s⟩ with
      | some m3 => if allNo m3.g cv = true then some (.ok m3) else none
      | none => none
    else none
  | some (.ex C g) => some (.ex C g)
  | _ => none
theorem se_lcR1 {ta : TA} (sa : SA K md W 1 ta ga) (hT : SGW K md cv gT bd) (hTt : ST K md WF tt gt) (hTe : SE K md WF te ge) : SE K md W (tLc (iRng1 ta) gT tt te cv) (gLcR1 cv ga bd gt ge) := by
  intro c σ H m us Q rr hm E hg hp
  simp only [gLcR1] at hg
  split at hg
  · rename_i g' j s h1
    split at hg
    · rename_i hb
      split at hg
      · rename_i m3 h3
        split at hg
        · rename_i hn2
          cases hg
          refine sa c σ H m us _ _ hm E h1 fun vs H1 hl E1 => ?_
          match vs, hl with
          | [x], _ =>
            have E1 : EnvOk K c σ H1 g' (.tr (.a (.int j)) :: s) (x :: us) := E1
            cases top_a E1
            refine ⟨j, rfl, hb.1, hb.2.1, fun D hD => ?_⟩
            exact lcR_ok hm hT hTt hTe (m := ⟨g', .tr (.nd .lst .own []) :: s⟩) ((toW E1.drop hb.2.2).empty hD) h3 fun H' E4 => hp _ H' (fromW E4 hn2)
        · cases hg
      · cases hg
    · cases hg
  · rename_i h1
    cases hg
    exact sa c σ H m us _ _ hm E h1 hp
  · cases hg
end
section
variable {K : KC} {X : Cx} {T : KT} {md mdc : List Bool} {W : WX} {c : Cz} {σ σ' σ2 : St} {H H' : Hp} {Γ τ : List Ent} {us vs : List V} {v w : V} {i j n : Nat} {m m' : Ms} {g ge gt gs ga gk : GE} {e b tg iter elt cnd : Expr} {es : List Expr} {pos pos' rp : Pos} {scope : Scope} {x y : Str} {G : GF} {kk : Nat} {f C : Addr} {fd : FuncData} {ps : List Str} {pp apos : Pos} {me : Str} {is : List Nat}
theorem se_wp : SE K md W (wpE K md W g) g := fun c σ H m us Q r hc E hg hp => ⟨c, m, us, r, hc, E, hg, hp⟩
theorem st_wp : ST K md W (wpT K md W g) g := fun c σ H m us Q r hc E hg hp => ⟨c, m, us, r, hc, E, hg, hp⟩
theorem me_lc0 (hs : ME X T md W iter gs) (ok : BlkOk X.N X.env.scope scope [(x, i)]) (hg : ∀ (s : Shared) (H : Hp) (C : Addr) (cl : List (Str × Addr)) (fp : List Addr), PG (X.blk s H scope (compEnvC scope cl C X.env) fp) tg (gName i))
    (he : ∀ (s : Shared) (H : Hp) (C : Addr) (cl : List (Str × Addr)) (fp : List Addr), ME (X.blk s H scope (compEnvC scope cl C X.env) fp) T md WF elt ge)
    (hc : X.calm = true) (hN : X.N.Nodup) (hf : ∀ x, foldedSetIterable iter X.env x = pure x := by intro _; rfl) : ME X T md W (.ListComp elt [⟨tg, iter, [], 0⟩] scope pos) (gLc [i] gs (bind md i) (gC (.bl true)) ge) := by
  obtain ⟨ti, pi, si⟩ := hs
  exact ⟨_, pe_lc (te := wpE (kcm X.K T) md WF ge) hc hN (PI.or (pi_list pi) (pi_tup pi)) ok hg (fun s H C cl fp => pts_nil) (fun s H C cl fp => (he s H C cl fp).pe) hf, se_lc si sgw_name st_yes se_wp⟩
/-- the walks over ranges, given as the rule of the comprehension -/
theorem me_lcR1 (ha : MA X T md W [e] ga) (ok : BlkOk X.N X.env.scope scope [(x, i)]) (hg : ∀ (s : Shared) (H : Hp) (C : Addr) (cl : List (Str × Addr)) (fp : List Addr), PG (X.blk s H scope (compEnvC scope cl C X.env) fp) tg (gName i))
    (ht : ∀ (s : Shared) (H : Hp) (C : Addr) (cl : List (Str × Addr)) (fp : List Addr), MT (X.blk s H scope (compEnvC scope cl C X.env) fp) T md WF cnd gt) (he : ∀ (s : Shared) (H : Hp) (C : Addr) (cl : List (Str × Addr)) (fp : List Addr), ME (X.blk s H scope (compEnvC scope cl C X.env) fp) T md WF elt ge)
    (hgl : Gl X "range") (hmg : X.mg "range" = none) (hc : X.calm = true) (hN : X.N.Nodup) (hs : starEach [e] X.env = [(false, eval e X.env)] := by rfl) (hf : ∀ x, foldedSetIterable (.Call (.Name "range" rp) [e] [] pos') X.env x = pure x := by intro _; rfl) : ME X T md W (.ListComp elt [⟨tg, .Call (.Name "range" rp) [e] [] pos', [cnd], 0⟩] scope pos) (gLcR1 [i] ga (bind md i) gt ge) := by
  obtain ⟨ti, pi, si⟩ := ha
  exact ⟨_, pe_lc (te := wpE (kcm X.K T) md WF ge) (tt := wpT (kcm X.K T) md WF gt) hc hN (pi_range1 hgl hmg pi hs) ok hg (fun s H C cl fp => pts_one (ht s H C cl fp).pt) (fun s H C cl fp => (he s H C cl fp).pe) hf, se_lcR1 si sgw_name st_wp se_wp⟩
theorem me_lcR10 (ha : MA X T md W [e] ga) (ok : BlkOk X.N X.env.scope scope [(x, i)]) (hg : ∀ (s : Shared) (H : Hp) (C : Addr) (cl : List (Str × Addr)) (fp : List Addr), PG (X.blk s H scope (compEnvC scope cl C X.env) fp) tg (gName i))
    (he : ∀ (s : Shared) (H : Hp) (C : Addr) (cl : List (Str × Addr)) (fp : List Addr), ME (X.blk s H scope (compEnvC scope cl C X.env) fp) T md WF elt ge)
    (hgl : Gl X "range") (hmg : X.mg "range" = none) (hc : X.calm = true) (hN : X.N.Nodup) (hs : starEach [e] X.env = [(false, eval e X.env)] := by rfl) (hf : ∀ x, foldedSetIterable (.Call (.Name "range" rp) [e] [] pos') X.env x = pure x := by intro _; rfl) : ME X T md W (.ListComp elt [⟨tg, .Call (.Name "range" rp) [e] [] pos', [], 0⟩] scope pos) (gLcR1 [i] ga (bind md i) (gC (.bl true)) ge) := by
  obtain ⟨ti, pi, si⟩ := ha
  exact ⟨_, pe_lc (te := wpE (kcm X.K T) md WF ge) hc hN (pi_range1 hgl hmg pi hs) ok hg (fun s H C cl fp => pts_nil) (fun s H C cl fp => (he s H C cl fp).pe) hf, se_lcR1 si sgw_name st_yes se_wp⟩
/-- a statement by its own rule, from a value's term: the rule of the statement, and the machine's term of the value -/
theorem ms_asgOf {st : Stmt} {te : TE} (hp : PS X st (tAsg te (gName i))) (s : SE (kcm X.K T) md W te ge) : MS X T md W st (sSet md i ge) := ⟨_, hp, ss_set s⟩
/-! calls that let nothing out -/
def noEx (g : GE) : GE := fun m => match g m with
  | some (.ok m') => some (.ok m')
  | _ => none
theorem noEx_ok {R : St → List V → Hp → VK → Prop} (h : RA K md WF n R g) : RA K md W n R (noEx g) := by
  intro c σ H m us vs Q rr hc hl E hf hp
  unfold noEx at hf
  split at hf
  · rename_i m2 h2
    cases hf
    exact h c σ H m us vs Q (.ok m2) hc hl E h2 hp
  · cases hf
theorem spOf_E0 (hin : ∀ i ∈ is, i < n) (hpw : is.reverse.Pairwise (· > ·)) : RA K md W n (fun _ vs H Q => spOf K mdc G vs H Q E0) (noEx (gCall is mdc G n)) := noEx_ok (gCall_ok (W := WF) hin hpw)
theorem me_make (M : Mk X.K (T.ct n) f) (F : FnOk X.prog X.w X.K X.mg X.base (L2N.CX X.prog X.w) kk f fd ps (spOf (kcm X.K T) (true :: mdc) G)) (hr : Room (kk + 1) X.A) (hg : Gl X x) (hm : X.mg x = some (.ref (T.ct n))) (hb : Binds X.K fd ps []) (ha : MA X T md W (e :: es) ga)
    (hdb : (x == ("__debug__" : Str)) = false := by decide) (he : starEach (e :: es) X.env = (false, eval e X.env) :: starEach es X.env := by rfl) (hpl : (backTo pos (starEach es X.env)).any (·.1) = false := by rfl) :
    ME X T md W (.Call (.Name x pp) (e :: es) [] pos) (gSeq ga (noEx (gMake n mdc G (e :: es).length))) := by
  obtain ⟨t, pa, sa⟩ := ha
  refine ⟨_, pe_make M F hr hg hm hb .nil passL pa hdb he hpl, ?_⟩
  refine seqA sa (noEx_ok (R := fun _ vs H1 Q => ∀ x dx, H1 x = none → H1 dx = none → dx ≠ x → spOf (kcm X.K T) (true :: mdc) G (.ref x :: (vs ++ [])) (upd (upd H1 dx (.own x)) x (.ins (T.ct n) dx [])) (fun v H2 => v = .non ∧ Q (.ref x) H2) E0) ?_)
  intro c σ H m us vs Q rr hc hl E hf hp xa dx h1 h2 h3
  rw [List.append_nil]
  exact gMake_ok E hl hf hp (fun _ _ h => h) h1 h2 h3
def MKw (X : Cx) (T : KT) (md : List Bool) (W : WX) (kws : List Keyword) (g : GE) : Prop := ∃ t, PK X kws t ∧ SA (kcm X.K T) md W kws.length t g
theorem mk_nil : MKw X T md W [] gNil := ⟨_, pk_nil, fun c σ H m us Q rr hc E hg hp => by
  cases hg
  exact hp [] H rfl E⟩
theorem mk_cons {kws : List Keyword} {nm : Option Str} {kpos : Pos} (ha : ME X T md W e ge) (hr : MKw X T md W kws gk) : MKw X T md W (⟨nm, e, kpos⟩ :: kws) (gSeq ge gk) := by
  obtain ⟨t, p, s⟩ := ha
  obtain ⟨t', p', s'⟩ := hr
  refine ⟨_, pk_cons p p', fun c σ H m us Q rr hc E hg hp => ?_⟩
  simp only [gSeq] at hg
  split at hg
  · rename_i m1 h1
    refine s c σ H m us _ _ hc E h1 fun x H1 E1 => s' c σ H1 m1 _ _ _ hc E1 hg ?_
    cases rr with
    | ex C g' => exact hp
    | ok m2 => exact fun vs H2 hl E2 => hp (x :: vs) H2 (by simp [hl]) (by simpa using E2)
  · rename_i h1
    refine s c σ H m us _ _ hc E hg ?_
    cases rr with
    | ex C g' => exact hp
    | ok m2 => exact absurd hg (h1 m2)
theorem seqAK {tA tK : TA} {R : List V → Hp → VK → Prop} {fg : GE} {n2 : Nat} (sa : SA K md W n tA ga) (sk : SA K md W n2 tK gk) (hf : RA K md W (n + n2) (fun _ => R) fg) : SE K md W (fun σ H Q => tA σ H fun vs H1 => tK σ H1 fun zs H2 => vs.length = n ∧ zs.length = n2 ∧ R (vs ++ zs) H2 Q) (gSeq ga (gSeq gk fg)) := by
  intro c σ H m us Q rr hc E hg hp
  simp only [gSeq] at hg
  split at hg
  · rename_i m1 h1
    refine sa c σ H m us _ _ hc E h1 fun vs H1 hl E1 => ?_
    split at hg
    · rename_i m2 h2
      refine sk c σ H1 m1 _ _ _ hc E1 h2 fun zs H2 hz E2 => ⟨hl, hz, ?_⟩
      exact hf c σ H2 m2 us (vs ++ zs) Q rr hc (by simp [hl, hz]) (by simpa using E2) hg hp
    · rename_i h2
      refine sk c σ H1 m1 _ _ _ hc E1 hg ?_
      cases rr with
      | ex C g' => exact hp
      | ok m2 => exact absurd hg (h2 m2)
  · rename_i h1
    refine sa c σ H m us _ _ hc E hg ?_
    cases rr with
    | ex C g' => exact hp
    | ok m2 => exact absurd hg (h1 m2)
theorem me_makeK {ks : List Str} {kws : List Keyword} {gg : List Value → List Value → List Value} (M : Mk X.K (T.ct n) f) (F : FnOk X.prog X.w X.K X.mg X.base (L2N.CX X.prog X.w) kk f fd ps (spOf (kcm X.K T) (true :: mdc) G)) (hr : Room (kk + 1) X.A) (hg : Gl X x) (hm : X.mg x = some (.ref (T.ct n))) (hb : KBn X.K fd ps ((e :: es).length + 1) ks gg (fun vs zs => vs ++ zs)) (ha : MA X T md W (e :: es) ga) (hkw : MKw X T md W kws gk) (hlk : ks.length = kws.length)
    (hall : (backToKw pos (keywordEach kws X.env)).all (·.1.isSome) = true := by rfl) (hks : (backToKw pos (keywordEach kws X.env)).filterMap (·.1) = ks := by rfl) (hdb : (x == ("__debug__" : Str)) = false := by decide)
    (he : starEach (e :: es) X.env = (false, eval e X.env) :: starEach es X.env := by rfl) (hpl : ((backTo pos (starEach (e :: es) X.env)).any (·.1) || (backToKw pos (keywordEach kws X.env)).any (·.1.isNone)) = false := by rfl) :
    ME X T md W (.Call (.Name x pp) (e :: es) kws pos) (gSeq ga (gSeq gk (noEx (gMake n mdc G ((e :: es).length + kws.length))))) := by
  obtain ⟨t, pa, sa⟩ := ha
  obtain ⟨tk, pk, sk⟩ := hkw
  refine ⟨_, pe_makeK M F hr hg hm hb passL pa pk hall hks hdb he hpl, ?_⟩
  rw [hlk]
  refine seqAK sa sk (noEx_ok (R := fun _ ws H1 Q => ∀ x dx, H1 x = none → H1 dx = none → dx ≠ x → spOf (kcm X.K T) (true :: mdc) G (.ref x :: ws) (upd (upd H1 dx (.own x)) x (.ins (T.ct n) dx [])) (fun v H2 => v = .non ∧ Q (.ref x) H2) E0) ?_)
  intro c σ H m us vs Q rr hc hl E hf hp xa dx h1 h2 h3
  exact gMake_ok E hl hf hp (fun _ _ h => h) h1 h2 h3
theorem me_callN {ks : List Str} {kws : List Keyword} {gg : List Value → List Value → List Value} (F : FnOk X.prog X.w X.K X.mg X.base (L2N.CX X.prog X.w) kk f fd ps (spOf (kcm X.K T) mdc G)) (hr : Room kk X.A) (hg : Gl X x) (hm : X.mg x = some (.ref f)) (hk : PySem.W.keepIn X.K (.ref f) = true) (hb : KBn X.K fd ps (e :: es).length ks gg (fun vs zs => vs ++ zs)) (ha : MA X T md W (e :: es) ga) (hkw : MKw X T md W kws gk) (hlk : ks.length = kws.length) (hin : ∀ i ∈ is, i < (e :: es).length + kws.length) (hpw : is.reverse.Pairwise (· > ·))
    (hall : (backToKw pos (keywordEach kws X.env)).all (·.1.isSome) = true := by rfl) (hks : (backToKw pos (keywordEach kws X.env)).filterMap (·.1) = ks := by rfl) (hdb : (x == ("__debug__" : Str)) = false := by decide)
    (he : starEach (e :: es) X.env = (false, eval e X.env) :: starEach es X.env := by rfl) (hpl : ((backTo pos (starEach (e :: es) X.env)).any (·.1) || (backToKw pos (keywordEach kws X.env)).any (·.1.isNone)) = false := by rfl) :
    ME X T md W (.Call (.Name x pp) (e :: es) kws pos) (gSeq ga (gSeq gk (noEx (gCall is mdc G ((e :: es).length + kws.length))))) := by
  obtain ⟨t, pa, sa⟩ := ha
  obtain ⟨tk, pk, sk⟩ := hkw
  refine ⟨_, pe_callN F hr hg hm hk hb passL pa pk hall hks hdb he hpl, ?_⟩
  rw [hlk]
  exact seqAK sa sk (spOf_E0 hin hpw)
end
section
variable {X : Cx} {CX : CXT} {k : Nat} {C g : Addr} {sp : Sp} {E : XK} {o e : Expr} {es : List Expr} {m : Str} {pos apos : Pos} {ta : TE} {t : TA} {pl : Sem Bool} {fd : FuncData} {ps : List Str} {ds : List Value} {dvs : List V}
end
section
variable {K : KC} {X : Cx} {T : KT} {md mdc : List Bool} {W : WX} {c : Cz} {σ σ' σ2 : St} {H H' : Hp} {Γ τ : List Ent} {us vs : List V} {v w : V} {i j n : Nat} {m m' : Ms} {g ge gt gs ga gk gv go gi fo : GE} {gb : GS} {e b tg iter elt cnd oe ie : Expr} {es : List Expr} {pos pos' rp tpos : Pos} {x y : Str} {G : GF} {kk : Nat} {f C : Addr} {fd : FuncData} {ps : List Str} {pp apos : Pos} {me fl : Str} {is : List Nat} {pl : Sem Bool} {ts : List Tr} {t : Tr} {sts : List Stmt} {st : Stmt}
/-! several names at once -/
def bindAll (md : List Bool) : List Nat → Ms → Option Ms
  | [], m => some m
  | i :: is, m => match bind md i m with
    | some m' => bindAll md is m'
    | none => none
def tNames : List Nat → TGs
  | [] => L2.gNil
  | i :: is => gCons (gName i) (tNames is)
theorem bindAll_ok (hc : c.md = md) : ∀ {is : List Nat} {xs : List V} {m m' : Ms} {σ : St} {Q : St → Hp → Prop}, xs.length = is.length → EnvOk K c σ H m.g m.s (xs ++ us) → bindAll md is m = some m' → (∀ σ', EnvOk K c σ' H m'.g m'.s us → Q σ' H) → tNames is xs σ H Q
  | [], [], m, m', σ, Q, _, E, h, hq => by
    simp only [bindAll] at h
    cases h
    exact ⟨rfl, hq σ E⟩
  | i :: is, x :: xs, m, m', σ, Q, hl, E, h, hq => by
    simp only [bindAll] at h
    split at h
    · rename_i m1 h1
      exact ⟨x, xs, rfl, bindAll_ok hc (by simpa using hl) (bind_ok hc E h1) h hq⟩
    · cases h
  | [], _ :: _, _, _, _, _, hl, _, _, _ => by simp at hl
  | _ :: _, [], _, _, _, _, hl, _, _, _ => by simp at hl
def unpkP (md : List Bool) : List Nat → Nat → Ms → Option Ms
  | [], _, m => some ⟨m.g, m.s.tail⟩
  | i :: is, j, m => match m.s with
    | .al p :: s => match getG m.g p with
      | some (.nd .lst .own ts) => match kidX (.al p) .lst .own ts j with
        | some e' => match bind md i ⟨m.g, e' :: .al p :: s⟩ with
          | some m' => unpkP md is (j + 1) m'
          | none => none
        | none => none
      | _ => none
    | _ => none
def unpk (md : List Bool) (is : List Nat) : Ms → Option Ms := fun m => match m.s with
  | .tr (.nd k o ts) :: s => if (k = .lst ∨ k = .tup) ∧ ts.length = is.length then bindAll md is ⟨m.g, (ts.map (kid o)).map Ent.tr ++ s⟩ else none
  | .al p :: s => match getG m.g p with
    | some (.nd .lst .own ts) => if ts.length = is.length then unpkP md is 0 ⟨m.g, .al p :: s⟩ else none
    | _ => none
  | _ => none
theorem unpkP_ok {aa : Addr} (hc : c.md = md) (hH : H aa = some (.lst vs)) : ∀ {is : List Nat} {j : Nat} {m m' : Ms} {σ : St} {Q : St → Hp → Prop}, j + is.length = vs.length → EnvOk K c σ H m.g m.s (.ref aa :: us) → unpkP md is j m = some m' → (∀ σ', EnvOk K c σ' H m'.g m'.s us → Q σ' H) → tNames is (vs.drop j) σ H Q
  | [], j, m, m', σ, Q, hl, E, h, hq => by
    simp only [unpkP] at h
    cases h
    exact ⟨List.drop_of_length_le (by simp at hl; omega), hq σ E.tail⟩
  | i :: is, j, m, m', σ, Q, hl, E, h, hq => by
    simp only [unpkP] at h
    split at h
    · rename_i p s hs
      split at h
      · rename_i ts hg
        split at h
        · rename_i e' hk
          split at h
          · rename_i m1 h1
            rw [hs] at E
            obtain ⟨a', vs', w', ea, ho, hl2, hw, E1⟩ := EnvOk.kidX E (fun t q => by cases q) (k := .lst) (o := .own) (ts := ts) hg hk
            cases ea
            have ho : H aa = some (.lst vs') := ho
            rw [hH] at ho
            cases ho
            have hjl := getq_lt' hw
            have ed : vs.drop j = w' :: vs.drop (j + 1) := by rw [List.drop_eq_getElem_cons hjl, (List.getElem?_eq_some_iff.mp hw).2]
            rw [ed]
            exact ⟨w', _, rfl, unpkP_ok hc hH (by simp at hl; omega) (bind_ok hc E1 h1) h hq⟩
          · cases h
        · cases h
      · cases h
    · cases h
theorem zip_rev {α β : Type} : ∀ {l : List α} {r : List β}, l.length = r.length → l.reverse.zip r.reverse = (l.zip r).reverse
  | [], [], _ => rfl
  | a :: l, b :: r, h => by
    rw [List.reverse_cons, List.reverse_cons, List.zip_cons_cons, List.reverse_cons, List.zip_append (by simpa using h), zip_rev (by simpa using h)]
    rfl
theorem EnvOk.revs {s : List Ent} (hl : ts.length = vs.length) (E : EnvOk K c σ H Γ (ts.reverse.map Ent.tr ++ s) (vs.reverse ++ us)) : EnvOk K c σ H Γ (ts.map Ent.tr ++ s) (vs ++ us) := by
  have lt : s.length = us.length := by
    have := tail_len E
    simp at this
    omega
  have h := EnvOk.perm (K := K) (c := c) (σ := σ) (H := H) (Γ := Γ) (l := (ts.map Ent.tr).reverse.zip vs.reverse ++ s.zip us) (l' := (ts.map Ent.tr).zip vs ++ s.zip us) (by
    refine List.Perm.append_right _ ?_
    rw [zip_rev (by simpa using hl)]
    exact List.reverse_perm _)
  have l1 : (ts.map Ent.tr).length = vs.length := by simpa using hl
  simp only [List.map_append, List.map_fst_zip (Nat.le_of_eq l1), List.map_snd_zip (Nat.le_of_eq l1.symm), List.map_fst_zip (Nat.le_of_eq lt), List.map_snd_zip (Nat.le_of_eq lt.symm)] at h
  rw [List.map_fst_zip (by simp; omega), List.map_snd_zip (by simp; omega)] at h
  exact h (by simpa using E)
theorem PG.or {t1 t2 : TG} (h1 : PG X tg t1) (h2 : PG X tg t2) : PG X tg (fun v σ H Q => t1 v σ H Q ∨ t2 v σ H Q) := by
  refine ⟨fun pins s σ H v u Q I r h => ?_⟩
  rcases h with h | h
  · exact h1.run pins s σ H v u Q I r h
  · exact h2.run pins s σ H v u Q I r h
theorem sg_unp : SG K md (fun v σ H Q => gTup K.K is.length (tNames is) v σ H Q ∨ gLst K.K is.length (tNames is) v σ H Q) (unpk md is) := by
  intro c σ H m m' us x Q hc E h hq
  unfold unpk at h
  split at h
  · rename_i k o ts s hs
    split at h
    · rename_i hk
      rw [hs] at E
      obtain ⟨ad, vs, rfl, ho, hl, _, E1⟩ := EnvOk.items (ts' := ts.map (kid o)) E (by rfl) (by rfl)
      have E2 := EnvOk.revs (ts := ts.map (kid o)) (by simpa using hl) E1
      rcases hk.1 with rfl | rfl
      · exact .inr ⟨ad, vs, rfl, objL ho, by omega, bindAll_ok (m := ⟨m.g, (ts.map (kid o)).map Ent.tr ++ s⟩) hc (by omega) E2 h fun σ' E3 => hq σ' H E3⟩
      · exact .inl ⟨ad, vs, rfl, objT ho, by omega, bindAll_ok (m := ⟨m.g, (ts.map (kid o)).map Ent.tr ++ s⟩) hc (by omega) E2 h fun σ' E3 => hq σ' H E3⟩
    · cases h
  · rename_i p s hs
    split at h
    · rename_i ts hg
      split at h
      · rename_i hl
        rw [hs] at E
        obtain ⟨ad, vs, rfl, ho, hl2⟩ := viewObj E (k := .lst) (o := .own) (ts := ts) hg
        have hb := unpkP_ok (m := ⟨m.g, .al p :: s⟩) (j := 0) hc ho (by omega) E h (fun σ' E3 => hq σ' H E3)
        exact .inr ⟨ad, vs, rfl, objL ho, by omega, by simpa using hb⟩
      · cases h
    · cases h
  · cases h
theorem mg_unp (h1 : PG X tg (gTup X.K is.length (tNames is))) (h2 : PG X tg (gLst X.K is.length (tNames is))) : MG X T md tg (unpk md is) := ⟨_, PG.or h1 h2, sg_unp⟩
/-- target = e, by the target's machine -/
def sAsg (ge : GE) (bd : Ms → Option Ms) : GS := fun m => match ge m with
  | some (.ok m1) => match bd m1 with
    | some m2 => some (.nx m2)
    | none => none
  | some (.ex C g) => some (.ex C g)
  | none => none
theorem ms_asg {bd : Ms → Option Ms} (h : ME X T md W e ge) (hT : MG X T md tg bd) (hp : ∀ {te : TE} {g : TG}, PE X e te → PG X tg g → PS X (.Assign [tg] e pos) (tAsg te g)) : MS X T md W (.Assign [tg] e pos) (sAsg ge bd) := by
  obtain ⟨t, p, s⟩ := h
  obtain ⟨tt, pt, stt⟩ := hT
  refine ⟨_, hp p pt, fun c σ H m us D o hc E hg hp => ?_⟩
  simp only [sAsg] at hg
  split at hg
  · rename_i m1 h1
    split at hg
    · rename_i m2 h2
      cases hg
      exact s c σ H m us _ _ hc E h1 fun x H1 E1 => stt c σ H1 m1 m2 us x _ hc E1 h2 fun σ' H' E2 => hp σ' H' E2
    · cases hg
  · rename_i h1
    cases hg
    exact s c σ H m us _ _ hc E h1 fun H1 E1 => hp σ H1 E1
  · cases hg
/-- a, b = x, y -/
def sPar (md : List Bool) (i j : Nat) (ga : GE) : GS := fun m => match ga m with
  | some (.ok ⟨g', y :: x :: s⟩) => match bindAll md [i, j] ⟨g', x :: y :: s⟩ with
    | some m2 => some (.nx m2)
    | none => none
  | some (.ex C g) => some (.ex C g)
  | _ => none
/-! raise -/
def sRaise (C : Nat) : GS := fun m => some (.ex C m.g)
theorem ms_raise {n : Nat} (hc : X.calm = true) (tk : Takes X W) (he : PMk X e (fun _ H Q => Q (.ref (T.et n)) none H)) : MS X T md W (.Raise (some e) none pos) (sRaise n) := by
  refine ⟨_, L2N.ps_raise hc tk he, fun c σ H m us D o hc E hg hp => ?_⟩
  cases hg
  exact hp σ H E.dropAll
/-! while -/
def sWhile (gt : GE) (body : GS) : Nat → GS
  | 0 => fun _ => none
  | r + 1 => fun m => match gt m with
    | some (.ok ⟨g', .tr (.a (.bl true)) :: s'⟩) => match body ⟨g', s'⟩ with
      | some (.nx m2) => sWhile gt body r m2
      | some (.ct m2) => sWhile gt body r m2
      | some (.bk m2) => some (.nx m2)
      | some (.rt t m2) => some (.rt t m2)
      | some (.ex C g) => some (.ex C g)
      | none => none
    | some (.ok ⟨g', .tr (.a (.bl false)) :: s'⟩) => some (.nx ⟨g', s'⟩)
    | some (.ex C g') => some (.ex C g')
    | _ => none
theorem ms_while (r : Nat) (hc : MT X T md W e gt) (hB : MSs X T md W sts gb) (hp : PassesOwn (model X.prog X.w) X.A X.env X.xe) : MS X T md W (.While e sts [] pos) (sWhile gt gb r) := by
  obtain ⟨tc, pc, sc⟩ := hc
  obtain ⟨tb, pb, sb⟩ := hB
  refine ⟨_, ps_while hp pc pb, fun c σ H m us D o hm E hg hpo => ?_⟩
  refine ⟨fun r σ H => ∃ m : Ms, EnvOk (kcm X.K T) c σ H m.g m.s us ∧ sWhile gt gb r m = some o, ⟨r, m, E, hg⟩, ?_⟩
  rintro r σ H ⟨m, E, hg⟩
  cases r with
  | zero => simp [sWhile] at hg
  | succ r =>
    simp only [sWhile] at hg
    split at hg
    · rename_i g' s' h1
      refine sc c σ H m us _ _ hm E h1 fun H1 E1 => iteT ?_
      refine ⟨fun σ' H' => ∃ m : Ms, EnvOk (kcm X.K T) c σ' H' m.g m.s us ∧ sWhile gt gb r m = some o, fun σ' H' z => ⟨r, by omega, z⟩, ?_⟩
      cases h2 : gb ⟨g', s'⟩ with
      | none => simp [h2] at hg
      | some o2 =>
        refine sb c σ H1 ⟨g', s'⟩ us _ o2 hm E1 h2 ?_
        cases o2 with
        | nx m2 =>
          simp only [h2] at hg
          exact fun σ3 H3 E3 => ⟨m2, E3, hg⟩
        | ct m2 =>
          simp only [h2] at hg
          exact fun σ3 H3 E3 => ⟨m2, E3, hg⟩
        | bk m2 =>
          simp only [h2] at hg
          cases hg
          exact hpo
        | rt t m2 =>
          simp only [h2] at hg
          cases hg
          exact hpo
        | ex C g' =>
          simp only [h2] at hg
          cases hg
          exact hpo
    · rename_i g' s' h1
      cases hg
      exact sc c σ H m us _ _ hm E h1 fun H1 E1 => iteF (hpo σ H1 E1)
    · rename_i C g' h1
      cases hg
      exact sc c σ H m us _ _ hm E h1 fun H1 E1 => hpo σ H1 E1
    · cases hg
end
section
variable {K : KC} {X : Cx} {T : KT} {md mdc : List Bool} {W : WX} {c : Cz} {σ σ' σ2 : St} {H H' : Hp} {Γ τ : List Ent} {us vs : List V} {v w : V} {i j n : Nat} {m m' : Ms} {g ge gt gs ga gk gv go gi fo : GE} {gb : GS} {e b oe ie : Expr} {es : List Expr} {pos pos' rp tpos : Pos} {fl : Str} {tab : List (Nat × Nat)} {op : Operator}
/-! o.f op= e -/
def sFAug (tab : List (Nat × Nat)) (go gv fo : GE) : GS := fun m => match go m with
  | some (.ok ⟨g1, .al p :: s1⟩) => match getG g1 p with
    | some (.nd (.ins n k) .own ts) => match tab.lookup n with
      | some j => match ts[j]? with
        | some (.a u) => match gv ⟨g1, .tr (.a u) :: .al p :: s1⟩ with
          | some (.ok m2) => match fo m2 with
            | some (.ok ⟨g3, .tr (.a z) :: e3 :: s3⟩) => match viewE g3 e3 with
              | some (.nd (.ins n' _) _ _) => if n' = n then match stFld tab ⟨g3, e3 :: .tr (.a z) :: s3⟩ with
                  | some m4 => some (.nx m4)
                  | none => none
                else none
              | _ => none
            | _ => none
          | some (.ex C g) => some (.ex C g)
          | none => none
        | _ => none
      | none => none
    | _ => none
  | some (.ex C g) => some (.ex C g)
  | _ => none
theorem ms_faug {rd : V → V → Hp → VK → Prop} (ho : ME X T md W oe go) (hv : ME X T md W e gv) (ht : FldOk X.K T fl tab) (hf : RA2 (kcm X.K T) md W rd fo) (hp : ∀ {ta tv : TE}, PE X oe ta → PE X e tv → PS X (.AugAssign (.Attribute oe fl tpos) op e pos) (sFldAug X.K ta tv rd fl)) : MS X T md W (.AugAssign (.Attribute oe fl tpos) op e pos) (sFAug tab go gv fo) := by
  obtain ⟨to, po, so⟩ := ho
  obtain ⟨tv, pv, sv⟩ := hv
  refine ⟨_, hp po pv, fun c σ H m us D oo hc E hg hpo => ?_⟩
  simp only [sFAug] at hg
  split at hg
  · rename_i g1 p s1 h1
    split at hg
    · rename_i n k ts hgp
      split at hg
      · rename_i j hj
        split at hg
        · rename_i u hu
          refine so c σ H m us _ _ hc E h1 fun x H1 E1 => ?_
          have E1 : EnvOk (kcm X.K T) c σ H1 g1 (.al p :: s1) (x :: us) := E1
          have hk : kidX (.al p) (.ins n k) .own ts j = some (.tr (.a u)) := by
            unfold kidX
            rw [hu]
            simp [kid, cp]
          obtain ⟨ad, vs, w', rfl, ho, hl, hw, E2⟩ := EnvOk.kidX E1 (fun t q => by cases q) (k := .ins n k) (o := .own) (ts := ts) hgp hk
          have ew := top_a E2
          subst ew
          obtain ⟨l, dx, ho⟩ := ho
          obtain ⟨c1, c2, c3⟩ := ht n j (mem_lookup hj)
          have hjk : j < k := by
            have h1 := getq_lt' hw
            have h2 : ((T.nm n).take k).length = vs.length := l
            rw [List.length_take] at h2
            omega
          refine ⟨ad, T.ct n, dx, _, w', rfl, ho, c1, c2, by rw [lookup_zip (idx_take c3 hjk) l]; exact hw, ?_⟩
          split at hg
          · rename_i m2 h2
            refine sv c σ H1 _ _ _ _ hc E2 h2 fun y H2 E3 => ?_
            split at hg
            · rename_i g3 z e3 s3 h3
              split at hg
              · rename_i n' k3 o3 ts3 hv3
                split at hg
                · rename_i hn3
                  split at hg
                  · rename_i m4 h4
                    cases hg
                    refine hf.use hc E3 h3 fun zv H3 E4 => ?_
                    have E4 : EnvOk (kcm X.K T) c σ H3 g3 (.tr (.a z) :: e3 :: s3) (zv :: .ref ad :: us) := E4
                    have E5 := EnvOk.swap2 E4
                    obtain ⟨a', C', dx', fs', ea, hin, _, _, hlen, hD, hC⟩ := stFld_ok ht (m := ⟨g3, e3 :: .tr (.a z) :: s3⟩) E5 h4 fun H4 E6 => hpo σ H4 E6
                    cases ea
                    have : C' = T.ct n := by rw [← hn3]; exact hC n' k3 o3 ts3 e3 _ rfl hv3
                    subst this
                    exact ⟨dx', fs', hin, hlen, hD⟩
                  · cases hg
                · cases hg
              · cases hg
            · cases hg
          · rename_i h2
            cases hg
            exact sv c σ H1 _ _ _ _ hc E2 h2 fun H2 E3 => hpo σ H2 E3
          · cases hg
        · cases hg
      · cases hg
    · cases hg
  · rename_i h1
    cases hg
    exact so c σ H m us _ _ hc E h1 fun H1 E1 => hpo σ H1 E1
  · cases hg
/-! o[i] op= e, of a list -/
def sSAug (go gi gv fo : GE) : GS := fun m => match gSeq go gi m with
  | some (.ok ⟨g1, .tr (.a (.int x)) :: .al p :: s1⟩) => match getG g1 p with
    | some (.nd .lst .own ts) => match ixN ts.length x with
      | some j => match ts[j]? with
        | some (.a u) => match gv ⟨g1, .tr (.a u) :: .tr (.a (.int x)) :: .al p :: s1⟩ with
          | some (.ok m2) => match fo m2 with
            | some (.ok ⟨g3, .tr (.a z) :: e3 :: e4 :: s3⟩) => match stSub ⟨g3, e3 :: e4 :: .tr (.a z) :: s3⟩ with
              | some m4 => some (.nx m4)
              | none => none
            | _ => none
          | some (.ex C g) => some (.ex C g)
          | none => none
        | _ => none
      | none => none
    | _ => none
  | some (.ex C g) => some (.ex C g)
  | _ => none
end
section
variable {K : KC} {X : Cx} {T : KT} {md mdc : List Bool} {W : WX} {c : Cz} {σ : St} {H : Hp} {us : List V} {i n j : Nat} {m : Ms} {g ga gb gc ge gt gs f f' : GE} {e a b cc tg iter elt cnd : Expr} {pos pos' rp py spos : Pos} {scope : Scope} {x y fl : Str} {r r' : R2} {tab : List (Nat × Nat)} {Kf : PySem.W.Frag}
theorem FldOk.nil : FldOk Kf T fl [] := fun n j h => by simp at h
theorem FldOk.cons (h1 : Cls Kf (T.ct n)) (h2 : NoAttr Kf (T.ct n) fl) (h3 : (T.nm n).idxOf? fl = some j) (h : FldOk Kf T fl tab) : FldOk Kf T fl ((n, j) :: tab) := fun n' j' q => by
  rcases List.mem_cons.mp q with z | z
  · cases z
    exact ⟨h1, h2, h3⟩
  · exact h n' j' z
/-! a < b < c -/
def gChain (ga gb f gc f' : GE) : GE := fun m => match gSeq ga gb m with
  | some (.ok ⟨g1, .tr (.a v) :: s1⟩) => match f ⟨g1, .tr (.a v) :: s1⟩ with
    | some (.ok ⟨g2, .tr (.a (.bl true)) :: s2⟩) => match gc ⟨g2, .tr (.a v) :: s2⟩ with
      | some (.ok m3) => f' m3
      | some (.ex C g) => some (.ex C g)
      | none => none
    | some (.ok ⟨g2, .tr (.a (.bl false)) :: s2⟩) => some (.ok ⟨g2, .tr (.a (.bl false)) :: s2⟩)
    | _ => none
  | some (.ex C g) => some (.ex C g)
  | _ => none
theorem se_chain {ta tb tc : TE} (sa : SE K md W ta ga) (sb : SE K md W tb gb) (hf : RA2 K md W r f) (sc : SE K md W tc gc) (hf' : RA2 K md W r' f') : SE K md W (tChain r r' ta tb tc) (gChain ga gb f gc f') := by
  intro c σ H m us Q rr hc E hg hp
  simp only [gChain] at hg
  cases e1 : ga m with
  | none => simp [gSeq, e1] at hg
  | some r1 =>
    cases r1 with
    | ex C g' =>
      simp only [gSeq, e1] at hg
      cases hg
      exact sa c σ H m us _ _ hc E e1 hp
    | ok m1 =>
      simp only [gSeq, e1] at hg
      refine sa c σ H m us _ _ hc E e1 fun x H1 E1 => ?_
      split at hg
      · rename_i g1 v s1 h1
        refine sb c σ H1 m1 _ _ _ hc E1 h1 fun y H2 E2 => ?_
        have E2 : EnvOk K c σ H2 g1 (.tr (.a v) :: s1) (y :: x :: us) := E2
        have ey := top_a E2
        subst ey
        split at hg
        · rename_i g2 s2 h2
          refine hf.use hc E2 h2 fun z H3 E3 => ⟨true, top_bl E3, iteT ?_⟩
          have E4 : EnvOk K c σ H3 g2 (.tr (.a y) :: s2) (y :: us) := E3.drop.atom y
          split at hg
          · rename_i m3 h3
            exact sc c σ H3 ⟨g2, _⟩ _ _ _ hc E4 h3 fun w H4 E5 => hf'.use hc E5 hg hp
          · rename_i h3
            cases hg
            exact sc c σ H3 ⟨g2, _⟩ _ _ _ hc E4 h3 hp
          · cases hg
        · rename_i g2 s2 h2
          cases hg
          exact hf.use hc E2 h2 fun z H3 E3 => ⟨false, top_bl E3, iteF (hp _ _ (top_bl E3 ▸ E3))⟩
        · cases hg
      · rename_i h1
        cases hg
        exact sb c σ H1 m1 _ _ _ hc E1 h1 hp
      · cases hg
theorem me_chain (ha : ME X T md W a ga) (hb : ME X T md W b gb) (hf : RA2 (kcm X.K T) md W r f) (hcc : ME X T md W cc gc) (hf' : RA2 (kcm X.K T) md W r' f') (hp : ∀ {ta tb tc : TE}, PE X a ta → PE X b tb → PE X cc tc → PE X e (tChain r r' ta tb tc)) : ME X T md W e (gChain ga gb f gc f') := by
  obtain ⟨ta, pa, sa⟩ := ha
  obtain ⟨tb, pb, sb⟩ := hb
  obtain ⟨tc, pc, sc⟩ := hcc
  exact ⟨_, hp pa pb pc, se_chain sa sb hf sc hf'⟩
theorem mt_chain (ha : ME X T md W a ga) (hb : ME X T md W b gb) (hf : RA2 (kcm X.K T) md W r f) (hcc : ME X T md W cc gc) (hf' : RA2 (kcm X.K T) md W r' f') (hp : ∀ {ta tb tc : TE}, PE X a ta → PE X b tb → PE X cc tc → PT X e (tTest (tChain r r' ta tb tc))) : MT X T md W e (gChain ga gb f gc f') := by
  obtain ⟨ta, pa, sa⟩ := ha
  obtain ⟨tb, pb, sb⟩ := hb
  obtain ⟨tc, pc, sc⟩ := hcc
  exact ⟨_, hp pa pb pc, st_of (se_chain sa sb hf sc hf')⟩
theorem ms_lc0 {k : Nat} (hs : ME X T md W iter gs) (ok : BlkOk X.N X.env.scope scope [(x, i)]) (hg : ∀ (s : Shared) (H : Hp) (C : Addr) (cl : List (Str × Addr)) (fp : List Addr), PG (X.blk s H scope (compEnvC scope cl C X.env) fp) tg (gName i))
    (he : ∀ (s : Shared) (H : Hp) (C : Addr) (cl : List (Str × Addr)) (fp : List Addr), ME (X.blk s H scope (compEnvC scope cl C X.env) fp) T md WF elt ge)
    (hc : X.calm = true) (hN : X.N.Nodup) (hy : X.N[k]? = some y) (hyl : X.env.scope.names.lookup y = some .local) (hsw : swapsWith (.ListComp elt [⟨tg, iter, [], 0⟩] scope pos) (some (.Name y py)) spos.line X.env = pure true) (hf : ∀ x, foldedSetIterable iter X.env x = pure x := by intro _; rfl) :
    MS X T md W (.Assign [.Name y py] (.ListComp elt [⟨tg, iter, [], 0⟩] scope pos) spos) (sSet md k (gLc [i] gs (bind md i) (gC (.bl true)) ge)) := by
  obtain ⟨ti, pi, si⟩ := hs
  exact ms_asgOf (ps_setLc (te := wpE (kcm X.K T) md WF ge) hc hN hy hyl hsw (PI.or (pi_list pi) (pi_tup pi)) ok hg (fun s H C cl fp => pts_nil) (fun s H C cl fp => (he s H C cl fp).pe) hf) (se_lc si sgw_name st_yes se_wp)
theorem ms_lcR10 {k : Nat} (ha : MA X T md W [e] ga) (ok : BlkOk X.N X.env.scope scope [(x, i)]) (hg : ∀ (s : Shared) (H : Hp) (C : Addr) (cl : List (Str × Addr)) (fp : List Addr), PG (X.blk s H scope (compEnvC scope cl C X.env) fp) tg (gName i))
    (he : ∀ (s : Shared) (H : Hp) (C : Addr) (cl : List (Str × Addr)) (fp : List Addr), ME (X.blk s H scope (compEnvC scope cl C X.env) fp) T md WF elt ge)
    (hgl : Gl X "range") (hmg : X.mg "range" = none) (hc : X.calm = true) (hN : X.N.Nodup) (hy : X.N[k]? = some y) (hyl : X.env.scope.names.lookup y = some .local) (hsw : swapsWith (.ListComp elt [⟨tg, .Call (.Name "range" rp) [e] [] pos', [], 0⟩] scope pos) (some (.Name y py)) spos.line X.env = pure true) (hs : starEach [e] X.env = [(false, eval e X.env)] := by rfl) (hf : ∀ x, foldedSetIterable (.Call (.Name "range" rp) [e] [] pos') X.env x = pure x := by intro _; rfl) :
    MS X T md W (.Assign [.Name y py] (.ListComp elt [⟨tg, .Call (.Name "range" rp) [e] [] pos', [], 0⟩] scope pos) spos) (sSet md k (gLcR1 [i] ga (bind md i) (gC (.bl true)) ge)) := by
  obtain ⟨ti, pi, si⟩ := ha
  exact ms_asgOf (ps_setLc (te := wpE (kcm X.K T) md WF ge) hc hN hy hyl hsw (pi_range1 hgl hmg pi hs) ok hg (fun s H C cl fp => pts_nil) (fun s H C cl fp => (he s H C cl fp).pe) hf) (se_lcR1 si sgw_name st_yes se_wp)
def fAddI : GE := fP2 (FI cT fun i j => .int (i + j))
def fSubI : GE := fP2 (FI cT fun i j => .int (i - j))
theorem fAddI_r : RA2 K md W rAdd fAddI := fI_ok0 (h := fun i j => .int (i + j))
end
section
variable {K : KC} {X : Cx} {T : KT} {md mdc : List Bool} {W : WX} {c : Cz} {σ : St} {H : Hp} {us : List V} {i n j : Nat} {m : Ms} {g : GE} {e : Expr} {fl : Str} {tab : List (Nat × Nat)} {gT : TG} {tt : TT} {tk tv : TE} {cv : List Nat}
theorem PE.or {t1 t2 : TE} (h1 : PE X e t1) (h2 : PE X e t2) : PE X e (fun σ H Q => t1 σ H Q ∨ t2 σ H Q) := by
  refine ⟨fun pins s σ H Q I h => ?_⟩
  rcases h with h | h
  · exact h1.run pins s σ H Q I h
  · exact h2.run pins s σ H Q I h
theorem ObjAt.dnew {K : KC} {H : Hp} {a : Addr} {ks : List Key} {vs : List V} (hl : ks.length = vs.length) (h : H a = some (.dK (ks.zip vs))) (o : Ow) : ObjAt K (.dct ks) o H a vs := by
  cases o
  · exact ⟨hl, h⟩
  · exact ⟨hl, .inl h⟩
  · exact ⟨hl, .inl h⟩
/-- {.. for n in x.f}, the dict x.f being empty -/
def gDc0 (i : Nat) (tab : List (Nat × Nat)) : GE := fun m => match gSeq (gVar i) (fFld tab) m with
  | some (.ok ⟨_, e :: _⟩) => match viewE m.g e with
    | some (.nd (.dct []) _ []) => some (.ok ⟨m.g, .tr (.nd (.dct []) .own []) :: m.s⟩)
    | _ => none
  | _ => none
/-- {} -/
def gD0 : GE := fun m => some (.ok ⟨m.g, .tr (.nd (.dct []) .own []) :: m.s⟩)
theorem me_d0 {pos : Pos} : ME X T md W (.Dict [] [] pos) gD0 := by
  refine ⟨_, pe_dnewK, fun c σ H m us Q rr hc E hg hpo => ?_⟩
  cases hg
  exact fun p hp => hpo _ _ (EnvOk.new (ts := []) (vs := []) (k := .dct []) (τ := m.s) E rfl hp rfl (ObjAt.dnew rfl upd_same))
end
section
variable {K : KC} {X : Cx} {T : KT} {md mdc : List Bool} {W : WX} {c : Cz} {σ : St} {H H' : Hp} {Γ τ : List Ent} {us vs ws wq : List V} {v w wp : V} {p q r : List Nat} {t : Tr} {ts : List Tr} {i j n : Nat} {Z : Zn} {qs : List (List Nat)}
/-! defs that keep the addresses below a parameter of their own: ghosts are aliases that lie at the bottom of the stack -/
abbrev GG := List Tr → List (List Nat) → Option (Rt × List Ent)
theorem Raw.app {xs : List V} : ∀ {q : List Nat} {vs : List V} {w : V}, Raw H vs q w → Raw H (vs ++ xs) q w
  | [], _, _, h => h
  | [i], vs, w, h => by
    have h : vs[i]? = some w := h
    show (vs ++ xs)[i]? = some w
    rw [List.getElem?_append_left (getq_lt' h)]
    exact h
  | i :: j :: q, vs, w, h => by
    obtain ⟨v, us, e, kd, h⟩ := h
    exact ⟨v, us, by rw [List.getElem?_append_left (getq_lt' e)]; exact e, kd, h⟩
variable {P : Program} {Wd : World} {Kf : PySem.W.Frag} {mg : Str → Option Value} {base : Heap}
end
section
variable {K : KC} {X : Cx} {T : KT} {md mdc : List Bool} {W : WX} {c : Cz} {σ : St} {H H' : Hp} {Γ τ : List Ent} {us vs ws wq : List V} {v w wp : V} {p q r : List Nat} {t : Tr} {ts : List Tr} {i j n : Nat} {Z : Zn} {qs : List (List Nat)} {Φ Ψ : Ps} {m m' : Ms} {G : GG}
variable {x me : Str} {pp pos apos : Pos} {e oe : Expr} {es : List Expr} {ga go : GE} {kk : Nat} {f C : Addr} {fd : FuncData} {ps : List Str} {pl : Sem Bool}
end
section
variable {K : KC} {X : Cx} {T : KT} {md : List Bool} {W : WX} {c : Cz} {σ : St} {H H' : Hp} {Γ τ : List Ent} {us vs : List V} {v w : V} {p q : List Nat} {t : Tr} {ts ts' : List Tr} {i j : Nat} {ks : List Key} {k : Key}
variable {g : GS} {gi go gv ga gb : GE} {e a b o ie : Expr} {pos pos' : Pos}
/-! dicts by int and str keys: reads and stores -/
def keyOf : V → Option Key
  | .int i => some (.inl i)
  | .str s => some (.inr s)
  | _ => none
theorem keyOf_kV (h : keyOf v = some k) : v = kV k := by
  cases v <;> simp [keyOf] at h <;> subst h <;> rfl
def kix (k : Key) : List Key → Option Nat
  | [] => none
  | x :: ks => if x = k then some 0 else (kix k ks).map (· + 1)
theorem kix_at : ∀ {ks : List Key} {j : Nat}, kix k ks = some j → ks[j]? = some k
  | [], _, h => by simp [kix] at h
  | x :: ks, j, h => by
    simp only [kix] at h
    split at h
    · rename_i e
      cases h
      simp [e]
    · simp only [Option.map_eq_some_iff] at h
      obtain ⟨j', h1, rfl⟩ := h
      simpa using kix_at h1
theorem kix_none : ∀ {ks : List Key}, kix k ks = none → k ∉ ks
  | [], _ => by simp
  | x :: ks, h => by
    simp only [kix] at h
    split at h
    · cases h
    · rename_i e
      have := kix_none (by simpa using h)
      simp [this, Ne.symm e]
theorem valV_zip : ∀ {ks : List Key} {vs : List V} {j : Nat}, kix k ks = some j → ks.length = vs.length → valV (ks.zip vs) k = vs[j]?
  | [], _, _, h, _ => by simp [kix] at h
  | x :: ks, [], _, _, l => by simp at l
  | x :: ks, y :: vs, j, h, l => by
    simp only [kix] at h
    rw [List.zip_cons_cons]
    by_cases e : x = k
    · rw [if_pos e] at h
      cases h
      rw [valV_pos e]
      rfl
    · rw [if_neg e] at h
      simp only [Option.map_eq_some_iff] at h
      obtain ⟨j', h1, rfl⟩ := h
      rw [valV_neg e, valV_zip h1 (by simpa using l)]
      simp
def rIxD : R2 := fun x y H Q => ∃ a v, x = .ref a ∧ DGet H a y (some v) ∧ Q v H
theorem ix_dict (hu : X.A.units + 1 < cLine) : IxR X rIxD := by
  intro value slice pins s σ H x y v u Q I rx ry h hs
  obtain ⟨a, w, rfl, g, q⟩ := h
  cases rx
  exact PyProof.Rows.tail_any (dict_typeIs I g) PySem.F.slot_dict_getitem.lookup (d_getItem hu I g ry fun w' s3 I3 rw' => ⟨w, H, I3, rw', q⟩) hs
def fIxK : GE := fun m => match m.s with
  | .tr (.a y) :: e :: s => match viewE m.g e with
    | some (.nd (.dct ks) o ts) => match keyOf y with
      | some k => match kix k ks with
        | some j => match kidE e (.dct ks) o ts j with
          | some e' => some (.ok ⟨m.g, e' :: s⟩)
          | none => none
        | none => none
      | none => none
    | _ => none
  | _ => none
theorem fIxK_ok : RA2 K md W rIxD fIxK := by
  refine .mk fun c σ H m us x y Q rr hc E hf hp => ?_
  simp only [fIxK] at hf
  split at hf
  · rename_i y e s hs
    rw [hs] at E
    have ey := top_a E
    subst ey
    have E1 := E.drop
    split at hf
    · rename_i ks o ts hv
      split at hf
      · rename_i k hk0
        split at hf
        · rename_i j hj
          split at hf
          · rename_i e' hk
            cases hf
            obtain ⟨ad, vs, w', rfl, ho, hl, hw, E2⟩ := E1.kidOf hv hk
            have ho := ObjAt.rd ho
            refine ⟨ad, w', rfl, ?_, hp w' H E2⟩
            rw [keyOf_kV hk0]
            have e : valV (ks.zip vs) k = some w' := by rw [valV_zip hj ho.1, hw]
            exact .inl ⟨_, k, ho.2, rfl, e.symm⟩
          · cases hf
        · cases hf
      · cases hf
    · cases hf
  · cases hf
/-- o[i]: lists, tuples, dicts -/
def fIxA : GE := gOr fIx fIxK
theorem me_ixA (hu : X.A.units + 64 < cLine) (ha : ME X T md W a ga) (hb : ME X T md W b gb) (hs : PlainIx b) : ME X T md W (.Subscript a b pos) (gSeq (gSeq ga gb) fIxA) := me_ix ((ix_list.or ix_tup).or (ix_dict (by omega))) (fIx_ok.or fIxK_ok) ha hb hs
theorem putK_set : ∀ {ks : List Key} {vs : List V} {j : Nat}, ks.Nodup → kix k ks = some j → ks.length = vs.length → putK (ks.zip vs) k v = ks.zip (vs.set j v) := by
  intro ks vs j nd h l
  have hm : ∃ y, (k, y) ∈ ks.zip vs := by
    obtain ⟨h3, h4⟩ := List.getElem?_eq_some_iff.mp (kix_at h)
    have h5 : (ks.zip vs)[j]'(by simp; omega) = (ks[j], vs[j]) := by simp
    rw [h4] at h5
    exact ⟨_, h5 ▸ List.getElem_mem _⟩
  obtain ⟨y, hy⟩ := hm
  unfold putK
  rw [if_pos (by rw [List.any_eq_true]; exact ⟨_, hy, by simp⟩)]
  clear hy
  induction ks generalizing vs j with
  | nil => simp [kix] at h
  | cons x ks ih =>
    cases vs with
    | nil => simp at l
    | cons z vs =>
      simp only [kix] at h
      have nd' := List.nodup_cons.mp nd
      by_cases e : x = k
      · subst e
        rw [if_pos rfl] at h
        cases h
        rw [List.zip_cons_cons, List.map_cons, if_pos rfl, List.set_cons_zero, List.zip_cons_cons]
        congr 1
        have : ∀ kv ∈ ks.zip vs, (if kv.1 = x then (kv.1, v) else kv) = kv := by
          intro kv hkv
          rw [if_neg]
          intro q
          exact nd'.1 (q ▸ (List.of_mem_zip hkv).1)
        rw [List.map_congr_left this]
        simp
      · rw [if_neg e] at h
        simp only [Option.map_eq_some_iff] at h
        obtain ⟨j', h1, rfl⟩ := h
        rw [List.zip_cons_cons, List.map_cons, if_neg e, List.set_cons_succ, List.zip_cons_cons, ih nd'.2 h1 (by simpa using l)]
theorem putK_app {ks : List Key} {vs : List V} (h : kix k ks = none) (l : ks.length = vs.length) : putK (ks.zip vs) k v = (ks ++ [k]).zip (vs ++ [v]) := by
  unfold putK
  rw [if_neg]
  · rw [List.zip_append l]
    rfl
  · rw [List.any_eq_true]
    rintro ⟨kv, hkv, e⟩
    have : kv.1 = k := by simpa using e
    exact kix_none h (this ▸ (List.of_mem_zip hkv).1)
def rSetD : TSet := fun o i v H Q => ∃ a H', o = .ref a ∧ DPut H a i v H' ∧ Q H'
theorem set_dict (hu : X.A.units + 1 < cLine) : PSet X rSetD := by
  intro pins s σ H o i v ov iv u Q I ro ri rv h
  obtain ⟨a, H', rfl, g, q⟩ := h
  cases ro
  exact d_setItem hu I g ri rv fun s' I' => ⟨H', I', q⟩
theorem PSet.or {t t' : TSet} (h : PSet X t) (h' : PSet X t') : PSet X (fun o i v H Q => t o i v H Q ∨ t' o i v H Q) := by
  intro pins s σ H o i v ov iv u Q I ro ri rv q
  rcases q with q | q
  · exact h pins s σ H o i v ov iv u Q I ro ri rv q
  · exact h' pins s σ H o i v ov iv u Q I ro ri rv q
def stSubK : Ms → Option Ms := fun m => match m.s with
  | .tr (.a y) :: .al p :: .tr t :: s => match getG m.g p, keyOf y with
    | some (.nd (.dct ks) .own ts), some k => if esc t = true ∧ ks.Nodup ∧ ks.length < 100000 then match kix k ks with
        | some j => some ⟨(setG m.g p (.nd (.dct ks) .own (ts.set j t))).map (killJ (p ++ [j])), s.map (killJ (p ++ [j]))⟩
        | none => some ⟨kill p (setG m.g p (.nd (.dct (ks ++ [k])) .own (ts ++ [t]))), kill p s⟩
      else none
    | _, _ => none
  | _ => none
theorem stSubK_ok {m m' : Ms} {x y z : V} {Q : Hp → Prop} (E : EnvOk K c σ H m.g m.s (z :: y :: x :: us)) (h : stSubK m = some m') (hq : ∀ H', EnvOk K c σ H' m'.g m'.s us → Q H') : rSetD y z x H Q := by
  unfold stSubK at h
  split at h
  · rename_i yv p t s hs
    split at h
    · rename_i ks ts k hg hk
      split at h
      · rename_i he
        rw [hs] at E
        have ez := top_a E
        subst ez
        have E1 := E.drop
        have hes := E1.escAt hg (by simp)
        obtain ⟨Z, ws, Φ, Ψ, EE⟩ := id E1
        obtain ⟨Θ, a, vs, Ξ, rfl, ho, hlr, hn⟩ := EE.view (n := 0) (e := .al p) rfl rfl hg
        have ho : ks.length = vs.length ∧ H a = some (.dK (ks.zip vs)) := ho
        have hlen := RepL.len _ hlr
        have hz : (ks.zip vs).length < sizeLine := by
          have : (100000 : Nat) ≤ sizeLine := by decide
          simp
          omega
        rw [keyOf_kV hk]
        refine ⟨a, _, rfl, DPut.k ho.2 hz, ?_⟩
        split at h
        · rename_i j hj
          cases h
          refine hq _ ?_
          rw [putK_set he.2.1 hj ho.1]
          have hjl : j < ts.length := by
            have := getq_lt' (kix_at hj)
            omega
          obtain ⟨a', e, E2⟩ := EnvOk.setIn (j := j) (ob := .dK (ks.zip (vs.set j x))) E1 hg (by simp) hjl he.1 (fun a2 vs2 ho2 e2 => by
            cases e2
            have ho2 : ks.length = vs2.length ∧ H a = some (.dK (ks.zip vs2)) := ho2
            have ev : vs = vs2 := by
              have h3 : ks.zip vs = ks.zip vs2 := by
                have := ho.2.symm.trans ho2.2
                simpa using this
              have h4 := congrArg (List.map Prod.snd) h3
              rwa [List.map_snd_zip (by omega), List.map_snd_zip (by omega)] at h4
            subst ev
            exact ⟨by simpa using ho.1, upd_same⟩)
          cases e
          exact E2
        · rename_i hj
          cases h
          refine hq _ ?_
          rw [putK_app hj ho.1]
          obtain ⟨a', e, E2⟩ := EnvOk.modP (ins := [t]) (us1 := [x]) (outs := []) (vouts := []) (k' := .dct (ks ++ [k])) (ts' := ts ++ [t]) (ob := .dK ((ks ++ [k]).zip (vs ++ [x]))) (τ := s) (us := us) E1 rfl hg (by simp) (by simp) (fun a2 vs2 e2 ho2 l2 => by
            cases e2
            have ho2 : ks.length = vs2.length ∧ H a = some (.dK (ks.zip vs2)) := ho2
            have ev : vs = vs2 := by
              have h3 : ks.zip vs = ks.zip vs2 := by
                have := ho.2.symm.trans ho2.2
                simpa using this
              have h4 := congrArg (List.map Prod.snd) h3
              rwa [List.map_snd_zip (by omega), List.map_snd_zip (by omega)] at h4
            subst ev
            exact ⟨vs ++ [x], by simpa using l2, ⟨by simpa using ho.1, upd_same⟩, fun Z Ψa Ψb r1 r2 d => ⟨_, by simpa using RepL.append _ r1 r2 d, fun b q => q⟩⟩) rfl (by
              rw [escL_all] at hes ⊢
              intro y hy
              rcases List.mem_append.mp hy with z | z
              · exact hes y z
              · rw [List.mem_singleton.mp z]; exact he.1)
          cases e
          simpa using E2
      · cases h
    · cases h
  · cases h
/-- o[i] = v: lists, dicts -/
def stSubA : Ms → Option Ms := fun m => match stSub m with
  | none => stSubK m
  | r => r
def rSetA : TSet := fun o i v H Q => rSetL o i v H Q ∨ rSetD o i v H Q
theorem set_A (hu : X.A.units + 64 < cLine) : PSet X rSetA := PSet.or set_list (set_dict (by omega))
theorem stSubA_ok {m m' : Ms} {x y z : V} {Q : Hp → Prop} (E : EnvOk K c σ H m.g m.s (z :: y :: x :: us)) (h : stSubA m = some m') (hq : ∀ H', EnvOk K c σ H' m'.g m'.s us → Q H') : rSetA y z x H Q := by
  unfold stSubA at h
  split at h
  · exact .inr (stSubK_ok E h hq)
  · rename_i r hr
    exact .inl (stSub_ok E h hq)
def sSubA (gv go gi : GE) : GS := fun m => match gSeq (gSeq gv go) gi m with
  | some (.ok m') => match stSubA m' with
    | some m2 => some (.nx m2)
    | none => none
  | some (.ex C g) => some (.ex C g)
  | none => none
theorem ms_subA {spos tpos : Pos} (hv : ME X T md W e gv) (ho : ME X T md W o go) (hi : ME X T md W ie gi) (h : ∀ {to ti te : TE}, PE X o to → PE X ie ti → PE X e te → PS X (.Assign [.Subscript o ie spos] e tpos) (tAsg te (gSub to ti rSetA))) : MS X T md W (.Assign [.Subscript o ie spos] e tpos) (sSubA gv go gi) := by
  obtain ⟨tv, pv, sv⟩ := hv
  obtain ⟨to, po, so⟩ := ho
  obtain ⟨ti, pi, si⟩ := hi
  refine ⟨_, h po pi pv, fun c σ H m us D oo hc E hg hp => ?_⟩
  simp only [sSubA, gSeq] at hg
  cases e1 : gv m with
  | none => simp [e1] at hg
  | some r1 =>
    cases r1 with
    | ex C g' =>
      simp only [e1] at hg
      cases hg
      exact sv c σ H m us _ _ hc E e1 fun H1 E1 => hp σ H1 E1
    | ok m1 =>
      simp only [e1] at hg
      refine sv c σ H m us _ _ hc E e1 fun x H1 E1 => ?_
      cases e2 : go m1 with
      | none => simp [e2] at hg
      | some r2 =>
        cases r2 with
        | ex C g' =>
          simp only [e2] at hg
          cases hg
          exact so c σ H1 m1 _ _ _ hc E1 e2 fun H2 E2 => hp σ H2 E2
        | ok m2 =>
          simp only [e2] at hg
          refine so c σ H1 m1 _ _ _ hc E1 e2 fun y H2 E2 => ?_
          cases e3 : gi m2 with
          | none => simp [e3] at hg
          | some r3 =>
            cases r3 with
            | ex C g' =>
              simp only [e3] at hg
              cases hg
              exact si c σ H2 m2 _ _ _ hc E2 e3 fun H3 E3 => hp σ H3 E3
            | ok m3 =>
              simp only [e3] at hg
              refine si c σ H2 m2 _ _ _ hc E2 e3 fun z H3 E3 => ?_
              split at hg
              · rename_i m4 h4
                cases hg
                exact stSubA_ok E3 h4 fun H4 E4 => hp σ H4 E4
              · cases hg
end
section
variable {K : KC} {X : Cx} {T : KT} {W : WX} {c : Cz} {σ : St} {H H' : Hp} {a p : Addr} {fs : List Int} {n : Nat} {N : List Str} {t : L2.TS} {g : GS} {m : Ms} {Q : VK} {D : Ends}
/-! the law itself: behind its first row the drawn row is a list of its own -/
abbrev iT (i : Int) : Tr := .a (.int i)
abbrev bT (b : Bool) : Tr := .a (.bl b)
def feedT (fs : List Int) : Tr := .nd .lst .own (fs.map iT)
def feedG (n : Nat) (fs : List Int) : Ms := ⟨.no :: .tr (feedT fs) :: List.replicate n .no, []⟩
abbrev cLaw : Cz := ⟨fun _ => none, fun _ => False, fun _ => False, [false], []⟩
theorem repL_atoms {Z : Zn} : ∀ {us : List V}, RepL K Z H .own (us.map Tr.a) us fun _ => False
  | [] => ⟨rfl, fun _ h => h⟩
  | u :: us => ⟨u, us, fun _ => False, fun _ => False, rfl, ⟨rfl, fun _ h => h⟩, repL_atoms, by simp, by simp⟩
theorem feed_ok (hN : N.length = n + 2) (h : H p = some (.lst (fs.map V.int))) : EnvOk K cLaw ((start N [.ref a]).set 1 (some (.ref p))) H (feedG n fs).g (feedG n fs).s [] := by
  have es : start N [.ref a] = [some (.ref a)] ++ List.replicate (n + 1) none := by
    show [V.ref a].map some ++ List.replicate (N.length - [V.ref a].length) none = _
    simp [hN]
  have ess : (start N [.ref a]).set 1 (some (.ref p)) = some (.ref a) :: some (.ref p) :: List.replicate n none := by
    rw [es]
    rfl
  rw [ess]
  have em : fs.map iT = (fs.map V.int).map Tr.a := by simp
  have rf : Rep K ⟨fun _ => False, fun _ => False⟩ H .own (feedT fs) (.ref p) fun b => b = p := by
    refine ⟨p, fs.map V.int, fun _ => False, rfl, h, by rw [em]; exact repL_atoms, ?_⟩
    refine ⟨by simp, fun q => q, ?_⟩
    rw [escL_all, em]
    intro y hy
    obtain ⟨z, _, rfl⟩ := List.mem_map.mp hy
    rfl
  have tr : trees (feedG n fs).g = .any :: feedT fs :: List.replicate n .any := by
    simp [feedG, trees, Ent.tree]
  refine ⟨⟨fun _ => False, fun _ => False⟩, .ref a :: .ref p :: List.replicate n .non, fun b => b = p, fun _ => False, ⟨?_, ⟨rfl, fun _ h => h⟩, by simp, ?_, ?_, by simp [feedG], fun b _ => ⟨.inr rfl, fun q => q, fun q => q⟩, fun b q => q.elim, fun b q => q, fun b q => (by simp at q), fun b o q => (by cases q), ?_⟩⟩
  · rw [tr]
    exact ⟨_, _, fun _ => False, fun b => b = p, rfl, fun _ h => h, ⟨_, _, fun b => b = p, fun _ => False, rfl, rf, RepL.anys n, by simp, by simp⟩, by simp, by simp⟩
  · intro i e he
    match i with
    | 0 => cases he; trivial
    | 1 => cases he; exact ⟨_, rfl, rfl⟩
    | i + 2 =>
      have he : (List.replicate n Ent.no)[i]? = some e := he
      have := List.mem_of_getElem? he
      simp at this
      rw [this.2]
      trivial
  · intro i q hi
    simp [feedG] at hi
  · intro i hi
    match i with
    | 0 => cases hi
    | i + 1 => simp at hi
theorem law_end (s : SS K [false] WF t g) (hN : N.length = n + 2) (h : H p = some (.lst (fs.map V.int))) (hg : g (feedG n fs) = some (.rt (bT true) m)) (hq : ∀ H', Q (.bl true) H') : t { nx := fun _ H' => Q .non H', rt := Q } ((start N [.ref a]).set 1 (some (.ref p))) H := by
  refine s cLaw _ H (feedG n fs) [] _ _ rfl (feed_ok hN h) hg ?_
  intro σ' v H' E
  have := top_a E
  subst this
  exact hq H'
end
section
variable {T : KT} {P : Program} {Wd : World} {Kf : PySem.W.Frag} {mg : Str → Option Value} {base : Heap} {Fe : List Int → Prop} {n k : Nat} {N : List Str}
def spLaw (K : PySem.W.Frag) : Sp := fun vs H Q _ => ∃ (a : Addr) (ns : List Int), vs = [.ref a] ∧ SqL K H a (ns.map V.int) ∧ ns.length ≤ 63 ∧ ∀ H', Q (.bl true) H'
theorem law_sim {x qual y : Str} {st st0 : Stmt} {rest : List Stmt} {f : Addr} {fd : FuncData} {g : GS} (F : Fun Kf x qual st f fd) (S : FnScope N [y] (defScope st)) (hN : N.length = n + 2) (hb : defBody st = st0 :: rest)
    (body : ∀ (cdv : Value) (A : Around) (outer : List Env) (s : Shared) (H : Hp) (E : XK), Room k (A.deeper (PyProof.Rows.envOfC qual (defScope st) s.heap.objs.size f cdv)) →
      (∃ t0, PS (cxOf CX0 P Wd Kf mg base N qual (defScope st) f cdv A outer s H E).nox st0 t0 ∧ ∀ (a : Addr) (ns : List Int) (H : Hp) (D : Ends), SqL Kf H a (ns.map V.int) → ns.length ≤ 63 →
        (∀ H' p fs, H' p = some (.lst (fs.map V.int)) → Fe fs → D.nx ((start N [.ref a]).set 1 (some (.ref p))) H') → t0 D (start N [.ref a]) H) ∧
      MSs (cxOf CX0 P Wd Kf mg base N qual (defScope st) f cdv A outer s H E).nox T [false] WF rest g)
    (pl : ∀ fs, Fe fs → ∃ m, g (feedG n fs) = some (.rt (bT true) m)) : FnOk P Wd Kf mg base CX0 (k + 1) f fd [y] (spLaw Kf) := by
  refine F.ok S (fun vs H Q E h => ?_) (fun cdv A outer s H vs Q E hr h => ?_)
  · obtain ⟨a, ns, rfl, _⟩ := h
    rfl
  · obtain ⟨a, ns, rfl, hS, hl, kk⟩ := h
    obtain ⟨⟨t0, p0, s0⟩, t, pt, st⟩ := body cdv A outer s H E hr
    rw [hb]
    refine ⟨_, pss_cons p0 pt, ?_⟩
    refine s0 a ns H _ hS hl fun H' p fs h1 hf => ?_
    obtain ⟨m, hm⟩ := pl fs hf
    exact law_end st hN h1 hm kk
end
/-! frames: what a call leaves as it was -/
abbrev tl (x : Str) : List Nat := x.cps.toList
def Fr (S : List Addr) (H H' : Hp) : Prop := ∀ b o, H b = some o → ∃ o', H' b = some o' ∧ (b ∉ S → o' = o)
section
variable {S : List Addr} {H H0 H1 H2 H' : Hp} {a b p : Addr} {o o' : HO} {K : PySem.W.Frag} {xs : List V}
theorem Fr.trans (f : Fr S H0 H1) (g : Fr S H1 H2) : Fr S H0 H2 := fun b o h => by
  obtain ⟨o1, h1, e1⟩ := f b o h
  obtain ⟨o2, h2, e2⟩ := g b o1 h1
  exact ⟨o2, h2, fun n => (e2 n).trans (e1 n)⟩
theorem Fr.get (f : Fr S H H') (h : H b = some o) (n : b ∉ S) : H' b = some o := by
  obtain ⟨o1, h1, e1⟩ := f b o h
  rw [h1, e1 n]
theorem Fr.free (f : Fr S H H') (h : H' p = none) : H p = none := by
  cases q : H p with
  | none => rfl
  | some o =>
    obtain ⟨o1, h1, _⟩ := f p o q
    rw [h1] at h
    cases h
theorem Fr.up1 (f : Fr S H0 H1) (g : Fr [a] H1 H2) (ha : a ∈ S ∨ H0 a = none) : Fr S H0 H2 := fun b o h => by
  obtain ⟨o1, h1, e1⟩ := f b o h
  obtain ⟨o2, h2, e2⟩ := g b o1 h1
  refine ⟨o2, h2, fun n => ?_⟩
  by_cases e : b = a
  · subst e
    rcases ha with ha | ha
    · exact absurd ha n
    · rw [ha] at h
      cases h
  · rw [e2 (by simpa using e), e1 n]
theorem Fr.new (np : H p = none) : Fr [] H (upd H p o) := fun b u e => ⟨u, by rw [upd_ne (ne_of_none e np)]; exact e, fun _ => rfl⟩
theorem Fr.mut : Fr [a] H (upd H a o) := fun b u e => by
  by_cases h : b = a
  · subst h
    exact ⟨o, upd_same, fun n => absurd (by simp) n⟩
  · exact ⟨u, by rw [upd_ne h]; exact e, fun _ => rfl⟩
theorem gen_new (np : H p = none) (e : upd H p o = H2) : Fr [] H H2 ∧ H2 p = some o := by
  subst e
  exact ⟨Fr.new np, upd_same⟩
theorem gen_upd (e : upd H a o = H2) : Fr [a] H H2 ∧ H2 a = some o := by
  subst e
  exact ⟨Fr.mut, upd_same⟩
theorem Fr.seq (f : Fr S H H') (h : SqL K H a xs) (n : a ∉ S) : SqL K H' a xs := by
  rcases h with (h | ⟨o, h⟩) | h
  · exact .inl (.inl (f.get h n))
  · exact .inl (.inr ⟨o, f.get h n⟩)
  · exact .inr h
theorem Fr.seq0 (f : Fr [] H H') (h : SqL K H a xs) : SqL K H' a xs := f.seq h (by simp)
theorem sq (h : H a = some (.lst xs)) : SqL K H a xs := .inl (.inl h)
end
theorem sz {n : Nat} (h : n < 100000) : n < sizeLine := Nat.lt_of_lt_of_le h (by decide)
theorem map_get {α β : Type} {f : α → β} {l : List α} {i : Nat} {y : β} (h : (l.map f)[i]? = some y) : ∃ x, l[i]? = some x ∧ y = f x := by
  rw [List.getElem?_map] at h
  cases e : l[i]? with
  | none =>
    rw [e] at h
    cases h
  | some x =>
    rw [e] at h
    exact ⟨x, rfl, (Option.some.inj h).symm⟩
theorem getq_lt {α : Type} {l : List α} {i : Nat} {x : α} (h : l[i]? = some x) : i < l.length := (List.getElem?_eq_some_iff.mp h).1
theorem inV_int {k : Int} : ∀ {ds : List Int}, inV (.int k) (ds.map V.int) = decide (k ∈ ds)
  | [] => rfl
  | d :: ds => by
    have e := inV_int (k := k) (ds := ds)
    unfold inV at e ⊢
    rw [List.map_cons, List.any_cons, e]
    show ((d == k) || _) = _
    by_cases h : d = k
    · rw [decide_eq_true (show k ∈ d :: ds by rw [h]; exact List.mem_cons_self), show (d == k) = true from beq_iff_eq.mpr h, Bool.true_or]
    · have h2 : (d == k) = false := by simpa using h
      rw [h2, Bool.false_or]
      by_cases h3 : k ∈ ds
      · rw [decide_eq_true h3, decide_eq_true (List.mem_cons_of_mem _ h3)]
      · rw [decide_eq_false h3, decide_eq_false (by simp; exact ⟨fun q => h q.symm, h3⟩)]
theorem Fr.sub {S S' : List Addr} {H H' : Hp} (f : Fr S' H H') (h : ∀ a ∈ S', a ∈ S) : Fr S H H' := fun b o e => by
  obtain ⟨o', h1, h2⟩ := f b o e
  exact ⟨o', h1, fun n => h2 fun q => n (h b q)⟩
/-! pure lemmas: trees of plain data, comprehensions that change nothing -/
section
variable {cv : List Nat} {bd : Ms → Option Ms} {gt ge : GE} {lo : Int} {g s : List Ent} {n : Nat} {k : Nk} {o : Ow} {ts : List Tr} {e : Ent} {α : Type}
@[simp] theorem escL_iT (xs : List Int) : escL (xs.map iT) = true := by
  rw [escL_all]
  intro y hy
  obtain ⟨z, _, rfl⟩ := List.mem_map.mp hy
  rfl
@[simp] theorem cpL_iT : ∀ (xs : List Int), cpL (xs.map iT) = true
  | [] => rfl
  | x :: xs => by
    show (cp (iT x) && cpL (xs.map iT)) = true
    rw [cpL_iT xs]
    rfl
theorem escL_map {f : α → Tr} {xs : List α} (h : ∀ x, esc (f x) = true) : escL (xs.map f) = true := by
  rw [escL_all]
  intro y hy
  obtain ⟨z, _, rfl⟩ := List.mem_map.mp hy
  exact h z
/-- [F x for x in range if P x], when a turn changes nothing but the list -/
theorem lcR_go (P : Nat → Bool) (F : Nat → Tr) (turn : ∀ i acc, i < n → acc.length ≤ i → lcTurn cv bd gt ge 0 ⟨g, .tr (.a (.int (lo + i))) :: .tr (.nd .lst .own acc) :: s⟩ = some ⟨g, .tr (.nd .lst .own (if P i = true then acc ++ [F i] else acc)) :: s⟩) :
    ∀ r i acc, i + r = n → acc.length ≤ i → lcR cv bd gt ge lo r i ⟨g, .tr (.nd .lst .own acc) :: s⟩ = some ⟨g, .tr (.nd .lst .own (acc ++ ((List.range' i r).filter P).map F)) :: s⟩
  | 0, i, acc, h, _ => by simp [lcR]
  | r + 1, i, acc, h, hl => by
    simp only [lcR]
    rw [turn i acc (by omega) hl]
    simp only
    rw [lcR_go P F turn r (i + 1) _ (by omega) (by split <;> (try simp) <;> omega)]
    rw [List.range'_succ, List.filter_cons]
    split <;> simp
theorem lcR_is (P : Nat → Bool) (F : Nat → Tr) (turn : ∀ i acc, i < n → acc.length ≤ i → lcTurn cv bd gt ge 0 ⟨g, .tr (.a (.int (lo + i))) :: .tr (.nd .lst .own acc) :: s⟩ = some ⟨g, .tr (.nd .lst .own (if P i = true then acc ++ [F i] else acc)) :: s⟩) :
    lcR cv bd gt ge lo n 0 ⟨g, .tr (.nd .lst .own []) :: s⟩ = some ⟨g, .tr (.nd .lst .own (((List.range n).filter P).map F)) :: s⟩ := by
  rw [lcR_go P F turn n 0 [] (by omega) (by simp), List.range_eq_range']
  simp
/-- [F x for x in a list if P x] -/
theorem lcL_go (P : Nat → Bool) (F : Nat → Tr) (hv : viewE g e = some (.nd k o ts)) (hc : cpE e = true) (turn : ∀ i acc, i < ts.length → acc.length ≤ i → ∃ e', kidX e k o ts i = some e' ∧ lcTurn cv bd gt ge 1 ⟨g, e' :: e :: .tr (.nd .lst .own acc) :: s⟩ = some ⟨g, e :: .tr (.nd .lst .own (if P i = true then acc ++ [F i] else acc)) :: s⟩) :
    ∀ r i acc, i + r = ts.length → acc.length ≤ i → lcL k cv bd gt ge r i ⟨g, e :: .tr (.nd .lst .own acc) :: s⟩ = some ⟨g, e :: .tr (.nd .lst .own (acc ++ ((List.range' i r).filter P).map F)) :: s⟩
  | 0, i, acc, h, _ => by
    simp only [lcL, hv]
    rw [if_pos ⟨trivial, by omega⟩]
    simp
  | r + 1, i, acc, h, hl => by
    obtain ⟨e', h1, h2⟩ := turn i acc (by omega) hl
    simp only [lcL, hv]
    rw [if_pos ⟨trivial, hc, by omega⟩, h1]
    simp only
    rw [h2]
    simp only
    rw [lcL_go P F hv hc turn r (i + 1) _ (by omega) (by split <;> (try simp) <;> omega)]
    rw [List.range'_succ, List.filter_cons]
    split <;> simp
end
/-! the machine's functions as rewriting rules: each step first looks at what stands before it -/
section
variable {a a' : Option Rs} {b g h : GE} {m : Ms} {Γ s : List Ent} {C : Nat} {p : Prop} [Decidable p] {x y : Bool} {t : Tr} {v : V} {md : List Bool} {i : Nat} {gs gs' : GS} {o o' : Option Os}
def bE (a : Option Rs) (b : GE) : Option Rs := match a with
  | some (.ok m) => b m
  | r => r
theorem gSeq_e : gSeq g b m = bE (g m) b := rfl
theorem bE_ok : bE (some (.ok m)) b = b m := rfl
theorem bE_ex : bE (some (.ex C Γ)) b = some (.ex C Γ) := rfl
theorem bE_ite : bE (if p then a else a') b = if p then bE a b else bE a' b := by split <;> rfl
theorem gNil_e : gNil m = some (.ok m) := rfl
theorem gC_e : gC v m = some (.ok ⟨m.g, .tr (.a v) :: m.s⟩) := rfl
/-- two ways that leave two truth values are one -/
theorem ok_ite : (if p then some (Rs.ok ⟨Γ, .tr (.a (.bl x)) :: s⟩) else some (Rs.ok ⟨Γ, .tr (.a (.bl y)) :: s⟩)) = some (Rs.ok ⟨Γ, .tr (.a (.bl (if p then x else y))) :: s⟩) := by split <;> rfl
def varE (e : Option Ent) (i : Nat) (Γ s : List Ent) : Option Rs := match e with
  | some (.tr t) => if cp t = true then some (.ok ⟨Γ, .tr t :: s⟩) else some (.ok ⟨Γ, .al [i] :: s⟩)
  | some (.al p) => some (.ok ⟨Γ, .al p :: s⟩)
  | _ => none
theorem gVar_e : gVar i m = varE m.g[i]? i m.g m.s := rfl
theorem varE_tr : varE (some (.tr t)) i Γ s = some (.ok ⟨Γ, (if cp t = true then .tr t else .al [i]) :: s⟩) := by
  unfold varE
  split
  · split <;> simp_all
  · simp_all
  · simp_all
theorem varE_al {q : List Nat} : varE (some (.al q)) i Γ s = some (.ok ⟨Γ, .al q :: s⟩) := rfl
def nE (a : Option Rs) : Option Rs := match a with
  | some (.ok ⟨g', .tr (.a (.bl b)) :: s'⟩) => some (.ok ⟨g', .tr (.a (.bl (!b))) :: s'⟩)
  | some (.ex C g') => some (.ex C g')
  | _ => none
theorem gNot_e : gNot g m = nE (g m) := rfl
theorem nE_ok : nE (some (.ok ⟨Γ, .tr (.a (.bl x)) :: s⟩)) = some (.ok ⟨Γ, .tr (.a (.bl (!x))) :: s⟩) := rfl
theorem nE_ite : nE (if p then a else a') = if p then nE a else nE a' := by split <;> rfl
def aE (a : Option Rs) (h : GE) : Option Rs := match a with
  | some (.ok ⟨g', .tr (.a (.bl true)) :: s'⟩) => h ⟨g', s'⟩
  | some (.ok ⟨g', .tr (.a (.bl false)) :: s'⟩) => some (.ok ⟨g', .tr (.a (.bl false)) :: s'⟩)
  | some (.ex C g') => some (.ex C g')
  | _ => none
theorem gAnd_e : gAnd g h m = aE (g m) h := rfl
theorem aE_ok : aE (some (.ok ⟨Γ, .tr (.a (.bl x)) :: s⟩)) h = if x = true then h ⟨Γ, s⟩ else some (.ok ⟨Γ, .tr (.a (.bl false)) :: s⟩) := by cases x <;> rfl
theorem aE_ite : aE (if p then a else a') h = if p then aE a h else aE a' h := by split <;> rfl
theorem aE_ex : aE (some (.ex C Γ)) h = some (.ex C Γ) := rfl
def oE (a : Option Rs) (h : GE) : Option Rs := match a with
  | some (.ok ⟨g', .tr (.a (.bl false)) :: s'⟩) => h ⟨g', s'⟩
  | some (.ok ⟨g', .tr (.a (.bl true)) :: s'⟩) => some (.ok ⟨g', .tr (.a (.bl true)) :: s'⟩)
  | some (.ex C g') => some (.ex C g')
  | _ => none
theorem gOrB_e : gOrB g h m = oE (g m) h := rfl
theorem oE_ok : oE (some (.ok ⟨Γ, .tr (.a (.bl x)) :: s⟩)) h = if x = true then some (.ok ⟨Γ, .tr (.a (.bl true)) :: s⟩) else h ⟨Γ, s⟩ := by cases x <;> rfl
theorem oE_ite : oE (if p then a else a') h = if p then oE a h else oE a' h := by split <;> rfl
theorem oE_ex : oE (some (.ex C Γ)) h = some (.ex C Γ) := rfl
def iE (a : Option Rs) (g h : GE) : Option Rs := match a with
  | some (.ok ⟨g', .tr (.a (.bl true)) :: s'⟩) => g ⟨g', s'⟩
  | some (.ok ⟨g', .tr (.a (.bl false)) :: s'⟩) => h ⟨g', s'⟩
  | some (.ex C g') => some (.ex C g')
  | _ => none
theorem gIf_e : gIf b g h m = iE (b m) g h := rfl
theorem iE_ok : iE (some (.ok ⟨Γ, .tr (.a (.bl x)) :: s⟩)) g h = if x = true then g ⟨Γ, s⟩ else h ⟨Γ, s⟩ := by cases x <;> rfl
theorem iE_ite : iE (if p then a else a') g h = if p then iE a g h else iE a' g h := by split <;> rfl
def xE (a : Option Rs) : Option Rs := match a with
  | some (.ok m') => some (.ok m')
  | _ => none
theorem noEx_e : noEx g m = xE (g m) := rfl
theorem xE_ok : xE (some (.ok m)) = some (.ok m) := rfl
/-! statements -/
def bS (o : Option Os) (g : GS) : Option Os := match o with
  | some (.nx m') => g m'
  | r => r
theorem sSeq_e : sSeq gs gs' m = bS (gs m) gs' := rfl
theorem bS_nx : bS (some (.nx m)) gs = gs m := rfl
theorem bS_rt : bS (some (.rt t m)) gs = some (.rt t m) := rfl
theorem bS_bk : bS (some (.bk m)) gs = some (.bk m) := rfl
theorem bS_ct : bS (some (.ct m)) gs = some (.ct m) := rfl
theorem bS_ex : bS (some (.ex C Γ)) gs = some (.ex C Γ) := rfl
theorem bS_ite : bS (if p then o else o') gs = if p then bS o gs else bS o' gs := by split <;> rfl
theorem sNil_e : sNil m = some (.nx m) := rfl
def iS (a : Option Rs) (g h : GS) : Option Os := match a with
  | some (.ok ⟨g', .tr (.a (.bl true)) :: s'⟩) => g ⟨g', s'⟩
  | some (.ok ⟨g', .tr (.a (.bl false)) :: s'⟩) => h ⟨g', s'⟩
  | some (.ex C g') => some (.ex C g')
  | _ => none
theorem sIf_e : sIf g gs gs' m = iS (g m) gs gs' := rfl
theorem iS_ok : iS (some (.ok ⟨Γ, .tr (.a (.bl x)) :: s⟩)) gs gs' = if x = true then gs ⟨Γ, s⟩ else gs' ⟨Γ, s⟩ := by cases x <;> rfl
theorem iS_ex : iS (some (.ex C Γ)) gs gs' = some (.ex C Γ) := rfl
theorem iS_ite : iS (if p then a else a') gs gs' = if p then iS a gs gs' else iS a' gs gs' := by split <;> rfl
def rS (a : Option Rs) : Option Os := match a with
  | some (.ok ⟨g, .tr t :: s⟩) => some (.rt t ⟨g, s⟩)
  | some (.ex C g) => some (.ex C g)
  | _ => none
theorem sRet_e : sRet g m = rS (g m) := rfl
theorem rS_ok : rS (some (.ok ⟨Γ, .tr t :: s⟩)) = some (.rt t ⟨Γ, s⟩) := rfl
theorem rS_ex : rS (some (.ex C Γ)) = some (.ex C Γ) := rfl
theorem rS_ite : rS (if p then a else a') = if p then rS a else rS a' := by split <;> rfl
def eS (a : Option Rs) : Option Os := match a with
  | some (.ok ⟨g, _ :: s⟩) => some (.nx ⟨g, s⟩)
  | some (.ex C g) => some (.ex C g)
  | _ => none
theorem sExpr_e : sExpr g m = eS (g m) := rfl
theorem eS_ok {e : Ent} : eS (some (.ok ⟨Γ, e :: s⟩)) = some (.nx ⟨Γ, s⟩) := rfl
theorem eS_ex : eS (some (.ex C Γ)) = some (.ex C Γ) := rfl
theorem eS_ite : eS (if p then a else a') = if p then eS a else eS a' := by split <;> rfl
def nxO (m : Option Ms) : Option Os := match m with
  | some m' => some (.nx m')
  | none => none
theorem nxO_some : nxO (some m) = some (.nx m) := rfl
/-- an expression, then something with the state -/
def kS (a : Option Rs) (f : Ms → Option Ms) : Option Os := match a with
  | some (.ok m1) => nxO (f m1)
  | some (.ex C g) => some (.ex C g)
  | none => none
theorem kS_ok {f : Ms → Option Ms} : kS (some (.ok m)) f = nxO (f m) := rfl
theorem kS_ex {f : Ms → Option Ms} : kS (some (.ex C Γ)) f = some (.ex C Γ) := rfl
theorem kS_ite {f : Ms → Option Ms} : kS (if p then a else a') f = if p then kS a f else kS a' f := by split <;> rfl
theorem sSet_e : sSet md i g m = kS (g m) (bind md i) := by
  unfold sSet kS nxO
  cases g m with
  | none => rfl
  | some r => cases r <;> rfl
theorem sAsg_e {f : Ms → Option Ms} : sAsg g f m = kS (g m) f := by
  unfold sAsg kS nxO
  cases g m with
  | none => rfl
  | some r => cases r <;> rfl
theorem sSubA_e : sSubA g b h m = kS (gSeq (gSeq g b) h m) stSubA := by
  unfold sSubA kS nxO
  cases gSeq (gSeq g b) h m with
  | none => rfl
  | some r => cases r <;> rfl
theorem sFldS_e {tab : List (Nat × Nat)} : sFldS tab g b m = kS (gSeq g b m) (stFld tab) := by
  unfold sFldS kS nxO
  cases gSeq g b m with
  | none => rfl
  | some r => cases r <;> rfl
theorem bind_tr (h1 : md.getD i false = false) (h2 : i < Γ.length) : bind md i ⟨Γ, .tr t :: s⟩ = some ⟨(Γ.map (killR i)).set i (.tr t), s.map (killR i)⟩ := by
  unfold bind
  rw [if_neg (by rw [h1]; simpa using h2)]
theorem bind_al {q : List Nat} (h1 : md.getD i false = false) (h2 : i < Γ.length) (h3 : q.head? ≠ some i) : bind md i ⟨Γ, .al q :: s⟩ = some ⟨(Γ.map (killR i)).set i (.al q), s.map (killR i)⟩ := by
  unfold bind
  rw [if_neg (by rw [h1]; simpa using h2)]
  simp only
  rw [if_neg h3]
/-! loops -/
theorem sForR1_e {bd : Ms → Option Ms} {n : Int} (e : g m = some (.ok ⟨Γ, .tr (.a (.int n)) :: s⟩)) (h1 : -(2 ^ 62) ≤ n) (h2 : n < 2 ^ 62) : sForR1 g bd gs m = loopR bd gs 0 n.toNat 0 ⟨Γ, s⟩ := by
  unfold sForR1
  rw [e]
  simp only
  rw [if_pos ⟨h1, h2⟩]
theorem sForR2_e {bd : Ms → Option Ms} {n k : Int} (e : g m = some (.ok ⟨Γ, .tr (.a (.int n)) :: .tr (.a (.int k)) :: s⟩)) (h1 : -(2 ^ 62) ≤ n) (h2 : n < 2 ^ 62) (h3 : -(2 ^ 62) ≤ k) (h4 : k < 2 ^ 62) : sForR2 g bd gs m = loopR bd gs k (n - k).toNat 0 ⟨Γ, s⟩ := by
  unfold sForR2
  rw [e]
  simp only
  rw [if_pos ⟨h3, h4, h1, h2⟩]
/-- a for over a range: an invariant; a turn may leave -/
theorem loopR_go {bd : Ms → Option Ms} {lo : Int} {n : Nat} (I : Nat → Ms → Prop) (Q : Os → Prop) (fin : ∀ m, I n m → Q (.nx m))
    (turn : ∀ i m, i < n → I i m → ∃ m1 o, bd ⟨m.g, .tr (.a (.int (lo + i))) :: m.s⟩ = some m1 ∧ gs m1 = some o ∧ (match o with | .nx m2 => I (i + 1) m2 | .ct m2 => I (i + 1) m2 | .bk m2 => Q (.nx m2) | o => Q o)) :
    ∀ r i m, i + r = n → I i m → ∃ o, loopR bd gs lo r i m = some o ∧ Q o
  | 0, i, m, e, h => ⟨_, rfl, fin m (by rw [← e]; exact h)⟩
  | r + 1, i, m, e, h => by
    obtain ⟨m1, o, h1, h2, h3⟩ := turn i m (by omega) h
    have e1 : loopR bd gs lo (r + 1) i m = (match gs m1 with
      | some (.nx m2) => loopR bd gs lo r (i + 1) m2
      | some (.ct m2) => loopR bd gs lo r (i + 1) m2
      | some (.bk m2) => some (.nx m2)
      | some (.rt t m2) => some (.rt t m2)
      | some (.ex C g) => some (.ex C g)
      | none => none) := by
      show (match bd ⟨m.g, .tr (.a (.int (lo + i))) :: m.s⟩ with | some m1 => _ | none => none) = _
      rw [h1]
      try simp only
      all_goals
        generalize gs m1 = q
        cases q with
        | none => rfl
        | some o => cases o <;> rfl
    rw [e1, h2]
    cases o with
    | nx m2 => exact loopR_go I Q fin turn r (i + 1) m2 (by omega) h3
    | ct m2 => exact loopR_go I Q fin turn r (i + 1) m2 (by omega) h3
    | bk m2 => exact ⟨_, rfl, h3⟩
    | rt t m2 => exact ⟨_, rfl, h3⟩
    | ex C g => exact ⟨_, rfl, h3⟩
theorem loopR_inv {bd : Ms → Option Ms} {lo : Int} {n : Nat} (I : Nat → Ms → Prop) (Q : Os → Prop) (h0 : I 0 m) (fin : ∀ m, I n m → Q (.nx m))
    (turn : ∀ i m, i < n → I i m → ∃ m1 o, bd ⟨m.g, .tr (.a (.int (lo + i))) :: m.s⟩ = some m1 ∧ gs m1 = some o ∧ (match o with | .nx m2 => I (i + 1) m2 | .ct m2 => I (i + 1) m2 | .bk m2 => Q (.nx m2) | o => Q o)) :
    ∃ o, loopR bd gs lo n 0 m = some o ∧ Q o := loopR_go I Q fin turn n 0 m (by omega) h0
end
/-! calls and comprehensions as rewriting rules -/
section
variable {is : List Nat} {mdc md : List Bool} {G : GF} {n k : Nat} {m m1 : Ms} {Γ s : List Ent} {ts : List Tr} {gs ga gt ge gb gc f f' : GE} {v : V} {p : Prop} [Decidable p] {b : Bool}
def c3 (x : Option Rt) (is : List Nat) (n : Nat) (m1 : Ms) : Option Rs := match x with
  | some (.rt r ts') => match resAll 1 n is.reverse ⟨m1.g, .tr r :: (ts'.map .tr ++ m1.s.drop n)⟩ with
    | some m2 => some (.ok ⟨m2.g, m2.s.take 1 ++ m2.s.drop (1 + (n - is.length))⟩)
    | none => none
  | some (.ex C ts') => match resAll 0 n is.reverse ⟨m1.g, ts'.map .tr ++ m1.s.drop n⟩ with
    | some m2 => some (.ex C m2.g)
    | none => none
  | none => none
theorem c3_ite {x x' : Option Rt} : c3 (if p then x else x') is n m1 = if p then c3 x is n m1 else c3 x' is n m1 := by split <;> rfl
theorem c3_rt {r : Tr} : c3 (some (.rt r ts)) is n m1 = match resAll 1 n is.reverse ⟨m1.g, .tr r :: (ts.map .tr ++ m1.s.drop n)⟩ with
    | some m2 => some (.ok ⟨m2.g, m2.s.take 1 ++ m2.s.drop (1 + (n - is.length))⟩)
    | none => none := by
  rfl
theorem c3_ex {C : Nat} : c3 (some (.ex C ts)) is n m1 = match resAll 0 n is.reverse ⟨m1.g, ts.map .tr ++ m1.s.drop n⟩ with
    | some m2 => some (.ex C m2.g)
    | none => none := by
  rfl
def c2 (x : Option (List Tr)) (is : List Nat) (G : GF) (n : Nat) (m1 : Ms) : Option Rs := match x with
  | none => none
  | some ts => c3 (G ts) is n m1
theorem c2_some : c2 (some ts) is G n m1 = c3 (G ts) is n m1 := rfl
def c1 (x : Option Ms) (is : List Nat) (mdc : List Bool) (G : GF) (n : Nat) : Option Rs := match x with
  | none => none
  | some m1 => c2 (argT m1.g mdc (m1.s.take n).reverse) is G n m1
theorem c1_some : c1 (some m1) is mdc G n = c2 (argT m1.g mdc (m1.s.take n).reverse) is G n m1 := rfl
theorem gCall_e : gCall is mdc G n m = c1 (extAll n is m) is mdc G n := by
  unfold gCall c1
  cases extAll n is m with
  | none => rfl
  | some m1 =>
    simp only
    unfold c2
    cases argT m1.g mdc (m1.s.take n).reverse with
    | none => rfl
    | some ts =>
      simp only
      unfold c3
      cases G ts with
      | none => rfl
      | some r =>
        cases r with
        | rt r ts' => first | rfl | (simp only; done) | (simp only; split <;> simp_all)
        | ex C ts' => first | rfl | (simp only; done) | (simp only; split <;> simp_all)
def k2 (x : Option Rt) (l : Nat) (m : Ms) : Option Rs := match x with
  | some (.rt (.a .non) (t :: _)) => some (.ok ⟨m.g, .tr t :: m.s.drop l⟩)
  | some (.ex C _) => some (.ex C m.g)
  | _ => none
theorem k2_rt {t : Tr} {l : Nat} : k2 (some (.rt (.a .non) (t :: ts))) l m = some (.ok ⟨m.g, .tr t :: m.s.drop l⟩) := rfl
theorem k2_ex {C : Nat} {l : Nat} : k2 (some (.ex C ts)) l m = some (.ex C m.g) := rfl
theorem k2_ite {x x' : Option Rt} {l : Nat} : k2 (if p then x else x') l m = if p then k2 x l m else k2 x' l m := by split <;> rfl
def k1 (x : Option (List Tr)) (G : GF) (l : Nat) (m : Ms) : Option Rs := match x with
  | none => none
  | some ts => k2 (G ts) l m
theorem k1_some {l : Nat} : k1 (some ts) G l m = k2 (G ts) l m := rfl
theorem gMake_e {l : Nat} : gMake n mdc G l m = k1 (argT m.g (true :: mdc) (.tr (.nd (.ins n 0) .own []) :: (m.s.take l).reverse)) G l m := by
  unfold gMake k1
  generalize argT m.g (true :: mdc) (.tr (.nd (.ins n 0) .own []) :: (m.s.take l).reverse) = q
  cases q with
  | none => rfl
  | some ts => first | rfl | (simp only; unfold k2; rfl)
/-! chains of comparisons of plain values -/
def h2 (x : Option Rs) (v : V) (gc f' : GE) : Option Rs := match x with
  | some (.ok ⟨g2, .tr (.a (.bl true)) :: s2⟩) => match gc ⟨g2, .tr (.a v) :: s2⟩ with
    | some (.ok m3) => f' m3
    | some (.ex C g) => some (.ex C g)
    | none => none
  | some (.ok ⟨g2, .tr (.a (.bl false)) :: s2⟩) => some (.ok ⟨g2, .tr (.a (.bl false)) :: s2⟩)
  | _ => none
theorem h2_ok : h2 (some (.ok ⟨Γ, .tr (.a (.bl b)) :: s⟩)) v gc f' = if b = true then bE (gc ⟨Γ, .tr (.a v) :: s⟩) f' else some (.ok ⟨Γ, .tr (.a (.bl false)) :: s⟩) := by
  cases b
  · rfl
  · simp only [h2, bE, if_true]
    cases gc ⟨Γ, .tr (.a v) :: s⟩ with
    | none => rfl
    | some r => cases r <;> rfl
def h1 (x : Option Rs) (f gc f' : GE) : Option Rs := match x with
  | some (.ok ⟨g1, .tr (.a v) :: s1⟩) => h2 (f ⟨g1, .tr (.a v) :: s1⟩) v gc f'
  | some (.ex C g) => some (.ex C g)
  | _ => none
theorem h1_ok : h1 (some (.ok ⟨Γ, .tr (.a v) :: s⟩)) f gc f' = h2 (f ⟨Γ, .tr (.a v) :: s⟩) v gc f' := rfl
theorem gChain_e : gChain ga gb f gc f' m = h1 (bE (ga m) gb) f gc f' := by
  unfold gChain h1
  rw [gSeq_e]
  rfl
/-! comprehensions that change nothing but the new list -/
theorem clr_set (h1 : Γ[k]? = some .no) (h2 : Γ.map (killR k) = Γ) {e : Ent} : ((Γ.set k e).map (killR k)).set k .no = Γ := by
  rw [List.map_set, h2, List.set_set]
  exact set_same h1
/-- one turn: the name k gets e -/
theorem lcTurn_is {e : Ent} {d : Nat} {acc : List Tr} {y : Tr} (hmd : md.getD k false = false) (hk : Γ[k]? = some .no) (hΓ : Γ.map (killR k) = Γ) (hs : s.map (killR k) = s) (hne : (∃ t, e = .tr t) ∨ ∃ q, e = .al q ∧ q.head? ≠ some k)
    (hd : s[d]? = some (.tr (.nd .lst .own acc))) (hl : acc.length < sizeLine) (ht : gt ⟨Γ.set k e, s⟩ = some (.ok ⟨Γ.set k e, .tr (.a (.bl b)) :: s⟩)) (he : b = true → ge ⟨Γ.set k e, s⟩ = some (.ok ⟨Γ.set k e, .tr y :: s⟩) ∧ esc y = true) :
    lcTurn [k] (bind md k) gt ge d ⟨Γ, e :: s⟩ = some ⟨Γ, if b = true then s.set d (.tr (.nd .lst .own (acc ++ [y]))) else s⟩ := by
  have hlt := getq_lt' hk
  have hb : bind md k ⟨Γ, e :: s⟩ = some ⟨Γ.set k e, s⟩ := by
    rcases hne with ⟨t, rfl⟩ | ⟨q, rfl, hq⟩
    · rw [bind_tr hmd hlt, hΓ, hs]
    · rw [bind_al hmd hlt hq, hΓ, hs]
  unfold lcTurn
  rw [hb]
  simp only
  rw [ht]
  cases b with
  | false =>
    simp only
    rw [if_pos (by intro i hi; rw [List.mem_singleton.mp hi, List.length_set]; exact hlt)]
    simp only [clrs, clr]
    rw [clr_set hk hΓ, hs]
    simp
  | true =>
    obtain ⟨h1, h2⟩ := he rfl
    simp only
    rw [h1]
    simp only
    rw [hd]
    simp only
    rw [if_pos ⟨h2, hl, by intro i hi; rw [List.mem_singleton.mp hi, List.length_set]; exact hlt⟩]
    simp only [clrs, clr]
    rw [clr_set hk hΓ, List.map_set, hs]
    simp [killR]
theorem allNo1 (hk : Γ[k]? = some .no) : allNo Γ [k] = true := by simp [allNo, hk]
/-- the items that a range has -/
def rng (lo : Int) (n : Nat) : List Int := (List.range n).map fun (i : Nat) => lo + (i : Int)
theorem lcR_pure {lo : Int} (hmd : md.getD k false = false) (hk : Γ[k]? = some .no) (hΓ : Γ.map (killR k) = Γ) (hs : s.map (killR k) = s) (hn : n ≤ 100000) (P : Int → Bool) (F : Int → Tr)
    (ht : ∀ x s', lo ≤ x → x < lo + n → gt ⟨Γ.set k (.tr (.a (.int x))), s'⟩ = some (.ok ⟨Γ.set k (.tr (.a (.int x))), .tr (.a (.bl (P x))) :: s'⟩))
    (he : ∀ x s', lo ≤ x → x < lo + n → P x = true → ge ⟨Γ.set k (.tr (.a (.int x))), s'⟩ = some (.ok ⟨Γ.set k (.tr (.a (.int x))), .tr (F x) :: s'⟩) ∧ esc (F x) = true) :
    lcR [k] (bind md k) gt ge lo n 0 ⟨Γ, .tr (.nd .lst .own []) :: s⟩ = some ⟨Γ, .tr (.nd .lst .own (((rng lo n).filter P).map F)) :: s⟩ := by
  have key := lcR_is (cv := [k]) (bd := bind md k) (gt := gt) (ge := ge) (lo := lo) (g := Γ) (s := s) (n := n) (fun i => P (lo + (i : Int))) (fun i => F (lo + (i : Int))) (fun i acc hi hl => by
    have hx1 : lo ≤ lo + (i : Int) := by omega
    have hx2 : lo + (i : Int) < lo + n := by omega
    rw [lcTurn_is (y := F (lo + (i : Int))) (b := P (lo + (i : Int))) (acc := acc) hmd hk hΓ (by simp [hs, killR]) (.inl ⟨_, rfl⟩) rfl (Nat.lt_of_lt_of_le (by omega : acc.length < 100000) (by decide)) (ht _ _ hx1 hx2) (fun q => he _ _ hx1 hx2 q)]
    split <;> rfl)
  rw [key]
  congr 4
  unfold rng
  rw [List.filter_map, List.map_map]
  rfl
theorem gLcR1_is {j : Int} (e : ga m = some (.ok ⟨Γ, .tr (.a (.int j)) :: s⟩)) (hj : j ≤ 100000) (hj0 : -100000 ≤ j) (hmd : md.getD k false = false) (hk : Γ[k]? = some .no) (hΓ : Γ.map (killR k) = Γ) (hs : s.map (killR k) = s) (P : Int → Bool) (F : Int → Tr)
    (ht : ∀ x s', 0 ≤ x → x < j → gt ⟨Γ.set k (.tr (.a (.int x))), s'⟩ = some (.ok ⟨Γ.set k (.tr (.a (.int x))), .tr (.a (.bl (P x))) :: s'⟩))
    (he : ∀ x s', 0 ≤ x → x < j → P x = true → ge ⟨Γ.set k (.tr (.a (.int x))), s'⟩ = some (.ok ⟨Γ.set k (.tr (.a (.int x))), .tr (F x) :: s'⟩) ∧ esc (F x) = true) :
    gLcR1 [k] ga (bind md k) gt ge m = some (.ok ⟨Γ, .tr (.nd .lst .own (((rng 0 j.toNat).filter P).map F)) :: s⟩) := by
  unfold gLcR1
  rw [e]
  simp only
  rw [if_pos ⟨by omega, by omega, allNo1 hk⟩, lcR_pure hmd hk hΓ hs (by omega) P F (fun x s' h1 h2 => ht x s' h1 (by omega)) (fun x s' h1 h2 => he x s' h1 (by omega))]
  simp only
  rw [if_pos (allNo1 hk)]
/-- over a list or tuple; X j: how its j-th item comes -/
theorem gLcW_is {e : Ent} {kd : Nk} {o : Ow} {s1 : List Ent} (hg : gs m = some (.ok m1)) (hr : ready m1 = some (⟨Γ, e :: s⟩, kd, ts.length)) (hv : viewE Γ e = some (.nd kd o ts)) (hc : cpE e = true) (hl : ts.length ≤ 100000)
    (hmd : md.getD k false = false) (hk : Γ[k]? = some .no) (hΓ : Γ.map (killR k) = Γ) (hs : s.map (killR k) = s) (hke : killR k e = e) (X : Nat → Ent) (P : Nat → Bool) (F : Nat → Tr)
    (hX : ∀ j, j < ts.length → kidX e kd o ts j = some (X j) ∧ ((∃ t, X j = .tr t) ∨ ∃ q, X j = .al q ∧ q.head? ≠ some k))
    (R : List Ent → Prop) (hR : ∀ acc, R (e :: .tr (.nd .lst .own acc) :: s))
    (ht : ∀ j s', R s' → j < ts.length → gt ⟨Γ.set k (X j), s'⟩ = some (.ok ⟨Γ.set k (X j), .tr (.a (.bl (P j))) :: s'⟩))
    (he : ∀ j s', R s' → j < ts.length → P j = true → ge ⟨Γ.set k (X j), s'⟩ = some (.ok ⟨Γ.set k (X j), .tr (F j) :: s'⟩) ∧ esc (F j) = true) :
    gLc [k] gs (bind md k) gt ge m = some (.ok ⟨Γ, .tr (.nd .lst .own (((List.range ts.length).filter P).map F)) :: s⟩) := by
  unfold gLc
  rw [hg]
  simp only
  rw [hr]
  simp only
  rw [if_pos (allNo1 hk)]
  have key := lcL_go (cv := [k]) (bd := bind md k) (gt := gt) (ge := ge) (g := Γ) (s := s) (k := kd) (o := o) (ts := ts) (e := e) P F hv hc (fun j acc hj hacc => by
    obtain ⟨h1, h2⟩ := hX j hj
    refine ⟨X j, h1, ?_⟩
    rw [lcTurn_is (y := F j) (b := P j) (acc := acc) hmd hk hΓ (by rw [List.map_cons, List.map_cons, hs, hke]; rfl) h2 rfl (Nat.lt_of_lt_of_le (by omega : acc.length < 100000) (by decide)) (ht j _ (hR acc) hj) (fun q => he j _ (hR acc) hj q)]
    split <;> rfl) ts.length 0 [] (by omega) (by simp)
  rw [key]
  simp only
  rw [if_pos (allNo1 hk), List.nil_append, List.tail_cons, ← List.range_eq_range']
end
/-! a def's end -/
def fR (md : List Bool) (o : Option Os) : Option Rt := match o with
  | some (.nx m) => if escL (outP md m.g) = true then some (.rt (.a .non) (outP md m.g)) else none
  | some (.rt t m) => if esc t = true ∧ escL (outP md m.g) = true then some (.rt t (outP md m.g)) else none
  | some (.ex C g') => if escL (outP md g') = true then some (.ex C (outP md g')) else none
  | _ => none
section
variable {md : List Bool} {o o' : Option Os} {p : Prop} [Decidable p] {m : Ms} {t : Tr} {C N : Nat} {g : List Ent} {gs : GS} {ts : List Tr}
def nos : Nat → List Ent
  | 0 => []
  | n + 1 => .no :: nos n
theorem nos_e : ∀ n, nos n = List.replicate n .no
  | 0 => rfl
  | n + 1 => by
    rw [nos, nos_e n]
    rfl
theorem runF_e : runF md N gs ts = fR md (gs ⟨ts.map Ent.tr ++ nos (N - ts.length), []⟩) := by
  rw [nos_e]
  unfold runF fR
  rfl
theorem fR_ite : fR md (if p then o else o') = if p then fR md o else fR md o' := by split <;> rfl
theorem fR_nx : fR md (some (.nx m)) = if escL (outP md m.g) = true then some (.rt (.a .non) (outP md m.g)) else none := rfl
theorem fR_rt : fR md (some (.rt t m)) = if esc t = true ∧ escL (outP md m.g) = true then some (.rt t (outP md m.g)) else none := rfl
theorem fR_ex : fR md (some (.ex C g)) = if escL (outP md g) = true then some (.ex C (outP md g)) else none := rfl
theorem rt_ite {x y : V} : (if p then some (Rt.rt (.a x) ts) else some (Rt.rt (.a y) ts)) = some (Rt.rt (.a (if p then x else y)) ts) := by split <;> rfl
theorem int_ite {x y : Int} : (if p then V.int x else V.int y) = V.int (if p then x else y) := by split <;> rfl
theorem bl_ite {x y : Bool} : (if p then V.bl x else V.bl y) = V.bl (if p then x else y) := by split <;> rfl
end
/-! an argument that is handed on after all of them have been read -/
section
variable {K : KC} {X : Cx} {T : KT} {md : List Bool} {W : WX} {g : GE} {es : List Expr} {d : Nat}
def fMvD (md : List Bool) (d : Nat) : GE := fun m => match m.s[d]? with
  | some (.tr _) => some (.ok m)
  | some e => match fMv md ⟨m.g, e :: m.s.eraseIdx d⟩ with
    | some (.ok ⟨g', e' :: s'⟩) => some (.ok ⟨g', s'.take d ++ e' :: s'.drop d⟩)
    | _ => none
  | none => none
theorem fMvD_ok {c : Cz} {σ : St} {H : Hp} {m m' : Ms} {us : List V} (E : EnvOk K c σ H m.g m.s us) (hf : fMvD md d m = some (.ok m')) : EnvOk K c σ H m'.g m'.s us := by
  have hl := tail_len E
  unfold fMvD at hf
  split at hf
  · cases hf
    exact E
  · rename_i e hn he
    split at hf
    · rename_i g' e' s' h1
      cases hf
      have hlt := getq_lt' he
      have hdu : d < us.length := by omega
      have es := split_at he
      have eu := split_at (List.getElem?_eq_getElem hdu)
      rw [es, eu] at E
      have E1 := EnvOk.permA (A := m.s.take d) (B := [e]) (va := us.take d) (vb := [us[d]]) (by simp; omega) rfl E
      have E2 : EnvOk K c σ H m.g (e :: m.s.eraseIdx d) (us[d] :: us.eraseIdx d) := by
        rw [erase_split, erase_split]
        exact E1
      have E3 : EnvOk K c σ H g' (e' :: s') (us[d] :: us.eraseIdx d) := fMv_ok (m := ⟨m.g, e :: m.s.eraseIdx d⟩) E2 h1
      have hl2 := tail_len E3
      have hle : (us.eraseIdx d).length = us.length - 1 := by rw [List.length_eraseIdx]; simp; omega
      simp only [List.length_cons] at hl2
      have E4 : EnvOk K c σ H g' ([e'] ++ (s'.take d ++ s'.drop d)) ([us[d]] ++ ((us.eraseIdx d).take d ++ (us.eraseIdx d).drop d)) := by
        rw [List.take_append_drop, List.take_append_drop]
        exact E3
      have E5 := EnvOk.permA (A := [e']) (B := s'.take d) (va := [us[d]]) (vb := (us.eraseIdx d).take d) rfl (by simp; omega) E4
      have e1 : (us.eraseIdx d).take d = us.take d := by rw [erase_split, List.take_append_of_le_length (by simp; omega), List.take_take]; congr 1; omega
      have e2 : (us.eraseIdx d).drop d = us.drop (d + 1) := by
        rw [erase_split, List.drop_append]
        have : (us.take d).length = d := by simp; omega
        rw [this]
        simp
      rw [e1, e2] at E5
      rw [eu]
      exact E5
    · cases hf
  · cases hf
theorem ma_mvd (h : MA X T md W es g) : MA X T md W es (gSeq g (fMvD md d)) := by
  obtain ⟨t, p, s⟩ := h
  refine ⟨t, p, fun c σ H m us Q rr hc E hg hp => ?_⟩
  simp only [gSeq] at hg
  split at hg
  · rename_i m1 h1
    refine s c σ H m us _ _ hc E h1 fun vs H1 hl E1 => ?_
    cases rr with
    | ex C g' =>
      exfalso
      unfold fMvD at hg
      split at hg
      · cases hg
      · split at hg <;> cases hg
      · cases hg
    | ok m2 => exact hp vs H1 hl (fMvD_ok E1 hg)
  · rename_i h1
    refine s c σ H m us _ _ hc E hg ?_
    cases rr with
    | ex C g' => exact hp
    | ok m2 => exact absurd hg (h1 m2)
end
/-! comprehensions over a list of encoded things, steps of statements -/
section
variable {md : List Bool} {k n : Nat} {m m1 : Ms} {Γ s : List Ent} {gs gt ge : GE} {e : Ent} {kd : Nk} {o : Ow} {α : Type}
def atO (xs : List α) (f : α → β) (d : β) (j : Nat) : β := match xs[j]? with
  | some x => f x
  | none => d
theorem atO_map {β : Type} (xs : List α) (p : α → Bool) (F : α → β) (d : β) : ((List.range xs.length).filter (atO xs p false)).map (atO xs F d) = (xs.filter p).map F := by
  have key : ∀ (ys pre : List α), xs = pre ++ ys → ((List.range' pre.length ys.length).filter (atO xs p false)).map (atO xs F d) = (ys.filter p).map F := by
    intro ys
    induction ys with
    | nil => intro pre _; simp
    | cons y ys ih =>
      intro pre hx
      have h1 : ∀ {γ : Type} (f : α → γ) (d : γ), atO xs f d pre.length = f y := fun {γ} f d => by
        unfold atO
        rw [hx]
        simp
      have h2 := ih (pre ++ [y]) (by simp [hx])
      rw [List.length_append, List.length_singleton] at h2
      rw [List.length_cons, List.range'_succ, List.filter_cons, List.filter_cons, h1]
      split
      · rw [List.map_cons, List.map_cons, h1, h2]
      · exact h2
  have := key xs [] rfl
  rw [List.range_eq_range']
  exact this
theorem gLcAW_is {xs : List α} {enc : α → Tr} (hg : gs m = some (.ok m1)) (hr : ready m1 = some (⟨Γ, e :: s⟩, kd, xs.length)) (hv : viewE Γ e = some (.nd kd o (xs.map enc))) (hc : cpE e = true) (hl : xs.length ≤ 100000)
    (hmd : md.getD k false = false) (hk : Γ[k]? = some .no) (hΓ : Γ.map (killR k) = Γ) (hs : s.map (killR k) = s) (hke : killR k e = e) (hcp : ∀ x ∈ xs, cp (kid o (enc x)) = true) (p : α → Bool) (F : α → Tr)
    (R : List Ent → Prop) (hR : ∀ acc, R (e :: .tr (.nd .lst .own acc) :: s))
    (ht : ∀ x ∈ xs, ∀ s', R s' → gt ⟨Γ.set k (.tr (kid o (enc x))), s'⟩ = some (.ok ⟨Γ.set k (.tr (kid o (enc x))), .tr (.a (.bl (p x))) :: s'⟩))
    (he : ∀ x ∈ xs, ∀ s', R s' → p x = true → ge ⟨Γ.set k (.tr (kid o (enc x))), s'⟩ = some (.ok ⟨Γ.set k (.tr (kid o (enc x))), .tr (F x) :: s'⟩) ∧ esc (F x) = true) :
    gLc [k] gs (bind md k) gt ge m = some (.ok ⟨Γ, .tr (.nd .lst .own ((xs.filter p).map F)) :: s⟩) := by
  have at_ : ∀ {γ : Type} (f : α → γ) (d : γ) {j : Nat} {x : α}, xs[j]? = some x → atO xs f d j = f x := fun {γ} f d {j x} h => by unfold atO; rw [h]
  have hx : ∀ j, j < (xs.map enc).length → ∃ x ∈ xs, xs[j]? = some x := fun j hj => by
    have hj' : j < xs.length := by simpa using hj
    exact ⟨xs[j], List.getElem_mem hj', List.getElem?_eq_getElem hj'⟩
  rw [gLcW_is (s1 := []) (s := s) (Γ := Γ) (e := e) (kd := kd) (ts := xs.map enc) hg (by rw [List.length_map]; exact hr) hv hc (by simpa using hl) hmd hk hΓ hs hke (fun j => .tr (atO xs (fun x => kid o (enc x)) .any j)) (atO xs p false) (atO xs F .any)
    (fun j hj => by
      obtain ⟨x, hm, hx⟩ := hx j hj
      refine ⟨?_, .inl ⟨_, rfl⟩⟩
      rw [at_ _ _ hx]
      unfold kidX
      rw [List.getElem?_map, hx]
      simp only [Option.map_some]
      rw [if_pos (hcp x hm)])
    R hR (fun j s' hr hj => by
      obtain ⟨x, hm, hx⟩ := hx j hj
      rw [at_ _ _ hx, at_ _ _ hx]
      exact ht x hm s' hr)
    (fun j s' hr hj hp => by
      obtain ⟨x, hm, hx⟩ := hx j hj
      rw [at_ _ _ hx] at hp ⊢
      rw [at_ _ _ hx]
      exact he x hm s' hr hp)]
  rw [List.length_map, atO_map]
theorem gLcA_is {xs : List α} {enc : α → Tr} (hg : gs m = some (.ok m1)) (hr : ready m1 = some (⟨Γ, e :: s⟩, kd, xs.length)) (hv : viewE Γ e = some (.nd kd o (xs.map enc))) (hc : cpE e = true) (hl : xs.length ≤ 100000)
    (hmd : md.getD k false = false) (hk : Γ[k]? = some .no) (hΓ : Γ.map (killR k) = Γ) (hs : s.map (killR k) = s) (hke : killR k e = e) (hcp : ∀ x ∈ xs, cp (kid o (enc x)) = true) (p : α → Bool) (F : α → Tr)
    (ht : ∀ x ∈ xs, ∀ s', gt ⟨Γ.set k (.tr (kid o (enc x))), s'⟩ = some (.ok ⟨Γ.set k (.tr (kid o (enc x))), .tr (.a (.bl (p x))) :: s'⟩))
    (he : ∀ x ∈ xs, ∀ s', p x = true → ge ⟨Γ.set k (.tr (kid o (enc x))), s'⟩ = some (.ok ⟨Γ.set k (.tr (kid o (enc x))), .tr (F x) :: s'⟩) ∧ esc (F x) = true) :
    gLc [k] gs (bind md k) gt ge m = some (.ok ⟨Γ, .tr (.nd .lst .own ((xs.filter p).map F)) :: s⟩) := gLcAW_is hg hr hv hc hl hmd hk hΓ hs hke hcp p F (fun _ => True) (fun _ => trivial) (fun x h s' _ => ht x h s') (fun x h s' _ => he x h s')
/-- the same where the source changes nothing -/
theorem gLcP_is {xs : List α} {enc : α → Tr} (e0 e : Ent) (kd : Nk) (o : Ow) (hg : gs ⟨Γ, s⟩ = some (.ok ⟨Γ, e0 :: s⟩)) (hr : ready ⟨Γ, e0 :: s⟩ = some (⟨Γ, e :: s⟩, kd, xs.length)) (hv : viewE Γ e = some (.nd kd o (xs.map enc))) (hc : cpE e = true) (hl : xs.length ≤ 100000)
    (hmd : md.getD k false = false) (hk : Γ[k]? = some .no) (hΓ : Γ.map (killR k) = Γ) (hs : s.map (killR k) = s) (hke : killR k e = e) (hcp : ∀ x ∈ xs, cp (kid o (enc x)) = true) (p : α → Bool) (F : α → Tr)
    (ht : ∀ x ∈ xs, ∀ s', gt ⟨Γ.set k (.tr (kid o (enc x))), s'⟩ = some (.ok ⟨Γ.set k (.tr (kid o (enc x))), .tr (.a (.bl (p x))) :: s'⟩))
    (he : ∀ x ∈ xs, ∀ s', p x = true → ge ⟨Γ.set k (.tr (kid o (enc x))), s'⟩ = some (.ok ⟨Γ.set k (.tr (kid o (enc x))), .tr (F x) :: s'⟩) ∧ esc (F x) = true) :
    gLc [k] gs (bind md k) gt ge ⟨Γ, s⟩ = some (.ok ⟨Γ, .tr (.nd .lst .own ((xs.filter p).map F)) :: s⟩) := gLcA_is hg hr hv hc hl hmd hk hΓ hs hke hcp p F ht he
theorem gLcR1P {ga : GE} {j : Int} (e : ga ⟨Γ, s⟩ = some (.ok ⟨Γ, .tr (.a (.int j)) :: s⟩)) (hj : j ≤ 100000) (hj0 : -100000 ≤ j) (hmd : md.getD k false = false) (hk : Γ[k]? = some .no) (hΓ : Γ.map (killR k) = Γ) (hs : s.map (killR k) = s) (P : Int → Bool) (F : Int → Tr)
    (ht : ∀ x s', 0 ≤ x → x < j → gt ⟨Γ.set k (.tr (.a (.int x))), s'⟩ = some (.ok ⟨Γ.set k (.tr (.a (.int x))), .tr (.a (.bl (P x))) :: s'⟩))
    (he : ∀ x s', 0 ≤ x → x < j → P x = true → ge ⟨Γ.set k (.tr (.a (.int x))), s'⟩ = some (.ok ⟨Γ.set k (.tr (.a (.int x))), .tr (F x) :: s'⟩) ∧ esc (F x) = true) :
    gLcR1 [k] ga (bind md k) gt ge ⟨Γ, s⟩ = some (.ok ⟨Γ, .tr (.nd .lst .own (((rng 0 j.toNat).filter P).map F)) :: s⟩) := gLcR1_is e hj hj0 hmd hk hΓ hs P F ht he
theorem filt_true (l : List α) : l.filter (fun _ => true) = l := List.filter_eq_self.mpr fun _ _ => rfl
end
/-! lists of ints as trees -/
abbrev rowT (r : List Int) : Tr := .nd .lst .own (r.map iT)
abbrev tupT (r : List Int) : Tr := .nd .tup .own (r.map iT)
theorem ixN_len {n : Nat} {i : Int} (h0 : 0 ≤ i) (h : i < n) : ixN n i = some i.toNat := by
  unfold ixN
  rw [if_pos h0, if_pos (by omega)]
theorem set_iT (xs : List Int) (i : Nat) (v : Int) : (xs.map iT).set i (.a (.int v)) = (xs.set i v).map iT := by simp
theorem mapk_iT (o : Ow) (xs : List Int) : (xs.map iT).map (kid o) = xs.map iT := by
  rw [List.map_map]
  rfl
theorem kidc_iT (o : Ow) : (kid o ∘ iT) = iT := rfl
theorem set_rowT (M : List (List Int)) (i : Nat) (r : List Int) : (M.map rowT).set i (.nd .lst .own (r.map iT)) = (M.set i r).map rowT := by simp
@[simp] theorem escL_row (M : List (List Int)) : escL (M.map rowT) = true := escL_map fun _ => rfl
theorem app_iT (xs : List Int) (x : Int) : xs.map iT ++ [.a (.int x)] = (xs ++ [x]).map iT := by simp
theorem app_map (xs ys : List Int) : xs.map iT ++ ys.map iT = (xs ++ ys).map iT := by simp
theorem kidL_iT (o : Ow) : ∀ xs : List Int, kidL o (xs.map iT) = xs.map iT
  | [] => rfl
  | x :: xs => by
    show kid o (iT x) :: kidL o (xs.map iT) = _
    rw [kidL_iT o xs]
    rfl
section
variable {Γ s : List Ent} {m : Ms} {x y z : Int} {n : Nat} {xs : List Int} {o : Ow}
theorem fMul_int (h : cMul x y = true) : fMul ⟨Γ, .tr (.a (.int y)) :: .tr (.a (.int x)) :: s⟩ = some (.ok ⟨Γ, .tr (.a (.int (x * y))) :: s⟩) := by
  simp [fMul, gOr, fP2, viewE, FI, h]
theorem rng_len (lo : Int) (n : Nat) : (rng lo n).length = n := by simp [rng]
end
/-! data that may be compared -/
def Sh (n : Nat) (d : PyData) : Prop := d.canLay0 = true ∧ d.depth ≤ n
def ShAll (n : Nat) (ds : List PyData) : Prop := ∀ d ∈ ds, Sh n d
theorem canLayAll_of : ∀ (ds : List PyData), (∀ d ∈ ds, d.canLay0 = true) → PyData.canLayAll0 ds = true
  | [], _ => by simp only [PyData.canLayAll0]
  | d :: ds, h => by
    rw [PyData.canLayAll0, h d List.mem_cons_self, canLayAll_of ds fun x hx => h x (List.mem_cons_of_mem _ hx)]
    rfl
theorem depthAll_le {n : Nat} : ∀ (ds : List PyData), (∀ d ∈ ds, d.depth ≤ n) → PyData.depthAll ds ≤ n
  | [], _ => by simp only [PyData.depthAll]; exact Nat.zero_le _
  | d :: ds, h => by
    rw [PyData.depthAll]
    have h1 := h d List.mem_cons_self
    have h2 := depthAll_le ds fun x hx => h x (List.mem_cons_of_mem _ hx)
    omega
theorem Sh.tup {n : Nat} {ds : List PyData} (h : ShAll n ds) : Sh (n + 1) (.tuple ds) := by
  refine ⟨by rw [PyData.canLay0]; exact canLayAll_of ds fun d hd => (h d hd).1, ?_⟩
  rw [PyData.depth]
  have := depthAll_le ds fun d hd => (h d hd).2
  omega
theorem Sh.lst {n : Nat} {ds : List PyData} (h : ShAll n ds) : Sh (n + 1) (.list ds) := by
  refine ⟨by rw [PyData.canLay0]; exact canLayAll_of ds fun d hd => (h d hd).1, ?_⟩
  rw [PyData.depth]
  have := depthAll_le ds fun d hd => (h d hd).2
  omega
theorem Sh.int {n : Nat} (i : Int) : Sh n (.int i) := ⟨by simp only [PyData.canLay0], by simp only [PyData.depth]; exact Nat.zero_le _⟩
theorem Sh.bool {n : Nat} (b : Bool) : Sh n (.bool b) := ⟨by simp only [PyData.canLay0], by simp only [PyData.depth]; exact Nat.zero_le _⟩
theorem Sh.non {n : Nat} : Sh n .none := ⟨by simp only [PyData.canLay0], by simp only [PyData.depth]; exact Nat.zero_le _⟩
theorem Sh.str {n : Nat} {x : Str} (h : PyData.strOk x = true) : Sh n (.str x) := ⟨by simp only [PyData.canLay0]; exact h, by simp only [PyData.depth]; exact Nat.zero_le _⟩
theorem Sh.mono {n m : Nat} {d : PyData} (h : Sh n d) (l : n ≤ m) : Sh m d := ⟨h.1, Nat.le_trans h.2 l⟩
theorem ShAll.nil {n : Nat} : ShAll n [] := fun _ h => absurd h (by simp)
theorem ShAll.cons {n : Nat} {d : PyData} {ds : List PyData} (h : Sh n d) (k : ShAll n ds) : ShAll n (d :: ds) := fun x hx => by
  rcases List.mem_cons.mp hx with q | q
  · rw [q]
    exact h
  · exact k x q
theorem ShAll.map {α : Type} {n : Nat} {f : α → PyData} {l : List α} (h : ∀ x, Sh n (f x)) : ShAll n (l.map f) := fun d hd => by
  obtain ⟨x, _, rfl⟩ := List.mem_map.mp hd
  exact h x
theorem Sh.shaped {d : PyData} (h : Sh 64 d) : SeqAt.shaped d = true := by
  unfold SeqAt.shaped
  rw [h.1, decide_eq_true h.2]
  rfl
/-! comparing plain data -/
structure DD {α : Type} [DecidableEq α] (n : Nat) (dd : α → PyData) : Prop where
  sh : ∀ x, Sh n (dd x)
  eq : ∀ x y, PyData.eqv (dd x) (dd y) = decide (x = y)
theorem dd_int : DD 0 PyData.int := ⟨fun i => .int i, fun x y => by
  simp only [PyData.eqv]
  by_cases h : x = y <;> simp [h]⟩
section
variable {α : Type} [DecidableEq α] {n : Nat} {dd : α → PyData} {neg : Bool} {o o' : Ow}
theorem dd_all (h : DD n dd) : ∀ xs ys : List α, PyData.eqvAll (xs.map dd) (ys.map dd) = decide (xs = ys)
  | [], [] => by simp [PyData.eqvAll]
  | [], _ :: _ => by simp [PyData.eqvAll]
  | _ :: _, [] => by simp [PyData.eqvAll]
  | a :: r, b :: t => by
    simp only [List.map_cons, PyData.eqvAll, h.eq, dd_all h r t]
    by_cases h1 : a = b <;> by_cases h2 : r = t <;> simp [h1, h2]
theorem dd_list (h : DD n dd) : DD (n + 1) (fun xs : List α => .list (xs.map dd)) := ⟨fun _ => .lst (.map h.sh), fun x y => by
  simp only [PyData.eqv]
  exact dd_all h x y⟩
theorem dd_tup (h : DD n dd) : DD (n + 1) (fun xs : List α => .tuple (xs.map dd)) := ⟨fun _ => .tup (.map h.sh), fun x y => by
  simp only [PyData.eqv]
  exact dd_all h x y⟩
theorem toDL_map {enc : α → Tr} (h : ∀ x, toD (enc x) = some (dd x)) : ∀ xs : List α, toDL (xs.map enc) = some (xs.map dd)
  | [] => rfl
  | x :: xs => by
    rw [List.map_cons, toDL, h x, toDL_map h xs]
    rfl
theorem toD_iT (x : Int) : toD (iT x) = some (.int x) := rfl
theorem toD_row (r : List Int) : toD (.nd .lst o (r.map iT)) = some (.list (r.map .int)) := by
  rw [toD, toDL_map toD_iT]
theorem toD_tup (r : List Int) : toD (.nd .tup o (r.map iT)) = some (.tuple (r.map .int)) := by
  rw [toD, toDL_map toD_iT]
theorem toD_mat (M : List (List Int)) : toD (.nd .lst o (M.map rowT)) = some (.list (M.map fun r => .list (r.map .int))) := by
  rw [toD, toDL_map (dd := fun r => .list (r.map .int)) fun r => toD_row r]
theorem feq_of {k k' : Nk} {ts us : List Tr} {x y : α} (h : DD n dd) (hn : n ≤ 64) (h1 : toD (.nd k o ts) = some (dd x)) (h2 : toD (.nd k' o' us) = some (dd y)) : FEq neg (.nd k o ts) (.nd k' o' us) = some (.bl (if neg then !decide (x = y) else decide (x = y))) := by
  unfold FEq
  simp only [h1, h2, ((h.sh x).mono hn).shaped, ((h.sh y).mono hn).shaped, h.eq, true_and, if_true]
end
section
variable {neg : Bool} {o o' : Ow} {Γ s : List Ent} {e : Ent}
theorem FEq_row (r q : List Int) : FEq neg (.nd .lst o (r.map iT)) (.nd .lst o' (q.map iT)) = some (.bl (if neg then !decide (r = q) else decide (r = q))) := feq_of (dd_list dd_int) (by decide) (toD_row r) (toD_row q)
theorem FEq_tup (r q : List Int) : FEq neg (.nd .tup o (r.map iT)) (.nd .tup o' (q.map iT)) = some (.bl (if neg then !decide (r = q) else decide (r = q))) := feq_of (dd_tup dd_int) (by decide) (toD_tup r) (toD_tup q)
theorem FEq_mat (r q : List (List Int)) : FEq neg (.nd .lst o (r.map rowT)) (.nd .lst o' (q.map rowT)) = some (.bl (if neg then !decide (r = q) else decide (r = q))) := feq_of (dd_list (dd_list dd_int)) (by decide) (toD_mat r) (toD_mat q)
theorem FEq_pair (a b c d : Int) : FEq neg (.nd .tup o [.a (.int a), .a (.int b)]) (.nd .tup o' [.a (.int c), .a (.int d)]) = some (.bl (if neg then !decide (a = c ∧ b = d) else decide (a = c ∧ b = d))) := by
  have := FEq_tup (neg := neg) (o := o) (o' := o') [a, b] [c, d]
  simpa using this
theorem FEq_int (a b : Int) : FEq neg (.a (.int a)) (.a (.int b)) = some (.bl (if neg then !decide (a = b) else decide (a = b))) := by
  unfold FEq
  simp [scal]
theorem FEq_str (a b : Str) : FEq neg (.a (.str a)) (.a (.str b)) = some (.bl (if neg then !decide (a = b) else decide (a = b))) := by
  unfold FEq
  simp [scal]
theorem FEq_bl (a b : Bool) : FEq neg (.a (.bl a)) (.a (.bl b)) = some (.bl (if neg then !decide (a = b) else decide (a = b))) := by
  unfold FEq
  simp [scal]
theorem atoms_map {α : Type} {f : α → V} : ∀ xs : List α, atoms (xs.map fun x => Tr.a (f x)) = some (xs.map f)
  | [] => rfl
  | x :: xs => by
    rw [List.map_cons, atoms, atoms_map xs]
    rfl
theorem FIn_int (x : Int) (xs : List Int) (k : Nk) (hk : k = .lst ∨ k = .tup) : FIn neg (.a (.int x)) (.nd k o (xs.map iT)) = some (.bl (if neg then !decide (x ∈ xs) else decide (x ∈ xs))) := by
  have h1 : atoms (xs.map iT) = some (xs.map V.int) := atoms_map (f := V.int) xs
  have h2 : (xs.map V.int).all flatV = true := by simp [flatV]
  rcases hk with rfl | rfl
  all_goals
    unfold FIn
    simp only [h1]
    rw [if_pos ⟨rfl, h2⟩, inV_int]
theorem FIn_l (x : Int) (xs : List Int) : FIn neg (.a (.int x)) (.nd .lst o (xs.map iT)) = some (.bl (if neg then !decide (x ∈ xs) else decide (x ∈ xs))) := FIn_int x xs _ (.inl rfl)
theorem FIn_t (x : Int) (xs : List Int) : FIn neg (.a (.int x)) (.nd .tup o (xs.map iT)) = some (.bl (if neg then !decide (x ∈ xs) else decide (x ∈ xs))) := FIn_int x xs _ (.inr rfl)
end
/-! loops that look through things and may leave with an answer -/
section
variable {md : List Bool} {k n : Nat} {Γ s : List Ent} {gs : GS} {lo : Int} {t : Tr} {α : Type}
theorem bind_set {e : Ent} {u : Tr} (hmd : md.getD k false = false) (hk : k < Γ.length) (hΓ : Γ.map (killR k) = Γ) (hs : s.map (killR k) = s) : bind md k ⟨Γ.set k e, .tr u :: s⟩ = some ⟨Γ.set k (.tr u), s⟩ := by
  rw [bind_tr hmd (by rw [List.length_set]; exact hk), hs, List.map_set, hΓ, List.set_set]
theorem rng_succ (lo : Int) (n : Nat) : rng lo (n + 1) = lo :: rng (lo + 1) n := by
  unfold rng
  rw [List.range_succ_eq_map, List.map_cons, List.map_map]
  congr 1
  · simp
  · apply List.map_congr_left
    intro i _
    simp only [Function.comp, Nat.succ_eq_add_one]
    omega
theorem loopR_allT (hmd : md.getD k false = false) (hk : k < Γ.length) (hΓ : Γ.map (killR k) = Γ) (hs : s.map (killR k) = s) (p : Int → Bool)
    (hb : ∀ x, lo ≤ x → x < lo + n → gs ⟨Γ.set k (.tr (iT x)), s⟩ = some (if p x = true then .nx ⟨Γ.set k (.tr (iT x)), s⟩ else .rt t ⟨Γ.set k (.tr (iT x)), s⟩)) :
    ∃ e, (Γ[k]? = some e ∨ ∃ t, e = .tr t) ∧ loopR (bind md k) gs lo n 0 ⟨Γ, s⟩ = some (if (rng lo n).all p = true then .nx ⟨Γ.set k e, s⟩ else .rt t ⟨Γ.set k e, s⟩) := by
  have key : ∀ r i e, i + r = n → ∃ e', (e' = e ∨ ∃ t, e' = .tr t) ∧ loopR (bind md k) gs lo r i ⟨Γ.set k e, s⟩ = some (if (rng (lo + i) r).all p = true then .nx ⟨Γ.set k e', s⟩ else .rt t ⟨Γ.set k e', s⟩) := by
    intro r
    induction r with
    | zero =>
      intro i e hi
      exact ⟨e, .inl rfl, rfl⟩
    | succ r ih =>
      intro i e hi
      obtain ⟨e2, q2, h2⟩ := ih (i + 1) (.tr (iT (lo + i))) (by omega)
      unfold loopR
      simp only [bind_set hmd hk hΓ hs]
      have hb1 := hb (lo + i) (by omega) (by omega)
      rw [show lo + ((i + 1 : Nat) : Int) = lo + i + 1 by omega] at h2
      rw [rng_succ]
      by_cases hp : p (lo + i) = true
      · rw [if_pos hp] at hb1
        refine ⟨e2, .inr (q2.elim (fun z => ⟨_, z⟩) id), ?_⟩
        rw [hb1]
        simp only
        rw [h2]
        simp [hp]
      · rw [if_neg hp] at hb1
        refine ⟨.tr (iT (lo + i)), .inr ⟨_, rfl⟩, ?_⟩
        rw [hb1]
        simp [hp]
  have he : Γ = Γ.set k Γ[k] := by rw [List.set_getElem_self]
  obtain ⟨e', q, h⟩ := key n 0 Γ[k] (by omega)
  rw [← he] at h
  refine ⟨e', q.imp (fun z => by rw [z]; exact List.getElem?_eq_getElem hk) id, h.trans ?_⟩
  simp
theorem loopR_all (hmd : md.getD k false = false) (hk : k < Γ.length) (hΓ : Γ.map (killR k) = Γ) (hs : s.map (killR k) = s) (p : Int → Bool)
    (hb : ∀ x, lo ≤ x → x < lo + n → gs ⟨Γ.set k (.tr (iT x)), s⟩ = some (if p x = true then .nx ⟨Γ.set k (.tr (iT x)), s⟩ else .rt t ⟨Γ.set k (.tr (iT x)), s⟩)) :
    ∃ e, loopR (bind md k) gs lo n 0 ⟨Γ, s⟩ = some (if (rng lo n).all p = true then .nx ⟨Γ.set k e, s⟩ else .rt t ⟨Γ.set k e, s⟩) := by
  obtain ⟨e, _, h⟩ := loopR_allT (lo := lo) (n := n) (gs := gs) (t := t) hmd hk hΓ hs p hb
  exact ⟨e, h⟩
theorem loopR_nx {bd : Ms → Option Ms} {m : Ms} (I : Nat → Ms → Prop) (h0 : I 0 m) (turn : ∀ i m, i < n → I i m → ∃ m1 m2, bd ⟨m.g, .tr (.a (.int (lo + i))) :: m.s⟩ = some m1 ∧ gs m1 = some (.nx m2) ∧ I (i + 1) m2) : ∃ m', loopR bd gs lo n 0 m = some (.nx m') ∧ I n m' := by
  obtain ⟨o, h1, m', rfl, h2⟩ := loopR_inv (bd := bd) (gs := gs) (lo := lo) (n := n) I (fun o => ∃ m', o = .nx m' ∧ I n m') h0 (fun m h => ⟨m, rfl, h⟩) (fun i m hi h => by
    obtain ⟨m1, m2, h1, h2, h3⟩ := turn i m hi h
    exact ⟨m1, _, h1, h2, h3⟩)
  exact ⟨m', h1, h2⟩
end
/-! isinstance of plain things -/
theorem kit_int_int : kitB "int" "int" = some true := by decide +kernel
theorem kit_int_bool : kitB "int" "bool" = some false := by decide +kernel
theorem kit_int_str : kitB "int" "str" = some false := by decide +kernel
theorem kit_int_list : kitB "int" "list" = some false := by decide +kernel
theorem kit_int_tuple : kitB "int" "tuple" = some false := by decide +kernel
theorem kit_int_dict : kitB "int" "dict" = some false := by decide +kernel
theorem kit_bool_int : kitB "bool" "int" = some true := by decide +kernel
theorem kit_bool_bool : kitB "bool" "bool" = some true := by decide +kernel
theorem kit_bool_str : kitB "bool" "str" = some false := by decide +kernel
theorem kit_bool_list : kitB "bool" "list" = some false := by decide +kernel
theorem kit_bool_tuple : kitB "bool" "tuple" = some false := by decide +kernel
theorem kit_bool_dict : kitB "bool" "dict" = some false := by decide +kernel
theorem kit_str_int : kitB "str" "int" = some false := by decide +kernel
theorem kit_str_bool : kitB "str" "bool" = some false := by decide +kernel
theorem kit_str_str : kitB "str" "str" = some true := by decide +kernel
theorem kit_str_list : kitB "str" "list" = some false := by decide +kernel
theorem kit_str_tuple : kitB "str" "tuple" = some false := by decide +kernel
theorem kit_str_dict : kitB "str" "dict" = some false := by decide +kernel
theorem kit_list_int : kitB "list" "int" = some false := by decide +kernel
theorem kit_list_bool : kitB "list" "bool" = some false := by decide +kernel
theorem kit_list_str : kitB "list" "str" = some false := by decide +kernel
theorem kit_list_list : kitB "list" "list" = some true := by decide +kernel
theorem kit_list_tuple : kitB "list" "tuple" = some false := by decide +kernel
theorem kit_list_dict : kitB "list" "dict" = some false := by decide +kernel
theorem kit_tuple_int : kitB "tuple" "int" = some false := by decide +kernel
theorem kit_tuple_bool : kitB "tuple" "bool" = some false := by decide +kernel
theorem kit_tuple_str : kitB "tuple" "str" = some false := by decide +kernel
theorem kit_tuple_list : kitB "tuple" "list" = some false := by decide +kernel
theorem kit_tuple_tuple : kitB "tuple" "tuple" = some true := by decide +kernel
theorem kit_tuple_dict : kitB "tuple" "dict" = some false := by decide +kernel
theorem kit_dict_int : kitB "dict" "int" = some false := by decide +kernel
theorem kit_dict_bool : kitB "dict" "bool" = some false := by decide +kernel
theorem kit_dict_str : kitB "dict" "str" = some false := by decide +kernel
theorem kit_dict_list : kitB "dict" "list" = some false := by decide +kernel
theorem kit_dict_tuple : kitB "dict" "tuple" = some false := by decide +kernel
theorem kit_dict_dict : kitB "dict" "dict" = some true := by decide +kernel
theorem kit_NoneType_int : kitB "NoneType" "int" = some false := by decide +kernel
theorem kit_NoneType_bool : kitB "NoneType" "bool" = some false := by decide +kernel
theorem kit_NoneType_str : kitB "NoneType" "str" = some false := by decide +kernel
theorem kit_NoneType_list : kitB "NoneType" "list" = some false := by decide +kernel
theorem kit_NoneType_tuple : kitB "NoneType" "tuple" = some false := by decide +kernel
theorem kit_NoneType_dict : kitB "NoneType" "dict" = some false := by decide +kernel
/-! places in short lists -/
theorem ixL_1_0 : ixN 1 0 = some 0 := rfl
theorem ixL_2_0 : ixN 2 0 = some 0 := rfl
theorem ixL_2_1 : ixN 2 1 = some 1 := rfl
theorem ixL_3_0 : ixN 3 0 = some 0 := rfl
theorem ixL_3_1 : ixN 3 1 = some 1 := rfl
theorem ixL_3_2 : ixN 3 2 = some 2 := rfl
theorem ixL_4_0 : ixN 4 0 = some 0 := rfl
theorem ixL_4_1 : ixN 4 1 = some 1 := rfl
theorem ixL_4_2 : ixN 4 2 = some 2 := rfl
theorem ixL_4_3 : ixN 4 3 = some 3 := rfl
theorem ixL_5_0 : ixN 5 0 = some 0 := rfl
theorem ixL_5_1 : ixN 5 1 = some 1 := rfl
theorem ixL_5_2 : ixN 5 2 = some 2 := rfl
theorem ixL_5_3 : ixN 5 3 = some 3 := rfl
theorem ixL_5_4 : ixN 5 4 = some 4 := rfl
theorem ixL_6_0 : ixN 6 0 = some 0 := rfl
theorem ixL_6_1 : ixN 6 1 = some 1 := rfl
theorem ixL_6_2 : ixN 6 2 = some 2 := rfl
theorem ixL_6_3 : ixN 6 3 = some 3 := rfl
theorem ixL_6_4 : ixN 6 4 = some 4 := rfl
theorem ixL_6_5 : ixN 6 5 = some 5 := rfl
theorem ixL_7_0 : ixN 7 0 = some 0 := rfl
theorem ixL_7_1 : ixN 7 1 = some 1 := rfl
theorem ixL_7_2 : ixN 7 2 = some 2 := rfl
theorem ixL_7_3 : ixN 7 3 = some 3 := rfl
theorem ixL_7_4 : ixN 7 4 = some 4 := rfl
theorem ixL_7_5 : ixN 7 5 = some 5 := rfl
theorem ixL_7_6 : ixN 7 6 = some 6 := rfl
theorem ixL_8_0 : ixN 8 0 = some 0 := rfl
theorem ixL_8_1 : ixN 8 1 = some 1 := rfl
theorem ixL_8_2 : ixN 8 2 = some 2 := rfl
theorem ixL_8_3 : ixN 8 3 = some 3 := rfl
theorem ixL_8_4 : ixN 8 4 = some 4 := rfl
theorem ixL_8_5 : ixN 8 5 = some 5 := rfl
theorem ixL_8_6 : ixN 8 6 = some 6 := rfl
theorem ixL_8_7 : ixN 8 7 = some 7 := rfl
theorem ixL_9_0 : ixN 9 0 = some 0 := rfl
theorem ixL_9_1 : ixN 9 1 = some 1 := rfl
theorem ixL_9_2 : ixN 9 2 = some 2 := rfl
theorem ixL_9_3 : ixN 9 3 = some 3 := rfl
theorem ixL_9_4 : ixN 9 4 = some 4 := rfl
theorem ixL_9_5 : ixN 9 5 = some 5 := rfl
theorem ixL_9_6 : ixN 9 6 = some 6 := rfl
theorem ixL_9_7 : ixN 9 7 = some 7 := rfl
theorem ixL_9_8 : ixN 9 8 = some 8 := rfl
theorem ixL_10_0 : ixN 10 0 = some 0 := rfl
theorem ixL_10_1 : ixN 10 1 = some 1 := rfl
theorem ixL_10_2 : ixN 10 2 = some 2 := rfl
theorem ixL_10_3 : ixN 10 3 = some 3 := rfl
theorem ixL_10_4 : ixN 10 4 = some 4 := rfl
theorem ixL_10_5 : ixN 10 5 = some 5 := rfl
theorem ixL_10_6 : ixN 10 6 = some 6 := rfl
theorem ixL_10_7 : ixN 10 7 = some 7 := rfl
theorem ixL_10_8 : ixN 10 8 = some 8 := rfl
theorem ixL_10_9 : ixN 10 9 = some 9 := rfl
theorem ixL_11_0 : ixN 11 0 = some 0 := rfl
theorem ixL_11_1 : ixN 11 1 = some 1 := rfl
theorem ixL_11_2 : ixN 11 2 = some 2 := rfl
theorem ixL_11_3 : ixN 11 3 = some 3 := rfl
theorem ixL_11_4 : ixN 11 4 = some 4 := rfl
theorem ixL_11_5 : ixN 11 5 = some 5 := rfl
theorem ixL_11_6 : ixN 11 6 = some 6 := rfl
theorem ixL_11_7 : ixN 11 7 = some 7 := rfl
theorem ixL_11_8 : ixN 11 8 = some 8 := rfl
theorem ixL_11_9 : ixN 11 9 = some 9 := rfl
theorem ixL_11_10 : ixN 11 10 = some 10 := rfl
theorem ixL_12_0 : ixN 12 0 = some 0 := rfl
theorem ixL_12_1 : ixN 12 1 = some 1 := rfl
theorem ixL_12_2 : ixN 12 2 = some 2 := rfl
theorem ixL_12_3 : ixN 12 3 = some 3 := rfl
theorem ixL_12_4 : ixN 12 4 = some 4 := rfl
theorem ixL_12_5 : ixN 12 5 = some 5 := rfl
theorem ixL_12_6 : ixN 12 6 = some 6 := rfl
theorem ixL_12_7 : ixN 12 7 = some 7 := rfl
theorem ixL_12_8 : ixN 12 8 = some 8 := rfl
theorem ixL_12_9 : ixN 12 9 = some 9 := rfl
theorem ixL_12_10 : ixN 12 10 = some 10 := rfl
theorem ixL_12_11 : ixN 12 11 = some 11 := rfl
theorem cMul_l {i j : Int} (h1 : -(2 ^ 64) < i) (h2 : i < 2 ^ 64) : cMul i j = true := decide_eq_true (.inl ⟨h1, h2⟩)
/-! try .. except X as e, and isinstance(e, Y) in its suite -/
section
variable {X : Cx} {T : KT} {md : List Bool} {W Wout : WX} {c : Value} {i : Nat} {x n : Str} {body suite : List Stmt} {b₀ : Stmt} {np pos pos' : Pos} {gb : GS} {tab : List (Nat × Bool)} {gsu : Nat → Addr → GS}
end
/-! a name that a comprehension takes for its own: what it held is forgotten -/
section
variable {X : Cx} {T : KT} {md : List Bool} {W : WX} {i : Nat} {e : Expr} {st : Stmt} {g : GE} {gs : GS}
def gClr (i : Nat) (g : GE) : GE := fun m => if i < m.g.length then g (clr i m) else none
def sClr (i : Nat) (g : GS) : GS := fun m => if i < m.g.length then g (clr i m) else none
theorem me_clr (h : ME X T md W e g) : ME X T md W e (gClr i g) := by
  obtain ⟨t, p, s⟩ := h
  refine ⟨t, p, fun c σ H m us Q r hc E hg hp => ?_⟩
  unfold gClr at hg
  split at hg
  · rename_i hi
    exact s c σ H (clr i m) us Q r hc (E.clr hi) hg hp
  · cases hg
end
/-! two dicts without entries are equal -/
section
variable {K : KC} {md : List Bool} {W : WX}
def FEqE : Tr → Tr → Option V
  | .nd (.dct []) .own [], .nd (.dct []) .own [] => some (.bl true)
  | _, _ => none
def fEqE : GE := fP2 FEqE
end
/-! a loop that leaves at the first that it looks for -/
section
variable {md : List Bool} {k n : Nat} {Γ s : List Ent} {gs : GS} {lo : Int}
end
/-! things that no store can forget -/
theorem killR_tr {i : Nat} {t : Tr} : killR i (.tr t) = .tr t := rfl
theorem killR_no {i : Nat} : killR i .no = .no := rfl
theorem killR_al {i : Nat} {q : List Nat} : killR i (.al q) = if q.head? = some i then .no else .al q := rfl
theorem killE_tr {p : List Nat} {t : Tr} : killE p (.tr t) = .tr t := rfl
theorem killE_no {p : List Nat} : killE p .no = .no := rfl
theorem killE_al {p q : List Nat} : killE p (.al q) = if nbel p q = true then .al q else .no := rfl
theorem killJ_tr {p : List Nat} {t : Tr} : killJ p (.tr t) = .tr t := rfl
theorem killJ_no {p : List Nat} : killJ p .no = .no := rfl
theorem killJ_al {p q : List Nat} : killJ p (.al q) = if pre p q = true then .no else .al q := rfl
structure Nal (x : Ent) : Prop where
  kr : ∀ i, killR i x = x
  ke : ∀ p, killE p x = x
  kj : ∀ p, killJ p x = x
theorem nal_no : Nal .no := ⟨fun _ => rfl, fun _ => rfl, fun _ => rfl⟩
theorem nal_tr {t : Tr} : Nal (.tr t) := ⟨fun _ => rfl, fun _ => rfl, fun _ => rfl⟩
/-! slices -/
def prt : Bool → List Ent → Option (Option Int × List Ent)
  | false, s => some (none, s)
  | true, .tr (.a (.int i)) :: s => some (some i, s)
  | _, _ => none
def cutT {α : Type} (ts : List α) (lo hi : Option Int) : List α := (ts.drop (HT.sIx ts.length 0 lo)).take (HT.sIx ts.length ts.length hi - HT.sIx ts.length 0 lo)
section
variable {K : KC} {X : Cx} {T : KT} {md : List Bool} {W : WX} {g ge : GE} {te t : TE} {e : Expr} {pos p p2 : Pos} {lo hi : Option Expr}
theorem EnvOk.cut {c : Cz} {σ : St} {H : Hp} {Γ τ : List Ent} {us vs : List V} {ts : List Tr} (E : EnvOk K c σ H Γ (ts.reverse.map Ent.tr ++ τ) (vs.reverse ++ us)) (hl : ts.length = vs.length) (i n : Nat) :
    EnvOk K c σ H Γ (((ts.drop i).take n).reverse.map Ent.tr ++ τ) (((vs.drop i).take n).reverse ++ us) := by
  have e1 : ts.reverse.map Ent.tr = ((ts.drop i).drop n).reverse.map Ent.tr ++ (((ts.drop i).take n).reverse.map Ent.tr ++ (ts.take i).reverse.map Ent.tr) := by
    rw [← List.map_append, ← List.reverse_append, ← List.map_append, ← List.reverse_append, List.append_assoc, List.take_append_drop, List.take_append_drop]
  have e2 : vs.reverse = ((vs.drop i).drop n).reverse ++ (((vs.drop i).take n).reverse ++ (vs.take i).reverse) := by
    rw [← List.reverse_append, ← List.reverse_append, List.append_assoc, List.take_append_drop, List.take_append_drop]
  rw [e1, e2, List.append_assoc, List.append_assoc, List.append_assoc, List.append_assoc] at E
  have E1 := EnvOk.dropN (by simp [hl]) E
  exact EnvOk.dropN (by simp [hl]) (EnvOk.permA (by simp [hl]) (by simp [hl]) E1)
theorem cutV_eq {ts : List Tr} {vs : List V} (hl : ts.length = vs.length) (lo hi : Option Int) : cutV vs lo hi = (vs.drop (HT.sIx ts.length 0 lo)).take (HT.sIx ts.length ts.length hi - HT.sIx ts.length 0 lo) := by
  unfold cutV
  rw [hl]
/-- what stands between lo and hi of the thing on top -/
def cutG (lo hi : Option Int) : GE := fun m => match m.s with
  | e :: s => match viewE m.g e with
    | some (.nd .lst o ts) => match itemsE e o ts with
      | some ts' => match mkN .lst (cutT ts' lo hi) with
        | some t => some (.ok ⟨m.g, .tr t :: s⟩)
        | none => none
      | none => none
    | some (.nd .tup o ts) => if HT.sIx ts.length 0 lo = 0 ∧ HT.sIx ts.length ts.length hi = ts.length then some (.ok m) else match itemsE e o ts with
      | some ts' => some (.ok ⟨m.g, .tr (.nd .tup .own (cutT ts' lo hi)) :: s⟩)
      | none => none
    | some (.a (.str z)) => if z.length ≤ sizeLine then some (.ok ⟨m.g, .tr (.a (.str (cutS z lo hi))) :: s⟩) else none
    | _ => none
  | _ => none
def RCut (K : PySem.W.Frag) : V → Option Int → Option Int → Hp → VK → Prop := fun x lo hi H Q => (rSlL K x lo hi H Q ∨ rSlA K x lo hi H Q) ∨ rSlS x lo hi H Q
theorem sl_any {X : Cx} : SlR X (RCut X.K) := (sl_list.or sl_tupA).or sl_str
theorem cutG_ok {c : Cz} {σ : St} {H : Hp} {m : Ms} {us : List V} {x : V} {Q : VK} {rr : Rs} {lo hi : Option Int} (E : EnvOk K c σ H m.g m.s (x :: us)) (hf : cutG lo hi m = some rr) (hp : PostE K c W σ us Q rr) : RCut K.K x lo hi H Q := by
  unfold cutG at hf
  split at hf
  · rename_i ex s hs
    rw [hs] at E
    split at hf
    · rename_i o ts hv
      split at hf
      · rename_i ts' h2
        split at hf
        · rename_i tn hn
          cases hf
          obtain ⟨ad, vs, rfl, ho, hl, e1, E1⟩ := EnvOk.items E hv h2
          have hl' : ts'.length = vs.length := by rw [e1]; simpa using hl
          refine .inl (.inl ⟨ad, vs, rfl, objL ho, fun l nl => hp _ _ ?_⟩)
          rw [cutV_eq hl']
          exact (E1.cut hl' _ _).new (by simp [hl']) nl hn fun o => upd_same
        · cases hf
      · cases hf
    · rename_i o ts hv
      split at hf
      · rename_i hw
        cases hf
        obtain ⟨Z, ws, Φ, Ψ, EE⟩ := id E
        obtain ⟨Θ1, ad, vs, Ξ, rfl, ho, hl, _⟩ := EE.view (n := 0) rfl rfl hv
        have hlen := RepL.len _ hl
        refine .inl (.inr ⟨ad, vs, rfl, objT ho, fun _ => hp _ _ (by rw [hs]; exact E), fun hn => absurd ?_ hn⟩)
        rw [← hlen]
        exact hw
      · rename_i hw
        split at hf
        · rename_i ts' h2
          cases hf
          obtain ⟨ad, vs, rfl, ho, hl, e1, E1⟩ := EnvOk.items E hv h2
          have hl' : ts'.length = vs.length := by rw [e1]; simpa using hl
          refine .inl (.inr ⟨ad, vs, rfl, objT ho, fun hn => absurd (by rw [hl]; exact hn) hw, fun _ l nl => hp _ _ ?_⟩)
          rw [cutV_eq hl']
          exact EnvOk.new (k := .tup) (E1.cut hl' _ _) (by simp [hl']) nl (by simp [mkN, cutT]) fun o => .inl upd_same
        · cases hf
    · rename_i z hv
      split at hf
      · rename_i hz
        cases hf
        obtain ⟨Z, ws, Φ, Ψ, EE⟩ := id E
        obtain ⟨Θ1, r1⟩ := EE.view (n := 0) rfl rfl hv
        exact .inr ⟨z, r1.1, hz, hp _ _ (E.drop.atom _)⟩
      · cases hf
    · cases hf
  · cases hf
def fSl (a b : Bool) : GE := fun m => match prt b m.s with
  | some (hi, s1) => match prt a s1 with
    | some (lo, s2) => cutG lo hi ⟨m.g, s2⟩
    | none => none
  | none => none
def PartV (b : Bool) (o : Option Int) (vs : List V) : Prop := match b with
  | false => o = none ∧ vs = []
  | true => ∃ i, o = some i ∧ vs = [V.int i]
theorem prt_ok {c : Cz} {σ : St} {H : Hp} {Γ s s' : List Ent} {us vs : List V} {b : Bool} {o o' : Option Int} (E : EnvOk K c σ H Γ s (vs ++ us)) (hv : PartV b o vs) (h : prt b s = some (o', s')) : o' = o ∧ EnvOk K c σ H Γ s' us := by
  cases b with
  | false =>
    obtain ⟨rfl, rfl⟩ := hv
    simp only [prt] at h
    cases h
    exact ⟨rfl, E⟩
  | true =>
    obtain ⟨i, rfl, rfl⟩ := hv
    unfold prt at h
    split at h
    · rename_i e; cases e
    · cases h
      have := top_a E
      cases this
      exact ⟨rfl, E.drop⟩
    · cases h
def PostO (K : KC) (c : Cz) (W : WX) (σ : St) (us : List V) (b : Bool) (Q : Option Int → Hp → Prop) : Rs → Prop
  | .ok m' => ∀ o vs H', PartV b o vs → EnvOk K c σ H' m'.g m'.s (vs ++ us) → Q o H'
  | .ex C g' => ∀ H', EnvOk K c σ H' g' [] [] → W (.ref (K.et C)) none σ H'
def SO (K : KC) (md : List Bool) (W : WX) (b : Bool) (t : TO) (g : GE) : Prop := ∀ (c : Cz) (σ : St) (H : Hp) (m : Ms) (us : List V) (Q : Option Int → Hp → Prop) (r : Rs), c.md = md → EnvOk K c σ H m.g m.s us → g m = some r → PostO K c W σ us b Q r → t σ H Q
/-- a part of a slice, and what the machine does for it -/
def MO (X : Cx) (T : KT) (md : List Bool) (W : WX) (e : Option Expr) (b : Bool) (g : GE) : Prop := ∃ t, PO X e t ∧ SO (kcm X.K T) md W b t g
def gNoP : GE := fun m => some (.ok m)
theorem mo_none : MO X T md W none false gNoP := ⟨_, po_none, fun c σ H m us Q r hc E hg hp => by
  cases hg
  exact hp none [] H ⟨rfl, rfl⟩ E⟩
def chkInt : GE := fun m => match m.s with
  | .tr (.a (.int _)) :: _ => some (.ok m)
  | _ => none
theorem mo_some (he : ME X T md W e g) : MO X T md W (some e) true (gSeq g chkInt) := by
  obtain ⟨t, pe, se⟩ := he
  refine ⟨_, po_some pe, fun c σ H m us Q r hc E hg hp => ?_⟩
  simp only [gSeq] at hg
  split at hg
  · rename_i m1 h1
    refine se c σ H m us _ _ hc E h1 fun x H1 E1 => ?_
    unfold chkInt at hg
    split at hg
    · rename_i i s hs
      cases hg
      have E2 := E1
      rw [hs] at E2
      have := top_a E2
      exact ⟨i, this, hp (some i) [.int i] H1 ⟨i, rfl, rfl⟩ (by rw [← this]; exact E1)⟩
    · cases hg
  · rename_i h1
    refine se c σ H m us _ _ hc E hg ?_
    cases r with
    | ex C g' => exact hp
    | ok m2 => exact absurd hg (h1 m2)
theorem me_sl {a b : Bool} {gl gh : GE} (he : ME X T md W e ge) (hl : MO X T md W lo a gl) (hh : MO X T md W hi b gh) : ME X T md W (.Subscript e (.Slice lo hi none p2) pos) (gSeq (gSeq (gSeq ge gl) gh) (fSl a b)) := by
  obtain ⟨te, pe, se⟩ := he
  obtain ⟨tl, pl, sl⟩ := hl
  obtain ⟨th, ph, sh⟩ := hh
  refine ⟨_, pe_slice sl_any pe pl ph, fun c σ H m us Q r hc E hg hp => ?_⟩
  simp only [gSeq] at hg
  cases e1 : ge m with
  | none => simp [e1] at hg
  | some r1 =>
    cases r1 with
    | ex C g' =>
      simp only [e1] at hg
      cases hg
      exact se c σ H m us _ _ hc E e1 hp
    | ok m1 =>
      simp only [e1] at hg
      refine se c σ H m us _ _ hc E e1 fun x H1 E1 => ?_
      cases e2 : gl m1 with
      | none => simp [e2] at hg
      | some r2 =>
        cases r2 with
        | ex C g' =>
          simp only [e2] at hg
          cases hg
          exact sl c σ H1 m1 _ _ _ hc E1 e2 hp
        | ok m2 =>
          simp only [e2] at hg
          refine sl c σ H1 m1 _ _ _ hc E1 e2 fun o1 v1 H2 p1 E2 => ?_
          cases e3 : gh m2 with
          | none => simp [e3] at hg
          | some r3 =>
            cases r3 with
            | ex C g' =>
              simp only [e3] at hg
              cases hg
              exact sh c σ H2 m2 _ _ _ hc E2 e3 hp
            | ok m3 =>
              simp only [e3] at hg
              refine sh c σ H2 m2 _ _ _ hc E2 e3 fun o2 v2 H3 p2 E3 => ?_
              unfold fSl at hg
              split at hg
              · rename_i hi' s1 h1
                split at hg
                · rename_i lo' s2 h2
                  obtain ⟨rfl, E4⟩ := prt_ok E3 p2 h1
                  obtain ⟨rfl, E5⟩ := prt_ok E4 p1 h2
                  exact cutG_ok (m := ⟨m3.g, s2⟩) E5 hg hp
                · cases hg
              · cases hg
end
/-! sum, any, all, min, max, sorted of lists of atoms; extend -/
def intsT : List Tr → Option (List Int)
  | [] => some []
  | .a (.int i) :: ts => match intsT ts with
    | some ns => some (i :: ns)
    | none => none
  | _ => none
def blsT : List Tr → Option (List Bool)
  | [] => some []
  | .a (.bl i) :: ts => match blsT ts with
    | some ns => some (i :: ns)
    | none => none
  | _ => none
section
variable {K : KC} {X : Cx} {T : KT} {md : List Bool} {W : WX} {c : Cz} {σ : St} {H : Hp} {Γ τ : List Ent} {us : List V}
theorem intsT_ok {Z : Zn} {H : Hp} {m : Ow} : ∀ {ts : List Tr} {vs : List V} {ns : List Int} {Φ : Ps}, RepL K Z H m ts vs Φ → intsT ts = some ns → vs = ns.map V.int
  | [], _, _, _, h, e => by
    obtain ⟨rfl, _⟩ := h
    cases e
    rfl
  | t :: ts, vs, ns, _, h, e => by
    obtain ⟨v, vs', Φ1, Φ2, rfl, h1, h2, _, _⟩ := h
    unfold intsT at e
    split at e
    · rename_i hq; cases hq
    · rename_i i ts' heq
      cases heq
      split at e
      · rename_i ns' hn
        cases e
        rw [h1.1, intsT_ok h2 hn]
        rfl
      · cases e
    · cases e
theorem blsT_ok {Z : Zn} {H : Hp} {m : Ow} : ∀ {ts : List Tr} {vs : List V} {ns : List Bool} {Φ : Ps}, RepL K Z H m ts vs Φ → blsT ts = some ns → vs = ns.map V.bl
  | [], _, _, _, h, e => by
    obtain ⟨rfl, _⟩ := h
    cases e
    rfl
  | t :: ts, vs, ns, _, h, e => by
    obtain ⟨v, vs', Φ1, Φ2, rfl, h1, h2, _, _⟩ := h
    unfold blsT at e
    split at e
    · rename_i hq; cases hq
    · rename_i i ts' heq
      cases heq
      split at e
      · rename_i ns' hn
        cases e
        rw [h1.1, blsT_ok h2 hn]
        rfl
      · cases e
    · cases e
def FBls (f : List Bool → Option V) : Tr → Option V
  | .nd .lst _ ts => match blsT ts with
    | some ns => f ns
    | none => none
  | _ => none
theorem FBls_ok {f : List Bool → Option V} {Z : Zn} {t : Tr} {x u : V} {Φ : Ps} (r : Rep K Z H .own t x Φ) (e : FBls f t = some u) : ∃ a ns, x = .ref a ∧ SqL K.K H a (ns.map V.bl) ∧ f ns = some u := by
  unfold FBls at e
  split at e
  · split at e
    · rename_i ns hn
      obtain ⟨ad, vs, Ξ, rfl, ho, hl, _⟩ := r
      have := blsT_ok hl hn
      subst this
      exact ⟨ad, ns, rfl, objL ho, e⟩
    · cases e
  · cases e
def fAll : GE := fP1 (FBls fun ns => some (.bl (ns.all id)))
theorem fAll_ok : RA K md W 1 (fun _ => rAll K.K) fAll := fP1_ok fun σ Z H x tx u Φ Q r e q => by
  obtain ⟨a, ns, rfl, h, e⟩ := FBls_ok r e
  cases e
  exact ⟨a, ns, rfl, h, q⟩
/-! sorted(ints) -/
def sortI (ns : List Int) : List Int := ns.mergeSort (fun a b => decide (a ≤ b))
theorem sortI_perm (ns : List Int) : (sortI ns).Perm ns := List.mergeSort_perm ns _
theorem sortI_sorted (ns : List Int) : (sortI ns).Pairwise (· ≤ ·) := by
  have h := List.pairwise_mergeSort (le := fun a b : Int => decide (a ≤ b)) (by intro a b c; simp; omega) (by intro a b; simp; omega) ns
  exact h.imp fun {a b} e => by simpa using e
theorem sortI_uniq {ns ns' : List Int} (h1 : ns'.Perm ns) (h2 : ns'.Pairwise (· ≤ ·)) : ns' = sortI ns :=
  List.Perm.eq_of_pairwise (fun a b _ _ h3 h4 => Int.le_antisymm h3 h4) h2 (sortI_sorted ns) (h1.trans (sortI_perm ns).symm)
theorem EnvOk.atoms : ∀ (xs : List V), EnvOk K c σ H Γ τ us → EnvOk K c σ H Γ (xs.map (fun v => Ent.tr (.a v)) ++ τ) (xs ++ us)
  | [], E => E
  | x :: xs, E => (EnvOk.atoms xs E).atom x
theorem escL_atoms {α : Type} (f : α → V) (xs : List α) : escL (xs.map fun x => Tr.a (f x)) = true := by
  rw [escL_all]
  intro t ht
  obtain ⟨x, _, rfl⟩ := List.mem_map.mp ht
  rfl
theorem EnvOk.newAtoms {pa : Addr} (E : EnvOk K c σ H Γ τ us) (ns : List Int) (hp : H pa = none) : EnvOk K c σ (upd H pa (.lst (ns.map V.int))) Γ (.tr (.nd .lst .own (ns.map fun i => .a (.int i))) :: τ) (.ref pa :: us) := by
  have E1 := EnvOk.atoms (ns.reverse.map V.int) E
  have e : (fun v => Ent.tr (Tr.a v)) ∘ V.int = Ent.tr ∘ fun i : Int => Tr.a (V.int i) := rfl
  refine EnvOk.new (ts := ns.map fun i => .a (.int i)) (vs := ns.map V.int) (k := .lst) ?_ (by simp) hp (by simp [mkN, escL_atoms V.int]) fun o => upd_same
  simpa [List.map_reverse, e] using E1
def fSrt : GE := fun m => match m.s with
  | e :: s => match viewE m.g e with
    | some (.nd .lst _ ts) => match intsT ts with
      | some ns => some (.ok ⟨m.g, .tr (.nd .lst .own ((sortI ns).map fun i => .a (.int i))) :: s⟩)
      | none => none
    | _ => none
  | _ => none
theorem fSrt_ok : RA K md W 1 (fun _ => rSortedI K.K) fSrt := by
  intro c σ H m us vs Q rr hc hl E hf hp
  match vs, hl with
  | [x], _ =>
    simp only [fSrt] at hf
    split at hf
    · rename_i ex s hs
      rw [hs] at E
      split at hf
      · rename_i o ts hv
        split at hf
        · rename_i ns hn
          cases hf
          obtain ⟨Z, ws, Φ, Ψ, EE⟩ := id E
          obtain ⟨Θ1, ad, vs, Ξ, rfl, ho, hl, _⟩ := EE.view (n := 0) rfl rfl hv
          have := intsT_ok hl hn
          subst this
          refine ⟨ad, ns, rfl, objL ho, fun ns' p h1 h2 nl => hp _ _ ?_⟩
          rw [sortI_uniq h1 h2]
          exact EnvOk.newAtoms (E.drop) _ nl
        · cases hf
      · cases hf
    · cases hf
/-! xs.extend(ys) -/
def fExt : GE := fun m => match m.s with
  | e :: .al p :: s => match viewE m.g e with
    | some (.nd .lst o us) => match itemsE e o us, getG m.g p with
      | some us', some (.nd .lst .own ts) => if escL us' = true ∧ ts.length + us.length ≤ sizeLine then some (.ok ⟨kill p (setG m.g p (.nd .lst .own (ts ++ us'))), .tr (.a .non) :: kill p s⟩) else none
      | _, _ => none
    | _ => none
  | _ => none
theorem escL_app2 {ts us : List Tr} (h : escL ts = true) (he : escL us = true) : escL (ts ++ us) = true := by
  rw [escL_all] at h he ⊢
  intro y hy
  rcases List.mem_append.mp hy with z | z
  · exact h y z
  · exact he y z
theorem fExt_ok : RM K md W 1 rExtend fExt := by
  intro c σ H m us vs x Q rr hc hl E hf hp
  match vs, hl with
  | [y], _ =>
    unfold fExt at hf
    split at hf
    · rename_i e p s hs
      split at hf
      · rename_i o ws hv
        split at hf
        · rename_i us' ts hi hg
          split at hf
          · rename_i he
            cases hf
            rw [hs] at E
            obtain ⟨b, zs, rfl, hb, hlz, eus, E1⟩ := EnvOk.items E hv hi
            have hb : H b = some (.lst zs) := hb
            have hl' : us'.length = zs.length := by rw [eus]; simpa using hlz
            have E2 := EnvOk.revs (ts := us') (vs := zs) hl' E1
            have E3 : EnvOk K c σ H m.g (.al p :: (us'.map Ent.tr ++ s)) (x :: (zs ++ us)) := EnvOk.permA (A := us'.map Ent.tr) (B := [.al p]) (vb := [x]) (by simpa using hl') rfl E2
            have hes := E3.escAt hg (by simp)
            obtain ⟨Z, ws', Φ, Ψ, EE⟩ := id E3
            obtain ⟨Θ, a, vs, Ξ, rfl, ho, hlr, hn⟩ := EE.view (n := 0) (e := .al p) rfl rfl hg
            have ho : H a = some (.lst vs) := ho
            have hlen := RepL.len _ hlr
            refine ⟨a, b, vs, zs, rfl, rfl, ho, hb, by rw [← hlen, ← hlz]; exact he.2, hp _ _ ?_⟩
            obtain ⟨a', e', E4⟩ := EnvOk.modP (ins := us') (us1 := zs) (outs := []) (vouts := []) (k' := .lst) (ts' := ts ++ us') (ob := .lst (vs ++ zs)) (τ := s) (us := us) E3 hl' hg (by simp) (by simp) (fun a2 vs2 e2 ho2 l2 => by
              cases e2
              have ho2 : H a = some (.lst vs2) := ho2
              rw [ho] at ho2
              cases ho2
              exact ⟨vs ++ zs, by simp [l2, hl'], upd_same, fun Z Ψa Ψb r1 r2 d => ⟨_, by simpa using RepL.append _ r1 r2 d, fun b q => q⟩⟩) rfl (escL_app2 hes he.1)
            cases e'
            exact EnvOk.atom (by simpa using E4) .non
          · cases hf
        · cases hf
      · cases hf
    · cases hf
end
/-! a dict that is lent or frozen, locked while it is walked -/
/-- the same call, the thing at d being ob all the while -/
def Cz.pin (c : Cz) (d : Addr) (ob : HO) (z : Prop) : Cz := ⟨fun b => if b = d then some ob else c.H0 b, fun b => b ≠ d ∧ c.F0 b, fun b => c.S0 b ∨ (b = d ∧ z), c.md, c.vs⟩
section
variable {K : KC} {Z : Zn} {H : Hp} {d : Addr} {ob ob' : HO} {od : Obj} {kvs : List (Key × V)} {c : Cz} {ws us : List V} {Φ Ψ : Ps} {σ : St} {Γ τ : List Ent}
def LkP (ob ob' : HO) (od : Obj) (kvs : List (Key × V)) : Prop := (ob = .dK kvs ∧ ob' = .frz od (.dK kvs)) ∨ (ob = .frz od (.dK kvs) ∧ ob' = .dK kvs)
theorem LkP.rd {kv : List (Key × V)} (h : LkP ob ob' od kvs) (e : H d = some ob) (r : Rd H d (.dK kv)) : Rd (upd H d ob') d (.dK kv) := by
  have ek : kv = kvs := by
    rcases r with r | ⟨o, r⟩ <;> rw [e] at r <;> rcases h with ⟨rfl, _⟩ | ⟨rfl, _⟩ <;> cases r <;> rfl
  subst ek
  rcases h with ⟨_, rfl⟩ | ⟨_, rfl⟩
  · exact .inr ⟨od, upd_same⟩
  · exact .inl upd_same
theorem Ev.at_ (E : Ev K (c.pin d ob z) Z ws Φ Ψ σ H Γ τ us) : H d = some ob := by
  obtain ⟨o', h1, h2⟩ := E.st d ob (by show (if d = d then some ob else c.H0 d) = some ob; rw [if_pos rfl])
  rw [h1, h2 fun q => q.1 rfl]
end
/-! x in d; for x in d -/
section
variable {K : KC} {X : Cx} {T : KT} {md : List Bool} {W : WX} {c : Cz} {σ : St} {H : Hp} {us : List V} {i : Nat} {bd : Ms → Option Ms} {gb : GS} {gs g : GE} {te : TE} {tg iter : Expr} {body : List Stmt} {pos : Pos} {oo : Os}
theorem valV_zip0 : ∀ {ks : List Key} {vs : List V} {k : Key}, kix k ks = none → valV (ks.zip vs) k = none
  | [], _, _, _ => rfl
  | x :: ks, [], _, _ => rfl
  | x :: ks, y :: vs, k, h => by
    have h0 := kix_none h
    have ne : ¬ x = k := fun e => h0 (by simp [e])
    simp only [kix, if_neg ne, Option.map_eq_none_iff] at h
    rw [List.zip_cons_cons, valV_neg ne, valV_zip0 h]
def FInD (neg : Bool) : Tr → Tr → Option V
  | .a x, .nd (.dct ks) _ _ => match keyOf x with
    | some k => some (.bl (if neg then !(kix k ks).isSome else (kix k ks).isSome))
    | none => none
  | _, _ => none
def rInK (neg : Bool) : R2 := fun x y H Q => ∃ a o, y = .ref a ∧ DGet H a x o ∧ Q (.bl (if neg then !o.isSome else o.isSome)) H
theorem op_inK (hu : X.A.units + 1 < cLine) : OpR X (compareOp .In) (rInK false) := by
  intro pins s σ H x y v u Q I rx ry h
  obtain ⟨a, o, rfl, g, q⟩ := h
  cases ry
  exact d_in hu I g rx fun s' I' => ⟨.bl o.isSome, H, I', rfl, q⟩
theorem op_notInK (hu : X.A.units + 1 < cLine) : OpR X (compareOp .NotIn) (rInK true) := by
  intro pins s σ H x y v u Q I rx ry h
  obtain ⟨a, o, rfl, g, q⟩ := h
  cases ry
  exact d_notIn hu I g rx fun s' I' => ⟨.bl (!o.isSome), H, I', rfl, q⟩
theorem fInD_ok {neg : Bool} : RA2 K md W (rInK neg) (fP2 (FInD neg)) := fP2_ok fun Z H x y tx ty u Φ Ψ Q r1 r2 e q => by
  unfold FInD at e
  split at e
  · rename_i v ks o ts
    split at e
    · rename_i k hk
      cases e
      obtain ⟨rfl, _⟩ := r1
      obtain ⟨ad, vs', Ξ, rfl, ho, hl, _⟩ := r2
      obtain ⟨l, hr⟩ := ObjAt.rd ho
      have e : (valV (ks.zip vs') k).isSome = (kix k ks).isSome := by
        cases hj : kix k ks with
        | none => rw [valV_zip0 hj]; rfl
        | some j =>
          rw [valV_zip hj l]
          have := getq_lt' (kix_at hj)
          rw [List.getElem?_eq_getElem (by omega)]
          rfl
      rw [← e] at q
      exact ⟨ad, _, rfl, .inl ⟨_, k, hr, keyOf_kV hk, rfl⟩, q⟩
    · cases e
  · cases e
def fInA : GE := gOr fIn (fP2 (FInD false))
def fNotInA : GE := gOr fNotIn (fP2 (FInD true))
theorem op_inA (hu : X.A.units + 64 < cLine) : OpR X (compareOp .In) (fun x y H Q => rIn X.K false x y H Q ∨ rInK false x y H Q) := op_in_seq.or (op_inK (by omega))
theorem op_notInA (hu : X.A.units + 64 < cLine) : OpR X (compareOp .NotIn) (fun x y H Q => rIn X.K true x y H Q ∨ rInK true x y H Q) := op_notIn_seq.or (op_notInK (by omega))
theorem fInA_ok : RA2 K md W (fun x y H Q => rIn K.K false x y H Q ∨ rInK false x y H Q) fInA := fIn_ok.or fInD_ok
theorem fNotInA_ok : RA2 K md W (fun x y H Q => rIn K.K true x y H Q ∨ rInK true x y H Q) fNotInA := fIn_ok.or fInD_ok
/-! for x in d: d a name or a name's field, lent or frozen -/
def Src (X : Cx) (T : KT) (te : TE) (gs : GE) : Prop := ∀ (c : Cz) (σ : St) (H : Hp) (m : Ms) (us : List V) (en : Ent) (s1 g1 : List Ent), EnvOk (kcm X.K T) c σ H m.g m.s us → gs m = some (.ok ⟨g1, en :: s1⟩) →
  g1 = m.g ∧ ∃ w, EnvOk (kcm X.K T) c σ H m.g (en :: s1) (w :: us) ∧ ∀ (H1 : Hp) (Q : VK), (∀ b C dx fs, H b = some (.ins C dx fs) → H1 b = some (.ins C dx fs)) → Q w H1 → te σ H1 Q
theorem src_var : Src X T (tVar i) (gVar i) := by
  intro c σ H m us en s1 g1 E h0
  simp only [gVar] at h0
  split at h0
  · rename_i t ht'
    by_cases hcp : cp t = true
    · rw [if_pos hcp] at h0
      cases h0
      obtain ⟨v, q1, E1⟩ := E.var ht' hcp
      exact ⟨rfl, v, E1, fun H1 Q _ q => ⟨v, q1, q⟩⟩
    · rw [if_neg hcp] at h0
      cases h0
      obtain ⟨v, q1, E1⟩ := E.varP ht'
      exact ⟨rfl, v, E1, fun H1 Q _ q => ⟨v, q1, q⟩⟩
  · rename_i p ht'
    cases h0
    obtain ⟨v, q1, E1⟩ := E.varA ht'
    exact ⟨rfl, v, E1, fun H1 Q _ q => ⟨v, q1, q⟩⟩
  · cases h0
theorem src_fld {fl : Str} {tab : List (Nat × Nat)} (h : Src X T te gs) (ht : FldOk X.K T fl tab) : Src X T (tFld X.K te fl) (gSeq gs (fFld tab)) := by
  intro c σ H m us en s1 g1 E h1
  simp only [gSeq] at h1
  split at h1
  · rename_i m0 h0
    simp only [fFld] at h1
    split at h1
    · rename_i e0 s0 hs0
      split at h1
      · rename_i nn k o ts hv0
        split at h1
        · rename_i j hj
          split at h1
          · rename_i e' hk
            cases h1
            obtain ⟨eg, w, E1, q1⟩ := h c σ H m us e0 _ m0.g E (by rw [h0, ← hs0])
            rw [eg] at hv0
            obtain ⟨ad, vs, w', rfl, ho, hl, hw, E2⟩ := E1.kidOf hv0 hk
            obtain ⟨l, dx, ho⟩ := ho
            obtain ⟨c1, c2, c3⟩ := ht nn j (mem_lookup hj)
            have hjk : j < k := by
              have h1 := getq_lt' hw
              have h2 : ((T.nm nn).take k).length = vs.length := l
              rw [List.length_take] at h2
              omega
            refine ⟨eg, w', E2, fun H1 Q hi q => q1 H1 _ hi ⟨ad, T.ct nn, dx, _, w', rfl, hi _ _ _ _ ho, c1, c2, by rw [lookup_zip (idx_take c3 hjk) l]; exact hw, q⟩⟩
          · cases h1
        · cases h1
      · cases h1
    · cases h1
  · rename_i h0
    exact absurd h1 (h0 _)
theorem PS.or {st : Stmt} {t1 t2 : L2.TS} (h1 : PS X st t1) (h2 : PS X st t2) : PS X st (fun D σ H => t1 D σ H ∨ t2 D σ H) := by
  refine ⟨fun pins s σ H D I h => ?_⟩
  rcases h with h | h
  · exact h1.run pins s σ H D I h
  · exact h2.run pins s σ H D I h
end
/-! walks: more general laws; keys that are walked; slices -/
section
variable {bd : Ms → Option Ms} {gs : GS} {lo : Int} {n : Nat} {t : Tr}
end
section
variable {α : Type}
theorem intsT_map (xs : List Int) : intsT (xs.map iT) = some xs := by
  induction xs with
  | nil => rfl
  | cons x xs ih => simp only [List.map_cons, intsT, ih]
theorem blsT_map {β : Type} (f : β → Bool) (xs : List β) : blsT (xs.map fun x => bT (f x)) = some (xs.map f) := by
  induction xs with
  | nil => rfl
  | cons x xs ih => simp only [List.map_cons, blsT, ih]
end
section
variable {α : Type} {gs : GS} {bd : Ms → Option Ms} {t : Tr} {s : List Ent}
end
/-! try with several clauses, no names; is not True -/
section
variable {X : Cx} {T : KT} {md : List Bool} {W : WX} {body : List Stmt} {pos : Pos} {gb : GS}
end
section
variable {K : KC} {md : List Bool} {W : WX}
def fNotB : GE := fP2 (FIsB true)
end
/-! tuples of the written part; x in o by an own __contains__ -/
section
variable {K : KC} {X : Cx} {T : KT} {md : List Bool} {W : WX} {t : Tr} {ts : List Tr} {v : V} {vs : List V} {a : Addr} {e : Expr} {pos : Pos}
def ConM (K : KC) (t : Tr) (v : V) : Prop := ∀ (m : Ow) (Z : Zn) (H : Hp), Rep K Z H m t v (fun _ => False)
def ConL (K : KC) (ts : List Tr) (vs : List V) : Prop := ∀ (m : Ow) (Z : Zn) (H : Hp), RepL K Z H m ts vs (fun _ => False)
theorem con_a : ConM K (.a v) v := fun _ _ _ => ⟨rfl, fun _ h => h⟩
theorem con_nil : ConL K [] [] := fun _ _ _ => ⟨rfl, fun _ h => h⟩
theorem con_cons (h : ConM K t v) (r : ConL K ts vs) : ConL K (t :: ts) (v :: vs) := fun m Z H => ⟨v, vs, _, _, rfl, h m Z H, r m Z H, by simp, by simp⟩
theorem eff_frz (m : Ow) : eff m .frz = .frz := by cases m <;> rfl
theorem con_tup (h : SqT K.K (fun _ => none) a vs) (r : ConL K ts vs) : ConM K (.nd .tup .frz ts) (.ref a) := fun m Z H => by
  refine ⟨a, vs, fun _ => False, rfl, .inr h, r _ Z H, ?_⟩
  rw [eff_frz]
  exact fun b h => h
/-- a tuple of the written part -/
theorem sqt_w {K : PySem.W.Frag} {a : Addr} {its : Array Value} {n : Nat} {od : Option Addr} {sl : Array (Option Value)} {vs : List V} (h : K.lookup a = some ⟨.type "tuple", od, .seq its n, sl⟩) (hs : its.size ≤ sizeLine) (r : Vals vs its.toList) : SqT K (fun _ => none) a vs := .inr ⟨_, its, n, h, rfl, rfl, hs, r⟩
def gCon (t : Tr) : GE := fun m => some (.ok ⟨m.g, .tr t :: m.s⟩)
theorem EnvOk.con {c : Cz} {σ : St} {H : Hp} {Γ τ : List Ent} {us : List V} (E : EnvOk K c σ H Γ τ us) (h : ConM K t v) : EnvOk K c σ H Γ (.tr t :: τ) (v :: us) := by
  obtain ⟨Z, ws, Φ, Ψ, EE⟩ := E
  refine EE.swapE (τ1 := []) (us1 := []) (τ1' := [.tr t]) (us1' := [v]) rfl (by simp) (fun Ψ1 r zo => ?_) rfl
  have n0 : ∀ b, ¬ Ψ1 b := r.2
  exact ⟨Z, fun _ => False, ⟨v, [], _, _, rfl, h .own Z H, ⟨rfl, fun _ h => h⟩, by simp, by simp⟩, ⟨fun _ h => h, fun _ h => h, fun _ h => .inl h, fun _ h => .inl h, fun b q => EE.zs b q, fun b ob e _ => e, fun b q => absurd q (n0 b), fun b q => q.elim⟩⟩
theorem me_con (h : PE X e (tC v)) (r : ConM (kcm X.K T) t v) : ME X T md W e (gCon t) := by
  refine ⟨_, h, fun c σ H m us Q rr hc E hg hp => ?_⟩
  cases hg
  exact hp v H (E.con r)
/-- o.f, a constant of o's class -/
inductive ConTab (K : PySem.W.Frag) (T : KT) (f : Str) : List (Nat × Tr) → Prop
  | nil : ConTab K T f []
  | cons {n : Nat} {t : Tr} {v : V} {u : Value} {l : List (Nat × Tr)} (c : Cls K (T.ct n)) (k : Con K (T.ct n) f v u) (h : ConM (kcm K T) t v) (no : (T.nm n).idxOf? f = none) (r : ConTab K T f l) : ConTab K T f ((n, t) :: l)
def fCon (tab : List (Nat × Tr)) : GE := fun m => match m.s with
  | e :: s => match viewE m.g e with
    | some (.nd (.ins n _) _ _) => match tab.lookup n with
      | some t => some (.ok ⟨m.g, .tr t :: s⟩)
      | none => none
    | _ => none
  | _ => none
theorem ConTab.get {K : PySem.W.Frag} {f : Str} {tab : List (Nat × Tr)} (h : ConTab K T f tab) {n : Nat} {t : Tr} (e : tab.lookup n = some t) : ∃ v u, Cls K (T.ct n) ∧ Con K (T.ct n) f v u ∧ ConM (kcm K T) t v ∧ (T.nm n).idxOf? f = none := by
  induction h with
  | nil => simp at e
  | @cons n' t' v u l c k h no r ih =>
    by_cases q : n = n'
    · subst q
      simp at e
      subst e
      exact ⟨v, u, c, k, h, no⟩
    · rw [List.lookup_cons, beq_false_of_ne q] at e
      exact ih e
end
/-! own __contains__ -/
section
variable {X : Cx} {pins : List (Addr × Obj)} {σ : St} {H : Hp} {s : Shared} {a C dx f : Addr} {fs : List (Str × V)}
end
section
variable {K : KC} {X : Cx} {T : KT} {md mdc : List Bool} {W : WX} {a C dx f : Addr} {fd : FuncData} {ps : List Str} {kk n : Nat} {sp : Sp} {G : GF}
/-- x in o: o of the class n, its __contains__ by its function on trees -/
def fInO (n : Nat) (mdc : List Bool) (G : GF) (neg : Bool) : GE := fun m => match m.s with
  | y :: x :: s => match chkI n ⟨m.g, y :: x :: s⟩ with
    | some _ => match gCall [] mdc G 2 ⟨m.g, x :: y :: s⟩ with
      | some (.ok ⟨g', .tr (.a (.bl b)) :: s'⟩) => some (.ok ⟨g', .tr (.a (.bl (if neg then !b else b))) :: s'⟩)
      | _ => none
    | none => none
  | _ => none
end
/-! defs called in an except suite: the promises of HotCalls by functions on trees -/
section
variable {K : KC} {X : Cx} {T : KT} {md mdc : List Bool} {W : WX} {is : List Nat} {G : GF} {n : Nat}
variable {x me : Str} {pp pos apos : Pos} {e oe : Expr} {es : List Expr} {ga go : GE} {kk : Nat} {f : Addr} {fd : FuncData} {ps : List Str} {pl : Sem Bool}
end
section
variable {md : List Bool} {T : KT}
variable {P : Program} {Wd : World} {Kf : PySem.W.Frag} {mg : Str → Option Value} {base : Heap}
end
/-! try: body, except X: one statement; raise -/
section
open PySem.Spec PyProof.Rows
variable {X : Cx} {pins : List (Addr × Obj)} {σ : L2.St} {H : Hp} {s : Shared}
variable {x : Str} {c : Value} {body : List Stmt} {st : Stmt} {np pos pos' rpos : Pos} {tb : WX → L2.TS} {ts : Addr → Value → Option Addr → L2.TS} {Wout : WX}
end
/-! try: body, except X: one statement; raise, by the machine; targets that are tuples alone -/
section
variable {K : KC} {X : Cx} {T : KT} {md : List Bool} {W : WX} {c : Value} {x : Str} {body : List Stmt} {st : Stmt} {np pos pos' rpos : Pos} {gb gs : GS} {tab : List (Nat × Bool)} {k : Nat} {is : List Nat} {tg : Expr}
def sTryRe (tab : List (Nat × Bool)) (gb gs : GS) : GS := fun m => match m.s with
  | _ :: _ => none
  | [] => match gb m with
    | some (.ex C g') => match tab.lookup C with
      | some true => match gs ⟨g', []⟩ with
        | some (.nx m2) => some (.ex C m2.g)
        | _ => none
      | some false => some (.ex C g')
      | none => none
    | r => r
/-- a, b = a tuple -/
def unpkT (md : List Bool) (is : List Nat) : Ms → Option Ms := fun m => match m.s with
  | .tr (.nd .tup o ts) :: s => if ts.length = is.length then bindAll md is ⟨m.g, (ts.map (kid o)).map Ent.tr ++ s⟩ else none
  | _ => none
end
/-! defs with a star parameter, called without stars -/
section
open PySem.Spec PyProof.Rows
variable {X : Cx} {CX : CXT} {kk : Nat} {f : Addr} {sp : Sp} {E : XK} {x : Str} {pp pos : Pos} {e : Expr} {es : List Expr} {t : TA}
end
section
variable {K : KC} {X : Cx} {T : KT} {md mdc : List Bool} {W : WX} {is : List Nat} {G : GF} {n k : Nat}
variable {x : Str} {pp pos : Pos} {e : Expr} {es : List Expr} {ga : GE} {kk : Nat} {f : Addr}
end
section
variable {md : List Bool} {T : KT}
variable {P : Program} {Wd : World} {Kf : PySem.W.Frag} {mg : Str → Option Value} {base : Heap}
end
/-! xs[a:] = ys -/
section
open PySem.Spec PyProof.Rows PySem.F
section
variable {prog : Program} {w : World} {A : Around} {E : Value → Shared → Prop} {s : Shared}
end
section
variable {X : Cx}
end
end
section
variable {K : KC} {X : Cx} {T : KT} {md : List Bool} {W : WX} {c : Cz} {σ : St} {H : Hp} {Γ τ : List Ent} {us vs : List V} {v w : V} {p : List Nat} {gv go gi : GE} {e o ie : Expr}
theorem RepL.take {Z : Zn} {m : Ow} {ts : List Tr} {vs : List V} {Φ : Ps} (n : Nat) (h : RepL K Z H m ts vs Φ) : ∃ Φ', RepL K Z H m (ts.take n) (vs.take n) Φ' ∧ ∀ b, Φ' b → Φ b := by
  have l := RepL.len _ h
  rw [← List.take_append_drop n ts] at h
  obtain ⟨v1, v2, Φ1, Φ2, e, h1, h2, d, u⟩ := RepL.split _ h
  have l1 := RepL.len _ h1
  have l2 := RepL.len _ h2
  have e1 : vs.take n = v1 := by
    rw [e, List.take_append]
    simp at l1 l2 l
    by_cases q : n ≤ ts.length
    · rw [show v1.length = n by omega, Nat.sub_self, List.take_zero, List.append_nil, List.take_of_length_le (by omega)]
    · have : v2 = [] := List.length_eq_zero_iff.mp (by omega)
      rw [this, List.take_nil, List.append_nil, List.take_of_length_le (by omega)]
  rw [e1]
  exact ⟨Φ1, h1, fun b q => (u b).mpr (.inl q)⟩
end
/-! a, b = a tuple, where an error is handled -/
section
open PySem.Spec PyProof.Rows
section
variable {prog : Program} {w : World} {A : Around} {E : Value → Shared → Prop} {s : Shared}
end
variable {X : Cx} {pos : Pos}
end
/-! walks by a supplier of items: enumerate, reversed; range with a step -/
section
variable {K : KC} {X : Cx} {T : KT} {md : List Bool} {W : WX} {c : Cz} {σ : St} {H H' : Hp} {Γ τ : List Ent} {us vs : List V} {v w : V} {n i : Nat} {gb : GS} {gs ga : GE} {tg iter e : Expr} {body : List Stmt} {pos pos' rp : Pos} {bd : Ms → Option Ms} {nx : Nat → Ms → Option Ms} {fin : Nat → Ms → Option Ms}
/-- nx i: the i-th item is put upon the thing walked; fin i: the thing walked goes, behind i items -/
def loopN (nx fin : Nat → Ms → Option Ms) (bd : Ms → Option Ms) (body : GS) : Nat → Nat → Ms → Option Os
  | 0, i, m => match fin i m with
    | some m' => some (.nx m')
    | none => none
  | r + 1, i, m => match nx i m with
    | some m0 => match bd m0 with
      | some m1 => match body m1 with
        | some (.nx m2) => loopN nx fin bd body r (i + 1) m2
        | some (.ct m2) => loopN nx fin bd body r (i + 1) m2
        | some (.bk m2) => some (.nx ⟨m2.g, m2.s.tail⟩)
        | some (.rt t m2) => some (.rt t ⟨m2.g, m2.s.tail⟩)
        | some (.ex C g) => some (.ex C g)
        | none => none
      | none => none
    | none => none
theorem loopN_ok {J : It} {tb : L2.TS} {gT : TG} {D : Ends} {w : V} {oo : Os} (hm : c.md = md) (hT : SG K md gT bd) (hB : SS K md W tb gb)
    (stop : ∀ i H σ (m m' : Ms), EnvOk K c σ H m.g m.s (w :: us) → fin i m = some m' → J.stop i H ∧ EnvOk K c σ H m'.g m'.s us)
    (step : ∀ i H σ (m m0 : Ms), EnvOk K c σ H m.g m.s (w :: us) → nx i m = some m0 → J.go i H ∧ ∀ x H', J.yld i H x H' → EnvOk K c σ H' m0.g m0.s (x :: w :: us))
    (hp : PostS K c W us D oo) : ∀ {σ : St} {H : Hp} {m : Ms} {n : Nat}, EnvOk K c σ H m.g m.s (w :: us) → loopN nx fin bd gb n 0 m = some oo →
    ∃ Wv : Nat → Nat → St → Hp → Prop, (∃ mm, Wv 0 mm σ H) ∧ ∀ i mm σ H, Wv i mm σ H →
      (J.stop i H ∧ D.nx σ H) ∨ (J.go i H ∧ ∃ N : St → Hp → Prop, (∀ σ' H', N σ' H' → ∃ m', m' < mm ∧ Wv (i + 1) m' σ' H') ∧ ∀ x H', J.yld i H x H' → gT x σ H' fun σ2 H2 => tb { D with nx := N, ct := N, bk := D.nx } σ2 H2) := by
  intro σ H m n E hg
  refine ⟨fun i r σ H => ∃ m : Ms, EnvOk K c σ H m.g m.s (w :: us) ∧ loopN nx fin bd gb r i m = some oo, ⟨n, m, E, hg⟩, ?_⟩
  rintro i r σ H ⟨m, E, hg⟩
  cases r with
  | zero =>
    simp only [loopN] at hg
    split at hg
    · rename_i m' h1
      cases hg
      obtain ⟨q1, q2⟩ := stop i H σ m m' E h1
      exact .inl ⟨q1, hp σ H q2⟩
    · cases hg
  | succ r =>
    simp only [loopN] at hg
    split at hg
    · rename_i m0 h0
      split at hg
      · rename_i m1 h1
        obtain ⟨go, yld⟩ := step i H σ m m0 E h0
        refine .inr ⟨go, fun σ' H' => ∃ m : Ms, EnvOk K c σ' H' m.g m.s (w :: us) ∧ loopN nx fin bd gb r (i + 1) m = some oo, fun σ' H' z => ⟨r, by omega, z⟩, fun x H' y => ?_⟩
        refine hT c σ H' m0 m1 _ x _ hm (yld x H' y) h1 fun σ2 H2 E2 => ?_
        cases h2 : gb m1 with
        | none => simp [h2] at hg
        | some o2 =>
          refine hB c σ2 H2 m1 _ _ o2 hm E2 h2 ?_
          cases o2 with
          | nx m2 =>
            simp only [h2] at hg
            exact fun σ3 H3 E3 => ⟨m2, E3, hg⟩
          | ct m2 =>
            simp only [h2] at hg
            exact fun σ3 H3 E3 => ⟨m2, E3, hg⟩
          | bk m2 =>
            simp only [h2] at hg
            cases hg
            exact fun σ3 H3 E3 => hp σ3 H3 E3.tail
          | rt t m2 =>
            simp only [h2] at hg
            cases hg
            exact fun σ3 x3 H3 E3 => hp σ3 x3 H3 E3.tail2
          | ex C g' =>
            simp only [h2] at hg
            cases hg
            exact hp
      · cases hg
    · cases hg
def finN (k : Nk) (off : Nat → Nat → Bool) (i : Nat) (m : Ms) : Option Ms := match m.s with
  | e :: s => match viewE m.g e with
    | some (.nd k' _ ts) => if k' = k ∧ off ts.length i = true then some ⟨m.g, s⟩ else none
    | _ => none
  | _ => none
theorem finN_ok {k : Nk} {off : Nat → Nat → Bool} {m m' : Ms} (E : EnvOk K c σ H m.g m.s (w :: us)) (h : finN k off i m = some m') : (∃ a vs o, w = .ref a ∧ ObjAt K k o H a vs ∧ off vs.length i = true) ∧ EnvOk K c σ H m'.g m'.s us := by
  unfold finN at h
  split at h
  · rename_i e s hs
    split at h
    · rename_i k' o ts hv
      split at h
      · rename_i hk
        cases h
        obtain ⟨rfl, hk⟩ := hk
        rw [hs] at E
        obtain ⟨a, vs, rfl, ho, hl⟩ := viewObj E hv
        exact ⟨⟨a, vs, o, rfl, ho, by rw [← hl]; exact hk⟩, E.drop⟩
      · cases h
    · cases h
  · cases h
/-- the item with its number -/
def nxEn (i : Nat) (m : Ms) : Option Ms := match m.s with
  | e :: s => match viewE m.g e with
    | some (.nd .lst o ts) => if cpE e = true ∧ i < ts.length then match kidX e .lst o ts i with
        | some (.tr t) => if cp t = true then some ⟨m.g, .tr (.nd .tup .own [.a (.int i), t]) :: e :: s⟩ else none
        | _ => none
      else none
    | _ => none
  | _ => none
theorem nxEn_ok {m m0 : Ms} (E : EnvOk K c σ H m.g m.s (w :: us)) (h : nxEn i m = some m0) : ∃ a, w = .ref a ∧ (∃ xs x, SqL K.K H a xs ∧ xs[i]? = some x) ∧ ∀ v H', (∃ Tt x, v = .ref Tt ∧ H Tt = none ∧ H' = upd H Tt (.tup [.int (i : Nat), x]) ∧ ∀ xs, SqL K.K H a xs → xs[i]? = some x) → EnvOk K c σ H' m0.g m0.s (v :: w :: us) := by
  unfold nxEn at h
  split at h
  · rename_i e s hs
    split at h
    · rename_i o ts hv
      split at h
      · rename_i hi
        split at h
        · rename_i t hk
          split at h
          · rename_i hcp
            cases h
            rw [hs] at E
            obtain ⟨a, vs', w', rfl, ho, hl2, hw, E3⟩ := EnvOk.kidX E (cpE_tr hi.1) hv hk
            refine ⟨a, rfl, ⟨vs', w', objL ho, hw⟩, ?_⟩
            rintro v H' ⟨Tt, x, rfl, hT, rfl, hx⟩
            have := hx vs' (objL ho)
            rw [hw] at this
            cases this
            have E4 : EnvOk K c σ H m.g ([.tr t] ++ ([.tr (.a (.int i))] ++ (e :: s))) ([w'] ++ ([.int i] ++ (.ref a :: us))) := EnvOk.permA (A := [.tr (.a (.int i))]) (B := [.tr t]) (va := [.int i]) (vb := [w']) rfl rfl (E3.atom (.int i))
            exact EnvOk.new (k := .tup) (ts := [.a (.int i), t]) (vs := [.int i, w']) (ob := .tup [.int i, w']) E4 rfl hT rfl fun o => .inl upd_same
          · cases h
        · cases h
      · cases h
    · cases h
  · cases h
end
/-! a def that keeps the addresses below its first parameter, called -/
section
variable {K : KC} {X : Cx} {T : KT} {md mdc : List Bool} {W : WX} {G : GG} {x : Str} {pp pos : Pos} {e : Expr} {es : List Expr} {ga : GE} {kk : Nat} {f : Addr} {fd : FuncData} {ps : List Str}
end
/-! sum of a list where an error is handled; defs that keep addresses, called there -/
section
open PySem.Spec PyProof.Rows
section
variable {prog : Program} {w : World} {A : Around} {E : Value → Shared → Prop} {s : Shared}
end
variable {X : Cx}
end
section
variable {K : KC} {X : Cx} {T : KT} {md mdc : List Bool} {W : WX} {G : GG} {n : Nat}
variable {me : Str} {pos apos : Pos} {e oe : Expr} {es : List Expr} {ga go : GE} {kk : Nat} {f : Addr} {fd : FuncData} {ps : List Str} {pl : Sem Bool}
end
section
variable {K : KC} {md : List Bool} {T : KT}
variable {P : Program} {Wd : World} {Kf : PySem.W.Frag} {mg : Str → Option Value} {base : Heap}
end
/-! a comprehension over an own list of rows: its item is a place -/
section
variable {md : List Bool} {k n : Nat} {m m1 : Ms} {Γ s : List Ent} {gs gt ge : GE} {α : Type}
end
/-! a def that calls itself: no promise at depth 0 -/
section
variable {P : Program} {Wd : World} {Kf : PySem.W.Frag} {mg : Str → Option Value} {base : Heap} {T : KT} {md : List Bool}
theorem fn_none {x qual : Str} {st : Stmt} {f : Addr} {fd : FuncData} {N ps : List Str} {k : Nat} (F : Fun Kf x qual st f fd) (S : FnScope N ps (defScope st)) :
    FnOk P Wd Kf mg base (L2N.CX P Wd) (k + 1) f fd ps (spOf (kcm Kf T) md fun _ => none) := by
  obtain ⟨oc, od, kV, doc, pm, an, cdv, ct, osl, rfl, inK, cdOk⟩ := F.ex
  refine fn_of inK cdOk S (fun vs H Q E h => ?_) (fun A outer s H vs Q E hr h => ?_)
  all_goals
    obtain ⟨_, _, _, _, _, _, _, _, hG, _⟩ := h
    exact nomatch hG
end
/-! a caught error handed to a def -/
section
variable {K : KC} {X : Cx} {T : KT} {md mdc : List Bool} {W : WX} {is : List Nat}
end
/-! defs that are handed an error: from the body, and the call -/
section
open PySem.Spec PyProof.Rows HotX
variable {CX : CXT} {P : Program} {w : World} {Kf : PySem.W.Frag} {mg : Str → Option Value} {base : Heap} {k : Nat} {f : Addr} {T : KT} {md mdc : List Bool}
end
/-! the call of a def that is handed the error -/
section
open PySem.Spec PyProof.Rows HotX
variable {X : Cx} {T : KT} {md mdc : List Bool} {W : WX} {is : List Nat} {p : Addr × Obj} {kk : Nat} {f D : Addr} {fd : FuncData} {ps : List Str} {G : Addr → GF} {x : Str} {pp pos : Pos} {e : Expr} {es : List Expr} {ga : GE}
end
/-! list(d): the keys of a dict -/
section
variable {K : KC} {X : Cx} {T : KT} {md : List Bool} {W : WX}
def keysT (ks : List Key) : List Tr := ks.map fun k => .a (kV k)
def fLstD : GE := fun m => match m.s with
  | e :: s => match viewE m.g e with
    | some (.nd (.dct ks) o ts) => some (.ok ⟨m.g, .tr (.nd .lst .own (keysT ks)) :: s⟩)
    | _ => none
  | _ => none
theorem keysT_zip : ∀ {ks : List Key} {vs : List V}, ks.length = vs.length → (ks.zip vs).map (fun kv => kV kv.1) = ks.map kV
  | [], [], _ => rfl
  | k :: ks, v :: vs, h => by simp [keysT_zip (ks := ks) (vs := vs) (by simpa using h)]
theorem keysT_esc (ks : List Key) : escL (keysT ks) = true := by
  rw [escL_all]
  intro y hy
  obtain ⟨k, _, rfl⟩ := List.mem_map.mp hy
  rfl
theorem EnvOk.keysA {c : Cz} {σ : St} {H : Hp} {Γ τ : List Ent} {us : List V} (E : EnvOk K c σ H Γ τ us) : ∀ (ks : List Key), EnvOk K c σ H Γ ((keysT ks).reverse.map Ent.tr ++ τ) ((ks.map kV).reverse ++ us)
  | [] => E
  | k :: ks => by
    have := (E.atom (kV k)).keysA ks
    simpa [keysT] using this
theorem fLstD_ok : RA K md W 1 (fun _ xs H Q => ∃ (a : Addr) (kvs : List (Key × V)), xs = [.ref a] ∧ Rd H a (.dK kvs) ∧ ∀ p, H p = none → Q (.ref p) (upd H p (.lst (kvs.map fun kv => kV kv.1)))) fLstD := by
  intro c σ H m us vs Q rr hc hl E hf hp
  match vs, hl with
  | [x], _ =>
    simp only [fLstD] at hf
    split at hf
    · rename_i ex s hs
      rw [hs] at E
      split at hf
      · rename_i ks o ts hv
        cases hf
        obtain ⟨a, vs, rfl, ho, hlen⟩ := viewObj E hv
        have hk : ks.length = vs.length ∧ Rd H a (.dK (ks.zip vs)) := by
          cases o with
          | own => exact ⟨ho.1, .inl ho.2⟩
          | frz => exact ho
          | lnt => exact ho
        refine ⟨a, _, rfl, hk.2, fun p np => hp _ _ ?_⟩
        rw [keysT_zip hk.1]
        have E1 := (E.drop).keysA ks
        exact EnvOk.new (k := .lst) (ts := keysT ks) (vs := ks.map kV) E1 (by simp [keysT]) np (by simp [mkN, keysT_esc]) fun o => upd_same
      · cases hf
    · cases hf
end
/-! x is True, x is False, of anything -/
section
open PySem.Spec PyProof.Rows
variable {K : KC} {X : Cx} {T : KT} {md : List Bool} {W : WX}
theorem same_bl {M : Model} {A : Around} {E : Value → Shared → Prop} {s : Shared} {x : V} {u : Value} {b : Bool} {R : Bool → Shared → Prop} (r : RelV x u) (q : R (decide (x = .bl b)) s) : wpAny M A (isSame u (.bool b)) R E s := by
  have far : ∀ {u : Value}, plainIs u (.bool b) = true → (u == Value.bool b) = false → x ≠ .bl b → wpAny M A (isSame u (.bool b)) R E s := fun h1 h2 h3 => wpAny_isSame_plain h1 (by rw [h2]; rwa [decide_eq_false h3] at q)
  cases x with
  | bl c =>
    cases r
    by_cases e : c = b
    · subst e
      rw [decide_eq_true rfl] at q
      exact wpAny_isSame_plain rfl (by rw [show (Value.bool c == Value.bool c) = true from by cases c <;> rfl]; exact q)
    · have h3 : (V.bl c) ≠ .bl b := fun z => e (by cases z; rfl)
      exact far rfl (by cases c <;> cases b <;> first | rfl | exact absurd rfl e) h3
  | ref a => cases r; exact far rfl rfl (fun z => by cases z)
  | non => cases r; exact far rfl rfl (fun z => by cases z)
  | int i => obtain ⟨t, rfl⟩ := r; exact far rfl rfl (fun z => by cases z)
  | str i => obtain ⟨t, rfl⟩ := r; exact far rfl rfl (fun z => by cases z)
  | byt i => obtain ⟨t, rfl⟩ := r; exact far rfl rfl (fun z => by cases z)
  | flt i => obtain ⟨t, rfl⟩ := r; exact far rfl rfl (fun z => by cases z)
  | ty i => cases r; exact far rfl rfl (fun z => by cases z)
theorem op_isBV : OpR X (compareOp .Is) (fun x y H Q => ∃ b, y = .bl b ∧ Q (.bl (decide (x = .bl b))) H) := by
  rintro pins s σ H x y v u Q I rx ry ⟨b, rfl, q⟩
  cases ry
  show wpAny _ _ ((isSame v (Value.bool b)) >>= fun z => pure (Value.bool z)) _ _ s
  exact wpAny_bind (same_bl rx (wpAny_pure ⟨.bl (decide (x = .bl b)), H, I, rfl, q⟩))
def FIsBV (neg : Bool) : Tr → Tr → Option V
  | .a u, .a (.bl b) => some (.bl (if neg then !decide (u = .bl b) else decide (u = .bl b)))
  | .nd _ _ _, .a (.bl b) => some (.bl neg)
  | _, _ => none
def fIsBV : GE := fP2 (FIsBV false)
def fNotBV : GE := fP2 (FIsBV true)
theorem FIsBV_ok {neg : Bool} {Z : Zn} {H : Hp} {tx ty : Tr} {x y u : V} {Φ Ψ : Ps} (r1 : Rep K Z H .own tx x Φ) (r2 : Rep K Z H .own ty y Ψ) (e : FIsBV neg tx ty = some u) : ∃ b, y = .bl b ∧ u = .bl (if neg then !decide (x = .bl b) else decide (x = .bl b)) := by
  unfold FIsBV at e
  split at e
  · cases e
    obtain ⟨rfl, _⟩ := r1
    exact ⟨_, r2.1, rfl⟩
  · cases e
    obtain ⟨ad, vs, Ξ, rfl, _⟩ := r1
    refine ⟨_, r2.1, ?_⟩
    cases neg <;> rfl
  · cases e
theorem fIsBV_ok : RA2 K md W (fun x y H Q => ∃ b, y = .bl b ∧ Q (.bl (decide (x = .bl b))) H) fIsBV := fP2_ok fun Z H x y tx ty u Φ Ψ Q r1 r2 e q => by
  obtain ⟨b, h1, rfl⟩ := FIsBV_ok r1 r2 e
  exact ⟨b, h1, q⟩
end
/-! a walk over a list where an error is handled -/
section
open PySem.Spec PyProof.Rows HotX
section
variable {prog : Program} {w : World} {A : Around} {E : Value → Shared → Prop} {s : Shared}
end
end
section
variable {X : Cx} {T : KT} {md : List Bool} {W : WX} {gs : GE} {bd : Ms → Option Ms} {gb : GS} {iter tg : Expr} {body : List Stmt} {pos : Pos}
end
section
open PySem.Spec
variable {X : Cx} {T : KT} {md : List Bool} {W : WX} {ga : GE} {bd : Ms → Option Ms} {gb : GS} {tg : Expr} {body : List Stmt} {pos pos' rp : Pos}
end
/-! enumerate of a tuple -/
section
open PySem.Spec PyProof.Rows
open PySem.Sem (wp)
set_option maxHeartbeats 4000000 in
theorem meets_enumOne {v : Value} {o : Obj} {H : Heap → Prop} (B : Begins v o H) : Meets (Builtin.«enumerate.__new__» ⟨[.type "enumerate", v], []⟩) (fun _ R s => H s.heap ∧
      R (.ok (.ret (.ref (s.heap.push o).objs.size))) { s with heap := (s.heap.push o).push { cls := .type "enumerate", data := .fields #[.none, .bool false, .ref s.heap.objs.size, rawInt 0, .none, .none] } }) :=
  .of_wp fun prog w A R s h => by
    rcases s with ⟨hp, g, d, tk, os⟩
    rcases h with ⟨h1, h⟩
    have hsub := sub_enumerate
    have begin_ : ∀ {A' : Around} {E : Value → Shared → Prop} {Q : Value → Shared → Prop}, Q (.ref hp.objs.size) ⟨hp.push o, g, d, tk, os⟩ → wpAny (model prog w) A' (pyIter v) Q E ⟨hp, g, d, tk, os⟩ := fun q => B.iter prog w _ _ ⟨hp, g, d, tk, os⟩ _ h1 q
    wp_walk using begin_
    refine wpAny_stack_any fun st => wpAny_pure ?_
    split
    · rename_i c _ _ _ _ _
      cases (c == Value.type "enumerate") <;> (wp_walk using begin_; exact ⟨_, rfl, h⟩)
    · wp_walk using begin_
      exact ⟨_, rfl, h⟩
section
variable {prog : Program} {w : World} {A : Around} {E : Value → Shared → Prop} {s : Shared}
theorem enum_one {v : Value} {o : Obj} {H : Heap → Prop} {Q : Value → Shared → Prop} (B : Begins v o H) (h1 : H s.heap)
    (k : ∀ h', IsEnum h' (s.heap.objs.size + 1) s.heap.objs.size 0 .none → h'.get? s.heap.objs.size = some o → (∀ b u, s.heap.get? b = some u → h'.get? b = some u) → Q (.ref (s.heap.objs.size + 1)) { s with heap := h' }) : wpAny (model prog w) A (call (.type "enumerate") [v]) Q E s := by
  apply callType_new F.called_enumerate (by decide) (F.typeCall_enumerate_1 _) (F.newCall_enumerate_1 _) (fun obj => F.args_object_init_2 obj _) F.entry_enumerate_new (meets_enumOne B)
  refine ⟨h1, ?_⟩
  have one : (s.heap.push o).objs.size = s.heap.objs.size + 1 := Heap.size_push ..
  show _ ∧ _
  rw [one]
  have two := Heap.get?_push_size (s.heap.push o) (o := { cls := .type "enumerate", data := .fields #[.none, .bool false, .ref s.heap.objs.size, rawInt 0, .none, .none] }) rfl
  rw [one] at two
  exact ⟨⟨_, two, rfl⟩, k _ two (Heap.get?_push_of_some _ (Heap.get?_push_size _ B.free)) fun b u x => Heap.get?_push_of_some _ (Heap.get?_push_of_some _ x)⟩
end
def IteT (K : PySem.W.Frag) (a : Addr) : It :=
  ⟨fun i H => ∃ (xs : List V) (x : V), SqT K H a xs ∧ xs[i]? = some x, fun i H v H' => ∃ T x, v = .ref T ∧ H T = none ∧ H' = upd H T (.tup [.int (i : Nat), x]) ∧ ∀ xs, SqT K H a xs → xs[i]? = some x, fun i H => ∃ xs : List V, SqT K H a xs ∧ xs.length = i⟩
theorem turn_enumT {P : Program} {w : World} {K : PySem.W.Frag} {elts : List Expr} {kk : Nat} {tpos : Pos} (a e it : Addr) :
    Turn P w K (.Tuple elts kk tpos) (IteT K a) [e, it] e (fun i h => (∃ old, IsEnum h e it ((i : Nat) : Int) old) ∧ h.IsTupleIter it a i ∧ e ≠ it ∧ a ≠ it ∧ e ≠ a) := by
  constructor
  case mem => simp
  case obj =>
    rintro i h ⟨⟨old, he⟩, ⟨o, ho, hc, hd⟩, _⟩ b hb
    rcases (show b = e ∨ b = it by simpa using hb) with rfl | rfl
    · exact ⟨_, he, fun v q => by cases q⟩
    · exact ⟨o, ho, fun v q => by rw [hd] at q; cases q⟩
  case keep =>
    rintro i h h' ⟨⟨old, he⟩, hi, hne⟩ k
    exact ⟨⟨old, k e (by simp) _ he⟩, hi.at fun o q => k it (by simp) o q, hne⟩
  case item =>
    rintro X rfl rfl rfl hc i pins s σ H E I hf ⟨⟨old, he⟩, hit, hne, hat, hea⟩ ⟨xs, x, hq, hx⟩
    obtain ⟨its, rv, p, hz⟩ := I.tuple hq
    obtain ⟨u, hu, ru⟩ := rv.get hx
    have lt_e : e < s.heap.objs.size := Heap.lt_size he
    have lt_it : it < s.heap.objs.size := by obtain ⟨_, q, _⟩ := hit; exact Heap.lt_size q
    have D := Draws.tuple (prog := X.prog) (w := X.w) (A := X.A.in1) (I.ok.hd hc) it a hat its.toArray
    have small : i < its.toArray.size := by
      have := rv.length
      have := getq_lt' hx
      simp
      omega
    refine wpAny_pyNext_enum_itemC D he ⟨hit, p⟩ small hne (by simp [hne, hea]) fun y h' tk hy out st' hT hsz hk => ?_
    have hy : u = y := by
      have hu' : its.toArray[i]? = some u := by simpa using hu
      rw [hu'] at hy
      cases hy
      rfl
    subst hy
    refine ⟨_, rfl, wpAny_letOwnedTupleGo_enum (s := { s with heap := h', toks := tk + 1 }) out fun h'' he' sb => ?_⟩
    have hT2 : h''.get? s.heap.objs.size = some { cls := .type "tuple", data := .seq #[.int i tk, u] } := (sb.2 _ (Nat.ne_of_gt lt_e)).trans hT
    have new : ObjOk X.prog X.w (upd H s.heap.objs.size (.tup [.int (i : Nat), x])) h'' s.heap.objs.size (.tup [.int (i : Nat), x]) := by
      refine ⟨by show 2 ≤ sizeLine; decide, [.int i tk, u], .cons ⟨_, rfl⟩ (.cons ru .nil), ⟨_, hT2, rfl, _, rfl⟩⟩
    have J : Inv X pins σ (upd H s.heap.objs.size (.tup [.int (i : Nat), x])) { s with heap := h'', toks := tk + 1 } :=
      I.turnedNew (ch := [e, it]) (fun b ob hb q => (sb.2 b (fun z => hb (by simp [z]))).trans (hk b ob (fun z => hb (by simp [z])) (fun z => hb (by simp [z])) q)) hf (Nat.le_refl _) new
    have step : ((i + 1 : Nat) : Int) = (i : Int) + 1 := by omega
    refine ⟨.ref s.heap.objs.size, _, J, rfl, ⟨_, x, rfl, I.hok.fresh (Nat.le_refl _), rfl, fun ys hy => by rw [I.tuple_inj hy hq]; exact hx⟩, ⟨⟨u, by rw [step]; exact he'⟩, st'.1.at fun o q => (sb.2 it (Ne.symm hne)).trans q, hne, hat, hea⟩, fun b hb => ?_⟩
    have there : b < s.heap.objs.size := by
      rcases (show b = e ∨ b = it by simpa using hb) with z | z
      · rw [z]; exact lt_e
      · rw [z]; exact lt_it
    rw [upd_ne (Nat.ne_of_lt there)]
    exact (hf b hb).1
  case done =>
    rintro X rfl rfl rfl hc i pins s σ H E I hf ⟨⟨old, he⟩, hit, hne, hat, hea⟩ ⟨xs, hq, hx⟩
    obtain ⟨its, rv, p, hz⟩ := I.tuple hq
    have D := Draws.tuple (prog := X.prog) (w := X.w) (A := X.A.in1) (I.ok.hd hc) it a hat its.toArray
    have size : its.toArray.size = i := by
      have := rv.length
      simp
      omega
    obtain ⟨f0, f1, f2, f3, f4, f5⟩ := hf it (by simp)
    exact wpAny_pyNext_enum_endD D he (by rw [size]; exact ⟨hit, p⟩) fun h' eb => ⟨rfl, I.turned (t' := s.toks) (fun b o hb q => eb b o hb q) f0 f1 f3 f4 f5⟩
  case self =>
    rintro A i s Q E ⟨⟨_, he⟩, _⟩ h
    exact wpAny_pyIter_enum he h
def iEnumT (K : PySem.W.Frag) (ta : TA) : TI := fun σ H R => ta σ H fun vs H1 => ∃ a xs, vs = [.ref a] ∧ SqT K H1 a xs ∧ R (IteT K a) H1
theorem pi_enumT {X : Cx} {e : Expr} {ta : TA} {p pos tpos : Pos} {elts : List Expr} {kk : Nat} (hg : Gl X "enumerate") (hm : X.mg "enumerate" = none) (ha : PA X [e] ta) (hs : starEach [e] X.env = [(false, eval e X.env)] := by rfl) :
    PI X (.Tuple elts kk tpos) (.Call (.Name "enumerate" p) [e] [] pos) (iEnumT X.K ta) := by
  constructor
  intro pins s σ H R I h
  refine Call_ (ld_blt I hg hm boot_enumerate ?_)
  refine PyProof.Rows.callWith_type1 (thn (ha.run pos pins s σ H _ I h) ?_) hs rfl
  rintro us s1 ⟨vs, H1, I1, r1, a, xs, rfl, hq, q⟩
  match us, r1 with
  | [_], .cons r .nil =>
    cases r
    obtain ⟨its, rv, pt, hz⟩ := I1.tuple hq
    have la : a < s1.heap.objs.size := by
      obtain ⟨o, ho, _⟩ := pt
      exact Heap.lt_size ho
    refine enum_one (begins_tuple a its.toArray) pt fun h' he hit hk => wpAny_pyIter_enum he ?_
    have J : Inv X pins σ H1 { s1 with heap := h' } := I1.kept (t' := s1.toks) hk
    refine ⟨s1.heap.objs.size + 1, [s1.heap.objs.size + 1, s1.heap.objs.size], _, _, H1, rfl, J, turn_enumT a (s1.heap.objs.size + 1) s1.heap.objs.size, ⟨⟨.none, he⟩, ⟨_, hit, rfl, rfl⟩, Nat.succ_ne_self _, Nat.ne_of_lt la, Nat.ne_of_gt (Nat.lt_succ_of_lt la)⟩, fun b hb => ?_, q⟩
    have above : s1.heap.objs.size ≤ b := by
      rcases (show b = s1.heap.objs.size + 1 ∨ b = s1.heap.objs.size by simpa using hb) with z | z
      · rw [z]; exact Nat.le_add_right _ _
      · rw [z]; exact Nat.le_refl _
    exact I1.fpOk above (I1.hok.fresh above)
end
section
variable {K : KC} {X : Cx} {T : KT} {md : List Bool} {W : WX} {c : Cz} {σ : St} {H : Hp} {us : List V} {w : V} {i : Nat} {ga : GE} {bd : Ms → Option Ms} {gb : GS} {e : Expr} {body : List Stmt} {pos pos' rp : Pos}
/-- the item of a tuple with its number -/
def nxEnT (i : Nat) (m : Ms) : Option Ms := match m.s with
  | e :: s => match viewE m.g e with
    | some (.nd .tup o ts) => if cpE e = true ∧ i < ts.length then match kidX e .tup o ts i with
        | some (.tr t) => if cp t = true then some ⟨m.g, .tr (.nd .tup .own [.a (.int i), t]) :: e :: s⟩ else none
        | _ => none
      else none
    | _ => none
  | _ => none
theorem nxEnT_ok {m m0 : Ms} (E : EnvOk K c σ H m.g m.s (w :: us)) (h : nxEnT i m = some m0) : ∃ a, w = .ref a ∧ (∃ xs x, SqT K.K H a xs ∧ xs[i]? = some x) ∧ ∀ v H', (∃ Tt x, v = .ref Tt ∧ H Tt = none ∧ H' = upd H Tt (.tup [.int (i : Nat), x]) ∧ ∀ xs, SqT K.K H a xs → xs[i]? = some x) → EnvOk K c σ H' m0.g m0.s (v :: w :: us) := by
  unfold nxEnT at h
  split at h
  · rename_i e s hs
    split at h
    · rename_i o ts hv
      split at h
      · rename_i hi
        split at h
        · rename_i t hk
          split at h
          · rename_i hcp
            cases h
            rw [hs] at E
            obtain ⟨a, vs', w', rfl, ho, hl2, hw, E3⟩ := EnvOk.kidX E (cpE_tr hi.1) hv hk
            refine ⟨a, rfl, ⟨vs', w', objT ho, hw⟩, ?_⟩
            rintro v H' ⟨Tt, x, rfl, hT, rfl, hx⟩
            have := hx vs' (objT ho)
            rw [hw] at this
            cases this
            have E4 : EnvOk K c σ H m.g ([.tr t] ++ ([.tr (.a (.int i))] ++ (e :: s))) ([w'] ++ ([.int i] ++ (.ref a :: us))) := EnvOk.permA (A := [.tr (.a (.int i))]) (B := [.tr t]) (va := [.int i]) (vb := [w']) rfl rfl (E3.atom (.int i))
            exact EnvOk.new (k := .tup) (ts := [.a (.int i), t]) (vs := [.int i, w']) (ob := .tup [.int i, w']) E4 rfl hT rfl fun o => .inl upd_same
          · cases h
        · cases h
      · cases h
    · cases h
  · cases h
/-- for (i, x) in enumerate(xs), xs a list or a tuple -/
def sForEnA (gs : GE) (bd : Ms → Option Ms) (body : GS) : GS := fun m => match gs m with
  | some (.ok m1) => match ready m1 with
    | some (m2, .lst, n) => loopN nxEn (finN .lst fun l i => decide (l ≤ i)) bd body n 0 m2
    | some (m2, .tup, n) => loopN nxEnT (finN .tup fun l i => decide (l = i)) bd body n 0 m2
    | _ => none
  | some (.ex C g) => some (.ex C g)
  | none => none
theorem ms_forEnA {elts : List Expr} {kk : Nat} {tpos : Pos} (ha : MA X T md W [e] ga) (hT : MG X T md (.Tuple elts kk tpos) bd) (hB : MSs X T md W body gb) (hgl : Gl X "enumerate") (hmg : X.mg "enumerate" = none) (hp : PassesOwn (model X.prog X.w) X.A X.env X.xe) (hc : X.calm = true)
    (hs : starEach [e] X.env = [(false, eval e X.env)] := by rfl) (hf : ∀ x, foldedSetIterable (.Call (.Name "enumerate" rp) [e] [] pos') X.env x = pure x := by intro _; rfl) : MS X T md W (.For (.Tuple elts kk tpos) (.Call (.Name "enumerate" rp) [e] [] pos') body [] pos) (sForEnA ga bd gb) := by
  obtain ⟨ti, pi, si⟩ := ha
  obtain ⟨tt, pt, st⟩ := hT
  obtain ⟨tb, pb, sb⟩ := hB
  refine ⟨_, ps_for hp hc (PI.or (pi_enum hgl hmg pi hs) (pi_enumT hgl hmg pi hs)) pt pb hf, fun c σ H m us D oo hm E hg hpo => ?_⟩
  simp only [sForEnA] at hg
  split at hg
  · rename_i m1 h1
    split at hg
    · rename_i m2 n h2
      refine .inl (si c σ H m us _ _ hm E h1 fun vs H1 hl E1 => ?_)
      match vs, hl with
      | [x], _ =>
        obtain ⟨E2, e, s, o, ts, hs2, hv, _⟩ := ready_ok (x := x) (us := us) E1 h2
        obtain ⟨a, vs, rfl, ho, _⟩ := viewObj (hs2 ▸ E2) hv
        refine ⟨a, vs, rfl, objL ho, ?_⟩
        refine loopN_ok hm st sb (fun i H σ m m' E h => ?_) (fun i H σ m m0 E h => ?_) hpo E2 hg
        · obtain ⟨⟨a', vs', o', e', ho', hd⟩, E'⟩ := finN_ok E h
          cases e'
          exact ⟨⟨vs', objL ho', by simpa using hd⟩, E'⟩
        · obtain ⟨a', e', go, yl⟩ := nxEn_ok E h
          cases e'
          exact ⟨go, yl⟩
    · rename_i m2 n h2
      refine .inr (si c σ H m us _ _ hm E h1 fun vs H1 hl E1 => ?_)
      match vs, hl with
      | [x], _ =>
        obtain ⟨E2, e, s, o, ts, hs2, hv, _⟩ := ready_ok (x := x) (us := us) E1 h2
        obtain ⟨a, vs, rfl, ho, _⟩ := viewObj (hs2 ▸ E2) hv
        refine ⟨a, vs, rfl, objT ho, ?_⟩
        refine loopN_ok hm st sb (fun i H σ m m' E h => ?_) (fun i H σ m m0 E h => ?_) hpo E2 hg
        · obtain ⟨⟨a', vs', o', e', ho', hd⟩, E'⟩ := finN_ok E h
          cases e'
          exact ⟨⟨vs', objT ho', by simpa using hd⟩, E'⟩
        · obtain ⟨a', e', go, yl⟩ := nxEnT_ok E h
          cases e'
          exact ⟨go, yl⟩
    · cases hg
  · rename_i h1
    cases hg
    exact .inl (si c σ H m us _ _ hm E h1 fun H1 E1 => hpo σ H1 E1)
  · cases hg
end
/-! a look at things that are all lent for its time; a def that returns a new list of what it was lent -/
section
variable {K : KC} {X : Cx} {T : KT} {md : List Bool} {W : WX} {c : Cz} {σ : St} {H H' : Hp} {Γ τ : List Ent} {us ws : List V} {Z : Zn} {Φ Ψ : Ps} {t : TE} {g : GE}
end
section
variable {K : KC} {X : Cx} {T : KT} {md : List Bool} {W : WX} {ga : GE} {f : Addr} {fd : FuncData} {ps : List Str} {kk : Nat} {x : Str} {pp pos : Pos} {e : Expr}
end
section
variable {K : KC} {X : Cx} {T : KT} {md : List Bool} {W : WX} {ge : GE} {e : Expr}
end
section
variable {K : KC} {X : Cx} {T : KT} {md : List Bool} {W : WX} {i j d : Nat} {e : Expr} {es : List Expr} {ga g : GE} {pos pos' lp : Pos}
end
/-! a call of a def that keeps addresses, where aliases at the place itself and aliases at the bottom of the stack live on, too -/
section
variable {K : KC} {X : Cx} {T : KT} {md mdc : List Bool} {W : WX} {c : Cz} {σ : St} {H H' : Hp} {Γ τ : List Ent} {us vs ws wq : List V} {v w wp : V} {p q r : List Nat} {t : Tr} {ts : List Tr} {i j n k : Nat} {Z : Zn} {Φ Ψ : Ps} {qs : List (List Nat)} {G : GG}
end
section
variable {K : KC} {X : Cx} {T : KT} {md mdc : List Bool} {W : WX} {G : GG} {x : Str} {pp pos : Pos} {e : Expr} {es : List Expr} {ga : GE} {kk : Nat} {f : Addr} {fd : FuncData} {ps : List Str}
end
/-! xs.remove(x), deep -/
section
variable {X : Cx}
end
theorem units65 {k : Nat} {A : Around} (r : Room k A) : A.units + 65 < cLine := by have := r.un; omega
section
variable {K : KC} {X : Cx} {T : KT} {md : List Bool} {W : WX} {c : Cz} {σ : St} {H : Hp} {Γ s : List Ent} {L : List Tr} {ts : List Tr} {t x : Tr} {j : Nat} {p : List Nat}
end
/-! xs.count(k) -/
section
variable {K : KC} {X : Cx} {T : KT} {md : List Bool} {W : WX}
end
/-! a value of which nothing is known any more -/
section
variable {K : KC} {X : Cx} {T : KT} {md : List Bool} {W : WX} {e : Expr} {g : GE}
def fHid : GE := fun m => match m.s with
  | _ :: s => some (.ok ⟨m.g, .tr .any :: s⟩)
  | _ => none
end
section
variable {K : KC} {X : Cx} {T : KT} {md mdc : List Bool} {W : WX} {c : Cz} {σ : St} {H H' : Hp} {Γ τ : List Ent} {us vs ws wq : List V} {v w wp w0 : V} {p q r q0 : List Nat} {t : Tr} {ts : List Tr} {i j n r0 : Nat} {Z : Zn} {qs : List (List Nat)} {Φ Ψ : Ps} {m m' : Ms} {G : GG}
variable {P : Program} {Wd : World} {Kf : PySem.W.Frag} {mg : Str → Option Value} {base : Heap}

variable {x : Str} {pp pos : Pos} {e : Expr} {es : List Expr} {ga : GE} {kk : Nat} {f : Addr} {fd : FuncData} {ps : List Str}
end
/-! dicts whose keys are tuples of ints and texts (new ones or ones of the written part): in, read, store, a display of one pair -/
section
variable {X : Cx} {pins : List (Addr × Obj)} {σ : St} {H : Hp} {s : Shared} {a b : Addr} {k : NestedKey} {v : V} {r : Value} {l : List (NestedKey × Addr × V)} {A : Around} {E : Value → Shared → Prop}
end
section
variable {K : KC} {X : Cx} {T : KT} {md : List Bool} {W : WX} {c : Cz} {σ : St} {H H' : Hp} {Γ τ : List Ent} {us vs : List V} {v w : V} {p q : List Nat} {t : Tr} {ts ts' : List Tr} {i j : Nat} {ks : List NestedKey} {k : NestedKey}
variable {g : GS} {gi go gv ga gb : GE} {e a b o ie : Expr} {pos pos' : Pos}
/-! on trees -/
mutual
def keyN : Tr → Option NestedKey
  | .a v => match v with
    | .int i => some (.num i)
    | .str x => some (.text x)
    | .non => some .none
    | _ => none
  | .nd .tup _ ts => match keysA ts with
    | some ks => some (.tup ks)
    | none => none
  | _ => none
def keysA : List Tr → Option (List NestedKey)
  | [] => some []
  | t :: ts => match keyN t, keysA ts with
    | some k, some ks => some (k :: ks)
    | _, _ => none
end
def keyT (t : Tr) : Option NestedKey := match keyN t with
  | some (.tup ks) => if (NestedKey.tup ks).depth ≤ 8 then some (.tup ks) else none
  | _ => none
def kixT (k : NestedKey) : List NestedKey → Option Nat
  | [] => none
  | x :: ks => if x = k then some 0 else (kixT k ks).map (· + 1)
def FInT (neg : Bool) : Tr → Tr → Option V
  | tx, .nd (.dcT ks) _ _ => match keyT tx with
    | some k => some (.bl (if neg then !(kixT k ks).isSome else (kixT k ks).isSome))
    | none => none
  | _, _ => none
def fInB : GE := gOr fInA (fP2 (FInT false))
def fNotInB : GE := gOr fNotInA (fP2 (FInT true))
end
/-! dicts with tuple keys: stores, displays of one pair -/
section
variable {K : KC} {X : Cx} {T : KT} {md : List Bool} {W : WX} {c : Cz} {σ : St} {H H' : Hp} {Γ τ : List Ent} {us vs : List V} {v w : V} {p q : List Nat} {t : Tr} {ts ts' : List Tr} {i j : Nat} {ks : List NestedKey} {k : NestedKey}
variable {g : GS} {gi go gv ga gb : GE} {e a b o ie : Expr} {pos pos' : Pos}
def stSubT : Ms → Option Ms := fun m => match m.s with
  | .tr y :: .al p :: .tr t :: s => match getG m.g p, keyT y with
    | some (.nd (.dcT ks) .own ts), some k => if esc t = true ∧ ks.length < 100000 then match kixT k ks with
        | some j => some ⟨(setG m.g p (.nd (.dcT ks) .own (ts.set j t))).map (killJ (p ++ [j])), s.map (killJ (p ++ [j]))⟩
        | none => some ⟨kill p (setG m.g p (.nd (.dcT (ks ++ [k])) .own (ts ++ [t]))), kill p s⟩
      else none
    | _, _ => none
  | _ => none
def stSubB : Ms → Option Ms := fun m => match stSubA m with
  | none => stSubT m
  | r => r
def sSubB (gv go gi : GE) : GS := fun m => match gSeq (gSeq gv go) gi m with
  | some (.ok m') => match stSubB m' with
    | some m2 => some (.nx m2)
    | none => none
  | some (.ex C g) => some (.ex C g)
  | none => none
end
/-! {k: v}, k a tuple -/
section
variable {K : KC} {X : Cx} {T : KT} {md : List Bool} {W : WX} {tk tv : TE} {gk gv : GE} {ke ve : Expr} {dpos : Pos}
end
section
variable {X : Cx} {T : KT} {md : List Bool} {W : WX} {gk gv : GE} {ke ve : Expr} {dpos : Pos}
def gK0 : GE := fun m => some (.ok ⟨m.g, .tr (.nd (.dcT []) .own []) :: m.s⟩)
def fPut1 : GE := fun m => match m.s with
  | .tr t :: .tr y :: .tr (.nd (.dcT []) .own []) :: s => match keyT y with
    | some k => if esc t = true then some (.ok ⟨m.g, .tr (.nd (.dcT [k]) .own [t]) :: s⟩) else none
    | none => none
  | _ => none
end
/-! written dicts of defs by texts; a property; xs[::-1] -/
section
variable {K : KC} {X : Cx} {T : KT} {md mdc : List Bool} {W : WX} {c : Cz} {σ : St} {H H' : Hp} {Γ τ : List Ent} {us vs : List V} {v w : V} {i j n kk : Nat} {m m' : Ms} {ga ge : GE} {a b e oe : Expr} {es : List Expr} {pos p1 p2 p3 p4 p5 p6 p7 p8 : Pos} {x dn z : Str} {G : GF} {d f : Addr}
def fKD (neg : Bool) (keys : List Str) : GE := fun m => match m.s with
  | .tr (.a (.str z)) :: s => some (.ok ⟨m.g, .tr (.a (.bl (if neg then !decide (z ∈ keys) else decide (z ∈ keys)))) :: s⟩)
  | _ => none
end
/-! a property read; xs[::-1] of a list of plain values -/
section
variable {K : KC} {X : Cx} {T : KT} {md mdc : List Bool} {W : WX} {c : Cz} {σ : St} {H H' : Hp} {Γ τ : List Ent} {us vs : List V} {v w : V} {i j n kk : Nat} {m m' : Ms} {ga ge : GE} {a b e oe : Expr} {pos p1 p2 p3 : Pos} {f : Str} {G : GF} {g p : Addr} {fd : FuncData} {ps : List Str}
def fRevL : GE := fun m => match m.s with
  | e :: s => match viewE m.g e with
    | some (.nd .lst o ts) => match atoms ts with
      | some us => some (.ok ⟨m.g, .tr (.nd .lst .own (us.reverse.map .a)) :: s⟩)
      | none => none
    | _ => none
  | _ => none
/-! a, b, c = x, y, z -/
def sPar3 (md : List Bool) (i j l : Nat) (ga : GE) : GS := fun m => match ga m with
  | some (.ok ⟨g', ez :: ey :: ex :: s⟩) => match bindAll md [i, j, l] ⟨g', ex :: ey :: ez :: s⟩ with
    | some m2 => some (.nx m2)
    | none => none
  | some (.ex C g') => some (.ex C g')
  | _ => none
theorem ms_par3 {st : Stmt} {l : Nat} {a b d : Expr} (ha : MA X T md W [a, b, d] ga) (hp : ∀ {ta : TA}, PA X [a, b, d] ta → PS X st (tPar3 i j l ta)) : MS X T md W st (sPar3 md i j l ga) := by
  obtain ⟨t, p, s⟩ := ha
  refine ⟨_, hp p, fun c σ H m us D o hc E hg hp => ?_⟩
  simp only [sPar3] at hg
  split at hg
  · rename_i g' ez ey ex s1 h1
    split at hg
    · rename_i m2 h2
      cases hg
      refine s c σ H m us _ _ hc E h1 fun vs H1 hl E1 => ?_
      match vs, hl with
      | [xv, yv, zv], _ =>
        have E1 : EnvOk (kcm X.K T) c σ H1 g' ([ez, ey] ++ ([ex] ++ s1)) ([zv, yv] ++ ([xv] ++ us)) := E1
        have E2 : EnvOk (kcm X.K T) c σ H1 g' ([ex] ++ ([ez] ++ ([ey] ++ s1))) ([xv] ++ ([zv] ++ ([yv] ++ us))) := EnvOk.permA (A := [ez, ey]) (B := [ex]) (va := [zv, yv]) (vb := [xv]) rfl rfl E1
        have E3 : EnvOk (kcm X.K T) c σ H1 g' (ex :: ey :: ez :: s1) (xv :: yv :: zv :: us) := EnvOk.permM (P := [ex]) (vp := [xv]) (A := [ez]) (va := [zv]) (B := [ey]) (vb := [yv]) rfl rfl rfl E2
        simp only [bindAll] at h2
        split at h2
        · rename_i m3 h3
          split at h2
          · rename_i m4 h4
            split at h2
            · rename_i m5 h5
              cases h2
              exact ⟨xv, yv, zv, rfl, hp _ _ (bind_ok hc (bind_ok hc (bind_ok (m := ⟨g', ex :: ey :: ez :: s1⟩) hc E3 h3) h4) h5)⟩
            · cases h2
          · cases h2
        · cases h2
    · cases hg
  · rename_i h1
    cases hg
    exact s c σ H m us _ _ hc E h1 fun H1 E1 => hp σ H1 E1
  · cases hg
end
/-! rules for pure proofs: several names at once, dicts with tuple keys, tables of defs -/
section
variable {md : List Bool} {i j l : Nat} {ga g b h : GE} {m m' : Ms} {Γ s : List Ent} {ex ey ez : Ent} {C : Nat}
def pS2 (a : Option Rs) (md : List Bool) (i j : Nat) : Option Os := match a with
  | some (.ok ⟨g', ey :: ex :: s⟩) => nxO (bindAll md [i, j] ⟨g', ex :: ey :: s⟩)
  | some (.ex C g') => some (.ex C g')
  | _ => none
theorem sPar_e : sPar md i j ga m = pS2 (ga m) md i j := by
  unfold sPar pS2 nxO
  rcases ga m with _ | (⟨g', _ | ⟨a, _ | ⟨b, s⟩⟩⟩ | _) <;> rfl
theorem pS2_ok : pS2 (some (.ok ⟨Γ, ey :: ex :: s⟩)) md i j = nxO (bindAll md [i, j] ⟨Γ, ex :: ey :: s⟩) := rfl
def pS3 (a : Option Rs) (md : List Bool) (i j l : Nat) : Option Os := match a with
  | some (.ok ⟨g', ez :: ey :: ex :: s⟩) => nxO (bindAll md [i, j, l] ⟨g', ex :: ey :: ez :: s⟩)
  | some (.ex C g') => some (.ex C g')
  | _ => none
theorem sPar3_e : sPar3 md i j l ga m = pS3 (ga m) md i j l := by
  unfold sPar3 pS3 nxO
  rcases ga m with _ | (⟨g', _ | ⟨a, _ | ⟨b, _ | ⟨d, s⟩⟩⟩⟩ | _) <;> rfl
theorem pS3_ok : pS3 (some (.ok ⟨Γ, ez :: ey :: ex :: s⟩)) md i j l = nxO (bindAll md [i, j, l] ⟨Γ, ex :: ey :: ez :: s⟩) := rfl
theorem sSubB_e : sSubB g b h m = kS (gSeq (gSeq g b) h m) stSubB := by
  unfold sSubB kS nxO
  split <;> first | rfl | (split <;> simp_all) | simp_all
theorem gCon_e {t : Tr} : gCon t m = some (.ok ⟨m.g, .tr t :: m.s⟩) := rfl
theorem gK0_e : gK0 m = some (.ok ⟨m.g, .tr (.nd (.dcT []) .own []) :: m.s⟩) := rfl
theorem fKD_e {neg : Bool} {keys : List Str} {z : Str} : fKD neg keys ⟨Γ, .tr (.a (.str z)) :: s⟩ = some (.ok ⟨Γ, .tr (.a (.bl (if neg then !decide (z ∈ keys) else decide (z ∈ keys)))) :: s⟩) := rfl
end
/-! the walk over a list: an invariant that speaks of what has been walked -/
section
variable {α : Type} {gs : GS} {bd : Ms → Option Ms} {s : List Ent}
theorem loopE_pre {xs : List α} {enc : α → Tr} (e : Ent) (kd : Nk) (o : Ow) (I : List α → List Ent → Prop) (hv : ∀ p Γ, I p Γ → viewE Γ e = some (.nd kd o (xs.map enc))) (hc : cpE e = true) (hcp : ∀ x ∈ xs, cp (kid o (enc x)) = true)
    (turn : ∀ p x q Γ, xs = p ++ x :: q → I p Γ → ∃ Γ1 Γ2, bd ⟨Γ, .tr (kid o (enc x)) :: e :: s⟩ = some ⟨Γ1, e :: s⟩ ∧ I (p ++ [x]) Γ2 ∧ (gs ⟨Γ1, e :: s⟩ = some (.nx ⟨Γ2, e :: s⟩) ∨ gs ⟨Γ1, e :: s⟩ = some (.ct ⟨Γ2, e :: s⟩))) {Γ : List Ent} (h0 : I [] Γ) :
    ∃ Γ', I xs Γ' ∧ loopE kd bd gs xs.length 0 ⟨Γ, e :: s⟩ = some (.nx ⟨Γ', s⟩) := by
  have key : ∀ ys pre Γ, xs = pre ++ ys → I pre Γ → ∃ Γ', I xs Γ' ∧ loopE kd bd gs ys.length pre.length ⟨Γ, e :: s⟩ = some (.nx ⟨Γ', s⟩) := by
    intro ys
    induction ys with
    | nil =>
      intro pre Γ hx h
      have hx' : pre = xs := by rw [hx, List.append_nil]
      refine ⟨Γ, hx' ▸ h, ?_⟩
      show loopE kd bd gs 0 pre.length ⟨Γ, e :: s⟩ = _
      unfold loopE
      simp only [hv pre Γ h]
      rw [if_pos ⟨trivial, by rw [hx']; simp⟩]
    | cons y ys ih =>
      intro pre Γ hx h
      have hmem : y ∈ xs := by rw [hx]; simp
      obtain ⟨Γ1, Γ2, e1, h2, e2⟩ := turn pre y ys Γ hx h
      show ∃ Γ', I xs Γ' ∧ loopE kd bd gs (ys.length + 1) pre.length ⟨Γ, e :: s⟩ = _
      have hk1 : kidX e kd o (xs.map enc) pre.length = some (.tr (kid o (enc y))) := by
        unfold kidX
        rw [hx]
        simp [hcp y hmem]
      obtain ⟨Γ', h3, e3⟩ := ih (pre ++ [y]) Γ2 (by simp [hx]) h2
      rw [List.length_append, List.length_singleton] at e3
      refine ⟨Γ', h3, ?_⟩
      unfold loopE
      simp only [hv pre Γ h]
      rw [if_pos ⟨trivial, hc, by rw [hx]; simp⟩, hk1]
      simp only [e1]
      rcases e2 with e2 | e2 <;> rw [e2] <;> exact e3
  exact key xs [] Γ rfl h0
end
/-! own operators between two things of one class; isinstance of an own class -/
section
variable {K : KC} {X : Cx} {T : KT} {md mdc : List Bool} {W : WX} {a C dx f : Addr} {fd : FuncData} {ps : List Str} {kk n : Nat} {sp : Sp} {G : GF}
end
/-! things that are walked by their own __iter__, which hands out the iterator of a field -/
section
section
variable {X : Cx}
end
section
variable {X : Cx} {tg e : Expr} {te : TE} {C f : Addr} {fd : FuncData} {j : Str} {kk : Nat} {pins : List (Addr × Obj)} {σ : St} {H : Hp} {s : Shared}
end
section
variable {K : KC} {X : Cx} {T : KT} {md mdc : List Bool} {W : WX} {c : Cz} {σ σ' σ2 : St} {H H' : Hp} {Γ τ : List Ent} {us vs : List V} {v w : V} {i n k : Nat} {m m' : Ms} {g ge gt gs ga gk : GE} {e tg iter elt cnd : Expr} {es : List Expr} {pos : Pos} {scope : Scope} {x : Str} {kk : Nat} {f : Addr} {fd : FuncData}
end
end
section
variable {K : KC} {X : Cx} {T : KT} {md : List Bool} {W : WX} {c : Cz} {σ : St} {H : Hp} {Γ τ : List Ent} {us : List V} {m : Ms} {x y : V} {go ge f : GE} {o e cl : Expr} {rr : Rs}
end
/-! isinstance of a class above -/
section
variable {K : KC} {X : Cx} {T : KT} {md mdc : List Bool} {W : WX} {n : Nat}
end
/-! list(reversed(xs)) -/
section
open PySem.Spec PyProof.Rows
end
section
open PySem.Spec PyProof.Rows
variable {X : Cx}
end
section
variable {K : KC} {X : Cx} {T : KT} {md : List Bool} {W : WX} {g : GE}
end
/-! t + u, tuples of plain values -/
section
variable {K : KC} {X : Cx} {T : KT} {md : List Bool} {W : WX} {c : Cz} {σ : St} {H : Hp} {Γ τ : List Ent} {us : List V} {ga gb : GE}
end
/-! static methods and new things that may raise -/
section
variable {K : KC} {X : Cx} {T : KT} {md mdc : List Bool} {W : WX} {g ga : GE} {e oe : Expr} {es : List Expr} {pos pp apos : Pos} {x me : Str} {G : GF} {kk n : Nat} {f C : Addr} {fd : FuncData} {ps : List Str} {is : List Nat} {sp : Sp} {ta : TE} {tA : TA} {pl : Sem Bool} {CXk : CXT} {Ew : St → XK}
end
/-! isinstance(e, T), isinstance(e, (A, B)): e the error of a suite -/
section
variable {X : Cx} {T : KT} {md : List Bool} {W : WX} {i : Nat} {a D : Addr} {oe : Obj} {pn : List (Addr × Obj)}
end
section
variable {K : KC} {X : Cx} {T : KT} {md mdc : List Bool} {W : WX} {oe : Expr} {pos apos : Pos} {me : Str} {G : GF} {kk : Nat} {f C : Addr} {fd : FuncData} {ps : List Str} {sp : Sp} {ta : TE} {pl : Sem Bool} {CXk : CXT} {Ew : St → XK}
end
/-! sorted(xs): items that are data (tuples) -/
section
variable {X : Cx}
def rSortD (K : PySem.W.Frag) : List V → Hp → VK → Prop := fun vs H Q => ∃ (a : Addr) (ys : List V) (ds : List PyData), vs = [V.ref a] ∧ SqL K H a ys ∧ DpAll K H ys ds ∧ PySem.W.AllAlike ds ∧ PySem.W.Sortable ds ∧ (∀ d ∈ ds, d.depth ≤ 60) ∧
  ∀ p : Addr, H p = none → Q (.ref p) (upd H p (.lst (((ys.zip ds).mergeSort (PySem.W.dataLe false Prod.snd)).map Prod.fst)))
theorem dpAll_len {K : PySem.W.Frag} {H : Hp} : ∀ {ys : List V} {ds : List PyData}, DpAll K H ys ds → ys.length = ds.length
  | _, _, .nil => rfl
  | _, _, .cons _ t => by rw [List.length_cons, List.length_cons, dpAll_len t]
theorem each_rel : ∀ {ys : List V} {us : List Value} {ds : List PyData}, Vals ys us → ys.length = ds.length → PySem.W.EachIs (fun v (b : V × PyData) => RelV b.1 v) us (ys.zip ds)
  | _, _, [], .nil, _ => .nil
  | _, _, d :: ds, .cons r t, h => .cons r (each_rel t (by simpa using h))
  | _, _, [], .cons _ _, h => by simp at h
  | _, _, _ :: _, .nil, h => by simp at h
theorem each_reads {pins : List (Addr × Obj)} {σ : St} {H : Hp} {s : Shared} (I : Inv X pins σ H s) : ∀ {ys : List V} {us : List Value} {ds : List PyData}, Vals ys us → DpAll X.K H ys ds → PySem.W.EachIs (fun v (b : V × PyData) => ∃ as, PySem.Reads s.heap v b.2 as) us (ys.zip ds)
  | _, _, _, .nil, .nil => .nil
  | _, _, _, .cons r t, .cons d h => .cons (Dp.reads I _ _ _ d r) (each_reads I t h)
theorem vals_each : ∀ {us : List Value} {bs : List (V × PyData)}, PySem.W.EachIs (fun v (b : V × PyData) => RelV b.1 v) us bs → Vals (bs.map Prod.fst) us
  | _, _, .nil => .nil
  | _, _, .cons r t => .cons r (vals_each t)
theorem cr_sortD (hu : X.A.units + 64 < cLine) : CallR X (.builtin "sorted") (rSortD X.K) := by
  intro pins s σ H vs us Q I r h
  obtain ⟨a, ys, ds, rfl, hs, hd, hal, hk, hdp, q⟩ := h
  obtain ⟨its, rv, hl, hz⟩ := I.list hs
  rw [Vals.ref1 r]
  have ln := dpAll_len hd
  have hsnd : (ys.zip ds).map Prod.snd = ds := List.map_snd_zip (Nat.le_of_eq ln.symm)
  have hlen : (ys.zip ds).length = ys.length := by rw [List.length_zip]; omega
  refine PySem.W.sorted_data (β := V × PyData) (bs := ys.zip ds) (enc := Prod.snd) (R := fun v b => RelV b.1 v) hl.isList (each_rel rv ln) (each_reads I rv hd) (by rw [hsnd]; exact hal) (by rw [hsnd]; exact hk) (by rw [hlen]; exact hz) (fun b hb => ?_) fun out h1 h2 => ?_
  · have := hdp b.2 (List.of_mem_zip hb).2
    omega
  · obtain ⟨ep, he'⟩ := PyProof.Rows.sortedAll_at s.heap its out.toArray
    have hl2 : (((ys.zip ds).mergeSort (PySem.W.dataLe false Prod.snd)).map Prod.fst).length ≤ sizeLine := by
      rw [List.length_map, List.length_mergeSort, hlen]
      exact hz
    exact ⟨.ref _, upd H (s.heap.objs.size + 1) (.lst (((ys.zip ds).mergeSort (PySem.W.dataLe false Prod.snd)).map Prod.fst)), I.laid (t' := s.toks) (fun _ _ => PyProof.Rows.sortedAll_old) (Nat.le_succ _) ⟨hl2, out, ep, vals_each h2, he'⟩, rfl, q _ (I.hok.fresh (Nat.le_succ _))⟩
end
section
variable {K : KC} {X : Cx} {T : KT} {md : List Bool} {W : WX} {g : GE}
def srtD (ts : List Tr) (ds : List PyData) : List Tr := ((ts.zip ds).mergeSort (PySem.W.dataLe false Prod.snd)).map Prod.fst
def alikeB (ds : List PyData) : Bool := ds.all fun d => ds.all fun d' => PySem.W.alike d d'
def tupB (ds : List PyData) : Bool := ds.all fun d => (match d with
  | .tuple (_ :: _) => true
  | _ => false) && decide (d.depth ≤ 60)
theorem alikeB_ok {ds : List PyData} (h : alikeB ds = true) : PySem.W.AllAlike ds := fun d hd d' hd' => by
  simp only [alikeB, List.all_eq_true] at h
  exact h d hd d' hd'
theorem tupB_ok {ds : List PyData} (h : tupB ds = true) : PySem.W.Sortable ds ∧ ∀ d ∈ ds, d.depth ≤ 60 := by
  simp only [tupB, List.all_eq_true, Bool.and_eq_true, decide_eq_true_eq] at h
  refine ⟨.inl fun d hd => ?_, fun d hd => (h d hd).2⟩
  have := (h d hd).1
  split at this
  · exact ⟨_, _, rfl⟩
  · cases this
def fSrtD : GE := fun m => match m.s with
  | e :: s => match viewE m.g e with
    | some (.nd .lst o ts) => match itemsE e o ts with
      | some ts' => match toDL ts' with
        | some ds => if alikeB ds = true ∧ tupB ds = true then match mkN .lst (srtD ts' ds) with
          | some t => some (.ok ⟨m.g, .tr t :: s⟩)
          | none => none
          else none
        | none => none
      | none => none
    | _ => none
  | _ => none
theorem zip3 {α β γ : Type} : ∀ {xs : List α} {ys : List β} {zs : List γ}, xs.length = ys.length → ys.length = zs.length → (xs.zip (ys.zip zs)).map (fun x => (x.1, x.2.2)) = xs.zip zs ∧ (xs.zip (ys.zip zs)).map (fun x => x.2) = ys.zip zs ∧ (xs.zip (ys.zip zs)).map (fun x => (x.1, x.2.1)) = xs.zip ys
  | [], [], [], _, _ => ⟨rfl, rfl, rfl⟩
  | x :: xs, y :: ys, z :: zs, h1, h2 => by
    obtain ⟨a, b, c⟩ := zip3 (xs := xs) (ys := ys) (zs := zs) (by simpa using h1) (by simpa using h2)
    simp only [List.zip_cons_cons, List.map_cons, a, b, c, and_self]
theorem fSrtD_ok : RA K md W 1 (fun _ => rSortD K.K) fSrtD := by
  intro c σ H m us vs Q rr hc hl E hf hp
  match vs, hl with
  | [x], _ =>
    simp only [fSrtD] at hf
    split at hf
    · rename_i ex s hs
      rw [hs] at E
      split at hf
      · rename_i o ts hv
        split at hf
        · rename_i ts' hi
          split at hf
          · rename_i ds hds
            split at hf
            · rename_i hb
              split at hf
              · rename_i t ht
                cases hf
                obtain ⟨ad, vs, rfl, ho, hlt, e1, E1⟩ := EnvOk.items E hv hi
                have hl' : ts'.length = vs.length := by rw [e1, List.length_map]; exact hlt
                have E2 := EnvOk.revs (ts := ts') (vs := vs) hl' E1
                have hdp : DpAll K.K H vs ds := by
                  obtain ⟨Z, ws, Φ, Ψ, EE⟩ := id E2
                  have r := EE.tm
                  have r : RepL K Z H .own (ts' ++ trees s) (vs ++ us) Ψ := by
                    have : trees (ts'.map Ent.tr ++ s) = ts' ++ trees s := by
                      rw [show trees (ts'.map Ent.tr ++ s) = trees (ts'.map Ent.tr) ++ trees s from by simp [trees], trees_tr]
                    rw [← this]
                    exact r
                  obtain ⟨v1, v2, Φ1, Φ2, ee, h1, _⟩ := RepL.split _ r
                  have l1 := RepL.len _ h1
                  have : vs = v1 := by
                    have := congrArg (List.take vs.length) ee
                    rw [List.take_left, show vs.length = v1.length by omega, List.take_left] at this
                    exact this
                  rw [this]
                  exact toDL_ok _ h1 hds
                obtain ⟨b1, b2⟩ := tupB_ok hb.2
                have ln := dpAll_len hdp
                refine ⟨ad, vs, ds, rfl, objL ho, hdp, alikeB_ok hb.1, b1, b2, fun p hpn => hp _ _ ?_⟩
                obtain ⟨z1, z2, z3⟩ := zip3 (xs := ts') (ys := vs) (zs := ds) hl' ln
                let S := (ts'.zip (vs.zip ds)).mergeSort fun x y => PySem.W.dataLe false (fun b : Tr × V × PyData => b.2.2) x y
                have s1 : S.map (·.1) = srtD ts' ds := by
                  have h1 : S.map (fun x => (x.1, x.2.2)) = (ts'.zip ds).mergeSort (PySem.W.dataLe false Prod.snd) := by
                    rw [← z1]
                    exact List.map_mergeSort (fun a _ b _ => rfl)
                  rw [srtD, ← h1, List.map_map]
                  rfl
                have s2 : S.map (·.2.1) = ((vs.zip ds).mergeSort (PySem.W.dataLe false Prod.snd)).map Prod.fst := by
                  have h1 : S.map (fun x => x.2) = (vs.zip ds).mergeSort (PySem.W.dataLe false Prod.snd) := by
                    rw [← z2]
                    exact List.map_mergeSort (fun a _ b _ => rfl)
                  rw [← h1, List.map_map]
                  rfl
                have hper : (ts'.zip vs).Perm (S.map fun x => (x.1, x.2.1)).reverse := by
                  rw [← z3]
                  exact (((List.mergeSort_perm _ _).map _).symm).trans (List.reverse_perm _).symm
                have lt : s.length = us.length := by
                  have := tail_len E2
                  simp at this
                  omega
                have E3 := EnvOk.perm (K := K) (c := c) (σ := σ) (H := H) (Γ := m.g) (l := (ts'.zip vs).map (fun x => (Ent.tr x.1, x.2)) ++ s.zip us) (l' := ((S.map fun x => (x.1, x.2.1)).reverse).map (fun x => (Ent.tr x.1, x.2)) ++ s.zip us) (List.Perm.append_right _ (hper.map _)) (by
                  simp only [List.map_append, List.map_map, List.map_fst_zip (Nat.le_of_eq lt), List.map_snd_zip (Nat.le_of_eq lt.symm)]
                  have a1 : (ts'.zip vs).map ((fun x : Ent × V => x.1) ∘ fun x : Tr × V => (Ent.tr x.1, x.2)) = ts'.map Ent.tr := by
                    have e : (ts'.zip vs).map Prod.fst = ts' := List.map_fst_zip (Nat.le_of_eq hl')
                    have : ((ts'.zip vs).map Prod.fst).map Ent.tr = ts'.map Ent.tr := by rw [e]
                    rw [List.map_map] at this
                    exact this
                  have a2 : (ts'.zip vs).map ((fun x : Ent × V => x.2) ∘ fun x : Tr × V => (Ent.tr x.1, x.2)) = vs := by
                    exact List.map_snd_zip (Nat.le_of_eq hl'.symm)
                  rw [a1, a2]
                  exact E2)
                simp only [List.map_append, List.map_map, List.map_reverse, List.map_fst_zip (Nat.le_of_eq lt), List.map_snd_zip (Nat.le_of_eq lt.symm)] at E3
                have b1 : S.map ((fun x : Ent × V => x.1) ∘ (fun x : Tr × V => (Ent.tr x.1, x.2)) ∘ fun x : Tr × V × PyData => (x.1, x.2.1)) = (srtD ts' ds).map Ent.tr := by
                  rw [← s1, List.map_map]
                  rfl
                have b2 : S.map ((fun x : Ent × V => x.2) ∘ (fun x : Tr × V => (Ent.tr x.1, x.2)) ∘ fun x : Tr × V × PyData => (x.1, x.2.1)) = ((vs.zip ds).mergeSort (PySem.W.dataLe false Prod.snd)).map Prod.fst := s2
                rw [b1, b2, ← List.map_reverse] at E3
                exact E3.new (by rw [← s1, ← s2, List.length_map, List.length_map]) hpn ht fun o => upd_same
              · cases hf
            · cases hf
          · cases hf
        · cases hf
      · cases hf
    · cases hf
end
/-! list(range(i, j)) -/
section
variable {X : Cx} {T : KT} {md : List Bool} {W : WX} {ga gb : GE}
end
/-! sorted(set(xs)) of a list of ints -/
section
open PySem.Spec PyProof.Rows
abbrev set00 (w : World) : Obj := { cls := .type "set", dict := none, data := .set #[] 0 (.fresh 0 0 (!w.params.followText "set-order")) }
variable {P : Program} {w : World} {A : Around} {E : Value → Shared → Prop} {s : Shared}
set_option maxRecDepth 100000 in
set_option maxHeartbeats 3200000 in
theorem set_of_lst {l : Addr} {its : Array Value} (ns : List Int) {Q : Value → Shared → Prop} (calm : A.handled = none) (hl : s.heap.IsList l its) (hI : IntsAre its.toList ns) (few : ns.length + 1 < scanBound)
    (fin : ∀ (h2 : Heap) (t2 c : Nat), SetR w h2 s.heap.objs.size (fun j => decide (j ∈ ns)) c → c ≤ ns.length → (∀ b o, s.heap.get? b = some o → h2.get? b = some o) → Q (.ref s.heap.objs.size) { s with heap := h2, toks := t2 }) :
    wpAny (model P w) A (call (.type "set") [.ref l]) Q E s := by
  have eln : its.size = ns.length := (Array.length_toList).symm.trans hI.length
  obtain ⟨c, tl, mro⟩ := F.called_set.mro
  have made := F.called_set.made
  have sub := F.called_set.sub
  refine wpAny_call (codeAny_of_tree ?_)
  show wpAny _ _ (callAny (.type "set") _) _ _ _
  refine wpAny_pure ⟨Code.quiet_builtin _ (by decide +kernel), ?_⟩
  refine codeAny_builtin F.entry_type_call ?_
  rw [Around.under_plain (weight_type_call_type "set" [.ref l] []) rfl]
  have a1 := F.called_set.notType
  have a2 := F.called_set.canCreate
  have a3 := F.typeCall_set_1 (.ref l)
  repeat any_goals first | assumption | wp_step
  refine codeAny_mono (code_set_led1 (.ref l) (E := E) (Q₁ := fun ob z => ob = .ref s.heap.objs.size ∧ z = { s with heap := s.heap.push (set00 w) }) ⟨rfl, rfl⟩) fun r z hr => ?_
  match r, hr with
  | .error e, hr => exact hr
  | .ok (.ret ob), hr =>
      obtain ⟨rfl, rfl⟩ := hr
      have at0 : (s.heap.push (set00 w)).get? s.heap.objs.size = some (set00 w) := Heap.get?_push_size _ rfl
      have ty0 : Shared.TypeIs { s with heap := s.heap.push (set00 w) } (.ref s.heap.objs.size) "set" := ⟨_, at0, rfl⟩
      have b1 := F.called_set.init.lookup
      have b2 := F.called_set.init.bind (.ref s.heap.objs.size)
      repeat any_goals first | assumption | wp_step
      refine codeAny_mono (codeAny_call_builtin (R := wants (fun r2 z2 => r2 = .none ∧ ∃ h2 t2 c, z2 = { s with heap := h2, toks := t2 } ∧ SetR w h2 s.heap.objs.size (fun j => decide (j ∈ ns)) c ∧ c ≤ ns.length ∧
        (∀ b o, s.heap.get? b = some o → h2.get? b = some o)) E) F.called_set.init.plain F.entry_set_init (check_set_init_1 ty0 ?_)) fun r2 z2 hr2 => ?_
      · obtain ⟨ol, hol, hcl, nl, hdl⟩ := hl
        obtain ⟨kl, dl, tl, sl⟩ := ol
        simp only at hcl hdl
        subst hcl hdl
        have at1 : (s.heap.push (set00 w)).get? l = some { cls := .type "list", dict := dl, data := .seq its nl, slots := sl } := Heap.get?_push_of_some _ hol
        have c1 := F.sub_list_set
        have c2 := F.sub_list_frozenset
        have c3 : (Value.type "list" == Value.type "dict") = false := rfl
        have li : (s.heap.push (set00 w)).IsList l its := ⟨_, at1, rfl, nl, rfl⟩
        unfold Builtin.«set.__init__» noKeywords Builtin.Frozenset.updateFrom
        generalize hp : pyIter = p0
        wp_walk
        subst hp
        refine wpAny_pyIter_list li (wpAny_bind (wpAny_runValue ?_))
        have ll : l < s.heap.objs.size := Heap.lt_size hol
        have e0 : (s.heap.push (set00 w)).objs.size = s.heap.objs.size + 1 := Heap.size_push ..
        have calm3 : A.in1.in1.in1.handled = none := by simp [calm]
        have n1 : l ≠ (s.heap.push (set00 w)).objs.size := fun z => by
          rw [e0] at z
          exact Nat.lt_irrefl _ (Nat.lt_of_lt_of_le (z ▸ ll) (Nat.le_succ _))
        have n2 : s.heap.objs.size ∉ [(s.heap.push (set00 w)).objs.size, l] := by
          intro z
          rcases List.mem_cons.mp z with z | z
          · exact Nat.succ_ne_self _ (e0 ▸ z).symm
          · exact Nat.lt_irrefl _ (List.mem_singleton.mp z ▸ ll)
        refine set_update_ints ((Walks.list calm3 _ l n1 its).toS) s.heap.objs.size n2 ns eln few (fun i v hv => ?_) (its.size - 0) 0 _ (by omega) (Nat.zero_le _) ⟨⟨_, Heap.get?_push_size _ rfl, rfl, rfl⟩, (li.push _)⟩ ?g1 ?g2
        · have hi : i < ns.length := eln ▸ (Array.getElem?_eq_some_iff.mp hv).1
          obtain ⟨t, e⟩ := PyProof.Rows.IntsAre.int_at hI i v (by rw [Array.getElem?_toList]; exact hv)
          exact ⟨ns[i], t, List.getElem?_eq_getElem hi, by rw [e, List.getD_eq_getElem?_getD, List.getElem?_eq_getElem hi]; rfl⟩
        case g1 => exact ⟨0, Nat.le_refl 0, setR_new_at (Heap.get?_push_of_some _ at0)⟩
        case g2 =>
          intro z3 c3 mv hc R
          obtain ⟨h3, gg, dd, tt, oo⟩ := z3
          obtain rfl : gg = s.gens := mv.gens
          obtain rfl : dd = s.drawn := mv.drawn
          obtain rfl : oo = s.os := mv.os
          show wpAny _ _ _ _ _ _
          refine wpAny_pure ?_
          show wpAny _ _ (ret Value.none) _ _ _
          refine wpAny_pure ⟨rfl, h3, tt, c3, rfl, R, eln ▸ hc, fun b o e => ?_⟩
          have lb : b < s.heap.objs.size := Heap.lt_size e
          refine mv.heap b o ?_ (Heap.get?_push_of_some _ (Heap.get?_push_of_some _ e))
          intro z
          rcases List.mem_cons.mp z with z | z
          · exact Nat.lt_irrefl _ (z ▸ lb)
          · have z := List.mem_singleton.mp z
            exact Nat.lt_irrefl _ (Nat.lt_of_lt_of_le lb (Nat.le_of_lt (by rw [z]; exact e0 ▸ Nat.lt_succ_self _)))
      · match r2, hr2 with
        | .error e, hr2 => exact hr2
        | .ok (.ret q), hr2 =>
          obtain ⟨rfl, h2, t2, c, rfl, R, hc, kp⟩ := hr2
          repeat any_goals first | assumption | wp_step
          exact fin _ _ _ R hc kp
        | .ok .next, hr2 => exact hr2.elim
        | .ok .brk, hr2 => exact hr2.elim
        | .ok .cont, hr2 => exact hr2.elim
  | .ok .next, hr => exact hr.elim
  | .ok .brk, hr => exact hr.elim
  | .ok .cont, hr => exact hr.elim
end
section
variable {X : Cx}
variable {T : KT} {md : List Bool} {W : WX} {ga gs : GE} {te : TE} {i j : Nat}
/-! [a for a, b in d.values()]: pairs whose first is a whole number -/
def firstsI : List PyData → Option (List Int)
  | [] => some []
  | .tuple [.int n, _] :: r => (firstsI r).map (n :: ·)
  | _ :: _ => none
theorem firstsI_at {K : PySem.W.Frag} {H : Hp} : ∀ {ds : List PyData} {vs : List V} {ns : List Int}, DpAll K H vs ds → firstsI ds = some ns → vs.length = ns.length ∧ ∀ (i : Nat) (v : V), vs[i]? = some v → ∃ a n y, v = .ref a ∧ SqT K H a [.int n, y] ∧ ns[i]? = some n
  | [], _, ns, .nil, h => by cases h; exact ⟨rfl, fun i v e => by simp at e⟩
  | d :: ds, _, ns, .cons (v := v0) (vs := vs0) h0 h1, h => by
    unfold firstsI at h
    split at h
    · rename_i h2; cases h2
    · rename_i n z r h2
      cases h2
      simp only [Option.map_eq_some_iff] at h
      obtain ⟨l, h3, rfl⟩ := h
      obtain ⟨e1, e2⟩ := firstsI_at h1 h3
      refine ⟨by rw [List.length_cons, List.length_cons, e1], fun i v e => ?_⟩
      cases i with
      | zero =>
        cases e
        cases h0 with
        | tup hq hd =>
          cases hd with
          | cons p1 hd =>
            cases hd with
            | cons p2 hd =>
              cases hd
              cases p1
              exact ⟨_, n, _, rfl, hq, rfl⟩
      | succ i => exact e2 i v (by simpa using e)
    · cases h
theorem PE.or2 {e : Expr} {t1 t2 : TE} (h1 : PE X e t1) (h2 : PE X e t2) : PE X e (fun σ H Q => t1 σ H Q ∨ t2 σ H Q) := by
  refine ⟨fun pins s σ H Q I h => ?_⟩
  rcases h with h | h
  · exact h1.run pins s σ H Q I h
  · exact h2.run pins s σ H Q I h
theorem wipe2 {σ : St} {a b : Option V} (hij : i ≠ j) : wipe (((wipe σ [i, j]).set i a).set j b) [i, j] = wipe σ [i, j] := by
  simp only [wipe]
  apply List.ext_getElem?
  intro k
  simp only [List.getElem?_set, List.length_set]
  grind
end
/-! x < y of data; xs.index(text) -/
section
variable {X : Cx}
variable {K : KC} {T : KT} {md : List Bool} {W : WX}
end
/-! {} whose keys will be tuples -/
section
variable {X : Cx} {T : KT} {md : List Bool} {W : WX}
end
/-! text[i] -/
section
variable {K : KC} {X : Cx} {T : KT} {md : List Bool} {W : WX} {ga gb : GE} {a b : Expr} {pos : Pos}
end
/-! for and if in a generator's body -/
section
open PySem.Spec PyProof.Rows GenW
section
variable {M : Model} {A : Around} {R : GenEnd} {Y : Protocol} {n : Nat} {s₀ : Shared} {c : Code} {fs : List Frame} {s : Shared} {env : Env} {K : Flow → Sem PySem.Fin} {J : Value → Sem PySem.Fin} {gd : Bool → Bool} {lv : List Value → List Value}
end
section
variable {prog : Program} {w : World} {A : Around} {R : GenEnd} {Y : Protocol} {n : Nat} {s₀ : Shared} {fs : List Frame} {s : Shared} {env : Env}
end
section
variable {X : Cx} {tg iter test : Expr} {body orelse : List Stmt} {pos : Pos} {wi : TI} {g : TG} {tb tc : TGn} {tt : TT}
end
end
/-! a generator's body: what it hands out stays on the stack, the rows that it walks lie below -/
section
variable {K : KC} {X : Cx} {T : KT} {md mdc : List Bool} {W : WX} {c : Cz} {σ : St} {H H' : Hp} {Γ τ : List Ent} {us bs ys vs : List V} {e b : Expr} {st : Stmt} {rest sts sts' : List Stmt} {g g' gb : GS} {ge gt gs ga : GE} {pos pos' : Pos} {n : Nat} {k : Nk} {tg iter : Expr} {bd : Ms → Option Ms} {body : List Stmt} {ts : List Tr}
end
/-! a generator def, and list(f(..)) of it -/
section
variable {K : KC} {X : Cx} {T : KT} {md mdc : List Bool} {W : WX} {c : Cz} {σ : St} {H H' : Hp} {Γ τ : List Ent} {us vs ws : List V} {n : Nat} {ts : List Tr}
variable {P : Program} {Wd : World} {Kf : PySem.W.Frag} {mg : Str → Option Value} {base : Heap}
variable {x nm : Str} {pp p0 pos pos0 : Pos} {e : Expr} {es : List Expr} {ga : GE} {kk : Nat} {f : Addr} {fd : FuncData} {ps : List Str} {G : GF} {is : List Nat}
end
/-! match over tuples: texts, names and _ -/
section
inductive Pit | tx (z : Str) | nm (i : Nat) | wl
variable {X : Cx}
inductive PtsR (X : Cx) : List Pattern → List Pit → Prop
  | nil : PtsR X [] []
  | tx {z : Str} {i : Nat} {p pos : Pos} {ps : List Pattern} {qs : List Pit} : PtsR X ps qs → PtsR X (.MatchValue (.Constant (.str z) i p) pos :: ps) (.tx z :: qs)
  | nm {x : Str} {i : Nat} {pos : Pos} {ps : List Pattern} {qs : List Pit} : X.N[i]? = some x → Loc X.env.scope x → (X.fn x = true ∨ X.env.scope.names.lookup x = some .local) → PtsR X ps qs → PtsR X (.MatchAs none (some x) pos :: ps) (.nm i :: qs)
  | wl {pos : Pos} {ps : List Pattern} {qs : List Pit} : PtsR X ps qs → PtsR X (.MatchAs none none pos :: ps) (.wl :: qs)
theorem PtsR.len {ps : List Pattern} {qs : List Pit} (h : PtsR X ps qs) : ps.length = qs.length := by
  induction h with
  | nil => rfl
  | tx _ ih => simp [ih]
  | nm _ _ _ _ ih => simp [ih]
  | wl _ ih => simp [ih]
/-! in the machine -/
variable {T : KT} {K : KC} {md : List Bool} {W : WX} {c : Cz} {σ : St} {H H' : Hp} {Γ τ : List Ent} {us vs : List V} {ts : List Tr}
end
/-! t * n, a tuple of plain values, once or more often -/
section
open PySem.Spec PyProof.Rows
variable {X : Cx}
end
section
variable {K : KC} {X : Cx} {T : KT} {md : List Bool} {W : WX} {c : Cz} {σ : St} {H : Hp} {Γ τ : List Ent} {us : List V} {ga gb : GE}
end
/-! list.clear, list.insert -/
section
variable {K : KC} {md : List Bool} {W : WX} {c : Cz} {σ : St} {H : Hp} {ts : List Tr} {t : Tr}
end
/-! f(e, ..) where one keyword-only parameter lacks: its default is a plain value -/
section
variable {K : KC} {X : Cx} {T : KT} {md mdc : List Bool} {W : WX} {is : List Nat} {G : GF} {n : Nat} {d : V}
variable {x : Str} {pp pos : Pos} {e : Expr} {es : List Expr} {ga : GE} {kk : Nat} {f : Addr} {fd : FuncData} {ps : List Str}
end
/-! calls with keywords that may raise; isinstance(e, (A, B)) of an error that was handed on -/
section
variable {K : KC} {X : Cx} {T : KT} {md mdc : List Bool} {W : WX} {is : List Nat} {G : GF} {n : Nat}
variable {x : Str} {pp pos : Pos} {e : Expr} {es : List Expr} {ga gk : GE} {kk : Nat} {f : Addr} {fd : FuncData} {ps ks : List Str} {kws : List Keyword} {sp : Sp} {CX : CXT}
end
/-! [a for a, b in xs]; sorted(set(xs)), any ints; [w[0] for w in d.values()] -/
section
variable {X : Cx} {T : KT} {md : List Bool} {W : WX} {ga gs : GE} {te : TE} {i j : Nat}
theorem sqL_stay {K : PySem.W.Frag} {H : Hp} {d D : Addr} {xs : List V} {o : HO} (h : SqL K H d xs) (hD : H D = none) : SqL K (upd H D o) d xs := by
  rcases h with (q | ⟨z, q⟩) | q
  · exact .inl (.inl (by rw [upd_ne fun e => by rw [e, hD] at q; cases q]; exact q))
  · exact .inl (.inr ⟨z, by rw [upd_ne fun e => by rw [e, hD] at q; cases q]; exact q⟩)
  · exact .inr q
theorem sqT_stay {K : PySem.W.Frag} {H : Hp} {d D : Addr} {xs : List V} {o : HO} (h : SqT K H d xs) (hD : H D = none) : SqT K (upd H D o) d xs := by
  rcases h with (q | ⟨z, q⟩) | q
  · exact .inl (.inl (by rw [upd_ne fun e => by rw [e, hD] at q; cases q]; exact q))
  · exact .inl (.inr ⟨z, by rw [upd_ne fun e => by rw [e, hD] at q; cases q]; exact q⟩)
  · exact .inr q
theorem lcT_ok {K : PySem.W.Frag} {H : Hp} {σ : St} {Q : VK} {d : Addr} {vs : List V} {ns : List Int} {D : Addr} (hd : H d = some (.lst vs)) (hD : H D = none) (hi : i < σ.length) (hj : j < σ.length) (hij : i ≠ j)
    (hl : vs.length = ns.length) (few : ns.length ≤ 100000) (hv : ∀ (k : Nat) (v : V), vs[k]? = some v → ∃ a n y, v = .ref a ∧ SqT K H a [.int n, y] ∧ ns[k]? = some n) (hQ : Q (.ref D) (upd H D (.lst (ns.map V.int)))) :
    ∃ Wv : Nat → Nat → Hp → Prop, (∃ m, Wv 0 m (upd H D (.lst []))) ∧ ∀ k m H1, Wv k m H1 →
      ((Itl K d).stop k H1 ∧ Q (.ref D) H1) ∨ ((Itl K d).go k H1 ∧ ∃ Nx : Hp → Prop, (∀ H', Nx H' → ∃ m', m' < m ∧ Wv (k + 1) m' H') ∧ ∀ x H', (Itl K d).yld k H1 x H' → gTup K 2 (gCons (gName i) (gCons (gName j) L2.gNil)) x (wipe σ [i, j]) H' fun σ2 H2 => wipe σ2 [i, j] = wipe σ [i, j] ∧ tYes σ2 H2 fun b H3 =>
        if b = true then tVar i σ2 H3 fun y H4 => ∃ acc, H4 D = some (.lst acc) ∧ acc.length < sizeLine ∧ Nx (upd H4 D (.lst (acc ++ [y]))) else Nx H3) := by
  have ndD : d ≠ D := fun e => by rw [e, hD] at hd; cases hd
  refine ⟨fun k m H1 => k + m = ns.length ∧ H1 = upd H D (.lst ((ns.take k).map V.int)), ⟨ns.length, by omega, rfl⟩, ?_⟩
  rintro k m H1 ⟨hk, rfl⟩
  have hdd : SqL K (upd H D (.lst ((ns.take k).map V.int))) d vs := sqL_stay (.inl (.inl hd)) hD
  cases m with
  | zero =>
    refine .inl ⟨⟨vs, hdd, by omega⟩, ?_⟩
    rw [List.take_of_length_le (by omega)]
    exact hQ
  | succ m =>
    have hlt : k < vs.length := by omega
    refine .inr ⟨⟨vs, vs[k], hdd, List.getElem?_eq_getElem hlt⟩, fun H' => H' = upd H D (.lst ((ns.take (k + 1)).map V.int)), fun H' e => ⟨m, by omega, by omega, e⟩, fun x H' y => ?_⟩
    obtain ⟨rfl, hy⟩ := y
    obtain ⟨a, n, z, rfl, hq, hn⟩ := hv k x (hy vs hdd)
    refine ⟨a, _, rfl, sqT_stay hq hD, rfl, _, _, rfl, _, _, rfl, rfl, wipe2 hij, ?_⟩
    unfold tYes
    dsimp only
    rw [if_pos rfl]
    refine ⟨.int n, ?_, _, upd_same, ?_, ?_⟩
    · have : i < (wipe σ [i, j]).length := by rw [wipe_length]; exact hi
      rw [List.getElem?_set_ne (Ne.symm hij), List.getElem?_set_self this]
    · rw [List.length_map, List.length_take, sizeLine_eq]
      omega
    · show upd (upd H D _) D _ = _
      rw [upd_upd, List.take_succ, hn]
      simp
def gLcT (i j : Nat) (gs : GE) : GE := fun m => match gs m with
  | some (.ok ⟨g1, en :: s⟩) => match viewE g1 en with
    | some (.nd .lst _ ts) => match toDL ts with
      | some ds => match firstsI ds with
        | some ns => if ns.length ≤ 100000 ∧ i < g1.length ∧ j < g1.length ∧ i ≠ j then some (.ok ⟨g1, .tr (.nd .lst .own (ns.map fun n => .a (.int n))) :: s⟩) else none
        | none => none
      | none => none
    | _ => none
  | _ => none
end
/-! sorted(set(xs)) of any whole numbers -/
section
variable {X : Cx}
def tSrtSetD (K : PySem.W.Frag) (ta : TE) : TE := fun σ H Q => ta σ H fun x H1 => ∃ (l : Addr) (ns : List Int), x = V.ref l ∧ SqL K H1 l (ns.map V.int) ∧ ns.length < 64 ∧
  ∀ (ys : List Int) (p : Addr), ys.Pairwise (· < ·) → (∀ k, k ∈ ys ↔ k ∈ ns) → H1 p = none → Q (.ref p) (upd H1 p (.lst (ys.map V.int)))
open PySem.Spec PyProof.Rows in
theorem pe_srtSetD {a : Expr} {ta : TE} {p p2 q pos : Pos} (calm : X.calm = true) (g1 : Gl X "sorted") (m1 : X.mg "sorted" = none) (g2 : Gl X "set") (m2 : X.mg "set" = none) (ha : PE X a ta)
    (na : starEach [a] X.env = (false, eval a X.env) :: starEach [] X.env := by rfl)
    (nb : starEach [.Call (.Name "set" p2) [a] [] q] X.env = (false, eval (.Call (.Name "set" p2) [a] [] q) X.env) :: starEach [] X.env := by rfl) : PE X (.Call (.Name "sorted" p) [.Call (.Name "set" p2) [a] [] q] [] pos) (tSrtSetD X.K ta) := by
  refine ⟨fun pins s σ H Q I h => ?_⟩
  refine Call_ (ld_blt I g1 m1 boot_sorted (callWith_builtin1 (args_cons ?_ nb) nb rfl))
  refine Call_ (ld_blt I g2 m2 boot_set (callWith_type1 (args_cons (thn (ha.run pins s σ H _ I h) fun v s1 ⟨x, H1, I1, r1, l, ns, hx, hq, few, fin⟩ => args_nil ?_) na) na rfl))
  subst hx
  cases r1
  obtain ⟨its, rv, pl, hz⟩ := I1.list hq
  refine set_of_lst ns (I1.ok.hd calm) pl.isList (by simpa using rv.ints) (by unfold scanBound; omega) fun h2 t2 c R hc kp => args_nil ?_
  have I2 : Inv X pins σ H1 { s1 with heap := h2, toks := t2 } := I1.kept kp
  refine sorted_set R (I2.ok.hd calm) (by omega) fun s3 p out c2 ys k3 e1 e2 hp hat hi hs hm hl => ?_
  have nil : H1 p = none := I2.hok.fresh hp
  have llen : (ys.map V.int).length ≤ sizeLine := by rw [List.length_map, hl, sizeLine_eq]; omega
  have J : Inv X pins σ (upd H1 p (.lst (ys.map V.int))) { s1 with heap := s3.heap, gens := s3.gens, drawn := s3.drawn, toks := s3.toks } :=
    Inv.call (s := { s1 with heap := h2, toks := t2 }) I2 (ch := []) (Un.laid k3 hp nil) (I2.hok.laid k3 hp ⟨llen, out.toList, c2, vals_of_ints hi, hat⟩) (by rw [e1]; exact I2.bare) fun _ z => nomatch z
  have es : s3 = { s1 with heap := s3.heap, gens := s3.gens, drawn := s3.drawn, toks := s3.toks } := by
    cases s3; cases s1; cases e2; rfl
  rw [es]
  exact ⟨.ref p, _, J, rfl, fin ys p hs (fun k => by rw [hm k]; simp) nil⟩
variable {T : KT} {md : List Bool} {W : WX} {ga : GE}
/-- each once -/
def ddp : List Int → List Int
  | [] => []
  | x :: r => if x ∈ r then ddp r else x :: ddp r
theorem mem_ddp : ∀ {xs : List Int} {k : Int}, k ∈ ddp xs ↔ k ∈ xs
  | [], _ => Iff.rfl
  | x :: r, k => by
    unfold ddp
    split
    · rename_i h
      rw [mem_ddp (xs := r)]
      constructor
      · exact List.mem_cons_of_mem _
      · intro q
        rcases List.mem_cons.mp q with e | e
        · rw [e]; exact h
        · exact e
    · rw [List.mem_cons, List.mem_cons, mem_ddp (xs := r)]
theorem nodup_ddp : ∀ xs : List Int, (ddp xs).Nodup
  | [] => List.nodup_nil
  | x :: r => by
    unfold ddp
    split
    · exact nodup_ddp r
    · rename_i h
      exact List.nodup_cons.mpr ⟨fun q => h (mem_ddp.mp q), nodup_ddp r⟩
def srtX (ns : List Int) : List Int := sortI (ddp ns)
theorem srtX_uniq {ns ys : List Int} (h : ys.Pairwise (· < ·)) (h2 : ∀ k, k ∈ ys ↔ k ∈ ns) : ys = srtX ns := by
  have nd : ys.Nodup := h.imp fun {a b} z => Int.ne_of_lt z
  exact sortI_uniq ((List.perm_ext_iff_of_nodup nd (nodup_ddp ns)).mpr fun k => (h2 k).trans mem_ddp.symm) (h.imp fun {a b} z => Int.le_of_lt z)
def fSrtSetD : GE := fun m => match m.s with
  | e :: s => match viewE m.g e with
    | some (.nd .lst _ ts) => match intsT ts with
      | some ns => if ns.length < 64 then some (.ok ⟨m.g, .tr (.nd .lst .own ((srtX ns).map fun i => .a (.int i))) :: s⟩) else none
      | none => none
    | _ => none
  | _ => none
theorem me_srtSetD {a : Expr} {p p2 q pos : Pos} (ha : ME X T md W a ga) (calm : X.calm = true) (g1 : Gl X "sorted") (m1 : X.mg "sorted" = none) (g2 : Gl X "set") (m2 : X.mg "set" = none)
    (na : starEach [a] X.env = (false, eval a X.env) :: starEach [] X.env := by rfl)
    (nb : starEach [.Call (.Name "set" p2) [a] [] q] X.env = (false, eval (.Call (.Name "set" p2) [a] [] q) X.env) :: starEach [] X.env := by rfl) : ME X T md W (.Call (.Name "sorted" p) [.Call (.Name "set" p2) [a] [] q] [] pos) (gSeq ga fSrtSetD) := by
  obtain ⟨ta, pa, sa⟩ := ha
  refine ⟨_, pe_srtSetD calm g1 m1 g2 m2 pa na nb, fun c σ H m us Q rr hc E hg hp => ?_⟩
  simp only [gSeq] at hg
  cases e1 : ga m with
  | none => simp [e1] at hg
  | some r1 =>
    rw [e1] at hg
    cases r1 with
    | ex C g =>
      simp only at hg
      cases hg
      exact sa c σ H m us _ _ hc E e1 hp
    | ok m1 =>
      simp only at hg
      refine sa c σ H m us _ _ hc E e1 fun x H1 E1 => ?_
      unfold fSrtSetD at hg
      split at hg
      · rename_i ex s hs
        rw [hs] at E1
        split at hg
        · rename_i o ts hv
          split at hg
          · rename_i ns hn
            split at hg
            · rename_i hb
              cases hg
              obtain ⟨Z, ws, Φ, Ψ, EE⟩ := id E1
              obtain ⟨Θ1, ad, vs, Ξ, rfl, ho, hl, _⟩ := EE.view (n := 0) rfl rfl hv
              have := intsT_ok hl hn
              subst this
              refine ⟨ad, ns, rfl, objL ho, hb, fun ys p h1 h2 nl => hp _ _ ?_⟩
              rw [srtX_uniq h1 h2]
              exact EnvOk.newAtoms (E1.drop) _ nl
            · cases hg
          · cases hg
        · cases hg
      · cases hg
end
/-! [w[0] for w in d.values()]: the values are tuples -/
section
variable {K : KC} {X : Cx} {T : KT} {md : List Bool} {W : WX} {gs : GE} {te : TE} {i : Nat} {c : Cz} {σ : St} {H : Hp} {Γ τ : List Ent} {us : List V}
def fstT (o : Ow) : Tr → Option Tr
  | .nd .tup o' (p :: _) => if cp (kid (eff o o') p) = true then some (kid (eff o o') p) else none
  | _ => none
def fstsT (o : Ow) : List Tr → Option (List Tr)
  | [] => some []
  | t :: ts => match fstT o t, fstsT o ts with
    | some q, some qs => some (q :: qs)
    | _, _ => none
theorem fstT_at {Z : Zn} {o : Ow} {t q : Tr} {v : V} {Φ : Ps} (r : Rep K Z H o t v Φ) (h : fstT o t = some q) : ∃ a xs w, v = .ref a ∧ SqT K.K H a xs ∧ atI xs 0 = some w ∧ Rep K Z H .own q w (fun _ => False) := by
  unfold fstT at h
  split at h
  · rename_i o' p rest
    split at h
    · rename_i hc
      cases h
      obtain ⟨a, vs, Ψ, rfl, ho, hl, _⟩ := r
      obtain ⟨w, vs', Φ1, Φ2, rfl, r1, _⟩ := hl
      have r2 := rep_kid.mpr r1
      have hx : ixN (w :: vs').length 0 = some 0 := by simp [ixN]
      refine ⟨a, _, w, rfl, objT ho, by unfold atI; rw [hx]; rfl, ?_⟩
      have one : RepL K Z H .own [kid (eff o o') p] [w] Φ1 := ⟨w, [], Φ1, fun _ => False, rfl, r2, ⟨rfl, fun _ h => h⟩, by simp, by simp⟩
      have none0 := RepL.cp0 [kid (eff o o') p] one (by simp [cpL, hc])
      have e : Φ1 = fun _ => False := by
        funext b
        exact propext ⟨fun q => (none0 b q).elim, fun q => q.elim⟩
      rw [e] at r2
      exact r2
    · cases h
  · cases h
theorem fstsT_at {Z : Zn} {o : Ow} : ∀ {ts qs : List Tr} {vs : List V} {Φ : Ps}, RepL K Z H o ts vs Φ → fstsT o ts = some qs → ∃ ws : List V, qs.length = ws.length ∧ vs.length = ws.length ∧
    (∀ (k : Nat) (v : V), vs[k]? = some v → ∃ a xs w, v = .ref a ∧ SqT K.K H a xs ∧ atI xs 0 = some w ∧ ws[k]? = some w) ∧ RepL K Z H .own qs ws (fun _ => False)
  | [], qs, vs, Φ, r, h => by
    cases h
    obtain ⟨rfl, _⟩ := r
    exact ⟨[], rfl, rfl, fun k v e => by simp at e, ⟨rfl, fun _ h => h⟩⟩
  | t :: ts, qs, vs, Φ, r, h => by
    unfold fstsT at h
    split at h
    · rename_i q qs' h1 h2
      cases h
      obtain ⟨v, vs', Φ1, Φ2, rfl, r1, r2, _, _⟩ := r
      obtain ⟨a, xs, w, rfl, hq, ha, hr⟩ := fstT_at r1 h1
      obtain ⟨ws, e1, e2, e3, e4⟩ := fstsT_at r2 h2
      refine ⟨w :: ws, by simp [e1], by simp [e2], fun k v e => ?_, ⟨w, ws, fun _ => False, fun _ => False, rfl, hr, e4, by simp, by simp⟩⟩
      cases k with
      | zero =>
        cases e
        exact ⟨a, xs, w, rfl, hq, ha, rfl⟩
      | succ k => exact e3 k v (by simpa using e)
    · cases h
theorem trees_trs (qs : List Tr) : trees (qs.map Ent.tr) = qs := by
  unfold trees
  rw [List.map_map]
  exact List.map_id _
/-- things that nobody owns are laid on the stack -/
theorem EnvOk.lay {Z : Zn} {ws : List V} {Φ Ψ : Ps} {z : List V} {qs : List Tr} {vs : List V} (EE : Ev K c Z ws Φ Ψ σ H Γ τ us) (r : RepL K Z H .own qs vs (fun _ => False)) : EnvOk K c σ H Γ (qs.reverse.map Ent.tr ++ τ) (vs.reverse ++ us) := by
  have r2 := RepL.reverse _ r
  refine EE.swap (τ1 := []) (us1 := []) (τ1' := qs.reverse.map Ent.tr) (us1' := vs.reverse) (Ψ1' := fun _ => False) rfl (fun e he p => ?_) (fun Ψ1 r1 => ⟨?_, .same _ _ _ EE.zs (fun b q => RepL.isS _ r1 b q) _ (by simp)⟩) (by simpa using RepL.len _ r)
  · obtain ⟨t, _, rfl⟩ := List.mem_map.mp he
    simp
  · rw [trees_trs]
    exact r2
theorem wipe1 {σ : St} {a : Option V} : wipe ((wipe σ [i]).set i a) [i] = wipe σ [i] := by
  simp only [wipe]
  apply List.ext_getElem?
  intro k
  simp only [List.getElem?_set, List.length_set]
  grind
theorem lcW_ok {K : PySem.W.Frag} {H : Hp} {σ : St} {Q : VK} {d : Addr} {od : Obj} {kvs : List (Key × V)} {ws : List V} {D : Addr} (hd : H d = some (.frz od (.dK kvs))) (hD : H D = none) (hi : i < σ.length)
    (hl : kvs.length = ws.length) (few : ws.length ≤ 100000) (hv : ∀ (k : Nat) (x : Key) (v : V), kvs[k]? = some (x, v) → ∃ a xs w, v = .ref a ∧ SqT K H a xs ∧ atI xs 0 = some w ∧ ws[k]? = some w) (hQ : Q (.ref D) (upd H D (.lst ws))) :
    ∃ Wv : Nat → Nat → Hp → Prop, (∃ m, Wv 0 m (upd H D (.lst []))) ∧ ∀ k m H1, Wv k m H1 →
      ((Itd d od kvs).stop k H1 ∧ Q (.ref D) H1) ∨ ((Itd d od kvs).go k H1 ∧ ∃ Nx : Hp → Prop, (∀ H', Nx H' → ∃ m', m' < m ∧ Wv (k + 1) m' H') ∧ ∀ x H', (Itd d od kvs).yld k H1 x H' → gName i x (wipe σ [i]) H' fun σ2 H2 => wipe σ2 [i] = wipe σ [i] ∧ tYes σ2 H2 fun b H3 =>
        if b = true then tOp (rIxT K) (tVar i) (tC (.int 0)) σ2 H3 fun y H4 => ∃ acc, H4 D = some (.lst acc) ∧ acc.length < sizeLine ∧ Nx (upd H4 D (.lst (acc ++ [y]))) else Nx H3) := by
  have ndD : d ≠ D := fun e => by rw [e, hD] at hd; cases hd
  refine ⟨fun k m H1 => k + m = ws.length ∧ H1 = upd H D (.lst (ws.take k)), ⟨ws.length, by omega, rfl⟩, ?_⟩
  rintro k m H1 ⟨hk, rfl⟩
  have hdd : (upd H D (.lst (ws.take k))) d = some (.frz od (.dK kvs)) := by rw [upd_ne ndD]; exact hd
  cases m with
  | zero =>
    refine .inl ⟨⟨hdd, by omega⟩, ?_⟩
    rw [List.take_of_length_le (by omega)]
    exact hQ
  | succ m =>
    refine .inr ⟨⟨hdd, by omega⟩, fun H' => H' = upd H D (.lst (ws.take (k + 1))), fun H' e => ⟨m, by omega, by omega, e⟩, fun x H' y => ?_⟩
    obtain ⟨rfl, key, hy⟩ := y
    obtain ⟨a, xs, w, rfl, hq, ha, hn⟩ := hv k key x hy
    refine ⟨wipe1, ?_⟩
    unfold tYes
    dsimp only
    rw [if_pos rfl]
    refine ⟨.ref a, ?_, a, xs, 0, w, rfl, rfl, sqT_stay hq hD, ha, _, upd_same, ?_, ?_⟩
    · have : i < (wipe σ [i]).length := by rw [wipe_length]; exact hi
      rw [List.getElem?_set_self this]
    · rw [List.length_take, sizeLine_eq]
      omega
    · show upd (upd H D _) D _ = _
      rw [upd_upd, List.take_succ, hn]
      simp
def gLcW (i : Nat) (gs : GE) : GE := fun m => match gs m with
  | some (.ok ⟨g1, en :: s⟩) => match viewE g1 en with
    | some (.nd (.dct _) o ts) => match fstsT o ts with
      | some qs => if qs.length ≤ 100000 ∧ i < g1.length then match mkN .lst qs with
          | some t => some (.ok ⟨g1, .tr t :: s⟩)
          | none => none
        else none
      | none => none
    | _ => none
  | _ => none
theorem me_lcW {rcv elt tg : Expr} {apos cpos pos : Pos} {scope : Scope} {x : Str} (he : PE X rcv te) (sr : Src X T te gs) (ok : BlkOk X.N X.env.scope scope [(x, i)])
    (hg : ∀ (s : Shared) (H : Hp) (C : Addr) (cl : List (Str × Addr)) (fp : List Addr), PG (X.blk s H scope (compEnvC scope cl C X.env) fp) tg (gName i))
    (hel : ∀ (s : Shared) (H : Hp) (C : Addr) (cl : List (Str × Addr)) (fp : List Addr), PE (X.blk s H scope (compEnvC scope cl C X.env) fp) elt (tOp (rIxT X.K) (tVar i) (tC (.int 0))))
    (hc : X.calm = true) (hN : X.N.Nodup) (hb : attributeBase rcv "values" X.env (eval rcv X.env) = eval rcv X.env := by rfl) (hln : (apos.endLine == cpos.line) = true := by rfl)
    (hf : ∀ x, foldedSetIterable (.Call (.Attribute rcv "values" apos) [] [] cpos) X.env x = pure x := by intro _; rfl) :
    ME X T md W (.ListComp elt [⟨tg, .Call (.Attribute rcv "values" apos) [] [] cpos, [], 0⟩] scope pos) (gLcW i gs) := by
  have pl := pe_lc (pos := pos) hc hN (pi_values (tg := tg) (apos := apos) (cpos := cpos) he hb hln) ok hg (fun s H C cl fp => pts_nil) hel hf
  refine ⟨_, PE.or2 (pe_lock pl) pl, fun c σ H m us Q rr hm E h0 hp => ?_⟩
  simp only [gLcW] at h0
  split at h0
  · rename_i g1 en s h1
    split at h0
    · rename_i ks o ts hv
      split at h0
      · rename_i qs hqs
        split at h0
        · rename_i hbd
          split at h0
          · rename_i tt htt
            cases h0
            obtain ⟨rfl, w, E1, hte⟩ := sr c σ H m us _ _ _ E h1
            obtain ⟨Z, ws0, Φ, Ψ, EE⟩ := id E1
            obtain ⟨Θ1, d, vs, Ξ, rfl, ho, hl, _⟩ := EE.view (n := 0) rfl rfl hv
            obtain ⟨ws, e1, e2, e3, e4⟩ := fstsT_at hl hqs
            obtain ⟨l1, rd⟩ := ObjAt.rd ho
            have hlz : (ks.zip vs).length = ws.length := by rw [List.length_zip, l1, Nat.min_self]; exact e2
            have hvz : ∀ (k : Nat) (x : Key) (v : V), (ks.zip vs)[k]? = some (x, v) → ∃ a xs w, v = .ref a ∧ SqT X.K H a xs ∧ atI xs 0 = some w ∧ ws[k]? = some w := fun k x v q => by
              rw [List.getElem?_zip_eq_some] at q
              exact e3 k v q.2
            have li : i < σ.length := by rw [EE.ln]; exact hbd.2
            have E2 := EnvOk.lay (z := []) EE e4
            have few : ws.length ≤ 100000 := by rw [← e1]; exact hbd.1
            have fin : ∀ D, H D = none → Q (.ref D) (upd H D (.lst ws)) := fun D hD => by
              have E3 := EnvOk.permA (A := qs.reverse.map Ent.tr) (B := [en]) (va := ws.reverse) (vb := [.ref d]) (τ := s) (us := us) (by simpa using e1) rfl (by simpa using E2)
              exact hp _ _ (EnvOk.new (ts := qs) (vs := ws) (k := .lst) (τ := s) (us := us) (EnvOk.drop (by simpa using E3)) e1 hD htt fun o => upd_same)
            rcases rd with rd | ⟨od, rd⟩
            · refine .inl ⟨d, _, rd, trivial, fun od => ?_⟩
              refine hte _ _ (fun b C dx fs q => by rw [upd_ne (fun e => by rw [e, rd] at q; cases q)]; exact q) ⟨d, od, _, rfl, upd_same, fun D hD => ?_⟩
              have nD : D ≠ d := fun e => by rw [e, upd_same] at hD; cases hD
              have hD0 : H D = none := by rw [upd_ne nD] at hD; exact hD
              refine lcW_ok (K := X.K) (Q := fun v H' => H' d = some (.frz od (.dK (ks.zip vs))) ∧ Q v (upd H' d (.dK (ks.zip vs)))) upd_same hD li hlz few (fun k x v q => ?_) ⟨by rw [upd_ne (Ne.symm nD)]; exact upd_same, ?_⟩
              · obtain ⟨a, n, y, r1, r2, r3, r4⟩ := hvz k x v q
                refine ⟨a, n, y, r1, ?_, r3, r4⟩
                rcases r2 with (r2 | ⟨o2, r2⟩) | r2
                · exact .inl (.inl (by rw [upd_ne fun e => by rw [e, rd] at r2; cases r2]; exact r2))
                · exact .inl (.inr ⟨o2, by rw [upd_ne fun e => by rw [e, rd] at r2; cases r2]; exact r2⟩)
                · exact .inr r2
              · have e3 : upd (upd (upd H d (.frz od (.dK (ks.zip vs)))) D (.lst ws)) d (.dK (ks.zip vs)) = upd H D (.lst ws) := by
                  funext b
                  by_cases hb : b = d
                  · rw [hb, upd_same, upd_ne (Ne.symm nD), rd]
                  · rw [upd_ne hb]
                    by_cases hb2 : b = D
                    · rw [hb2, upd_same, upd_same]
                    · rw [upd_ne hb2, upd_ne hb2, upd_ne hb]
                rw [e3]
                exact fin D hD0
            · refine .inr (hte _ _ (fun b C dx fs q => q) ⟨d, od, _, rfl, rd, fun D hD => ?_⟩)
              exact lcW_ok (K := X.K) rd hD li hlz few hvz (fin D hD)
          · cases h0
        · cases h0
      · cases h0
    · cases h0
  · cases h0
end
/-! x in a list, both plain data (tuples of ints and texts at any depth) -/
section
variable {K : KC} {X : Cx} {md : List Bool} {W : WX}
def FInDp (tx ty : Tr) : Option V := match toD tx, toD ty with
  | some d, some (.list ds) => if SeqAt.shaped d = true ∧ SeqAt.shaped (.list ds) = true then some (.bl (ds.any fun z => PyData.eqv z d)) else none
  | _, _ => none
theorem fInDp_ok : RA2 K md W (rInD K.K) (fP2 FInDp) := fP2_ok fun Z H x y tx ty u Φ Ψ Q r1 r2 e q => by
  unfold FInDp at e
  split at e
  · rename_i d ds h1 h2
    split at e
    · rename_i hc
      cases e
      exact ⟨d, ds, toD_ok _ r1 h1, toD_ok _ r2 h2, hc.1, hc.2, q⟩
    · cases e
  · cases e
def fInE : GE := gOr fInA (fP2 FInDp)
theorem fInE_ok : RA2 K md W (fun x y H Q => (rIn K.K false x y H Q ∨ rInK false x y H Q) ∨ rInD K.K x y H Q) fInE := fInA_ok.or fInDp_ok
theorem op_inE (hu : X.A.units + 65 < cLine) : OpR X (compareOp .In) (fun x y H Q => (rIn X.K false x y H Q ∨ rInK false x y H Q) ∨ rInD X.K x y H Q) := (op_inA (by omega)).or (op_inD hu)
end
/-! d.pop(k): d an own dict with int or text keys, k is there -/
section
variable {K : KC} {X : Cx} {T : KT} {md : List Bool} {W : WX} {c : Cz} {σ : St} {H : Hp} {Γ τ : List Ent} {us : List V} {go ga : GE} {oe e : Expr} {p : List Nat} {ks : List Key} {ts : List Tr} {vs : List V} {j : Nat} {t : Tr} {v : V}
def chkD : GE := fun m => match m.s with
  | e :: _ => match viewE m.g e with
    | some (.nd (.dct _) _ _) => some (.ok m)
    | _ => none
  | _ => none
theorem chkD_ok {m : Ms} {x : V} {rr : Rs} (E : EnvOk K c σ H m.g m.s (x :: us)) (h : chkD m = some rr) : rr = .ok m ∧ ∃ a, x = .ref a ∧ IsD H a := by
  unfold chkD at h
  split at h
  · rename_i e s hs
    split at h
    · rename_i ks o ts hv
      cases h
      rw [hs] at E
      obtain ⟨Z, ws, Φ, Ψ, EE⟩ := E
      obtain ⟨Θ, a, vs, Ξ, rfl, ho, _⟩ := EE.view (n := 0) rfl rfl hv
      obtain ⟨l, hr⟩ := ObjAt.rd ho
      exact ⟨rfl, a, rfl, .inl ⟨_, hr⟩⟩
    · cases h
  · cases h
theorem dropK_zip {k : Key} : ∀ {ks : List Key} {vs : List V} {j : Nat}, ks.Nodup → kix k ks = some j → ks.length = vs.length → dropK (ks.zip vs) k = (ks.eraseIdx j).zip (vs.eraseIdx j)
  | [], _, _, _, h, _ => by simp [kix] at h
  | x :: ks, [], _, _, _, l => by simp at l
  | x :: ks, y :: vs, j, nd, h, l => by
    simp only [kix] at h
    obtain ⟨n1, n2⟩ := List.nodup_cons.mp nd
    by_cases hx : x = k
    · rw [if_pos hx] at h
      cases h
      subst hx
      have : ∀ kv ∈ ks.zip vs, decide (kv.1 ≠ x) = true := fun kv hkv => by
        have := (List.of_mem_zip (a := kv.1) (b := kv.2) hkv).1
        simp only [ne_eq, decide_eq_true_eq]
        intro q
        rw [q] at this
        exact n1 this
      simp only [dropK, List.zip_cons_cons, List.filter_cons, List.eraseIdx_zero, List.tail_cons]
      rw [if_neg (by simp), List.filter_eq_self.mpr this]
    · rw [if_neg hx] at h
      cases h2 : kix k ks with
      | none => rw [h2] at h; cases h
      | some i =>
        rw [h2] at h
        cases h
        have ih := dropK_zip n2 h2 (by simpa using l)
        simp only [dropK] at ih
        simp only [dropK, List.zip_cons_cons, List.filter_cons, List.eraseIdx_cons_succ]
        rw [if_pos (by simpa using hx), ih]
theorem dpopStep {ad : Addr} {k : Key} {E1 : EnvOk K c σ H Γ (.al p :: τ) (.ref ad :: us)} (hg : getG Γ p = some (.nd (.dct ks) .own ts)) (ho : ks.length = vs.length ∧ H ad = some (.dK (ks.zip vs))) (nd : ks.Nodup) (hk : kix k ks = some j) (ht : ts[j]? = some t) (hv : vs[j]? = some v) :
    EnvOk K c σ (upd H ad (.dK (dropK (ks.zip vs) k))) (kill p (setG Γ p (.nd (.dct (ks.eraseIdx j)) .own (ts.eraseIdx j)))) (.tr t :: kill p τ) (v :: us) := by
  rw [dropK_zip nd hk ho.1]
  obtain ⟨a', e, E2⟩ := EnvOk.modP (ins := []) (us1 := []) (outs := [t]) (vouts := [v]) (k' := .dct (ks.eraseIdx j)) (ts' := ts.eraseIdx j) (ob := .dK ((ks.eraseIdx j).zip (vs.eraseIdx j))) (τ := τ) (us := us) E1 rfl hg (by simp) (by simp) (fun a2 vs2 e2 ho2 l2 => by
    cases e2
    have ho2 : ks.length = vs2.length ∧ H ad = some (.dK (ks.zip vs2)) := ho2
    have ev : vs = vs2 := by
      have h3 : ks.zip vs = ks.zip vs2 := by
        have := ho.2.symm.trans ho2.2
        simpa using this
      have h4 := congrArg (List.map Prod.snd) h3
      rwa [List.map_snd_zip (by omega), List.map_snd_zip (by omega)] at h4
    subst ev
    refine ⟨vs.eraseIdx j, by rw [List.length_eraseIdx, List.length_eraseIdx, l2], ⟨by rw [List.length_eraseIdx, List.length_eraseIdx, ho.1], upd_same⟩, fun Z Ψa Ψb r1 r2 d => ?_⟩
    obtain ⟨v', Φ1, Φ2, e1, r, d1, u, _, r3⟩ := RepL.at_ _ r1 ht
    rw [hv] at e1
    cases e1
    have one : RepL K Z H .own [t] [v] Φ1 := ⟨v, [], Φ1, fun _ => False, rfl, r, ⟨rfl, fun _ h => h⟩, by simp, by simp⟩
    exact ⟨_, RepL.append _ r3 one (by grind), by grind⟩) rfl (escL_erase (E1.escAt hg (by simp)))
  cases e
  simpa using E2
def fPopD : GE := fun m => match m.s with
  | .tr (.a y) :: .al p :: s => match getG m.g p, keyOf y with
    | some (.nd (.dct ks) .own ts), some k => if ks.Nodup then match kix k ks with
        | some j => match ts[j]? with
          | some t => some (.ok ⟨kill p (setG m.g p (.nd (.dct (ks.eraseIdx j)) .own (ts.eraseIdx j))), .tr t :: kill p s⟩)
          | none => none
        | none => none
      else none
    | _, _ => none
  | _ => none
theorem me_dpop1 {apos cpos : Pos} (ho : ME X T md W oe go) (ha : ME X T md W e ga) (m1 : M1 X oe "pop" apos e cpos) : ME X T md W (.Call (.Attribute oe "pop" apos) [e] [] cpos) (gSeq go (gSeq chkD (gSeq ga fPopD))) := by
  obtain ⟨to, po, so⟩ := ho
  obtain ⟨ta, pa, sa⟩ := ha
  refine ⟨_, pe_dpop1 po pa m1, fun c σ H m us Q rr hc E hg hp => ?_⟩
  simp only [gSeq] at hg
  split at hg
  · rename_i m1 h1
    refine so c σ H m us _ _ hc E h1 fun x H1 E1 => ?_
    split at hg
    · rename_i m2 h2
      obtain ⟨e2, a, rfl, hd⟩ := chkD_ok E1 h2
      cases e2
      refine ⟨a, rfl, hd, ?_⟩
      split at hg
      · rename_i m3 h3
        refine sa c σ H1 m1 _ _ _ hc E1 h3 fun y H2 E2 => ?_
        unfold fPopD at hg
        split at hg
        · rename_i yv p s hs
          split at hg
          · rename_i ks ts k hgg hk
            split at hg
            · rename_i nd
              split at hg
              · rename_i j hj
                split at hg
                · rename_i t ht
                  cases hg
                  rw [hs] at E2
                  have ey := top_a E2
                  subst ey
                  have E3 := E2.drop
                  obtain ⟨Z, ws, Φ, Ψ, EE⟩ := id E3
                  obtain ⟨Θ, a2, vs, Ξ, ea, ho, hlr, hn⟩ := EE.view (n := 0) (e := .al p) rfl rfl hgg
                  cases ea
                  have ho : ks.length = vs.length ∧ H2 a = some (.dK (ks.zip vs)) := ho
                  have hlen := RepL.len _ hlr
                  have hjv : j < vs.length := by rw [← hlen]; exact getq_lt' ht
                  rw [keyOf_kV hk]
                  refine ⟨_, k, vs[j], ho.2, rfl, by rw [valV_zip hj ho.1]; exact List.getElem?_eq_getElem hjv, hp _ _ ?_⟩
                  exact dpopStep (E1 := E3) hgg ho nd hj ht (List.getElem?_eq_getElem hjv)
                · cases hg
              · cases hg
            · cases hg
          · cases hg
        · cases hg
      · rename_i h3
        refine sa c σ H1 m1 _ _ _ hc E1 hg ?_
        cases rr with
        | ex C g' => exact hp
        | ok m2 => exact absurd hg (h3 m2)
    · rename_i h2
      obtain ⟨e2, ty⟩ := chkD_ok E1 hg
      exact absurd (e2 ▸ hg) (h2 m1)
  · rename_i h1
    refine so c σ H m us _ _ hc E hg ?_
    cases rr with
    | ex C g' => exact hp
    | ok m2 => exact absurd hg (h1 m2)
end
/-! y = [a for a, b in xs] -/
section
variable {K : KC} {X : Cx} {T : KT} {md : List Bool} {W : WX} {gs : GE} {i j : Nat}
theorem ms_lcT {k : Nat} {rcv elt tg : Expr} {pos py spos : Pos} {scope : Scope} {x y z : Str} (he : ME X T md W rcv gs) (ok : BlkOk X.N X.env.scope scope [(x, i), (y, j)])
    (hg : ∀ (s : Shared) (H : Hp) (C : Addr) (cl : List (Str × Addr)) (fp : List Addr), PG (X.blk s H scope (compEnvC scope cl C X.env) fp) tg (gTup X.K 2 (gCons (gName i) (gCons (gName j) L2.gNil))))
    (hel : ∀ (s : Shared) (H : Hp) (C : Addr) (cl : List (Str × Addr)) (fp : List Addr), PE (X.blk s H scope (compEnvC scope cl C X.env) fp) elt (tVar i))
    (hc : X.calm = true) (hN : X.N.Nodup) (hy : X.N[k]? = some z) (hyl : X.env.scope.names.lookup z = some .local) (hsw : swapsWith (.ListComp elt [⟨tg, rcv, [], 0⟩] scope pos) (some (.Name z py)) spos.line X.env = pure true) (hf : ∀ x, foldedSetIterable rcv X.env x = pure x := by intro _; rfl) :
    MS X T md W (.Assign [.Name z py] (.ListComp elt [⟨tg, rcv, [], 0⟩] scope pos) spos) (sSet md k (gLcT i j gs)) := by
  obtain ⟨te, pe, se⟩ := he
  refine ms_asgOf (ps_setLc hc hN hy hyl hsw (pi_list (tg := tg) pe) ok hg (fun s H C cl fp => pts_nil) hel hf) fun c σ H m us Q rr hm E h0 hp => ?_
  simp only [gLcT] at h0
  split at h0
  · rename_i g1 en s h1
    split at h0
    · rename_i o ts hv
      split at h0
      · rename_i ds hds
        split at h0
        · rename_i ns hns
          split at h0
          · rename_i hbd
            cases h0
            refine se c σ H m us _ _ hm E h1 fun x H1 E1 => ?_
            obtain ⟨Z, ws, Φ, Ψ, EE⟩ := id E1
            obtain ⟨Θ1, d, vs, Ξ, rfl, ho, hl, _⟩ := EE.view (n := 0) rfl rfl hv
            obtain ⟨e1, e2⟩ := firstsI_at (toDL_ok _ hl hds) hns
            have li : i < σ.length := by rw [EE.ln]; exact hbd.2.1
            have lj : j < σ.length := by rw [EE.ln]; exact hbd.2.2.1
            exact ⟨d, rfl, ⟨vs, objL ho⟩, fun D hD => lcT_ok (K := X.K) ho hD li lj hbd.2.2.2 e1 hbd.1 e2 (hp _ _ (EnvOk.newAtoms (E1.drop) _ hD))⟩
          · cases h0
        · cases h0
      · cases h0
    · cases h0
  · cases h0
end
def top (i : Nat) : Stmt := PySem.Challenge.pw_lotsandties_k47_slots_that_are_read.main.body.getD i (.Pass ⟨0, 0, 0, 0⟩)
abbrev s_find_mark : Stmt := top 3
theorem sc_find_mark : FnScope ["disk", "lot", "slot", "record"] ["disk", "lot"] (defScope s_find_mark) := ⟨rfl, rfl, rfl, by decide +kernel, rfl, by decide +kernel, by decide +kernel⟩
abbrev s_found_marks : Stmt := top 4
theorem sc_found_marks : FnScope ["disk", "marks", "found"] ["disk"] (defScope s_found_marks) := ⟨rfl, rfl, rfl, by decide +kernel, rfl, by decide +kernel, by decide +kernel⟩
abbrev s_live_copy : Stmt := top 5
theorem sc_live_copy : FnScope ["marks", "x", "lapse", "live", "slot", "record", "lot", "copies", "revokes", "block", "place"] ["marks", "x", "lapse"] (defScope s_live_copy) := ⟨rfl, rfl, rfl, by decide +kernel, rfl, by decide +kernel, by decide +kernel⟩
abbrev s_cells_after : Stmt := top 6
theorem sc_cells_after : FnScope ["disk", "marks", "x", "lapse", "live", "lot", "slot", "record"] ["disk", "marks", "x", "lapse"] (defScope s_cells_after) := ⟨rfl, rfl, rfl, by decide +kernel, rfl, by decide +kernel, by decide +kernel⟩
abbrev s_slots_read : Stmt := top 7
abbrev N_slots_read : List Str := ["disk", "lapse", "marks", "slots", "slot", "record", "x", "live"]
theorem sc_slots_read : FnScope ["disk", "lapse", "marks", "slots", "slot", "record", "x", "live"] ["disk", "lapse"] (defScope s_slots_read) := ⟨rfl, rfl, rfl, by decide +kernel, rfl, by decide +kernel, by decide +kernel⟩
abbrev s_is_within : Stmt := top 21
theorem sc_is_within : FnScope ["part", "low", "high"] ["part", "low", "high"] (defScope s_is_within) := ⟨rfl, rfl, rfl, by decide +kernel, rfl, by decide +kernel, by decide +kernel⟩
abbrev s_is_row_of_cells : Stmt := top 27
abbrev N_is_row_of_cells : List Str := ["part", "cell"]
theorem sc_is_row_of_cells : FnScope ["part", "cell"] ["part"] (defScope s_is_row_of_cells) := ⟨rfl, rfl, rfl, by decide +kernel, rfl, by decide +kernel, by decide +kernel⟩
abbrev s_are_blocks : Stmt := top 28
theorem sc_are_blocks : FnScope ["part", "last", "block"] ["part"] (defScope s_are_blocks) := ⟨rfl, rfl, rfl, by decide +kernel, rfl, by decide +kernel, by decide +kernel⟩
abbrev s_are_copies : Stmt := top 29
abbrev N_are_copies : List Str := ["part", "pair"]
theorem sc_are_copies : FnScope ["part", "pair"] ["part"] (defScope s_are_copies) := ⟨rfl, rfl, rfl, by decide +kernel, rfl, by decide +kernel, by decide +kernel⟩
abbrev s_check_record : Stmt := top 30
theorem sc_check_record : FnScope ["record", "good"] ["record"] (defScope s_check_record) := ⟨rfl, rfl, rfl, by decide +kernel, rfl, by decide +kernel, by decide +kernel⟩
abbrev s_fits_plan : Stmt := top 31
abbrev N_fits_plan : List Str := ["record", "plan", "block", "slot"]
theorem sc_fits_plan : FnScope ["record", "plan", "block", "slot"] ["record", "plan"] (defScope s_fits_plan) := ⟨rfl, rfl, rfl, by decide +kernel, rfl, by decide +kernel, by decide +kernel⟩
abbrev s_is_place : Stmt := top 33
theorem sc_is_place : FnScope ["place", "plan"] ["place", "plan"] (defScope s_is_place) := ⟨rfl, rfl, rfl, by decide +kernel, rfl, by decide +kernel, by decide +kernel⟩
abbrev s_home_content : Stmt := top 34
theorem sc_home_content : FnScope ["what"] ["what"] (defScope s_home_content) := ⟨rfl, rfl, rfl, by decide +kernel, rfl, by decide +kernel, by decide +kernel⟩
abbrev s_log_content : Stmt := top 35
theorem sc_log_content : FnScope ["what", "plan"] ["what", "plan"] (defScope s_log_content) := ⟨rfl, rfl, rfl, by decide +kernel, rfl, by decide +kernel, by decide +kernel⟩
abbrev s_law_feed : Stmt := top 40
theorem sc_law_feed : FnScope ["_law_script", "_law_feed_here", "_law_cell", "_law_rest", "_law_k"] ["_law_script"] (defScope s_law_feed) := ⟨rfl, rfl, rfl, by decide +kernel, rfl, by decide +kernel, by decide +kernel⟩
abbrev s_law_pick : Stmt := top 41
theorem sc_law_pick : FnScope ["_law_feed_here", "_law_limit"] ["_law_feed_here", "_law_limit"] (defScope s_law_pick) := ⟨rfl, rfl, rfl, by decide +kernel, rfl, by decide +kernel, by decide +kernel⟩
abbrev s_law_same : Stmt := top 42
theorem sc_law_same : FnScope ["_law_actual", "_law_due", "_law_k"] ["_law_actual", "_law_due"] (defScope s_law_same) := ⟨rfl, rfl, rfl, by decide +kernel, rfl, by decide +kernel, by decide +kernel⟩
abbrev s_law_slot : Stmt := top 43
theorem sc_law_slot : FnScope ["_law_feed_here", "_law_k", "_law_choice"] ["_law_feed_here", "_law_k"] (defScope s_law_slot) := ⟨rfl, rfl, rfl, by decide +kernel, rfl, by decide +kernel, by decide +kernel⟩
abbrev s_law_mark : Stmt := top 44
abbrev N_law_mark : List Str := ["_law_feed_here", "_law_lot", "_law_pairs", "_law_k", "_law_block", "_law_pair", "_law_revokes"]
theorem sc_law_mark : FnScope ["_law_feed_here", "_law_lot", "_law_pairs", "_law_k", "_law_block", "_law_pair", "_law_revokes"] ["_law_feed_here", "_law_lot"] (defScope s_law_mark) := ⟨rfl, rfl, rfl, by decide +kernel, rfl, by decide +kernel, by decide +kernel⟩
abbrev s_law_put : Stmt := top 45
theorem sc_law_put : FnScope ["_law_disk_here", "_law_log", "_law_slot_here", "_law_record", "_law_write"] ["_law_disk_here", "_law_log", "_law_slot_here", "_law_record"] (defScope s_law_put) := ⟨rfl, rfl, rfl, by decide +kernel, rfl, by decide +kernel, by decide +kernel⟩
abbrev s_law_copies : Stmt := top 46
theorem sc_law_copies : FnScope ["_law_feed_here", "_law_disk_here", "_law_log", "_law_marks_here", "_law_mark_here", "_law_pair", "_law_choice", "_law_lot", "_law_block"] ["_law_feed_here", "_law_disk_here", "_law_log", "_law_marks_here"] (defScope s_law_copies) := ⟨rfl, rfl, rfl, by decide +kernel, rfl, by decide +kernel, by decide +kernel⟩
abbrev s_law_disk : Stmt := top 47
abbrev N_law_disk : List Str := ["_law_feed_here", "_law_head", "_law_log", "_law_home", "_law_disk_here", "_law_x", "_law_many", "_law_lots", "_law_k", "_law_marks_here", "_law_lot", "_law_used", "_law_slot_here", "_law_place"]
theorem sc_law_disk : FnScope ["_law_feed_here", "_law_head", "_law_log", "_law_home", "_law_disk_here", "_law_x", "_law_many", "_law_lots", "_law_k", "_law_marks_here", "_law_lot", "_law_used", "_law_slot_here", "_law_place"] ["_law_feed_here", "_law_head", "_law_log", "_law_home"] (defScope s_law_disk) := ⟨rfl, rfl, rfl, by decide +kernel, rfl, by decide +kernel, by decide +kernel⟩
abbrev s_law_marks : Stmt := top 48
theorem sc_law_marks : FnScope ["_law_log", "_law_head", "_law_marks_here", "_law_k", "_law_found", "_law_slot_here"] ["_law_log", "_law_head"] (defScope s_law_marks) := ⟨rfl, rfl, rfl, by decide +kernel, rfl, by decide +kernel, by decide +kernel⟩
abbrev s_law_live : Stmt := top 49
theorem sc_law_live : FnScope ["_law_marks_here", "_law_x", "_law_lapse", "_law_live_here", "_law_at", "_law_mark_here", "_law_struck", "_law_later", "_law_pair"] ["_law_marks_here", "_law_x", "_law_lapse"] (defScope s_law_live) := ⟨rfl, rfl, rfl, by decide +kernel, rfl, by decide +kernel, by decide +kernel⟩
abbrev s_law_slots : Stmt := top 50
abbrev N_law_slots : List Str := ["_law_marks_here", "_law_lapse", "_law_slots_here", "_law_mark_here", "_law_x", "_law_live_here"]
theorem sc_law_slots : FnScope ["_law_marks_here", "_law_lapse", "_law_slots_here", "_law_mark_here", "_law_x", "_law_live_here"] ["_law_marks_here", "_law_lapse"] (defScope s_law_slots) := ⟨rfl, rfl, rfl, by decide +kernel, rfl, by decide +kernel, by decide +kernel⟩
abbrev s_law_cells : Stmt := top 51
theorem sc_law_cells : FnScope ["_law_log", "_law_marks_here", "_law_home", "_law_x", "_law_lapse", "_law_live_here", "_law_lot", "_law_slot_here"] ["_law_log", "_law_marks_here", "_law_home", "_law_x", "_law_lapse"] (defScope s_law_cells) := ⟨rfl, rfl, rfl, by decide +kernel, rfl, by decide +kernel, by decide +kernel⟩
abbrev s_law_all_cells : Stmt := top 52
abbrev N_law_all_cells : List Str := ["_law_disk_here", "_law_lapse", "_law_found", "_law_x"]
theorem sc_law_all_cells : FnScope ["_law_disk_here", "_law_lapse", "_law_found", "_law_x"] ["_law_disk_here", "_law_lapse"] (defScope s_law_all_cells) := ⟨rfl, rfl, rfl, by decide +kernel, rfl, by decide +kernel, by decide +kernel⟩
abbrev s_law_other_slots : Stmt := top 53
abbrev N_law_other_slots : List Str := ["_law_disk_here", "_law_log", "_law_head", "_law_home", "_law_lapse", "_law_marks_here", "_law_told", "_law_due", "_law_x", "_law_named", "_law_mark_here", "_law_pair", "_law_slot_here", "_law_lot", "_law_block"]
theorem sc_law_other_slots : FnScope ["_law_disk_here", "_law_log", "_law_head", "_law_home", "_law_lapse", "_law_marks_here", "_law_told", "_law_due", "_law_x", "_law_named", "_law_mark_here", "_law_pair", "_law_slot_here", "_law_lot", "_law_block"] ["_law_disk_here", "_law_log", "_law_head", "_law_home", "_law_lapse"] (defScope s_law_other_slots) := ⟨rfl, rfl, rfl, by decide +kernel, rfl, by decide +kernel, by decide +kernel⟩
abbrev s_law_told_slots : Stmt := top 54
abbrev N_law_told_slots : List Str := ["_law_disk_here", "_law_log", "_law_head", "_law_lapse", "_law_marks_here", "_law_used", "_law_mark_here", "_law_x", "_law_live_here", "_law_lot", "_law_slot_here", "_law_before", "_law_cells_here", "_law_write"]
theorem sc_law_told_slots : FnScope ["_law_disk_here", "_law_log", "_law_head", "_law_lapse", "_law_marks_here", "_law_used", "_law_mark_here", "_law_x", "_law_live_here", "_law_lot", "_law_slot_here", "_law_before", "_law_cells_here", "_law_write"] ["_law_disk_here", "_law_log", "_law_head", "_law_lapse"] (defScope s_law_told_slots) := ⟨rfl, rfl, rfl, by decide +kernel, rfl, by decide +kernel, by decide +kernel⟩
abbrev s_law : Stmt := top 55
abbrev N_law : List Str := ["_law_script", "_law_feed_here", "_law_head", "_law_lapse", "_law_home", "_law_x", "_law_log", "_law_slot_here", "_law_disk_here", "_law_marks_here", "_law_way", "_law_handed", "_law_due"]
theorem sc_law : FnScope ["_law_script", "_law_feed_here", "_law_head", "_law_lapse", "_law_home", "_law_x", "_law_log", "_law_slot_here", "_law_disk_here", "_law_marks_here", "_law_way", "_law_handed", "_law_due"] ["_law_script"] (defScope s_law) := ⟨rfl, rfl, rfl, by decide +kernel, rfl, by decide +kernel, by decide +kernel⟩
abbrev s_Disk_init : Stmt := inClass (top 36) 0
abbrev N_Disk_init : List Str := ["self", "plan", "x"]
theorem sc_Disk_init : FnScope ["self", "plan", "x"] ["self", "plan"] (defScope s_Disk_init) := ⟨rfl, rfl, rfl, by decide +kernel, rfl, by decide +kernel, by decide +kernel⟩
abbrev s_Disk_issue : Stmt := inClass (top 36) 3
theorem sc_Disk_issue : FnScope ["self", "place", "what", "content"] ["self", "place", "what"] (defScope s_Disk_issue) := ⟨rfl, rfl, rfl, by decide +kernel, rfl, by decide +kernel, by decide +kernel⟩
abbrev s_Disk_busy : Stmt := inClass (top 36) 4
abbrev N_Disk_busy : List Str := ["self", "place", "write"]
theorem sc_Disk_busy : FnScope ["self", "place", "write"] ["self", "place"] (defScope s_Disk_busy) := ⟨rfl, rfl, rfl, by decide +kernel, rfl, by decide +kernel, by decide +kernel⟩
abbrev s_Disk_put : Stmt := inClass (top 36) 6
theorem sc_Disk_put : FnScope ["self", "place", "what"] ["self", "place", "what"] (defScope s_Disk_put) := ⟨rfl, rfl, rfl, by decide +kernel, rfl, by decide +kernel, by decide +kernel⟩
abbrev s_Disk_sure : Stmt := inClass (top 36) 7
theorem sc_Disk_sure : FnScope ["self", "number", "place", "what"] ["self", "number"] (defScope s_Disk_sure) := ⟨rfl, rfl, rfl, by decide +kernel, rfl, by decide +kernel, by decide +kernel⟩
abbrev s_Disk_barrier : Stmt := inClass (top 36) 8
theorem sc_Disk_barrier : FnScope ["self", "number"] ["self"] (defScope s_Disk_barrier) := ⟨rfl, rfl, rfl, by decide +kernel, rfl, by decide +kernel, by decide +kernel⟩
abbrev s_Disk_move_head : Stmt := inClass (top 36) 9
theorem sc_Disk_move_head : FnScope ["self", "p"] ["self", "p"] (defScope s_Disk_move_head) := ⟨rfl, rfl, rfl, by decide +kernel, rfl, by decide +kernel, by decide +kernel⟩
abbrev s_Plan_init : Stmt := inClass (top 38) 6
theorem sc_Plan_init : FnScope ["self", "blocks", "nodes", "slots", "maps"] ["self", "blocks", "nodes", "slots"] (defScope s_Plan_init) := ⟨rfl, rfl, rfl, by decide +kernel, rfl, by decide +kernel, by decide +kernel⟩
/-- what the top has left -/
structure Txt (K : PySem.W.Frag) (mg : Str → Option Value) where
  c_Disk : Addr
  C_Disk : Cls K c_Disk
  g_Disk : mg "Disk" = some (.ref c_Disk)
  kp_Disk : PySem.W.keepIn K (.ref c_Disk) = true
  mk_Disk : PySem.W.makesIn K c_Disk = true
  n_Disk_plan : NoAttr K c_Disk "plan"
  n_Disk_home : NoAttr K c_Disk "home"
  n_Disk_log : NoAttr K c_Disk "log"
  n_Disk_head : NoAttr K c_Disk "head"
  n_Disk_last : NoAttr K c_Disk "last"
  n_Disk_writes : NoAttr K c_Disk "_writes"
  c_Plan : Addr
  C_Plan : Cls K c_Plan
  g_Plan : mg "Plan" = some (.ref c_Plan)
  kp_Plan : PySem.W.keepIn K (.ref c_Plan) = true
  mk_Plan : PySem.W.makesIn K c_Plan = true
  n_Plan_blocks : NoAttr K c_Plan "blocks"
  n_Plan_nodes : NoAttr K c_Plan "nodes"
  n_Plan_slots : NoAttr K c_Plan "slots"
  n_Plan_maps : NoAttr K c_Plan "maps"
  n_Plan_first_node : NoAttr K c_Plan "first_node"
  n_Plan_first_data : NoAttr K c_Plan "first_data"
  a_find_mark : Addr
  fd_find_mark : FuncData
  F_find_mark : Fun K "find_mark" "find_mark" s_find_mark a_find_mark fd_find_mark
  b_find_mark : Binds K fd_find_mark ["disk", "lot"] []
  m_find_mark : mg "find_mark" = some (.ref a_find_mark)
  a_found_marks : Addr
  fd_found_marks : FuncData
  F_found_marks : Fun K "found_marks" "found_marks" s_found_marks a_found_marks fd_found_marks
  b_found_marks : Binds K fd_found_marks ["disk"] []
  m_found_marks : mg "found_marks" = some (.ref a_found_marks)
  a_live_copy : Addr
  fd_live_copy : FuncData
  F_live_copy : Fun K "live_copy" "live_copy" s_live_copy a_live_copy fd_live_copy
  b_live_copy : KBn K fd_live_copy ["marks", "x", "lapse"] 2 ["lapse"] (fun us ws => us ++ ws) (fun vs zs => vs ++ zs)
  m_live_copy : mg "live_copy" = some (.ref a_live_copy)
  a_cells_after : Addr
  fd_cells_after : FuncData
  F_cells_after : Fun K "cells_after" "cells_after" s_cells_after a_cells_after fd_cells_after
  b_cells_after : KBn K fd_cells_after ["disk", "marks", "x", "lapse"] 3 ["lapse"] (fun us ws => us ++ ws) (fun vs zs => vs ++ zs)
  m_cells_after : mg "cells_after" = some (.ref a_cells_after)
  a_slots_read : Addr
  fd_slots_read : FuncData
  F_slots_read : Fun K "slots_read" "slots_read" s_slots_read a_slots_read fd_slots_read
  b_slots_read : KBn K fd_slots_read ["disk", "lapse"] 1 ["lapse"] (fun us ws => us ++ ws) (fun vs zs => vs ++ zs)
  m_slots_read : mg "slots_read" = some (.ref a_slots_read)
  a_is_within : Addr
  fd_is_within : FuncData
  F_is_within : Fun K "is_within" "is_within" s_is_within a_is_within fd_is_within
  b_is_within : Binds K fd_is_within ["part", "low", "high"] []
  m_is_within : mg "is_within" = some (.ref a_is_within)
  a_is_row_of_cells : Addr
  fd_is_row_of_cells : FuncData
  F_is_row_of_cells : Fun K "is_row_of_cells" "is_row_of_cells" s_is_row_of_cells a_is_row_of_cells fd_is_row_of_cells
  b_is_row_of_cells : Binds K fd_is_row_of_cells ["part"] []
  m_is_row_of_cells : mg "is_row_of_cells" = some (.ref a_is_row_of_cells)
  a_are_blocks : Addr
  fd_are_blocks : FuncData
  F_are_blocks : Fun K "are_blocks" "are_blocks" s_are_blocks a_are_blocks fd_are_blocks
  b_are_blocks : Binds K fd_are_blocks ["part"] []
  m_are_blocks : mg "are_blocks" = some (.ref a_are_blocks)
  a_are_copies : Addr
  fd_are_copies : FuncData
  F_are_copies : Fun K "are_copies" "are_copies" s_are_copies a_are_copies fd_are_copies
  b_are_copies : Binds K fd_are_copies ["part"] []
  m_are_copies : mg "are_copies" = some (.ref a_are_copies)
  a_check_record : Addr
  fd_check_record : FuncData
  F_check_record : Fun K "check_record" "check_record" s_check_record a_check_record fd_check_record
  b_check_record : Binds K fd_check_record ["record"] []
  m_check_record : mg "check_record" = some (.ref a_check_record)
  a_fits_plan : Addr
  fd_fits_plan : FuncData
  F_fits_plan : Fun K "fits_plan" "fits_plan" s_fits_plan a_fits_plan fd_fits_plan
  b_fits_plan : Binds K fd_fits_plan ["record", "plan"] []
  m_fits_plan : mg "fits_plan" = some (.ref a_fits_plan)
  a_is_place : Addr
  fd_is_place : FuncData
  F_is_place : Fun K "is_place" "is_place" s_is_place a_is_place fd_is_place
  b_is_place : Binds K fd_is_place ["place", "plan"] []
  m_is_place : mg "is_place" = some (.ref a_is_place)
  a_home_content : Addr
  fd_home_content : FuncData
  F_home_content : Fun K "home_content" "home_content" s_home_content a_home_content fd_home_content
  b_home_content : Binds K fd_home_content ["what"] []
  m_home_content : mg "home_content" = some (.ref a_home_content)
  a_log_content : Addr
  fd_log_content : FuncData
  F_log_content : Fun K "log_content" "log_content" s_log_content a_log_content fd_log_content
  b_log_content : Binds K fd_log_content ["what", "plan"] []
  m_log_content : mg "log_content" = some (.ref a_log_content)
  a_law_feed : Addr
  fd_law_feed : FuncData
  F_law_feed : Fun K "_law_feed" "_law_feed" s_law_feed a_law_feed fd_law_feed
  b_law_feed : Binds K fd_law_feed ["_law_script"] []
  m_law_feed : mg "_law_feed" = some (.ref a_law_feed)
  a_law_pick : Addr
  fd_law_pick : FuncData
  F_law_pick : Fun K "_law_pick" "_law_pick" s_law_pick a_law_pick fd_law_pick
  b_law_pick : Binds K fd_law_pick ["_law_feed_here", "_law_limit"] []
  m_law_pick : mg "_law_pick" = some (.ref a_law_pick)
  a_law_same : Addr
  fd_law_same : FuncData
  F_law_same : Fun K "_law_same" "_law_same" s_law_same a_law_same fd_law_same
  b_law_same : Binds K fd_law_same ["_law_actual", "_law_due"] []
  m_law_same : mg "_law_same" = some (.ref a_law_same)
  a_law_slot : Addr
  fd_law_slot : FuncData
  F_law_slot : Fun K "_law_slot" "_law_slot" s_law_slot a_law_slot fd_law_slot
  b_law_slot : Binds K fd_law_slot ["_law_feed_here", "_law_k"] []
  m_law_slot : mg "_law_slot" = some (.ref a_law_slot)
  a_law_mark : Addr
  fd_law_mark : FuncData
  F_law_mark : Fun K "_law_mark" "_law_mark" s_law_mark a_law_mark fd_law_mark
  b_law_mark : Binds K fd_law_mark ["_law_feed_here", "_law_lot"] []
  m_law_mark : mg "_law_mark" = some (.ref a_law_mark)
  a_law_put : Addr
  fd_law_put : FuncData
  F_law_put : Fun K "_law_put" "_law_put" s_law_put a_law_put fd_law_put
  b_law_put : Binds K fd_law_put ["_law_disk_here", "_law_log", "_law_slot_here", "_law_record"] []
  m_law_put : mg "_law_put" = some (.ref a_law_put)
  a_law_copies : Addr
  fd_law_copies : FuncData
  F_law_copies : Fun K "_law_copies" "_law_copies" s_law_copies a_law_copies fd_law_copies
  b_law_copies : Binds K fd_law_copies ["_law_feed_here", "_law_disk_here", "_law_log", "_law_marks_here"] []
  m_law_copies : mg "_law_copies" = some (.ref a_law_copies)
  a_law_disk : Addr
  fd_law_disk : FuncData
  F_law_disk : Fun K "_law_disk" "_law_disk" s_law_disk a_law_disk fd_law_disk
  b_law_disk : Binds K fd_law_disk ["_law_feed_here", "_law_head", "_law_log", "_law_home"] []
  m_law_disk : mg "_law_disk" = some (.ref a_law_disk)
  a_law_marks : Addr
  fd_law_marks : FuncData
  F_law_marks : Fun K "_law_marks" "_law_marks" s_law_marks a_law_marks fd_law_marks
  b_law_marks : Binds K fd_law_marks ["_law_log", "_law_head"] []
  m_law_marks : mg "_law_marks" = some (.ref a_law_marks)
  a_law_live : Addr
  fd_law_live : FuncData
  F_law_live : Fun K "_law_live" "_law_live" s_law_live a_law_live fd_law_live
  b_law_live : Binds K fd_law_live ["_law_marks_here", "_law_x", "_law_lapse"] []
  m_law_live : mg "_law_live" = some (.ref a_law_live)
  a_law_slots : Addr
  fd_law_slots : FuncData
  F_law_slots : Fun K "_law_slots" "_law_slots" s_law_slots a_law_slots fd_law_slots
  b_law_slots : Binds K fd_law_slots ["_law_marks_here", "_law_lapse"] []
  m_law_slots : mg "_law_slots" = some (.ref a_law_slots)
  a_law_cells : Addr
  fd_law_cells : FuncData
  F_law_cells : Fun K "_law_cells" "_law_cells" s_law_cells a_law_cells fd_law_cells
  b_law_cells : Binds K fd_law_cells ["_law_log", "_law_marks_here", "_law_home", "_law_x", "_law_lapse"] []
  m_law_cells : mg "_law_cells" = some (.ref a_law_cells)
  a_law_all_cells : Addr
  fd_law_all_cells : FuncData
  F_law_all_cells : Fun K "_law_all_cells" "_law_all_cells" s_law_all_cells a_law_all_cells fd_law_all_cells
  b_law_all_cells : Binds K fd_law_all_cells ["_law_disk_here", "_law_lapse"] []
  m_law_all_cells : mg "_law_all_cells" = some (.ref a_law_all_cells)
  a_law_other_slots : Addr
  fd_law_other_slots : FuncData
  F_law_other_slots : Fun K "_law_other_slots" "_law_other_slots" s_law_other_slots a_law_other_slots fd_law_other_slots
  b_law_other_slots : Binds K fd_law_other_slots ["_law_disk_here", "_law_log", "_law_head", "_law_home", "_law_lapse"] []
  m_law_other_slots : mg "_law_other_slots" = some (.ref a_law_other_slots)
  a_law_told_slots : Addr
  fd_law_told_slots : FuncData
  F_law_told_slots : Fun K "_law_told_slots" "_law_told_slots" s_law_told_slots a_law_told_slots fd_law_told_slots
  b_law_told_slots : Binds K fd_law_told_slots ["_law_disk_here", "_law_log", "_law_head", "_law_lapse"] []
  m_law_told_slots : mg "_law_told_slots" = some (.ref a_law_told_slots)
  a_law : Addr
  fd_law : FuncData
  F_law : Fun K "law" "law" s_law a_law fd_law
  b_law : Binds K fd_law ["_law_script"] []
  m_law : mg "law" = some (.ref a_law)
  a_Disk_init : Addr
  fd_Disk_init : FuncData
  F_Disk_init : Fun K "__init__" "Disk.__init__" s_Disk_init a_Disk_init fd_Disk_init
  b_Disk_init : Binds K fd_Disk_init ["self", "plan"] []
  m_Disk_init : Mk K c_Disk a_Disk_init
  a_Disk_issue : Addr
  fd_Disk_issue : FuncData
  F_Disk_issue : Fun K "issue" "Disk.issue" s_Disk_issue a_Disk_issue fd_Disk_issue
  b_Disk_issue : Binds K fd_Disk_issue ["self", "place", "what"] []
  m_Disk_issue : Meth K c_Disk "issue" a_Disk_issue
  a_Disk_busy : Addr
  fd_Disk_busy : FuncData
  F_Disk_busy : Fun K "busy" "Disk.busy" s_Disk_busy a_Disk_busy fd_Disk_busy
  b_Disk_busy : Binds K fd_Disk_busy ["self", "place"] []
  m_Disk_busy : Meth K c_Disk "busy" a_Disk_busy
  a_Disk_put : Addr
  fd_Disk_put : FuncData
  F_Disk_put : Fun K "_put" "Disk._put" s_Disk_put a_Disk_put fd_Disk_put
  b_Disk_put : Binds K fd_Disk_put ["self", "place", "what"] []
  m_Disk_put : Meth K c_Disk "_put" a_Disk_put
  a_Disk_sure : Addr
  fd_Disk_sure : FuncData
  F_Disk_sure : Fun K "sure" "Disk.sure" s_Disk_sure a_Disk_sure fd_Disk_sure
  b_Disk_sure : Binds K fd_Disk_sure ["self", "number"] []
  m_Disk_sure : Meth K c_Disk "sure" a_Disk_sure
  a_Disk_barrier : Addr
  fd_Disk_barrier : FuncData
  F_Disk_barrier : Fun K "barrier" "Disk.barrier" s_Disk_barrier a_Disk_barrier fd_Disk_barrier
  b_Disk_barrier : Binds K fd_Disk_barrier ["self"] []
  m_Disk_barrier : Meth K c_Disk "barrier" a_Disk_barrier
  a_Disk_move_head : Addr
  fd_Disk_move_head : FuncData
  F_Disk_move_head : Fun K "move_head" "Disk.move_head" s_Disk_move_head a_Disk_move_head fd_Disk_move_head
  b_Disk_move_head : Binds K fd_Disk_move_head ["self", "p"] []
  m_Disk_move_head : Meth K c_Disk "move_head" a_Disk_move_head
  a_Plan_init : Addr
  fd_Plan_init : FuncData
  F_Plan_init : Fun K "__init__" "Plan.__init__" s_Plan_init a_Plan_init fd_Plan_init
  b_Plan_init : KBn K fd_Plan_init ["self", "blocks", "nodes", "slots"] 2 ["nodes", "slots"] (fun us ws => us ++ ws) (fun vs zs => vs ++ zs)
  m_Plan_init : Mk K c_Plan a_Plan_init
  n_abs : mg "abs" = none
  n_all : mg "all" = none
  n_bool : mg "bool" = none
  n_enumerate : mg "enumerate" = none
  n_int : mg "int" = none
  n_isinstance : mg "isinstance" = none
  n_len : mg "len" = none
  n_list : mg "list" = none
  n_max : mg "max" = none
  n_range : mg "range" = none
  n_set : mg "set" = none
  n_sorted : mg "sorted" = none
  n_str : mg "str" = none
  n_tuple : mg "tuple" = none
  c_NOUGHTS : Addr
  w_NOUGHTS : SqT K (fun _ => none) c_NOUGHTS [(.int 0), (.int 0), (.int 0), (.int 0), (.int 0), (.int 0), (.int 0), (.int 0)]
  g_NOUGHTS : mg "NOUGHTS" = some (.ref c_NOUGHTS)
  t_MOST_CELL : Tok
  g_MOST_CELL : mg "MOST_CELL" = some (.int 999999999 t_MOST_CELL)
  t_MOST_LOT : Tok
  g_MOST_LOT : mg "MOST_LOT" = some (.int 999999 t_MOST_LOT)
  t_LAST_BLOCK : Tok
  g_LAST_BLOCK : mg "LAST_BLOCK" = some (.int 63 t_LAST_BLOCK)
  t_LAST_SLOT : Tok
  g_LAST_SLOT : mg "LAST_SLOT" = some (.int 199 t_LAST_SLOT)
  t_NO_SLOT : Tok
  g_NO_SLOT : mg "NO_SLOT" = some (.int (-1) t_NO_SLOT)
  e_BadValue : Addr
  g_BadValue : mg "BadValue" = some (.ref e_BadValue)
  x_BadValue : PySem.W.excIn K e_BadValue [.type "ValueError", .type "Exception", .type "BaseException", .type "object"] "ValueError.__new__" = true
  k_BadValue : PySem.W.keepIn K (.ref e_BadValue) = true
  sb_BadValue : PySem.W.subIn K (.ref e_BadValue) (.type "BaseException") = some true
  ty_BadValue : PySem.W.typeIn K (.ref e_BadValue) = some (.type "type")
  is_BadValue : ExcC K e_BadValue
  e_NoWrite : Addr
  g_NoWrite : mg "NoWrite" = some (.ref e_NoWrite)
  x_NoWrite : PySem.W.excIn K e_NoWrite [.type "ValueError", .type "Exception", .type "BaseException", .type "object"] "ValueError.__new__" = true
  k_NoWrite : PySem.W.keepIn K (.ref e_NoWrite) = true
  sb_NoWrite : PySem.W.subIn K (.ref e_NoWrite) (.type "BaseException") = some true
  ty_NoWrite : PySem.W.typeIn K (.ref e_NoWrite) = some (.type "type")
  is_NoWrite : ExcC K e_NoWrite
  e_PlaceBusy : Addr
  g_PlaceBusy : mg "PlaceBusy" = some (.ref e_PlaceBusy)
  x_PlaceBusy : PySem.W.excIn K e_PlaceBusy [.type "ValueError", .type "Exception", .type "BaseException", .type "object"] "ValueError.__new__" = true
  k_PlaceBusy : PySem.W.keepIn K (.ref e_PlaceBusy) = true
  sb_PlaceBusy : PySem.W.subIn K (.ref e_PlaceBusy) (.type "BaseException") = some true
  ty_PlaceBusy : PySem.W.typeIn K (.ref e_PlaceBusy) = some (.type "type")
  is_PlaceBusy : ExcC K e_PlaceBusy
-- excs BadValue NoWrite PlaceBusy
-- classes Disk Plan
def cnm : Nat → List Str
  | 0 => ["plan", "home", "log", "head", "last", "_writes"]
  | 1 => ["blocks", "nodes", "slots", "maps", "first_node", "first_data"]
  | _ => []
noncomputable section
variable {P : Program} {w : World} {K : PySem.W.Frag} {mg : Str → Option Value} {base : Heap}
def kct (T : Txt K mg) : Nat → Addr
  | 0 => T.c_Disk
  | 1 => T.c_Plan
  | _ => 0
def ket (T : Txt K mg) : Nat → Addr
  | 0 => T.e_BadValue
  | 1 => T.e_NoWrite
  | 2 => T.e_PlaceBusy
  | _ => 0
abbrev kt (P : Program) (w : World) (T : Txt K mg) : KT := ⟨P, w, kct T, cnm, ket T⟩
abbrev tab_plan : List (Nat × Nat) := [(0, 0)]
theorem fo_plan (T : Txt K mg) : FldOk K (kt P w T) "plan" tab_plan := (.cons T.C_Disk T.n_Disk_plan (show (cnm 0).idxOf? ("plan" : Str) = some 0 by decide +kernel) .nil)
abbrev tab_home : List (Nat × Nat) := [(0, 1)]
theorem fo_home (T : Txt K mg) : FldOk K (kt P w T) "home" tab_home := (.cons T.C_Disk T.n_Disk_home (show (cnm 0).idxOf? ("home" : Str) = some 1 by decide +kernel) .nil)
abbrev tab_log : List (Nat × Nat) := [(0, 2)]
theorem fo_log (T : Txt K mg) : FldOk K (kt P w T) "log" tab_log := (.cons T.C_Disk T.n_Disk_log (show (cnm 0).idxOf? ("log" : Str) = some 2 by decide +kernel) .nil)
abbrev tab_head : List (Nat × Nat) := [(0, 3)]
theorem fo_head (T : Txt K mg) : FldOk K (kt P w T) "head" tab_head := (.cons T.C_Disk T.n_Disk_head (show (cnm 0).idxOf? ("head" : Str) = some 3 by decide +kernel) .nil)
abbrev tab_last : List (Nat × Nat) := [(0, 4)]
theorem fo_last (T : Txt K mg) : FldOk K (kt P w T) "last" tab_last := (.cons T.C_Disk T.n_Disk_last (show (cnm 0).idxOf? ("last" : Str) = some 4 by decide +kernel) .nil)
abbrev tab_writes : List (Nat × Nat) := [(0, 5)]
theorem fo_writes (T : Txt K mg) : FldOk K (kt P w T) "_writes" tab_writes := (.cons T.C_Disk T.n_Disk_writes (show (cnm 0).idxOf? ("_writes" : Str) = some 5 by decide +kernel) .nil)
abbrev tab_blocks : List (Nat × Nat) := [(1, 0)]
theorem fo_blocks (T : Txt K mg) : FldOk K (kt P w T) "blocks" tab_blocks := (.cons T.C_Plan T.n_Plan_blocks (show (cnm 1).idxOf? ("blocks" : Str) = some 0 by decide +kernel) .nil)
abbrev tab_nodes : List (Nat × Nat) := [(1, 1)]
theorem fo_nodes (T : Txt K mg) : FldOk K (kt P w T) "nodes" tab_nodes := (.cons T.C_Plan T.n_Plan_nodes (show (cnm 1).idxOf? ("nodes" : Str) = some 1 by decide +kernel) .nil)
abbrev tab_slots : List (Nat × Nat) := [(1, 2)]
theorem fo_slots (T : Txt K mg) : FldOk K (kt P w T) "slots" tab_slots := (.cons T.C_Plan T.n_Plan_slots (show (cnm 1).idxOf? ("slots" : Str) = some 2 by decide +kernel) .nil)
abbrev tab_maps : List (Nat × Nat) := [(1, 3)]
theorem fo_maps (T : Txt K mg) : FldOk K (kt P w T) "maps" tab_maps := (.cons T.C_Plan T.n_Plan_maps (show (cnm 1).idxOf? ("maps" : Str) = some 3 by decide +kernel) .nil)
abbrev tab_first_node : List (Nat × Nat) := [(1, 4)]
theorem fo_first_node (T : Txt K mg) : FldOk K (kt P w T) "first_node" tab_first_node := (.cons T.C_Plan T.n_Plan_first_node (show (cnm 1).idxOf? ("first_node" : Str) = some 4 by decide +kernel) .nil)
abbrev tab_first_data : List (Nat × Nat) := [(1, 5)]
theorem fo_first_data (T : Txt K mg) : FldOk K (kt P w T) "first_data" tab_first_data := (.cons T.C_Plan T.n_Plan_first_data (show (cnm 1).idxOf? ("first_data" : Str) = some 5 by decide +kernel) .nil)
abbrev md_find_mark : List Bool := [false, false]
def b_find_mark_1 : GS := (sIf (gAnd (gSeq (gSeq (gVar 3) (gC .non)) fNotN) (gAnd (gSeq (gSeq (gSeq (gSeq (gVar 3) (gC (.int 0))) fIxA) (gC (.str "mark"))) fEq) (gSeq (gSeq (gSeq (gSeq (gVar 3) (gC (.int 1))) fIxA) (gVar 1)) fEq))) (sRet (gSeq (gSeq (gVar 2) (gSeq (gVar 3) gNil)) (fNew .tup 2))) sNil)
def g_find_mark : GS := (sSeq (sForEnA (gSeq (gSeq (gVar 0) (fFld tab_log)) gNil) (unpk md_find_mark [2, 3]) b_find_mark_1)
    (sRet (gC .non)))
def G_find_mark : GF := runF md_find_mark 4 g_find_mark
theorem sim_find_mark (T : Txt K mg) : FnOk P w K mg base (L2N.CX P w) 1 T.a_find_mark T.fd_find_mark ["disk", "lot"] (spOf (kcm K (kt P w T)) md_find_mark G_find_mark) :=
  fn_sim T.F_find_mark sc_find_mark rfl (by decide) fun cdv A outer s H E hr =>
  (mss_cons (ms_forEnA (ma_cons (me_fld (me_var (pv 0)) (fo_log T)) ma_nil) (mg_unp (is := [2, 3]) (pg_tup (by rfl) (pgs_cons (pg_name (i := 2) sc_find_mark.nd rfl (Or.inl rfl)) (pgs_cons (pg_name (i := 3) sc_find_mark.nd rfl (Or.inl rfl)) pgs_nil))) (pg_lst (by rfl) (pgs_cons (pg_name (i := 2) sc_find_mark.nd rfl (Or.inl rfl)) (pgs_cons (pg_name (i := 3) sc_find_mark.nd rfl (Or.inl rfl)) pgs_nil))))
    (mss_one (ms_if (mw_pt (mw_and (mt_cmp op_notN fNotN_ok (me_var (pv 3)) (me_c pe_non) (nomark _)) (mw_and (mt_cmp (OpR.or op_eq (op_eqD hr.units)) fEq_ok (me_ixA hr.units (me_var (pv 3)) (me_c pe_int) (fun _ _ => rfl)) (me_c pe_str) (nomark _)) (mw_and1 (mt_cmp (OpR.or op_eq (op_eqD hr.units)) fEq_ok (me_ixA hr.units (me_var (pv 3)) (me_c pe_int) (fun _ _ => rfl)) (me_var (pv 1)) (nomark _)))))) (mss_one (ms_ret (me_tup (ma_cons (me_var (pv 2)) (ma_cons (me_var (pv 3)) ma_nil)) (by show 2 ≤ sizeLine; decide))))
    mss_nil)) rfl T.n_enumerate (passes_of rfl) rfl)
    (mss_one (ms_ret (me_c pe_non))))
abbrev md_found_marks : List Bool := [false]
def w_found_marks_1 : GE := (gSeq (gSeq (gVar 2) (gC .non)) fNotN)
def b_found_marks_1 : GS := (sSeq (sExpr (gSeq (gVar 1) (gSeq chkL (gSeq (gSeq (gSeq (gVar 2) (fMv md_found_marks)) gNil) fApp))))
    (sSet md_found_marks 2 (gSeq (gSeq (gVar 0) (gSeq (gSeq (gSeq (gSeq (gSeq (gSeq (gVar 0) (fFld tab_head)) (gSeq (gSeq (gVar 1) gNil) fLen)) fAdd) (gC (.int 1))) fAdd) gNil)) (gCall [] md_find_mark G_find_mark 2))))
def g_found_marks : GS := (sSeq (sSet md_found_marks 1 (gSeq gNil (fNew .lst 0)))
    (sSeq (sSet md_found_marks 2 (gSeq (gSeq (gVar 0) (gSeq (gSeq (gSeq (gSeq (gVar 0) (fFld tab_head)) (gC (.int 1))) fAdd) gNil)) (gCall [] md_find_mark G_find_mark 2)))
    (sSeq (sWhile w_found_marks_1 b_found_marks_1 1000)
    (sRet (gSeq (gVar 1) (fMv md_found_marks))))))
def G_found_marks : GF := runF md_found_marks 3 g_found_marks
theorem sim_found_marks (T : Txt K mg) : FnOk P w K mg base (L2N.CX P w) 2 T.a_found_marks T.fd_found_marks ["disk"] (spOf (kcm K (kt P w T)) md_found_marks G_found_marks) :=
  fn_sim T.F_found_marks sc_found_marks rfl (by decide) fun cdv A outer s H E hr =>
  (mss_cons (ms_set (i := 1) sc_found_marks.nd rfl (Or.inl rfl) (me_lst ma_nil (by show 0 ≤ sizeLine; decide)))
    (mss_cons (ms_set (i := 2) sc_found_marks.nd rfl (Or.inl rfl) (me_call (is := []) (sim_find_mark T) (hr.mono (by decide)) (takes_of rfl rfl rfl rfl) rfl T.m_find_mark T.F_find_mark.kp T.b_find_mark (ma_cons (me_var (pv 0)) (ma_cons (me_add (me_fld (me_var (pv 0)) (fo_head T)) (me_c pe_int)) ma_nil)) (by decide) (by decide)))
    (mss_cons (ms_while 1000 (mt_cmp op_notN fNotN_ok (me_var (pv 2)) (me_c pe_non) (nomark _))
    (mss_cons (ms_expr (me_bm (me_var (pv 1)) (ma_cons (me_mv (me_var (pv 2))) ma_nil) fApp_ok (fun a b => pe_bm PySem.F.plainAttrs_list PySem.F.slot_list_append PySem.F.type_list_append mt_append a b)))
    (mss_one (ms_set (i := 2) sc_found_marks.nd rfl (Or.inl rfl) (me_call (is := []) (sim_find_mark T) (hr.mono (by decide)) (takes_of rfl rfl rfl rfl) rfl T.m_find_mark T.F_find_mark.kp T.b_find_mark (ma_cons (me_var (pv 0)) (ma_cons (me_add (me_add (me_fld (me_var (pv 0)) (fo_head T)) (me_callB (CallR.or call_len call_lenR) fLen_ok (by rfl) T.n_len (by decide +kernel) (ma_cons (me_var (pv 1)) ma_nil))) (me_c pe_int)) ma_nil)) (by decide) (by decide))))) (passes_of rfl))
    (mss_one (ms_ret (me_mv (me_var (pv 1))))))))
abbrev md_live_copy : List Bool := [false, false, false]
def b_live_copy_1 : GS := (sIf (gSeq (gSeq (gVar 9) (gVar 1)) fEq) (sSet md_live_copy 3 (gSeq (gSeq (gSeq (gVar 6) (fMv md_live_copy)) (gSeq (gVar 10) gNil)) (fNew .tup 2))) sNil)
def b_live_copy_2 : GS := (sSeq (sPar3 md_live_copy 6 7 8 (gSeq (gSeq (gSeq (gVar 5) (gC (.int 1))) fIxA) (gSeq (gSeq (gSeq (gVar 5) (gC (.int 2))) fIxA) (gSeq (gSeq (gSeq (gVar 5) (gC (.int 3))) fIxA) gNil))))
    (sSeq (sIf (gAnd (gVar 2) (gSeq (gSeq (gVar 1) (gVar 8)) fInA)) (sSet md_live_copy 3 (gC .non)) sNil)
    (sSeq (sFor (gVar 7) (unpk md_live_copy [9, 10]) b_live_copy_1)
    (sIf (gAnd (gNot (gVar 2)) (gSeq (gSeq (gVar 1) (gVar 8)) fInA)) (sSet md_live_copy 3 (gC .non)) sNil))))
def g_live_copy : GS := (sSeq (sSet md_live_copy 3 (gC .non))
    (sSeq (sFor (gVar 0) (unpk md_live_copy [4, 5]) b_live_copy_2)
    (sRet (gSeq (gVar 3) (fMv md_live_copy)))))
def G_live_copy : GF := runF md_live_copy 11 g_live_copy
theorem sim_live_copy (T : Txt K mg) : FnOk P w K mg base (L2N.CX P w) 1 T.a_live_copy T.fd_live_copy ["marks", "x", "lapse"] (spOf (kcm K (kt P w T)) md_live_copy G_live_copy) :=
  fn_sim T.F_live_copy sc_live_copy rfl (by decide) fun cdv A outer s H E hr =>
  (mss_cons (ms_set (i := 3) sc_live_copy.nd rfl (Or.inl rfl) (me_c pe_non))
    (mss_cons (ms_for (me_var (pv 0)) (mg_unp (is := [4, 5]) (pg_tup (by rfl) (pgs_cons (pg_name (i := 4) sc_live_copy.nd rfl (Or.inl rfl)) (pgs_cons (pg_name (i := 5) sc_live_copy.nd rfl (Or.inl rfl)) pgs_nil))) (pg_lst (by rfl) (pgs_cons (pg_name (i := 4) sc_live_copy.nd rfl (Or.inl rfl)) (pgs_cons (pg_name (i := 5) sc_live_copy.nd rfl (Or.inl rfl)) pgs_nil))))
    (mss_cons (ms_par3 (ma_cons (me_ixA hr.units (me_var (pv 5)) (me_c pe_int) (fun _ _ => rfl)) (ma_cons (me_ixA hr.units (me_var (pv 5)) (me_c pe_int) (fun _ _ => rfl)) (ma_cons (me_ixA hr.units (me_var (pv 5)) (me_c pe_int) (fun _ _ => rfl)) ma_nil))) (fun a => ps_par3 (i := 6) (j := 7) (l := 8) (by rfl) sc_live_copy.nd rfl rfl rfl (by decide) (by decide) (by decide) rfl rfl rfl a (by rfl)))
    (mss_cons (ms_if (mw_pt (mw_and (mt_val (me_var (pv 2))) (mw_and1 (mt_cmp (op_inA hr.units) fInA_ok (me_var (pv 1)) (me_var (pv 8)) rfl)))) (mss_one (ms_set (i := 3) sc_live_copy.nd rfl (Or.inl rfl) (me_c pe_non)))
    mss_nil)
    (mss_cons (ms_for (me_var (pv 7)) (mg_unp (is := [9, 10]) (pg_tup (by rfl) (pgs_cons (pg_name (i := 9) sc_live_copy.nd rfl (Or.inl rfl)) (pgs_cons (pg_name (i := 10) sc_live_copy.nd rfl (Or.inl rfl)) pgs_nil))) (pg_lst (by rfl) (pgs_cons (pg_name (i := 9) sc_live_copy.nd rfl (Or.inl rfl)) (pgs_cons (pg_name (i := 10) sc_live_copy.nd rfl (Or.inl rfl)) pgs_nil))))
    (mss_one (ms_if (mt_cmp (OpR.or op_eq (op_eqD hr.units)) fEq_ok (me_var (pv 9)) (me_var (pv 1)) (nomark _)) (mss_one (ms_set (i := 3) sc_live_copy.nd rfl (Or.inl rfl) (me_tup (ma_cons (me_mv (me_var (pv 6))) (ma_cons (me_var (pv 10)) ma_nil)) (by show 2 ≤ sizeLine; decide))))
    mss_nil)) (passes_of rfl) rfl)
    (mss_one (ms_if (mw_pt (mw_and (mt_not (mt_val (me_var (pv 2)))) (mw_and1 (mt_cmp (op_inA hr.units) fInA_ok (me_var (pv 1)) (me_var (pv 8)) rfl)))) (mss_one (ms_set (i := 3) sc_live_copy.nd rfl (Or.inl rfl) (me_c pe_non)))
    mss_nil))))) (passes_of rfl) rfl)
    (mss_one (ms_ret (me_mv (me_var (pv 3)))))))
abbrev md_cells_after : List Bool := [false, false, false, false]
def g_cells_after : GS := (sSeq (sSet md_cells_after 4 (gSeq (gSeq (gVar 1) (gSeq (gVar 2) gNil)) (gSeq (gSeq (gVar 3) gNil) (noEx (gCall [] md_live_copy G_live_copy 3)))))
    (sSeq (sIf (gSeq (gSeq (gVar 4) (gC .non)) fIsN) (sRet (gSeq (gSeq (gSeq (gVar 0) (fFld tab_home)) (gVar 2)) fIxA)) sNil)
    (sSeq (sAsg (gVar 4) (unpk md_cells_after [5, 6]))
    (sSeq (sIf (gNot (gChain (gC (.int 0)) (gVar 6) fLe (gSeq (gSeq (gSeq (gVar 0) (fFld tab_log)) gNil) fLen) fLt)) (sRet (gCon (.nd .tup .frz [(.a (.int 0)), (.a (.int 0)), (.a (.int 0)), (.a (.int 0)), (.a (.int 0)), (.a (.int 0)), (.a (.int 0)), (.a (.int 0))]))) sNil)
    (sSeq (sSet md_cells_after 7 (gSeq (gSeq (gSeq (gVar 0) (fFld tab_log)) (gVar 6)) fIxA))
    (sSeq (sIf (gOrB (gSeq (gSeq (gVar 7) (gC .non)) fIsN) (gOrB (gSeq (gSeq (gSeq (gSeq (gVar 7) (gC (.int 0))) fIxA) (gC (.str "copy"))) fNe) (gOrB (gSeq (gSeq (gSeq (gSeq (gVar 7) (gC (.int 1))) fIxA) (gVar 5)) fNe) (gSeq (gSeq (gSeq (gSeq (gVar 7) (gC (.int 2))) fIxA) (gVar 2)) fNe)))) (sRet (gCon (.nd .tup .frz [(.a (.int 0)), (.a (.int 0)), (.a (.int 0)), (.a (.int 0)), (.a (.int 0)), (.a (.int 0)), (.a (.int 0)), (.a (.int 0))]))) sNil)
    (sRet (gSeq (gSeq (gVar 7) (gC (.int 3))) fIxA))))))))
def G_cells_after : GF := runF md_cells_after 8 g_cells_after
theorem sim_cells_after (T : Txt K mg) : FnOk P w K mg base (L2N.CX P w) 2 T.a_cells_after T.fd_cells_after ["disk", "marks", "x", "lapse"] (spOf (kcm K (kt P w T)) md_cells_after G_cells_after) :=
  fn_sim T.F_cells_after sc_cells_after rfl (by decide) fun cdv A outer s H E hr =>
  (mss_cons (ms_set (i := 4) sc_cells_after.nd rfl (Or.inl rfl) (me_callN (is := []) (sim_live_copy T) (hr.mono (by decide)) rfl T.m_live_copy T.F_live_copy.kp T.b_live_copy (ma_cons (me_var (pv 1)) (ma_cons (me_var (pv 2)) ma_nil)) (mk_cons (me_var (pv 3)) mk_nil) rfl (by decide) (by decide)))
    (mss_cons (ms_if (mt_cmp op_isN fIsN_ok (me_var (pv 4)) (me_c pe_non) (nomark _)) (mss_one (ms_ret (me_ixA hr.units (me_fld (me_var (pv 0)) (fo_home T)) (me_var (pv 2)) (fun _ _ => rfl))))
    mss_nil)
    (mss_cons (ms_asg (me_var (pv 4)) (mg_unp (is := [5, 6]) (pg_tup (by rfl) (pgs_cons (pg_name (i := 5) sc_cells_after.nd rfl (Or.inl rfl)) (pgs_cons (pg_name (i := 6) sc_cells_after.nd rfl (Or.inl rfl)) pgs_nil))) (pg_lst (by rfl) (pgs_cons (pg_name (i := 5) sc_cells_after.nd rfl (Or.inl rfl)) (pgs_cons (pg_name (i := 6) sc_cells_after.nd rfl (Or.inl rfl)) pgs_nil)))) (fun a b => ps_asg a b))
    (mss_cons (ms_if (mt_not (mt_chain (me_c pe_int) (me_var (pv 6)) fI_ok0 (me_callB (CallR.or call_len call_lenR) fLen_ok (by rfl) T.n_len (by decide +kernel) (ma_cons (me_fld (me_var (pv 0)) (fo_log T)) ma_nil)) fI_ok0 (fun a b c => pt_chain op_le op_lt a b c))) (mss_one (ms_ret (me_con (pe_glob (v := .ref T.c_NOUGHTS) rfl T.g_NOUGHTS rfl) (con_tup T.w_NOUGHTS (con_cons con_a (con_cons con_a (con_cons con_a (con_cons con_a (con_cons con_a (con_cons con_a (con_cons con_a (con_cons con_a con_nil))))))))))))
    mss_nil)
    (mss_cons (ms_set (i := 7) sc_cells_after.nd rfl (Or.inl rfl) (me_ixA hr.units (me_fld (me_var (pv 0)) (fo_log T)) (me_var (pv 6)) (fun _ _ => rfl)))
    (mss_cons (ms_if (mw_pt (mw_or (mt_cmp op_isN fIsN_ok (me_var (pv 7)) (me_c pe_non) (nomark _)) (mw_or (mt_cmp (OpR.or op_ne (op_neD hr.units)) fNe_ok (me_ixA hr.units (me_var (pv 7)) (me_c pe_int) (fun _ _ => rfl)) (me_c pe_str) (nomark _)) (mw_or (mt_cmp (OpR.or op_ne (op_neD hr.units)) fNe_ok (me_ixA hr.units (me_var (pv 7)) (me_c pe_int) (fun _ _ => rfl)) (me_var (pv 5)) (nomark _)) (mw_or1 (mt_cmp (OpR.or op_ne (op_neD hr.units)) fNe_ok (me_ixA hr.units (me_var (pv 7)) (me_c pe_int) (fun _ _ => rfl)) (me_var (pv 2)) (nomark _))))))) (mss_one (ms_ret (me_con (pe_glob (v := .ref T.c_NOUGHTS) rfl T.g_NOUGHTS rfl) (con_tup T.w_NOUGHTS (con_cons con_a (con_cons con_a (con_cons con_a (con_cons con_a (con_cons con_a (con_cons con_a (con_cons con_a (con_cons con_a con_nil))))))))))))
    mss_nil)
    (mss_one (ms_ret (me_ixA hr.units (me_var (pv 7)) (me_c pe_int) (fun _ _ => rfl))))))))))
abbrev md_slots_read : List Bool := [false, false]
def b_slots_read_1 : GS := (sSeq (sSet md_slots_read 7 (gSeq (gSeq (gVar 2) (gSeq (gVar 6) gNil)) (gSeq (gSeq (gVar 1) gNil) (noEx (gCall [] md_live_copy G_live_copy 3)))))
    (sIf (gAnd (gSeq (gSeq (gVar 7) (gC .non)) fNotN) (gSeq (gSeq (gSeq (gSeq (gVar 7) (gC (.int 1))) fIxA) (gC (.int 0))) fGe)) (sExpr (gSeq (gVar 3) (gSeq chkL (gSeq (gSeq (gSeq (gSeq (gVar 7) (gC (.int 1))) fIxA) gNil) fApp)))) sNil))
def g_slots_read : GS := (sSeq (sSet md_slots_read 2 (gSeq (gSeq (gVar 0) gNil) (gCall [] md_found_marks G_found_marks 1)))
    (sSeq (sSet md_slots_read 3 (gLcT 4 5 (gVar 2)))
    (sSeq (sForR1 (gSeq (gSeq (gSeq (gVar 0) (fFld tab_plan)) (fFld tab_blocks)) gNil) (bind md_slots_read 6) b_slots_read_1)
    (sRet (gSeq (gVar 3) fSrtSetD)))))
def G_slots_read : GF := runF md_slots_read 8 g_slots_read
theorem sim_slots_read (T : Txt K mg) : FnOk P w K mg base (L2N.CX P w) 3 T.a_slots_read T.fd_slots_read ["disk", "lapse"] (spOf (kcm K (kt P w T)) md_slots_read G_slots_read) :=
  fn_sim T.F_slots_read sc_slots_read rfl (by decide) fun cdv A outer s H E hr =>
  (mss_cons (ms_set (i := 2) sc_slots_read.nd rfl (Or.inl rfl) (me_call (is := []) (sim_found_marks T) (hr.mono (by decide)) (takes_of rfl rfl rfl rfl) rfl T.m_found_marks T.F_found_marks.kp T.b_found_marks (ma_cons (me_var (pv 0)) ma_nil) (by decide) (by decide)))
    (mss_cons (ms_lcT (me_var (pv 2)) (blkOk_by (own := [("slot", 4), ("record", 5)]) (N := N_slots_read) (sc := defScope s_slots_read) (by decide +kernel)) (fun _ _ _ _ _ => pg_tup (by rfl) (pgs_cons (pg_name (i := 4) sc_slots_read.nd rfl (Or.inl rfl)) (pgs_cons (pg_name (i := 5) sc_slots_read.nd rfl (Or.inl rfl)) pgs_nil))) (fun _ _ _ _ _ => (pv 4)) (by rfl) sc_slots_read.nd rfl rfl (sw_true rfl rfl rfl (by decide +kernel)))
    (mss_cons (ms_forR1 (ma_cons (me_fld (me_fld (me_var (pv 0)) (fo_plan T)) (fo_blocks T)) ma_nil) (mg_name (i := 6) sc_slots_read.nd rfl (Or.inl rfl))
    (mss_cons (ms_set (i := 7) sc_slots_read.nd rfl (Or.inl rfl) (me_callN (is := []) (sim_live_copy T) (hr.mono (by decide)) rfl T.m_live_copy T.F_live_copy.kp T.b_live_copy (ma_cons (me_var (pv 2)) (ma_cons (me_var (pv 6)) ma_nil)) (mk_cons (me_var (pv 1)) mk_nil) rfl (by decide) (by decide)))
    (mss_one (ms_if (mw_pt (mw_and (mt_cmp op_notN fNotN_ok (me_var (pv 7)) (me_c pe_non) (nomark _)) (mw_and1 (mt_cmp op_ge fI_ok0 (me_ixA hr.units (me_var (pv 7)) (me_c pe_int) (fun _ _ => rfl)) (me_c pe_int) (nomark _))))) (mss_one (ms_expr (me_bm (me_var (pv 3)) (ma_cons (me_ixA hr.units (me_var (pv 7)) (me_c pe_int) (fun _ _ => rfl)) ma_nil) fApp_ok (fun a b => pe_bm PySem.F.plainAttrs_list PySem.F.slot_list_append PySem.F.type_list_append mt_append a b))))
    mss_nil))) rfl T.n_range (passes_of rfl) rfl)
    (mss_one (ms_ret (me_srtSetD (me_var (pv 3)) (by rfl) (by rfl) T.n_sorted (by rfl) T.n_set))))))
abbrev md_is_within : List Bool := [false, false, false]
def g_is_within : GS := (sRet (gAnd (gSeq (gSeq (gVar 0) (gSeq (gC (.ty "int")) gNil)) fIsi) (gAnd (gNot (gSeq (gSeq (gVar 0) (gSeq (gC (.ty "bool")) gNil)) fIsi)) (gChain (gVar 1) (gVar 0) fLe (gVar 2) fLe))))
def G_is_within : GF := runF md_is_within 3 g_is_within
theorem sim_is_within (T : Txt K mg) : FnOk P w K mg base (L2N.CX P w) 1 T.a_is_within T.fd_is_within ["part", "low", "high"] (spOf (kcm K (kt P w T)) md_is_within G_is_within) :=
  fn_sim T.F_is_within sc_is_within rfl (by decide) fun cdv A outer s H E hr =>
  (mss_one (ms_ret (me_and (me_callB (CallR.or call_isi (CallR.or call_isiT call_isiK)) fIsi_ok (by rfl) T.n_isinstance (by decide +kernel) (ma_cons (me_var (pv 0)) (ma_cons (me_c (pe_bltn (v := .ty "int") (u := .type "int") (by rfl) T.n_int (by decide +kernel) rfl)) ma_nil))) (me_and (me_not (me_callB (CallR.or call_isi (CallR.or call_isiT call_isiK)) fIsi_ok (by rfl) T.n_isinstance (by decide +kernel) (ma_cons (me_var (pv 0)) (ma_cons (me_c (pe_bltn (v := .ty "bool") (u := .type "bool") (by rfl) T.n_bool (by decide +kernel) rfl)) ma_nil)))) (me_one (me_chain (me_var (pv 1)) (me_var (pv 0)) fI_ok0 (me_var (pv 2)) fI_ok0 (fun a b c => pe_chain op_le op_le a b c)))))))
abbrev md_is_row_of_cells : List Bool := [false]
def e_is_row_of_cells_1 : GE := (gSeq (gSeq (gVar 1) (gSeq (gC (.int 0)) (gSeq (gC (.int 999999999)) gNil))) (gCall [] md_is_within G_is_within 3))
def g_is_row_of_cells : GS := (sSeq (sIf (gOrB (gNot (gSeq (gSeq (gVar 0) (gSeq (gC (.ty "tuple")) gNil)) fIsi)) (gSeq (gSeq (gSeq (gSeq (gVar 0) gNil) fLen) (gC (.int 8))) fNe)) (sRet (gC (.bl false))) sNil)
    (sRet (gSeq (gSeq (gLc [1] (gVar 0) (bind md_is_row_of_cells 1) (gC (.bl true)) e_is_row_of_cells_1) gNil) fAll)))
def G_is_row_of_cells : GF := runF md_is_row_of_cells 2 g_is_row_of_cells
theorem sim_is_row_of_cells (T : Txt K mg) : FnOk P w K mg base (L2N.CX P w) 2 T.a_is_row_of_cells T.fd_is_row_of_cells ["part"] (spOf (kcm K (kt P w T)) md_is_row_of_cells G_is_row_of_cells) :=
  fn_sim T.F_is_row_of_cells sc_is_row_of_cells rfl (by decide) fun cdv A outer s H E hr =>
  (mss_cons (ms_if (mw_pt (mw_or (mt_not (mt_val (me_callB (CallR.or call_isi (CallR.or call_isiT call_isiK)) fIsi_ok (by rfl) T.n_isinstance (by decide +kernel) (ma_cons (me_var (pv 0)) (ma_cons (me_c (pe_bltn (v := .ty "tuple") (u := .type "tuple") (by rfl) T.n_tuple (by decide +kernel) rfl)) ma_nil))))) (mw_or1 (mt_cmp (OpR.or op_ne (op_neD hr.units)) fNe_ok (me_callB (CallR.or call_len call_lenR) fLen_ok (by rfl) T.n_len (by decide +kernel) (ma_cons (me_var (pv 0)) ma_nil)) (me_c pe_int) (nomark _))))) (mss_one (ms_ret (me_c pe_bl)))
    mss_nil)
    (mss_one (ms_ret (me_callB (cr_all rfl) fAll_ok (by rfl) T.n_all (by decide +kernel) (ma_cons (me_lc0 (me_var (pv 0)) (blkOk_by (own := [("cell", 1)]) (N := N_is_row_of_cells) (sc := defScope s_is_row_of_cells) (by decide +kernel)) (fun _ _ _ _ _ => pg_name (i := 1) sc_is_row_of_cells.nd rfl (Or.inl rfl)) (fun _ _ _ _ _ => (me_call (is := []) (sim_is_within T) (hr.mono (by decide)) takes0 rfl T.m_is_within T.F_is_within.kp T.b_is_within (ma_cons (me_var (pv 1)) (ma_cons (me_c pe_int) (ma_cons (me_c (pe_glob (x := ("MOST_CELL" : Str)) (v := .int 999999999) rfl T.g_MOST_CELL ⟨_, rfl⟩)) ma_nil))) (by decide) (by decide))) rfl sc_is_row_of_cells.nd) ma_nil)))))
abbrev md_are_blocks : List Bool := [false]
def b_are_blocks_1 : GS := (sSeq (sIf (gNot (gSeq (gSeq (gVar 2) (gSeq (gSeq (gSeq (gVar 1) (gC (.int 1))) fAdd) (gSeq (gC (.int 63)) gNil))) (gCall [] md_is_within G_is_within 3))) (sRet (gC (.bl false))) sNil)
    (sSet md_are_blocks 1 (gVar 2)))
def g_are_blocks : GS := (sSeq (sIf (gNot (gSeq (gSeq (gVar 0) (gSeq (gC (.ty "tuple")) gNil)) fIsi)) (sRet (gC (.bl false))) sNil)
    (sSeq (sSet md_are_blocks 1 (gSeq (gC (.int 1)) fNeg))
    (sSeq (sFor (gVar 0) (bind md_are_blocks 2) b_are_blocks_1)
    (sRet (gC (.bl true))))))
def G_are_blocks : GF := runF md_are_blocks 3 g_are_blocks
theorem sim_are_blocks (T : Txt K mg) : FnOk P w K mg base (L2N.CX P w) 2 T.a_are_blocks T.fd_are_blocks ["part"] (spOf (kcm K (kt P w T)) md_are_blocks G_are_blocks) :=
  fn_sim T.F_are_blocks sc_are_blocks rfl (by decide) fun cdv A outer s H E hr =>
  (mss_cons (ms_if (mt_not (mt_val (me_callB (CallR.or call_isi (CallR.or call_isiT call_isiK)) fIsi_ok (by rfl) T.n_isinstance (by decide +kernel) (ma_cons (me_var (pv 0)) (ma_cons (me_c (pe_bltn (v := .ty "tuple") (u := .type "tuple") (by rfl) T.n_tuple (by decide +kernel) rfl)) ma_nil))))) (mss_one (ms_ret (me_c pe_bl)))
    mss_nil)
    (mss_cons (ms_set (i := 1) sc_are_blocks.nd rfl (Or.inl rfl) (me_neg (me_c pe_int)))
    (mss_cons (ms_for (me_var (pv 0)) (mg_name (i := 2) sc_are_blocks.nd rfl (Or.inl rfl))
    (mss_cons (ms_if (mt_not (mt_val (me_call (is := []) (sim_is_within T) (hr.mono (by decide)) (takes_of rfl rfl rfl rfl) rfl T.m_is_within T.F_is_within.kp T.b_is_within (ma_cons (me_var (pv 2)) (ma_cons (me_add (me_var (pv 1)) (me_c pe_int)) (ma_cons (me_c (pe_glob (x := ("LAST_BLOCK" : Str)) (v := .int 63) rfl T.g_LAST_BLOCK ⟨_, rfl⟩)) ma_nil))) (by decide) (by decide)))) (mss_one (ms_ret (me_c pe_bl)))
    mss_nil)
    (mss_one (ms_set (i := 1) sc_are_blocks.nd rfl (Or.inl rfl) (me_var (pv 2))))) (passes_of rfl) rfl)
    (mss_one (ms_ret (me_c pe_bl))))))
abbrev md_are_copies : List Bool := [false]
def b_are_copies_1 : GS := (sIf (gOrB (gNot (gSeq (gSeq (gVar 1) (gSeq (gC (.ty "tuple")) gNil)) fIsi)) (gOrB (gSeq (gSeq (gSeq (gSeq (gVar 1) gNil) fLen) (gC (.int 2))) fNe) (gNot (gSeq (gSeq (gSeq (gSeq (gVar 1) (gC (.int 1))) fIxA) (gSeq (gC (.int (-1))) (gSeq (gC (.int 199)) gNil))) (gCall [] md_is_within G_is_within 3))))) (sRet (gC (.bl false))) sNil)
def e_are_copies_1 : GE := (gSeq (gSeq (gVar 1) (gC (.int 0))) fIxA)
def g_are_copies : GS := (sSeq (sIf (gNot (gSeq (gSeq (gVar 0) (gSeq (gC (.ty "tuple")) gNil)) fIsi)) (sRet (gC (.bl false))) sNil)
    (sSeq (sFor (gVar 0) (bind md_are_copies 1) b_are_copies_1)
    (sRet (gSeq (gSeq (gSeq (gSeq (gClr 1 (gLc [1] (gVar 0) (bind md_are_copies 1) (gC (.bl true)) e_are_copies_1)) gNil) fTup) gNil) (gCall [] md_are_blocks G_are_blocks 1)))))
def G_are_copies : GF := runF md_are_copies 2 g_are_copies
theorem sim_are_copies (T : Txt K mg) : FnOk P w K mg base (L2N.CX P w) 3 T.a_are_copies T.fd_are_copies ["part"] (spOf (kcm K (kt P w T)) md_are_copies G_are_copies) :=
  fn_sim T.F_are_copies sc_are_copies rfl (by decide) fun cdv A outer s H E hr =>
  (mss_cons (ms_if (mt_not (mt_val (me_callB (CallR.or call_isi (CallR.or call_isiT call_isiK)) fIsi_ok (by rfl) T.n_isinstance (by decide +kernel) (ma_cons (me_var (pv 0)) (ma_cons (me_c (pe_bltn (v := .ty "tuple") (u := .type "tuple") (by rfl) T.n_tuple (by decide +kernel) rfl)) ma_nil))))) (mss_one (ms_ret (me_c pe_bl)))
    mss_nil)
    (mss_cons (ms_for (me_var (pv 0)) (mg_name (i := 1) sc_are_copies.nd rfl (Or.inl rfl))
    (mss_one (ms_if (mw_pt (mw_or (mt_not (mt_val (me_callB (CallR.or call_isi (CallR.or call_isiT call_isiK)) fIsi_ok (by rfl) T.n_isinstance (by decide +kernel) (ma_cons (me_var (pv 1)) (ma_cons (me_c (pe_bltn (v := .ty "tuple") (u := .type "tuple") (by rfl) T.n_tuple (by decide +kernel) rfl)) ma_nil))))) (mw_or (mt_cmp (OpR.or op_ne (op_neD hr.units)) fNe_ok (me_callB (CallR.or call_len call_lenR) fLen_ok (by rfl) T.n_len (by decide +kernel) (ma_cons (me_var (pv 1)) ma_nil)) (me_c pe_int) (nomark _)) (mw_or1 (mt_not (mt_val (me_call (is := []) (sim_is_within T) (hr.mono (by decide)) (takes_of rfl rfl rfl rfl) rfl T.m_is_within T.F_is_within.kp T.b_is_within (ma_cons (me_ixA hr.units (me_var (pv 1)) (me_c pe_int) (fun _ _ => rfl)) (ma_cons (me_c (pe_glob (x := ("NO_SLOT" : Str)) (v := .int (-1)) rfl T.g_NO_SLOT ⟨_, rfl⟩)) (ma_cons (me_c (pe_glob (x := ("LAST_SLOT" : Str)) (v := .int 199) rfl T.g_LAST_SLOT ⟨_, rfl⟩)) ma_nil))) (by decide) (by decide)))))))) (mss_one (ms_ret (me_c pe_bl)))
    mss_nil)) (passes_of rfl) rfl)
    (mss_one (ms_ret (me_call (is := []) (sim_are_blocks T) (hr.mono (by decide)) (takes_of rfl rfl rfl rfl) rfl T.m_are_blocks T.F_are_blocks.kp T.b_are_blocks (ma_cons (me_callTy call_tuple_of fTup_ok (by rfl) T.n_tuple (by decide +kernel) (ma_cons (me_clr (i := 1) (me_lc0 (me_var (pv 0)) (blkOk_by (own := [("pair", 1)]) (N := N_are_copies) (sc := defScope s_are_copies) (by decide +kernel)) (fun _ _ _ _ _ => pg_name (i := 1) sc_are_copies.nd rfl (Or.inl rfl)) (fun _ _ _ _ _ => (me_ixA hr.units (me_var (pv 1)) (me_c pe_int) (fun _ _ => rfl))) rfl sc_are_copies.nd)) ma_nil)) ma_nil) (by decide) (by decide))))))
abbrev md_check_record : List Bool := [false]
def g_check_record : GS := (sSeq (sIf (gOrB (gNot (gSeq (gSeq (gVar 0) (gSeq (gC (.ty "tuple")) gNil)) fIsi)) (gOrB (gSeq (gSeq (gSeq (gSeq (gVar 0) gNil) fLen) (gC (.int 4))) fNe) (gNot (gSeq (gSeq (gSeq (gSeq (gVar 0) (gC (.int 1))) fIxA) (gSeq (gC (.int 1)) (gSeq (gC (.int 999999)) gNil))) (gCall [] md_is_within G_is_within 3))))) (sRaise 0) sNil)
    (sSeq (sSet md_check_record 1 (gC (.bl false)))
    (sSeq (sIf (gSeq (gSeq (gSeq (gSeq (gVar 0) (gC (.int 0))) fIxA) (gC (.str "copy"))) fEq) (sSet md_check_record 1 (gAnd (gSeq (gSeq (gSeq (gSeq (gVar 0) (gC (.int 2))) fIxA) (gSeq (gC (.int 0)) (gSeq (gC (.int 63)) gNil))) (gCall [] md_is_within G_is_within 3)) (gSeq (gSeq (gSeq (gSeq (gVar 0) (gC (.int 3))) fIxA) gNil) (gCall [] md_is_row_of_cells G_is_row_of_cells 1)))) (sIf (gSeq (gSeq (gSeq (gSeq (gVar 0) (gC (.int 0))) fIxA) (gC (.str "mark"))) fEq) (sSet md_check_record 1 (gAnd (gSeq (gSeq (gSeq (gSeq (gVar 0) (gC (.int 2))) fIxA) gNil) (gCall [] md_are_copies G_are_copies 1)) (gSeq (gSeq (gSeq (gSeq (gVar 0) (gC (.int 3))) fIxA) gNil) (gCall [] md_are_blocks G_are_blocks 1)))) sNil))
    (sIf (gNot (gVar 1)) (sRaise 0) sNil))))
def G_check_record : GF := runF md_check_record 2 g_check_record
theorem sim_check_record (T : Txt K mg) : FnOk P w K mg base (L2N.CX P w) 4 T.a_check_record T.fd_check_record ["record"] (spOf (kcm K (kt P w T)) md_check_record G_check_record) :=
  fn_sim T.F_check_record sc_check_record rfl (by decide) fun cdv A outer s H E hr =>
  (mss_cons (ms_if (mw_pt (mw_or (mt_not (mt_val (me_callB (CallR.or call_isi (CallR.or call_isiT call_isiK)) fIsi_ok (by rfl) T.n_isinstance (by decide +kernel) (ma_cons (me_var (pv 0)) (ma_cons (me_c (pe_bltn (v := .ty "tuple") (u := .type "tuple") (by rfl) T.n_tuple (by decide +kernel) rfl)) ma_nil))))) (mw_or (mt_cmp (OpR.or op_ne (op_neD hr.units)) fNe_ok (me_callB (CallR.or call_len call_lenR) fLen_ok (by rfl) T.n_len (by decide +kernel) (ma_cons (me_var (pv 0)) ma_nil)) (me_c pe_int) (nomark _)) (mw_or1 (mt_not (mt_val (me_call (is := []) (sim_is_within T) (hr.mono (by decide)) (takes_of rfl rfl rfl rfl) rfl T.m_is_within T.F_is_within.kp T.b_is_within (ma_cons (me_ixA hr.units (me_var (pv 0)) (me_c pe_int) (fun _ _ => rfl)) (ma_cons (me_c pe_int) (ma_cons (me_c (pe_glob (x := ("MOST_LOT" : Str)) (v := .int 999999) rfl T.g_MOST_LOT ⟨_, rfl⟩)) ma_nil))) (by decide) (by decide)))))))) (mss_one (ms_raise (n := 0) rfl (takes_of rfl rfl rfl rfl) (pmk_own PySem.F.excBase_ValueError T.x_BadValue T.g_BadValue T.k_BadValue (raises_own T.sb_BadValue T.ty_BadValue) rfl)))
    mss_nil)
    (mss_cons (ms_set (i := 1) sc_check_record.nd rfl (Or.inl rfl) (me_c pe_bl))
    (mss_cons (ms_if (mt_cmp (OpR.or op_eq (op_eqD hr.units)) fEq_ok (me_ixA hr.units (me_var (pv 0)) (me_c pe_int) (fun _ _ => rfl)) (me_c pe_str) (nomark _)) (mss_one (ms_set (i := 1) sc_check_record.nd rfl (Or.inl rfl) (me_and (me_call (is := []) (sim_is_within T) (hr.mono (by decide)) (takes_of rfl rfl rfl rfl) rfl T.m_is_within T.F_is_within.kp T.b_is_within (ma_cons (me_ixA hr.units (me_var (pv 0)) (me_c pe_int) (fun _ _ => rfl)) (ma_cons (me_c pe_int) (ma_cons (me_c (pe_glob (x := ("LAST_BLOCK" : Str)) (v := .int 63) rfl T.g_LAST_BLOCK ⟨_, rfl⟩)) ma_nil))) (by decide) (by decide)) (me_one (me_call (is := []) (sim_is_row_of_cells T) (hr.mono (by decide)) (takes_of rfl rfl rfl rfl) rfl T.m_is_row_of_cells T.F_is_row_of_cells.kp T.b_is_row_of_cells (ma_cons (me_ixA hr.units (me_var (pv 0)) (me_c pe_int) (fun _ _ => rfl)) ma_nil) (by decide) (by decide))))))
    (mss_one (ms_if (mt_cmp (OpR.or op_eq (op_eqD hr.units)) fEq_ok (me_ixA hr.units (me_var (pv 0)) (me_c pe_int) (fun _ _ => rfl)) (me_c pe_str) (nomark _)) (mss_one (ms_set (i := 1) sc_check_record.nd rfl (Or.inl rfl) (me_and (me_call (is := []) (sim_are_copies T) (hr.mono (by decide)) (takes_of rfl rfl rfl rfl) rfl T.m_are_copies T.F_are_copies.kp T.b_are_copies (ma_cons (me_ixA hr.units (me_var (pv 0)) (me_c pe_int) (fun _ _ => rfl)) ma_nil) (by decide) (by decide)) (me_one (me_call (is := []) (sim_are_blocks T) (hr.mono (by decide)) (takes_of rfl rfl rfl rfl) rfl T.m_are_blocks T.F_are_blocks.kp T.b_are_blocks (ma_cons (me_ixA hr.units (me_var (pv 0)) (me_c pe_int) (fun _ _ => rfl)) ma_nil) (by decide) (by decide))))))
    mss_nil)))
    (mss_one (ms_if (mt_not (mt_val (me_var (pv 1)))) (mss_one (ms_raise (n := 0) rfl (takes_of rfl rfl rfl rfl) (pmk_own PySem.F.excBase_ValueError T.x_BadValue T.g_BadValue T.k_BadValue (raises_own T.sb_BadValue T.ty_BadValue) rfl)))
    mss_nil)))))
abbrev md_fits_plan : List Bool := [false, false]
def b_fits_plan_1 : GS := (sIf (gOrB (gSeq (gSeq (gVar 2) (gSeq (gVar 1) (fFld tab_blocks))) fGe) (gSeq (gSeq (gVar 3) (gSeq (gVar 1) (fFld tab_slots))) fGe)) (sRet (gC (.bl false))) sNil)
def e_fits_plan_1 : GE := (gSeq (gSeq (gVar 2) (gSeq (gVar 1) (fFld tab_blocks))) fLt)
def g_fits_plan : GS := (sSeq (sIf (gSeq (gSeq (gSeq (gSeq (gVar 0) (gC (.int 0))) fIxA) (gC (.str "copy"))) fEq) (sRet (gSeq (gSeq (gSeq (gSeq (gVar 0) (gC (.int 2))) fIxA) (gSeq (gVar 1) (fFld tab_blocks))) fLt)) sNil)
    (sSeq (sFor (gSeq (gSeq (gVar 0) (gC (.int 2))) fIxA) (unpk md_fits_plan [2, 3]) b_fits_plan_1)
    (sRet (gSeq (gSeq (gClr 2 (gLc [2] (gSeq (gSeq (gVar 0) (gC (.int 3))) fIxA) (bind md_fits_plan 2) (gC (.bl true)) e_fits_plan_1)) gNil) fAll))))
def G_fits_plan : GF := runF md_fits_plan 4 g_fits_plan
theorem sim_fits_plan (T : Txt K mg) : FnOk P w K mg base (L2N.CX P w) 1 T.a_fits_plan T.fd_fits_plan ["record", "plan"] (spOf (kcm K (kt P w T)) md_fits_plan G_fits_plan) :=
  fn_sim T.F_fits_plan sc_fits_plan rfl (by decide) fun cdv A outer s H E hr =>
  (mss_cons (ms_if (mt_cmp (OpR.or op_eq (op_eqD hr.units)) fEq_ok (me_ixA hr.units (me_var (pv 0)) (me_c pe_int) (fun _ _ => rfl)) (me_c pe_str) (nomark _)) (mss_one (ms_ret (me_cmp op_lt fI_ok0 (me_ixA hr.units (me_var (pv 0)) (me_c pe_int) (fun _ _ => rfl)) (me_fld (me_var (pv 1)) (fo_blocks T)) (nomark _))))
    mss_nil)
    (mss_cons (ms_for (me_ixA hr.units (me_var (pv 0)) (me_c pe_int) (fun _ _ => rfl)) (mg_unp (is := [2, 3]) (pg_tup (by rfl) (pgs_cons (pg_name (i := 2) sc_fits_plan.nd rfl (Or.inl rfl)) (pgs_cons (pg_name (i := 3) sc_fits_plan.nd rfl (Or.inl rfl)) pgs_nil))) (pg_lst (by rfl) (pgs_cons (pg_name (i := 2) sc_fits_plan.nd rfl (Or.inl rfl)) (pgs_cons (pg_name (i := 3) sc_fits_plan.nd rfl (Or.inl rfl)) pgs_nil))))
    (mss_one (ms_if (mw_pt (mw_or (mt_cmp op_ge fI_ok0 (me_var (pv 2)) (me_fld (me_var (pv 1)) (fo_blocks T)) (nomark _)) (mw_or1 (mt_cmp op_ge fI_ok0 (me_var (pv 3)) (me_fld (me_var (pv 1)) (fo_slots T)) (nomark _))))) (mss_one (ms_ret (me_c pe_bl)))
    mss_nil)) (passes_of rfl) rfl)
    (mss_one (ms_ret (me_callB (cr_all rfl) fAll_ok (by rfl) T.n_all (by decide +kernel) (ma_cons (me_clr (i := 2) (me_lc0 (me_ixA hr.units (me_var (pv 0)) (me_c pe_int) (fun _ _ => rfl)) (blkOk_by (own := [("block", 2)]) (N := N_fits_plan) (sc := defScope s_fits_plan) (by decide +kernel)) (fun _ _ _ _ _ => pg_name (i := 2) sc_fits_plan.nd rfl (Or.inl rfl)) (fun _ _ _ _ _ => (me_cmp op_lt fI_ok0 (me_var (pv 2)) (me_fld (me_var (pv 1)) (fo_blocks T)) (nomark _))) rfl sc_fits_plan.nd)) ma_nil))))))
abbrev md_is_place : List Bool := [false, false]
def g_is_place : GS := (sSeq (sIf (gOrB (gNot (gSeq (gSeq (gVar 0) (gSeq (gC (.ty "tuple")) gNil)) fIsi)) (gSeq (gSeq (gSeq (gSeq (gVar 0) gNil) fLen) (gC (.int 2))) fNe)) (sRet (gC (.bl false))) sNil)
    (sSeq (sIf (gSeq (gSeq (gSeq (gSeq (gVar 0) (gC (.int 0))) fIxA) (gC (.str "home"))) fEq) (sRet (gSeq (gSeq (gSeq (gSeq (gVar 0) (gC (.int 1))) fIxA) (gSeq (gC (.int 0)) (gSeq (gSeq (gSeq (gSeq (gVar 1) (fFld tab_blocks)) (gC (.int 1))) fSub) gNil))) (gCall [] md_is_within G_is_within 3))) sNil)
    (sRet (gAnd (gSeq (gSeq (gSeq (gSeq (gVar 0) (gC (.int 0))) fIxA) (gC (.str "log"))) fEq) (gSeq (gSeq (gSeq (gSeq (gVar 0) (gC (.int 1))) fIxA) (gSeq (gC (.int 0)) (gSeq (gSeq (gSeq (gSeq (gVar 1) (fFld tab_slots)) (gC (.int 1))) fSub) gNil))) (gCall [] md_is_within G_is_within 3))))))
def G_is_place : GF := runF md_is_place 2 g_is_place
theorem sim_is_place (T : Txt K mg) : FnOk P w K mg base (L2N.CX P w) 2 T.a_is_place T.fd_is_place ["place", "plan"] (spOf (kcm K (kt P w T)) md_is_place G_is_place) :=
  fn_sim T.F_is_place sc_is_place rfl (by decide) fun cdv A outer s H E hr =>
  (mss_cons (ms_if (mw_pt (mw_or (mt_not (mt_val (me_callB (CallR.or call_isi (CallR.or call_isiT call_isiK)) fIsi_ok (by rfl) T.n_isinstance (by decide +kernel) (ma_cons (me_var (pv 0)) (ma_cons (me_c (pe_bltn (v := .ty "tuple") (u := .type "tuple") (by rfl) T.n_tuple (by decide +kernel) rfl)) ma_nil))))) (mw_or1 (mt_cmp (OpR.or op_ne (op_neD hr.units)) fNe_ok (me_callB (CallR.or call_len call_lenR) fLen_ok (by rfl) T.n_len (by decide +kernel) (ma_cons (me_var (pv 0)) ma_nil)) (me_c pe_int) (nomark _))))) (mss_one (ms_ret (me_c pe_bl)))
    mss_nil)
    (mss_cons (ms_if (mt_cmp (OpR.or op_eq (op_eqD hr.units)) fEq_ok (me_ixA hr.units (me_var (pv 0)) (me_c pe_int) (fun _ _ => rfl)) (me_c pe_str) (nomark _)) (mss_one (ms_ret (me_call (is := []) (sim_is_within T) (hr.mono (by decide)) (takes_of rfl rfl rfl rfl) rfl T.m_is_within T.F_is_within.kp T.b_is_within (ma_cons (me_ixA hr.units (me_var (pv 0)) (me_c pe_int) (fun _ _ => rfl)) (ma_cons (me_c pe_int) (ma_cons (me_sub (me_fld (me_var (pv 1)) (fo_blocks T)) (me_c pe_int)) ma_nil))) (by decide) (by decide))))
    mss_nil)
    (mss_one (ms_ret (me_and (me_cmp (OpR.or op_eq (op_eqD hr.units)) fEq_ok (me_ixA hr.units (me_var (pv 0)) (me_c pe_int) (fun _ _ => rfl)) (me_c pe_str) (nomark _)) (me_one (me_call (is := []) (sim_is_within T) (hr.mono (by decide)) (takes_of rfl rfl rfl rfl) rfl T.m_is_within T.F_is_within.kp T.b_is_within (ma_cons (me_ixA hr.units (me_var (pv 0)) (me_c pe_int) (fun _ _ => rfl)) (ma_cons (me_c pe_int) (ma_cons (me_sub (me_fld (me_var (pv 1)) (fo_slots T)) (me_c pe_int)) ma_nil))) (by decide) (by decide))))))))
abbrev md_home_content : List Bool := [false]
def g_home_content : GS := (sSeq (sIf (gOrB (gNot (gSeq (gSeq (gVar 0) (gSeq (gSeq (gSeq (gC (.ty "list")) (gSeq (gC (.ty "tuple")) gNil)) (fNew .tup 2)) gNil)) fIsi)) (gNot (gSeq (gSeq (gSeq (gSeq (gVar 0) gNil) fTup) gNil) (gCall [] md_is_row_of_cells G_is_row_of_cells 1)))) (sRaise 0) sNil)
    (sRet (gSeq (gSeq (gVar 0) gNil) fTup)))
def G_home_content : GF := runF md_home_content 1 g_home_content
theorem sim_home_content (T : Txt K mg) : FnOk P w K mg base (L2N.CX P w) 3 T.a_home_content T.fd_home_content ["what"] (spOf (kcm K (kt P w T)) md_home_content G_home_content) :=
  fn_sim T.F_home_content sc_home_content rfl (by decide) fun cdv A outer s H E hr =>
  (mss_cons (ms_if (mw_pt (mw_or (mt_not (mt_val (me_callB (CallR.or call_isi (CallR.or call_isiT call_isiK)) fIsi_ok (by rfl) T.n_isinstance (by decide +kernel) (ma_cons (me_var (pv 0)) (ma_cons (me_tup (ma_cons (me_c (pe_bltn (v := .ty "list") (u := .type "list") (by rfl) T.n_list (by decide +kernel) rfl)) (ma_cons (me_c (pe_bltn (v := .ty "tuple") (u := .type "tuple") (by rfl) T.n_tuple (by decide +kernel) rfl)) ma_nil)) (by show 2 ≤ sizeLine; decide)) ma_nil))))) (mw_or1 (mt_not (mt_val (me_call (is := []) (sim_is_row_of_cells T) (hr.mono (by decide)) (takes_of rfl rfl rfl rfl) rfl T.m_is_row_of_cells T.F_is_row_of_cells.kp T.b_is_row_of_cells (ma_cons (me_callTy call_tuple_of fTup_ok (by rfl) T.n_tuple (by decide +kernel) (ma_cons (me_var (pv 0)) ma_nil)) ma_nil) (by decide) (by decide))))))) (mss_one (ms_raise (n := 0) rfl (takes_of rfl rfl rfl rfl) (pmk_own PySem.F.excBase_ValueError T.x_BadValue T.g_BadValue T.k_BadValue (raises_own T.sb_BadValue T.ty_BadValue) rfl)))
    mss_nil)
    (mss_one (ms_ret (me_callTy call_tuple_of fTup_ok (by rfl) T.n_tuple (by decide +kernel) (ma_cons (me_var (pv 0)) ma_nil)))))
abbrev md_log_content : List Bool := [false, false]
def g_log_content : GS := (sSeq (sExpr (gSeq (gSeq (gVar 0) gNil) (gCall [] md_check_record G_check_record 1)))
    (sSeq (sIf (gNot (gSeq (gSeq (gVar 0) (gSeq (gVar 1) gNil)) (gCall [] md_fits_plan G_fits_plan 2))) (sRaise 0) sNil)
    (sRet (gVar 0))))
def G_log_content : GF := runF md_log_content 2 g_log_content
theorem sim_log_content (T : Txt K mg) : FnOk P w K mg base (L2N.CX P w) 5 T.a_log_content T.fd_log_content ["what", "plan"] (spOf (kcm K (kt P w T)) md_log_content G_log_content) :=
  fn_sim T.F_log_content sc_log_content rfl (by decide) fun cdv A outer s H E hr =>
  (mss_cons (ms_expr (me_call (is := []) (sim_check_record T) (hr.mono (by decide)) (takes_of rfl rfl rfl rfl) rfl T.m_check_record T.F_check_record.kp T.b_check_record (ma_cons (me_var (pv 0)) ma_nil) (by decide) (by decide)))
    (mss_cons (ms_if (mt_not (mt_val (me_call (is := []) (sim_fits_plan T) (hr.mono (by decide)) (takes_of rfl rfl rfl rfl) rfl T.m_fits_plan T.F_fits_plan.kp T.b_fits_plan (ma_cons (me_var (pv 0)) (ma_cons (me_var (pv 1)) ma_nil)) (by decide) (by decide)))) (mss_one (ms_raise (n := 0) rfl (takes_of rfl rfl rfl rfl) (pmk_own PySem.F.excBase_ValueError T.x_BadValue T.g_BadValue T.k_BadValue (raises_own T.sb_BadValue T.ty_BadValue) rfl)))
    mss_nil)
    (mss_one (ms_ret (me_var (pv 0))))))
abbrev md_law_pick : List Bool := [true, false]
def g_law_pick : GS := (sSeq (sIf (gSeq (gSeq (gSeq (gSeq (gVar 0) gNil) fLen) (gC (.int 0))) fEq) (sRet (gC (.int 0))) sNil)
    (sRet (gSeq (gSeq (gSeq (gSeq (gSeq (gVar 0) (gSeq chkL (gSeq (gSeq (gC (.int 0)) gNil) fPopA))) gNil) fInt) (gVar 1)) fMod)))
def G_law_pick : GF := runF md_law_pick 2 g_law_pick
theorem sim_law_pick (T : Txt K mg) : FnOk P w K mg base (L2N.CX P w) 1 T.a_law_pick T.fd_law_pick ["_law_feed_here", "_law_limit"] (spOf (kcm K (kt P w T)) md_law_pick G_law_pick) :=
  fn_sim T.F_law_pick sc_law_pick rfl (by decide) fun cdv A outer s H E hr =>
  (mss_cons (ms_if (mt_cmp (OpR.or op_eq (op_eqD hr.units)) fEq_ok (me_callB (CallR.or call_len call_lenR) fLen_ok (by rfl) T.n_len (by decide +kernel) (ma_cons (me_var (pv 0)) ma_nil)) (me_c pe_int) (nomark _)) (mss_one (ms_ret (me_c pe_int)))
    mss_nil)
    (mss_one (ms_ret (me_mod (me_callTy call_int1 fInt_ok (by rfl) T.n_int (by decide +kernel) (ma_cons (me_bm (me_var (pv 0)) (ma_cons (me_c pe_int) ma_nil) fPopA_ok (fun a b => pe_bm PySem.F.plainAttrs_list PySem.F.slot_list_pop PySem.F.type_list_pop mt_popAt a b)) ma_nil)) (me_var (pv 1))))))
abbrev md_law_same : List Bool := [false, false]
def b_law_same_1 (R : GF) : GS := (sIf (gNot (gSeq (gSeq (gSeq (gSeq (gVar 0) (gVar 2)) fIxA) (gSeq (gSeq (gSeq (gVar 1) (gVar 2)) fIxA) gNil)) (gCall [] md_law_same R 2))) (sRet (gC (.bl false))) sNil)
def g_law_same (R : GF) : GS := (sSeq (sIf (gOrB (gSeq (gSeq (gVar 1) (gC .non)) fIsN) (gOrB (gSeq (gSeq (gVar 1) (gC (.bl true))) fIsBV) (gSeq (gSeq (gVar 1) (gC (.bl false))) fIsBV))) (sRet (gOrB (gAnd (gSeq (gSeq (gVar 0) (gC .non)) fIsN) (gSeq (gSeq (gVar 1) (gC .non)) fIsN)) (gOrB (gAnd (gSeq (gSeq (gVar 0) (gC (.bl true))) fIsBV) (gSeq (gSeq (gVar 1) (gC (.bl true))) fIsBV)) (gAnd (gSeq (gSeq (gVar 0) (gC (.bl false))) fIsBV) (gSeq (gSeq (gVar 1) (gC (.bl false))) fIsBV))))) sNil)
    (sSeq (sIf (gSeq (gSeq (gVar 1) (gSeq (gC (.ty "int")) gNil)) fIsi) (sRet (gAnd (gSeq (gSeq (gVar 0) (gSeq (gC (.ty "int")) gNil)) fIsi) (gAnd (gNot (gSeq (gSeq (gVar 0) (gSeq (gC (.ty "bool")) gNil)) fIsi)) (gSeq (gSeq (gVar 0) (gVar 1)) fEq)))) sNil)
    (sSeq (sIf (gSeq (gSeq (gVar 1) (gSeq (gC (.ty "str")) gNil)) fIsi) (sRet (gAnd (gSeq (gSeq (gVar 0) (gSeq (gC (.ty "str")) gNil)) fIsi) (gSeq (gSeq (gVar 0) (gVar 1)) fEq))) sNil)
    (sSeq (sIf (gAnd (gSeq (gSeq (gVar 1) (gSeq (gC (.ty "tuple")) gNil)) fIsi) (gNot (gSeq (gSeq (gVar 0) (gSeq (gC (.ty "tuple")) gNil)) fIsi))) (sRet (gC (.bl false))) sNil)
    (sSeq (sIf (gAnd (gSeq (gSeq (gVar 1) (gSeq (gC (.ty "list")) gNil)) fIsi) (gNot (gSeq (gSeq (gVar 0) (gSeq (gC (.ty "list")) gNil)) fIsi))) (sRet (gC (.bl false))) sNil)
    (sSeq (sIf (gOrB (gNot (gSeq (gSeq (gVar 0) (gSeq (gSeq (gSeq (gC (.ty "tuple")) (gSeq (gC (.ty "list")) gNil)) (fNew .tup 2)) gNil)) fIsi)) (gSeq (gSeq (gSeq (gSeq (gVar 0) gNil) fLen) (gSeq (gSeq (gVar 1) gNil) fLen)) fNe)) (sRet (gC (.bl false))) sNil)
    (sSeq (sForR1 (gSeq (gSeq (gSeq (gVar 1) gNil) fLen) gNil) (bind md_law_same 2) (b_law_same_1 R))
    (sRet (gC (.bl true))))))))))
def GN_law_same : Nat → GF
  | 0 => fun _ => none
  | n + 1 => runF md_law_same 3 (g_law_same (GN_law_same n))
def G_law_same : GF := GN_law_same 8
theorem simR_law_same (T : Txt K mg) {n : Nat} {R : GF} (hn : 1 ≤ n) (ih : FnOk P w K mg base (L2N.CX P w) n T.a_law_same T.fd_law_same ["_law_actual", "_law_due"] (spOf (kcm K (kt P w T)) md_law_same R)) : FnOk P w K mg base (L2N.CX P w) (n + 1) T.a_law_same T.fd_law_same ["_law_actual", "_law_due"] (spOf (kcm K (kt P w T)) md_law_same (runF md_law_same 3 (g_law_same R))) :=
  fn_sim T.F_law_same sc_law_same rfl (by decide) fun cdv A outer s H E hr =>
  (mss_cons (ms_if (mw_pt (mw_or (mt_cmp op_isN fIsN_ok (me_var (pv 1)) (me_c pe_non) (nomark _)) (mw_or (mt_cmp op_isBV fIsBV_ok (me_var (pv 1)) (me_c pe_bl) (nomark _)) (mw_or1 (mt_cmp op_isBV fIsBV_ok (me_var (pv 1)) (me_c pe_bl) (nomark _)))))) (mss_one (ms_ret (me_or (me_and (me_cmp op_isN fIsN_ok (me_var (pv 0)) (me_c pe_non) (nomark _)) (me_one (me_cmp op_isN fIsN_ok (me_var (pv 1)) (me_c pe_non) (nomark _)))) (me_or (me_and (me_cmp op_isBV fIsBV_ok (me_var (pv 0)) (me_c pe_bl) (nomark _)) (me_one (me_cmp op_isBV fIsBV_ok (me_var (pv 1)) (me_c pe_bl) (nomark _)))) (me_one (me_and (me_cmp op_isBV fIsBV_ok (me_var (pv 0)) (me_c pe_bl) (nomark _)) (me_one (me_cmp op_isBV fIsBV_ok (me_var (pv 1)) (me_c pe_bl) (nomark _)))))))))
    mss_nil)
    (mss_cons (ms_if (mt_val (me_callB (CallR.or call_isi (CallR.or call_isiT call_isiK)) fIsi_ok (by rfl) T.n_isinstance (by decide +kernel) (ma_cons (me_var (pv 1)) (ma_cons (me_c (pe_bltn (v := .ty "int") (u := .type "int") (by rfl) T.n_int (by decide +kernel) rfl)) ma_nil)))) (mss_one (ms_ret (me_and (me_callB (CallR.or call_isi (CallR.or call_isiT call_isiK)) fIsi_ok (by rfl) T.n_isinstance (by decide +kernel) (ma_cons (me_var (pv 0)) (ma_cons (me_c (pe_bltn (v := .ty "int") (u := .type "int") (by rfl) T.n_int (by decide +kernel) rfl)) ma_nil))) (me_and (me_not (me_callB (CallR.or call_isi (CallR.or call_isiT call_isiK)) fIsi_ok (by rfl) T.n_isinstance (by decide +kernel) (ma_cons (me_var (pv 0)) (ma_cons (me_c (pe_bltn (v := .ty "bool") (u := .type "bool") (by rfl) T.n_bool (by decide +kernel) rfl)) ma_nil)))) (me_one (me_cmp (OpR.or op_eq (op_eqD hr.units)) fEq_ok (me_var (pv 0)) (me_var (pv 1)) (nomark _)))))))
    mss_nil)
    (mss_cons (ms_if (mt_val (me_callB (CallR.or call_isi (CallR.or call_isiT call_isiK)) fIsi_ok (by rfl) T.n_isinstance (by decide +kernel) (ma_cons (me_var (pv 1)) (ma_cons (me_c (pe_bltn (v := .ty "str") (u := .type "str") (by rfl) T.n_str (by decide +kernel) rfl)) ma_nil)))) (mss_one (ms_ret (me_and (me_callB (CallR.or call_isi (CallR.or call_isiT call_isiK)) fIsi_ok (by rfl) T.n_isinstance (by decide +kernel) (ma_cons (me_var (pv 0)) (ma_cons (me_c (pe_bltn (v := .ty "str") (u := .type "str") (by rfl) T.n_str (by decide +kernel) rfl)) ma_nil))) (me_one (me_cmp (OpR.or op_eq (op_eqD hr.units)) fEq_ok (me_var (pv 0)) (me_var (pv 1)) (nomark _))))))
    mss_nil)
    (mss_cons (ms_if (mw_pt (mw_and (mt_val (me_callB (CallR.or call_isi (CallR.or call_isiT call_isiK)) fIsi_ok (by rfl) T.n_isinstance (by decide +kernel) (ma_cons (me_var (pv 1)) (ma_cons (me_c (pe_bltn (v := .ty "tuple") (u := .type "tuple") (by rfl) T.n_tuple (by decide +kernel) rfl)) ma_nil)))) (mw_and1 (mt_not (mt_val (me_callB (CallR.or call_isi (CallR.or call_isiT call_isiK)) fIsi_ok (by rfl) T.n_isinstance (by decide +kernel) (ma_cons (me_var (pv 0)) (ma_cons (me_c (pe_bltn (v := .ty "tuple") (u := .type "tuple") (by rfl) T.n_tuple (by decide +kernel) rfl)) ma_nil)))))))) (mss_one (ms_ret (me_c pe_bl)))
    mss_nil)
    (mss_cons (ms_if (mw_pt (mw_and (mt_val (me_callB (CallR.or call_isi (CallR.or call_isiT call_isiK)) fIsi_ok (by rfl) T.n_isinstance (by decide +kernel) (ma_cons (me_var (pv 1)) (ma_cons (me_c (pe_bltn (v := .ty "list") (u := .type "list") (by rfl) T.n_list (by decide +kernel) rfl)) ma_nil)))) (mw_and1 (mt_not (mt_val (me_callB (CallR.or call_isi (CallR.or call_isiT call_isiK)) fIsi_ok (by rfl) T.n_isinstance (by decide +kernel) (ma_cons (me_var (pv 0)) (ma_cons (me_c (pe_bltn (v := .ty "list") (u := .type "list") (by rfl) T.n_list (by decide +kernel) rfl)) ma_nil)))))))) (mss_one (ms_ret (me_c pe_bl)))
    mss_nil)
    (mss_cons (ms_if (mw_pt (mw_or (mt_not (mt_val (me_callB (CallR.or call_isi (CallR.or call_isiT call_isiK)) fIsi_ok (by rfl) T.n_isinstance (by decide +kernel) (ma_cons (me_var (pv 0)) (ma_cons (me_tup (ma_cons (me_c (pe_bltn (v := .ty "tuple") (u := .type "tuple") (by rfl) T.n_tuple (by decide +kernel) rfl)) (ma_cons (me_c (pe_bltn (v := .ty "list") (u := .type "list") (by rfl) T.n_list (by decide +kernel) rfl)) ma_nil)) (by show 2 ≤ sizeLine; decide)) ma_nil))))) (mw_or1 (mt_cmp (OpR.or op_ne (op_neD hr.units)) fNe_ok (me_callB (CallR.or call_len call_lenR) fLen_ok (by rfl) T.n_len (by decide +kernel) (ma_cons (me_var (pv 0)) ma_nil)) (me_callB (CallR.or call_len call_lenR) fLen_ok (by rfl) T.n_len (by decide +kernel) (ma_cons (me_var (pv 1)) ma_nil)) (nomark _))))) (mss_one (ms_ret (me_c pe_bl)))
    mss_nil)
    (mss_cons (ms_forR1 (ma_cons (me_callB (CallR.or call_len call_lenR) fLen_ok (by rfl) T.n_len (by decide +kernel) (ma_cons (me_var (pv 1)) ma_nil)) ma_nil) (mg_name (i := 2) sc_law_same.nd rfl (Or.inl rfl))
    (mss_one (ms_if (mt_not (mt_val (me_call (is := []) ih (hr.mono (by omega)) (takes_of rfl rfl rfl rfl) rfl T.m_law_same T.F_law_same.kp T.b_law_same (ma_cons (me_ixA hr.units (me_var (pv 0)) (me_var (pv 2)) (fun _ _ => rfl)) (ma_cons (me_ixA hr.units (me_var (pv 1)) (me_var (pv 2)) (fun _ _ => rfl)) ma_nil)) (by decide) (by decide)))) (mss_one (ms_ret (me_c pe_bl)))
    mss_nil)) rfl T.n_range (passes_of rfl) rfl)
    (mss_one (ms_ret (me_c pe_bl))))))))))
theorem simN_law_same (T : Txt K mg) : ∀ n, FnOk P w K mg base (L2N.CX P w) (2 + n) T.a_law_same T.fd_law_same ["_law_actual", "_law_due"] (spOf (kcm K (kt P w T)) md_law_same (GN_law_same n))
  | 0 => fn_none T.F_law_same sc_law_same
  | n + 1 => simR_law_same T (n := 2 + n) (by omega) (simN_law_same T n)
theorem sim_law_same (T : Txt K mg) : FnOk P w K mg base (L2N.CX P w) 10 T.a_law_same T.fd_law_same ["_law_actual", "_law_due"] (spOf (kcm K (kt P w T)) md_law_same G_law_same) := simN_law_same T 8
abbrev md_law_slot : List Bool := [true, false]
def g_law_slot : GS := (sSeq (sSet md_law_slot 2 (gSeq (gSeq (gVar 0) (gSeq (gC (.int 40)) gNil)) (gCall [0] md_law_pick G_law_pick 2)))
    (sSeq (sIf (gSeq (gSeq (gVar 2) (gC (.int 35))) fGt) (sRet (gSeq (gC (.int 1)) fNeg)) sNil)
    (sSeq (sIf (gSeq (gSeq (gVar 2) (gC (.int 29))) fGt) (sRet (gSeq (gSeq (gVar 2) (gC (.int 30))) fSub)) sNil)
    (sRet (gSeq (gSeq (gSeq (gSeq (gSeq (gSeq (gVar 2) (gSeq (gSeq (gC (.int 7)) (gVar 1)) fMul)) fAdd) gNil) fInt) (gC (.int 30))) fMod)))))
def G_law_slot : GF := runF md_law_slot 3 g_law_slot
theorem sim_law_slot (T : Txt K mg) : FnOk P w K mg base (L2N.CX P w) 2 T.a_law_slot T.fd_law_slot ["_law_feed_here", "_law_k"] (spOf (kcm K (kt P w T)) md_law_slot G_law_slot) :=
  fn_sim T.F_law_slot sc_law_slot rfl (by decide) fun cdv A outer s H E hr =>
  (mss_cons (ms_set (i := 2) sc_law_slot.nd rfl (Or.inl rfl) (me_call (is := [0]) (sim_law_pick T) (hr.mono (by decide)) (takes_of rfl rfl rfl rfl) rfl T.m_law_pick T.F_law_pick.kp T.b_law_pick (ma_cons (me_var (pv 0)) (ma_cons (me_c pe_int) ma_nil)) (by decide) (by decide)))
    (mss_cons (ms_if (mt_cmp op_gt fI_ok0 (me_var (pv 2)) (me_c pe_int) (nomark _)) (mss_one (ms_ret (me_neg (me_c pe_int))))
    mss_nil)
    (mss_cons (ms_if (mt_cmp op_gt fI_ok0 (me_var (pv 2)) (me_c pe_int) (nomark _)) (mss_one (ms_ret (me_sub (me_var (pv 2)) (me_c pe_int))))
    mss_nil)
    (mss_one (ms_ret (me_mod (me_callTy call_int1 fInt_ok (by rfl) T.n_int (by decide +kernel) (ma_cons (me_add (me_var (pv 2)) (me_mul (me_c pe_int) (me_var (pv 1)))) ma_nil)) (me_c pe_int)))))))
abbrev md_law_mark : List Bool := [true, false]
def e_law_mark_1 : GE := (gSeq (gSeq (gVar 5) (gC (.int 0))) fIxA)
def b_law_mark_1 : GS := (sSeq (sSet md_law_mark 4 (gSeq (gSeq (gC (.int 10)) (gSeq (gSeq (gSeq (gSeq (gSeq (gSeq (gSeq (gSeq (gSeq (gSeq (gVar 0) (gSeq (gC (.int 8)) gNil)) (gCall [0] md_law_pick G_law_pick 2)) (gSeq (gSeq (gC (.int 3)) (gVar 3)) fMul)) fAdd) (gVar 1)) fAdd) gNil) fInt) (gC (.int 8))) fMod)) fAdd))
    (sIf (gSeq (gSeq (gVar 4) (gLc [5] (gVar 2) (bind md_law_mark 5) (gC (.bl true)) e_law_mark_1)) fNotInA) (sExpr (gSeq (gVar 2) (gSeq chkL (gSeq (gSeq (gSeq (gSeq (gSeq (gVar 4) (fMv md_law_mark)) (gSeq (gSeq (gSeq (gVar 0) (gSeq (gSeq (gSeq (gVar 3) (gVar 1)) fAdd) gNil)) (gCall [0] md_law_slot G_law_slot 2)) gNil)) (fNew .tup 2)) gNil) fApp)))) sNil))
def b_law_mark_2 : GS := (sSeq (sSet md_law_mark 4 (gSeq (gSeq (gC (.int 10)) (gSeq (gSeq (gSeq (gSeq (gSeq (gSeq (gSeq (gSeq (gSeq (gSeq (gVar 0) (gSeq (gC (.int 8)) gNil)) (gCall [0] md_law_pick G_law_pick 2)) (gSeq (gSeq (gC (.int 3)) (gVar 3)) fMul)) fAdd) (gVar 1)) fAdd) gNil) fInt) (gC (.int 8))) fMod)) fAdd))
    (sIf (gSeq (gSeq (gVar 4) (gVar 6)) fNotInA) (sExpr (gSeq (gVar 6) (gSeq chkL (gSeq (gSeq (gSeq (gVar 4) (fMv md_law_mark)) gNil) fApp)))) sNil))
def g_law_mark : GS := (sSeq (sSet md_law_mark 2 (gSeq gNil (fNew .lst 0)))
    (sSeq (sForR1 (gSeq (gSeq (gSeq (gSeq (gSeq (gSeq (gSeq (gSeq (gSeq (gVar 0) (gSeq (gC (.int 6)) gNil)) (gCall [0] md_law_pick G_law_pick 2)) (gC (.int 3))) fAdd) gNil) fInt) (gC (.int 6))) fMod) gNil) (bind md_law_mark 3) b_law_mark_1)
    (sSeq (sSet md_law_mark 6 (gSeq gNil (fNew .lst 0)))
    (sSeq (sForR1 (gSeq (gSeq (gSeq (gSeq (gSeq (gSeq (gSeq (gSeq (gSeq (gVar 0) (gSeq (gC (.int 4)) gNil)) (gCall [0] md_law_pick G_law_pick 2)) (gC (.int 1))) fAdd) gNil) fInt) (gC (.int 4))) fMod) gNil) (bind md_law_mark 3) b_law_mark_2)
    (sRet (gSeq (gSeq (gC (.str "mark")) (gSeq (gVar 1) (gSeq (gSeq (gSeq (gSeq (gSeq (gVar 2) gNil) fSrtD) gNil) fTup) (gSeq (gSeq (gSeq (gSeq (gSeq (gVar 6) gNil) fSrt) gNil) fTup) gNil)))) (fNew .tup 4)))))))
def G_law_mark : GF := runF md_law_mark 7 g_law_mark
theorem sim_law_mark (T : Txt K mg) : FnOk P w K mg base (L2N.CX P w) 3 T.a_law_mark T.fd_law_mark ["_law_feed_here", "_law_lot"] (spOf (kcm K (kt P w T)) md_law_mark G_law_mark) :=
  fn_sim T.F_law_mark sc_law_mark rfl (by decide) fun cdv A outer s H E hr =>
  (mss_cons (ms_set (i := 2) sc_law_mark.nd rfl (Or.inl rfl) (me_lst ma_nil (by show 0 ≤ sizeLine; decide)))
    (mss_cons (ms_forR1 (ma_cons (me_mod (me_callTy call_int1 fInt_ok (by rfl) T.n_int (by decide +kernel) (ma_cons (me_add (me_call (is := [0]) (sim_law_pick T) (hr.mono (by decide)) (takes_of rfl rfl rfl rfl) rfl T.m_law_pick T.F_law_pick.kp T.b_law_pick (ma_cons (me_var (pv 0)) (ma_cons (me_c pe_int) ma_nil)) (by decide) (by decide)) (me_c pe_int)) ma_nil)) (me_c pe_int)) ma_nil) (mg_name (i := 3) sc_law_mark.nd rfl (Or.inl rfl))
    (mss_cons (ms_set (i := 4) sc_law_mark.nd rfl (Or.inl rfl) (me_add (me_c pe_int) (me_mod (me_callTy call_int1 fInt_ok (by rfl) T.n_int (by decide +kernel) (ma_cons (me_add (me_add (me_call (is := [0]) (sim_law_pick T) (hr.mono (by decide)) (takes_of rfl rfl rfl rfl) rfl T.m_law_pick T.F_law_pick.kp T.b_law_pick (ma_cons (me_var (pv 0)) (ma_cons (me_c pe_int) ma_nil)) (by decide) (by decide)) (me_mul (me_c pe_int) (me_var (pv 3)))) (me_var (pv 1))) ma_nil)) (me_c pe_int))))
    (mss_one (ms_if (mt_cmp (op_notInA hr.units) fNotInA_ok (me_var (pv 4)) (me_lc0 (me_var (pv 2)) (blkOk_by (own := [("_law_pair", 5)]) (N := N_law_mark) (sc := defScope s_law_mark) (by decide +kernel)) (fun _ _ _ _ _ => pg_name (i := 5) sc_law_mark.nd rfl (Or.inl rfl)) (fun _ _ _ _ _ => (me_ixA hr.units (me_var (pv 5)) (me_c pe_int) (fun _ _ => rfl))) rfl sc_law_mark.nd) rfl) (mss_one (ms_expr (me_bm (me_var (pv 2)) (ma_cons (me_tup (ma_cons (me_mv (me_var (pv 4))) (ma_cons (me_call (is := [0]) (sim_law_slot T) (hr.mono (by decide)) (takes_of rfl rfl rfl rfl) rfl T.m_law_slot T.F_law_slot.kp T.b_law_slot (ma_cons (me_var (pv 0)) (ma_cons (me_add (me_var (pv 3)) (me_var (pv 1))) ma_nil)) (by decide) (by decide)) ma_nil)) (by show 2 ≤ sizeLine; decide)) ma_nil) fApp_ok (fun a b => pe_bm PySem.F.plainAttrs_list PySem.F.slot_list_append PySem.F.type_list_append mt_append a b))))
    mss_nil))) rfl T.n_range (passes_of rfl) rfl)
    (mss_cons (ms_set (i := 6) sc_law_mark.nd rfl (Or.inl rfl) (me_lst ma_nil (by show 0 ≤ sizeLine; decide)))
    (mss_cons (ms_forR1 (ma_cons (me_mod (me_callTy call_int1 fInt_ok (by rfl) T.n_int (by decide +kernel) (ma_cons (me_add (me_call (is := [0]) (sim_law_pick T) (hr.mono (by decide)) (takes_of rfl rfl rfl rfl) rfl T.m_law_pick T.F_law_pick.kp T.b_law_pick (ma_cons (me_var (pv 0)) (ma_cons (me_c pe_int) ma_nil)) (by decide) (by decide)) (me_c pe_int)) ma_nil)) (me_c pe_int)) ma_nil) (mg_name (i := 3) sc_law_mark.nd rfl (Or.inl rfl))
    (mss_cons (ms_set (i := 4) sc_law_mark.nd rfl (Or.inl rfl) (me_add (me_c pe_int) (me_mod (me_callTy call_int1 fInt_ok (by rfl) T.n_int (by decide +kernel) (ma_cons (me_add (me_add (me_call (is := [0]) (sim_law_pick T) (hr.mono (by decide)) (takes_of rfl rfl rfl rfl) rfl T.m_law_pick T.F_law_pick.kp T.b_law_pick (ma_cons (me_var (pv 0)) (ma_cons (me_c pe_int) ma_nil)) (by decide) (by decide)) (me_mul (me_c pe_int) (me_var (pv 3)))) (me_var (pv 1))) ma_nil)) (me_c pe_int))))
    (mss_one (ms_if (mt_cmp (op_notInA hr.units) fNotInA_ok (me_var (pv 4)) (me_var (pv 6)) rfl) (mss_one (ms_expr (me_bm (me_var (pv 6)) (ma_cons (me_mv (me_var (pv 4))) ma_nil) fApp_ok (fun a b => pe_bm PySem.F.plainAttrs_list PySem.F.slot_list_append PySem.F.type_list_append mt_append a b))))
    mss_nil))) rfl T.n_range (passes_of rfl) rfl)
    (mss_one (ms_ret (me_tup (ma_cons (me_c pe_str) (ma_cons (me_var (pv 1)) (ma_cons (me_callTy call_tuple_of fTup_ok (by rfl) T.n_tuple (by decide +kernel) (ma_cons (me_callB (cr_sortD hr.units) fSrtD_ok (by rfl) T.n_sorted (by decide +kernel) (ma_cons (me_var (pv 2)) ma_nil)) ma_nil)) (ma_cons (me_callTy call_tuple_of fTup_ok (by rfl) T.n_tuple (by decide +kernel) (ma_cons (me_callB cr_sortedI fSrt_ok (by rfl) T.n_sorted (by decide +kernel) (ma_cons (me_var (pv 6)) ma_nil)) ma_nil)) ma_nil)))) (by show 4 ≤ sizeLine; decide))))))))
abbrev md_Disk_put : List Bool := [true, false, false]
def g_Disk_put : GS := (sIf (gSeq (gSeq (gSeq (gSeq (gVar 1) (gC (.int 0))) fIxA) (gC (.str "home"))) fEq) (sSubA (gVar 2) (gSeq (gVar 0) (fFld tab_home)) (gSeq (gSeq (gVar 1) (gC (.int 1))) fIxA)) (sSubA (gVar 2) (gSeq (gVar 0) (fFld tab_log)) (gSeq (gSeq (gVar 1) (gC (.int 1))) fIxA)))
def G_Disk_put : GF := runF md_Disk_put 3 g_Disk_put
theorem sim_Disk_put (T : Txt K mg) : FnOk P w K mg base (L2N.CX P w) 1 T.a_Disk_put T.fd_Disk_put ["self", "place", "what"] (spOf (kcm K (kt P w T)) md_Disk_put G_Disk_put) :=
  fn_sim T.F_Disk_put sc_Disk_put rfl (by decide) fun cdv A outer s H E hr =>
  (mss_one (ms_if (mt_cmp (OpR.or op_eq (op_eqD hr.units)) fEq_ok (me_ixA hr.units (me_var (pv 1)) (me_c pe_int) (fun _ _ => rfl)) (me_c pe_str) (nomark _)) (mss_one (ms_subA (me_var (pv 2)) (me_fld (me_var (pv 0)) (fo_home T)) (me_ixA hr.units (me_var (pv 1)) (me_c pe_int) (fun _ _ => rfl)) (fun a b c => ps_asg c (pg_sub a b (set_A hr.units)))))
    (mss_one (ms_subA (me_var (pv 2)) (me_fld (me_var (pv 0)) (fo_log T)) (me_ixA hr.units (me_var (pv 1)) (me_c pe_int) (fun _ _ => rfl)) (fun a b c => ps_asg c (pg_sub a b (set_A hr.units)))))))
abbrev md_Disk_sure : List Bool := [true, false]
def g_Disk_sure : GS := (sSeq (sIf (gSeq (gSeq (gVar 1) (gSeq (gVar 0) (fFld tab_writes))) fNotInA) (sRaise 1) sNil)
    (sSeq (sAsg (gSeq (gSeq (gVar 0) (fFld tab_writes)) (gSeq chkD (gSeq (gVar 1) fPopD))) (unpk md_Disk_sure [2, 3]))
    (sExpr (gSeq (gVar 0) (gSeq (chkI 0) (gSeq (gSeq (gVar 2) (gSeq (gVar 3) gNil)) (gCall [0] md_Disk_put G_Disk_put 3)))))))
def G_Disk_sure : GF := runF md_Disk_sure 4 g_Disk_sure
theorem sim_Disk_sure (T : Txt K mg) : FnOk P w K mg base (L2N.CX P w) 2 T.a_Disk_sure T.fd_Disk_sure ["self", "number"] (spOf (kcm K (kt P w T)) md_Disk_sure G_Disk_sure) :=
  fn_sim T.F_Disk_sure sc_Disk_sure rfl (by decide) fun cdv A outer s H E hr =>
  (mss_cons (ms_if (mt_cmp (op_notInA hr.units) fNotInA_ok (me_var (pv 1)) (me_fld (me_var (pv 0)) (fo_writes T)) rfl) (mss_one (ms_raise (n := 1) rfl (takes_of rfl rfl rfl rfl) (pmk_own PySem.F.excBase_ValueError T.x_NoWrite T.g_NoWrite T.k_NoWrite (raises_own T.sb_NoWrite T.ty_NoWrite) rfl)))
    mss_nil)
    (mss_cons (ms_asg (me_dpop1 (me_fld (me_var (pv 0)) (fo_writes T)) (me_var (pv 1)) ⟨rfl, rfl, rfl, rfl⟩) (mg_unp (is := [2, 3]) (pg_tup (by rfl) (pgs_cons (pg_name (i := 2) sc_Disk_sure.nd rfl (Or.inl rfl)) (pgs_cons (pg_name (i := 3) sc_Disk_sure.nd rfl (Or.inl rfl)) pgs_nil))) (pg_lst (by rfl) (pgs_cons (pg_name (i := 2) sc_Disk_sure.nd rfl (Or.inl rfl)) (pgs_cons (pg_name (i := 3) sc_Disk_sure.nd rfl (Or.inl rfl)) pgs_nil)))) (fun a b => ps_asg a b))
    (mss_one (ms_expr (me_meth (is := [0]) (n := 0) (me_var (pv 0)) T.C_Disk T.m_Disk_put (show (cnm 0).idxOf? ("_put" : Str) = none by decide +kernel) (sim_Disk_put T) (hr.mono (by decide)) (takes_of rfl rfl rfl rfl) T.b_Disk_put (ma_cons (me_var (pv 2)) (ma_cons (me_var (pv 3)) ma_nil)) (by decide) (by decide))))))
abbrev md_Disk_busy : List Bool := [false, false]
def g_Disk_busy : GS := (sRet (gSeq (gSeq (gVar 1) (gLcW 2 (gSeq (gVar 0) (fFld tab_writes)))) fInE))
def G_Disk_busy : GF := runF md_Disk_busy 3 g_Disk_busy
theorem sim_Disk_busy (T : Txt K mg) : FnOk P w K mg base (L2N.CX P w) 1 T.a_Disk_busy T.fd_Disk_busy ["self", "place"] (spOf (kcm K (kt P w T)) md_Disk_busy G_Disk_busy) :=
  fn_sim T.F_Disk_busy sc_Disk_busy rfl (by decide) fun cdv A outer s H E hr =>
  (mss_one (ms_ret (me_cmp (op_inE (units65 hr)) fInE_ok (me_var (pv 1)) (me_lcW (pe_fld (pv 0) rfl) (src_fld src_var (fo_writes T)) (blkOk_by (own := [("write", 2)]) (N := N_Disk_busy) (sc := defScope s_Disk_busy) (by decide +kernel)) (fun _ _ _ _ _ => pg_name (i := 2) sc_Disk_busy.nd rfl (Or.inl rfl)) (fun _ _ _ _ _ => pe_ix ix_tup (pv 2) pe_int (fun _ _ => rfl)) (by rfl) sc_Disk_busy.nd) rfl)))
abbrev md_Disk_issue : List Bool := [true, false, false]
def g_Disk_issue : GS := (sSeq (sIf (gNot (gSeq (gSeq (gVar 1) (gSeq (gSeq (gVar 0) (fFld tab_plan)) gNil)) (gCall [] md_is_place G_is_place 2))) (sRaise 0) sNil)
    (sSeq (sIf (gSeq (gSeq (gSeq (gSeq (gVar 1) (gC (.int 0))) fIxA) (gC (.str "home"))) fEq) (sSet md_Disk_issue 3 (gSeq (gSeq (gVar 2) gNil) (gCall [] md_home_content G_home_content 1))) (sSet md_Disk_issue 3 (gSeq (gSeq (gVar 2) (gSeq (gSeq (gVar 0) (fFld tab_plan)) gNil)) (gCall [] md_log_content G_log_content 2))))
    (sSeq (sIf (gSeq (gVar 0) (gSeq (chkI 0) (gSeq (gSeq (gVar 1) gNil) (gCall [] md_Disk_busy G_Disk_busy 2)))) (sRaise 2) sNil)
    (sSeq (sFAug tab_last (gVar 0) (gC (.int 1)) fAddI)
    (sSeq (sSubA (gSeq (gSeq (gVar 1) (gSeq (gSeq (gVar 3) (fMv md_Disk_issue)) gNil)) (fNew .tup 2)) (gSeq (gVar 0) (fFld tab_writes)) (gSeq (gVar 0) (fFld tab_last)))
    (sRet (gSeq (gVar 0) (fFld tab_last))))))))
def G_Disk_issue : GF := runF md_Disk_issue 4 g_Disk_issue
theorem sim_Disk_issue (T : Txt K mg) : FnOk P w K mg base (L2N.CX P w) 6 T.a_Disk_issue T.fd_Disk_issue ["self", "place", "what"] (spOf (kcm K (kt P w T)) md_Disk_issue G_Disk_issue) :=
  fn_sim T.F_Disk_issue sc_Disk_issue rfl (by decide) fun cdv A outer s H E hr =>
  (mss_cons (ms_if (mt_not (mt_val (me_call (is := []) (sim_is_place T) (hr.mono (by decide)) (takes_of rfl rfl rfl rfl) rfl T.m_is_place T.F_is_place.kp T.b_is_place (ma_cons (me_var (pv 1)) (ma_cons (me_fld (me_var (pv 0)) (fo_plan T)) ma_nil)) (by decide) (by decide)))) (mss_one (ms_raise (n := 0) rfl (takes_of rfl rfl rfl rfl) (pmk_own PySem.F.excBase_ValueError T.x_BadValue T.g_BadValue T.k_BadValue (raises_own T.sb_BadValue T.ty_BadValue) rfl)))
    mss_nil)
    (mss_cons (ms_if (mt_cmp (OpR.or op_eq (op_eqD hr.units)) fEq_ok (me_ixA hr.units (me_var (pv 1)) (me_c pe_int) (fun _ _ => rfl)) (me_c pe_str) (nomark _)) (mss_one (ms_set (i := 3) sc_Disk_issue.nd rfl (Or.inl rfl) (me_call (is := []) (sim_home_content T) (hr.mono (by decide)) (takes_of rfl rfl rfl rfl) rfl T.m_home_content T.F_home_content.kp T.b_home_content (ma_cons (me_var (pv 2)) ma_nil) (by decide) (by decide))))
    (mss_one (ms_set (i := 3) sc_Disk_issue.nd rfl (Or.inl rfl) (me_call (is := []) (sim_log_content T) (hr.mono (by decide)) (takes_of rfl rfl rfl rfl) rfl T.m_log_content T.F_log_content.kp T.b_log_content (ma_cons (me_var (pv 2)) (ma_cons (me_fld (me_var (pv 0)) (fo_plan T)) ma_nil)) (by decide) (by decide)))))
    (mss_cons (ms_if (mt_val (me_meth (is := []) (n := 0) (me_var (pv 0)) T.C_Disk T.m_Disk_busy (show (cnm 0).idxOf? ("busy" : Str) = none by decide +kernel) (sim_Disk_busy T) (hr.mono (by decide)) (takes_of rfl rfl rfl rfl) T.b_Disk_busy (ma_cons (me_var (pv 1)) ma_nil) (by decide) (by decide))) (mss_one (ms_raise (n := 2) rfl (takes_of rfl rfl rfl rfl) (pmk_own PySem.F.excBase_ValueError T.x_PlaceBusy T.g_PlaceBusy T.k_PlaceBusy (raises_own T.sb_PlaceBusy T.ty_PlaceBusy) rfl)))
    mss_nil)
    (mss_cons (ms_faug (me_var (pv 0)) (me_c pe_int) (fo_last T) fAddI_r (fun a b => ps_fldaug a b in_add))
    (mss_cons (ms_subA (me_tup (ma_cons (me_var (pv 1)) (ma_cons (me_mv (me_var (pv 3))) ma_nil)) (by show 2 ≤ sizeLine; decide)) (me_fld (me_var (pv 0)) (fo_writes T)) (me_fld (me_var (pv 0)) (fo_last T)) (fun a b c => ps_asg c (pg_sub a b (set_A hr.units))))
    (mss_one (ms_ret (me_fld (me_var (pv 0)) (fo_last T)))))))))
abbrev md_law_put : List Bool := [true, true, false, false]
def g_law_put : GS := (sSeq (sSet md_law_put 4 (gSeq (gVar 0) (gSeq (chkI 0) (gSeq (gSeq (gSeq (gSeq (gC (.str "log")) (gSeq (gVar 2) gNil)) (fNew .tup 2)) (gSeq (gVar 3) gNil)) (gCall [0] md_Disk_issue G_Disk_issue 3)))))
    (sSeq (sExpr (gSeq (gVar 0) (gSeq (chkI 0) (gSeq (gSeq (gVar 4) gNil) (gCall [0] md_Disk_sure G_Disk_sure 2)))))
    (sSubA (gVar 3) (gVar 1) (gVar 2))))
def G_law_put : GF := runF md_law_put 5 g_law_put
theorem sim_law_put (T : Txt K mg) : FnOk P w K mg base (L2N.CX P w) 7 T.a_law_put T.fd_law_put ["_law_disk_here", "_law_log", "_law_slot_here", "_law_record"] (spOf (kcm K (kt P w T)) md_law_put G_law_put) :=
  fn_sim T.F_law_put sc_law_put rfl (by decide) fun cdv A outer s H E hr =>
  (mss_cons (ms_set (i := 4) sc_law_put.nd rfl (Or.inl rfl) (me_meth (is := [0]) (n := 0) (me_var (pv 0)) T.C_Disk T.m_Disk_issue (show (cnm 0).idxOf? ("issue" : Str) = none by decide +kernel) (sim_Disk_issue T) (hr.mono (by decide)) (takes_of rfl rfl rfl rfl) T.b_Disk_issue (ma_cons (me_tup (ma_cons (me_c pe_str) (ma_cons (me_var (pv 2)) ma_nil)) (by show 2 ≤ sizeLine; decide)) (ma_cons (me_var (pv 3)) ma_nil)) (by decide) (by decide)))
    (mss_cons (ms_expr (me_meth (is := [0]) (n := 0) (me_var (pv 0)) T.C_Disk T.m_Disk_sure (show (cnm 0).idxOf? ("sure" : Str) = none by decide +kernel) (sim_Disk_sure T) (hr.mono (by decide)) (takes_of rfl rfl rfl rfl) T.b_Disk_sure (ma_cons (me_var (pv 4)) ma_nil) (by decide) (by decide)))
    (mss_one (ms_subA (me_var (pv 3)) (me_var (pv 1)) (me_var (pv 2)) (fun a b c => ps_asg c (pg_sub a b (set_A hr.units)))))))
abbrev md_law_copies : List Bool := [true, true, true, false]
def b_law_copies_1 : GS := (sSeq (sSet md_law_copies 6 (gSeq (gSeq (gVar 0) (gSeq (gC (.int 8)) gNil)) (gCall [0] md_law_pick G_law_pick 2)))
    (sSeq (sSet md_law_copies 7 (gSeq (gSeq (gSeq (gSeq (gVar 4) (gC (.int 1))) fIxA) (gSeq (gSeq (gSeq (gSeq (gVar 6) (gC (.int 6))) fEq) gNil) fInt)) fAdd))
    (sSeq (sSet md_law_copies 8 (gSeq (gSeq (gSeq (gSeq (gVar 5) (gC (.int 0))) fIxA) (gSeq (gSeq (gSeq (gSeq (gVar 6) (gC (.int 7))) fEq) gNil) fInt)) fAdd))
    (sIf (gSeq (gSeq (gSeq (gSeq (gVar 5) (gC (.int 1))) fIxA) (gC (.int 0))) fGe) (sExpr (gSeq (gSeq (gVar 1) (gSeq (gVar 2) (gSeq (gSeq (gSeq (gVar 5) (gC (.int 1))) fIxA) (gSeq (gSeq (gSeq (gSeq (gSeq (gC (.str "copy")) (gSeq (gVar 7) (gSeq (gVar 8) (gSeq (gSeq (gSeq (gSeq (gSeq (gSeq (gSeq (gVar 5) (gC (.int 1))) fIxA) (gC (.int 1))) fAdd) (gSeq (gSeq (gVar 7) (fMv md_law_copies)) (gSeq (gSeq (gVar 8) (fMv md_law_copies)) (gSeq (gC (.int 0)) (gSeq (gC (.int 0)) (gSeq (gC (.int 0)) (gSeq (gC (.int 0)) (gSeq (gC (.int 0)) gNil)))))))) (fNew .tup 8)) gNil)))) (fMvD md_law_copies 2)) (fMvD md_law_copies 1)) (fNew .tup 4)) gNil)))) (gCall [0, 1] md_law_put G_law_put 4))) sNil))))
def b_law_copies_2 : GS := (sFor (gSeq (gSeq (gVar 4) (gC (.int 2))) fIxA) (bind md_law_copies 5) b_law_copies_1)
def g_law_copies : GS := (sFor (gVar 3) (bind md_law_copies 4) b_law_copies_2)
def G_law_copies : GF := runF md_law_copies 9 g_law_copies
theorem sim_law_copies (T : Txt K mg) : FnOk P w K mg base (L2N.CX P w) 8 T.a_law_copies T.fd_law_copies ["_law_feed_here", "_law_disk_here", "_law_log", "_law_marks_here"] (spOf (kcm K (kt P w T)) md_law_copies G_law_copies) :=
  fn_sim T.F_law_copies sc_law_copies rfl (by decide) fun cdv A outer s H E hr =>
  (mss_one (ms_for (me_var (pv 3)) (mg_name (i := 4) sc_law_copies.nd rfl (Or.inl rfl))
    (mss_one (ms_for (me_ixA hr.units (me_var (pv 4)) (me_c pe_int) (fun _ _ => rfl)) (mg_name (i := 5) sc_law_copies.nd rfl (Or.inl rfl))
    (mss_cons (ms_set (i := 6) sc_law_copies.nd rfl (Or.inl rfl) (me_call (is := [0]) (sim_law_pick T) (hr.mono (by decide)) (takes_of rfl rfl rfl rfl) rfl T.m_law_pick T.F_law_pick.kp T.b_law_pick (ma_cons (me_var (pv 0)) (ma_cons (me_c pe_int) ma_nil)) (by decide) (by decide)))
    (mss_cons (ms_set (i := 7) sc_law_copies.nd rfl (Or.inl rfl) (me_add (me_ixA hr.units (me_var (pv 4)) (me_c pe_int) (fun _ _ => rfl)) (me_callTy call_int1 fInt_ok (by rfl) T.n_int (by decide +kernel) (ma_cons (me_cmp (OpR.or op_eq (op_eqD hr.units)) fEq_ok (me_var (pv 6)) (me_c pe_int) (nomark _)) ma_nil))))
    (mss_cons (ms_set (i := 8) sc_law_copies.nd rfl (Or.inl rfl) (me_add (me_ixA hr.units (me_var (pv 5)) (me_c pe_int) (fun _ _ => rfl)) (me_callTy call_int1 fInt_ok (by rfl) T.n_int (by decide +kernel) (ma_cons (me_cmp (OpR.or op_eq (op_eqD hr.units)) fEq_ok (me_var (pv 6)) (me_c pe_int) (nomark _)) ma_nil))))
    (mss_one (ms_if (mt_cmp op_ge fI_ok0 (me_ixA hr.units (me_var (pv 5)) (me_c pe_int) (fun _ _ => rfl)) (me_c pe_int) (nomark _)) (mss_one (ms_expr (me_call (is := [0, 1]) (sim_law_put T) (hr.mono (by decide)) (takes_of rfl rfl rfl rfl) rfl T.m_law_put T.F_law_put.kp T.b_law_put (ma_cons (me_var (pv 1)) (ma_cons (me_var (pv 2)) (ma_cons (me_ixA hr.units (me_var (pv 5)) (me_c pe_int) (fun _ _ => rfl)) (ma_cons (me_tup (ma_mvd (d := 1) (ma_mvd (d := 2) (ma_cons (me_c pe_str) (ma_cons (me_var (pv 7)) (ma_cons (me_var (pv 8)) (ma_cons (me_tup (ma_cons (me_add (me_ixA hr.units (me_var (pv 5)) (me_c pe_int) (fun _ _ => rfl)) (me_c pe_int)) (ma_cons (me_mv (me_var (pv 7))) (ma_cons (me_mv (me_var (pv 8))) (ma_cons (me_c pe_int) (ma_cons (me_c pe_int) (ma_cons (me_c pe_int) (ma_cons (me_c pe_int) (ma_cons (me_c pe_int) ma_nil)))))))) (by show 8 ≤ sizeLine; decide)) ma_nil)))))) (by show 4 ≤ sizeLine; decide)) ma_nil)))) (by decide) (by decide))))
    mss_nil))))) (passes_of rfl) rfl)) (passes_of rfl) rfl))
abbrev md_Disk_init : List Bool := [true, false]
def e_Disk_init_1 : GE := (gSeq (gSeq (gC (.int 0)) (gSeq (gC (.int 0)) (gSeq (gC (.int 0)) (gSeq (gC (.int 0)) (gSeq (gC (.int 0)) (gSeq (gC (.int 0)) (gSeq (gC (.int 0)) (gSeq (gC (.int 0)) gNil)))))))) (fNew .tup 8))
def g_Disk_init : GS := (sSeq (sFldS tab_plan (gVar 1) (gVar 0))
    (sSeq (sFldS tab_home (gLcR1 [2] (gSeq (gSeq (gVar 1) (fFld tab_blocks)) gNil) (bind md_Disk_init 2) (gC (.bl true)) e_Disk_init_1) (gVar 0))
    (sSeq (sFldS tab_log (gSeq (gSeq (gSeq (gSeq (gC .non) gNil) (fNew .lst 1)) (gSeq (gVar 1) (fFld tab_slots))) fMul) (gVar 0))
    (sSeq (sFldS tab_head (gC (.int 0)) (gVar 0))
    (sSeq (sFldS tab_last (gC (.int 0)) (gVar 0))
    (sFldS tab_writes gD0 (gVar 0)))))))
def G_Disk_init : GF := runF md_Disk_init 3 g_Disk_init
theorem sim_Disk_init (T : Txt K mg) : FnOk P w K mg base (L2N.CX P w) 1 T.a_Disk_init T.fd_Disk_init ["self", "plan"] (spOf (kcm K (kt P w T)) md_Disk_init G_Disk_init) :=
  fn_sim T.F_Disk_init sc_Disk_init rfl (by decide) fun cdv A outer s H E hr =>
  (mss_cons (ms_fld (me_var (pv 1)) (me_var (pv 0)) (fo_plan T))
    (mss_cons (ms_fld (me_lcR10 (ma_cons (me_fld (me_var (pv 1)) (fo_blocks T)) ma_nil) (blkOk_by (own := [("x", 2)]) (N := N_Disk_init) (sc := defScope s_Disk_init) (by decide +kernel)) (fun _ _ _ _ _ => pg_name (i := 2) sc_Disk_init.nd rfl (Or.inl rfl)) (fun _ _ _ _ _ => (me_tup (ma_cons (me_c pe_int) (ma_cons (me_c pe_int) (ma_cons (me_c pe_int) (ma_cons (me_c pe_int) (ma_cons (me_c pe_int) (ma_cons (me_c pe_int) (ma_cons (me_c pe_int) (ma_cons (me_c pe_int) ma_nil)))))))) (by show 8 ≤ sizeLine; decide))) rfl T.n_range rfl sc_Disk_init.nd) (me_var (pv 0)) (fo_home T))
    (mss_cons (ms_fld (me_mul (me_lst (ma_cons (me_c pe_non) ma_nil) (by show 1 ≤ sizeLine; decide)) (me_fld (me_var (pv 1)) (fo_slots T))) (me_var (pv 0)) (fo_log T))
    (mss_cons (ms_fld (me_c pe_int) (me_var (pv 0)) (fo_head T))
    (mss_cons (ms_fld (me_c pe_int) (me_var (pv 0)) (fo_last T))
    (mss_one (ms_fld me_d0 (me_var (pv 0)) (fo_writes T))))))))
abbrev md_Disk_barrier : List Bool := [true]
def b_Disk_barrier_1 : GS := (sExpr (gSeq (gVar 0) (gSeq (chkI 0) (gSeq (gSeq (gVar 1) gNil) (gCall [0] md_Disk_sure G_Disk_sure 2)))))
def g_Disk_barrier : GS := (sFor (gSeq (gSeq (gSeq (gVar 0) (fFld tab_writes)) gNil) (gOr fLst fLstD)) (bind md_Disk_barrier 1) b_Disk_barrier_1)
def G_Disk_barrier : GF := runF md_Disk_barrier 2 g_Disk_barrier
theorem sim_Disk_barrier (T : Txt K mg) : FnOk P w K mg base (L2N.CX P w) 3 T.a_Disk_barrier T.fd_Disk_barrier ["self"] (spOf (kcm K (kt P w T)) md_Disk_barrier G_Disk_barrier) :=
  fn_sim T.F_Disk_barrier sc_Disk_barrier rfl (by decide) fun cdv A outer s H E hr =>
  (mss_one (ms_for (me_callTy (CallR.or call_list_of (call_listD rfl)) (RA.or fLst_ok fLstD_ok) (by rfl) T.n_list (by decide +kernel) (ma_cons (me_fld (me_var (pv 0)) (fo_writes T)) ma_nil)) (mg_name (i := 1) sc_Disk_barrier.nd rfl (Or.inl rfl))
    (mss_one (ms_expr (me_meth (is := [0]) (n := 0) (me_var (pv 0)) T.C_Disk T.m_Disk_sure (show (cnm 0).idxOf? ("sure" : Str) = none by decide +kernel) (sim_Disk_sure T) (hr.mono (by decide)) (takes_of rfl rfl rfl rfl) T.b_Disk_sure (ma_cons (me_var (pv 1)) ma_nil) (by decide) (by decide)))) (passes_of rfl) rfl))
abbrev md_Disk_move_head : List Bool := [true, false]
def g_Disk_move_head : GS := (sSeq (sIf (gNot (gSeq (gSeq (gVar 1) (gSeq (gC (.int 0)) (gSeq (gC (.int 999999)) gNil))) (gCall [] md_is_within G_is_within 3))) (sRaise 0) sNil)
    (sFldS tab_head (gVar 1) (gVar 0)))
def G_Disk_move_head : GF := runF md_Disk_move_head 2 g_Disk_move_head
theorem sim_Disk_move_head (T : Txt K mg) : FnOk P w K mg base (L2N.CX P w) 2 T.a_Disk_move_head T.fd_Disk_move_head ["self", "p"] (spOf (kcm K (kt P w T)) md_Disk_move_head G_Disk_move_head) :=
  fn_sim T.F_Disk_move_head sc_Disk_move_head rfl (by decide) fun cdv A outer s H E hr =>
  (mss_cons (ms_if (mt_not (mt_val (me_call (is := []) (sim_is_within T) (hr.mono (by decide)) (takes_of rfl rfl rfl rfl) rfl T.m_is_within T.F_is_within.kp T.b_is_within (ma_cons (me_var (pv 1)) (ma_cons (me_c pe_int) (ma_cons (me_c (pe_glob (x := ("MOST_LOT" : Str)) (v := .int 999999) rfl T.g_MOST_LOT ⟨_, rfl⟩)) ma_nil))) (by decide) (by decide)))) (mss_one (ms_raise (n := 0) rfl (takes_of rfl rfl rfl rfl) (pmk_own PySem.F.excBase_ValueError T.x_BadValue T.g_BadValue T.k_BadValue (raises_own T.sb_BadValue T.ty_BadValue) rfl)))
    mss_nil)
    (mss_one (ms_fld (me_var (pv 1)) (me_var (pv 0)) (fo_head T))))
abbrev md_Plan_init : List Bool := [true, false, false, false]
def g_Plan_init : GS := (sSeq (sIf (gNot (gChain (gC (.int 8)) (gVar 1) fLe (gC (.int 64)) fLe)) (sRaise 0) sNil)
    (sSeq (sIf (gNot (gChain (gC (.int 2)) (gVar 2) fLe (gC (.int 16)) fLe)) (sRaise 0) sNil)
    (sSeq (sIf (gNot (gChain (gVar 1) (gVar 3) fLt (gC (.int 200)) fLe)) (sRaise 0) sNil)
    (sSeq (sSet md_Plan_init 4 (gSeq (gSeq (gSeq (gSeq (gVar 1) (gC (.int 7))) fAdd) (gC (.int 8))) fDiv))
    (sSeq (sIf (gSeq (gSeq (gSeq (gSeq (gSeq (gSeq (gSeq (gSeq (gC (.int 2)) (gVar 4)) fAdd) (gVar 2)) fAdd) (gC (.int 2))) fAdd) (gVar 1)) fGt) (sRaise 0) sNil)
    (sSeq (sFldS tab_blocks (gVar 1) (gVar 0))
    (sSeq (sFldS tab_nodes (gVar 2) (gVar 0))
    (sSeq (sFldS tab_slots (gVar 3) (gVar 0))
    (sSeq (sFldS tab_maps (gSeq (gVar 4) (fMv md_Plan_init)) (gVar 0))
    (sSeq (sFldS tab_first_node (gSeq (gSeq (gC (.int 2)) (gVar 4)) fAdd) (gVar 0))
    (sFldS tab_first_data (gSeq (gSeq (gSeq (gSeq (gC (.int 2)) (gVar 4)) fAdd) (gVar 2)) fAdd) (gVar 0))))))))))))
def G_Plan_init : GF := runF md_Plan_init 5 g_Plan_init
theorem sim_Plan_init (T : Txt K mg) : FnOk P w K mg base (L2N.CX P w) 1 T.a_Plan_init T.fd_Plan_init ["self", "blocks", "nodes", "slots"] (spOf (kcm K (kt P w T)) md_Plan_init G_Plan_init) :=
  fn_sim T.F_Plan_init sc_Plan_init rfl (by decide) fun cdv A outer s H E hr =>
  (mss_cons (ms_if (mt_not (mt_chain (me_c pe_int) (me_var (pv 1)) fI_ok0 (me_c pe_int) fI_ok0 (fun a b c => pt_chain op_le op_le a b c))) (mss_one (ms_raise (n := 0) rfl (takes_of rfl rfl rfl rfl) (pmk_own PySem.F.excBase_ValueError T.x_BadValue T.g_BadValue T.k_BadValue (raises_own T.sb_BadValue T.ty_BadValue) rfl)))
    mss_nil)
    (mss_cons (ms_if (mt_not (mt_chain (me_c pe_int) (me_var (pv 2)) fI_ok0 (me_c pe_int) fI_ok0 (fun a b c => pt_chain op_le op_le a b c))) (mss_one (ms_raise (n := 0) rfl (takes_of rfl rfl rfl rfl) (pmk_own PySem.F.excBase_ValueError T.x_BadValue T.g_BadValue T.k_BadValue (raises_own T.sb_BadValue T.ty_BadValue) rfl)))
    mss_nil)
    (mss_cons (ms_if (mt_not (mt_chain (me_var (pv 1)) (me_var (pv 3)) fI_ok0 (me_c pe_int) fI_ok0 (fun a b c => pt_chain op_lt op_le a b c))) (mss_one (ms_raise (n := 0) rfl (takes_of rfl rfl rfl rfl) (pmk_own PySem.F.excBase_ValueError T.x_BadValue T.g_BadValue T.k_BadValue (raises_own T.sb_BadValue T.ty_BadValue) rfl)))
    mss_nil)
    (mss_cons (ms_set (i := 4) sc_Plan_init.nd rfl (Or.inl rfl) (me_div (me_add (me_var (pv 1)) (me_c pe_int)) (me_c pe_int)))
    (mss_cons (ms_if (mt_cmp op_gt fI_ok0 (me_add (me_add (me_add (me_c pe_int) (me_var (pv 4))) (me_var (pv 2))) (me_c pe_int)) (me_var (pv 1)) (nomark _)) (mss_one (ms_raise (n := 0) rfl (takes_of rfl rfl rfl rfl) (pmk_own PySem.F.excBase_ValueError T.x_BadValue T.g_BadValue T.k_BadValue (raises_own T.sb_BadValue T.ty_BadValue) rfl)))
    mss_nil)
    (mss_cons (ms_fld (me_var (pv 1)) (me_var (pv 0)) (fo_blocks T))
    (mss_cons (ms_fld (me_var (pv 2)) (me_var (pv 0)) (fo_nodes T))
    (mss_cons (ms_fld (me_var (pv 3)) (me_var (pv 0)) (fo_slots T))
    (mss_cons (ms_fld (me_mv (me_var (pv 4))) (me_var (pv 0)) (fo_maps T))
    (mss_cons (ms_fld (me_add (me_c pe_int) (me_var (pv 4))) (me_var (pv 0)) (fo_first_node T))
    (mss_one (ms_fld (me_add (me_add (me_c pe_int) (me_var (pv 4))) (me_var (pv 2))) (me_var (pv 0)) (fo_first_data T)))))))))))))
abbrev md_law_disk : List Bool := [true, false, true, false]
def b_law_disk_1 : GS := (sExpr (gSeq (gVar 4) (gSeq (chkI 0) (gSeq (gSeq (gSeq (gSeq (gC (.str "home")) (gSeq (gVar 5) gNil)) (fNew .tup 2)) (gSeq (gSeq (gSeq (gSeq (gSeq (gVar 3) (gVar 5)) fIxA) gNil) fLst) gNil)) (gCall [0] md_Disk_issue G_Disk_issue 3)))))
def e_law_disk_1 : GE := (gSeq (gSeq (gSeq (gSeq (gVar 1) (gC (.int 1))) fAdd) (gVar 8)) fAdd)
def e_law_disk_2 : GE := (gSeq (gSeq (gVar 0) (gSeq (gVar 10) gNil)) (gCall [0] md_law_mark G_law_mark 2))
def t_law_disk_1 : GE := (gSeq (gSeq (gVar 13) (gVar 11)) fNotInA)
def e_law_disk_3 : GE := (gVar 13)
def b_law_disk_2 : GS := (sSeq (sSet md_law_disk 12 (gSeq (gSeq (gSeq (gSeq (gSeq (gSeq (gSeq (gSeq (gSeq (gSeq (gVar 0) (gSeq (gC (.int 30)) gNil)) (gCall [0] md_law_pick G_law_pick 2)) (gSeq (gSeq (gC (.int 11)) (gVar 8)) fMul)) fAdd) (gC (.int 4))) fAdd) gNil) fInt) (gC (.int 30))) fMod))
    (sSeq (sIf (gSeq (gSeq (gVar 12) (gVar 11)) fInA) (sSet md_law_disk 12 (gSeq (gSeq (gLcR1 [13] (gSeq (gC (.int 30)) gNil) (bind md_law_disk 13) t_law_disk_1 e_law_disk_3) (gC (.int 0))) fIxA)) sNil)
    (sSeq (sExpr (gSeq (gVar 11) (gSeq chkL (gSeq (gSeq (gSeq (gVar 12) (fMv md_law_disk)) gNil) fApp))))
    (sExpr (gSeq (gSeq (gVar 4) (gSeq (gVar 2) (gSeq (gVar 12) (gSeq (gSeq (gSeq (gVar 9) (gVar 8)) fIxA) gNil)))) (gCall [0, 1] md_law_put G_law_put 4))))))
def g_law_disk : GS := (sSeq (sSet md_law_disk 4 (gSeq (gSeq (gSeq (gSeq (gSeq (gC (.int 24)) gNil) (gSeq (gSeq (gC (.int 5)) (gSeq (gC (.int 30)) gNil)) (noEx (gMake 1 (md_Plan_init).tail G_Plan_init 3)))) fFrz) gNil) (noEx (gMake 0 (md_Disk_init).tail G_Disk_init 1))))
    (sSeq (sExpr (gSeq (gVar 4) (gSeq (chkI 0) (gSeq (gSeq (gVar 1) gNil) (gCall [0] md_Disk_move_head G_Disk_move_head 2)))))
    (sSeq (sForR1 (gSeq (gC (.int 24)) gNil) (bind md_law_disk 5) b_law_disk_1)
    (sSeq (sExpr (gSeq (gVar 4) (gSeq (chkI 0) (gCall [0] md_Disk_barrier G_Disk_barrier 1))))
    (sSeq (sSet md_law_disk 6 (gSeq (gSeq (gSeq (gSeq (gSeq (gSeq (gSeq (gSeq (gVar 0) (gSeq (gC (.int 5)) gNil)) (gCall [0] md_law_pick G_law_pick 2)) (gC (.int 3))) fAdd) gNil) fInt) (gC (.int 5))) fMod))
    (sSeq (sSet md_law_disk 7 (gSeq (gSeq (gClr 8 (gLcR1 [8] (gSeq (gVar 6) gNil) (bind md_law_disk 8) (gC (.bl true)) e_law_disk_1)) (gSeq (gSeq (gSeq (gSeq (gSeq (gSeq (gVar 1) (gVar 6)) fAdd) (gC (.int 2))) fAdd) (gSeq (gSeq (gSeq (gC (.int 1)) (gSeq (gVar 1) gNil)) fMax) gNil)) (fNew .lst 2))) fAdd))
    (sSeq (sIf (gSeq (gSeq (gSeq (gSeq (gVar 0) (gSeq (gC (.int 3)) gNil)) (gCall [0] md_law_pick G_law_pick 2)) (gC (.int 1))) fEq) (sExpr (gSeq (gVar 7) (gSeq chkL (gSeq (gSeq (gSeq (gSeq (gVar 1) (gC (.int 1))) fAdd) gNil) fApp)))) sNil)
    (sSeq (sSet md_law_disk 9 (gLc [10] (gVar 7) (bind md_law_disk 10) (gC (.bl true)) e_law_disk_2))
    (sSeq (sExpr (gSeq (gSeq (gVar 0) (gSeq (gVar 4) (gSeq (gVar 2) (gSeq (gVar 9) gNil)))) (gCall [0, 1, 2] md_law_copies G_law_copies 4)))
    (sSeq (sSet md_law_disk 11 (gSeq gNil (fNew .lst 0)))
    (sSeq (sForR1 (gSeq (gSeq (gSeq (gVar 9) gNil) fLen) gNil) (bind md_law_disk 8) b_law_disk_2)
    (sRet (gSeq (gVar 4) (fMv md_law_disk))))))))))))))
def G_law_disk : GF := runF md_law_disk 14 g_law_disk
theorem sim_law_disk (T : Txt K mg) : FnOk P w K mg base (L2N.CX P w) 9 T.a_law_disk T.fd_law_disk ["_law_feed_here", "_law_head", "_law_log", "_law_home"] (spOf (kcm K (kt P w T)) md_law_disk G_law_disk) :=
  fn_sim T.F_law_disk sc_law_disk rfl (by decide) fun cdv A outer s H E hr =>
  (mss_cons (ms_set (i := 4) sc_law_disk.nd rfl (Or.inl rfl) (me_make (n := 0) T.m_Disk_init (sim_Disk_init T) (hr.mono (by decide)) rfl T.g_Disk T.b_Disk_init (ma_cons (me_frz (me_makeK (n := 1) T.m_Plan_init (sim_Plan_init T) (hr.mono (by decide)) rfl T.g_Plan T.b_Plan_init (ma_cons (me_c pe_int) ma_nil) (mk_cons (me_c pe_int) (mk_cons (me_c pe_int) mk_nil)) rfl)) ma_nil)))
    (mss_cons (ms_expr (me_meth (is := [0]) (n := 0) (me_var (pv 4)) T.C_Disk T.m_Disk_move_head (show (cnm 0).idxOf? ("move_head" : Str) = none by decide +kernel) (sim_Disk_move_head T) (hr.mono (by decide)) (takes_of rfl rfl rfl rfl) T.b_Disk_move_head (ma_cons (me_var (pv 1)) ma_nil) (by decide) (by decide)))
    (mss_cons (ms_forR1 (ma_cons (me_c pe_int) ma_nil) (mg_name (i := 5) sc_law_disk.nd rfl (Or.inl rfl))
    (mss_one (ms_expr (me_meth (is := [0]) (n := 0) (me_var (pv 4)) T.C_Disk T.m_Disk_issue (show (cnm 0).idxOf? ("issue" : Str) = none by decide +kernel) (sim_Disk_issue T) (hr.mono (by decide)) (takes_of rfl rfl rfl rfl) T.b_Disk_issue (ma_cons (me_tup (ma_cons (me_c pe_str) (ma_cons (me_var (pv 5)) ma_nil)) (by show 2 ≤ sizeLine; decide)) (ma_cons (me_callTy call_list_of fLst_ok (by rfl) T.n_list (by decide +kernel) (ma_cons (me_ixA hr.units (me_var (pv 3)) (me_var (pv 5)) (fun _ _ => rfl)) ma_nil)) ma_nil)) (by decide) (by decide)))) rfl T.n_range (passes_of rfl) rfl)
    (mss_cons (ms_expr (me_meth0 (is := [0]) (n := 0) (me_var (pv 4)) T.C_Disk T.m_Disk_barrier (show (cnm 0).idxOf? ("barrier" : Str) = none by decide +kernel) (sim_Disk_barrier T) (hr.mono (by decide)) (takes_of rfl rfl rfl rfl) T.b_Disk_barrier (by decide) (by decide)))
    (mss_cons (ms_set (i := 6) sc_law_disk.nd rfl (Or.inl rfl) (me_mod (me_callTy call_int1 fInt_ok (by rfl) T.n_int (by decide +kernel) (ma_cons (me_add (me_call (is := [0]) (sim_law_pick T) (hr.mono (by decide)) (takes_of rfl rfl rfl rfl) rfl T.m_law_pick T.F_law_pick.kp T.b_law_pick (ma_cons (me_var (pv 0)) (ma_cons (me_c pe_int) ma_nil)) (by decide) (by decide)) (me_c pe_int)) ma_nil)) (me_c pe_int)))
    (mss_cons (ms_set (i := 7) sc_law_disk.nd rfl (Or.inl rfl) (me_add (me_clr (i := 8) (me_lcR10 (ma_cons (me_var (pv 6)) ma_nil) (blkOk_by (own := [("_law_k", 8)]) (N := N_law_disk) (sc := defScope s_law_disk) (by decide +kernel)) (fun _ _ _ _ _ => pg_name (i := 8) sc_law_disk.nd rfl (Or.inl rfl)) (fun _ _ _ _ _ => (me_add (me_add (me_var (pv 1)) (me_c pe_int)) (me_var (pv 8)))) rfl T.n_range rfl sc_law_disk.nd)) (me_lst (ma_cons (me_add (me_add (me_var (pv 1)) (me_var (pv 6))) (me_c pe_int)) (ma_cons (me_callB (call_max2 rfl) fII_ok (by rfl) T.n_max (by decide +kernel) (ma_cons (me_c pe_int) (ma_cons (me_var (pv 1)) ma_nil))) ma_nil)) (by show 2 ≤ sizeLine; decide))))
    (mss_cons (ms_if (mt_cmp (OpR.or op_eq (op_eqD hr.units)) fEq_ok (me_call (is := [0]) (sim_law_pick T) (hr.mono (by decide)) (takes_of rfl rfl rfl rfl) rfl T.m_law_pick T.F_law_pick.kp T.b_law_pick (ma_cons (me_var (pv 0)) (ma_cons (me_c pe_int) ma_nil)) (by decide) (by decide)) (me_c pe_int) (nomark _)) (mss_one (ms_expr (me_bm (me_var (pv 7)) (ma_cons (me_add (me_var (pv 1)) (me_c pe_int)) ma_nil) fApp_ok (fun a b => pe_bm PySem.F.plainAttrs_list PySem.F.slot_list_append PySem.F.type_list_append mt_append a b))))
    mss_nil)
    (mss_cons (ms_lc0 (me_var (pv 7)) (blkOk_by (own := [("_law_lot", 10)]) (N := N_law_disk) (sc := defScope s_law_disk) (by decide +kernel)) (fun _ _ _ _ _ => pg_name (i := 10) sc_law_disk.nd rfl (Or.inl rfl)) (fun _ _ _ _ _ => (me_call (is := [0]) (sim_law_mark T) (hr.mono (by decide)) takes0 rfl T.m_law_mark T.F_law_mark.kp T.b_law_mark (ma_cons (me_var (pv 0)) (ma_cons (me_var (pv 10)) ma_nil)) (by decide) (by decide))) rfl sc_law_disk.nd rfl rfl (sw_true rfl rfl rfl (by decide +kernel)))
    (mss_cons (ms_expr (me_call (is := [0, 1, 2]) (sim_law_copies T) (hr.mono (by decide)) (takes_of rfl rfl rfl rfl) rfl T.m_law_copies T.F_law_copies.kp T.b_law_copies (ma_cons (me_var (pv 0)) (ma_cons (me_var (pv 4)) (ma_cons (me_var (pv 2)) (ma_cons (me_var (pv 9)) ma_nil)))) (by decide) (by decide)))
    (mss_cons (ms_set (i := 11) sc_law_disk.nd rfl (Or.inr rfl) (me_lst ma_nil (by show 0 ≤ sizeLine; decide)))
    (mss_cons (ms_forR1 (ma_cons (me_callB (CallR.or call_len call_lenR) fLen_ok (by rfl) T.n_len (by decide +kernel) (ma_cons (me_var (pv 9)) ma_nil)) ma_nil) (mg_name (i := 8) sc_law_disk.nd rfl (Or.inl rfl))
    (mss_cons (ms_set (i := 12) sc_law_disk.nd rfl (Or.inl rfl) (me_mod (me_callTy call_int1 fInt_ok (by rfl) T.n_int (by decide +kernel) (ma_cons (me_add (me_add (me_call (is := [0]) (sim_law_pick T) (hr.mono (by decide)) (takes_of rfl rfl rfl rfl) rfl T.m_law_pick T.F_law_pick.kp T.b_law_pick (ma_cons (me_var (pv 0)) (ma_cons (me_c pe_int) ma_nil)) (by decide) (by decide)) (me_mul (me_c pe_int) (me_var (pv 8)))) (me_c pe_int)) ma_nil)) (me_c pe_int)))
    (mss_cons (ms_if (mt_cmp (op_inA hr.units) fInA_ok (me_var (pv 12)) (me_var (pv 11)) rfl) (mss_one (ms_set (i := 12) sc_law_disk.nd rfl (Or.inl rfl) (me_ixA hr.units (me_lcR1 (ma_cons (me_c pe_int) ma_nil) (blkOk_by (own := [("_law_place", 13)]) (N := N_law_disk) (sc := defScope s_law_disk) (by decide +kernel)) (fun _ _ _ _ _ => pg_name (i := 13) sc_law_disk.nd rfl (Or.inl rfl)) (fun _ _ _ _ _ => (mt_cmp (op_notInA hr.units) fNotInA_ok (me_var (pv 13)) (me_var (pv 11)) rfl)) (fun _ _ _ _ _ => (me_var (pv 13))) rfl T.n_range rfl sc_law_disk.nd) (me_c pe_int) (fun _ _ => rfl))))
    mss_nil)
    (mss_cons (ms_expr (me_bm (me_var (pv 11)) (ma_cons (me_mv (me_var (pv 12))) ma_nil) fApp_ok (fun a b => pe_bm PySem.F.plainAttrs_list PySem.F.slot_list_append PySem.F.type_list_append mt_append a b)))
    (mss_one (ms_expr (me_call (is := [0, 1]) (sim_law_put T) (hr.mono (by decide)) (takes_of rfl rfl rfl rfl) rfl T.m_law_put T.F_law_put.kp T.b_law_put (ma_cons (me_var (pv 4)) (ma_cons (me_var (pv 2)) (ma_cons (me_var (pv 12)) (ma_cons (me_ixA hr.units (me_var (pv 9)) (me_var (pv 8)) (fun _ _ => rfl)) ma_nil)))) (by decide) (by decide))))))) rfl T.n_range (passes_of rfl) rfl)
    (mss_one (ms_ret (me_mv (me_var (pv 4))))))))))))))))
abbrev md_law_marks : List Bool := [false, false]
def b_law_marks_1 : GS := (sIf (gAnd (gSeq (gSeq (gSeq (gSeq (gVar 0) (gVar 5)) fIxA) (gC .non)) fNotN) (gAnd (gSeq (gSeq (gSeq (gSeq (gSeq (gSeq (gVar 0) (gVar 5)) fIxA) (gC (.int 0))) fIxA) (gC (.str "mark"))) fEq) (gSeq (gSeq (gSeq (gSeq (gSeq (gSeq (gVar 0) (gVar 5)) fIxA) (gC (.int 1))) fIxA) (gSeq (gSeq (gSeq (gSeq (gVar 1) (gC (.int 1))) fAdd) (gVar 3)) fAdd)) fEq))) (sExpr (gSeq (gVar 4) (gSeq chkL (gSeq (gSeq (gVar 5) gNil) fApp)))) sNil)
def b_law_marks_2 : GS := (sSeq (sSet md_law_marks 4 (gSeq gNil (fNew .lst 0)))
    (sSeq (sForR1 (gSeq (gC (.int 30)) gNil) (bind md_law_marks 5) b_law_marks_1)
    (sSeq (sIf (gSeq (gSeq (gSeq (gSeq (gVar 4) gNil) fLen) (gC (.int 0))) fEq) (sRet (gSeq (gVar 2) (fMv md_law_marks))) sNil)
    (sExpr (gSeq (gVar 2) (gSeq chkL (gSeq (gSeq (gSeq (gSeq (gSeq (gSeq (gVar 4) (gC (.int 0))) fIxA) (gSeq (gSeq (gSeq (gVar 0) (gSeq (gSeq (gVar 4) (gC (.int 0))) fIxA)) fIxA) gNil)) (fNew .tup 2)) gNil) fApp)))))))
def g_law_marks : GS := (sSeq (sSet md_law_marks 2 (gSeq gNil (fNew .lst 0)))
    (sSeq (sForR1 (gSeq (gC (.int 40)) gNil) (bind md_law_marks 3) b_law_marks_2)
    (sRet (gSeq (gVar 2) (fMv md_law_marks)))))
def G_law_marks : GF := runF md_law_marks 6 g_law_marks
theorem sim_law_marks (T : Txt K mg) : FnOk P w K mg base (L2N.CX P w) 1 T.a_law_marks T.fd_law_marks ["_law_log", "_law_head"] (spOf (kcm K (kt P w T)) md_law_marks G_law_marks) :=
  fn_sim T.F_law_marks sc_law_marks rfl (by decide) fun cdv A outer s H E hr =>
  (mss_cons (ms_set (i := 2) sc_law_marks.nd rfl (Or.inl rfl) (me_lst ma_nil (by show 0 ≤ sizeLine; decide)))
    (mss_cons (ms_forR1 (ma_cons (me_c pe_int) ma_nil) (mg_name (i := 3) sc_law_marks.nd rfl (Or.inl rfl))
    (mss_cons (ms_set (i := 4) sc_law_marks.nd rfl (Or.inl rfl) (me_lst ma_nil (by show 0 ≤ sizeLine; decide)))
    (mss_cons (ms_forR1 (ma_cons (me_c pe_int) ma_nil) (mg_name (i := 5) sc_law_marks.nd rfl (Or.inl rfl))
    (mss_one (ms_if (mw_pt (mw_and (mt_cmp op_notN fNotN_ok (me_ixA hr.units (me_var (pv 0)) (me_var (pv 5)) (fun _ _ => rfl)) (me_c pe_non) (nomark _)) (mw_and (mt_cmp (OpR.or op_eq (op_eqD hr.units)) fEq_ok (me_ixA hr.units (me_ixA hr.units (me_var (pv 0)) (me_var (pv 5)) (fun _ _ => rfl)) (me_c pe_int) (fun _ _ => rfl)) (me_c pe_str) (nomark _)) (mw_and1 (mt_cmp (OpR.or op_eq (op_eqD hr.units)) fEq_ok (me_ixA hr.units (me_ixA hr.units (me_var (pv 0)) (me_var (pv 5)) (fun _ _ => rfl)) (me_c pe_int) (fun _ _ => rfl)) (me_add (me_add (me_var (pv 1)) (me_c pe_int)) (me_var (pv 3))) (nomark _)))))) (mss_one (ms_expr (me_bm (me_var (pv 4)) (ma_cons (me_var (pv 5)) ma_nil) fApp_ok (fun a b => pe_bm PySem.F.plainAttrs_list PySem.F.slot_list_append PySem.F.type_list_append mt_append a b))))
    mss_nil)) rfl T.n_range (passes_of rfl) rfl)
    (mss_cons (ms_if (mt_cmp (OpR.or op_eq (op_eqD hr.units)) fEq_ok (me_callB (CallR.or call_len call_lenR) fLen_ok (by rfl) T.n_len (by decide +kernel) (ma_cons (me_var (pv 4)) ma_nil)) (me_c pe_int) (nomark _)) (mss_one (ms_ret (me_mv (me_var (pv 2)))))
    mss_nil)
    (mss_one (ms_expr (me_bm (me_var (pv 2)) (ma_cons (me_tup (ma_cons (me_ixA hr.units (me_var (pv 4)) (me_c pe_int) (fun _ _ => rfl)) (ma_cons (me_ixA hr.units (me_var (pv 0)) (me_ixA hr.units (me_var (pv 4)) (me_c pe_int) (fun _ _ => rfl)) (fun _ _ => rfl)) ma_nil)) (by show 2 ≤ sizeLine; decide)) ma_nil) fApp_ok (fun a b => pe_bm PySem.F.plainAttrs_list PySem.F.slot_list_append PySem.F.type_list_append mt_append a b))))))) rfl T.n_range (passes_of rfl) rfl)
    (mss_one (ms_ret (me_mv (me_var (pv 2)))))))
abbrev md_law_live : List Bool := [false, false, false]
def b_law_live_1 : GS := (sIf (gSeq (gSeq (gVar 1) (gSeq (gSeq (gSeq (gSeq (gSeq (gSeq (gVar 0) (gVar 7)) fIxA) (gC (.int 1))) fIxA) (gC (.int 3))) fIxA)) fInA) (sSet md_law_live 6 (gC (.bl true))) sNil)
def b_law_live_2 : GS := (sIf (gAnd (gSeq (gSeq (gSeq (gSeq (gVar 8) (gC (.int 0))) fIxA) (gVar 1)) fEq) (gNot (gVar 6))) (sSet md_law_live 3 (gSeq (gSeq (gSeq (gSeq (gVar 5) (gC (.int 1))) fIxA) (gSeq (gSeq (gSeq (gVar 8) (gC (.int 1))) fIxA) gNil)) (fNew .tup 2))) sNil)
def b_law_live_3 : GS := (sSeq (sSet md_law_live 5 (gSeq (gSeq (gSeq (gSeq (gVar 0) (gVar 4)) fIxA) (gC (.int 1))) fIxA))
    (sSeq (sSet md_law_live 6 (gAnd (gSeq (gSeq (gVar 1) (gSeq (gSeq (gVar 5) (gC (.int 3))) fIxA)) fInA) (gNot (gVar 2))))
    (sSeq (sForR2 (gSeq (gSeq (gSeq (gVar 4) (gC (.int 1))) fAdd) (gSeq (gSeq (gSeq (gVar 0) gNil) fLen) gNil)) (bind md_law_live 7) b_law_live_1)
    (sFor (gSeq (gSeq (gVar 5) (gC (.int 2))) fIxA) (bind md_law_live 8) b_law_live_2))))
def g_law_live : GS := (sSeq (sSet md_law_live 3 (gC .non))
    (sSeq (sForR1 (gSeq (gSeq (gSeq (gVar 0) gNil) fLen) gNil) (bind md_law_live 4) b_law_live_3)
    (sRet (gSeq (gVar 3) (fMv md_law_live)))))
def G_law_live : GF := runF md_law_live 9 g_law_live
theorem sim_law_live (T : Txt K mg) : FnOk P w K mg base (L2N.CX P w) 1 T.a_law_live T.fd_law_live ["_law_marks_here", "_law_x", "_law_lapse"] (spOf (kcm K (kt P w T)) md_law_live G_law_live) :=
  fn_sim T.F_law_live sc_law_live rfl (by decide) fun cdv A outer s H E hr =>
  (mss_cons (ms_set (i := 3) sc_law_live.nd rfl (Or.inl rfl) (me_c pe_non))
    (mss_cons (ms_forR1 (ma_cons (me_callB (CallR.or call_len call_lenR) fLen_ok (by rfl) T.n_len (by decide +kernel) (ma_cons (me_var (pv 0)) ma_nil)) ma_nil) (mg_name (i := 4) sc_law_live.nd rfl (Or.inl rfl))
    (mss_cons (ms_set (i := 5) sc_law_live.nd rfl (Or.inl rfl) (me_ixA hr.units (me_ixA hr.units (me_var (pv 0)) (me_var (pv 4)) (fun _ _ => rfl)) (me_c pe_int) (fun _ _ => rfl)))
    (mss_cons (ms_set (i := 6) sc_law_live.nd rfl (Or.inl rfl) (me_and (me_cmp (op_inA hr.units) fInA_ok (me_var (pv 1)) (me_ixA hr.units (me_var (pv 5)) (me_c pe_int) (fun _ _ => rfl)) rfl) (me_one (me_not (me_var (pv 2))))))
    (mss_cons (ms_forR2 (ma_cons (me_add (me_var (pv 4)) (me_c pe_int)) (ma_cons (me_callB (CallR.or call_len call_lenR) fLen_ok (by rfl) T.n_len (by decide +kernel) (ma_cons (me_var (pv 0)) ma_nil)) ma_nil)) (mg_name (i := 7) sc_law_live.nd rfl (Or.inl rfl))
    (mss_one (ms_if (mt_cmp (op_inA hr.units) fInA_ok (me_var (pv 1)) (me_ixA hr.units (me_ixA hr.units (me_ixA hr.units (me_var (pv 0)) (me_var (pv 7)) (fun _ _ => rfl)) (me_c pe_int) (fun _ _ => rfl)) (me_c pe_int) (fun _ _ => rfl)) rfl) (mss_one (ms_set (i := 6) sc_law_live.nd rfl (Or.inl rfl) (me_c pe_bl)))
    mss_nil)) rfl T.n_range (passes_of rfl) rfl)
    (mss_one (ms_for (me_ixA hr.units (me_var (pv 5)) (me_c pe_int) (fun _ _ => rfl)) (mg_name (i := 8) sc_law_live.nd rfl (Or.inl rfl))
    (mss_one (ms_if (mw_pt (mw_and (mt_cmp (OpR.or op_eq (op_eqD hr.units)) fEq_ok (me_ixA hr.units (me_var (pv 8)) (me_c pe_int) (fun _ _ => rfl)) (me_var (pv 1)) (nomark _)) (mw_and1 (mt_not (mt_val (me_var (pv 6))))))) (mss_one (ms_set (i := 3) sc_law_live.nd rfl (Or.inl rfl) (me_tup (ma_cons (me_ixA hr.units (me_var (pv 5)) (me_c pe_int) (fun _ _ => rfl)) (ma_cons (me_ixA hr.units (me_var (pv 8)) (me_c pe_int) (fun _ _ => rfl)) ma_nil)) (by show 2 ≤ sizeLine; decide))))
    mss_nil)) (passes_of rfl) rfl))))) rfl T.n_range (passes_of rfl) rfl)
    (mss_one (ms_ret (me_mv (me_var (pv 3)))))))
abbrev md_law_slots : List Bool := [false, false]
def e_law_slots_1 : GE := (gSeq (gSeq (gVar 3) (gC (.int 0))) fIxA)
def b_law_slots_1 : GS := (sSeq (sSet md_law_slots 5 (gSeq (gSeq (gVar 0) (gSeq (gVar 4) (gSeq (gVar 1) gNil))) (gCall [] md_law_live G_law_live 3)))
    (sIf (gAnd (gSeq (gSeq (gVar 5) (gC .non)) fNotN) (gAnd (gSeq (gSeq (gSeq (gSeq (gVar 5) (gC (.int 1))) fIxA) (gC (.int 0))) fGe) (gSeq (gSeq (gSeq (gSeq (gVar 5) (gC (.int 1))) fIxA) (gVar 2)) fNotInA))) (sExpr (gSeq (gVar 2) (gSeq chkL (gSeq (gSeq (gSeq (gSeq (gVar 5) (gC (.int 1))) fIxA) gNil) fApp)))) sNil))
def g_law_slots : GS := (sSeq (sSet md_law_slots 2 (gLc [3] (gVar 0) (bind md_law_slots 3) (gC (.bl true)) e_law_slots_1))
    (sSeq (sForR1 (gSeq (gC (.int 24)) gNil) (bind md_law_slots 4) b_law_slots_1)
    (sRet (gSeq (gSeq (gVar 2) gNil) fSrt))))
def G_law_slots : GF := runF md_law_slots 6 g_law_slots
theorem sim_law_slots (T : Txt K mg) : FnOk P w K mg base (L2N.CX P w) 2 T.a_law_slots T.fd_law_slots ["_law_marks_here", "_law_lapse"] (spOf (kcm K (kt P w T)) md_law_slots G_law_slots) :=
  fn_sim T.F_law_slots sc_law_slots rfl (by decide) fun cdv A outer s H E hr =>
  (mss_cons (ms_lc0 (me_var (pv 0)) (blkOk_by (own := [("_law_mark_here", 3)]) (N := N_law_slots) (sc := defScope s_law_slots) (by decide +kernel)) (fun _ _ _ _ _ => pg_name (i := 3) sc_law_slots.nd rfl (Or.inl rfl)) (fun _ _ _ _ _ => (me_ixA hr.units (me_var (pv 3)) (me_c pe_int) (fun _ _ => rfl))) rfl sc_law_slots.nd rfl rfl (sw_true rfl rfl rfl (by decide +kernel)))
    (mss_cons (ms_forR1 (ma_cons (me_c pe_int) ma_nil) (mg_name (i := 4) sc_law_slots.nd rfl (Or.inl rfl))
    (mss_cons (ms_set (i := 5) sc_law_slots.nd rfl (Or.inl rfl) (me_call (is := []) (sim_law_live T) (hr.mono (by decide)) (takes_of rfl rfl rfl rfl) rfl T.m_law_live T.F_law_live.kp T.b_law_live (ma_cons (me_var (pv 0)) (ma_cons (me_var (pv 4)) (ma_cons (me_var (pv 1)) ma_nil))) (by decide) (by decide)))
    (mss_one (ms_if (mw_pt (mw_and (mt_cmp op_notN fNotN_ok (me_var (pv 5)) (me_c pe_non) (nomark _)) (mw_and (mt_cmp op_ge fI_ok0 (me_ixA hr.units (me_var (pv 5)) (me_c pe_int) (fun _ _ => rfl)) (me_c pe_int) (nomark _)) (mw_and1 (mt_cmp (op_notInA hr.units) fNotInA_ok (me_ixA hr.units (me_var (pv 5)) (me_c pe_int) (fun _ _ => rfl)) (me_var (pv 2)) rfl))))) (mss_one (ms_expr (me_bm (me_var (pv 2)) (ma_cons (me_ixA hr.units (me_var (pv 5)) (me_c pe_int) (fun _ _ => rfl)) ma_nil) fApp_ok (fun a b => pe_bm PySem.F.plainAttrs_list PySem.F.slot_list_append PySem.F.type_list_append mt_append a b))))
    mss_nil))) rfl T.n_range (passes_of rfl) rfl)
    (mss_one (ms_ret (me_callB cr_sortedI fSrt_ok (by rfl) T.n_sorted (by decide +kernel) (ma_cons (me_var (pv 2)) ma_nil))))))
abbrev md_law_cells : List Bool := [false, false, false, false, false]
def g_law_cells : GS := (sSeq (sSet md_law_cells 5 (gSeq (gSeq (gVar 1) (gSeq (gVar 3) (gSeq (gVar 4) gNil))) (gCall [] md_law_live G_law_live 3)))
    (sSeq (sIf (gSeq (gSeq (gVar 5) (gC .non)) fIsN) (sRet (gSeq (gSeq (gVar 2) (gVar 3)) fIxA)) sNil)
    (sSeq (sAsg (gVar 5) (unpk md_law_cells [6, 7]))
    (sSeq (sIf (gAnd (gSeq (gSeq (gVar 7) (gC (.int 0))) fGe) (gAnd (gSeq (gSeq (gSeq (gSeq (gVar 0) (gVar 7)) fIxA) (gC .non)) fNotN) (gSeq (gSeq (gSeq (gSeq (gSeq (gSeq (gSeq (gVar 0) (gVar 7)) fIxA) gNoP) (gSeq (gC (.int 3)) chkInt)) (fSl false true)) (gSeq (gSeq (gC (.str "copy")) (gSeq (gSeq (gVar 6) (fMv md_law_cells)) (gSeq (gVar 3) gNil))) (fNew .tup 3))) fEq))) (sRet (gSeq (gSeq (gSeq (gSeq (gVar 0) (gVar 7)) fIxA) (gC (.int 3))) fIxA)) sNil)
    (sRet (gSeq (gSeq (gC (.int 0)) (gSeq (gC (.int 0)) (gSeq (gC (.int 0)) (gSeq (gC (.int 0)) (gSeq (gC (.int 0)) (gSeq (gC (.int 0)) (gSeq (gC (.int 0)) (gSeq (gC (.int 0)) gNil)))))))) (fNew .tup 8)))))))
def G_law_cells : GF := runF md_law_cells 8 g_law_cells
theorem sim_law_cells (T : Txt K mg) : FnOk P w K mg base (L2N.CX P w) 2 T.a_law_cells T.fd_law_cells ["_law_log", "_law_marks_here", "_law_home", "_law_x", "_law_lapse"] (spOf (kcm K (kt P w T)) md_law_cells G_law_cells) :=
  fn_sim T.F_law_cells sc_law_cells rfl (by decide) fun cdv A outer s H E hr =>
  (mss_cons (ms_set (i := 5) sc_law_cells.nd rfl (Or.inl rfl) (me_call (is := []) (sim_law_live T) (hr.mono (by decide)) (takes_of rfl rfl rfl rfl) rfl T.m_law_live T.F_law_live.kp T.b_law_live (ma_cons (me_var (pv 1)) (ma_cons (me_var (pv 3)) (ma_cons (me_var (pv 4)) ma_nil))) (by decide) (by decide)))
    (mss_cons (ms_if (mt_cmp op_isN fIsN_ok (me_var (pv 5)) (me_c pe_non) (nomark _)) (mss_one (ms_ret (me_ixA hr.units (me_var (pv 2)) (me_var (pv 3)) (fun _ _ => rfl))))
    mss_nil)
    (mss_cons (ms_asg (me_var (pv 5)) (mg_unp (is := [6, 7]) (pg_tup (by rfl) (pgs_cons (pg_name (i := 6) sc_law_cells.nd rfl (Or.inl rfl)) (pgs_cons (pg_name (i := 7) sc_law_cells.nd rfl (Or.inl rfl)) pgs_nil))) (pg_lst (by rfl) (pgs_cons (pg_name (i := 6) sc_law_cells.nd rfl (Or.inl rfl)) (pgs_cons (pg_name (i := 7) sc_law_cells.nd rfl (Or.inl rfl)) pgs_nil)))) (fun a b => ps_asg a b))
    (mss_cons (ms_if (mw_pt (mw_and (mt_cmp op_ge fI_ok0 (me_var (pv 7)) (me_c pe_int) (nomark _)) (mw_and (mt_cmp op_notN fNotN_ok (me_ixA hr.units (me_var (pv 0)) (me_var (pv 7)) (fun _ _ => rfl)) (me_c pe_non) (nomark _)) (mw_and1 (mt_cmp (OpR.or op_eq (op_eqD hr.units)) fEq_ok (me_sl (me_ixA hr.units (me_var (pv 0)) (me_var (pv 7)) (fun _ _ => rfl)) mo_none (mo_some (me_c pe_int))) (me_tup (ma_cons (me_c pe_str) (ma_cons (me_mv (me_var (pv 6))) (ma_cons (me_var (pv 3)) ma_nil))) (by show 3 ≤ sizeLine; decide)) (nomark _)))))) (mss_one (ms_ret (me_ixA hr.units (me_ixA hr.units (me_var (pv 0)) (me_var (pv 7)) (fun _ _ => rfl)) (me_c pe_int) (fun _ _ => rfl))))
    mss_nil)
    (mss_one (ms_ret (me_tup (ma_cons (me_c pe_int) (ma_cons (me_c pe_int) (ma_cons (me_c pe_int) (ma_cons (me_c pe_int) (ma_cons (me_c pe_int) (ma_cons (me_c pe_int) (ma_cons (me_c pe_int) (ma_cons (me_c pe_int) ma_nil)))))))) (by show 8 ≤ sizeLine; decide))))))))
abbrev md_law_all_cells : List Bool := [false, false]
def e_law_all_cells_1 : GE := (gSeq (gSeq (gVar 0) (gSeq (gVar 2) (gSeq (gVar 3) gNil))) (gSeq (gSeq (gVar 1) gNil) (noEx (gCall [] md_cells_after G_cells_after 4))))
def g_law_all_cells : GS := (sSeq (sSet md_law_all_cells 2 (gSeq (gSeq (gVar 0) gNil) (gCall [] md_found_marks G_found_marks 1)))
    (sRet (gLcR1 [3] (gSeq (gC (.int 24)) gNil) (bind md_law_all_cells 3) (gC (.bl true)) e_law_all_cells_1)))
def G_law_all_cells : GF := runF md_law_all_cells 4 g_law_all_cells
theorem sim_law_all_cells (T : Txt K mg) : FnOk P w K mg base (L2N.CX P w) 3 T.a_law_all_cells T.fd_law_all_cells ["_law_disk_here", "_law_lapse"] (spOf (kcm K (kt P w T)) md_law_all_cells G_law_all_cells) :=
  fn_sim T.F_law_all_cells sc_law_all_cells rfl (by decide) fun cdv A outer s H E hr =>
  (mss_cons (ms_set (i := 2) sc_law_all_cells.nd rfl (Or.inr rfl) (me_call (is := []) (sim_found_marks T) (hr.mono (by decide)) (takes_of rfl rfl rfl rfl) rfl T.m_found_marks T.F_found_marks.kp T.b_found_marks (ma_cons (me_var (pv 0)) ma_nil) (by decide) (by decide)))
    (mss_one (ms_ret (me_lcR10 (ma_cons (me_c pe_int) ma_nil) (blkOk_by (own := [("_law_x", 3)]) (N := N_law_all_cells) (sc := defScope s_law_all_cells) (by decide +kernel)) (fun _ _ _ _ _ => pg_name (i := 3) sc_law_all_cells.nd rfl (Or.inl rfl)) (fun _ _ _ _ _ => (me_callN (is := []) (sim_cells_after T) (hr.mono (by decide)) rfl T.m_cells_after T.F_cells_after.kp T.b_cells_after (ma_cons (me_var (pv 0)) (ma_cons (me_var (pv 2)) (ma_cons (me_var (pv 3)) ma_nil))) (mk_cons (me_var (pv 1)) mk_nil) rfl (by decide) (by decide))) rfl T.n_range rfl sc_law_all_cells.nd))))
abbrev md_law_other_slots : List Bool := [true, true, false, false, false]
def e_law_other_slots_1 : GE := (gSeq (gSeq (gVar 1) (gSeq (gVar 5) (gSeq (gVar 3) (gSeq (gVar 8) (gSeq (gVar 4) gNil))))) (gCall [] md_law_cells G_law_cells 5))
def e_law_other_slots_2 : GE := (gSeq (gSeq (gSeq (gSeq (gSeq (gSeq (gVar 10) (gC (.int 1))) fIxA) (gC (.int 1))) fIxA) (gSeq (gSeq (gSeq (gVar 11) (gC (.int 0))) fIxA) gNil)) (fNew .tup 2))
def b_law_other_slots_1 : GS := (sExpr (gSeq (gVar 9) (gSeq chkL (gSeq (gSeq (gLc [11] (gSeq (gSeq (gSeq (gSeq (gVar 10) (gC (.int 1))) fIxA) (gC (.int 2))) fIxA) (bind md_law_other_slots 11) (gC (.bl true)) e_law_other_slots_2) gNil) fExt))))
def b_law_other_slots_2 : GS := (sIf (gSeq (gSeq (gVar 12) (gVar 6)) fNotInA) (sSeq (sAsg (gSeq (gSeq (gVar 9) (gSeq (gSeq (gSeq (gSeq (gVar 12) gNil) fInt) (gSeq (gSeq (gVar 9) gNil) fLen)) fMod)) fIxA) (unpk md_law_other_slots [13, 14]))
    (sSeq (sExpr (gSeq (gSeq (gVar 0) (gSeq (gVar 1) (gSeq (gVar 12) (gSeq (gSeq (gSeq (gC (.str "copy")) (gSeq (gSeq (gVar 13) (fMv md_law_other_slots)) (gSeq (gSeq (gVar 14) (fMv md_law_other_slots)) (gSeq (gSeq (gSeq (gSeq (gSeq (gVar 12) (gC (.int 1))) fAdd) (gSeq (gC (.int 555)) (gSeq (gC (.int 0)) (gSeq (gC (.int 0)) (gSeq (gC (.int 0)) (gSeq (gC (.int 0)) (gSeq (gC (.int 0)) (gSeq (gC (.int 7)) gNil)))))))) (fNew .tup 8)) gNil)))) (fNew .tup 4)) gNil)))) (gCall [0, 1] md_law_put G_law_put 4)))
    (sIf (gSeq (gSeq (gSeq (gSeq (gVar 0) (gSeq (gVar 4) gNil)) (gCall [] md_law_all_cells G_law_all_cells 2)) (gVar 7)) fNe) (sRet (gC (.bl false))) sNil))) sNil)
def g_law_other_slots : GS := (sSeq (sSet md_law_other_slots 5 (gSeq (gSeq (gVar 1) (gSeq (gVar 2) gNil)) (gCall [] md_law_marks G_law_marks 2)))
    (sSeq (sSet md_law_other_slots 6 (gSeq (gSeq (gVar 5) (gSeq (gVar 4) gNil)) (gCall [] md_law_slots G_law_slots 2)))
    (sSeq (sSet md_law_other_slots 7 (gLcR1 [8] (gSeq (gC (.int 24)) gNil) (bind md_law_other_slots 8) (gC (.bl true)) e_law_other_slots_1))
    (sSeq (sSet md_law_other_slots 9 (gSeq gNil (fNew .lst 0)))
    (sSeq (sFor (gVar 5) (bind md_law_other_slots 10) b_law_other_slots_1)
    (sSeq (sExpr (gSeq (gVar 9) (gSeq chkL (gSeq (gSeq (gSeq (gSeq (gSeq (gSeq (gVar 2) (gC (.int 1))) fAdd) (gSeq (gC (.int 10)) gNil)) (fNew .tup 2)) gNil) fApp))))
    (sSeq (sForR1 (gSeq (gC (.int 30)) gNil) (bind md_law_other_slots 12) b_law_other_slots_2)
    (sRet (gSeq (gSeq (gSeq (gSeq (gVar 0) gNil) (gSeq (gSeq (gVar 4) gNil) (noEx (gCall [] md_slots_read G_slots_read 2)))) (gSeq (gVar 6) gNil)) (gCall [] md_law_same G_law_same 2))))))))))
def G_law_other_slots : GF := runF md_law_other_slots 15 g_law_other_slots
theorem sim_law_other_slots (T : Txt K mg) : FnOk P w K mg base (L2N.CX P w) 11 T.a_law_other_slots T.fd_law_other_slots ["_law_disk_here", "_law_log", "_law_head", "_law_home", "_law_lapse"] (spOf (kcm K (kt P w T)) md_law_other_slots G_law_other_slots) :=
  fn_sim T.F_law_other_slots sc_law_other_slots rfl (by decide) fun cdv A outer s H E hr =>
  (mss_cons (ms_set (i := 5) sc_law_other_slots.nd rfl (Or.inr rfl) (me_call (is := []) (sim_law_marks T) (hr.mono (by decide)) (takes_of rfl rfl rfl rfl) rfl T.m_law_marks T.F_law_marks.kp T.b_law_marks (ma_cons (me_var (pv 1)) (ma_cons (me_var (pv 2)) ma_nil)) (by decide) (by decide)))
    (mss_cons (ms_set (i := 6) sc_law_other_slots.nd rfl (Or.inl rfl) (me_call (is := []) (sim_law_slots T) (hr.mono (by decide)) (takes_of rfl rfl rfl rfl) rfl T.m_law_slots T.F_law_slots.kp T.b_law_slots (ma_cons (me_var (pv 5)) (ma_cons (me_var (pv 4)) ma_nil)) (by decide) (by decide)))
    (mss_cons (ms_lcR10 (ma_cons (me_c pe_int) ma_nil) (blkOk_by (own := [("_law_x", 8)]) (N := N_law_other_slots) (sc := defScope s_law_other_slots) (by decide +kernel)) (fun _ _ _ _ _ => pg_name (i := 8) sc_law_other_slots.nd rfl (Or.inl rfl)) (fun _ _ _ _ _ => (me_call (is := []) (sim_law_cells T) (hr.mono (by decide)) takes0 rfl T.m_law_cells T.F_law_cells.kp T.b_law_cells (ma_cons (me_var (pv 1)) (ma_cons (me_var (pv 5)) (ma_cons (me_var (pv 3)) (ma_cons (me_var (pv 8)) (ma_cons (me_var (pv 4)) ma_nil))))) (by decide) (by decide))) rfl T.n_range rfl sc_law_other_slots.nd rfl rfl (sw_true rfl rfl rfl (by decide +kernel)))
    (mss_cons (ms_set (i := 9) sc_law_other_slots.nd rfl (Or.inl rfl) (me_lst ma_nil (by show 0 ≤ sizeLine; decide)))
    (mss_cons (ms_for (me_var (pv 5)) (mg_name (i := 10) sc_law_other_slots.nd rfl (Or.inr rfl))
    (mss_one (ms_expr (me_bm (me_var (pv 9)) (ma_cons (me_lc0 (me_ixA hr.units (me_ixA hr.units (me_var (pv 10)) (me_c pe_int) (fun _ _ => rfl)) (me_c pe_int) (fun _ _ => rfl)) (blkOk_by (own := [("_law_pair", 11)]) (N := N_law_other_slots) (sc := defScope s_law_other_slots) (by decide +kernel)) (fun _ _ _ _ _ => pg_name (i := 11) sc_law_other_slots.nd rfl (Or.inl rfl)) (fun _ _ _ _ _ => (me_tup (ma_cons (me_ixA hr.units (me_ixA hr.units (me_var (pv 10)) (me_c pe_int) (fun _ _ => rfl)) (me_c pe_int) (fun _ _ => rfl)) (ma_cons (me_ixA hr.units (me_var (pv 11)) (me_c pe_int) (fun _ _ => rfl)) ma_nil)) (by show 2 ≤ sizeLine; decide))) rfl sc_law_other_slots.nd) ma_nil) fExt_ok (fun a b => pe_bm PySem.F.plainAttrs_list PySem.F.slot_list_extend PySem.F.type_list_extend mt_extend a b)))) (passes_of rfl) rfl)
    (mss_cons (ms_expr (me_bm (me_var (pv 9)) (ma_cons (me_tup (ma_cons (me_add (me_var (pv 2)) (me_c pe_int)) (ma_cons (me_c pe_int) ma_nil)) (by show 2 ≤ sizeLine; decide)) ma_nil) fApp_ok (fun a b => pe_bm PySem.F.plainAttrs_list PySem.F.slot_list_append PySem.F.type_list_append mt_append a b)))
    (mss_cons (ms_forR1 (ma_cons (me_c pe_int) ma_nil) (mg_name (i := 12) sc_law_other_slots.nd rfl (Or.inl rfl))
    (mss_one (ms_if (mt_cmp (op_notInA hr.units) fNotInA_ok (me_var (pv 12)) (me_var (pv 6)) rfl) (mss_cons (ms_asg (me_ixA hr.units (me_var (pv 9)) (me_mod (me_callTy call_int1 fInt_ok (by rfl) T.n_int (by decide +kernel) (ma_cons (me_var (pv 12)) ma_nil)) (me_callB (CallR.or call_len call_lenR) fLen_ok (by rfl) T.n_len (by decide +kernel) (ma_cons (me_var (pv 9)) ma_nil))) (fun _ _ => rfl)) (mg_unp (is := [13, 14]) (pg_tup (by rfl) (pgs_cons (pg_name (i := 13) sc_law_other_slots.nd rfl (Or.inl rfl)) (pgs_cons (pg_name (i := 14) sc_law_other_slots.nd rfl (Or.inl rfl)) pgs_nil))) (pg_lst (by rfl) (pgs_cons (pg_name (i := 13) sc_law_other_slots.nd rfl (Or.inl rfl)) (pgs_cons (pg_name (i := 14) sc_law_other_slots.nd rfl (Or.inl rfl)) pgs_nil)))) (fun a b => ps_asg a b))
    (mss_cons (ms_expr (me_call (is := [0, 1]) (sim_law_put T) (hr.mono (by decide)) (takes_of rfl rfl rfl rfl) rfl T.m_law_put T.F_law_put.kp T.b_law_put (ma_cons (me_var (pv 0)) (ma_cons (me_var (pv 1)) (ma_cons (me_var (pv 12)) (ma_cons (me_tup (ma_cons (me_c pe_str) (ma_cons (me_mv (me_var (pv 13))) (ma_cons (me_mv (me_var (pv 14))) (ma_cons (me_tup (ma_cons (me_add (me_var (pv 12)) (me_c pe_int)) (ma_cons (me_c pe_int) (ma_cons (me_c pe_int) (ma_cons (me_c pe_int) (ma_cons (me_c pe_int) (ma_cons (me_c pe_int) (ma_cons (me_c pe_int) (ma_cons (me_c pe_int) ma_nil)))))))) (by show 8 ≤ sizeLine; decide)) ma_nil)))) (by show 4 ≤ sizeLine; decide)) ma_nil)))) (by decide) (by decide)))
    (mss_one (ms_if (mt_cmp (OpR.or op_ne (op_neD hr.units)) fNe_ok (me_call (is := []) (sim_law_all_cells T) (hr.mono (by decide)) (takes_of rfl rfl rfl rfl) rfl T.m_law_all_cells T.F_law_all_cells.kp T.b_law_all_cells (ma_cons (me_var (pv 0)) (ma_cons (me_var (pv 4)) ma_nil)) (by decide) (by decide)) (me_var (pv 7)) (nomark _)) (mss_one (ms_ret (me_c pe_bl)))
    mss_nil))))
    mss_nil)) rfl T.n_range (passes_of rfl) rfl)
    (mss_one (ms_ret (me_call (is := []) (sim_law_same T) (hr.mono (by decide)) (takes_of rfl rfl rfl rfl) rfl T.m_law_same T.F_law_same.kp T.b_law_same (ma_cons (me_callN (is := []) (sim_slots_read T) (hr.mono (by decide)) rfl T.m_slots_read T.F_slots_read.kp T.b_slots_read (ma_cons (me_var (pv 0)) ma_nil) (mk_cons (me_var (pv 4)) mk_nil) rfl (by decide) (by decide)) (ma_cons (me_var (pv 6)) ma_nil)) (by decide) (by decide)))))))))))
abbrev md_law_told_slots : List Bool := [true, true, false, false]
def e_law_told_slots_1 : GE := (gSeq (gSeq (gVar 6) (gC (.int 0))) fIxA)
def b_law_told_slots_1 : GS := (sSeq (sSet md_law_told_slots 8 (gSeq (gSeq (gVar 4) (gSeq (gVar 7) (gSeq (gVar 3) gNil))) (gCall [] md_law_live G_law_live 3)))
    (sIf (gAnd (gSeq (gSeq (gVar 8) (gC .non)) fNotN) (gAnd (gSeq (gSeq (gSeq (gSeq (gVar 8) (gC (.int 1))) fIxA) (gC (.int 0))) fGe) (gSeq (gSeq (gSeq (gSeq (gVar 8) (gC (.int 1))) fIxA) (gVar 5)) fNotInA))) (sSeq (sAsg (gVar 8) (unpk md_law_told_slots [9, 10]))
    (sSeq (sSet md_law_told_slots 11 (gSeq (gSeq (gVar 0) (gSeq (gSeq (gSeq (gVar 0) gNil) (gCall [] md_found_marks G_found_marks 1)) (gSeq (gVar 7) gNil))) (gSeq (gSeq (gVar 3) gNil) (noEx (gCall [] md_cells_after G_cells_after 4)))))
    (sSeq (sSet md_law_told_slots 12 (gSeq (gSeq (gVar 7) (gSeq (gC (.int 777)) (gSeq (gC (.int 0)) (gSeq (gC (.int 0)) (gSeq (gC (.int 0)) (gSeq (gC (.int 0)) (gSeq (gSeq (gVar 10) (fMv md_law_told_slots)) (gSeq (gC (.int 9)) gNil)))))))) (fNew .tup 8)))
    (sSeq (sSet md_law_told_slots 13 (gSeq (gVar 0) (gSeq (chkI 0) (gSeq (gSeq (gSeq (gSeq (gC (.str "log")) (gSeq (gSeq (gVar 10) (fMv md_law_told_slots)) gNil)) (fNew .tup 2)) (gSeq (gSeq (gSeq (gC (.str "copy")) (gSeq (gSeq (gVar 9) (fMv md_law_told_slots)) (gSeq (gVar 7) (gSeq (gSeq (gVar 12) (fMv md_law_told_slots)) gNil)))) (fNew .tup 4)) gNil)) (gCall [0] md_Disk_issue G_Disk_issue 3)))))
    (sSeq (sIf (gNot (gSeq (gSeq (gSeq (gSeq (gVar 0) (gSeq (gSeq (gSeq (gVar 0) gNil) (gCall [] md_found_marks G_found_marks 1)) (gSeq (gVar 7) gNil))) (gSeq (gSeq (gVar 3) gNil) (noEx (gCall [] md_cells_after G_cells_after 4)))) (gSeq (gVar 11) gNil)) (gCall [] md_law_same G_law_same 2))) (sRet (gC (.bl false))) sNil)
    (sSeq (sExpr (gSeq (gVar 0) (gSeq (chkI 0) (gSeq (gSeq (gVar 13) gNil) (gCall [0] md_Disk_sure G_Disk_sure 2)))))
    (sSeq (sSubA (gSeq (gSeq (gC (.str "copy")) (gSeq (gSeq (gVar 9) (fMv md_law_told_slots)) (gSeq (gVar 7) (gSeq (gSeq (gVar 12) (fMv md_law_told_slots)) gNil)))) (fNew .tup 4)) (gVar 1) (gVar 10))
    (sIf (gNot (gSeq (gSeq (gSeq (gSeq (gVar 0) (gSeq (gSeq (gSeq (gVar 0) gNil) (gCall [] md_found_marks G_found_marks 1)) (gSeq (gVar 7) gNil))) (gSeq (gSeq (gVar 3) gNil) (noEx (gCall [] md_cells_after G_cells_after 4)))) (gSeq (gVar 12) gNil)) (gCall [] md_law_same G_law_same 2))) (sRet (gC (.bl false))) sNil)))))))) sNil))
def g_law_told_slots : GS := (sSeq (sSet md_law_told_slots 4 (gSeq (gSeq (gVar 1) (gSeq (gVar 2) gNil)) (gCall [] md_law_marks G_law_marks 2)))
    (sSeq (sSet md_law_told_slots 5 (gLc [6] (gVar 4) (bind md_law_told_slots 6) (gC (.bl true)) e_law_told_slots_1))
    (sSeq (sForR2 (gSeq (gC (.int 10)) (gSeq (gC (.int 18)) gNil)) (bind md_law_told_slots 7) b_law_told_slots_1)
    (sRet (gC (.bl true))))))
def G_law_told_slots : GF := runF md_law_told_slots 14 g_law_told_slots
theorem sim_law_told_slots (T : Txt K mg) : FnOk P w K mg base (L2N.CX P w) 11 T.a_law_told_slots T.fd_law_told_slots ["_law_disk_here", "_law_log", "_law_head", "_law_lapse"] (spOf (kcm K (kt P w T)) md_law_told_slots G_law_told_slots) :=
  fn_sim T.F_law_told_slots sc_law_told_slots rfl (by decide) fun cdv A outer s H E hr =>
  (mss_cons (ms_set (i := 4) sc_law_told_slots.nd rfl (Or.inl rfl) (me_call (is := []) (sim_law_marks T) (hr.mono (by decide)) (takes_of rfl rfl rfl rfl) rfl T.m_law_marks T.F_law_marks.kp T.b_law_marks (ma_cons (me_var (pv 1)) (ma_cons (me_var (pv 2)) ma_nil)) (by decide) (by decide)))
    (mss_cons (ms_lc0 (me_var (pv 4)) (blkOk_by (own := [("_law_mark_here", 6)]) (N := N_law_told_slots) (sc := defScope s_law_told_slots) (by decide +kernel)) (fun _ _ _ _ _ => pg_name (i := 6) sc_law_told_slots.nd rfl (Or.inl rfl)) (fun _ _ _ _ _ => (me_ixA hr.units (me_var (pv 6)) (me_c pe_int) (fun _ _ => rfl))) rfl sc_law_told_slots.nd rfl rfl (sw_true rfl rfl rfl (by decide +kernel)))
    (mss_cons (ms_forR2 (ma_cons (me_c pe_int) (ma_cons (me_c pe_int) ma_nil)) (mg_name (i := 7) sc_law_told_slots.nd rfl (Or.inl rfl))
    (mss_cons (ms_set (i := 8) sc_law_told_slots.nd rfl (Or.inl rfl) (me_call (is := []) (sim_law_live T) (hr.mono (by decide)) (takes_of rfl rfl rfl rfl) rfl T.m_law_live T.F_law_live.kp T.b_law_live (ma_cons (me_var (pv 4)) (ma_cons (me_var (pv 7)) (ma_cons (me_var (pv 3)) ma_nil))) (by decide) (by decide)))
    (mss_one (ms_if (mw_pt (mw_and (mt_cmp op_notN fNotN_ok (me_var (pv 8)) (me_c pe_non) (nomark _)) (mw_and (mt_cmp op_ge fI_ok0 (me_ixA hr.units (me_var (pv 8)) (me_c pe_int) (fun _ _ => rfl)) (me_c pe_int) (nomark _)) (mw_and1 (mt_cmp (op_notInA hr.units) fNotInA_ok (me_ixA hr.units (me_var (pv 8)) (me_c pe_int) (fun _ _ => rfl)) (me_var (pv 5)) rfl))))) (mss_cons (ms_asg (me_var (pv 8)) (mg_unp (is := [9, 10]) (pg_tup (by rfl) (pgs_cons (pg_name (i := 9) sc_law_told_slots.nd rfl (Or.inl rfl)) (pgs_cons (pg_name (i := 10) sc_law_told_slots.nd rfl (Or.inl rfl)) pgs_nil))) (pg_lst (by rfl) (pgs_cons (pg_name (i := 9) sc_law_told_slots.nd rfl (Or.inl rfl)) (pgs_cons (pg_name (i := 10) sc_law_told_slots.nd rfl (Or.inl rfl)) pgs_nil)))) (fun a b => ps_asg a b))
    (mss_cons (ms_set (i := 11) sc_law_told_slots.nd rfl (Or.inl rfl) (me_callN (is := []) (sim_cells_after T) (hr.mono (by decide)) rfl T.m_cells_after T.F_cells_after.kp T.b_cells_after (ma_cons (me_var (pv 0)) (ma_cons (me_call (is := []) (sim_found_marks T) (hr.mono (by decide)) (takes_of rfl rfl rfl rfl) rfl T.m_found_marks T.F_found_marks.kp T.b_found_marks (ma_cons (me_var (pv 0)) ma_nil) (by decide) (by decide)) (ma_cons (me_var (pv 7)) ma_nil))) (mk_cons (me_var (pv 3)) mk_nil) rfl (by decide) (by decide)))
    (mss_cons (ms_set (i := 12) sc_law_told_slots.nd rfl (Or.inl rfl) (me_tup (ma_cons (me_var (pv 7)) (ma_cons (me_c pe_int) (ma_cons (me_c pe_int) (ma_cons (me_c pe_int) (ma_cons (me_c pe_int) (ma_cons (me_c pe_int) (ma_cons (me_mv (me_var (pv 10))) (ma_cons (me_c pe_int) ma_nil)))))))) (by show 8 ≤ sizeLine; decide)))
    (mss_cons (ms_set (i := 13) sc_law_told_slots.nd rfl (Or.inl rfl) (me_meth (is := [0]) (n := 0) (me_var (pv 0)) T.C_Disk T.m_Disk_issue (show (cnm 0).idxOf? ("issue" : Str) = none by decide +kernel) (sim_Disk_issue T) (hr.mono (by decide)) (takes_of rfl rfl rfl rfl) T.b_Disk_issue (ma_cons (me_tup (ma_cons (me_c pe_str) (ma_cons (me_mv (me_var (pv 10))) ma_nil)) (by show 2 ≤ sizeLine; decide)) (ma_cons (me_tup (ma_cons (me_c pe_str) (ma_cons (me_mv (me_var (pv 9))) (ma_cons (me_var (pv 7)) (ma_cons (me_mv (me_var (pv 12))) ma_nil)))) (by show 4 ≤ sizeLine; decide)) ma_nil)) (by decide) (by decide)))
    (mss_cons (ms_if (mt_not (mt_val (me_call (is := []) (sim_law_same T) (hr.mono (by decide)) (takes_of rfl rfl rfl rfl) rfl T.m_law_same T.F_law_same.kp T.b_law_same (ma_cons (me_callN (is := []) (sim_cells_after T) (hr.mono (by decide)) rfl T.m_cells_after T.F_cells_after.kp T.b_cells_after (ma_cons (me_var (pv 0)) (ma_cons (me_call (is := []) (sim_found_marks T) (hr.mono (by decide)) (takes_of rfl rfl rfl rfl) rfl T.m_found_marks T.F_found_marks.kp T.b_found_marks (ma_cons (me_var (pv 0)) ma_nil) (by decide) (by decide)) (ma_cons (me_var (pv 7)) ma_nil))) (mk_cons (me_var (pv 3)) mk_nil) rfl (by decide) (by decide)) (ma_cons (me_var (pv 11)) ma_nil)) (by decide) (by decide)))) (mss_one (ms_ret (me_c pe_bl)))
    mss_nil)
    (mss_cons (ms_expr (me_meth (is := [0]) (n := 0) (me_var (pv 0)) T.C_Disk T.m_Disk_sure (show (cnm 0).idxOf? ("sure" : Str) = none by decide +kernel) (sim_Disk_sure T) (hr.mono (by decide)) (takes_of rfl rfl rfl rfl) T.b_Disk_sure (ma_cons (me_var (pv 13)) ma_nil) (by decide) (by decide)))
    (mss_cons (ms_subA (me_tup (ma_cons (me_c pe_str) (ma_cons (me_mv (me_var (pv 9))) (ma_cons (me_var (pv 7)) (ma_cons (me_mv (me_var (pv 12))) ma_nil)))) (by show 4 ≤ sizeLine; decide)) (me_var (pv 1)) (me_var (pv 10)) (fun a b c => ps_asg c (pg_sub a b (set_A hr.units))))
    (mss_one (ms_if (mt_not (mt_val (me_call (is := []) (sim_law_same T) (hr.mono (by decide)) (takes_of rfl rfl rfl rfl) rfl T.m_law_same T.F_law_same.kp T.b_law_same (ma_cons (me_callN (is := []) (sim_cells_after T) (hr.mono (by decide)) rfl T.m_cells_after T.F_cells_after.kp T.b_cells_after (ma_cons (me_var (pv 0)) (ma_cons (me_call (is := []) (sim_found_marks T) (hr.mono (by decide)) (takes_of rfl rfl rfl rfl) rfl T.m_found_marks T.F_found_marks.kp T.b_found_marks (ma_cons (me_var (pv 0)) ma_nil) (by decide) (by decide)) (ma_cons (me_var (pv 7)) ma_nil))) (mk_cons (me_var (pv 3)) mk_nil) rfl (by decide) (by decide)) (ma_cons (me_var (pv 12)) ma_nil)) (by decide) (by decide)))) (mss_one (ms_ret (me_c pe_bl)))
    mss_nil)))))))))
    mss_nil))) rfl T.n_range (passes_of rfl) rfl)
    (mss_one (ms_ret (me_c pe_bl))))))
abbrev md_law : List Bool := [false]
def e_law_1 : GE := (gSeq (gSeq (gSeq (gSeq (gVar 5) (gC (.int 1))) fAdd) (gSeq (gC (.int 0)) (gSeq (gC (.int 99)) (gSeq (gC (.int 0)) (gSeq (gC (.int 0)) (gSeq (gC (.int 0)) (gSeq (gC (.int 0)) (gSeq (gVar 5) gNil)))))))) (fNew .tup 8))
def e_law_2 : GE := (gC .non)
def e_law_3 : GE := (gSeq (gSeq (gVar 6) (gSeq (gVar 9) (gSeq (gVar 4) (gSeq (gVar 5) (gSeq (gVar 10) gNil))))) (gCall [] md_law_cells G_law_cells 5))
def b_law_1 : GS := (sSeq (sSet md_law 11 (gSeq (gSeq (gVar 8) gNil) (gSeq (gSeq (gVar 10) gNil) (noEx (gCall [] md_slots_read G_slots_read 2)))))
    (sSeq (sIf (gNot (gSeq (gSeq (gVar 11) (gSeq (gSeq (gSeq (gVar 9) (gSeq (gVar 10) gNil)) (gCall [] md_law_slots G_law_slots 2)) gNil)) (gCall [] md_law_same G_law_same 2))) (sRet (gC (.bl false))) sNil)
    (sSeq (sExpr (gSeq (gVar 11) (gSeq chkL (gSeq (gSeq (gSeq (gC (.int 5)) fNeg) gNil) fApp))))
    (sSeq (sSet md_law 12 (gLcR1 [5] (gSeq (gC (.int 24)) gNil) (bind md_law 5) (gC (.bl true)) e_law_3))
    (sIf (gNot (gSeq (gSeq (gSeq (gSeq (gVar 8) (gSeq (gVar 10) gNil)) (gCall [] md_law_all_cells G_law_all_cells 2)) (gSeq (gVar 12) gNil)) (gCall [] md_law_same G_law_same 2))) (sRet (gC (.bl false))) sNil)))))
def g_law : GS := (sSeq (sSet md_law 2 (gSeq (gSeq (gSeq (gSeq (gSeq (gSeq (gC (.int 3)) (gSeq (gC (.int 0)) (gSeq (gC (.int 999980)) (gSeq (gC (.int 40)) gNil)))) (fNew .lst 4)) (gSeq (gSeq (gVar 1) (gSeq (gC (.int 4)) gNil)) (gCall [0] md_law_pick G_law_pick 2))) fIxA) (gSeq (gSeq (gVar 1) (gSeq (gC (.int 5)) gNil)) (gCall [0] md_law_pick G_law_pick 2))) fAdd))
    (sSeq (sSet md_law 3 (gSeq (gSeq (gSeq (gSeq (gVar 1) (gSeq (gC (.int 2)) gNil)) (gCall [0] md_law_pick G_law_pick 2)) (gC (.int 0))) fEq))
    (sSeq (sSet md_law 4 (gLcR1 [5] (gSeq (gC (.int 24)) gNil) (bind md_law 5) (gC (.bl true)) e_law_1))
    (sSeq (sSet md_law 6 (gLcR1 [7] (gSeq (gC (.int 30)) gNil) (bind md_law 7) (gC (.bl true)) e_law_2))
    (sSeq (sSet md_law 8 (gSeq (gSeq (gVar 1) (gSeq (gVar 2) (gSeq (gVar 6) (gSeq (gVar 4) gNil)))) (gCall [0, 2] md_law_disk G_law_disk 4)))
    (sSeq (sSet md_law 9 (gSeq (gSeq (gVar 6) (gSeq (gVar 2) gNil)) (gCall [] md_law_marks G_law_marks 2)))
    (sSeq (sFor (gSeq (gSeq (gC (.bl true)) (gSeq (gC (.bl false)) gNil)) (fNew .lst 2)) (bind md_law 10) b_law_1)
    (sSeq (sIf (gNot (gSeq (gSeq (gVar 8) (gSeq (gVar 6) (gSeq (gVar 2) (gSeq (gVar 4) (gSeq (gVar 3) gNil))))) (gCall [0, 1] md_law_other_slots G_law_other_slots 5))) (sRet (gC (.bl false))) sNil)
    (sSeq (sIf (gNot (gSeq (gSeq (gVar 8) (gSeq (gVar 6) (gSeq (gVar 2) (gSeq (gVar 3) gNil)))) (gCall [0, 1] md_law_told_slots G_law_told_slots 4))) (sRet (gC (.bl false))) sNil)
    (sSeq (sSet md_law 9 (gSeq (gSeq (gVar 6) (gSeq (gVar 2) gNil)) (gCall [] md_law_marks G_law_marks 2)))
    (sRet (gSeq (gSeq (gSeq (gSeq (gVar 8) gNil) (gSeq (gSeq (gVar 3) gNil) (noEx (gCall [] md_slots_read G_slots_read 2)))) (gSeq (gSeq (gSeq (gVar 9) (gSeq (gVar 3) gNil)) (gCall [] md_law_slots G_law_slots 2)) gNil)) (gCall [] md_law_same G_law_same 2)))))))))))))
/-! the drawn row, and what is drawn of it -/
def Feed (fs : List Int) : Prop := fs.length ≤ 5000 ∧ ∀ x ∈ fs, 0 ≤ x ∧ x < 1000000
theorem Feed.tail {x : Int} {fs : List Int} (h : Feed (x :: fs)) : Feed fs := ⟨by have := h.1; simp at this; omega, fun y hy => h.2 y (List.mem_cons_of_mem _ hy)⟩
def sp_law_feed (K : PySem.W.Frag) : Sp := fun vs H Q _ => ∃ (a : Addr) (ns : List Int), vs = [.ref a] ∧ SqL K H a (ns.map V.int) ∧ ns.length ≤ 63 ∧
  ∀ H' p fs, Fr [] H H' → H p = none → H' p = some (.lst (fs.map V.int)) → Feed fs → Q (.ref p) H'
theorem mem_app1 {P : Int → Prop} {fs : List Int} {y : Int} (h : ∀ x ∈ fs, P x) (hy : P y) : ∀ x ∈ fs ++ [y], P x := fun x hx => by
  rcases List.mem_append.mp hx with q | q
  · exact h x q
  · rw [List.mem_singleton.mp q]
    exact hy
theorem map_app1 {fs : List Int} {y : Int} : fs.map V.int ++ [V.int y] = (fs ++ [y]).map V.int := by simp
theorem ok_law_feed (T : Txt K mg) : FnOk P w K mg base CX0 1 T.a_law_feed T.fd_law_feed ["_law_script"] (sp_law_feed K) := by
  refine T.F_law_feed.ok sc_law_feed (fun vs H Q E h => ?_) (fun cdv A outer s H vs Q E hr h => ?_)
  · obtain ⟨a, ns, rfl, _⟩ := h
    rfl
  · obtain ⟨a, ns, rfl, hS, hl, k⟩ := h
    refine ⟨_, (pss_cons (ps_set (i := 1) sc_law_feed.nd rfl (Or.inl rfl) (pe_lst pa_nil))
        (pss_cons (ps_for PassesOwn.never rfl (pi_list (pv 0)) (pg_name (i := 2) sc_law_feed.nd rfl (Or.inl rfl))
        (pss_cons (ps_set (i := 3) sc_law_feed.nd rfl (Or.inl rfl) (pe_callB call_abs (by rfl) T.n_abs (by decide +kernel) (pa_cons (pv 2) pa_nil)))
        (C8.pss_cut (ps_if (pt_cmpR op_lt (pv 3) (pe_op op_pow pe_int pe_int) (nomark _)) (pss_cons (ps_set (i := 3) sc_law_feed.nd rfl (Or.inl rfl) (pe_op op_mod (pe_callTy call_int1 (by rfl) T.n_int (by decide +kernel) (pa_cons (pe_op op_add (pe_op op_mul (pv 3) pe_int) pe_int) pa_nil)) pe_int))
        (pss_cons (ps_expr (pe_bm PySem.F.plainAttrs_list PySem.F.slot_list_append PySem.F.type_list_append mt_append (pv 1) (pa_cons (pe_op op_mod (pe_callTy call_int1 (by rfl) T.n_int (by decide +kernel) (pa_cons (pe_op op_add (pe_op op_mul (pv 3) pe_int) pe_int) pa_nil)) pe_int) pa_nil)))
        (pss_one (ps_set (i := 3) sc_law_feed.nd rfl (Or.inl rfl) pe_int)))) pss_nil)
        (pss_one (ps_for PassesOwn.never rfl (pi_range1 rfl T.n_range (pa_cons pe_int pa_nil)) (pg_name (i := 4) sc_law_feed.nd rfl (Or.inl rfl))
        (pss_one (ps_if (pt_cmpR op_gt (pv 3) pe_int (nomark _)) (pss_cons (ps_expr (pe_bm PySem.F.plainAttrs_list PySem.F.slot_list_append PySem.F.type_list_append mt_append (pv 1) (pa_cons (pe_op op_mod (pe_callTy call_int1 (by rfl) T.n_int (by decide +kernel) (pa_cons (pv 3) pa_nil)) pe_int) pa_nil)))
        (pss_one (ps_set (i := 3) sc_law_feed.nd rfl (Or.inl rfl) (pe_op op_fdiv (pv 3) pe_int)))) pss_nil)))))))
        (pss_one (ps_ret (pv 1))))), ?_⟩
    refine ⟨by decide, fun p np => ?_⟩
    generalize hH : upd H p _ = H1
    obtain ⟨f1, h1⟩ := gen_new np hH
    refine ⟨_, rfl, a, rfl, ⟨_, f1.seq0 hS⟩, for_list (K := K) (a := a) (xs := ns.map V.int) (fun i σ H2 => ∃ (fs : List Int) (u v x : Option V), σ = [some (.ref a), some (.ref p), u, v, x] ∧ Fr [] H H2 ∧ H2 p = some (.lst (fs.map V.int)) ∧ fs.length ≤ 61 * i ∧ ∀ x ∈ fs, 0 ≤ x ∧ x < 1000000) ?_ ?_ ?_ ?_⟩
    · exact ⟨[], none, none, none, rfl, f1, h1, by simp, by simp⟩
    · rintro i σ H2 _ ⟨fs, u, v, x, rfl, f2, _⟩
      exact f2.seq0 hS
    · rintro i y σ H2 hi ⟨fs, u, v, x, rfl, f2, h2, hf, hb⟩
      obtain ⟨z, hz, rfl⟩ := map_get hi
      have hil := getq_lt hz
      refine ⟨_, rfl, _, rfl, ?_⟩
      have hr0 : 0 ≤ (if z < 0 then -z else z) := by split <;> omega
      generalize (if z < 0 then -z else z) = r at hr0
      refine ⟨fun σ H3 => ∃ (r : Int) (fs : List Int), σ = [some (.ref a), some (.ref p), some (.int z), some (.int r), x] ∧ Fr [] H H3 ∧ H3 p = some (.lst (fs.map V.int)) ∧ 0 ≤ r ∧ fs.length ≤ 61 * i + 1 ∧ ∀ x ∈ fs, 0 ≤ x ∧ x < 1000000, ?_, ?_⟩
      · refine ⟨_, rfl, _, _, rfl, rfl, ⟨by decide, by decide, by decide⟩, _, _, rfl, rfl, _, rfl, ?_⟩
        refine ite2 (fun c => ?_) (fun c => ?_)
        · refine ⟨_, rfl, _, _, rfl, rfl, .inr ⟨by decide, by decide⟩, _, _, rfl, rfl, .inl ⟨_, rfl, _, _, rfl, rfl, (by show (0 : Int) < 2147483647; decide), ?_⟩⟩
          refine ⟨_, rfl, .inl ⟨rfl, _, sq h2⟩, _, rfl, _, _, rfl, rfl, .inr ⟨by decide, by decide⟩, _, _, rfl, rfl, .inl ⟨_, rfl, _, _, rfl, rfl, (by show (0 : Int) < 999983; decide), p, _, _, rfl, rfl, h2, sz (by simp; omega), ?_⟩⟩
          generalize hH3 : upd H2 p _ = H3
          obtain ⟨f3, h3⟩ := gen_upd hH3
          rw [map_app1] at h3
          refine ⟨0, _, rfl, f2.up1 f3 (.inr np), h3, by decide, by simp; omega, mem_app1 hb ?_⟩
          exact ⟨Int.emod_nonneg _ (by decide), Int.lt_trans (Int.emod_lt_of_pos _ (by decide)) (by decide)⟩
        · exact ⟨r, fs, rfl, f2, h2, hr0, by omega, hb⟩
      · rintro σ H3 ⟨r, fs, rfl, f3, h3, hr1, hf1, hb1⟩
        refine ⟨60, rfl, by decide, by decide, for_range (n := 60) (fun j σ H4 => ∃ (r : Int) (fs : List Int) (x : Option V), σ = [some (.ref a), some (.ref p), some (.int z), some (.int r), x] ∧ Fr [] H H4 ∧ H4 p = some (.lst (fs.map V.int)) ∧ 0 ≤ r ∧ fs.length ≤ 61 * i + 1 + j ∧ ∀ x ∈ fs, 0 ≤ x ∧ x < 1000000) ?_ ?_ ?_⟩
        · exact ⟨r, fs, x, rfl, f3, h3, hr1, by omega, hb1⟩
        · rintro j σ H4 hj ⟨r, fs, x, rfl, f4, h4, hr2, hf2, hb2⟩
          refine ⟨_, rfl, _, _, rfl, rfl, _, rfl, ?_⟩
          refine ite2 (fun c => ?_) (fun c => ?_)
          · refine ⟨_, rfl, .inl ⟨rfl, _, sq h4⟩, _, rfl, .inl ⟨_, rfl, _, _, rfl, rfl, (by show (0 : Int) < 1000; decide), p, _, _, rfl, rfl, h4, sz (by simp; omega), ?_⟩⟩
            generalize hH5 : upd H4 p _ = H5
            obtain ⟨f5, h5⟩ := gen_upd hH5
            rw [map_app1] at h5
            refine ⟨_, rfl, _, _, rfl, rfl, ⟨by decide, by decide⟩, _, _, _, rfl, f4.up1 f5 (.inr np), h5, Int.ediv_nonneg hr2 (by decide), by simp; omega, mem_app1 hb2 ?_⟩
            exact ⟨Int.emod_nonneg _ (by decide), Int.lt_trans (Int.emod_lt_of_pos _ (by decide)) (by decide)⟩
          · exact ⟨r, fs, _, rfl, f4, h4, hr2, by omega, hb2⟩
        · rintro σ H4 ⟨r, fs, x, rfl, f4, h4, hr2, hf2, hb2⟩
          exact ⟨fs, _, _, _, rfl, f4, h4, by omega, hb2⟩
    · rintro σ H2 ⟨fs, u, v, x, rfl, f2, h2, hf, hb⟩
      rw [List.length_map] at hf
      exact ⟨_, rfl, k H2 p fs f2 np h2 ⟨by omega, hb⟩⟩

def LawIs : Prop := ∀ fs, Feed fs → ∃ m, g_law (feedG 11 fs) = some (.rt (bT true) m)
theorem ok_law_of (pl : LawIs) (T : Txt K mg) : FnOk P w K mg base CX0 12 T.a_law T.fd_law ["_law_script"] (spLaw K) :=
  law_sim (Fe := Feed) (T := kt P w T) (n := 11) (g := g_law) T.F_law sc_law rfl rfl (fun cdv A outer s H E hr =>
  ⟨⟨_, (ps_set (i := 1) sc_law.nd rfl (Or.inl rfl) (pe_call (ok_law_feed T) (hr.mono (by decide)) rfl T.m_law_feed T.F_law_feed.kp T.b_law_feed .nil pass0 (pa_cons (pv 0) pa_nil))), fun a ns H D hS hl k => ⟨_, rfl, a, ns, rfl, hS, hl, fun H1 p fs1 _ _ h1 hf1 => k H1 p fs1 h1 hf1⟩⟩,
  (mss_cons (ms_set (i := 2) sc_law.nd rfl (Or.inl rfl) (me_add (me_ixA hr.units (me_lst (ma_cons (me_c pe_int) (ma_cons (me_c pe_int) (ma_cons (me_c pe_int) (ma_cons (me_c pe_int) ma_nil)))) (by show 4 ≤ sizeLine; decide)) (me_call (is := [0]) (sim_law_pick T) (hr.mono (by decide)) takes0 rfl T.m_law_pick T.F_law_pick.kp T.b_law_pick (ma_cons (me_var (pv 1)) (ma_cons (me_c pe_int) ma_nil)) (by decide) (by decide)) (fun _ _ => rfl)) (me_call (is := [0]) (sim_law_pick T) (hr.mono (by decide)) takes0 rfl T.m_law_pick T.F_law_pick.kp T.b_law_pick (ma_cons (me_var (pv 1)) (ma_cons (me_c pe_int) ma_nil)) (by decide) (by decide))))
    (mss_cons (ms_set (i := 3) sc_law.nd rfl (Or.inl rfl) (me_cmp (OpR.or op_eq (op_eqD hr.units)) fEq_ok (me_call (is := [0]) (sim_law_pick T) (hr.mono (by decide)) takes0 rfl T.m_law_pick T.F_law_pick.kp T.b_law_pick (ma_cons (me_var (pv 1)) (ma_cons (me_c pe_int) ma_nil)) (by decide) (by decide)) (me_c pe_int) (nomark _)))
    (mss_cons (ms_set (i := 4) sc_law.nd rfl (Or.inr rfl) (me_lcR10 (ma_cons (me_c pe_int) ma_nil) (blkOk_by (own := [("_law_x", 5)]) (N := N_law) (sc := defScope s_law) (by decide +kernel)) (fun _ _ _ _ _ => pg_name (i := 5) sc_law.nd rfl (Or.inl rfl)) (fun _ _ _ _ _ => (me_tup (ma_cons (me_add (me_var (pv 5)) (me_c pe_int)) (ma_cons (me_c pe_int) (ma_cons (me_c pe_int) (ma_cons (me_c pe_int) (ma_cons (me_c pe_int) (ma_cons (me_c pe_int) (ma_cons (me_c pe_int) (ma_cons (me_var (pv 5)) ma_nil)))))))) (by show 8 ≤ sizeLine; decide))) rfl T.n_range rfl sc_law.nd))
    (mss_cons (ms_set (i := 6) sc_law.nd rfl (Or.inr rfl) (me_lcR10 (ma_cons (me_c pe_int) ma_nil) (blkOk_by (own := [("_law_slot_here", 7)]) (N := N_law) (sc := defScope s_law) (by decide +kernel)) (fun _ _ _ _ _ => pg_name (i := 7) sc_law.nd rfl (Or.inl rfl)) (fun _ _ _ _ _ => (me_c pe_non)) rfl T.n_range rfl sc_law.nd))
    (mss_cons (ms_set (i := 8) sc_law.nd rfl (Or.inl rfl) (me_call (is := [0, 2]) (sim_law_disk T) (hr.mono (by decide)) takes0 rfl T.m_law_disk T.F_law_disk.kp T.b_law_disk (ma_cons (me_var (pv 1)) (ma_cons (me_var (pv 2)) (ma_cons (me_var (pv 6)) (ma_cons (me_var (pv 4)) ma_nil)))) (by decide) (by decide)))
    (mss_cons (ms_set (i := 9) sc_law.nd rfl (Or.inr rfl) (me_call (is := []) (sim_law_marks T) (hr.mono (by decide)) takes0 rfl T.m_law_marks T.F_law_marks.kp T.b_law_marks (ma_cons (me_var (pv 6)) (ma_cons (me_var (pv 2)) ma_nil)) (by decide) (by decide)))
    (mss_cons (ms_for (me_lst (ma_cons (me_c pe_bl) (ma_cons (me_c pe_bl) ma_nil)) (by show 2 ≤ sizeLine; decide)) (mg_name (i := 10) sc_law.nd rfl (Or.inr rfl))
    (mss_cons (ms_set (i := 11) sc_law.nd rfl (Or.inl rfl) (me_callN (is := []) (sim_slots_read T) (hr.mono (by decide)) rfl T.m_slots_read T.F_slots_read.kp T.b_slots_read (ma_cons (me_var (pv 8)) ma_nil) (mk_cons (me_var (pv 10)) mk_nil) rfl (by decide) (by decide)))
    (mss_cons (ms_if (mt_not (mt_val (me_call (is := []) (sim_law_same T) (hr.mono (by decide)) takes0 rfl T.m_law_same T.F_law_same.kp T.b_law_same (ma_cons (me_var (pv 11)) (ma_cons (me_call (is := []) (sim_law_slots T) (hr.mono (by decide)) takes0 rfl T.m_law_slots T.F_law_slots.kp T.b_law_slots (ma_cons (me_var (pv 9)) (ma_cons (me_var (pv 10)) ma_nil)) (by decide) (by decide)) ma_nil)) (by decide) (by decide)))) (mss_one (ms_ret (me_c pe_bl)))
    mss_nil)
    (mss_cons (ms_expr (me_bm (me_var (pv 11)) (ma_cons (me_neg (me_c pe_int)) ma_nil) fApp_ok (fun a b => pe_bm PySem.F.plainAttrs_list PySem.F.slot_list_append PySem.F.type_list_append mt_append a b)))
    (mss_cons (ms_lcR10 (ma_cons (me_c pe_int) ma_nil) (blkOk_by (own := [("_law_x", 5)]) (N := N_law) (sc := defScope s_law) (by decide +kernel)) (fun _ _ _ _ _ => pg_name (i := 5) sc_law.nd rfl (Or.inl rfl)) (fun _ _ _ _ _ => (me_call (is := []) (sim_law_cells T) (hr.mono (by decide)) takes0 rfl T.m_law_cells T.F_law_cells.kp T.b_law_cells (ma_cons (me_var (pv 6)) (ma_cons (me_var (pv 9)) (ma_cons (me_var (pv 4)) (ma_cons (me_var (pv 5)) (ma_cons (me_var (pv 10)) ma_nil))))) (by decide) (by decide))) rfl T.n_range rfl sc_law.nd rfl rfl (sw_true rfl rfl rfl (by decide +kernel)))
    (mss_one (ms_if (mt_not (mt_val (me_call (is := []) (sim_law_same T) (hr.mono (by decide)) takes0 rfl T.m_law_same T.F_law_same.kp T.b_law_same (ma_cons (me_call (is := []) (sim_law_all_cells T) (hr.mono (by decide)) takes0 rfl T.m_law_all_cells T.F_law_all_cells.kp T.b_law_all_cells (ma_cons (me_var (pv 8)) (ma_cons (me_var (pv 10)) ma_nil)) (by decide) (by decide)) (ma_cons (me_var (pv 12)) ma_nil)) (by decide) (by decide)))) (mss_one (ms_ret (me_c pe_bl)))
    mss_nil)))))) PassesOwn.never rfl)
    (mss_cons (ms_if (mt_not (mt_val (me_call (is := [0, 1]) (sim_law_other_slots T) (hr.mono (by decide)) takes0 rfl T.m_law_other_slots T.F_law_other_slots.kp T.b_law_other_slots (ma_cons (me_var (pv 8)) (ma_cons (me_var (pv 6)) (ma_cons (me_var (pv 2)) (ma_cons (me_var (pv 4)) (ma_cons (me_var (pv 3)) ma_nil))))) (by decide) (by decide)))) (mss_one (ms_ret (me_c pe_bl)))
    mss_nil)
    (mss_cons (ms_if (mt_not (mt_val (me_call (is := [0, 1]) (sim_law_told_slots T) (hr.mono (by decide)) takes0 rfl T.m_law_told_slots T.F_law_told_slots.kp T.b_law_told_slots (ma_cons (me_var (pv 8)) (ma_cons (me_var (pv 6)) (ma_cons (me_var (pv 2)) (ma_cons (me_var (pv 3)) ma_nil)))) (by decide) (by decide)))) (mss_one (ms_ret (me_c pe_bl)))
    mss_nil)
    (mss_cons (ms_set (i := 9) sc_law.nd rfl (Or.inr rfl) (me_call (is := []) (sim_law_marks T) (hr.mono (by decide)) takes0 rfl T.m_law_marks T.F_law_marks.kp T.b_law_marks (ma_cons (me_var (pv 6)) (ma_cons (me_var (pv 2)) ma_nil)) (by decide) (by decide)))
    (mss_one (ms_ret (me_call (is := []) (sim_law_same T) (hr.mono (by decide)) takes0 rfl T.m_law_same T.F_law_same.kp T.b_law_same (ma_cons (me_callN (is := []) (sim_slots_read T) (hr.mono (by decide)) rfl T.m_slots_read T.F_slots_read.kp T.b_slots_read (ma_cons (me_var (pv 8)) ma_nil) (mk_cons (me_var (pv 3)) mk_nil) rfl (by decide) (by decide)) (ma_cons (me_call (is := []) (sim_law_slots T) (hr.mono (by decide)) takes0 rfl T.m_law_slots T.F_law_slots.kp T.b_law_slots (ma_cons (me_var (pv 9)) (ma_cons (me_var (pv 3)) ma_nil)) (by decide) (by decide)) ma_nil)) (by decide) (by decide))))))))))))))⟩) pl
-- level 12
end
local macro_rules | `(tactic| simp! [$xs,*]) => `(tactic| simp [gSeq_e, bE_ok, bE_ex, bE_ite, gNil_e, gC_e, ok_ite, gVar_e, varE_tr, varE_al, gNot_e, nE_ok, nE_ite, gAnd_e, aE_ok, aE_ite, aE_ex, gOrB_e, oE_ok, oE_ite, oE_ex, gIf_e, iE_ok, iE_ite, noEx_e, xE_ok, sSeq_e, bS_nx, bS_rt, bS_bk, bS_ct, bS_ex, bS_ite, sNil_e, sIf_e, iS_ok, iS_ex, iS_ite, sRet_e, rS_ok, rS_ex, rS_ite, sExpr_e, eS_ok, eS_ex, eS_ite, nxO_some, kS_ok, kS_ex, kS_ite, sSet_e, sAsg_e, sSubA_e, sFldS_e, gCall_e, c1_some, c2_some, c3_rt, c3_ex, c3_ite, gMake_e, k1_some, k2_rt, k2_ex, k2_ite, gChain_e, h1_ok, h2_ok, sPar_e, pS2_ok, sPar3_e, pS3_ok, sSubB_e, gCon_e, gK0_e, fKD_e, runF_e, fR_ite, fR_nx, fR_rt, fR_ex, rt_ite, int_ite, bl_ite, nos, fP1, fP2, FI, cT, viewE, kidE, kidX, kid, eff, cp, cpL, esc, escL, fFld, fIxA, fIx, fIxK, gOr, fNew, popN, mkN, fMv, fFrz, outP, Ent.tree, extAll, extAt, argT, resAll, resAt, getG, getT, getP, setG, setT, kill, killR_tr, killR_no, killR_al, killE_tr, killE_no, killE_al, killJ_tr, killJ_no, killJ_al, pre, nbel, chkI, chkL, List.lookup, fAdd, fSub, fDiv, fMod, fLt, fLe, fGt, fGe, cMul, cPos, cDiv, fEq, fNe, FEq_int, FEq_row, FEq_tup, FEq_pair, FEq_mat, FEq_str, FEq_bl, fIn, fNotIn, fInA, fNotInA, FInD, kit_int_int, kit_int_bool, kit_int_str, kit_int_list, kit_int_tuple, kit_int_dict, kit_bool_int, kit_bool_bool, kit_bool_str, kit_bool_list, kit_bool_tuple, kit_bool_dict, kit_str_int, kit_str_bool, kit_str_str, kit_str_list, kit_str_tuple, kit_str_dict, kit_list_int, kit_list_bool, kit_list_str, kit_list_list, kit_list_tuple, kit_list_dict, kit_tuple_int, kit_tuple_bool, kit_tuple_str, kit_tuple_list, kit_tuple_tuple, kit_tuple_dict, kit_dict_int, kit_dict_bool, kit_dict_str, kit_dict_list, kit_dict_tuple, kit_dict_dict, kit_NoneType_int, kit_NoneType_bool, kit_NoneType_str, kit_NoneType_list, kit_NoneType_tuple, kit_NoneType_dict, FIn_l, FIn_t, ixL_1_0, ixL_2_0, ixL_2_1, ixL_3_0, ixL_3_1, ixL_3_2, ixL_4_0, ixL_4_1, ixL_4_2, ixL_4_3, ixL_5_0, ixL_5_1, ixL_5_2, ixL_5_3, ixL_5_4, ixL_6_0, ixL_6_1, ixL_6_2, ixL_6_3, ixL_6_4, ixL_6_5, ixL_7_0, ixL_7_1, ixL_7_2, ixL_7_3, ixL_7_4, ixL_7_5, ixL_7_6, ixL_8_0, ixL_8_1, ixL_8_2, ixL_8_3, ixL_8_4, ixL_8_5, ixL_8_6, ixL_8_7, ixL_9_0, ixL_9_1, ixL_9_2, ixL_9_3, ixL_9_4, ixL_9_5, ixL_9_6, ixL_9_7, ixL_9_8, ixL_10_0, ixL_10_1, ixL_10_2, ixL_10_3, ixL_10_4, ixL_10_5, ixL_10_6, ixL_10_7, ixL_10_8, ixL_10_9, ixL_11_0, ixL_11_1, ixL_11_2, ixL_11_3, ixL_11_4, ixL_11_5, ixL_11_6, ixL_11_7, ixL_11_8, ixL_11_9, ixL_11_10, ixL_12_0, ixL_12_1, ixL_12_2, ixL_12_3, ixL_12_4, ixL_12_5, ixL_12_6, ixL_12_7, ixL_12_8, ixL_12_9, ixL_12_10, ixL_12_11, fIsN, fNotN, FIs, fIsB, FIsB, fIsBV, FIsBV, fNotBV, fNotB, fLen, FLen, fInt, FInt, fIsi, FIsi, tyN, fApp, fPopA, fPop, stSubA, stSub, stSubK, stFld, unpk, unpkT, sTryRe, bindAll, unpkP, sRaise, sRetN, sFAug, sSAug, sAug, fAddI, fSubI, bind, fNeg, FNeg, fTup, fLst, itemsE, kidL, kidL_iT, gClr, sClr, clr, fEqE, FEqE, mapk_iT, kidc_iT, set_iT, set_rowT, -List.map_set, -List.map_append, app_iT, app_map, FS, fCat, -getElem?_pos, List.getElem?_cons_zero, fMvD, fHid, CMul, gDc0, gD0, ready, cpE, fInB, fNotInB, FInT, keyT, keysA, keyOf, stSubB, stSubT, fPut1, fInO, fCon, fRevL, atoms, $xs,*])
local macro_rules | `(tactic| simp! []) => `(tactic| simp [gSeq_e, bE_ok, bE_ex, bE_ite, gNil_e, gC_e, ok_ite, gVar_e, varE_tr, varE_al, gNot_e, nE_ok, nE_ite, gAnd_e, aE_ok, aE_ite, aE_ex, gOrB_e, oE_ok, oE_ite, oE_ex, gIf_e, iE_ok, iE_ite, noEx_e, xE_ok, sSeq_e, bS_nx, bS_rt, bS_bk, bS_ct, bS_ex, bS_ite, sNil_e, sIf_e, iS_ok, iS_ex, iS_ite, sRet_e, rS_ok, rS_ex, rS_ite, sExpr_e, eS_ok, eS_ex, eS_ite, nxO_some, kS_ok, kS_ex, kS_ite, sSet_e, sAsg_e, sSubA_e, sFldS_e, gCall_e, c1_some, c2_some, c3_rt, c3_ex, c3_ite, gMake_e, k1_some, k2_rt, k2_ex, k2_ite, gChain_e, h1_ok, h2_ok, sPar_e, pS2_ok, sPar3_e, pS3_ok, sSubB_e, gCon_e, gK0_e, fKD_e, runF_e, fR_ite, fR_nx, fR_rt, fR_ex, rt_ite, int_ite, bl_ite, nos, fP1, fP2, FI, cT, viewE, kidE, kidX, kid, eff, cp, cpL, esc, escL, fFld, fIxA, fIx, fIxK, gOr, fNew, popN, mkN, fMv, fFrz, outP, Ent.tree, extAll, extAt, argT, resAll, resAt, getG, getT, getP, setG, setT, kill, killR_tr, killR_no, killR_al, killE_tr, killE_no, killE_al, killJ_tr, killJ_no, killJ_al, pre, nbel, chkI, chkL, List.lookup, fAdd, fSub, fDiv, fMod, fLt, fLe, fGt, fGe, cMul, cPos, cDiv, fEq, fNe, FEq_int, FEq_row, FEq_tup, FEq_pair, FEq_mat, FEq_str, FEq_bl, fIn, fNotIn, fInA, fNotInA, FInD, kit_int_int, kit_int_bool, kit_int_str, kit_int_list, kit_int_tuple, kit_int_dict, kit_bool_int, kit_bool_bool, kit_bool_str, kit_bool_list, kit_bool_tuple, kit_bool_dict, kit_str_int, kit_str_bool, kit_str_str, kit_str_list, kit_str_tuple, kit_str_dict, kit_list_int, kit_list_bool, kit_list_str, kit_list_list, kit_list_tuple, kit_list_dict, kit_tuple_int, kit_tuple_bool, kit_tuple_str, kit_tuple_list, kit_tuple_tuple, kit_tuple_dict, kit_dict_int, kit_dict_bool, kit_dict_str, kit_dict_list, kit_dict_tuple, kit_dict_dict, kit_NoneType_int, kit_NoneType_bool, kit_NoneType_str, kit_NoneType_list, kit_NoneType_tuple, kit_NoneType_dict, FIn_l, FIn_t, ixL_1_0, ixL_2_0, ixL_2_1, ixL_3_0, ixL_3_1, ixL_3_2, ixL_4_0, ixL_4_1, ixL_4_2, ixL_4_3, ixL_5_0, ixL_5_1, ixL_5_2, ixL_5_3, ixL_5_4, ixL_6_0, ixL_6_1, ixL_6_2, ixL_6_3, ixL_6_4, ixL_6_5, ixL_7_0, ixL_7_1, ixL_7_2, ixL_7_3, ixL_7_4, ixL_7_5, ixL_7_6, ixL_8_0, ixL_8_1, ixL_8_2, ixL_8_3, ixL_8_4, ixL_8_5, ixL_8_6, ixL_8_7, ixL_9_0, ixL_9_1, ixL_9_2, ixL_9_3, ixL_9_4, ixL_9_5, ixL_9_6, ixL_9_7, ixL_9_8, ixL_10_0, ixL_10_1, ixL_10_2, ixL_10_3, ixL_10_4, ixL_10_5, ixL_10_6, ixL_10_7, ixL_10_8, ixL_10_9, ixL_11_0, ixL_11_1, ixL_11_2, ixL_11_3, ixL_11_4, ixL_11_5, ixL_11_6, ixL_11_7, ixL_11_8, ixL_11_9, ixL_11_10, ixL_12_0, ixL_12_1, ixL_12_2, ixL_12_3, ixL_12_4, ixL_12_5, ixL_12_6, ixL_12_7, ixL_12_8, ixL_12_9, ixL_12_10, ixL_12_11, fIsN, fNotN, FIs, fIsB, FIsB, fIsBV, FIsBV, fNotBV, fNotB, fLen, FLen, fInt, FInt, fIsi, FIsi, tyN, fApp, fPopA, fPop, stSubA, stSub, stSubK, stFld, unpk, unpkT, sTryRe, bindAll, unpkP, sRaise, sRetN, sFAug, sSAug, sAug, fAddI, fSubI, bind, fNeg, FNeg, fTup, fLst, itemsE, kidL, kidL_iT, gClr, sClr, clr, fEqE, FEqE, mapk_iT, kidc_iT, set_iT, set_rowT, -List.map_set, -List.map_append, app_iT, app_map, FS, fCat, -getElem?_pos, List.getElem?_cons_zero, fMvD, fHid, CMul, gDc0, gD0, ready, cpE, fInB, fNotInB, FInT, keyT, keysA, keyOf, stSubB, stSubT, fPut1, fInO, fCon, fRevL, atoms])
/-! numbers, rows, records of the log -/
theorem G_pick {fs : List Int} {n : Int} (hf : Feed fs) (hn : 0 < n) : ∃ c fs', G_law_pick [rowT fs, iT n] = some (.rt (iT c) [rowT fs', .any]) ∧ 0 ≤ c ∧ c < n ∧ Feed fs' := by
  cases fs with
  | nil => exact ⟨0, [], by simp! [G_law_pick, g_law_pick], by omega, hn, hf⟩
  | cons x fs =>
    have h0 := (hf.2 x List.mem_cons_self)
    have hp : seqIndex? 0 (fs.length + 1) = some 0 := by simp [seqIndex?]
    have h1 : ¬ ((fs.length : Int) + 1 = 0) := by omega
    exact ⟨x % n, fs, by simp! [G_law_pick, g_law_pick, hp, hn, h1], Int.emod_nonneg _ (by omega), Int.emod_lt_of_pos _ hn, hf.tail⟩
abbrev prT (p : Int × Int) : Tr := .nd .tup .own [iT p.1, iT p.2]
inductive Rc | cp (lot x : Int) (c : List Int) | mk (lot : Int) (cs : List (Int × Int)) (rs : List Int)
  deriving DecidableEq
def rcT : Rc → Tr
  | .cp l x c => .nd .tup .own [.a (.str "copy"), iT l, iT x, tupT c]
  | .mk l cs rs => .nd .tup .own [.a (.str "mark"), iT l, .nd .tup .own (cs.map prT), tupT rs]
def slT : Option Rc → Tr
  | none => .a .non
  | some r => rcT r
theorem cpL_prT : ∀ l : List (Int × Int), cpL (l.map prT) = true
  | [] => rfl
  | p :: l => by simp [cpL, cp, cpL_prT l]
theorem kidL_prT (o : Ow) : ∀ l : List (Int × Int), kidL o (l.map prT) = l.map prT
  | [] => rfl
  | p :: l => by simp [kidL, kid, kidL_prT o l]
theorem escL_prT : ∀ l : List (Int × Int), escL (l.map prT) = true
  | [] => rfl
  | p :: l => by simp [escL, esc, escL_prT l]
theorem cp_rcT (r : Rc) : cp (rcT r) = true := by cases r <;> simp [rcT, cp, cpL, cpL_prT]
theorem esc_rcT (r : Rc) : esc (rcT r) = true := by cases r <;> simp [rcT, esc, escL, escL_prT]
theorem kid_rcT (o : Ow) (r : Rc) : kid o (rcT r) = rcT r := by cases r <;> simp [rcT, kid, kidL, kidL_prT, kidL_iT]
theorem cp_slT (r : Option Rc) : cp (slT r) = true := by cases r <;> simp [slT, cp, cp_rcT]
theorem kid_slT (o : Ow) (r : Option Rc) : kid o (slT r) = slT r := by cases r <;> simp [slT, kid, kid_rcT]
theorem s_cm : ¬ (("copy" : Str) = "mark") := by decide
theorem s_mc : ¬ (("mark" : Str) = "copy") := by decide
theorem s_lh : ¬ (("log" : Str) = "home") := by decide
theorem P_within (x lo hi : Int) : G_is_within [iT x, iT lo, iT hi] = some (.rt (bT (decide (lo ≤ x ∧ x ≤ hi))) [.any, .any, .any]) := by
  by_cases h1 : lo ≤ x <;> by_cases h2 : x ≤ hi <;> simp! [G_is_within, g_is_within, h1, h2]
def CellOk (c : List Int) : Prop := c.length = 8 ∧ ∀ i ∈ c, 0 ≤ i ∧ i ≤ 999999999
def asc : Int → List Int → Prop
  | _, [] => True
  | l, x :: r => l < x ∧ x ≤ 63 ∧ asc x r
def RcOk : Rc → Prop
  | .cp l x c => 1 ≤ l ∧ l ≤ 999999 ∧ 0 ≤ x ∧ x < 24 ∧ CellOk c
  | .mk l cs rs => 1 ≤ l ∧ l ≤ 999999 ∧ asc (-1) (cs.map Prod.fst) ∧ asc (-1) rs ∧ (∀ p ∈ cs, 0 ≤ p.1 ∧ p.1 < 24 ∧ -1 ≤ p.2 ∧ p.2 < 30) ∧ (∀ x ∈ rs, 0 ≤ x ∧ x < 24) ∧ cs.length ≤ 24 ∧ rs.length ≤ 24
theorem P_cells {c : List Int} (h : CellOk c) : G_is_row_of_cells [tupT c] = some (.rt (bT true) [.any]) := by
  have h8 : (c.length : Int) = 8 := by have := h.1; omega
  have hlc : gLc [1] (gVar 0) (bind md_is_row_of_cells 1) (gC (.bl true)) e_is_row_of_cells_1 ⟨[.tr (tupT c), .no], []⟩ = some (.ok ⟨[.tr (tupT c), .no], [.tr (.nd .lst .own ((c.filter fun _ => true).map fun _ => bT true))]⟩) :=
    gLcP_is (xs := c) (enc := iT) (.tr (tupT c)) (.tr (tupT c)) .tup .own (by simp! []) (by simp! []) (by rfl) (by simp! []) (by have := h.1; omega) rfl (by rfl) (by simp! []) rfl rfl (fun x hx => rfl) (fun _ => true) (fun _ => bT true)
      (fun x hx s' => by simp! []) (fun x hx s' _ => ⟨by
        have q := h.2 x hx
        simp! [e_is_row_of_cells_1, P_within, q], rfl⟩)
  rw [filt_true] at hlc
  have hb : blsT (c.map fun _ => bT true) = some (c.map fun _ => true) := blsT_map (fun _ => true) c
  simp! [G_is_row_of_cells, g_is_row_of_cells, h8, hlc, fAll, FBls, hb]
/-! records that may be written -/
theorem asc_at : ∀ {l : Int} {p : List Int} {x : Int} {q : List Int}, asc l (p ++ x :: q) → p.getLastD l < x ∧ x ≤ 63
  | l, [], x, q, h => ⟨h.1, h.2.1⟩
  | l, y :: p, x, q, h => by
    have h2 : asc y (p ++ x :: q) := h.2.2
    have := asc_at h2
    rwa [List.getLastD_cons]
theorem last_app (l x : Int) : ∀ p : List Int, (p ++ [x]).getLastD l = x
  | [] => rfl
  | y :: p => by
    rw [List.cons_append, List.getLastD_cons]
    exact last_app y x p
def lsI (p : List Int) : Int := p.getLastD (-1)
theorem P_blocks {c : List Int} (h : asc (-1) c) : G_are_blocks [tupT c] = some (.rt (bT true) [.any]) := by
  obtain ⟨Γ', ⟨e2, n2, rfl⟩, h1⟩ := loopE_pre (gs := b_are_blocks_1) (bd := bind md_are_blocks 2) (s := []) (xs := c) (enc := iT) (.tr (tupT c)) .tup .own
    (fun p Γ => ∃ (e2 : Ent), Nal e2 ∧ Γ = [.tr (tupT c), .tr (iT (lsI p)), e2])
    (fun p Γ ⟨_, _, e⟩ => by rw [e]; rfl) (by simp! []) (fun x _ => rfl) (Γ := [.tr (tupT c), .tr (iT (-1)), .no])
    (by
      rintro p x q Γ hx ⟨e2, n2, rfl⟩
      have a := asc_at (hx ▸ h)
      have a1 : (lsI p + 1 ≤ x ∧ x ≤ 63) := by unfold lsI; omega
      have a2 : lsI (p ++ [x]) = x := last_app _ _ _
      refine ⟨_, _, by simp! [n2.kr]; rfl, ⟨.tr (iT x), nal_tr, rfl⟩, .inl ?_⟩
      rw [a2]
      generalize lsI p = y at *
      simp! [b_are_blocks_1, P_within, a1])
    ⟨.no, nal_no, rfl⟩
  simp! [G_are_blocks, g_are_blocks, sFor, h1]
theorem P_copies {cs : List (Int × Int)} (h : asc (-1) (cs.map Prod.fst)) (hs : ∀ p ∈ cs, -1 ≤ p.2 ∧ p.2 < 30) (hl : cs.length ≤ 24) : G_are_copies [.nd .tup .own (cs.map prT)] = some (.rt (bT true) [.any]) := by
  have c0 := cpL_prT cs
  obtain ⟨Γ', ⟨e2, n2, rfl⟩, h1⟩ := loopE_pre (gs := b_are_copies_1) (bd := bind md_are_copies 1) (s := []) (xs := cs) (enc := prT) (.tr (.nd .tup .own (cs.map prT))) .tup .own
    (fun p Γ => ∃ (e2 : Ent), Nal e2 ∧ Γ = [.tr (.nd .tup .own (cs.map prT)), e2])
    (fun p Γ ⟨_, _, e⟩ => by rw [e]; rfl) (by simp! [c0]) (fun x _ => rfl) (Γ := [.tr (.nd .tup .own (cs.map prT)), .no])
    (by
      rintro p x q Γ hx ⟨e2, n2, rfl⟩
      have a := hs x (by rw [hx]; simp)
      have a1 : (-1 ≤ x.2 ∧ x.2 ≤ 199) := by omega
      refine ⟨_, _, by simp! [n2.kr]; rfl, ⟨.tr (prT x), nal_tr, rfl⟩, .inl ?_⟩
      simp! [b_are_copies_1, P_within, a1])
    ⟨.no, nal_no, rfl⟩
  have hlc : gLc [1] (gVar 0) (bind md_are_copies 1) (gC (.bl true)) e_are_copies_1 ⟨[.tr (.nd .tup .own (cs.map prT)), .no], []⟩ = some (.ok ⟨[.tr (.nd .tup .own (cs.map prT)), .no], [.tr (.nd .lst .own ((cs.filter fun _ => true).map fun p => iT p.1))]⟩) :=
    gLcP_is (xs := cs) (enc := prT) (.tr (.nd .tup .own (cs.map prT))) (.tr (.nd .tup .own (cs.map prT))) .tup .own (by simp! [c0, kidL_prT]) (by simp! [c0, kidL_prT]) (by rfl) (by simp! [c0]) (by omega) rfl (by rfl) (by simp! []) rfl rfl (fun x hx => rfl) (fun _ => true) (fun p => iT p.1)
      (fun x hx s' => by simp! []) (fun x hx s' _ => ⟨by simp! [e_are_copies_1], rfl⟩)
  rw [filt_true] at hlc
  have hm : (cs.map fun p => iT p.1) = (cs.map Prod.fst).map iT := by rw [List.map_map]; rfl
  rw [hm] at hlc
  have hlc2 : gClr 1 (gLc [1] (gVar 0) (bind md_are_copies 1) (gC (.bl true)) e_are_copies_1) ⟨[.tr (.nd .tup .own (cs.map prT)), e2], []⟩ = some (.ok ⟨[.tr (.nd .tup .own (cs.map prT)), .no], [.tr (rowT (cs.map Prod.fst))]⟩) := by
    unfold gClr clr
    simp only [List.set_cons_succ, List.set_cons_zero]
    exact hlc
  have hb := P_blocks h
  generalize cs.map Prod.fst = c at *
  simp! [G_are_copies, g_are_copies, sFor, h1, c0, hlc2, hb, -gClr, kidL_prT]
theorem P_check {r : Rc} (h : RcOk r) : G_check_record [rcT r] = some (.rt (.a .non) [.any]) := by
  cases r with
  | cp l x c =>
    obtain ⟨h1, h2, h3, h4, h5⟩ := h
    have h6 : x ≤ 63 := by omega
    have hc := P_cells h5
    simp! [G_check_record, g_check_record, rcT, P_within, h1, h2, h3, h6, s_cm, hc]
  | mk l cs rs =>
    obtain ⟨h1, h2, h3, h4, h5, h6, h7, h8⟩ := h
    have c0 := cpL_prT cs
    have hc := P_copies h3 (fun p hp => ⟨(h5 p hp).2.2.1, (h5 p hp).2.2.2⟩) h7
    have hb := P_blocks h4
    simp! [G_check_record, g_check_record, rcT, P_within, h1, h2, s_mc, hc, hb, c0, kidL_prT]
/-! the disk: places, pending writes -/
abbrev plT : Tr := .nd (.ins 1 6) .frz [iT 24, iT 5, iT 30, iT 3, iT 5, iT 10]
def hlS (b : Bool) : Str := if b then "home" else "log"
abbrev plcT (b : Bool) (a : Int) : Tr := .nd .tup .own [.a (.str (hlS b)), iT a]
inductive Ct | h (c : List Int) | l (r : Rc)
def ctT : Ct → Tr
  | .h c => tupT c
  | .l r => rcT r
def Ct.isH : Ct → Bool
  | .h _ => true
  | .l _ => false
theorem cp_ctT (c : Ct) : cp (ctT c) = true := by cases c <;> simp [ctT, cp_rcT, cp]
theorem esc_ctT (c : Ct) : esc (ctT c) = true := by cases c <;> simp [ctT, esc_rcT, esc]
theorem kid_ctT (o : Ow) (c : Ct) : kid o (ctT c) = ctT c := by cases c <;> simp [ctT, kid_rcT, kid, kidL_iT]
structure Wt where
  n : Int
  a : Int
  c : Ct
abbrev wtT (w : Wt) : Tr := .nd .tup .own [plcT w.c.isH w.a, ctT w.c]
abbrev wsK (ws : List Wt) : List Key := ws.map fun w => .inl w.n
structure Sb where
  hs : List (List Int)
  ls : List (Option Rc)
abbrev dkT (o : Ow) (S : Sb) (h l : Int) (ws : List Wt) : Tr := .nd (.ins 0 6) o [plT, .nd .lst .own (S.hs.map tupT), .nd .lst .own (S.ls.map slT), iT h, iT l, .nd (.dct (wsK ws)) .own (ws.map wtT)]
def Sb.put (S : Sb) (w : Wt) : Sb := match w.c with
  | .h c => ⟨S.hs.set w.a.toNat c, S.ls⟩
  | .l r => ⟨S.hs, S.ls.set w.a.toNat (some r)⟩
structure Sb.Ok (S : Sb) : Prop where
  h : S.hs.length = 24
  l : S.ls.length = 30
def PlOk (b : Bool) (a : Int) : Prop := 0 ≤ a ∧ (b = true → a < 24) ∧ (b = false → a < 30)
theorem P_place {b : Bool} {a : Int} (h : PlOk b a) : G_is_place [plcT b a, plT] = some (.rt (bT true) [.any, .any]) := by
  obtain ⟨h0, h1, h2⟩ := h
  cases b with
  | true =>
    have h3 : a ≤ 23 := by have := h1 rfl; omega
    simp! [G_is_place, g_is_place, hlS, P_within, h0, h3]
  | false =>
    have h3 : a ≤ 29 := by have := h2 rfl; omega
    simp! [G_is_place, g_is_place, hlS, P_within, h0, h3, s_lh]
theorem P_homec {c : List Int} (h : CellOk c) {o : Ow} (ho : o = .lnt ∨ o = .frz) : G_home_content [.nd .lst o (c.map iT)] = some (.rt (tupT c) [.any]) := by
  have hc := P_cells h
  have i1 : ∀ ts, FIsi (.nd .lst o ts) (.nd .tup .own [.a (.ty "list"), .a (.ty "tuple")]) = some (.bl true) := fun ts => by
    simp only [FIsi, tyN, tyNames, kitAnyB, kit_list_tuple, kit_list_list]
  rcases ho with rfl | rfl <;> simp! [G_home_content, g_home_content, hc, i1, -FIsi]
theorem P_fits {r : Rc} (h : RcOk r) : G_fits_plan [rcT r, plT] = some (.rt (bT true) [.any, .any]) := by
  cases r with
  | cp l x c =>
    obtain ⟨h1, h2, h3, h4, h5⟩ := h
    simp! [G_fits_plan, g_fits_plan, rcT, h4]
  | mk l cs rs =>
    obtain ⟨h1, h2, h3, h4, h5, h6, h7, h8⟩ := h
    have c0 := cpL_prT cs
    obtain ⟨Γ', ⟨e2, e3, n2, n3, rfl⟩, k1⟩ := loopE_pre (gs := b_fits_plan_1) (bd := unpk md_fits_plan [2, 3]) (s := []) (xs := cs) (enc := prT) (.tr (.nd .tup .own (cs.map prT))) .tup .own
      (fun p Γ => ∃ (e2 e3 : Ent), Nal e2 ∧ Nal e3 ∧ Γ = [.tr (rcT (.mk l cs rs)), .tr plT, e2, e3])
      (fun p Γ ⟨_, _, _, _, e⟩ => by rw [e]; rfl) (by simp! [c0]) (fun x _ => rfl) (Γ := [.tr (rcT (.mk l cs rs)), .tr plT, .no, .no])
      (by
        rintro p x q Γ hx ⟨e2, e3, n2, n3, rfl⟩
        have a := h5 x (by rw [hx]; simp)
        have a1 : ¬ (24 ≤ x.1) := by omega
        have a2 : ¬ (30 ≤ x.2) := by omega
        refine ⟨_, _, by simp! [n2.kr, n3.kr, unpk]; rfl, ⟨.tr (iT x.1), .tr (iT x.2), nal_tr, nal_tr, rfl⟩, .inl ?_⟩
        simp! [b_fits_plan_1, a1, a2])
      ⟨.no, .no, nal_no, nal_no, rfl⟩
    have hlc : gLc [2] (gSeq (gSeq (gVar 0) (gC (.int 3))) fIxA) (bind md_fits_plan 2) (gC (.bl true)) e_fits_plan_1 ⟨[.tr (rcT (.mk l cs rs)), .tr plT, .no, e3], []⟩ = some (.ok ⟨[.tr (rcT (.mk l cs rs)), .tr plT, .no, e3], [.tr (.nd .lst .own ((rs.filter fun _ => true).map fun _ => bT true))]⟩) :=
      gLcP_is (xs := rs) (enc := iT) (.tr (tupT rs)) (.tr (tupT rs)) .tup .own (by simp! [rcT, c0, kidL_prT]) (by simp! []) (by rfl) (by simp! []) (by omega) rfl (by rfl) (by simp! [n3.kr]) rfl rfl (fun x hx => rfl) (fun _ => true) (fun _ => bT true)
        (fun x hx s' => by simp! []) (fun x hx s' _ => ⟨by
          have := h6 x hx
          have a1 : x < 24 := by omega
          simp! [e_fits_plan_1, a1], rfl⟩)
    rw [filt_true] at hlc
    have hlc2 : gClr 2 (gLc [2] (gSeq (gSeq (gVar 0) (gC (.int 3))) fIxA) (bind md_fits_plan 2) (gC (.bl true)) e_fits_plan_1) ⟨[.tr (rcT (.mk l cs rs)), .tr plT, e2, e3], []⟩ = some (.ok ⟨[.tr (rcT (.mk l cs rs)), .tr plT, .no, e3], [.tr (.nd .lst .own (rs.map fun _ => bT true))]⟩) := by
      have q : clr 2 ⟨[.tr (rcT (.mk l cs rs)), .tr plT, e2, e3], []⟩ = ⟨[.tr (rcT (.mk l cs rs)), .tr plT, .no, e3], []⟩ := by simp! [n3.kr]
      unfold gClr
      rw [q]
      exact hlc
    simp only [fIxA] at hlc2
    have hb : blsT (rs.map fun _ => bT true) = some (rs.map fun _ => true) := blsT_map (fun _ => true) rs
    simp only [rcT] at *
    simp! [G_fits_plan, g_fits_plan, s_mc, sFor, k1, hlc2, -gClr, c0, kidL_prT, fAll, FBls, hb]
theorem P_logc {r : Rc} (h : RcOk r) : G_log_content [rcT r, plT] = some (.rt (rcT r) [.any, .any]) := by
  have h1 := P_check h
  have h2 := P_fits h
  have c0 := cp_rcT r
  have s0 := esc_rcT r
  have k0 := fun o => kid_rcT o r
  generalize rcT r = t at *
  simp! [G_log_content, g_log_content, h1, h2, c0, s0, k0]
/-! issue, sure, barrier -/
section
variable {S : Sb} {h l : Int} {ws : List Wt} {o : Ow}
def ddPc (p : Bool × Int) : PyData := .tuple [.str (hlS p.1), .int p.2]
theorem dd_pc : DD 1 ddPc := by
  refine ⟨fun ⟨b, a⟩ => .tup (.cons (.str (by show PyData.strOk (hlS b) = true; cases b <;> decide +kernel)) (.cons (.int _) .nil)), fun ⟨b, a⟩ ⟨b', a'⟩ => ?_⟩
  have e1 : PyData.eqv (.int a) (.int a') = decide (a = a') := dd_int.eq a a'
  have q1 : PyData.eqv (.str "home") (.str "home") = true := by decide
  have q2 : PyData.eqv (.str "home") (.str "log") = false := by decide
  have q3 : PyData.eqv (.str "log") (.str "home") = false := by decide
  have q4 : PyData.eqv (.str "log") (.str "log") = true := by decide
  have e2 : PyData.eqv (ddPc (b, a)) (ddPc (b', a')) = (PyData.eqv (.str (hlS b)) (.str (hlS b')) && (PyData.eqv (.int a) (.int a') && true)) := by simp only [ddPc, PyData.eqv, PyData.eqvAll]
  rw [e2, e1]
  cases b <;> cases b' <;> by_cases h : a = a' <;> simp [hlS, q1, q2, q3, q4, h]
theorem toD_plc (b : Bool) (a : Int) : toD (plcT b a) = some (ddPc (b, a)) := rfl
theorem FInDp_plc (b : Bool) (a : Int) (L : List (Bool × Int)) : FInDp (plcT b a) (.nd .lst .own (L.map fun p => plcT p.1 p.2)) = some (.bl (decide ((b, a) ∈ L))) := by
  have h2 : toD (.nd .lst .own (L.map fun p => plcT p.1 p.2)) = some (.list (L.map ddPc)) := by
    rw [toD, toDL_map (dd := ddPc) (fun p => toD_plc p.1 p.2)]
  unfold FInDp
  simp only [toD_plc, h2]
  rw [if_pos ⟨((dd_pc.sh _).mono (by decide)).shaped, ((Sh.lst (.map dd_pc.sh)).mono (by decide)).shaped⟩]
  congr 2
  induction L with
  | nil => rfl
  | cons p L ih =>
    rw [List.map_cons, List.any_cons, dd_pc.eq]
    have ih := ih (by rw [toD, toDL_map (dd := ddPc) (fun p => toD_plc p.1 p.2)])
    rw [ih]
    by_cases h : p = (b, a)
    · simp [h]
    · have h' : ¬ (b, a) = p := fun q => h q.symm
      simp [h, h']
abbrev plcs (ws : List Wt) : List (Bool × Int) := ws.map fun w => (w.c.isH, w.a)
theorem fsts_w : ∀ ws : List Wt, fstsT .own (ws.map wtT) = some (ws.map fun w => plcT w.c.isH w.a)
  | [] => rfl
  | w :: ws => by
    simp only [List.map_cons, fstsT, fstT, fsts_w ws]
    simp [eff, kid, kidL, cp, cpL]
theorem FIn_nd {neg : Bool} {k : Nk} {o : Ow} {ts : List Tr} {y : Tr} : FIn neg (.nd k o ts) y = none := rfl
theorem P_busy {b : Bool} {a : Int} (hl : ws.length ≤ 100) : G_Disk_busy [dkT .lnt S h l ws, plcT b a] = some (.rt (bT (decide ((b, a) ∈ plcs ws))) [.any, .any]) := by
  have f1 := FInDp_plc b a (plcs ws)
  have f2 := fsts_w ws
  rw [show ((plcs ws).map fun p => plcT p.1 p.2) = ws.map fun w => plcT w.c.isH w.a by rw [List.map_map]; rfl] at f1
  have hl2 : (ws.map fun w => plcT w.c.isH w.a).length ≤ 100000 := by rw [List.length_map]; omega
  have hl3 : ws.length ≤ 100000 := by omega
  have hk : mkN .lst (ws.map fun w => plcT w.c.isH w.a) = some (.nd .lst .own (ws.map fun w => plcT w.c.isH w.a)) := by
    have : escL (ws.map fun w => plcT w.c.isH w.a) = true := by
      rw [escL_all]
      intro t ht
      obtain ⟨w, _, rfl⟩ := List.mem_map.mp ht
      rfl
    simp [mkN, this]
  have g1 : gLcW 2 (gSeq (gVar 0) (fFld tab_writes)) ⟨[.tr (dkT .lnt S h l ws), .tr (plcT b a), .no], [.tr (plcT b a)]⟩ = some (.ok ⟨[.tr (dkT .lnt S h l ws), .tr (plcT b a), .no], [.tr (.nd .lst .own (ws.map fun w => plcT w.c.isH w.a)), .tr (plcT b a)]⟩) := by
    have e0 : gSeq (gVar 0) (fFld tab_writes) ⟨[.tr (dkT .lnt S h l ws), .tr (plcT b a), .no], [.tr (plcT b a)]⟩ = some (.ok ⟨[.tr (dkT .lnt S h l ws), .tr (plcT b a), .no], [.tr (.nd (.dct (wsK ws)) .lnt (ws.map wtT)), .tr (plcT b a)]⟩) := by simp! []
    have f3 : fstsT .lnt (ws.map wtT) = some (ws.map fun w => plcT w.c.isH w.a) := by
      clear f1 f2 hl hl2 hl3 hk e0
      induction ws with
      | nil => rfl
      | cons w ws ih =>
        simp only [List.map_cons, fstsT, fstT, ih]
        simp [eff, kid, kidL, cp, cpL]
    unfold gLcW
    rw [e0]
    simp only [viewE, f3]
    rw [if_pos ⟨hl2, by simp⟩, hk]
  simp! [G_Disk_busy, g_Disk_busy, g1, fInE, f1, FIn_nd]
theorem WsK_no {n : Int} (h : ∀ w ∈ ws, w.n < n) : kix (.inl n) (wsK ws) = none := by
  have : ∀ ks : List Key, (Sum.inl n) ∉ ks → kix (.inl n) ks = none := by
    intro ks
    induction ks with
    | nil => intro _; rfl
    | cons x ks ih =>
      intro hx
      unfold kix
      rw [if_neg fun e => hx (by rw [e]; exact List.mem_cons_self), ih fun e => hx (List.mem_cons_of_mem _ e)]
      rfl
  apply this
  intro hm
  obtain ⟨w, hw, e⟩ := List.mem_map.mp hm
  have := h w hw
  cases e
  omega
def WsOk (l : Int) (ws : List Wt) : Prop := (wsK ws).Nodup ∧ (∀ w ∈ ws, w.n ≤ l) ∧ ws.length ≤ 100
theorem P_issue {c : Ct} {a : Int} {t : Tr} (w : WsOk l ws) (hl : ws.length < 100) (hp : PlOk c.isH a) (ct : cp t = true) (kt : kid .lnt t = t)
    (hc : (c.isH = true → G_home_content [t] = some (.rt (ctT c) [.any])) ∧ (c.isH = false → G_log_content [t, plT] = some (.rt (ctT c) [.any, .any]))) (hb : (c.isH, a) ∉ plcs ws) :
    G_Disk_issue [dkT .own S h l ws, plcT c.isH a, t] = some (.rt (iT (l + 1)) [dkT .own S h (l + 1) (ws ++ [⟨l + 1, a, c⟩]), .any, .any]) := by
  have p1 := P_place hp
  have b1 := P_busy (S := S) (h := h) (l := l) (ws := ws) (b := c.isH) (a := a) (by omega)
  rw [decide_eq_false hb] at b1
  have k1 : kix (.inl (l + 1)) (wsK ws) = none := WsK_no fun w' hw => by have := w.2.1 w' hw; omega
  have nd := w.1
  have k2 : (wsK ws).length < 100000 := by rw [List.length_map]; omega
  have c1 := cp_ctT c
  have c2 := esc_ctT c
  have c3 := fun o => kid_ctT o c
  have e1 : dkT .own S h (l + 1) (ws ++ [⟨l + 1, a, c⟩]) = .nd (.ins 0 6) .own [plT, .nd .lst .own (S.hs.map tupT), .nd .lst .own (S.ls.map slT), iT h, iT (l + 1), .nd (.dct (wsK ws ++ [.inl (l + 1)])) .own (ws.map wtT ++ [.nd .tup .own [plcT c.isH a, ctT c]])] := by simp [dkT]
  rw [e1]
  simp only [dkT] at b1 ⊢
  generalize hW : wsK ws = ks at *
  generalize ws.map wtT = tw at *
  generalize ctT c = ctt at *
  cases hh : c.isH with
  | true =>
    have h1 := hc.1 hh
    rw [hh] at p1 b1
    simp only [plcT, hlS, if_true, Bool.false_eq_true, if_false] at p1 b1
    simp! [G_Disk_issue, g_Disk_issue, hlS, p1, b1, h1, ct, kt, k1, k2, nd, c1, c2, c3]
  | false =>
    have h1 := hc.2 hh
    rw [hh] at p1 b1
    simp only [plcT, hlS, if_true, Bool.false_eq_true, if_false] at p1 b1
    simp! [G_Disk_issue, g_Disk_issue, hlS, p1, b1, h1, ct, kt, k1, k2, nd, c1, c2, c3, s_lh]
end
/-! writes made sure; a new disk -/
section
variable {S : Sb} {h l : Int} {ws : List Wt}
theorem Sb.put_ok (o : S.Ok) (w : Wt) : (S.put w).Ok := by
  unfold Sb.put
  split
  · exact ⟨by rw [List.length_set]; exact o.h, o.l⟩
  · exact ⟨o.h, by rw [List.length_set]; exact o.l⟩
theorem P_put {c : Ct} {a n : Int} (o : S.Ok) (hp : PlOk c.isH a) : G_Disk_put [dkT .own S h l ws, plcT c.isH a, ctT c] = some (.rt (.a .non) [dkT .own (S.put ⟨n, a, c⟩) h l ws, .any, .any]) := by
  obtain ⟨h0, h1, h2⟩ := hp
  cases c with
  | h c =>
    have a1 := ixN_len (n := S.hs.length) (i := a) h0 (by have := h1 rfl; rw [o.h]; omega)
    have e1 : dkT .own (S.put ⟨n, a, .h c⟩) h l ws = .nd (.ins 0 6) .own [plT, .nd .lst .own ((S.hs.map tupT).set a.toNat (tupT c)), .nd .lst .own (S.ls.map slT), iT h, iT l, .nd (.dct (wsK ws)) .own (ws.map wtT)] := by
      simp only [dkT, Sb.put, List.map_set]
    rw [e1]
    simp only [dkT, plcT, Ct.isH, hlS, if_true, ctT]
    simp! [G_Disk_put, g_Disk_put, a1]
  | l r =>
    have a1 := ixN_len (n := S.ls.length) (i := a) h0 (by have := h2 rfl; rw [o.l]; omega)
    have e1 : dkT .own (S.put ⟨n, a, .l r⟩) h l ws = .nd (.ins 0 6) .own [plT, .nd .lst .own (S.hs.map tupT), .nd .lst .own ((S.ls.map slT).set a.toNat (rcT r)), iT h, iT l, .nd (.dct (wsK ws)) .own (ws.map wtT)] := by
      simp only [dkT, Sb.put, List.map_set]
      rfl
    rw [e1]
    simp only [dkT, plcT, Ct.isH, hlS, if_true, Bool.false_eq_true, if_false, ctT]
    have c0 := cp_rcT r
    have c1 := esc_rcT r
    have c2 := fun o => kid_rcT o r
    generalize rcT r = t at *
    simp! [G_Disk_put, g_Disk_put, a1, s_lh, c0, c1, c2]
theorem kix_at2 {p q : List Key} {k : Key} (nd : (p ++ k :: q).Nodup) : kix k (p ++ k :: q) = some p.length := by
  induction p with
  | nil => simp [kix]
  | cons x p ih =>
    have hx : x ≠ k := by
      intro e
      rw [List.cons_append] at nd
      have := (List.nodup_cons.mp nd).1
      exact this (by rw [e]; simp)
    rw [List.cons_append, kix, if_neg hx, ih (List.nodup_cons.mp nd).2]
    rfl
theorem P_sure {p q : List Wt} {w : Wt} (o : S.Ok) (ok : WsOk l (p ++ w :: q)) (hp : PlOk w.c.isH w.a) : G_Disk_sure [dkT .own S h l (p ++ w :: q), iT w.n] = some (.rt (.a .non) [dkT .own (S.put w) h l (p ++ q), .any]) := by
  have nd := ok.1
  have ek : wsK (p ++ w :: q) = wsK p ++ (.inl w.n) :: wsK q := by simp [wsK]
  have k1 : kix (.inl w.n) (wsK (p ++ w :: q)) = some p.length := by
    rw [ek] at nd ⊢
    rw [kix_at2 nd, List.length_map]
  have k2 : ((p ++ w :: q).map wtT)[p.length]? = some (wtT w) := by simp
  have k3 : (wsK (p ++ w :: q)).eraseIdx p.length = wsK (p ++ q) := by
    have : p.length = (wsK p).length := by rw [List.length_map]
    rw [ek, this, List.eraseIdx_append_of_length_le (Nat.le_refl _), Nat.sub_self]
    simp [wsK]
  have k4 : ((p ++ w :: q).map wtT).eraseIdx p.length = (p ++ q).map wtT := by
    have : p.length = (p.map wtT).length := by rw [List.length_map]
    rw [List.map_append, this, List.eraseIdx_append_of_length_le (Nat.le_refl _), Nat.sub_self]
    simp
  have pt := P_put (S := S) (h := h) (l := l) (ws := p ++ q) (c := w.c) (a := w.a) (n := w.n) o hp
  have c1 := cp_ctT w.c
  have c2 := esc_ctT w.c
  have c3 := fun o => kid_ctT o w.c
  simp only [dkT] at pt ⊢
  generalize wsK (p ++ w :: q) = ks at *
  generalize wsK (p ++ q) = ks' at *
  generalize (p ++ w :: q).map wtT = tw at *
  generalize (p ++ q).map wtT = tw' at *
  simp only [plcT, wtT] at *
  generalize ctT w.c = ctt at *
  generalize hlS w.c.isH = hl at *
  simp! [G_Disk_sure, g_Disk_sure, chkD, fPopD, keyOf, FInD, FIn, k1, k2, k3, k4, nd, pt, c1, c2, c3]
theorem P_move {p : Int} (h0 : 0 ≤ p) (h1 : p ≤ 999999) : G_Disk_move_head [dkT .own S h l ws, iT p] = some (.rt (.a .non) [dkT .own S p l ws, .any]) := by
  simp only [dkT]
  generalize wsK ws = ks
  generalize ws.map wtT = tw
  simp! [G_Disk_move_head, g_Disk_move_head, P_within, h0, h1]
end
/-! all pending writes made sure; the empty disk -/
section
variable {S : Sb} {h l : Int} {ws : List Wt}
def putAll (S : Sb) (ws : List Wt) : Sb := ws.foldl Sb.put S
theorem putAll_ok : ∀ {ws : List Wt} {S : Sb}, S.Ok → (putAll S ws).Ok
  | [], _, o => o
  | w :: ws, S, o => putAll_ok (ws := ws) (Sb.put_ok o w)
theorem putAll_app (S : Sb) (p : List Wt) (w : Wt) : putAll S (p ++ [w]) = (putAll S p).put w := by
  unfold putAll
  rw [List.foldl_append]
  rfl
theorem WsOk.drop {p q : List Wt} (h : WsOk l (p ++ q)) : WsOk l q := by
  refine ⟨?_, fun w hw => h.2.1 w (List.mem_append_right _ hw), by have := h.2.2; simp at this; omega⟩
  have := h.1
  rw [wsK, List.map_append] at this
  exact (List.nodup_append.mp this).2.1
theorem P_barrier (o : S.Ok) (ok : WsOk l ws) (hp : ∀ w ∈ ws, PlOk w.c.isH w.a) : G_Disk_barrier [dkT .own S h l ws] = some (.rt (.a .non) [dkT .own (putAll S ws) h l []]) := by
  obtain ⟨Γ', ⟨e1, q', n1, hq, rfl⟩, h1⟩ := loopE_pre (gs := b_Disk_barrier_1) (bd := bind md_Disk_barrier 1) (s := []) (xs := ws) (enc := fun w => iT w.n) (.tr (.nd .lst .lnt (ws.map fun w => iT w.n))) .lst .lnt
    (fun p Γ => ∃ (e1 : Ent) (q : List Wt), Nal e1 ∧ ws = p ++ q ∧ Γ = [.tr (dkT .own (putAll S p) h l q), e1])
    (fun p Γ ⟨_, _, _, _, e⟩ => by rw [e]; rfl) rfl (fun x _ => rfl) (Γ := [.tr (dkT .own S h l ws), .no])
    (by
      rintro p x q Γ hx ⟨e1, q', n1, hq, rfl⟩
      have : q' = x :: q := List.append_cancel_left (hq.symm.trans hx)
      subst this
      have ps := P_sure (S := putAll S p) (h := h) (l := l) (p := []) (q := q) (w := x) (putAll_ok o) (WsOk.drop (hx ▸ ok)) (hp x (by rw [hx]; simp))
      refine ⟨_, _, by simp! [n1.kr]; rfl, ⟨.tr (iT x.n), q, nal_tr, by rw [hx]; simp, rfl⟩, .inl ?_⟩
      rw [putAll_app]
      simp only [List.nil_append, dkT] at ps ⊢
      generalize wsK (x :: q) = k1 at *
      generalize wsK q = k2 at *
      generalize (x :: q).map wtT = t1 at *
      generalize q.map wtT = t2 at *
      simp! [b_Disk_barrier_1, ps])
    ⟨.no, ws, nal_no, rfl, rfl⟩
  have hq0 : q' = [] := by
    have := congrArg List.length hq
    simp at this
    exact this
  subst hq0
  have hl : ws.length ≤ 100000 := by have := ok.2.2; omega
  have hk : keysT (wsK ws) = ws.map fun w => iT w.n := by
    simp only [keysT, wsK, List.map_map]
    rfl
  have hlen : (ws.map fun w => iT w.n).length = ws.length := by rw [List.length_map]
  simp only [dkT] at *
  generalize hks : wsK ws = ks at *
  generalize hts : ws.map wtT = tw at *
  generalize hns : (ws.map fun w => iT w.n) = tn at *
  simp! [G_Disk_barrier, g_Disk_barrier, sFor, fLstD, hk, h1, hlen]
theorem P_init : G_Disk_init [.nd (.ins 0 0) .own [], plT] = some (.rt (.a .non) [dkT .own ⟨List.replicate 24 [0, 0, 0, 0, 0, 0, 0, 0], List.replicate 30 none⟩ 0 0 [], .any]) := by rfl
theorem P_plan : G_Plan_init [.nd (.ins 1 0) .own [], iT 24, iT 5, iT 30] = some (.rt (.a .non) [.nd (.ins 1 6) .own [iT 24, iT 5, iT 30, iT 3, iT 5, iT 10], .any, .any, .any]) := by rfl
theorem e0_ok : Sb.Ok ⟨List.replicate 24 [0, 0, 0, 0, 0, 0, 0, 0], List.replicate 30 none⟩ := ⟨rfl, rfl⟩
end
/-! drawn slots and marks -/
section
variable {fs : List Int} {k lot : Int}
theorem P_slot (hf : Feed fs) (k0 : 0 ≤ k) (k1 : k < 2000000) : ∃ v fs', G_law_slot [rowT fs, iT k] = some (.rt (iT v) [rowT fs', .any]) ∧ -1 ≤ v ∧ v < 30 ∧ Feed fs' := by
  obtain ⟨c, fs', h1, c0, c1, hf'⟩ := G_pick (n := 40) hf (by decide)
  by_cases q1 : 35 < c
  · exact ⟨-1, fs', by simp! [G_law_slot, g_law_slot, h1, q1], by omega, by omega, hf'⟩
  · by_cases q2 : 29 < c
    · exact ⟨c - 30, fs', by simp! [G_law_slot, g_law_slot, h1, q1, q2], by omega, by omega, hf'⟩
    · have mu := fun {Γ s} => @fMul_int Γ s 7 k (cMul_l (by decide) (by decide))
      exact ⟨(c + 7 * k) % 30, fs', by simp! [G_law_slot, g_law_slot, h1, q1, q2, mu], by omega, by omega, hf'⟩
def ddPr (p : Int × Int) : PyData := .tuple [.int p.1, .int p.2]
theorem kid_pr (o : Ow) (p : Int × Int) : kid o (prT p) = prT p := by simp [kid, kidL]
theorem toD_pr (p : Int × Int) : toD (prT p) = some (ddPr p) := rfl
theorem alikeB_pr (L : List (Int × Int)) : alikeB (L.map ddPr) = true := by
  simp only [alikeB, List.all_eq_true]
  intro d hd d' hd'
  obtain ⟨r, _, rfl⟩ := List.mem_map.mp hd
  obtain ⟨r', _, rfl⟩ := List.mem_map.mp hd'
  simp [ddPr, PySem.W.alike, PySem.W.alikeAll]
theorem tupB_pr (L : List (Int × Int)) : tupB (L.map ddPr) = true := by
  simp only [tupB, List.all_eq_true]
  intro d hd
  obtain ⟨r, _, rfl⟩ := List.mem_map.mp hd
  simp [ddPr, PyData.depth, PyData.depthAll]
abbrev SP (L : List (Int × Int)) : List (Int × Int) := L.mergeSort (PySem.W.dataLe false ddPr)
theorem zip_maps {α β γ : Type} (f : α → β) (g : α → γ) : ∀ l : List α, (l.map f).zip (l.map g) = l.map fun x => (f x, g x)
  | [] => rfl
  | x :: l => by rw [List.map_cons, List.map_cons, List.map_cons, List.zip_cons_cons, zip_maps f g l]
theorem srt_pr (L : List (Int × Int)) : srtD (L.map prT) (L.map ddPr) = (SP L).map prT := by
  unfold srtD SP
  rw [zip_maps]
  have h : (L.mergeSort (PySem.W.dataLe false ddPr)).map (fun x => (prT x, ddPr x)) = (L.map fun x => (prT x, ddPr x)).mergeSort (PySem.W.dataLe false Prod.snd) := List.map_mergeSort fun a _ b _ => rfl
  rw [← h, List.map_map]
  rfl
theorem SP_up (L : List (Int × Int)) : ((SP L).map Prod.fst).Pairwise (· ≤ ·) := by
  have h := PySem.W.sort_pairwise (le := PySem.W.dataLe false ddPr) (PySem.W.sortLe_total _ false _) L
  rw [List.pairwise_map]
  refine List.Pairwise.imp (fun {a b} e => ?_) h
  have e : (!PySem.W.dataLt (ddPr b) (ddPr a)) = true := e
  unfold ddPr at e
  rw [PySem.W.dataLt_pair (by simp [PySem.W.alike]) (by simp [PySem.W.alike]), PySem.W.dataLt_int] at e
  by_cases z : b.1 = a.1
  · omega
  · have z2 : PyData.eqv (.int b.1) (.int a.1) = false := by simp [PyData.eqv, z]
    rw [z2] at e
    simp [PySem.W.dataLt_int] at e
    exact e
theorem SP_perm (L : List (Int × Int)) : (SP L).Perm L := List.mergeSort_perm _ _
theorem fSrtD_pr {Γ s : List Ent} {e : Ent} {o : Ow} {L : List (Int × Int)} (hv : viewE Γ e = some (.nd .lst o (L.map prT))) (hi : itemsE e o (L.map prT) = some (L.map prT)) : fSrtD ⟨Γ, e :: s⟩ = some (.ok ⟨Γ, .tr (.nd .lst .own ((SP L).map prT)) :: s⟩) := by
  have h1 : toDL (L.map prT) = some (L.map ddPr) := toDL_map (dd := ddPr) (fun r => toD_pr r) L
  unfold fSrtD
  simp only [hv, hi, h1]
  rw [if_pos ⟨alikeB_pr L, tupB_pr L⟩, srt_pr]
  simp only [mkN, escL_prT, if_true]
  rfl
theorem mapk_pr (o : Ow) (L : List (Int × Int)) : (L.map prT).map (kid o) = L.map prT := by
  rw [List.map_map]
  exact List.map_congr_left fun r _ => kid_pr o r
theorem asc_of : ∀ {l : Int} {xs : List Int}, (∀ x ∈ xs, l < x ∧ x ≤ 63) → xs.Pairwise (· ≤ ·) → xs.Nodup → asc l xs
  | _, [], _, _, _ => trivial
  | l, x :: xs, h1, h2, h3 => by
    have a := h1 x List.mem_cons_self
    obtain ⟨p1, p2⟩ := List.pairwise_cons.mp h2
    obtain ⟨n1, n2⟩ := List.nodup_cons.mp h3
    refine ⟨a.1, a.2, asc_of (fun y hy => ⟨?_, (h1 y (List.mem_cons_of_mem _ hy)).2⟩) p2 n2⟩
    have := p1 y hy
    have ne : y ≠ x := fun e => n1 (e ▸ hy)
    omega
/-- the pairs and the revoked blocks of a drawn mark -/
def CsOk (cs : List (Int × Int)) : Prop := (cs.map Prod.fst).Nodup ∧ ∀ p ∈ cs, 10 ≤ p.1 ∧ p.1 < 18 ∧ -1 ≤ p.2 ∧ p.2 < 30
def RsOk (rs : List Int) : Prop := rs.Nodup ∧ ∀ p ∈ rs, 10 ≤ p ∧ p < 18
theorem mark_ok {cs : List (Int × Int)} {rs : List Int} (h1 : CsOk cs) (h2 : RsOk rs) (l0 : 1 ≤ lot) (l1 : lot ≤ 999999) (n1 : cs.length ≤ 24) (n2 : rs.length ≤ 24) : RcOk (.mk lot (SP cs) (sortI rs)) := by
  have m1 : ∀ p ∈ SP cs, 10 ≤ p.1 ∧ p.1 < 18 ∧ -1 ≤ p.2 ∧ p.2 < 30 := fun p hp => h1.2 p ((SP_perm cs).mem_iff.mp hp)
  have m2 : ∀ p ∈ sortI rs, 10 ≤ p ∧ p < 18 := fun p hp => h2.2 p ((sortI_perm rs).mem_iff.mp hp)
  refine ⟨l0, l1, asc_of (fun x hx => ?_) (SP_up cs) ?_, asc_of (fun x hx => ?_) (sortI_sorted rs) ((sortI_perm rs).nodup_iff.mpr h2.1), fun p hp => ?_, fun x hx => ?_, ?_, ?_⟩
  · obtain ⟨p, hp, rfl⟩ := List.mem_map.mp hx
    have := m1 p hp
    omega
  · exact ((SP_perm cs).map _).nodup_iff.mpr h1.1
  · have := m2 x hx
    omega
  · have := m1 p hp
    omega
  · have := m2 x hx
    omega
  · rw [(SP_perm cs).length_eq]; exact n1
  · rw [(sortI_perm rs).length_eq]; exact n2
end
/-! a drawn mark -/
section
variable {fs : List Int} {k lot : Int} {cs : List (Int × Int)} {rs : List Int}
theorem firstsL {x : Int} {Γ : List Ent} (hΓ : Γ = [.tr (rowT fs), .tr (iT lot), .tr (.nd .lst .own (cs.map prT)), .tr (iT k), .tr (iT x), .no, .no]) (hl : cs.length ≤ 24) :
    gLc [5] (gVar 2) (bind md_law_mark 5) (gC (.bl true)) e_law_mark_1 ⟨Γ, [.tr (iT x)]⟩ = some (.ok ⟨Γ, [.tr (rowT (cs.map Prod.fst)), .tr (iT x)]⟩) := by
  subst hΓ
  have h := gLcP_is (gs := gVar 2) (md := md_law_mark) (k := 5) (gt := gC (.bl true)) (ge := e_law_mark_1) (Γ := [.tr (rowT fs), .tr (iT lot), .tr (.nd .lst .own (cs.map prT)), .tr (iT k), .tr (iT x), .no, .no]) (s := [.tr (iT x)]) (xs := cs) (enc := prT) (.al [2]) (.al [2]) .lst .own (by simp! []) (by simp! []) (by rfl) (by rfl) (by omega) rfl (by rfl) (by simp! []) rfl rfl (fun x hx => rfl) (fun _ => true) (fun p => iT p.1)
    (fun x hx s' => by simp! []) (fun x hx s' _ => ⟨by simp! [e_law_mark_1], rfl⟩)
  rw [filt_true] at h
  rw [h]
  have hm : (cs.map fun p => iT p.1) = (cs.map Prod.fst).map iT := by rw [List.map_map]; rfl
  rw [hm]
theorem mark_turn1 (hf : Feed fs) (hc : CsOk cs) (hl : cs.length ≤ 20) (k0 : 0 ≤ k) (k1 : k < 10) (l0 : 1 ≤ lot) (l1 : lot ≤ 999990) {e4 : Ent} (n4 : Nal e4) :
    ∃ fs' cs' e4', Feed fs' ∧ CsOk cs' ∧ cs'.length ≤ cs.length + 1 ∧ Nal e4' ∧ b_law_mark_1 ⟨[.tr (rowT fs), .tr (iT lot), .tr (.nd .lst .own (cs.map prT)), .tr (iT k), e4, .no, .no], []⟩ = some (.nx ⟨[.tr (rowT fs'), .tr (iT lot), .tr (.nd .lst .own (cs'.map prT)), .tr (iT k), e4', .no, .no], []⟩) := by
  obtain ⟨c, fs1, h1, c0, c1, hf1⟩ := G_pick (n := 8) hf (by decide)
  have mu := fun {Γ s} => @fMul_int Γ s 3 k (cMul_l (by decide) (by decide))
  obtain ⟨v, fs2, h2, v0, v1, hf2⟩ := P_slot (k := k + lot) hf1 (by omega) (by omega)
  have hx0 : 10 ≤ 10 + (c + 3 * k + lot) % 8 := by omega
  have hx1 : 10 + (c + 3 * k + lot) % 8 < 18 := by omega
  generalize hx : 10 + (c + 3 * k + lot) % 8 = x at *
  have hL := firstsL (fs := fs1) (lot := lot) (cs := cs) (k := k) (x := x) rfl (by omega)
  by_cases q : x ∈ cs.map Prod.fst
  · refine ⟨fs1, cs, .tr (iT x), hf1, hc, by omega, nal_tr, ?_⟩
    generalize cs.map Prod.fst = cf at *
    generalize cs.map prT = ct at *
    simp! [b_law_mark_1, h1, mu, hx, hL, q, n4.kr, n4.ke, n4.kj]
  · refine ⟨fs2, cs ++ [(x, v)], .tr (iT x), hf2, ⟨?_, fun p hp => ?_⟩, by simp, nal_tr, ?_⟩
    · rw [List.map_append, List.nodup_append]
      refine ⟨hc.1, by simp, fun a ha b hb e => ?_⟩
      simp at hb
      subst hb
      exact q (e ▸ ha)
    · rcases List.mem_append.mp hp with hp | hp
      · exact hc.2 p hp
      · simp at hp
        subst hp
        exact ⟨hx0, hx1, v0, v1⟩
    · have hs : (cs.map prT).length < sizeLine := by rw [List.length_map, sizeLine_eq]; omega
      have e1 : (cs ++ [(x, v)]).map prT = cs.map prT ++ [prT (x, v)] := by rw [List.map_append]; rfl
      rw [e1]
      generalize cs.map Prod.fst = cf at *
      generalize cs.map prT = ct at *
      simp! [b_law_mark_1, h1, h2, mu, hx, hL, q, hs, n4.kr, n4.ke, n4.kj]
end
/-! a drawn mark: the revoked blocks, the whole -/
section
variable {fs : List Int} {k lot : Int} {cs : List (Int × Int)} {rs : List Int}
theorem mark_turn2 (hf : Feed fs) (hc : RsOk rs) (hl : rs.length ≤ 20) (k0 : 0 ≤ k) (k1 : k < 10) (l0 : 1 ≤ lot) (l1 : lot ≤ 999990) {e4 : Ent} (n4 : Nal e4) :
    ∃ fs' rs' e4', Feed fs' ∧ RsOk rs' ∧ rs'.length ≤ rs.length + 1 ∧ Nal e4' ∧ b_law_mark_2 ⟨[.tr (rowT fs), .tr (iT lot), .tr (.nd .lst .own (cs.map prT)), .tr (iT k), e4, .no, .tr (rowT rs)], []⟩ = some (.nx ⟨[.tr (rowT fs'), .tr (iT lot), .tr (.nd .lst .own (cs.map prT)), .tr (iT k), e4', .no, .tr (rowT rs')], []⟩) := by
  obtain ⟨c, fs1, h1, c0, c1, hf1⟩ := G_pick (n := 8) hf (by decide)
  have mu := fun {Γ s} => @fMul_int Γ s 3 k (cMul_l (by decide) (by decide))
  have hx0 : 10 ≤ 10 + (c + 3 * k + lot) % 8 := by omega
  have hx1 : 10 + (c + 3 * k + lot) % 8 < 18 := by omega
  generalize hx : 10 + (c + 3 * k + lot) % 8 = x at *
  by_cases q : x ∈ rs
  · refine ⟨fs1, rs, .tr (iT x), hf1, hc, by omega, nal_tr, ?_⟩
    generalize cs.map prT = ct at *
    simp! [b_law_mark_2, h1, mu, hx, q, n4.kr, n4.ke, n4.kj]
  · refine ⟨fs1, rs ++ [x], .tr (iT x), hf1, ⟨?_, fun p hp => ?_⟩, by simp, nal_tr, ?_⟩
    · rw [List.nodup_append]
      refine ⟨hc.1, by simp, fun a ha b hb e => ?_⟩
      simp at hb
      subst hb
      exact q (e ▸ ha)
    · rcases List.mem_append.mp hp with hp | hp
      · exact hc.2 p hp
      · simp at hp
        subst hp
        exact ⟨hx0, hx1⟩
    · have hs : rs.length < sizeLine := by rw [sizeLine_eq]; omega
      generalize cs.map prT = ct at *
      simp! [b_law_mark_2, h1, mu, hx, q, hs, n4.kr, n4.ke, n4.kj]
theorem P_mark (hf : Feed fs) (l0 : 1 ≤ lot) (l1 : lot ≤ 999990) : ∃ cs rs fs', G_law_mark [rowT fs, iT lot] = some (.rt (rcT (.mk lot cs rs)) [rowT fs', .any]) ∧ RcOk (.mk lot cs rs) ∧ (∀ p ∈ cs, 10 ≤ p.1 ∧ p.1 < 18) ∧ Feed fs' := by
  obtain ⟨c, fs1, h1, c0, c1, hf1⟩ := G_pick (n := 6) hf (by decide)
  have c2 : 0 ≤ (c + 3) % 6 := by omega
  have c3 : (c + 3) % 6 < 6 := by omega
  obtain ⟨m1, q1, fs2, cs2, e3, e4, hf2, hc2, hl2, n3, n4, rfl⟩ := loopR_nx (bd := bind md_law_mark 3) (gs := b_law_mark_1) (lo := 0) (n := ((c + 3) % 6).toNat)
    (fun i m => ∃ fs cs e3 e4, Feed fs ∧ CsOk cs ∧ cs.length ≤ i ∧ Nal e3 ∧ Nal e4 ∧ m = ⟨[.tr (rowT fs), .tr (iT lot), .tr (.nd .lst .own (cs.map prT)), e3, e4, .no, .no], []⟩)
    (m := ⟨[.tr (rowT fs1), .tr (iT lot), .tr (.nd .lst .own []), .no, .no, .no, .no], []⟩) ⟨fs1, [], .no, .no, hf1, ⟨by simp, by simp⟩, by simp, nal_no, nal_no, rfl⟩
    (by
      rintro i m hi ⟨fs, cs, e3, e4, hf, hc, hl, n3, n4, rfl⟩
      obtain ⟨fs', cs', e4', hf', hc', hl', n4', ht⟩ := mark_turn1 (k := (0 : Int) + i) (lot := lot) hf hc (by omega) (by omega) (by omega) l0 l1 n4
      exact ⟨_, _, by simp! [n3.kr, n4.kr]; rfl, by rw [← ht]; simp, fs', cs', .tr (iT (0 + i)), e4', hf', hc', by omega, nal_tr, n4', rfl⟩)
  obtain ⟨d, fs3, h2, d0, d1, hf3⟩ := G_pick (n := 4) hf2 (by decide)
  have d2 : 0 ≤ (d + 1) % 4 := by omega
  have d3 : (d + 1) % 4 < 4 := by omega
  obtain ⟨m2, q2, fs4, rs2, f3, f4, hf4, hr2, hk2, g3, g4, rfl⟩ := loopR_nx (bd := bind md_law_mark 3) (gs := b_law_mark_2) (lo := 0) (n := ((d + 1) % 4).toNat)
    (fun i m => ∃ fs rs e3 e4, Feed fs ∧ RsOk rs ∧ rs.length ≤ i ∧ Nal e3 ∧ Nal e4 ∧ m = ⟨[.tr (rowT fs), .tr (iT lot), .tr (.nd .lst .own (cs2.map prT)), e3, e4, .no, .tr (rowT rs)], []⟩)
    (m := ⟨[.tr (rowT fs3), .tr (iT lot), .tr (.nd .lst .own (cs2.map prT)), e3, e4, .no, .tr (.nd .lst .own [])], []⟩) ⟨fs3, [], e3, e4, hf3, ⟨by simp, by simp⟩, by simp, n3, n4, rfl⟩
    (by
      rintro i m hi ⟨fs, rs, e3, e4, hf, hc, hl, n3, n4, rfl⟩
      obtain ⟨fs', rs', e4', hf', hc', hl', n4', ht⟩ := mark_turn2 (cs := cs2) (k := (0 : Int) + i) (lot := lot) hf hc (by omega) (by omega) (by omega) l0 l1 n4
      exact ⟨_, _, by simp! [n3.kr, n4.kr]; rfl, by rw [← ht]; simp, fs', rs', .tr (iT (0 + i)), e4', hf', hc', by omega, nal_tr, n4', rfl⟩)
  refine ⟨SP cs2, sortI rs2, fs4, ?_, mark_ok hc2 hr2 l0 (by omega) (by omega) (by omega), fun p hp => ?_, hf4⟩
  · have s1 := fSrtD_pr (Γ := [.tr (rowT fs4), .tr (iT lot), .tr (.nd .lst .own (cs2.map prT)), f3, f4, .no, .tr (rowT rs2)]) (e := .al [2]) (o := .own) (L := cs2) (s := [.tr (iT lot), .tr (.a (.str "mark"))]) rfl (by
      unfold itemsE
      simp only [mapk_pr]
      rw [if_pos (cpL_prT cs2)])
    have i1 : intsT (rs2.map iT) = some rs2 := intsT_map _
    have r1 : -4611686018427387904 ≤ (c + 3) % 6 := by omega
    have r2 : (c + 3) % 6 < 4611686018427387904 := by omega
    have r3 : -4611686018427387904 ≤ (d + 1) % 4 := by omega
    have r4 : (d + 1) % 4 < 4611686018427387904 := by omega
    have e1 := escL_prT (SP cs2)
    have e2 := fun o => kidL_prT o (SP cs2)
    have c1' := cpL_prT (SP cs2)
    have e3' := fun o => mapk_pr o (SP cs2)
    simp only [rcT, List.map_nil] at *
    generalize cs2.map prT = ct at *
    generalize (SP cs2).map prT = st at *
    simp! [G_law_mark, g_law_mark, h1, sForR1, q1, h2, q2, s1, fSrt, i1, n3.kr, n4.kr, g3.kr, g4.kr, n3.ke, n4.ke, g3.ke, g4.ke, r1, r2, r3, r4, e1, e2, c1', e3']
  · have := (SP_perm cs2).mem_iff.mp hp
    have := hc2.2 p this
    omega
end
/-! the law writes a record; the copies of the marks -/
section
variable {S : Sb} {h l : Int} {fs : List Int}
abbrev lgT (o : Ow) (ls : List (Option Rc)) : Tr := .nd .lst o (ls.map slT)
def Sb.lp (S : Sb) (a : Int) (r : Rc) : Sb := ⟨S.hs, S.ls.set a.toNat (some r)⟩
theorem lp_ok (o : S.Ok) (a : Int) (r : Rc) : (S.lp a r).Ok := ⟨o.h, by unfold Sb.lp; rw [List.length_set]; exact o.l⟩
theorem P_lput {a : Int} {r : Rc} (o : S.Ok) (hr : RcOk r) (a0 : 0 ≤ a) (a1 : a < 30) :
    G_law_put [dkT .own S h l [], lgT .own S.ls, iT a, rcT r] = some (.rt (.a .non) [dkT .own (S.lp a r) h (l + 1) [], lgT .own (S.lp a r).ls, .any, .any]) := by
  have hp : PlOk (Ct.isH (.l r)) a := ⟨a0, fun e => (by cases e), fun _ => a1⟩
  have w0 : WsOk l [] := ⟨by simp, by simp, by simp⟩
  have p1 := P_issue (S := S) (h := h) (c := .l r) (t := rcT r) w0 (by simp) hp (cp_rcT r) (kid_rcT _ r) ⟨fun e => (by cases e), fun _ => P_logc hr⟩ (by simp)
  have w1 : WsOk (l + 1) ([] ++ (⟨l + 1, a, .l r⟩ : Wt) :: []) := ⟨by simp, by simp, by simp⟩
  have p2 := P_sure (S := S) (h := h) (l := l + 1) (p := []) (q := []) (w := ⟨l + 1, a, .l r⟩) o w1 hp
  have i1 := ixN_len (n := S.ls.length) (i := a) a0 (by rw [o.l]; omega)
  have e1 : lgT .own (S.lp a r).ls = .nd .lst .own ((S.ls.map slT).set a.toNat (rcT r)) := by
    simp only [lgT, Sb.lp, List.map_set]
    rfl
  have e2 : S.put ⟨l + 1, a, .l r⟩ = S.lp a r := rfl
  rw [e1]
  rw [e2] at p2
  have c0 := cp_rcT r
  have c1 := esc_rcT r
  have c2 := fun o => kid_rcT o r
  simp only [List.nil_append, dkT, plcT, Ct.isH, hlS, Bool.false_eq_true, if_false, List.map_nil, List.map_cons, lgT] at p1 p2 ⊢
  generalize rcT r = t at *
  simp! [G_law_put, g_law_put, p1, p2, i1, c0, c1, c2]
theorem cprow_ok {s lot b : Int} (s0 : 0 ≤ s) (s1 : s < 1000) (l0 : 1 ≤ lot) (l1 : lot ≤ 999999) (b0 : 0 ≤ b) (b1 : b < 24) : RcOk (.cp lot b [s + 1, lot, b, 0, 0, 0, 0, 0]) :=
  ⟨l0, l1, b0, b1, rfl, fun i hi => by simp at hi; omega⟩
structure LgOk (S : Sb) (H : List (List Int)) : Prop where
  o : S.Ok
  hs : S.hs = H
  rc : ∀ r, some r ∈ S.ls → RcOk r
theorem LgOk.lp {H : List (List Int)} (k : LgOk S H) (a : Int) {r : Rc} (hr : RcOk r) : LgOk (S.lp a r) H := by
  refine ⟨lp_ok k.o a r, k.hs, fun r' hr' => ?_⟩
  unfold Sb.lp at hr'
  rcases List.mem_or_eq_of_mem_set hr' with q | q
  · exact k.rc r' q
  · cases q
    exact hr
theorem copies_in {H : List (List Int)} {lot b s : Int} {ct rt : List Tr} (hf : Feed fs) (k : LgOk S H) (cc : cpL ct = true) (kc : ∀ o, kidL o ct = ct) (cr : cpL rt = true) (kr : ∀ o, kidL o rt = rt) (l0 : 1 ≤ lot) (l1 : lot ≤ 999990) (b0 : 0 ≤ b) (b1 : b < 23) (s0 : -1 ≤ s) (s1 : s < 30) {e6 e7 e8 : Ent} (n6 : Nal e6) (n7 : Nal e7) (n8 : Nal e8) (mk t1 t2 : Tr) :
    ∃ fs' S' l' f6 f7 f8, Feed fs' ∧ LgOk S' H ∧ Nal f6 ∧ Nal f7 ∧ Nal f8 ∧ b_law_copies_1 ⟨[.tr (rowT fs), .tr (dkT .own S h l []), .tr (lgT .own S.ls), .tr mk, .tr (.nd .tup .own [.a (.str "mark"), iT lot, .nd .tup .own ct, .nd .tup .own rt]), .tr (prT (b, s)), e6, e7, e8], [.tr t1, .tr t2]⟩ = some (.nx ⟨[.tr (rowT fs'), .tr (dkT .own S' h l' []), .tr (lgT .own S'.ls), .tr mk, .tr (.nd .tup .own [.a (.str "mark"), iT lot, .nd .tup .own ct, .nd .tup .own rt]), .tr (prT (b, s)), f6, f7, f8], [.tr t1, .tr t2]⟩) := by
  obtain ⟨c, fs1, h1, c0, c1, hf1⟩ := G_pick (n := 8) hf (by decide)
  have key : ∀ lot' b', lot' = lot + (if c = 6 then 1 else 0) → b' = b + (if c = 7 then 1 else 0) → ∃ fs' S' l' f6 f7 f8, Feed fs' ∧ LgOk S' H ∧ Nal f6 ∧ Nal f7 ∧ Nal f8 ∧ b_law_copies_1 ⟨[.tr (rowT fs), .tr (dkT .own S h l []), .tr (lgT .own S.ls), .tr mk, .tr (.nd .tup .own [.a (.str "mark"), iT lot, .nd .tup .own ct, .nd .tup .own rt]), .tr (prT (b, s)), e6, e7, e8], [.tr t1, .tr t2]⟩ = some (.nx ⟨[.tr (rowT fs'), .tr (dkT .own S' h l' []), .tr (lgT .own S'.ls), .tr mk, .tr (.nd .tup .own [.a (.str "mark"), iT lot, .nd .tup .own ct, .nd .tup .own rt]), .tr (prT (b, s)), f6, f7, f8], [.tr t1, .tr t2]⟩) := by
    intro lot' b' hl hb
    have l2 : 1 ≤ lot' := by split at hl <;> omega
    have l3 : lot' ≤ 999999 := by split at hl <;> omega
    have b2 : 0 ≤ b' := by split at hb <;> omega
    have b3 : b' < 24 := by split at hb <;> omega
    by_cases q : 0 ≤ s
    · have ok := cprow_ok q (by omega : s < 1000) l2 l3 b2 b3
      have pl := P_lput (h := h) (l := l) k.o ok q s1
      refine ⟨fs1, S.lp s (.cp lot' b' [s + 1, lot', b', 0, 0, 0, 0, 0]), l + 1, .tr (iT c), .tr (iT lot'), .tr (iT b'), hf1, k.lp s ok, nal_tr, nal_tr, nal_tr, ?_⟩
      simp only [dkT, wsK, rcT, tupT, List.map_cons, List.map_nil] at pl ⊢
      have cs : (c = 6 ∧ ¬ c = 7) ∨ (¬ c = 6 ∧ c = 7) ∨ (¬ c = 6 ∧ ¬ c = 7) := by omega
      rcases cs with ⟨q6, q7⟩ | ⟨q6, q7⟩ | ⟨q6, q7⟩ <;> simp [q6, q7] at hl hb <;> subst hl <;> subst hb <;>
        simp! [b_law_copies_1, h1, q6, q7, q, pl, cc, kc, cr, kr, n6.kr, n6.ke, n6.kj, n7.kr, n7.ke, n7.kj, n8.kr, n8.ke, n8.kj]
    · refine ⟨fs1, S, l, .tr (iT c), .tr (iT lot'), .tr (iT b'), hf1, k, nal_tr, nal_tr, nal_tr, ?_⟩
      simp only [dkT, wsK, List.map_nil]
      have cs : (c = 6 ∧ ¬ c = 7) ∨ (¬ c = 6 ∧ c = 7) ∨ (¬ c = 6 ∧ ¬ c = 7) := by omega
      rcases cs with ⟨q6, q7⟩ | ⟨q6, q7⟩ | ⟨q6, q7⟩ <;> simp [q6, q7] at hl hb <;> subst hl <;> subst hb <;>
        simp! [b_law_copies_1, h1, q6, q7, q, cc, kc, cr, kr, n6.kr, n6.ke, n6.kj, n7.kr, n7.ke, n7.kj, n8.kr, n8.ke, n8.kj]
  exact key _ _ rfl rfl
end
/-! the copies of all marks -/
section
variable {S : Sb} {h l : Int} {fs : List Int} {H : List (List Int)}
def MkOk : Rc → Prop
  | .mk lot cs rs => 1 ≤ lot ∧ lot ≤ 999990 ∧ RcOk (.mk lot cs rs) ∧ ∀ p ∈ cs, 10 ≤ p.1 ∧ p.1 < 18
  | .cp _ _ _ => False
theorem copies_mark {r : Rc} (hf : Feed fs) (k : LgOk S H) (hr : MkOk r) {e5 e6 e7 e8 : Ent} (n5 : Nal e5) (n6 : Nal e6) (n7 : Nal e7) (n8 : Nal e8) (mk t2 : Tr) :
    ∃ fs' S' l' f5 f6 f7 f8, Feed fs' ∧ LgOk S' H ∧ Nal f5 ∧ Nal f6 ∧ Nal f7 ∧ Nal f8 ∧ b_law_copies_2 ⟨[.tr (rowT fs), .tr (dkT .own S h l []), .tr (lgT .own S.ls), .tr mk, .tr (rcT r), e5, e6, e7, e8], [.tr t2]⟩ = some (.nx ⟨[.tr (rowT fs'), .tr (dkT .own S' h l' []), .tr (lgT .own S'.ls), .tr mk, .tr (rcT r), f5, f6, f7, f8], [.tr t2]⟩) := by
  cases r with
  | cp l x c => exact hr.elim
  | mk lot cs rs =>
    obtain ⟨l0, l1, ro, hp⟩ := hr
    have c0 := cpL_prT cs
    have k0 := fun o => kidL_prT o cs
    have c1 : cpL (rs.map iT) = true := cpL_iT rs
    have k1 : ∀ o, kidL o (rs.map iT) = rs.map iT := fun o => by simp [kidL_iT]
    obtain ⟨Γ', ⟨fs', S', l', e5', e6', e7', e8', hf', k', n5', n6', n7', n8', rfl⟩, h1⟩ := loopE_pre (gs := b_law_copies_1) (bd := bind md_law_copies 5) (s := [.tr t2]) (xs := cs) (enc := prT) (.tr (.nd .tup .own (cs.map prT))) .tup .own
      (fun p Γ => ∃ fs S l e5 e6 e7 e8, Feed fs ∧ LgOk S H ∧ Nal e5 ∧ Nal e6 ∧ Nal e7 ∧ Nal e8 ∧ Γ = [.tr (rowT fs), .tr (dkT .own S h l []), .tr (lgT .own S.ls), .tr mk, .tr (rcT (.mk lot cs rs)), e5, e6, e7, e8])
      (fun p Γ ⟨_, _, _, _, _, _, _, _, _, _, _, _, _, e⟩ => by rw [e]; rfl) (by simp! [c0]) (fun x _ => rfl) (Γ := [.tr (rowT fs), .tr (dkT .own S h l []), .tr (lgT .own S.ls), .tr mk, .tr (rcT (.mk lot cs rs)), e5, e6, e7, e8])
      (by
        rintro p x q Γ hx ⟨fs, S, l, e5, e6, e7, e8, hf, k, n5, n6, n7, n8, rfl⟩
        have hm : x ∈ cs := by rw [hx]; simp
        have a := hp x hm
        have a2 := ro.2.2.2.2.1 x hm
        obtain ⟨fs', S', l', f6, f7, f8, hf', k', n6', n7', n8', ht⟩ := copies_in (h := h) (l := l) (lot := lot) (b := x.1) (s := x.2) hf k c0 k0 c1 k1 l0 l1 (by omega) (by omega) a2.2.2.1 a2.2.2.2 n6 n7 n8 mk (.nd .tup .own (cs.map prT)) t2
        exact ⟨_, _, by simp! [n5.kr, n6.kr, n7.kr, n8.kr]; rfl, ⟨fs', S', l', .tr (prT x), f6, f7, f8, hf', k', nal_tr, n6', n7', n8', rfl⟩, .inl ht⟩)
      ⟨fs, S, l, e5, e6, e7, e8, hf, k, n5, n6, n7, n8, rfl⟩
    refine ⟨fs', S', l', e5', e6', e7', e8', hf', k', n5', n6', n7', n8', ?_⟩
    have l24 : cs.length = (cs.map prT).length := by rw [List.length_map]
    rw [l24] at h1
    simp only [rcT] at *
    generalize cs.map prT = ct at *
    simp! [b_law_copies_2, sFor, h1, c0, k0, c1, k1]
theorem P_lcopies {ms : List Rc} (hf : Feed fs) (k : LgOk S H) (hm : ∀ r ∈ ms, MkOk r) :
    ∃ fs' S' l', Feed fs' ∧ LgOk S' H ∧ G_law_copies [rowT fs, dkT .own S h l [], lgT .own S.ls, .nd .lst .lnt (ms.map rcT)] = some (.rt (.a .non) [rowT fs', dkT .own S' h l' [], lgT .own S'.ls, .any]) := by
  obtain ⟨Γ', ⟨fs', S', l', e4', e5', e6', e7', e8', hf', k', n4', n5', n6', n7', n8', rfl⟩, h1⟩ := loopE_pre (gs := b_law_copies_2) (bd := bind md_law_copies 4) (s := []) (xs := ms) (enc := rcT) (.tr (.nd .lst .lnt (ms.map rcT))) .lst .lnt
    (fun p Γ => ∃ fs S l e4 e5 e6 e7 e8, Feed fs ∧ LgOk S H ∧ Nal e4 ∧ Nal e5 ∧ Nal e6 ∧ Nal e7 ∧ Nal e8 ∧ Γ = [.tr (rowT fs), .tr (dkT .own S h l []), .tr (lgT .own S.ls), .tr (.nd .lst .lnt (ms.map rcT)), e4, e5, e6, e7, e8])
    (fun p Γ ⟨_, _, _, _, _, _, _, _, _, _, _, _, _, _, _, e⟩ => by rw [e]; rfl) rfl (fun x _ => by rw [kid_rcT]; exact cp_rcT x) (Γ := [.tr (rowT fs), .tr (dkT .own S h l []), .tr (lgT .own S.ls), .tr (.nd .lst .lnt (ms.map rcT)), .no, .no, .no, .no, .no])
    (by
      rintro p x q Γ hx ⟨fs, S, l, e4, e5, e6, e7, e8, hf, k, n4, n5, n6, n7, n8, rfl⟩
      obtain ⟨fs', S', l', f5, f6, f7, f8, hf', k', n5', n6', n7', n8', ht⟩ := copies_mark (h := h) (l := l) hf k (hm x (by rw [hx]; simp)) n5 n6 n7 n8 (.nd .lst .lnt (ms.map rcT)) (.nd .lst .lnt (ms.map rcT))
      exact ⟨_, _, by simp! [kid_rcT, n4.kr, n5.kr, n6.kr, n7.kr, n8.kr] <;> rfl, ⟨fs', S', l', .tr (rcT x), f5, f6, f7, f8, hf', k', nal_tr, n5', n6', n7', n8', rfl⟩, .inl ht⟩)
    ⟨fs, S, l, .no, .no, .no, .no, .no, hf, k, nal_no, nal_no, nal_no, nal_no, nal_no, rfl⟩
  refine ⟨fs', S', l', hf', k', ?_⟩
  have l24 : ms.length = (ms.map rcT).length := by rw [List.length_map]
  rw [l24] at h1
  simp only [dkT, wsK, List.map_nil, lgT] at *
  generalize ms.map rcT = mt at *
  simp! [G_law_copies, g_law_copies, sFor, h1]
end
/-! the disk of the law: homes -/
section
variable {α : Type} {enc : α → Tr} {gs gt ge : GE} {bd : Ms → Option Ms} {cv : List Nat} {s : List Ent}
theorem lcL_pre {xs : List α} (e : Ent) (kd : Nk) (o : Ow) (I : List α → List Ent → List Tr → Prop) (hv : ∀ p Γ acc, I p Γ acc → viewE Γ e = some (.nd kd o (xs.map enc))) (hc : cpE e = true) (hcp : ∀ x ∈ xs, cp (kid o (enc x)) = true)
    (turn : ∀ p x q Γ acc, xs = p ++ x :: q → I p Γ acc → ∃ Γ' acc', lcTurn cv bd gt ge 1 ⟨Γ, .tr (kid o (enc x)) :: e :: .tr (.nd .lst .own acc) :: s⟩ = some ⟨Γ', e :: .tr (.nd .lst .own acc') :: s⟩ ∧ I (p ++ [x]) Γ' acc') {Γ : List Ent} (h0 : I [] Γ []) :
    ∃ Γ' acc', lcL kd cv bd gt ge xs.length 0 ⟨Γ, e :: .tr (.nd .lst .own []) :: s⟩ = some ⟨Γ', e :: .tr (.nd .lst .own acc') :: s⟩ ∧ I xs Γ' acc' := by
  have key : ∀ ys pre Γ acc, xs = pre ++ ys → I pre Γ acc → ∃ Γ' acc', lcL kd cv bd gt ge ys.length pre.length ⟨Γ, e :: .tr (.nd .lst .own acc) :: s⟩ = some ⟨Γ', e :: .tr (.nd .lst .own acc') :: s⟩ ∧ I xs Γ' acc' := by
    intro ys
    induction ys with
    | nil =>
      intro pre Γ acc hx h
      refine ⟨Γ, acc, ?_, by rw [hx, List.append_nil]; exact h⟩
      show lcL kd cv bd gt ge 0 pre.length ⟨Γ, e :: .tr (.nd .lst .own acc) :: s⟩ = _
      unfold lcL
      simp only [hv pre Γ acc h]
      rw [if_pos ⟨trivial, by rw [hx]; simp⟩]
    | cons y ys ih =>
      intro pre Γ acc hx h
      have hmem : y ∈ xs := by rw [hx]; simp
      obtain ⟨Γ1, acc1, e1, h2⟩ := turn pre y ys Γ acc hx h
      have hk1 : kidX e kd o (xs.map enc) pre.length = some (.tr (kid o (enc y))) := by
        unfold kidX
        rw [hx]
        simp [hcp y hmem]
      obtain ⟨Γ', acc', h3, h4⟩ := ih (pre ++ [y]) Γ1 acc1 (by simp [hx]) h2
      rw [List.length_append, List.length_singleton] at h3
      refine ⟨Γ', acc', ?_, h4⟩
      show lcL kd cv bd gt ge (ys.length + 1) pre.length ⟨Γ, e :: .tr (.nd .lst .own acc) :: s⟩ = _
      unfold lcL
      simp only [hv pre Γ acc h]
      rw [if_pos ⟨trivial, hc, by rw [hx]; simp⟩, hk1]
      simp only [e1]
      exact h3
  exact key xs [] Γ [] rfl h0
end
section
variable {fs : List Int} {hd : Int}
def hrow (x : Int) : List Int := [x + 1, 0, 99, 0, 0, 0, 0, x]
def H0 : List (List Int) := (rng 0 24).map hrow
def E0 : Sb := ⟨List.replicate 24 [0, 0, 0, 0, 0, 0, 0, 0], List.replicate 30 none⟩
def W0 (n : Nat) : List Wt := (List.range n).map fun (k : Nat) => ⟨(k : Int) + 1, (k : Int), .h (hrow k)⟩
theorem W0_succ (n : Nat) : W0 (n + 1) = W0 n ++ [⟨(n : Int) + 1, (n : Int), .h (hrow n)⟩] := by
  unfold W0
  rw [List.range_succ, List.map_append]
  rfl
theorem W0_ok (n : Nat) (hn : n ≤ 24) : WsOk n (W0 n) := by
  refine ⟨?_, fun w hw => ?_, by unfold W0; simp; omega⟩
  · have : wsK (W0 n) = (List.range n).map fun (k : Nat) => (Sum.inl ((k : Int) + 1) : Key) := by
      unfold W0 wsK
      rw [List.map_map]
      rfl
    rw [this]
    refine List.Pairwise.map _ (fun a b (h : a ≠ b) => ?_) List.nodup_range
    intro e
    injection e with e
    omega
  · obtain ⟨k, hk, rfl⟩ := List.mem_map.mp hw
    have := List.mem_range.mp hk
    show (k : Int) + 1 ≤ n
    omega
theorem W0_pl (n : Nat) : (true, (n : Int)) ∉ plcs (W0 n) := by
  intro h
  obtain ⟨w, hw, e⟩ := List.mem_map.mp h
  obtain ⟨k, hk, rfl⟩ := List.mem_map.mp hw
  have := List.mem_range.mp hk
  injection e with _ e
  have e : (k : Int) = n := e
  omega
theorem hrow_ok {x : Int} (h0 : 0 ≤ x) (h1 : x < 24) : CellOk (hrow x) := ⟨rfl, fun i hi => by simp [hrow] at hi; omega⟩
theorem put_W0 : putAll E0 (W0 24) = ⟨H0, List.replicate 30 none⟩ := rfl
theorem H0_at {i : Nat} (hi : i < 24) : (H0.map tupT)[i]? = some (tupT (hrow i)) := by
  unfold H0 rng
  simp [hi]
theorem H0_len : (H0.map tupT).length = 24 := rfl
theorem home_turn {i : Nat} (hi : i < 24) {hd : Int} (ht lt : Tr) {e5 : Ent} : b_law_disk_1 ⟨[.tr ht, .tr (iT hd), .tr lt, .tr (.nd .lst .lnt (H0.map tupT)), .tr (dkT .own E0 hd i (W0 i)), .tr (iT i), .no, .no, .no, .no, .no, .no, .no, .no], []⟩ = some (.nx ⟨[.tr ht, .tr (iT hd), .tr lt, .tr (.nd .lst .lnt (H0.map tupT)), .tr (dkT .own E0 hd ((i : Int) + 1) (W0 (i + 1))), .tr (iT i), .no, .no, .no, .no, .no, .no, .no, .no], []⟩) := by
  have p1 := P_issue (S := E0) (h := hd) (l := i) (c := .h (hrow i)) (a := i) (t := .nd .lst .lnt ((hrow i).map iT)) (W0_ok i (by omega)) (by unfold W0; simp; omega) ⟨by omega, fun _ => by omega, fun _ => by omega⟩ rfl rfl
    ⟨fun _ => P_homec (hrow_ok (by omega) (by omega)) (.inl rfl), fun e => (by cases e)⟩ (W0_pl i)
  have a1 := ixN_len (n := (H0.map tupT).length) (i := i) (by omega) (by rw [H0_len]; omega)
  have a2 := H0_at hi
  have a3 : ((i : Int)).toNat = i := by omega
  rw [a3] at a1
  rw [W0_succ]
  simp only [dkT, plcT, Ct.isH, hlS, if_true] at p1 ⊢
  generalize H0.map tupT = ht at *
  generalize hrow (i : Int) = r at *
  generalize wsK (W0 i) = k1 at *
  generalize wsK (W0 i ++ [_]) = k2 at *
  generalize (W0 i).map wtT = t1 at *
  generalize (W0 i ++ [_]).map wtT = t2 at *
  simp! [b_law_disk_1, a1, a2, p1, fLst]
end
/-! the disk of the law: the parts -/
theorem pig : ∀ (n : Nat) (L : List Int) (a : Int), (∀ k : Nat, k < n → a + k ∈ L) → n ≤ L.length
  | 0, _, _, _ => Nat.zero_le _
  | n + 1, L, a, h => by
    have h1 := h n (by omega)
    have h2 := pig n (L.erase (a + n)) a fun k hk => (List.mem_erase_of_ne (by omega)).mpr (h k (by omega))
    rw [List.length_erase_of_mem h1] at h2
    have := List.length_pos_of_mem h1
    omega
section
variable {fs : List Int} {hd : Int} {lt ht dk : Tr}
theorem homes_loop (ft lt : Tr) : ∃ e5, Nal e5 ∧ loopR (bind md_law_disk 5) b_law_disk_1 0 24 0 ⟨[.tr ft, .tr (iT hd), .tr lt, .tr (.nd .lst .lnt (H0.map tupT)), .tr (dkT .own E0 hd 0 []), .no, .no, .no, .no, .no, .no, .no, .no, .no], []⟩ = some (.nx ⟨[.tr ft, .tr (iT hd), .tr lt, .tr (.nd .lst .lnt (H0.map tupT)), .tr (dkT .own E0 hd 24 (W0 24)), e5, .no, .no, .no, .no, .no, .no, .no, .no], []⟩) := by
  obtain ⟨m1, q1, e5, n5, rfl⟩ := loopR_nx (bd := bind md_law_disk 5) (gs := b_law_disk_1) (lo := 0) (n := 24)
    (fun i m => ∃ e5, Nal e5 ∧ m = ⟨[.tr ft, .tr (iT hd), .tr lt, .tr (.nd .lst .lnt (H0.map tupT)), .tr (dkT .own E0 hd i (W0 i)), e5, .no, .no, .no, .no, .no, .no, .no, .no], []⟩)
    (m := ⟨[.tr ft, .tr (iT hd), .tr lt, .tr (.nd .lst .lnt (H0.map tupT)), .tr (dkT .own E0 hd 0 []), .no, .no, .no, .no, .no, .no, .no, .no, .no], []⟩) ⟨.no, nal_no, rfl⟩
    (by
      rintro i m hi ⟨e5, n5, rfl⟩
      exact ⟨_, _, by simp! [n5.kr]; rfl, (home_turn hi ft lt (e5 := e5)), .tr (iT i), nal_tr, by rfl⟩)
  exact ⟨e5, n5, q1⟩
theorem marks_comp {L : List Int} (hf : Feed fs) (hL : ∀ x ∈ L, 1 ≤ x ∧ x ≤ 999990) (hn : L.length ≤ 10) {e5 e6 : Ent} (n5 : Nal e5) (n6 : Nal e6) :
    ∃ (fs' : List Int) (ms : List Rc), gLc [10] (gVar 7) (bind md_law_disk 10) (gC (.bl true)) e_law_disk_2 ⟨[.tr (rowT fs), .tr (iT hd), .tr lt, .tr ht, .tr dk, e5, e6, .tr (rowT L), .no, .no, .no, .no, .no, .no], []⟩ = some (.ok ⟨[.tr (rowT fs'), .tr (iT hd), .tr lt, .tr ht, .tr dk, e5, e6, .tr (rowT L), .no, .no, .no, .no, .no, .no], [.tr (.nd .lst .own (ms.map rcT))]⟩) ∧ Feed fs' ∧ (∀ r ∈ ms, MkOk r) ∧ ms.length = L.length := by
  obtain ⟨Γ', acc', h1, fs', ms, rfl, rfl, hf', hm, hl⟩ := lcL_pre (s := []) (cv := [10]) (bd := bind md_law_disk 10) (gt := gC (.bl true)) (ge := e_law_disk_2) (xs := L) (enc := iT) (.al [7]) .lst .own
    (fun p Γ acc => ∃ (fs' : List Int) (ms : List Rc), Γ = [.tr (rowT fs'), .tr (iT hd), .tr lt, .tr ht, .tr dk, e5, e6, .tr (rowT L), .no, .no, .no, .no, .no, .no] ∧ acc = ms.map rcT ∧ Feed fs' ∧ (∀ r ∈ ms, MkOk r) ∧ ms.length = p.length)
    (fun p Γ acc ⟨_, _, e, _⟩ => by rw [e]; rfl) rfl (fun x _ => rfl) (Γ := [.tr (rowT fs), .tr (iT hd), .tr lt, .tr ht, .tr dk, e5, e6, .tr (rowT L), .no, .no, .no, .no, .no, .no])
    (by
      rintro p x q Γ acc hx ⟨fs, ms, rfl, rfl, hf, hm, hl⟩
      obtain ⟨x0, x1⟩ := hL x (by rw [hx]; simp)
      obtain ⟨cs, rs, fs', hG, ok, h10, hf'⟩ := P_mark (lot := x) hf x0 x1
      have hsz : (ms.map rcT).length < sizeLine := by
        have := congrArg List.length hx
        simp at this
        rw [List.length_map, sizeLine_eq]
        omega
      have c1 := esc_rcT (.mk x cs rs)
      have e1 : (ms ++ [Rc.mk x cs rs]).map rcT = ms.map rcT ++ [rcT (.mk x cs rs)] := by rw [List.map_append]; rfl
      refine ⟨[.tr (rowT fs'), .tr (iT hd), .tr lt, .tr ht, .tr dk, e5, e6, .tr (rowT L), .no, .no, .no, .no, .no, .no], (ms ++ [Rc.mk x cs rs]).map rcT, ?_, fs', ms ++ [Rc.mk x cs rs], rfl, rfl, hf', fun r hr => ?_, by simp [hl]⟩
      · rw [e1]
        generalize rcT (.mk x cs rs) = t at *
        generalize ms.map rcT = mt at *
        simp! [lcTurn, clrs, e_law_disk_2, hG, hsz, c1, n5.kr, n6.kr, n5.ke, n6.ke, n5.kj, n6.kj]
      · rcases List.mem_append.mp hr with hr | hr
        · exact hm r hr
        · simp at hr
          subst hr
          exact ⟨x0, x1, ok, h10⟩)
    ⟨fs, [], rfl, rfl, hf, by simp, by simp⟩
  refine ⟨fs', ms, ?_, hf', hm, hl⟩
  unfold gLc
  simp! [h1, allNo]
end
/-! the disk of the law: marks are put to free slots -/
section
variable {S : Sb} {fs L U : List Int} {hd l : Int} {ht : Tr} {ms : List Rc} {i : Nat} {r : Rc}
theorem free_at (hU : U.length < 30) : ∃ v rest, (rng 0 30).filter (fun x => !decide (x ∈ U)) = v :: rest ∧ 0 ≤ v ∧ v < 30 := by
  cases hF : (rng 0 30).filter (fun x => !decide (x ∈ U)) with
  | nil =>
    have h := List.filter_eq_nil_iff.mp hF
    have := pig 30 U 0 fun k hk => by
      have hm : (0 + (k : Int)) ∈ rng 0 30 := List.mem_map.mpr ⟨k, List.mem_range.mpr hk, rfl⟩
      have := h _ hm
      simpa using this
    omega
  | cons v rest =>
    have hv : v ∈ (rng 0 30).filter (fun x => !decide (x ∈ U)) := by rw [hF]; simp
    have := (List.mem_filter.mp hv).1
    obtain ⟨k, hk, rfl⟩ := List.mem_map.mp this
    have := List.mem_range.mp hk
    exact ⟨_, rest, rfl, by omega, by omega⟩
theorem slot_turn (hf : Feed fs) (k : LgOk S H0) (hi : i < ms.length) (hm : ms.length ≤ 7) (hr : ∀ r ∈ ms, MkOk r) (hU : U.length = i) {e5 e6 e12 : Ent} (n5 : Nal e5) (n6 : Nal e6) (n12 : Nal e12) :
    ∃ fs' S' l' v, Feed fs' ∧ LgOk S' H0 ∧ b_law_disk_2 ⟨[.tr (rowT fs), .tr (iT hd), .tr (lgT .own S.ls), .tr ht, .tr (dkT .own S hd l []), e5, e6, .tr (rowT L), .tr (iT i), .tr (.nd .lst .own (ms.map rcT)), .no, .tr (rowT U), e12, .no], []⟩ = some (.nx ⟨[.tr (rowT fs'), .tr (iT hd), .tr (lgT .own S'.ls), .tr ht, .tr (dkT .own S' hd l' []), e5, e6, .tr (rowT L), .tr (iT i), .tr (.nd .lst .own (ms.map rcT)), .no, .tr (rowT (U ++ [v])), .tr (iT v), .no], []⟩) := by
  obtain ⟨c, fs1, h1, c0, c1, hf1⟩ := G_pick (n := 30) hf (by decide)
  have mu := fun {Γ s} => @fMul_int Γ s 11 (i : Int) (cMul_l (by decide) (by decide))
  have x0 : 0 ≤ (c + 11 * (i : Int) + 4) % 30 := by omega
  have x1 : (c + 11 * (i : Int) + 4) % 30 < 30 := by omega
  generalize hx : (c + 11 * (i : Int) + 4) % 30 = x at *
  obtain ⟨r, hri⟩ : ∃ r, ms[i]? = some r := ⟨ms[i], List.getElem?_eq_getElem hi⟩
  have hrm : r ∈ ms := List.mem_of_getElem? hri
  have ok : RcOk r := by
    have := hr r hrm
    cases r with
    | cp _ _ _ => exact this.elim
    | mk _ _ _ => exact this.2.2.1
  have a1 := ixN_len (n := ms.length) (i := i) (by omega) (by omega)
  have a3 : ((i : Int)).toNat = i := by omega
  rw [a3] at a1
  have hsz : U.length < sizeLine := by rw [sizeLine_eq]; omega
  have r0 := cp_rcT r
  have r1 := esc_rcT r
  have r2 := fun o => kid_rcT o r
  by_cases q : x ∈ U
  · obtain ⟨v, rest, hv, v0, v1⟩ := free_at (U := U) (by omega)
    have pl := P_lput (h := hd) (l := l) k.o ok v0 v1
    have hc : gLcR1 [13] (gSeq (gC (.int 30)) gNil) (bind md_law_disk 13) t_law_disk_1 e_law_disk_3 ⟨[.tr (rowT fs1), .tr (iT hd), .tr (lgT .own S.ls), .tr ht, .tr (dkT .own S hd l []), e5, e6, .tr (rowT L), .tr (iT i), .tr (.nd .lst .own (ms.map rcT)), .no, .tr (rowT U), .tr (iT x), .no], []⟩ = some (.ok ⟨[.tr (rowT fs1), .tr (iT hd), .tr (lgT .own S.ls), .tr ht, .tr (dkT .own S hd l []), e5, e6, .tr (rowT L), .tr (iT i), .tr (.nd .lst .own (ms.map rcT)), .no, .tr (rowT U), .tr (iT x), .no], [.tr (.nd .lst .own (((rng 0 (30 : Int).toNat).filter fun x => !decide (x ∈ U)).map iT))]⟩) :=
      gLcR1P (by simp! []) (by decide) (by decide) rfl (by rfl) (by simp! [n5.kr, n6.kr]) rfl (fun x => !decide (x ∈ U)) iT (fun y s' y0 y1 => by
        by_cases q : y ∈ U <;> simp! [t_law_disk_1, q]) (fun y s' y0 y1 _ => ⟨by simp! [e_law_disk_3], rfl⟩)
    rw [show (30 : Int).toNat = 30 from rfl, hv] at hc
    refine ⟨fs1, S.lp v r, l + 1, v, hf1, k.lp v ok, ?_⟩
    simp only [dkT, wsK, lgT, List.map_nil, List.map_cons] at pl hc ⊢
    have ix0 : ixN (rest.length + 1) 0 = some 0 := by simp [ixN]
    simp! [b_law_disk_2, h1, mu, hx, q, hc, pl, hsz, a1, hri, r0, r1, r2, n5.kr, n5.ke, n5.kj, n6.kr, n6.ke, n6.kj, n12.kr, n12.ke, n12.kj, ix0]
  · have pl := P_lput (h := hd) (l := l) k.o ok x0 x1
    refine ⟨fs1, S.lp x r, l + 1, x, hf1, k.lp x ok, ?_⟩
    simp only [dkT, wsK, lgT, List.map_nil] at pl ⊢
    simp! [b_law_disk_2, h1, mu, hx, q, pl, hsz, a1, hri, r0, r1, r2, n5.kr, n5.ke, n5.kj, n6.kr, n6.ke, n6.kj, n12.kr, n12.ke, n12.kj]
end
/-! the disk of the law: printed by parts.py (g_law_disk ld), and put together -/
noncomputable def ld1 (z : GS) : GS := (sSeq (sSet md_law_disk 4 (gSeq (gSeq (gSeq (gSeq (gSeq (gC (.int 24)) gNil) (gSeq (gSeq (gC (.int 5)) (gSeq (gC (.int 30)) gNil)) (noEx (gMake 1 (md_Plan_init).tail G_Plan_init 3)))) fFrz) gNil) (noEx (gMake 0 (md_Disk_init).tail G_Disk_init 1))))
    z)
noncomputable def ld2 (z : GS) : GS := (sSeq (sExpr (gSeq (gVar 4) (gSeq (chkI 0) (gSeq (gSeq (gVar 1) gNil) (gCall [0] md_Disk_move_head G_Disk_move_head 2)))))
    z)
noncomputable def ld3 (z : GS) : GS := (sSeq (sForR1 (gSeq (gC (.int 24)) gNil) (bind md_law_disk 5) b_law_disk_1)
    z)
noncomputable def ld4 (z : GS) : GS := (sSeq (sExpr (gSeq (gVar 4) (gSeq (chkI 0) (gCall [0] md_Disk_barrier G_Disk_barrier 1))))
    z)
noncomputable def ld5 (z : GS) : GS := (sSeq (sSet md_law_disk 6 (gSeq (gSeq (gSeq (gSeq (gSeq (gSeq (gSeq (gSeq (gVar 0) (gSeq (gC (.int 5)) gNil)) (gCall [0] md_law_pick G_law_pick 2)) (gC (.int 3))) fAdd) gNil) fInt) (gC (.int 5))) fMod))
    z)
noncomputable def ld6 (z : GS) : GS := (sSeq (sSet md_law_disk 7 (gSeq (gSeq (gClr 8 (gLcR1 [8] (gSeq (gVar 6) gNil) (bind md_law_disk 8) (gC (.bl true)) e_law_disk_1)) (gSeq (gSeq (gSeq (gSeq (gSeq (gSeq (gVar 1) (gVar 6)) fAdd) (gC (.int 2))) fAdd) (gSeq (gSeq (gSeq (gC (.int 1)) (gSeq (gVar 1) gNil)) fMax) gNil)) (fNew .lst 2))) fAdd))
    z)
noncomputable def ld7 (z : GS) : GS := (sSeq (sIf (gSeq (gSeq (gSeq (gSeq (gVar 0) (gSeq (gC (.int 3)) gNil)) (gCall [0] md_law_pick G_law_pick 2)) (gC (.int 1))) fEq) (sExpr (gSeq (gVar 7) (gSeq chkL (gSeq (gSeq (gSeq (gSeq (gVar 1) (gC (.int 1))) fAdd) gNil) fApp)))) sNil)
    z)
noncomputable def ld8 (z : GS) : GS := (sSeq (sSet md_law_disk 9 (gLc [10] (gVar 7) (bind md_law_disk 10) (gC (.bl true)) e_law_disk_2))
    z)
noncomputable def ld9 (z : GS) : GS := (sSeq (sExpr (gSeq (gSeq (gVar 0) (gSeq (gVar 4) (gSeq (gVar 2) (gSeq (gVar 9) gNil)))) (gCall [0, 1, 2] md_law_copies G_law_copies 4)))
    z)
noncomputable def ld10 (z : GS) : GS := (sSeq (sSet md_law_disk 11 (gSeq gNil (fNew .lst 0)))
    z)
noncomputable def ld11 (z : GS) : GS := (sSeq (sForR1 (gSeq (gSeq (gSeq (gVar 9) gNil) fLen) gNil) (bind md_law_disk 8) b_law_disk_2)
    z)
noncomputable def ld12 : GS := (sRet (gSeq (gVar 4) (fMv md_law_disk)))
theorem e_g_law_disk : g_law_disk = ld1 (ld2 (ld3 (ld4 (ld5 (ld6 (ld7 (ld8 (ld9 (ld10 (ld11 (ld12))))))))))) := rfl
section
variable {fs : List Int} {hd : Int} {z : GS}
abbrev hmT : Tr := .nd .lst .lnt (H0.map tupT)
abbrev gL (ft : Tr) (hd : Int) (lt dk : Tr) (e5 e6 e7 e8 e9 e11 e12 : Ent) : Ms := ⟨[.tr ft, .tr (iT hd), .tr lt, .tr hmT, .tr dk, e5, e6, e7, e8, e9, .no, e11, e12, .no], []⟩
theorem ldq1 (ft lt : Tr) : ld1 z ⟨[.tr ft, .tr (iT hd), .tr lt, .tr hmT, .no, .no, .no, .no, .no, .no, .no, .no, .no, .no], []⟩ = z (gL ft hd lt (dkT .own E0 0 0 []) .no .no .no .no .no .no .no) := by
  have p1 := P_plan
  have p2 := P_init
  have e0 : (dkT .own E0 0 0 []) = dkT .own ⟨List.replicate 24 [0, 0, 0, 0, 0, 0, 0, 0], List.replicate 30 none⟩ 0 0 [] := rfl
  rw [e0]
  simp only [gL, dkT, wsK, List.map_nil] at p2 ⊢
  generalize hmT = hm
  generalize (List.replicate 24 [0, 0, 0, 0, 0, 0, 0, 0] : List (List Int)).map tupT = q1 at *
  generalize (List.replicate 30 (none : Option Rc)).map slT = q2 at *
  simp! [ld1, p1, p2]
theorem ldq2 (ft lt : Tr) (h0 : 0 ≤ hd) (h1 : hd ≤ 999984) : ld2 z (gL ft hd lt (dkT .own E0 0 0 []) .no .no .no .no .no .no .no) = z (gL ft hd lt (dkT .own E0 hd 0 []) .no .no .no .no .no .no .no) := by
  have p1 := P_move (S := E0) (h := 0) (l := 0) (ws := []) (p := hd) h0 (by omega)
  simp only [gL, dkT, wsK, List.map_nil] at p1 ⊢
  generalize hmT = hm
  generalize E0.hs.map tupT = q1 at *
  generalize E0.ls.map slT = q2 at *
  simp! [ld2, p1]
theorem ldq3 (ft lt : Tr) : ∃ e5, Nal e5 ∧ ld3 z (gL ft hd lt (dkT .own E0 hd 0 []) .no .no .no .no .no .no .no) = z (gL ft hd lt (dkT .own E0 hd 24 (W0 24)) e5 .no .no .no .no .no .no) := by
  obtain ⟨e5, n5, h⟩ := homes_loop (hd := hd) ft lt
  refine ⟨e5, n5, ?_⟩
  unfold ld3
  rw [sSeq_e, sForR1_e (n := 24) (Γ := (gL ft hd lt (dkT .own E0 hd 0 []) .no .no .no .no .no .no .no).g) (s := []) (by rfl) (by decide) (by decide)]
  show bS (loopR _ _ 0 24 0 _) z = _
  rw [show (⟨(gL ft hd lt (dkT .own E0 hd 0 []) .no .no .no .no .no .no .no).g, []⟩ : Ms) = gL ft hd lt (dkT .own E0 hd 0 []) .no .no .no .no .no .no .no from rfl, h]
  rfl
theorem ldq4 (ft lt : Tr) {e5 : Ent} (n5 : Nal e5) : ld4 z (gL ft hd lt (dkT .own E0 hd 24 (W0 24)) e5 .no .no .no .no .no .no) = z (gL ft hd lt (dkT .own ⟨H0, List.replicate 30 none⟩ hd 24 []) e5 .no .no .no .no .no .no) := by
  have p1 := P_barrier (S := E0) (h := hd) (l := 24) (ws := W0 24) e0_ok (W0_ok 24 (by decide)) (fun w hw => by
    obtain ⟨k, hk, rfl⟩ := List.mem_map.mp hw
    have := List.mem_range.mp hk
    exact ⟨by show (0 : Int) ≤ k; omega, fun _ => by show (k : Int) < 24; omega, fun _ => by show (k : Int) < 30; omega⟩)
  rw [put_W0] at p1
  simp only [gL, dkT, wsK, List.map_nil] at p1 ⊢
  generalize hmT = hm
  generalize E0.hs.map tupT = q1 at *
  generalize E0.ls.map slT = q2 at *
  generalize H0.map tupT = q3 at *
  generalize (List.replicate 30 (none : Option Rc)).map slT = q4 at *
  generalize (W0 24).map wtT = q5 at *
  generalize ((W0 24).map fun w => (Sum.inl w.n : Key)) = q6 at *
  simp! [ld4, p1, n5.kr, n5.ke, n5.kj]
theorem ldq5 (lt dk : Tr) (hf : Feed fs) {e5 : Ent} (n5 : Nal e5) : ∃ fs' m, Feed fs' ∧ 0 ≤ m ∧ m < 5 ∧ ld5 z (gL (rowT fs) hd lt dk e5 .no .no .no .no .no .no) = z (gL (rowT fs') hd lt dk e5 (.tr (iT m)) .no .no .no .no .no) := by
  obtain ⟨c, fs', h1, c0, c1, hf'⟩ := G_pick (n := 5) hf (by decide)
  refine ⟨fs', (c + 3) % 5, hf', by omega, by omega, ?_⟩
  simp only [gL]
  generalize hmT = hm
  simp! [ld5, h1, n5.kr, n5.ke, n5.kj]
def LL (hd m : Int) : List Int := (rng 0 m.toNat).map (fun x => hd + 1 + x) ++ [hd + m + 2, if hd > 1 then hd else 1]
theorem ldq6 (ft lt dk : Tr) {m : Int} (m0 : 0 ≤ m) (m1 : m < 5) {e5 : Ent} (n5 : Nal e5) : ld6 z (gL ft hd lt dk e5 (.tr (iT m)) .no .no .no .no .no) = z (gL ft hd lt dk e5 (.tr (iT m)) (.tr (rowT (LL hd m))) .no .no .no .no) := by
  have hc := gLcR1P (ga := gSeq (gVar 6) gNil) (md := md_law_disk) (k := 8) (gt := gC (.bl true)) (ge := e_law_disk_1) (Γ := (gL ft hd lt dk e5 (.tr (iT m)) .no .no .no .no .no).g) (s := []) (j := m) (by
      simp only [gL]
      generalize hmT = hm
      simp! []) (by omega) (by omega) rfl (by rfl) (by
      simp only [gL]
      simp! [n5.kr]) rfl (fun _ => true) (fun x => iT (hd + 1 + x)) (fun y s' y0 y1 => by rfl) (fun y s' y0 y1 _ => ⟨by
      simp only [gL]
      generalize hmT = hm
      simp! [e_law_disk_1], rfl⟩)
  rw [filt_true] at hc
  have hc2 : gClr 8 (gLcR1 [8] (gSeq (gVar 6) gNil) (bind md_law_disk 8) (gC (.bl true)) e_law_disk_1) (gL ft hd lt dk e5 (.tr (iT m)) .no .no .no .no .no) = some (.ok ⟨(gL ft hd lt dk e5 (.tr (iT m)) .no .no .no .no .no).g, [.tr (.nd .lst .own ((rng 0 m.toNat).map fun x => iT (hd + 1 + x)))]⟩) := by
    have q : clr 8 (gL ft hd lt dk e5 (.tr (iT m)) .no .no .no .no .no) = gL ft hd lt dk e5 (.tr (iT m)) .no .no .no .no .no := by
      simp only [gL]
      generalize hmT = hm
      simp! [n5.kr]
    unfold gClr
    rw [q]
    exact hc
  have e1 : rowT (LL hd m) = .nd .lst .own ((rng 0 m.toNat).map (fun x => iT (hd + 1 + x)) ++ [iT (hd + m + 2), iT (if hd > 1 then hd else 1)]) := by
    simp only [rowT, LL, List.map_append, List.map_map]
    rfl
  have es : escL ((rng 0 m.toNat).map (fun x => iT (hd + 1 + x)) ++ [iT (hd + m + 2), iT (if hd > 1 then hd else 1)]) = true := by
    rw [escL_all]
    intro t ht
    rcases List.mem_append.mp ht with q | q
    · obtain ⟨x, _, rfl⟩ := List.mem_map.mp q
      rfl
    · simp at q
      rcases q with rfl | rfl <;> rfl
  have kq : ((rng 0 m.toNat).map fun x => iT (hd + 1 + x)).map (kid .own) = (rng 0 m.toNat).map fun x => iT (hd + 1 + x) := by rw [List.map_map]; rfl
  have lq : ((rng 0 m.toNat).map fun x => iT (hd + 1 + x)).length + 2 ≤ sizeLine := by rw [List.length_map, rng_len, sizeLine_eq]; omega
  rw [e1]
  simp only [gL] at hc2 ⊢
  generalize hmT = hm at *
  generalize ((rng 0 m.toNat).map fun x => iT (hd + 1 + x)) = q1 at *
  simp only [fAdd] at *
  by_cases hm1 : hd > 1
  · simp only [hm1, if_true] at es ⊢
    simp! [ld6, hc2, n5.kr, n5.ke, n5.kj, fMax, hm1, es, kq, lq, -gClr]
  · simp only [hm1, if_false] at es ⊢
    simp! [ld6, hc2, n5.kr, n5.ke, n5.kj, fMax, hm1, es, kq, lq, -gClr]
end
/-! the disk of the law: the whole -/
section
variable {fs L : List Int} {hd l : Int} {z : GS} {S : Sb}
def LlOk (L : List Int) : Prop := (∀ x ∈ L, 1 ≤ x ∧ x ≤ 999990) ∧ L.length ≤ 6
theorem LL_ok {m : Int} (h0 : 0 ≤ hd) (h1 : hd ≤ 999984) (m0 : 0 ≤ m) (m1 : m < 5) : LlOk (LL hd m) := by
  refine ⟨fun x hx => ?_, ?_⟩
  · unfold LL at hx
    rcases List.mem_append.mp hx with q | q
    · obtain ⟨y, hy, rfl⟩ := List.mem_map.mp q
      obtain ⟨k, hk, rfl⟩ := List.mem_map.mp hy
      have := List.mem_range.mp hk
      omega
    · simp at q
      rcases q with rfl | rfl
      · omega
      · split <;> omega
  · unfold LL
    rw [List.length_append, List.length_map, rng_len]
    simp
    omega
theorem ldq7 (lt dk : Tr) (hf : Feed fs) (hL : LlOk L) (h0 : 0 ≤ hd) (h1 : hd ≤ 999984) {e5 e6 : Ent} (n5 : Nal e5) (n6 : Nal e6) : ∃ fs' L', Feed fs' ∧ (∀ x ∈ L', 1 ≤ x ∧ x ≤ 999990) ∧ L'.length ≤ 7 ∧ ld7 z (gL (rowT fs) hd lt dk e5 e6 (.tr (rowT L)) .no .no .no .no) = z (gL (rowT fs') hd lt dk e5 e6 (.tr (rowT L')) .no .no .no .no) := by
  obtain ⟨c, fs', h1', c0, c1, hf'⟩ := G_pick (n := 3) hf (by decide)
  by_cases q : c = 1
  · refine ⟨fs', L ++ [hd + 1], hf', fun x hx => ?_, by have := hL.2; simp; omega, ?_⟩
    · rcases List.mem_append.mp hx with q | q
      · exact hL.1 x q
      · simp at q
        omega
    · have hs : L.length < sizeLine := by have := hL.2; rw [sizeLine_eq]; omega
      simp only [gL]
      generalize hmT = hm
      simp! [ld7, h1', q, hs, n5.kr, n5.ke, n5.kj, n6.kr, n6.ke, n6.kj]
  · refine ⟨fs', L, hf', hL.1, by have := hL.2; omega, ?_⟩
    simp only [gL]
    generalize hmT = hm
    simp! [ld7, h1', q, n5.kr, n5.ke, n5.kj, n6.kr, n6.ke, n6.kj]
theorem ldq8 (lt dk : Tr) (hf : Feed fs) (hL : ∀ x ∈ L, 1 ≤ x ∧ x ≤ 999990) (hl : L.length ≤ 7) {e5 e6 : Ent} (n5 : Nal e5) (n6 : Nal e6) : ∃ (fs' : List Int) (ms : List Rc), Feed fs' ∧ (∀ r ∈ ms, MkOk r) ∧ ms.length ≤ 7 ∧ ld8 z (gL (rowT fs) hd lt dk e5 e6 (.tr (rowT L)) .no .no .no .no) = z (gL (rowT fs') hd lt dk e5 e6 (.tr (rowT L)) .no (.tr (.nd .lst .own (ms.map rcT))) .no .no) := by
  obtain ⟨fs', ms, h1, hf', hm, hn⟩ := marks_comp (hd := hd) (lt := lt) (ht := hmT) (dk := dk) hf hL (by omega) n5 n6
  refine ⟨fs', ms, hf', hm, by omega, ?_⟩
  simp only [gL] at h1 ⊢
  generalize hmT = hm at *
  simp! [ld8, h1, n5.kr, n5.ke, n5.kj, n6.kr, n6.ke, n6.kj]
theorem ldq9 {ms : List Rc} (hf : Feed fs) (k : LgOk S H0) (hm : ∀ r ∈ ms, MkOk r) {e5 e6 e7 : Ent} (n5 : Nal e5) (n6 : Nal e6) (n7 : Nal e7) : ∃ fs' S' l', Feed fs' ∧ LgOk S' H0 ∧ ld9 z (gL (rowT fs) hd (lgT .own S.ls) (dkT .own S hd l []) e5 e6 e7 .no (.tr (.nd .lst .own (ms.map rcT))) .no .no) = z (gL (rowT fs') hd (lgT .own S'.ls) (dkT .own S' hd l' []) e5 e6 e7 .no (.tr (.nd .lst .own (ms.map rcT))) .no .no) := by
  obtain ⟨fs', S', l', hf', k', h1⟩ := P_lcopies (h := hd) (l := l) hf k hm
  refine ⟨fs', S', l', hf', k', ?_⟩
  simp only [gL, dkT, wsK, List.map_nil] at h1 ⊢
  generalize hmT = hm at *
  generalize ms.map rcT = mt at *
  simp! [ld9, h1, n5.kr, n5.ke, n5.kj, n6.kr, n6.ke, n6.kj, n7.kr, n7.ke, n7.kj]
abbrev gM (hm ft : Tr) (hd : Int) (lt dk : Tr) (e5 e6 e7 e8 e9 e11 e12 : Ent) : Ms := ⟨[.tr ft, .tr (iT hd), .tr lt, .tr hm, .tr dk, e5, e6, e7, e8, e9, .no, e11, e12, .no], []⟩
theorem slots_loop (hm : Tr) {ms : List Rc} (hf : Feed fs) (k : LgOk S H0) (hmo : ∀ r ∈ ms, MkOk r) (hl : ms.length ≤ 7) {e5 e6 : Ent} (n5 : Nal e5) (n6 : Nal e6) : ∃ fs' S' l' e8 U e12, Feed fs' ∧ LgOk S' H0 ∧ Nal e8 ∧ Nal e12 ∧ loopR (bind md_law_disk 8) b_law_disk_2 0 ms.length 0 (gM hm (rowT fs) hd (lgT .own S.ls) (dkT .own S hd l []) e5 e6 (.tr (rowT L)) .no (.tr (.nd .lst .own (ms.map rcT))) (.tr (.nd .lst .own [])) .no) = some (.nx (gM hm (rowT fs') hd (lgT .own S'.ls) (dkT .own S' hd l' []) e5 e6 (.tr (rowT L)) e8 (.tr (.nd .lst .own (ms.map rcT))) (.tr (rowT U)) e12)) := by
  obtain ⟨m1, q1, fs', S', l', e8, U, e12, hf', k', n8, n12, hU, rfl⟩ := loopR_nx (bd := bind md_law_disk 8) (gs := b_law_disk_2) (lo := 0) (n := ms.length)
    (fun i m => ∃ fs S l e8 U e12, Feed fs ∧ LgOk S H0 ∧ Nal e8 ∧ Nal e12 ∧ U.length = i ∧ m = gM hm (rowT fs) hd (lgT .own S.ls) (dkT .own S hd l []) e5 e6 (.tr (rowT L)) e8 (.tr (.nd .lst .own (ms.map rcT))) (.tr (rowT U)) e12)
    (m := gM hm (rowT fs) hd (lgT .own S.ls) (dkT .own S hd l []) e5 e6 (.tr (rowT L)) .no (.tr (.nd .lst .own (ms.map rcT))) (.tr (.nd .lst .own [])) .no) ⟨fs, S, l, .no, [], .no, hf, k, nal_no, nal_no, rfl, rfl⟩
    (by
      rintro i m hi ⟨fs, S, l, e8, U, e12, hf, k, n8, n12, hU, rfl⟩
      obtain ⟨fs', S', l', v, hf', k', ht⟩ := slot_turn (L := L) (hd := hd) (l := l) (ht := hm) hf k hi hl hmo hU n5 n6 n12
      have hb : bind md_law_disk 8 ⟨(gM hm (rowT fs) hd (lgT .own S.ls) (dkT .own S hd l []) e5 e6 (.tr (rowT L)) e8 (.tr (.nd .lst .own (ms.map rcT))) (.tr (rowT U)) e12).g, [.tr (.a (.int ((0 : Int) + i)))]⟩ = some (gM hm (rowT fs) hd (lgT .own S.ls) (dkT .own S hd l []) e5 e6 (.tr (rowT L)) (.tr (iT i)) (.tr (.nd .lst .own (ms.map rcT))) (.tr (rowT U)) e12) := by
        simp only [gM]
        generalize dkT .own S hd l [] = dk
        generalize lgT .own S.ls = lt
        generalize ms.map rcT = mt
        simp! [n8.kr, n5.kr, n6.kr, n12.kr]
      exact ⟨_, _, hb, ht, fs', S', l', .tr (iT i), U ++ [v], .tr (iT v), hf', k', nal_tr, nal_tr, by simp [hU], rfl⟩)
  exact ⟨fs', S', l', e8, U, e12, hf', k', n8, n12, q1⟩
theorem ldq11a (hm dk dk' lt lt' ft ft' mt : Tr) {n : Nat} {ts : List Tr} (hmt : mt = .nd .lst .own ts) (hn : ts.length = n) (hl : n ≤ 7) {e5 e6 e8 e11 e12 : Ent} {lT : Tr}
    (q1 : loopR (bind md_law_disk 8) b_law_disk_2 0 n 0 (gM hm ft hd lt dk e5 e6 (.tr lT) .no (.tr mt) (.tr (.nd .lst .own [])) .no) = some (.nx (gM hm ft' hd lt' dk' e5 e6 (.tr lT) e8 (.tr mt) e11 e12))) :
    ld11 z (gM hm ft hd lt dk e5 e6 (.tr lT) .no (.tr mt) (.tr (.nd .lst .own [])) .no) = z (gM hm ft' hd lt' dk' e5 e6 (.tr lT) e8 (.tr mt) e11 e12) := by
  subst hmt
  have r1 : ((n : Nat) : Int) < 2 ^ 62 := by omega
  have r2 : (-(2 ^ 62) : Int) ≤ ((n : Nat) : Int) := by omega
  unfold ld11
  rw [sSeq_e, sForR1_e (n := (n : Int)) (Γ := (gM hm ft hd lt dk e5 e6 (.tr lT) .no (.tr (.nd .lst .own ts)) (.tr (.nd .lst .own [])) .no).g) (s := []) (by
    simp only [gM]
    simp! [hn]) r2 r1, Int.toNat_natCast]
  rw [show (⟨(gM hm ft hd lt dk e5 e6 (.tr lT) .no (.tr (.nd .lst .own ts)) (.tr (.nd .lst .own [])) .no).g, []⟩ : Ms) = gM hm ft hd lt dk e5 e6 (.tr lT) .no (.tr (.nd .lst .own ts)) (.tr (.nd .lst .own [])) .no from rfl, q1]
  rfl
theorem ldq11 {ms : List Rc} (hf : Feed fs) (k : LgOk S H0) (hm : ∀ r ∈ ms, MkOk r) (hl : ms.length ≤ 7) {e5 e6 : Ent} (n5 : Nal e5) (n6 : Nal e6) : ∃ fs' S' l' e8 U e12, Feed fs' ∧ LgOk S' H0 ∧ Nal e8 ∧ Nal e12 ∧ ld11 z (gM hmT (rowT fs) hd (lgT .own S.ls) (dkT .own S hd l []) e5 e6 (.tr (rowT L)) .no (.tr (.nd .lst .own (ms.map rcT))) (.tr (.nd .lst .own [])) .no) = z (gM hmT (rowT fs') hd (lgT .own S'.ls) (dkT .own S' hd l' []) e5 e6 (.tr (rowT L)) e8 (.tr (.nd .lst .own (ms.map rcT))) (.tr (rowT U)) e12) := by
  obtain ⟨fs', S', l', e8, U, e12, hf', k', n8, n12, q1⟩ := slots_loop (hd := hd) (l := l) (L := L) hmT hf k hm hl n5 n6
  exact ⟨fs', S', l', e8, U, e12, hf', k', n8, n12, ldq11a hmT _ _ _ _ _ _ _ rfl (List.length_map _) hl q1⟩
theorem ldq10 (hm ft lt dk lT mt : Tr) {e5 e6 : Ent} (n5 : Nal e5) (n6 : Nal e6) : ld10 z (gM hm ft hd lt dk e5 e6 (.tr lT) .no (.tr mt) .no .no) = z (gM hm ft hd lt dk e5 e6 (.tr lT) .no (.tr mt) (.tr (.nd .lst .own [])) .no) := by
  simp only [gM]
  simp! [ld10, n5.kr, n5.ke, n5.kj, n6.kr, n6.ke, n6.kj]
theorem P_ldisk (hf : Feed fs) (h0 : 0 ≤ hd) (h1 : hd ≤ 999984) : ∃ fs' S l, Feed fs' ∧ LgOk S H0 ∧ G_law_disk [rowT fs, iT hd, lgT .own (List.replicate 30 none), hmT] = some (.rt (dkT .own S hd l []) [rowT fs', .any, lgT .own S.ls, .any]) := by
  have k0 : LgOk ⟨H0, List.replicate 30 none⟩ H0 := ⟨⟨rfl, rfl⟩, rfl, fun r hr => by simp at hr⟩
  obtain ⟨e5, n5, q3⟩ := ldq3 (hd := hd) (z := ld4 (ld5 (ld6 (ld7 (ld8 (ld9 (ld10 (ld11 ld12)))))))) (rowT fs) (lgT .own (List.replicate 30 none))
  obtain ⟨fs1, m, hf1, m0, m1, q5⟩ := ldq5 (hd := hd) (z := ld6 (ld7 (ld8 (ld9 (ld10 (ld11 ld12)))))) (lgT .own (List.replicate 30 none)) (dkT .own ⟨H0, List.replicate 30 none⟩ hd 24 []) hf n5
  obtain ⟨fs2, L, hf2, hL, hl, q7⟩ := ldq7 (hd := hd) (z := ld8 (ld9 (ld10 (ld11 ld12)))) (lgT .own (List.replicate 30 none)) (dkT .own ⟨H0, List.replicate 30 none⟩ hd 24 []) hf1 (LL_ok h0 h1 m0 m1) h0 h1 n5 (e6 := .tr (iT m)) nal_tr
  obtain ⟨fs3, ms, hf3, hm, hn, q8⟩ := ldq8 (hd := hd) (z := ld9 (ld10 (ld11 ld12))) (lgT .own (List.replicate 30 none)) (dkT .own ⟨H0, List.replicate 30 none⟩ hd 24 []) hf2 hL hl n5 (e6 := .tr (iT m)) nal_tr
  obtain ⟨fs4, S4, l4, hf4, k4, q9⟩ := ldq9 (hd := hd) (l := 24) (z := ld10 (ld11 ld12)) hf3 k0 hm n5 (e6 := .tr (iT m)) nal_tr (e7 := .tr (rowT L)) nal_tr
  have q10 := ldq10 (hd := hd) (z := ld11 ld12) hmT (rowT fs4) (lgT .own S4.ls) (dkT .own S4 hd l4 []) (rowT L) (.nd .lst .own (ms.map rcT)) n5 (e6 := .tr (iT m)) nal_tr
  obtain ⟨fs5, S5, l5, e8, U, e12, hf5, k5, n8, n12, q11⟩ := ldq11 (hd := hd) (l := l4) (L := L) (z := ld12) hf4 k4 hm hn n5 (e6 := .tr (iT m)) nal_tr
  refine ⟨fs5, S5, l5, hf5, k5, ?_⟩
  have all : g_law_disk ⟨[.tr (rowT fs), .tr (iT hd), .tr (lgT .own (List.replicate 30 none)), .tr hmT, .no, .no, .no, .no, .no, .no, .no, .no, .no, .no], []⟩ = ld12 (gL (rowT fs5) hd (lgT .own S5.ls) (dkT .own S5 hd l5 []) e5 (.tr (iT m)) (.tr (rowT L)) e8 (.tr (.nd .lst .own (ms.map rcT))) (.tr (rowT U)) e12) := by
    rw [e_g_law_disk, ldq1, ldq2 _ _ h0 h1, q3, ldq4 _ _ n5, q5, ldq6 _ _ _ m0 m1 n5, q7, q8, q9, q10, q11]
  unfold G_law_disk runF
  rw [show (⟨[rowT fs, iT hd, lgT .own (List.replicate 30 none), hmT].map Ent.tr ++ List.replicate (14 - [rowT fs, iT hd, lgT .own (List.replicate 30 none), hmT].length) .no, []⟩ : Ms) = ⟨[.tr (rowT fs), .tr (iT hd), .tr (lgT .own (List.replicate 30 none)), .tr hmT, .no, .no, .no, .no, .no, .no, .no, .no, .no, .no], []⟩ from rfl, all]
  simp only [gL]
  generalize hmT = hm
  simp! [ld12, n5.kr, n5.ke, n5.kj, n8.kr, n8.ke, n8.kj, n12.kr, n12.ke, n12.kj]
end
/-! reading: the mark of a lot -/
section
variable {S : Sb} {h l : Int} {ws : List Wt} {ls : List (Option Rc)} {n : Int}
def isM (n : Int) : Option Rc → Bool
  | some (.mk l _ _) => decide (l = n)
  | _ => false
def fmA (n : Int) : Nat → List (Option Rc) → Option (Nat × Rc)
  | _, [] => none
  | i, none :: t => fmA n (i + 1) t
  | i, some r :: t => if isM n (some r) = true then some (i, r) else fmA n (i + 1) t
abbrev fmk (ls : List (Option Rc)) (n : Int) : Option (Nat × Rc) := fmA n 0 ls
abbrev pmT (p : Nat × Rc) : Tr := .nd .tup .own [iT p.1, rcT p.2]
def fmT : Option (Nat × Rc) → Tr
  | none => .a .non
  | some p => pmT p
theorem find_turn (dk e : Tr) (i : Nat) (o : Option Rc) : b_find_mark_1 ⟨[.tr dk, .tr (iT n), .tr (iT i), .tr (slT o)], [.tr e]⟩ = some (if isM n o = true then .rt (.nd .tup .own [iT i, slT o]) ⟨[.tr dk, .tr (iT n), .tr (iT i), .tr (slT o)], [.tr e]⟩ else .nx ⟨[.tr dk, .tr (iT n), .tr (iT i), .tr (slT o)], [.tr e]⟩) := by
  cases o with
  | none => simp! [b_find_mark_1, slT, isM]
  | some r =>
    cases r with
    | cp lot x c => simp! [b_find_mark_1, slT, rcT, isM, s_cm]
    | mk lot cs rs =>
      have c0 := cpL_prT cs
      have k0 := fun o => kidL_prT o cs
      have e0 := escL_prT cs
      simp only [slT, rcT]
      generalize cs.map prT = ct at *
      by_cases q : lot = n
      · simp! [b_find_mark_1, isM, q, c0, k0, e0]
      · simp! [b_find_mark_1, isM, q, c0, k0, e0]
theorem find_loop {dk : Tr} {e : Tr} (he : e = .nd .lst .lnt (ls.map slT)) : ∀ (r i : Nat) (e2 e3 : Ent), Nal e2 → Nal e3 → i + r = ls.length → ∃ e2' e3', Nal e2' ∧ Nal e3' ∧
    loopN nxEn (finN .lst fun l i => decide (l ≤ i)) (unpk md_find_mark [2, 3]) b_find_mark_1 r i ⟨[.tr dk, .tr (iT n), e2, e3], [.tr e]⟩ = some (match fmA n i (ls.drop i) with
      | none => .nx ⟨[.tr dk, .tr (iT n), e2', e3'], []⟩
      | some p => .rt (pmT p) ⟨[.tr dk, .tr (iT n), e2', e3'], []⟩)
  | 0, i, e2, e3, n2, n3, hi => by
    refine ⟨e2, e3, n2, n3, ?_⟩
    have : ls.drop i = [] := List.drop_eq_nil_of_le (by omega)
    rw [this]
    subst he
    have h1 : ls.length ≤ i := by omega
    unfold loopN
    simp [finN, viewE, h1, fmA]
  | r + 1, i, e2, e3, n2, n3, hi => by
    have hl : i < ls.length := by omega
    have hd : ls.drop i = ls[i] :: ls.drop (i + 1) := List.drop_eq_getElem_cons hl
    have nx : nxEn i ⟨[.tr dk, .tr (iT n), e2, e3], [.tr e]⟩ = some ⟨[.tr dk, .tr (iT n), e2, e3], [.tr (.nd .tup .own [iT i, slT ls[i]]), .tr e]⟩ := by
      subst he
      simp [nxEn, viewE, cpE, kidX, cp, hl, kid_slT, cp_slT]
    have b1 : unpk md_find_mark [2, 3] ⟨[.tr dk, .tr (iT n), e2, e3], [.tr (.nd .tup .own [iT i, slT ls[i]]), .tr e]⟩ = some ⟨[.tr dk, .tr (iT n), .tr (iT i), .tr (slT ls[i])], [.tr e]⟩ := by
      have k1 := fun o => kid_slT o ls[i]
      have c1 := cp_slT ls[i]
      generalize slT ls[i] = t at *
      simp! [n2.kr, n3.kr, k1, c1]
    have b2 := find_turn (n := n) dk e i ls[i]
    unfold loopN
    rw [nx]
    simp only [b1, b2]
    by_cases q : isM n ls[i] = true
    · refine ⟨.tr (iT i), .tr (slT ls[i]), nal_tr, nal_tr, ?_⟩
      rw [if_pos q, hd]
      cases ho : ls[i] with
      | none => rw [ho] at q; cases q
      | some r =>
        rw [ho] at q
        simp only [fmA, q, if_true, slT, List.tail_cons, pmT]
    · obtain ⟨e2', e3', n2', n3', ih⟩ := find_loop (dk := dk) he r (i + 1) (.tr (iT i)) (.tr (slT ls[i])) nal_tr nal_tr (by omega)
      refine ⟨e2', e3', n2', n3', ?_⟩
      rw [if_neg q, hd]
      simp only [ih]
      cases ho : ls[i] with
      | none => simp only [fmA]
      | some r =>
        rw [ho] at q
        simp only [fmA, q, Bool.false_eq_true, if_false]
theorem P_find (n : Int) : G_find_mark [dkT .lnt S h l ws, iT n] = some (.rt (fmT (fmk S.ls n)) [.any, .any]) := by
  obtain ⟨e2, e3, n2, n3, h1⟩ := find_loop (dk := dkT .lnt S h l ws) (n := n) (ls := S.ls) rfl S.ls.length 0 .no .no nal_no nal_no (by omega)
  rw [List.drop_zero] at h1
  have hs : sForEnA (gSeq (gSeq (gVar 0) (fFld tab_log)) gNil) (unpk md_find_mark [2, 3]) b_find_mark_1 ⟨[.tr (dkT .lnt S h l ws), .tr (iT n), .no, .no], []⟩ = loopN nxEn (finN .lst fun l i => decide (l ≤ i)) (unpk md_find_mark [2, 3]) b_find_mark_1 S.ls.length 0 ⟨[.tr (dkT .lnt S h l ws), .tr (iT n), .no, .no], [.tr (.nd .lst .lnt (S.ls.map slT))]⟩ := by
    have hl : (S.ls.map slT).length = S.ls.length := by rw [List.length_map]
    unfold sForEnA
    simp only [dkT]
    generalize S.hs.map tupT = t1 at *
    generalize S.ls.map slT = t2 at *
    generalize wsK ws = t3 at *
    generalize ws.map wtT = t4 at *
    simp! [hl]
  unfold G_find_mark runF g_find_mark
  rw [show (⟨[dkT .lnt S h l ws, iT n].map Ent.tr ++ List.replicate (4 - [dkT .lnt S h l ws, iT n].length) .no, []⟩ : Ms) = ⟨[.tr (dkT .lnt S h l ws), .tr (iT n), .no, .no], []⟩ from rfl, sSeq_e, hs, h1]
  rw [show fmk S.ls n = fmA n 0 S.ls from rfl]
  cases fmA n 0 S.ls with
  | none =>
    simp only [dkT]
    generalize S.hs.map tupT = t1 at *
    generalize S.ls.map slT = t2 at *
    generalize wsK ws = t3 at *
    generalize ws.map wtT = t4 at *
    simp! [fmT, n2.kr, n3.kr]
  | some p => simp! [fmT, esc_rcT]
end
/-! the marks that are found, one lot after another -/
section
variable {gt : GE} {body : GS} {g' s' : List Ent} {m m2 : Ms} {r : Nat} {t : Tr}
theorem while_nx (h1 : gt m = some (.ok ⟨g', .tr (.a (.bl true)) :: s'⟩)) (h2 : body ⟨g', s'⟩ = some (.nx m2)) : sWhile gt body (r + 1) m = sWhile gt body r m2 := by
  conv => lhs; unfold sWhile
  rw [h1]
  simp only [h2]
theorem while_end (h1 : gt m = some (.ok ⟨g', .tr (.a (.bl false)) :: s'⟩)) : sWhile gt body (r + 1) m = some (.nx ⟨g', s'⟩) := by
  conv => lhs; unfold sWhile
  rw [h1]
end
section
variable {S : Sb} {h l n : Int} {ws : List Wt} {ls : List (Option Rc)}
def fms : Nat → List (Option Rc) → Int → List (Nat × Rc)
  | 0, _, _ => []
  | f + 1, ls, n => match fmk ls n with
    | none => []
    | some p => p :: fms f ls (n + 1)
theorem fmA_some : ∀ {ls : List (Option Rc)} {i j : Nat} {r : Rc}, fmA n i ls = some (j, r) → i ≤ j ∧ ls[j - i]? = some (some r) ∧ isM n (some r) = true
  | [], _, _, _, h => by cases h
  | none :: t, i, j, r, h => by
    obtain ⟨a, b, c⟩ := fmA_some (ls := t) (i := i + 1) h
    refine ⟨by omega, ?_, c⟩
    rw [show j - i = (j - (i + 1)) + 1 by omega, List.getElem?_cons_succ]
    exact b
  | some q :: t, i, j, r, h => by
    unfold fmA at h
    split at h
    · rename_i hq
      cases h
      exact ⟨Nat.le_refl _, by simp, hq⟩
    · obtain ⟨a, b, c⟩ := fmA_some (ls := t) (i := i + 1) h
      refine ⟨by omega, ?_, c⟩
      rw [show j - i = (j - (i + 1)) + 1 by omega, List.getElem?_cons_succ]
      exact b
theorem fmk_some {j : Nat} {r : Rc} (h : fmk ls n = some (j, r)) : ls[j]? = some (some r) ∧ isM n (some r) = true := by
  have := fmA_some h
  exact ⟨this.2.1, this.2.2⟩
theorem fms_at : ∀ {f : Nat} {n : Int} {k : Nat} {p : Nat × Rc}, (fms f ls n)[k]? = some p → fmk ls (n + k) = some p
  | 0, _, _, _, h => by simp [fms] at h
  | f + 1, n, k, p, h => by
    unfold fms at h
    split at h
    · simp at h
    · rename_i q hq
      cases k with
      | zero =>
        simp at h
        rw [show n + ((0 : Nat) : Int) = n by omega, hq, h]
      | succ k =>
        rw [List.getElem?_cons_succ] at h
        have := fms_at h
        rwa [show n + 1 + (k : Int) = n + ((k + 1 : Nat) : Int) by omega] at this
def lotO : Option Rc → Option Int
  | some (.mk l _ _) => some l
  | _ => none
theorem lotO_of {o : Option Rc} (h : isM n o = true) : lotO o = some n := by
  unfold isM at h
  split at h
  · simp at h
    rw [h]
    rfl
  · cases h
theorem fms_len (f : Nat) (n : Int) (hl : ls.length ≤ 30) : (fms f ls n).length ≤ 30 := by
  have := pig (fms f ls n).length (ls.filterMap lotO) n fun k hk => by
    obtain ⟨a, b⟩ := fmk_some (fms_at (List.getElem?_eq_getElem hk))
    exact List.mem_filterMap.mpr ⟨_, List.mem_of_getElem? a, lotO_of b⟩
  have h2 := List.length_filterMap_le lotO ls
  omega
theorem found_loop (hl : S.ls.length = 30) : ∀ (f r : Nat) (acc : List (Nat × Rc)), f < r → (fms f S.ls (h + acc.length + 1)).length < f → acc.length + f ≤ 1000 →
    sWhile w_found_marks_1 b_found_marks_1 r ⟨[.tr (dkT .lnt S h l ws), .tr (.nd .lst .own (acc.map pmT)), .tr (fmT (fmk S.ls (h + acc.length + 1)))], []⟩ = some (.nx ⟨[.tr (dkT .lnt S h l ws), .tr (.nd .lst .own ((acc ++ fms f S.ls (h + acc.length + 1)).map pmT)), .tr (.a .non)], []⟩)
  | 0, _, _, _, h, _ => by simp [fms] at h
  | f + 1, 0, _, h, _, _ => by omega
  | f + 1, r + 1, acc, hr, hf, ha => by
    unfold fms at hf ⊢
    cases hq : fmk S.ls (h + acc.length + 1) with
    | none =>
      rw [while_end (g' := [.tr (dkT .lnt S h l ws), .tr (.nd .lst .own (acc.map pmT)), .tr (.a .non)]) (s' := []) (by
        simp only [dkT]
        generalize wsK ws = t3 at *
        simp! [w_found_marks_1, fmT])]
      simp
    | some p =>
      rw [hq] at hf
      simp only [List.length_cons] at hf
      have e1 : ((acc ++ [p]).length : Int) = acc.length + 1 := by simp
      have ih := found_loop hl f r (acc ++ [p]) (by omega) (by rw [e1, show h + ((acc.length : Int) + 1) + 1 = h + acc.length + 1 + 1 by omega]; omega) (by simp; omega)
      rw [e1, show h + ((acc.length : Int) + 1) + 1 = h + acc.length + 1 + 1 by omega] at ih
      have pf := P_find (S := S) (h := h) (l := l) (ws := ws) (h + acc.length + 1 + 1)
      have hsz : acc.length < sizeLine := by rw [sizeLine_eq]; omega
      have e4 : h + ((acc.length : Int) + 1) + 1 = h + acc.length + 1 + 1 := by omega
      have r0 := cp_rcT p.2
      have r1 := esc_rcT p.2
      have r2 := fun o => kid_rcT o p.2
      have e2 : (acc ++ [p]).map pmT = acc.map pmT ++ [pmT p] := by rw [List.map_append]; rfl
      have e3 : (acc.length : Int) = ((acc.map pmT).length : Int) := by rw [List.length_map]
      have c5 : cp (fmT (fmk S.ls (h + acc.length + 1 + 1))) = true := by
        cases fmk S.ls (h + acc.length + 1 + 1) with
        | none => rfl
        | some p => simp [fmT, cp, cpL, cp_rcT]
      rw [while_nx (g' := [.tr (dkT .lnt S h l ws), .tr (.nd .lst .own (acc.map pmT)), .tr (pmT p)]) (s' := []) (m2 := ⟨[.tr (dkT .lnt S h l ws), .tr (.nd .lst .own ((acc ++ [p]).map pmT)), .tr (fmT (fmk S.ls (h + acc.length + 1 + 1)))], []⟩) (by
        simp only [dkT]
        generalize wsK ws = t3 at *
        simp! [w_found_marks_1, fmT, r0]) (by
        rw [e2]
        simp only [dkT] at pf ⊢
        generalize wsK ws = t3 at *
        generalize ws.map wtT = t4 at *
        generalize S.hs.map tupT = t1 at *
        generalize S.ls.map slT = t2 at *
        simp! [b_found_marks_1, pf, hsz, r0, r1, r2, e4, c5]), ih]
      simp
theorem P_found (hl : S.ls.length = 30) : G_found_marks [dkT .lnt S h l ws] = some (.rt (.nd .lst .own ((fms 40 S.ls (h + 1)).map pmT)) [.any]) := by
  have h1 := found_loop (h := h) (l := l) (ws := ws) hl 40 1000 [] (by decide) (by
    have := fms_len 40 (h + (([] : List (Nat × Rc)).length : Int) + 1) (ls := S.ls) (by omega)
    omega) (by simp)
  rw [show h + (([] : List (Nat × Rc)).length : Int) + 1 = h + 1 by simp] at h1
  have pf := P_find (S := S) (h := h) (l := l) (ws := ws) (h + 1)
  have es : escL ((fms 40 S.ls (h + 1)).map pmT) = true := by
    rw [escL_all]
    intro t ht
    obtain ⟨p, _, rfl⟩ := List.mem_map.mp ht
    simp [esc, escL, esc_rcT]
  have c5 : cp (fmT (fmk S.ls (h + 1))) = true := by
    cases fmk S.ls (h + 1) with
    | none => rfl
    | some p => simp [fmT, cp, cpL, cp_rcT]
  simp only [dkT, List.nil_append, List.map_nil] at h1 pf ⊢
  generalize (fms 40 S.ls (h + 1)).map pmT = mt at *
  generalize fmT (fmk S.ls (h + 1)) = ft at *
  generalize wsK ws = t3 at *
  generalize ws.map wtT = t4 at *
  generalize S.hs.map tupT = t1 at *
  generalize S.ls.map slT = t2 at *
  simp! [G_found_marks, g_found_marks, pf, h1, es, c5]
end
/-! the law's own search for marks -/
section
variable {n hd : Int} {ls : List (Option Rc)}
abbrev oAt (ls : List (Option Rc)) (x : Int) : Option Rc := ls.getD x.toNat none
theorem fmA_fl : ∀ (ls : List (Option Rc)) (i : Nat), (fmA n i ls).map (fun p => ((p.1 : Nat) : Int)) = ((rng i ls.length).filter (fun x => isM n (ls.getD (x.toNat - i) none))).head?
  | [], i => by simp [fmA, rng]
  | o :: t, i => by
    have ih := fmA_fl t (i + 1)
    have e1 : (rng ((i : Int) + 1) t.length).filter (fun x => isM n ((o :: t).getD (x.toNat - i) none)) = (rng ((i + 1 : Nat) : Int) t.length).filter (fun x => isM n (t.getD (x.toNat - (i + 1)) none)) := by
      rw [show (((i + 1 : Nat) : Int)) = (i : Int) + 1 by omega]
      refine List.filter_congr fun x hx => ?_
      obtain ⟨k, hk, rfl⟩ := List.mem_map.mp hx
      rw [show ((i : Int) + 1 + (k : Int)).toNat - i = ((i : Int) + 1 + (k : Int)).toNat - (i + 1) + 1 by omega, List.getD_cons_succ]
    rw [List.length_cons, rng_succ, List.filter_cons, e1]
    have e2 : isM n ((o :: t).getD ((i : Int).toNat - i) none) = isM n o := by rw [show (i : Int).toNat - i = 0 by omega]; rfl
    rw [e2]
    cases o with
    | none =>
      simp only [fmA, isM, Bool.false_eq_true, if_false]
      exact ih
    | some r =>
      by_cases q : isM n (some r) = true
      · simp only [fmA, q, if_true]
        rfl
      · simp only [fmA, q, Bool.false_eq_true, if_false]
        exact ih
abbrev FL (ls : List (Option Rc)) (n : Int) : List Int := (rng 0 30).filter fun x => isM n (oAt ls x)
theorem FL_none (hl : ls.length = 30) (h : fmk ls n = none) : FL ls n = [] := by
  have := fmA_fl (n := n) ls 0
  rw [show fmA n 0 ls = none from h, hl] at this
  exact (List.head?_eq_none_iff.mp this.symm)
theorem FL_some {j : Nat} {r : Rc} (hl : ls.length = 30) (h : fmk ls n = some (j, r)) : ∃ rest, FL ls n = (j : Int) :: rest := by
  have := fmA_fl (n := n) ls 0
  rw [show fmA n 0 ls = some (j, r) from h, hl] at this
  cases hf : FL ls n with
  | nil =>
    have hf : (rng ((0 : Nat) : Int) 30).filter (fun x => isM n (ls.getD (x.toNat - 0) none)) = [] := hf
    rw [hf] at this
    cases this
  | cons x rest =>
    have hf : (rng ((0 : Nat) : Int) 30).filter (fun x => isM n (ls.getD (x.toNat - 0) none)) = x :: rest := hf
    rw [hf] at this
    simp at this
    exact ⟨rest, by rw [this]⟩
theorem slT_at {x : Int} (h0 : 0 ≤ x) (h1 : x < 30) (hl : ls.length = 30) : (ls.map slT)[x.toNat]? = some (slT (oAt ls x)) := by
  have hx : x.toNat < ls.length := by omega
  rw [List.getElem?_map, List.getElem?_eq_getElem hx]
  simp [oAt, List.getD_eq_getElem?_getD, List.getElem?_eq_getElem hx]
theorem lm_body (hl : ls.length = 30) {x k : Int} (x0 : 0 ≤ x) (x1 : x < 30) {acc : List Int} (ha : acc.length < 30) (mt : Tr) : b_law_marks_1 ⟨[.tr (lgT .lnt ls), .tr (iT hd), .tr mt, .tr (iT k), .tr (rowT acc), .tr (iT x)], []⟩ = some (.nx ⟨[.tr (lgT .lnt ls), .tr (iT hd), .tr mt, .tr (iT k), .tr (rowT (if isM (hd + 1 + k) (oAt ls x) = true then acc ++ [x] else acc)), .tr (iT x)], []⟩) := by
  have a1 := ixN_len (n := ls.length) (i := x) x0 (by omega)
  have a2 := slT_at x0 x1 hl
  have hs : acc.length < sizeLine := by rw [sizeLine_eq]; omega
  rw [← List.length_map (f := slT)] at a1
  simp only [lgT]
  generalize ls.map slT = lt at *
  generalize oAt ls x = o at *
  cases o with
  | none => 
    simp only [slT] at a2
    simp! [b_law_marks_1, a1, a2, isM]
  | some r =>
    cases r with
    | cp lot y c =>
      simp only [slT, rcT] at a2
      simp! [b_law_marks_1, a1, a2, isM, s_cm]
    | mk lot cs rs =>
      have c0 := cpL_prT cs
      have k0 := fun o => kidL_prT o cs
      simp only [slT, rcT] at a2
      generalize cs.map prT = ct at *
      by_cases q : lot = hd + 1 + k
      · simp! [b_law_marks_1, a1, a2, isM, q, c0, k0, hs]
      · simp! [b_law_marks_1, a1, a2, isM, q, c0, k0, hs]
theorem lm_inner (hl : ls.length = 30) (k : Int) {e5 : Ent} (n5 : Nal e5) (mt : Tr) : ∃ e, Nal e ∧ loopR (bind md_law_marks 5) b_law_marks_1 0 30 0 ⟨[.tr (lgT .lnt ls), .tr (iT hd), .tr mt, .tr (iT k), .tr (.nd .lst .own []), e5], []⟩ = some (.nx ⟨[.tr (lgT .lnt ls), .tr (iT hd), .tr mt, .tr (iT k), .tr (rowT (FL ls (hd + 1 + k))), e], []⟩) := by
  obtain ⟨m1, q1, acc, e, ne, hacc, rfl⟩ := loopR_nx (bd := bind md_law_marks 5) (gs := b_law_marks_1) (lo := 0) (n := 30)
    (fun i m => ∃ acc e, Nal e ∧ acc = (rng 0 i).filter (fun x => isM (hd + 1 + k) (oAt ls x)) ∧ m = ⟨[.tr (lgT .lnt ls), .tr (iT hd), .tr mt, .tr (iT k), .tr (rowT acc), e], []⟩)
    (m := ⟨[.tr (lgT .lnt ls), .tr (iT hd), .tr mt, .tr (iT k), .tr (.nd .lst .own []), e5], []⟩) ⟨[], e5, n5, rfl, rfl⟩
    (by
      rintro i m hi ⟨acc, e, ne, hacc, rfl⟩
      have hal : acc.length < 30 := by
        rw [hacc]
        have := List.length_filter_le (fun x => isM (hd + 1 + k) (oAt ls x)) (rng 0 i)
        rw [rng_len] at this
        omega
      have hb := lm_body (hd := hd) hl (x := (0 : Int) + i) (k := k) (by omega) (by omega) hal mt
      refine ⟨_, _, ?_, hb, _, .tr (iT (0 + i)), nal_tr, ?_, rfl⟩
      · simp only [lgT]
        generalize ls.map slT = lt
        simp! [ne.kr]
      · rw [hacc, show rng 0 (i + 1) = rng 0 i ++ [(0 : Int) + i] by simp [rng, List.range_succ], List.filter_append]
        by_cases q : isM (hd + 1 + k) (oAt ls (0 + (i : Int))) = true
        · rw [if_pos q]
          simp only [List.filter_cons, List.filter_nil, q, if_true]
        · rw [if_neg q]
          simp only [List.filter_cons, List.filter_nil, q, if_false, List.append_nil, Bool.false_eq_true])
  refine ⟨e, ne, ?_⟩
  rw [q1, hacc]
end
/-! the law's own search for marks: all lots -/
section
variable {n hd : Int} {ls : List (Option Rc)}
theorem isM_some {r : Rc} (h : isM n (some r) = true) : ∃ cs rs, r = .mk n cs rs := by
  cases r with
  | cp _ _ _ => cases h
  | mk lot cs rs =>
    simp [isM] at h
    exact ⟨cs, rs, by rw [h]⟩
theorem lm_none (hl : ls.length = 30) {acc : List (Nat × Rc)} {k : Int} (h : fmk ls (hd + 1 + k) = none) {e4 e5 : Ent} (n4 : Nal e4) (n5 : Nal e5) :
    ∃ m : Ms, (∃ e5', Nal e5' ∧ m = ⟨[.tr (lgT .lnt ls), .tr (iT hd), .tr .any, .tr (iT k), .tr (.nd .lst .own []), e5'], []⟩) ∧ b_law_marks_2 ⟨[.tr (lgT .lnt ls), .tr (iT hd), .tr (.nd .lst .own (acc.map pmT)), .tr (iT k), e4, e5], []⟩ = some (.rt (.nd .lst .own (acc.map pmT)) m) := by
  obtain ⟨e, ne, h1⟩ := lm_inner (hd := hd) hl k n5 (.nd .lst .own (acc.map pmT))
  rw [FL_none hl h] at h1
  refine ⟨_, ⟨e, ne, rfl⟩, ?_⟩
  have es : escL (acc.map pmT) = true := by
    rw [escL_all]
    intro t ht
    obtain ⟨p, _, rfl⟩ := List.mem_map.mp ht
    simp [esc, escL, esc_rcT]
  simp only [lgT, List.map_nil] at h1 ⊢
  generalize acc.map pmT = at' at *
  generalize ls.map slT = lt at *
  have h1 : loopR (bind md_law_marks 5) b_law_marks_1 0 30 0 ⟨[.tr (.nd .lst .lnt lt), .tr (iT hd), .tr (.nd .lst .own at'), .tr (iT k), .tr (.nd .lst .own []), e5], []⟩ = some (.nx ⟨[.tr (.nd .lst .lnt lt), .tr (iT hd), .tr (.nd .lst .own at'), .tr (iT k), .tr (.nd .lst .own []), e], []⟩) := h1
  simp! [b_law_marks_2, sForR1, h1, n4.kr, n4.ke, n5.kr, n5.ke, ne.kr, ne.ke, es]
theorem lm_some (hl : ls.length = 30) {acc : List (Nat × Rc)} {k : Int} {p : Nat × Rc} (h : fmk ls (hd + 1 + k) = some p) (ha : acc.length < 1000) {e4 e5 : Ent} (n4 : Nal e4) (n5 : Nal e5) :
    ∃ e4' e5', Nal e4' ∧ Nal e5' ∧ b_law_marks_2 ⟨[.tr (lgT .lnt ls), .tr (iT hd), .tr (.nd .lst .own (acc.map pmT)), .tr (iT k), e4, e5], []⟩ = some (.nx ⟨[.tr (lgT .lnt ls), .tr (iT hd), .tr (.nd .lst .own ((acc ++ [p]).map pmT)), .tr (iT k), e4', e5'], []⟩) := by
  obtain ⟨e, ne, h1⟩ := lm_inner (hd := hd) hl k n5 (.nd .lst .own (acc.map pmT))
  obtain ⟨j, r⟩ := p
  obtain ⟨rest, hF⟩ := FL_some hl h
  obtain ⟨g1, g2⟩ := fmk_some h
  have hj : j < ls.length := (List.getElem?_eq_some_iff.mp g1).1
  refine ⟨.tr (rowT (FL ls (hd + 1 + k))), e, nal_tr, ne, ?_⟩
  rw [hF] at h1 ⊢
  have a1 := ixN_len (n := ls.length) (i := (j : Int)) (by omega) (by omega)
  rw [Int.toNat_natCast, ← List.length_map (f := slT)] at a1
  have a2 : (ls.map slT)[j]? = some (rcT r) := by rw [List.getElem?_map, g1]; rfl
  have e2 : (acc ++ [(j, r)]).map pmT = acc.map pmT ++ [pmT (j, r)] := by rw [List.map_append]; rfl
  have hs : (acc.map pmT).length < sizeLine := by rw [List.length_map, sizeLine_eq]; omega
  have r0 := cp_rcT r
  have r1 := esc_rcT r
  have r2 := fun o => kid_rcT o r
  have ix0 : ixN (rest.length + 1) 0 = some 0 := by simp [ixN]
  rw [e2]
  simp only [lgT, List.map_cons] at h1 ⊢
  generalize acc.map pmT = at' at *
  generalize ls.map slT = lt at *
  have h1 : loopR (bind md_law_marks 5) b_law_marks_1 0 30 0 ⟨[.tr (.nd .lst .lnt lt), .tr (iT hd), .tr (.nd .lst .own at'), .tr (iT k), .tr (.nd .lst .own []), e5], []⟩ = some (.nx ⟨[.tr (.nd .lst .lnt lt), .tr (iT hd), .tr (.nd .lst .own at'), .tr (iT k), .tr (.nd .lst .own (iT (j : Int) :: rest.map iT)), e], []⟩) := h1
  have l1 : ¬ ((rest.length : Int) + 1 = 0) := by omega
  simp! [b_law_marks_2, sForR1, h1, n4.kr, n4.ke, n5.kr, n5.ke, ne.kr, ne.ke, hs, r0, r1, r2, a1, a2, ix0, l1]
theorem lm_loop (hl : ls.length = 30) : ∀ (r i : Nat) (acc : List (Nat × Rc)) (e3 e4 e5 : Ent), Nal e3 → Nal e4 → Nal e5 → i + r = 40 → acc.length = i → (fms r ls (hd + 1 + i)).length < r →
    ∃ (k : Int) (e5' : Ent), loopR (bind md_law_marks 3) b_law_marks_2 0 r i ⟨[.tr (lgT .lnt ls), .tr (iT hd), .tr (.nd .lst .own (acc.map pmT)), e3, e4, e5], []⟩ = some (.rt (.nd .lst .own ((acc ++ fms r ls (hd + 1 + i)).map pmT)) ⟨[.tr (lgT .lnt ls), .tr (iT hd), .tr .any, .tr (iT k), .tr (.nd .lst .own []), e5'], []⟩)
  | 0, i, acc, e3, e4, e5, _, _, _, _, _, h => by simp [fms] at h
  | r + 1, i, acc, e3, e4, e5, n3, n4, n5, hi, ha, hf => by
    have hb : bind md_law_marks 3 ⟨[.tr (lgT .lnt ls), .tr (iT hd), .tr (.nd .lst .own (acc.map pmT)), e3, e4, e5], [.tr (.a (.int ((0 : Int) + i)))]⟩ = some ⟨[.tr (lgT .lnt ls), .tr (iT hd), .tr (.nd .lst .own (acc.map pmT)), .tr (iT (0 + i)), e4, e5], []⟩ := by
      simp only [lgT]
      generalize ls.map slT = lt
      generalize acc.map pmT = at'
      simp! [n3.kr, n4.kr, n5.kr]
    unfold fms at hf ⊢
    rw [show hd + 1 + (i : Int) = hd + 1 + (0 + (i : Int)) by omega] at hf ⊢
    cases hq : fmk ls (hd + 1 + (0 + (i : Int))) with
    | none =>
      obtain ⟨m, ⟨e5', ne, rfl⟩, h2⟩ := lm_none hl (acc := acc) hq n4 n5
      refine ⟨0 + (i : Int), e5', ?_⟩
      unfold loopR
      simp only [hb, h2]
      simp
    | some p =>
      rw [hq] at hf
      simp only [List.length_cons] at hf
      obtain ⟨e4', e5', n4', n5', h2⟩ := lm_some hl (acc := acc) hq (by omega) n4 n5
      obtain ⟨k, e5'', ih⟩ := lm_loop hl r (i + 1) (acc ++ [p]) (.tr (iT (0 + i))) e4' e5' nal_tr n4' n5' (by omega) (by simp [ha]) (by
        rw [show hd + 1 + ((i + 1 : Nat) : Int) = hd + 1 + (0 + (i : Int)) + 1 by omega]
        omega)
      rw [show hd + 1 + ((i + 1 : Nat) : Int) = hd + 1 + (0 + (i : Int)) + 1 by omega] at ih
      refine ⟨k, e5'', ?_⟩
      unfold loopR
      simp only [hb, h2, ih]
      simp
theorem P_lmarks (hl : ls.length = 30) : G_law_marks [lgT .lnt ls, iT hd] = some (.rt (.nd .lst .own ((fms 40 ls (hd + 1)).map pmT)) [.any, .any]) := by
  have fl := fms_len 40 (hd + 1 + ((0 : Nat) : Int)) (ls := ls) (by omega)
  obtain ⟨k, e5, h1⟩ := lm_loop (hd := hd) hl 40 0 [] .no .no .no nal_no nal_no nal_no rfl rfl (by omega)
  rw [show hd + 1 + ((0 : Nat) : Int) = hd + 1 by simp] at h1
  simp only [lgT, List.nil_append, List.map_nil] at h1 ⊢
  generalize (fms 40 ls (hd + 1)).map pmT = mt at *
  generalize ls.map slT = lt at *
  simp! [G_law_marks, g_law_marks, sForR1, h1]
end
/-! the live copy of a block -/
section
variable {x : Int} {la : Bool}
def lotR : Rc → Int
  | .mk l _ _ => l
  | .cp l _ _ => l
def csR : Rc → List (Int × Int)
  | .mk _ cs _ => cs
  | .cp _ _ _ => []
def rsR : Rc → List Int
  | .mk _ _ rs => rs
  | .cp _ _ _ => []
def IsMk (r : Rc) : Prop := ∃ lot cs rs, r = .mk lot cs rs
def lastP (x lot : Int) (cs : List (Int × Int)) (v : Option (Int × Int)) : Option (Int × Int) := cs.foldl (fun v p => if p.1 = x then some (lot, p.2) else v) v
theorem lastP_app (x lot : Int) (cs : List (Int × Int)) (p : Int × Int) (v : Option (Int × Int)) : lastP x lot (cs ++ [p]) v = if p.1 = x then some (lot, p.2) else lastP x lot cs v := by
  unfold lastP
  rw [List.foldl_append]
  rfl
def stpV (la : Bool) (x : Int) (v : Option (Int × Int)) (r : Rc) : Option (Int × Int) :=
  if la = false ∧ x ∈ rsR r then none else lastP x (lotR r) (csR r) (if la = true ∧ x ∈ rsR r then none else v)
def liveF (la : Bool) (x : Int) (ms : List (Nat × Rc)) : Option (Int × Int) := ms.foldl (fun v p => stpV la x v p.2) none
theorem liveF_app (p : List (Nat × Rc)) (m : Nat × Rc) : liveF la x (p ++ [m]) = stpV la x (liveF la x p) m.2 := by
  unfold liveF
  rw [List.foldl_append]
  rfl
def lvT : Option (Int × Int) → Tr
  | none => .a .non
  | some p => prT p
theorem cp_lvT (v : Option (Int × Int)) : cp (lvT v) = true := by cases v <;> simp [lvT, cp, cpL]
theorem esc_lvT (v : Option (Int × Int)) : esc (lvT v) = true := by cases v <;> simp [lvT, esc, escL]
theorem live_in {lot : Int} {cs : List (Int × Int)} {rt : Tr} {v : Option (Int × Int)} (mt s5 : Tr) (t8 s4 : Tr) {e9 e10 : Ent} (n9 : Nal e9) (n10 : Nal e10) :
    ∃ e9' e10', Nal e9' ∧ Nal e10' ∧ loopE .tup (unpk md_live_copy [9, 10]) b_live_copy_1 cs.length 0 ⟨[.tr mt, .tr (iT x), .tr (bT la), .tr (lvT v), .tr s4, .tr s5, .tr (iT lot), .tr (.nd .tup .own (cs.map prT)), .tr t8, e9, e10], [.tr (.nd .tup .own (cs.map prT)), .tr mt]⟩ = some (.nx ⟨[.tr mt, .tr (iT x), .tr (bT la), .tr (lvT (lastP x lot cs v)), .tr s4, .tr s5, .tr (iT lot), .tr (.nd .tup .own (cs.map prT)), .tr t8, e9', e10'], [.tr mt]⟩) := by
  have c0 := cpL_prT cs
  obtain ⟨Γ', ⟨e9', e10', n9', n10', rfl⟩, h1⟩ := loopE_pre (gs := b_live_copy_1) (bd := unpk md_live_copy [9, 10]) (s := [.tr mt]) (xs := cs) (enc := prT) (.tr (.nd .tup .own (cs.map prT))) .tup .own
    (fun p Γ => ∃ e9 e10, Nal e9 ∧ Nal e10 ∧ Γ = [.tr mt, .tr (iT x), .tr (bT la), .tr (lvT (lastP x lot p v)), .tr s4, .tr s5, .tr (iT lot), .tr (.nd .tup .own (cs.map prT)), .tr t8, e9, e10])
    (fun p Γ ⟨_, _, _, _, e⟩ => by rw [e]; rfl) (by simp! [c0]) (fun x _ => rfl) (Γ := [.tr mt, .tr (iT x), .tr (bT la), .tr (lvT v), .tr s4, .tr s5, .tr (iT lot), .tr (.nd .tup .own (cs.map prT)), .tr t8, e9, e10])
    (by
      rintro p y q Γ hx ⟨e9, e10, n9, n10, rfl⟩
      refine ⟨_, _, by simp! [n9.kr, n10.kr]; rfl, ⟨.tr (iT y.1), .tr (iT y.2), nal_tr, nal_tr, rfl⟩, .inl ?_⟩
      rw [lastP_app]
      by_cases h : y.1 = x
      · simp! [b_live_copy_1, h, lvT]
      · simp! [b_live_copy_1, h])
    ⟨e9, e10, n9, n10, rfl⟩
  exact ⟨e9', e10', n9', n10', h1⟩
theorem live_turn {r : Rc} (hr : IsMk r) {v : Option (Int × Int)} {i : Nat} (mt : Tr) {e6 e7 e8 e9 e10 : Ent} (n6 : Nal e6) (n7 : Nal e7) (n8 : Nal e8) (n9 : Nal e9) (n10 : Nal e10) :
    ∃ e6' e7' e8' e9' e10', Nal e6' ∧ Nal e7' ∧ Nal e8' ∧ Nal e9' ∧ Nal e10' ∧ b_live_copy_2 ⟨[.tr mt, .tr (iT x), .tr (bT la), .tr (lvT v), .tr (iT i), .tr (rcT r), e6, e7, e8, e9, e10], [.tr mt]⟩ = some (.nx ⟨[.tr mt, .tr (iT x), .tr (bT la), .tr (lvT (stpV la x v r)), .tr (iT i), .tr (rcT r), e6', e7', e8', e9', e10'], [.tr mt]⟩) := by
  obtain ⟨lot, cs, rs, rfl⟩ := hr
  simp only [stpV, lotR, csR, rsR]
  have c0 := cpL_prT cs
  have k0 := fun o => kidL_prT o cs
  have c1 : cpL (rs.map iT) = true := cpL_iT rs
  have k1 : ∀ o, kidL o (rs.map iT) = rs.map iT := fun o => by simp [kidL_iT]
  obtain ⟨f9, f10, g9, g10, h1⟩ := live_in (x := x) (la := la) (lot := lot) (cs := cs) (rt := .any) (v := if la = true ∧ x ∈ rs then none else v) mt (rcT (.mk lot cs rs)) (tupT rs) (iT i) n9 n10
  refine ⟨.tr (iT lot), .tr (.nd .tup .own (cs.map prT)), .tr (tupT rs), f9, f10, nal_tr, nal_tr, nal_tr, g9, g10, ?_⟩
  have cv := cp_lvT v
  have hl : cs.length = (cs.map prT).length := by rw [List.length_map]
  rw [hl] at h1
  simp only [rcT] at h1 ⊢
  generalize cs.map prT = ct at *
  by_cases q : x ∈ rs
  · cases la with
    | true =>
      simp only [q, and_self, and_true, if_true, Bool.true_eq_false, false_and, if_false, lvT] at h1 ⊢
      simp! [b_live_copy_2, sFor, q, h1, c0, k0, cv, n6.kr, n7.kr, n8.kr, n9.kr, n10.kr, g9.kr, g10.kr, n6.ke, n7.ke, n8.ke, n9.ke, n10.ke]
    | false =>
      simp only [q, and_self, and_true, if_true, Bool.false_eq_true, false_and, if_false, lvT] at h1 ⊢
      simp! [b_live_copy_2, sFor, q, h1, c0, k0, cv, n6.kr, n7.kr, n8.kr, n9.kr, n10.kr, g9.kr, g10.kr, n6.ke, n7.ke, n8.ke, n9.ke, n10.ke]
  · simp only [q, and_false, if_false] at h1 ⊢
    cases la <;> simp! [b_live_copy_2, sFor, q, h1, c0, k0, cv, n6.kr, n7.kr, n8.kr, n9.kr, n10.kr, g9.kr, g10.kr, n6.ke, n7.ke, n8.ke, n9.ke, n10.ke]
end
/-! the live copy, and the cells of a block behind the marks -/
section
variable {S : Sb} {h l x : Int} {la : Bool} {ws : List Wt} {ms : List (Nat × Rc)}
abbrev msT (o : Ow) (ms : List (Nat × Rc)) : Tr := .nd .lst o (ms.map pmT)
def MsOk (ms : List (Nat × Rc)) : Prop := ∀ p ∈ ms, IsMk p.2
theorem P_live (hm : MsOk ms) (hn : ms.length ≤ 100) : G_live_copy [msT .lnt ms, iT x, bT la] = some (.rt (lvT (liveF la x ms)) [.any, .any, .any]) := by
  obtain ⟨Γ', ⟨e4, e5, e6, e7, e8, e9, e10, n4, n5, n6, n7, n8, n9, n10, rfl⟩, h1⟩ := loopE_pre (gs := b_live_copy_2) (bd := unpk md_live_copy [4, 5]) (s := []) (xs := ms) (enc := pmT) (.tr (msT .lnt ms)) .lst .lnt
    (fun p Γ => ∃ e4 e5 e6 e7 e8 e9 e10, Nal e4 ∧ Nal e5 ∧ Nal e6 ∧ Nal e7 ∧ Nal e8 ∧ Nal e9 ∧ Nal e10 ∧ Γ = [.tr (msT .lnt ms), .tr (iT x), .tr (bT la), .tr (lvT (liveF la x p)), e4, e5, e6, e7, e8, e9, e10])
    (fun p Γ ⟨_, _, _, _, _, _, _, _, _, _, _, _, _, _, e⟩ => by rw [e]; rfl) rfl (fun x _ => by simp [kid, kidL, cp, cpL, kid_rcT, cp_rcT]) (Γ := [.tr (msT .lnt ms), .tr (iT x), .tr (bT la), .tr (lvT none), .no, .no, .no, .no, .no, .no, .no])
    (by
      rintro p y q Γ hx ⟨e4, e5, e6, e7, e8, e9, e10, n4, n5, n6, n7, n8, n9, n10, rfl⟩
      have hy := hm y (by rw [hx]; simp)
      obtain ⟨f6, f7, f8, f9, f10, g6, g7, g8, g9, g10, ht⟩ := live_turn (x := x) (la := la) (v := liveF la x p) (i := y.1) hy (msT .lnt ms) n6 n7 n8 n9 n10
      have r0 := cp_rcT y.2
      have r1 := fun o => kid_rcT o y.2
      refine ⟨[.tr (msT .lnt ms), .tr (iT x), .tr (bT la), .tr (lvT (liveF la x p)), .tr (iT y.1), .tr (rcT y.2), e6, e7, e8, e9, e10], _, ?_, ⟨.tr (iT y.1), .tr (rcT y.2), f6, f7, f8, f9, f10, nal_tr, nal_tr, g6, g7, g8, g9, g10, rfl⟩, .inl ?_⟩
      · generalize msT .lnt ms = mt
        generalize lvT (liveF la x p) = vt
        simp! [n4.kr, n5.kr, n6.kr, n7.kr, n8.kr, n9.kr, n10.kr, r0, r1]
      · rw [liveF_app]
        exact ht)
    ⟨.no, .no, .no, .no, .no, .no, .no, nal_no, nal_no, nal_no, nal_no, nal_no, nal_no, nal_no, rfl⟩
  have hl : ms.length = (ms.map pmT).length := by rw [List.length_map]
  rw [hl] at h1
  have c0 := cp_lvT (liveF la x ms)
  have c1 := esc_lvT (liveF la x ms)
  generalize lvT (liveF la x ms) = vt at *
  simp only [msT, lvT] at *
  generalize ms.map pmT = mt at *
  simp! [G_live_copy, g_live_copy, sFor, h1, c0, c1]
abbrev hAt (S : Sb) (x : Int) : List Int := S.hs.getD x.toNat []
def z8 : List Int := [0, 0, 0, 0, 0, 0, 0, 0]
def cellO (lot x : Int) : Option Rc → List Int
  | some (.cp l b c) => if l = lot ∧ b = x then c else z8
  | _ => z8
def cellsF (S : Sb) (la : Bool) (x : Int) (ms : List (Nat × Rc)) : List Int := match liveF la x ms with
  | none => hAt S x
  | some p => if 0 ≤ p.2 ∧ p.2 < 30 then cellO p.1 x (oAt S.ls p.2) else z8
abbrev rzT (o : Ow) (r : List Int) : Tr := .nd .tup o (r.map iT)
theorem hs_at (o : S.Ok) (h0 : 0 ≤ x) (h1 : x < 24) : (S.hs.map tupT)[x.toNat]? = some (tupT (hAt S x)) := by
  have hx : x.toNat < S.hs.length := by rw [o.h]; omega
  rw [List.getElem?_map, List.getElem?_eq_getElem hx]
  simp [hAt, List.getD_eq_getElem?_getD, List.getElem?_eq_getElem hx]
theorem P_cellsA (o : S.Ok) (hm : MsOk ms) (hn : ms.length ≤ 100) (h0 : 0 ≤ x) (h1 : x < 24) : ∃ f, (f = .own ∨ f = .frz) ∧ G_cells_after [dkT .lnt S h l ws, msT .lnt ms, iT x, bT la] = some (.rt (rzT f (cellsF S la x ms)) [.any, .any, .any, .any]) := by
  have pl := P_live (x := x) (la := la) hm hn
  have a1 := ixN_len (n := 24) (i := x) h0 h1
  have a2 := hs_at o h0 h1
  have l1 : S.hs.length = 24 := o.h
  have l2 : S.ls.length = 30 := o.l
  rw [← List.length_map (f := tupT)] at l1
  rw [← List.length_map (f := slT)] at l2
  have l2' := o.l
  simp only [cellsF]
  simp only [dkT, msT] at pl ⊢
  generalize wsK ws = t3 at *
  generalize ws.map wtT = t4 at *
  generalize S.hs.map tupT = t1 at *
  generalize ms.map pmT = mt at *
  cases hv : liveF la x ms with
  | none =>
    rw [hv] at pl
    simp only [lvT] at pl
    generalize S.ls.map slT = t2 at *
    exact ⟨.own, .inl rfl, by simp! [G_cells_after, g_cells_after, pl, a1, a2, l1]⟩
  | some p =>
    obtain ⟨lot, s⟩ := p
    rw [hv] at pl
    simp only [lvT] at pl
    by_cases q1 : 0 ≤ s
    · by_cases q2 : s < 30
      · simp only [q1, q2, and_self, if_true]
        have b1 := ixN_len (n := 30) (i := s) q1 q2
        have b2 := slT_at q1 q2 l2'
        generalize S.ls.map slT = t2 at *
        cases hq : oAt S.ls s with
        | none =>
          rw [hq] at b2
          simp only [slT] at b2
          exact ⟨.frz, .inr rfl, by simp! [G_cells_after, g_cells_after, pl, l2, q1, q2, b1, b2, cellO, z8]⟩
        | some r =>
          rw [hq] at b2
          cases r with
          | mk l9 cs rs =>
            have c0 := cpL_prT cs
            have k0 := fun o => kidL_prT o cs
            simp only [slT, rcT] at b2
            generalize cs.map prT = ct at *
            exact ⟨.frz, .inr rfl, by simp! [G_cells_after, g_cells_after, pl, l2, q1, q2, b1, b2, cellO, z8, s_mc, c0, k0]⟩
          | cp l3 b c =>
            simp only [slT, rcT] at b2
            by_cases q3 : l3 = lot
            · by_cases q4 : b = x
              · simp only [cellO, q3, q4, and_self, if_true]
                exact ⟨.own, .inl rfl, by simp! [G_cells_after, g_cells_after, pl, l2, q1, q2, b1, b2, q3, q4]⟩
              · simp only [cellO, q3, q4, and_false, if_false]
                exact ⟨.frz, .inr rfl, by simp! [G_cells_after, g_cells_after, pl, l2, q1, q2, b1, b2, q3, q4, z8]⟩
            · simp only [cellO, q3, false_and, if_false]
              exact ⟨.frz, .inr rfl, by simp! [G_cells_after, g_cells_after, pl, l2, q1, q2, b1, b2, q3, z8]⟩
      · simp only [q2, and_false, if_false]
        generalize S.ls.map slT = t2 at *
        exact ⟨.frz, .inr rfl, by simp! [G_cells_after, g_cells_after, pl, l2, q1, q2, z8]⟩
    · simp only [q1, false_and, if_false]
      generalize S.ls.map slT = t2 at *
      exact ⟨.frz, .inr rfl, by simp! [G_cells_after, g_cells_after, pl, l2, q1, z8]⟩
end
/-! the slots that are read -/
section
variable {S : Sb} {h l x : Int} {la : Bool} {ws : List Wt} {ms : List (Nat × Rc)}
def ddRc : Rc → PyData
  | .cp l x c => .tuple [.str "copy", .int l, .int x, .tuple (c.map .int)]
  | .mk l cs rs => .tuple [.str "mark", .int l, .tuple (cs.map ddPr), .tuple (rs.map .int)]
theorem toD_rc (r : Rc) : toD (rcT r) = some (ddRc r) := by
  cases r with
  | cp l x c =>
    have h := toDL_map toD_iT c
    simp only [rcT, ddRc, toD, toDL, h]
  | mk l cs rs =>
    have h := toDL_map toD_iT rs
    have h2 : toDL (cs.map prT) = some (cs.map ddPr) := toDL_map toD_pr cs
    simp only [rcT, ddRc, toD, toDL, h, h2]
theorem toDL_ms (ms : List (Nat × Rc)) : toDL (ms.map pmT) = some (ms.map fun p => .tuple [.int p.1, ddRc p.2]) :=
  toDL_map (dd := fun p : Nat × Rc => .tuple [.int p.1, ddRc p.2]) (fun p => by simp only [toD, toDL, toD_rc]) ms
theorem firsts_ms : ∀ ms : List (Nat × Rc), firstsI (ms.map fun p => PyData.tuple [.int p.1, ddRc p.2]) = some (ms.map fun p => ((p.1 : Nat) : Int))
  | [] => rfl
  | p :: ms => by
    rw [List.map_cons, firstsI, firsts_ms ms]
    rfl
def lsl (la : Bool) (ms : List (Nat × Rc)) (x : Int) : Option Int := match liveF la x ms with
  | some p => if 0 ≤ p.2 then some p.2 else none
  | none => none
def slotsF (la : Bool) (ms : List (Nat × Rc)) : List Int := (ms.map fun p => ((p.1 : Nat) : Int)) ++ (rng 0 24).filterMap (lsl la ms)
theorem sr_turn (hm : MsOk ms) (hn : ms.length ≤ 100) (dk : Tr) {acc : List Int} (ha : acc.length < 1000) {e4 e5 e7 : Ent} (n4 : Nal e4) (n5 : Nal e5) (n7 : Nal e7) :
    ∃ e7', Nal e7' ∧ b_slots_read_1 ⟨[.tr dk, .tr (bT la), .tr (msT .own ms), .tr (rowT acc), e4, e5, .tr (iT x), e7], []⟩ = some (.nx ⟨[.tr dk, .tr (bT la), .tr (msT .own ms), .tr (rowT (acc ++ (lsl la ms x).toList)), e4, e5, .tr (iT x), e7'], []⟩) := by
  have pl := P_live (x := x) (la := la) hm hn
  have hs : acc.length < sizeLine := by rw [sizeLine_eq]; omega
  refine ⟨.tr (lvT (liveF la x ms)), nal_tr, ?_⟩
  simp only [lsl]
  simp only [msT] at pl ⊢
  generalize ms.map pmT = mt at *
  cases hv : liveF la x ms with
  | none =>
    rw [hv] at pl
    simp only [lvT] at pl
    simp! [b_slots_read_1, pl, lvT, n4.kr, n5.kr, n7.kr, n4.ke, n5.ke, n7.ke, n4.kj, n5.kj, n7.kj]
  | some p =>
    obtain ⟨lot, s⟩ := p
    rw [hv] at pl
    simp only [lvT] at pl
    by_cases q : 0 ≤ s
    · simp! [b_slots_read_1, pl, lvT, q, hs, n4.kr, n5.kr, n7.kr, n4.ke, n5.ke, n7.ke, n4.kj, n5.kj, n7.kj]
    · simp! [b_slots_read_1, pl, lvT, q, hs, n4.kr, n5.kr, n7.kr, n4.ke, n5.ke, n7.ke, n4.kj, n5.kj, n7.kj]
theorem fms_mk (f : Nat) (ls : List (Option Rc)) (n : Int) : MsOk (fms f ls n) := fun p hp => by
  obtain ⟨k, hk, e⟩ := List.getElem_of_mem hp
  obtain ⟨j, r⟩ := p
  have := fmk_some (fms_at (List.getElem?_eq_some_iff.mpr ⟨hk, e⟩))
  obtain ⟨cs, rs, e⟩ := isM_some this.2
  exact ⟨_, cs, rs, e⟩
theorem filterMap_len (f : Int → Option Int) (l : List Int) : (l.filterMap f).length ≤ l.length := List.length_filterMap_le f l
theorem P_slots (o : S.Ok) : G_slots_read [dkT .lnt S h l ws, bT la] = some (.rt (rowT (srtX (slotsF la (fms 40 S.ls (h + 1))))) [.any, .any]) := by
  have pf := P_found (S := S) (h := h) (l := l) (ws := ws) o.l
  have hm := fms_mk 40 S.ls (h + 1)
  have hn := fms_len 40 (h + 1) (ls := S.ls) (by rw [o.l]; decide)
  simp only [slotsF]
  generalize fms 40 S.ls (h + 1) = ms at *
  obtain ⟨m1, q1, acc, e6, e7, n6, n7, hacc, rfl⟩ := loopR_nx (bd := bind md_slots_read 6) (gs := b_slots_read_1) (lo := 0) (n := 24)
    (fun i m => ∃ acc e6 e7, Nal e6 ∧ Nal e7 ∧ acc = (ms.map fun p => ((p.1 : Nat) : Int)) ++ (rng 0 i).filterMap (lsl la ms) ∧ m = ⟨[.tr (dkT .lnt S h l ws), .tr (bT la), .tr (msT .own ms), .tr (rowT acc), .no, .no, e6, e7], []⟩)
    (m := ⟨[.tr (dkT .lnt S h l ws), .tr (bT la), .tr (msT .own ms), .tr (rowT (ms.map fun p => ((p.1 : Nat) : Int))), .no, .no, .no, .no], []⟩) ⟨_, .no, .no, nal_no, nal_no, by simp [rng], rfl⟩
    (by
      rintro i m hi ⟨acc, e6, e7, n6, n7, hacc, rfl⟩
      have hal : acc.length < 1000 := by
        have := filterMap_len (lsl la ms) (rng 0 i)
        rw [rng_len] at this
        rw [hacc, List.length_append, List.length_map]
        omega
      obtain ⟨e7', n7', hb⟩ := sr_turn (x := (0 : Int) + i) (la := la) hm (by omega) (dkT .lnt S h l ws) hal nal_no nal_no n7
      refine ⟨_, _, ?_, hb, _, .tr (iT (0 + i)), e7', nal_tr, n7', ?_, rfl⟩
      · generalize dkT .lnt S h l ws = dk
        generalize msT .own ms = mt
        simp! [n6.kr, n7.kr]
      · rw [hacc, show rng 0 (i + 1) = rng 0 i ++ [(0 : Int) + i] by simp [rng, List.range_succ], List.filterMap_append, List.append_assoc]
        congr 2)
  have hlen : acc.length < 64 := by
    have := filterMap_len (lsl la ms) (rng 0 24)
    rw [rng_len] at this
    rw [hacc, List.length_append, List.length_map]
    omega
  have g1 : gLcT 4 5 (gVar 2) ⟨[.tr (dkT .lnt S h l ws), .tr (bT la), .tr (msT .own ms), .no, .no, .no, .no, .no], []⟩ = some (.ok ⟨[.tr (dkT .lnt S h l ws), .tr (bT la), .tr (msT .own ms), .no, .no, .no, .no, .no], [.tr (rowT (ms.map fun p => ((p.1 : Nat) : Int)))]⟩) := by
    have v1 : gVar 2 ⟨[.tr (dkT .lnt S h l ws), .tr (bT la), .tr (msT .own ms), .no, .no, .no, .no, .no], []⟩ = some (.ok ⟨[.tr (dkT .lnt S h l ws), .tr (bT la), .tr (msT .own ms), .no, .no, .no, .no, .no], [.al [2]]⟩) := by simp! []
    have v2 : viewE [.tr (dkT .lnt S h l ws), .tr (bT la), .tr (msT .own ms), .no, .no, .no, .no, .no] (.al [2]) = some (.nd .lst .own (ms.map pmT)) := rfl
    unfold gLcT
    rw [v1]
    simp only [v2, toDL_ms, firsts_ms]
    rw [if_pos ⟨by rw [List.length_map]; omega, by simp, by simp, by decide⟩]
  rw [← hacc]
  have es : escL (ms.map pmT) = true := by
    rw [escL_all]
    intro t ht
    obtain ⟨p, _, rfl⟩ := List.mem_map.mp ht
    simp [esc, escL, esc_rcT]
  simp only [dkT, msT] at *
  generalize ms.map pmT = mt at *
  generalize wsK ws = t3 at *
  generalize ws.map wtT = t4 at *
  generalize S.hs.map tupT = t1 at *
  generalize S.ls.map slT = t2 at *
  generalize (ms.map fun p => ((p.1 : Nat) : Int)) = fm at *
  simp! [G_slots_read, g_slots_read, pf, g1, sForR1, q1, fSrtSetD, intsT_map, hlen, es, n6.kr, n7.kr, n6.ke, n7.ke]
end
/-! the law's own live copy -/
section
variable {x : Int} {la : Bool} {ms : List (Nat × Rc)}
def sufS (x : Int) (q : List (Nat × Rc)) : Bool := q.any fun p => decide (x ∈ rsR p.2)
def strk (la : Bool) (x : Int) (m : Nat × Rc) (q : List (Nat × Rc)) : Bool := (decide (x ∈ rsR m.2) && !la) || sufS x q
def lwR (la : Bool) (x : Int) : List (Nat × Rc) → Option (Int × Int) → Option (Int × Int)
  | [], v => v
  | m :: q, v => lwR la x q (if strk la x m q = true then v else lastP x (lotR m.2) (csR m.2) v)
theorem sufS_cons (m : Nat × Rc) (q : List (Nat × Rc)) : sufS x (m :: q) = (decide (x ∈ rsR m.2) || sufS x q) := rfl
theorem lwR_ab : ∀ (ms : List (Nat × Rc)), (∀ v, sufS x ms = false → lwR la x ms v = ms.foldl (fun v p => stpV la x v p.2) v) ∧ (∀ v', sufS x ms = true → lwR la x ms none = ms.foldl (fun v p => stpV la x v p.2) v')
  | [] => ⟨fun v _ => rfl, fun v' h => by cases h⟩
  | m :: q => by
    obtain ⟨iha, ihb⟩ := lwR_ab q
    refine ⟨fun v h => ?_, fun v' h => ?_⟩
    · rw [sufS_cons] at h
      simp only [Bool.or_eq_false_iff] at h
      have h1 : ¬ x ∈ rsR m.2 := by simpa using h.1
      simp only [lwR, List.foldl_cons]
      rw [if_neg (by simp [strk, h1, h.2]), iha _ h.2]
      simp only [stpV, h1, and_false, if_false]
    · simp only [lwR, List.foldl_cons]
      by_cases hq : sufS x q = true
      · rw [if_pos (by simp [strk, hq])]
        exact ihb _ hq
      · have hq : sufS x q = false := by simpa using hq
        rw [sufS_cons, hq, Bool.or_false] at h
        have h1 : x ∈ rsR m.2 := by simpa using h
        cases la with
        | true =>
          rw [if_neg (by simp [strk, hq]), iha _ hq]
          simp only [stpV, h1, and_true, Bool.true_eq_false, if_false, if_true]
        | false =>
          rw [if_pos (by simp [strk, h1]), iha _ hq]
          simp only [stpV, h1, and_true, if_true]
theorem lwR_eq (ms : List (Nat × Rc)) : lwR la x ms none = liveF la x ms := by
  obtain ⟨a, b⟩ := lwR_ab (x := x) (la := la) ms
  cases h : sufS x ms with
  | false => exact a none h
  | true => exact b none h
abbrev gLv (ms : List (Nat × Rc)) (x : Int) (la : Bool) (v : Option (Int × Int)) (e4 e5 e6 e7 e8 : Ent) : List Ent := [.tr (msT .lnt ms), .tr (iT x), .tr (bT la), .tr (lvT v), e4, e5, e6, e7, e8]
theorem ms_at {i : Nat} {p : Nat × Rc} (h : ms[i]? = some p) : (ms.map pmT)[i]? = some (pmT p) := by rw [List.getElem?_map, h]; rfl
theorem later_loop (hm : MsOk ms) (hn : ms.length ≤ 100) {i : Nat} (hi : i < ms.length) {v : Option (Int × Int)} {e4 e5 e7 e8 : Ent} (n4 : Nal e4) (n5 : Nal e5) (n7 : Nal e7) (n8 : Nal e8) (s0 : Bool) :
    ∃ e7', Nal e7' ∧ loopR (bind md_law_live 7) b_law_live_1 ((i : Int) + 1) (ms.length - (i + 1)) 0 ⟨gLv ms x la v e4 e5 (.tr (bT s0)) e7 e8, []⟩ = some (.nx ⟨gLv ms x la v e4 e5 (.tr (bT (s0 || sufS x (ms.drop (i + 1))))) e7' e8, []⟩) := by
  obtain ⟨m1, q1, e7', n7', rfl⟩ := loopR_nx (bd := bind md_law_live 7) (gs := b_law_live_1) (lo := (i : Int) + 1) (n := ms.length - (i + 1))
    (fun j m => ∃ e7, Nal e7 ∧ m = ⟨gLv ms x la v e4 e5 (.tr (bT (s0 || sufS x ((ms.drop (i + 1)).take j)))) e7 e8, []⟩)
    (m := ⟨gLv ms x la v e4 e5 (.tr (bT s0)) e7 e8, []⟩) ⟨e7, n7, by simp [sufS]⟩
    (by
      rintro j m hj ⟨e7, n7, rfl⟩
      have hk : i + 1 + j < ms.length := by omega
      have hp := List.getElem?_eq_getElem hk
      have hpm : ms[i + 1 + j] ∈ ms := List.getElem_mem hk
      generalize hpd : ms[i + 1 + j] = p at *
      have hj2 : ((ms.drop (i + 1)).take (j + 1)) = (ms.drop (i + 1)).take j ++ [p] := by
        rw [List.take_succ, List.getElem?_drop, hp]
        rfl
      have e1 : sufS x ((ms.drop (i + 1)).take (j + 1)) = (sufS x ((ms.drop (i + 1)).take j) || decide (x ∈ rsR p.2)) := by
        rw [hj2]
        simp [sufS]
      have a1 := ixN_len (n := ms.length) (i := (i : Int) + 1 + j) (by omega) (by omega)
      rw [show ((i : Int) + 1 + (j : Int)).toNat = i + 1 + j by omega] at a1
      have a2 := ms_at hp
      obtain ⟨pi, r⟩ := p
      obtain ⟨lot, cs, rs, hr⟩ := hm _ hpm
      have hr : r = .mk lot cs rs := hr
      subst hr
      have c0 := cpL_prT cs
      have k0 := fun o => kidL_prT o cs
      refine ⟨⟨gLv ms x la v e4 e5 (.tr (bT (s0 || sufS x ((ms.drop (i + 1)).take j)))) (.tr (iT ((i : Int) + 1 + j))) e8, []⟩, _, ?_, ?_, .tr (iT ((i : Int) + 1 + j)), nal_tr, rfl⟩
      · simp only [gLv]
        generalize msT .lnt ms = mt
        generalize lvT v = vt
        simp! [n4.kr, n5.kr, n7.kr, n8.kr]
      · rw [e1]
        simp only [rsR]
        generalize sufS x ((ms.drop (i + 1)).take j) = sb
        simp only [pmT, rcT] at a2
        rw [← List.length_map (f := pmT)] at a1
        simp only [gLv, msT]
        generalize ms.map pmT = mt at *
        generalize cs.map prT = ct at *
        generalize lvT v = vt at *
        by_cases q : x ∈ rs
        · simp! [b_law_live_1, a1, a2, c0, k0, q, n4.kr, n5.kr, n8.kr]
        · simp! [b_law_live_1, a1, a2, c0, k0, q, n4.kr, n5.kr, n8.kr])
  refine ⟨e7', n7', ?_⟩
  rw [q1, List.take_of_length_le (by rw [List.length_drop]; omega)]
end
/-! the law's own live copy: the whole -/
section
variable {x : Int} {la : Bool} {ms : List (Nat × Rc)}
theorem llive_pairs {lot : Int} {cs : List (Int × Int)} {v : Option (Int × Int)} {st : Bool} (mt : Tr) {rs : List Int} {e4 e7 e8 : Ent} (n8 : Nal e8) (n4 : Nal e4) (n7 : Nal e7) :
    ∃ e8', Nal e8' ∧ loopE .tup (bind md_law_live 8) b_law_live_2 cs.length 0 ⟨[.tr mt, .tr (iT x), .tr (bT la), .tr (lvT v), e4, .tr (rcT (.mk lot cs rs)), .tr (bT st), e7, e8], [.tr (.nd .tup .own (cs.map prT))]⟩ = some (.nx ⟨[.tr mt, .tr (iT x), .tr (bT la), .tr (lvT (if st = true then v else lastP x lot cs v)), e4, .tr (rcT (.mk lot cs rs)), .tr (bT st), e7, e8'], []⟩) := by
  have c0 := cpL_prT cs
  have k0 := fun o => kidL_prT o cs
  obtain ⟨Γ', ⟨e8', n8', rfl⟩, h1⟩ := loopE_pre (gs := b_law_live_2) (bd := bind md_law_live 8) (s := []) (xs := cs) (enc := prT) (.tr (.nd .tup .own (cs.map prT))) .tup .own
    (fun p Γ => ∃ e8, Nal e8 ∧ Γ = [.tr mt, .tr (iT x), .tr (bT la), .tr (lvT (if st = true then v else lastP x lot p v)), e4, .tr (rcT (.mk lot cs rs)), .tr (bT st), e7, e8])
    (fun p Γ ⟨_, _, e⟩ => by rw [e]; rfl) (by simp! [c0]) (fun x _ => rfl) (Γ := [.tr mt, .tr (iT x), .tr (bT la), .tr (lvT v), e4, .tr (rcT (.mk lot cs rs)), .tr (bT st), e7, e8])
    (by
      rintro p y q Γ hx ⟨e8, n8, rfl⟩
      refine ⟨_, _, by simp! [n8.kr, n4.kr, n7.kr]; rfl, ⟨.tr (prT y), nal_tr, rfl⟩, .inl ?_⟩
      rw [lastP_app]
      simp only [rcT]
      generalize cs.map prT = ct at *
      cases st with
      | true => 
        simp only [if_true]
        by_cases h : y.1 = x
        · simp! [b_law_live_2, h, n4.kr, n7.kr]
        · simp! [b_law_live_2, h, n4.kr, n7.kr]
      | false =>
        simp only [Bool.false_eq_true, if_false]
        by_cases h : y.1 = x
        · simp! [b_law_live_2, h, lvT, c0, k0, n4.kr, n7.kr, n4.ke, n7.ke]
        · simp! [b_law_live_2, h, n4.kr, n7.kr])
    ⟨e8, n8, by simp [lastP]⟩
  exact ⟨e8', n8', h1⟩
theorem llive_turn (hm : MsOk ms) (hn : ms.length ≤ 100) {i : Nat} (hi : i < ms.length) {v : Option (Int × Int)} {e5 e6 e7 e8 : Ent} (n5 : Nal e5) (n6 : Nal e6) (n7 : Nal e7) (n8 : Nal e8) :
    ∃ e5' e6' e7' e8', Nal e5' ∧ Nal e6' ∧ Nal e7' ∧ Nal e8' ∧ b_law_live_3 ⟨gLv ms x la v (.tr (iT i)) e5 e6 e7 e8, []⟩ = some (.nx ⟨gLv ms x la (if strk la x ms[i] (ms.drop (i + 1)) = true then v else lastP x (lotR ms[i].2) (csR ms[i].2) v) (.tr (iT i)) e5' e6' e7' e8', []⟩) := by
  have hp := List.getElem?_eq_getElem hi
  have hpm : ms[i] ∈ ms := List.getElem_mem hi
  generalize hpd : ms[i] = p at *
  obtain ⟨pi, r⟩ := p
  obtain ⟨lot, cs, rs, hr⟩ := hm _ hpm
  have hr : r = .mk lot cs rs := hr
  subst hr
  have a1 := ixN_len (n := ms.length) (i := (i : Int)) (by omega) (by omega)
  rw [Int.toNat_natCast] at a1
  have a2 := ms_at hp
  obtain ⟨e7', n7', h1⟩ := later_loop (x := x) (la := la) hm hn hi (v := v) (e4 := .tr (iT i)) (e5 := .tr (rcT (.mk lot cs rs))) nal_tr nal_tr n7 n8 (decide (x ∈ rs) && !la)
  have hs : (decide (x ∈ rs) && !la || sufS x (ms.drop (i + 1))) = strk la x (pi, .mk lot cs rs) (ms.drop (i + 1)) := rfl
  rw [hs] at h1
  obtain ⟨e8', n8', h2⟩ := llive_pairs (x := x) (la := la) (lot := lot) (cs := cs) (v := v) (st := strk la x (pi, .mk lot cs rs) (ms.drop (i + 1))) (msT .lnt ms) (rs := rs) (e4 := .tr (iT i)) n8 nal_tr n7'
  refine ⟨.tr (rcT (.mk lot cs rs)), .tr (bT (strk la x (pi, .mk lot cs rs) (ms.drop (i + 1)))), e7', e8', nal_tr, nal_tr, n7', n8', ?_⟩
  have c0 := cpL_prT cs
  have k0 := fun o => kidL_prT o cs
  have hl : cs.length = (cs.map prT).length := by rw [List.length_map]
  have hll : ((ms.length : Int) - ((i : Int) + 1)).toNat = ms.length - (i + 1) := by omega
  rw [hl] at h2
  simp only [lotR, csR]
  generalize strk la x (pi, .mk lot cs rs) (ms.drop (i + 1)) = st at *
  have l1 : ms.length = (ms.map pmT).length := by rw [List.length_map]
  have hF : sForR2 (gSeq (gSeq (gSeq (gVar 4) (gC (.int 1))) fAdd) (gSeq (gSeq (gSeq (gVar 0) gNil) fLen) gNil)) (bind md_law_live 7) b_law_live_1 ⟨gLv ms x la v (.tr (iT i)) (.tr (rcT (.mk lot cs rs))) (.tr (bT (decide (x ∈ rs) && !la))) e7 e8, []⟩ = some (.nx ⟨gLv ms x la v (.tr (iT i)) (.tr (rcT (.mk lot cs rs))) (.tr (bT st)) e7' e8, []⟩) := by
    rw [sForR2_e (n := (ms.length : Int)) (k := (i : Int) + 1) (Γ := gLv ms x la v (.tr (iT i)) (.tr (rcT (.mk lot cs rs))) (.tr (bT (decide (x ∈ rs) && !la))) e7 e8) (s := []) (by
      rw [l1]
      simp only [gLv, msT]
      generalize ms.map pmT = mt
      generalize rcT (.mk lot cs rs) = rt
      generalize lvT v = vt
      simp! []) (by omega) (by omega) (by omega) (by omega), hll, h1]
  rw [l1] at a1
  clear l1 h1 hll
  simp only [gLv, msT, pmT, rcT] at a2 hF h2 ⊢
  generalize ms.map pmT = mt at *
  generalize cs.map prT = ct at *
  generalize lvT v = vt at *
  have s1 : sSet md_law_live 5 (gSeq (gSeq (gSeq (gSeq (gVar 0) (gVar 4)) fIxA) (gC (.int 1))) fIxA) ⟨[.tr (.nd .lst .lnt mt), .tr (iT x), .tr (bT la), .tr vt, .tr (iT i), e5, e6, e7, e8], []⟩ = some (.nx ⟨[.tr (.nd .lst .lnt mt), .tr (iT x), .tr (bT la), .tr vt, .tr (iT i), .tr (.nd .tup .own [.a (.str "mark"), iT lot, .nd .tup .own ct, tupT rs]), e6, e7, e8], []⟩) := by
    simp! [a1, a2, c0, k0, n5.kr, n6.kr, n7.kr, n8.kr, n5.ke, n6.ke, n7.ke, n8.ke]
  have s2 : sSet md_law_live 6 (gAnd (gSeq (gSeq (gVar 1) (gSeq (gSeq (gVar 5) (gC (.int 3))) fIxA)) fInA) (gNot (gVar 2))) ⟨[.tr (.nd .lst .lnt mt), .tr (iT x), .tr (bT la), .tr vt, .tr (iT i), .tr (.nd .tup .own [.a (.str "mark"), iT lot, .nd .tup .own ct, tupT rs]), e6, e7, e8], []⟩ = some (.nx ⟨[.tr (.nd .lst .lnt mt), .tr (iT x), .tr (bT la), .tr vt, .tr (iT i), .tr (.nd .tup .own [.a (.str "mark"), iT lot, .nd .tup .own ct, tupT rs]), .tr (bT (decide (x ∈ rs) && !la)), e7, e8], []⟩) := by
    by_cases q : x ∈ rs <;> cases la <;> simp! [q, c0, k0, n6.kr, n7.kr, n8.kr, n6.ke, n7.ke, n8.ke]
  have s4 : sFor (gSeq (gSeq (gVar 5) (gC (.int 2))) fIxA) (bind md_law_live 8) b_law_live_2 ⟨[.tr (.nd .lst .lnt mt), .tr (iT x), .tr (bT la), .tr vt, .tr (iT i), .tr (.nd .tup .own [.a (.str "mark"), iT lot, .nd .tup .own ct, tupT rs]), .tr (bT st), e7', e8], []⟩ = some (.nx ⟨[.tr (.nd .lst .lnt mt), .tr (iT x), .tr (bT la), .tr (lvT (if st = true then v else lastP x lot cs v)), .tr (iT i), .tr (.nd .tup .own [.a (.str "mark"), iT lot, .nd .tup .own ct, tupT rs]), .tr (bT st), e7', e8'], []⟩) := by
    unfold sFor
    rw [show gSeq (gSeq (gVar 5) (gC (.int 2))) fIxA ⟨[.tr (.nd .lst .lnt mt), .tr (iT x), .tr (bT la), .tr vt, .tr (iT i), .tr (.nd .tup .own [.a (.str "mark"), iT lot, .nd .tup .own ct, tupT rs]), .tr (bT st), e7', e8], []⟩ = some (.ok ⟨[.tr (.nd .lst .lnt mt), .tr (iT x), .tr (bT la), .tr vt, .tr (iT i), .tr (.nd .tup .own [.a (.str "mark"), iT lot, .nd .tup .own ct, tupT rs]), .tr (bT st), e7', e8], [.tr (.nd .tup .own ct)]⟩) by
      simp! [c0, k0]]
    simp only [ready, kid, eff, k0]
    rw [if_pos (.inr trivial)]
    exact h2
  unfold b_law_live_3
  rw [sSeq_e, s1, bS_nx, sSeq_e, s2, bS_nx, sSeq_e, hF, bS_nx, s4]
end
/-! the law's own live copy, slots and cells -/
theorem run_rt {md : List Bool} {N : Nat} {g : GS} {ts : List Tr} {o : Option Os} {Γ : List Ent} (h : g ⟨Γ, []⟩ = o) (hΓ : ts.map Ent.tr ++ List.replicate (N - ts.length) .no = Γ := by rfl) : runF md N g ts = fR md o := by
  subst hΓ
  rw [runF_e, nos_e, h]
theorem fR_out3 {Γ : List Ent} (t : Tr) (a b c : Ent) {rest : List Ent} (hΓ : Γ = a :: b :: c :: rest) (c0 : cp t = true) (c1 : esc t = true) : fR md_law_live (some (.rt t ⟨Γ, []⟩)) = some (.rt t [.any, .any, .any]) := by
  subst hΓ
  simp! [c0, c1]
section
variable {x : Int} {la : Bool} {ms : List (Nat × Rc)}
theorem P_llive (hm : MsOk ms) (hn : ms.length ≤ 100) : G_law_live [msT .lnt ms, iT x, bT la] = some (.rt (lvT (liveF la x ms)) [.any, .any, .any]) := by
  obtain ⟨m1, q1, v, e4, e5, e6, e7, e8, n4, n5, n6, n7, n8, hv, rfl⟩ := loopR_nx (bd := bind md_law_live 4) (gs := b_law_live_3) (lo := 0) (n := ms.length)
    (fun i m => ∃ v e4 e5 e6 e7 e8, Nal e4 ∧ Nal e5 ∧ Nal e6 ∧ Nal e7 ∧ Nal e8 ∧ lwR la x (ms.drop i) v = lwR la x ms none ∧ m = ⟨gLv ms x la v e4 e5 e6 e7 e8, []⟩)
    (m := ⟨gLv ms x la none .no .no .no .no .no, []⟩) ⟨none, .no, .no, .no, .no, .no, nal_no, nal_no, nal_no, nal_no, nal_no, rfl, rfl⟩
    (by
      rintro i m hi ⟨v, e4, e5, e6, e7, e8, n4, n5, n6, n7, n8, hv, rfl⟩
      obtain ⟨f5, f6, f7, f8, g5, g6, g7, g8, ht⟩ := llive_turn (x := x) (la := la) hm hn hi (v := v) n5 n6 n7 n8
      have hb : bind md_law_live 4 ⟨gLv ms x la v e4 e5 e6 e7 e8, [.tr (.a (.int ((0 : Int) + i)))]⟩ = some ⟨gLv ms x la v (.tr (iT i)) e5 e6 e7 e8, []⟩ := by
        simp only [gLv]
        generalize msT .lnt ms = mt
        generalize lvT v = vt
        simp! [n4.kr, n5.kr, n6.kr, n7.kr, n8.kr]
      refine ⟨_, _, hb, ht, _, .tr (iT i), f5, f6, f7, f8, nal_tr, g5, g6, g7, g8, ?_, rfl⟩
      rw [← hv, List.drop_eq_getElem_cons hi, lwR])
  rw [List.drop_length] at hv
  have hv : v = liveF la x ms := hv.trans (lwR_eq ms)
  subst hv
  have l1 : ms.length = (ms.map pmT).length := by rw [List.length_map]
  have hF : sForR1 (gSeq (gSeq (gSeq (gVar 0) gNil) fLen) gNil) (bind md_law_live 4) b_law_live_3 ⟨gLv ms x la none .no .no .no .no .no, []⟩ = some (.nx ⟨gLv ms x la (liveF la x ms) e4 e5 e6 e7 e8, []⟩) := by
    rw [sForR1_e (n := (ms.length : Int)) (Γ := gLv ms x la none .no .no .no .no .no) (s := []) (by
      rw [l1]
      simp only [gLv, msT]
      generalize ms.map pmT = mt
      simp! []) (by omega) (by omega), Int.toNat_natCast, q1]
  have c0 := cp_lvT (liveF la x ms)
  have c1 := esc_lvT (liveF la x ms)
  clear l1 q1
  have s0 : sSet md_law_live 3 (gC .non) ⟨[.tr (msT .lnt ms), .tr (iT x), .tr (bT la), .no, .no, .no, .no, .no, .no], []⟩ = some (.nx ⟨gLv ms x la none .no .no .no .no .no, []⟩) := by
    simp only [gLv, lvT]
    generalize msT .lnt ms = mt
    simp! []
  have s2 : sRet (gSeq (gVar 3) (fMv md_law_live)) ⟨gLv ms x la (liveF la x ms) e4 e5 e6 e7 e8, []⟩ = some (.rt (lvT (liveF la x ms)) ⟨gLv ms x la (liveF la x ms) e4 e5 e6 e7 e8, []⟩) := by
    simp only [gLv]
    generalize msT .lnt ms = mt
    generalize lvT (liveF la x ms) = vt at *
    simp! [c0]
  have all : g_law_live ⟨[.tr (msT .lnt ms), .tr (iT x), .tr (bT la), .no, .no, .no, .no, .no, .no], []⟩ = some (.rt (lvT (liveF la x ms)) ⟨gLv ms x la (liveF la x ms) e4 e5 e6 e7 e8, []⟩) := by
    unfold g_law_live
    rw [sSeq_e, s0, bS_nx, sSeq_e]
    show bS (sForR1 (gSeq (gSeq (gSeq (gVar 0) gNil) fLen) gNil) (bind md_law_live 4) b_law_live_3 _) _ = _
    rw [hF, bS_nx, s2]
  exact (run_rt (md := md_law_live) (N := 9) (g := g_law_live) (ts := [msT .lnt ms, iT x, bT la]) all).trans (fR_out3 _ _ _ _ rfl c0 c1)
end
/-! the law's own slots -/
section
variable {x hd : Int} {la : Bool} {ms : List (Nat × Rc)} {ls : List (Option Rc)}
theorem fR_row2 {Γ : List Ent} (U : List Int) (a b : Ent) {rest : List Ent} (hΓ : Γ = a :: b :: rest) : fR md_law_slots (some (.rt (rowT U) ⟨Γ, []⟩)) = some (.rt (rowT U) [.any, .any]) := by
  subst hΓ
  simp! []
theorem fms_nodup (f : Nat) (n : Int) : ((fms f ls n).map fun p => ((p.1 : Nat) : Int)).Nodup := by
  rw [List.nodup_iff_pairwise_ne, List.pairwise_iff_getElem]
  intro i j hi0 hj hij e
  rw [List.length_map] at hj
  have e : ((fms f ls n).map fun p => ((p.1 : Nat) : Int))[i]? = ((fms f ls n).map fun p => ((p.1 : Nat) : Int))[j]? := by rw [List.getElem?_eq_getElem hi0, List.getElem?_eq_getElem (by rw [List.length_map]; exact hj)]; exact congrArg some e
  rw [List.getElem?_map, List.getElem?_map] at e
  rw [List.length_map] at hi0
  have h1 := List.getElem?_eq_getElem (l := fms f ls n) (i := i) (by omega)
  have h2 := List.getElem?_eq_getElem (l := fms f ls n) (i := j) (by omega)
  rw [h1, h2] at e
  generalize (fms f ls n)[i] = pi at *
  generalize (fms f ls n)[j] = pj at *
  obtain ⟨ji, ri⟩ := pi
  obtain ⟨jj, rj⟩ := pj
  obtain ⟨a1, a2⟩ := fmk_some (fms_at h1)
  obtain ⟨b1, b2⟩ := fmk_some (fms_at h2)
  simp only [Option.map_some, Option.some.injEq] at e
  have e : ji = jj := by omega
  rw [e, b1] at a1
  have a3 := lotO_of a2
  have b3 := lotO_of b2
  have hr : rj = ri := by simpa using a1
  subst hr
  have := Option.some.inj (a3.symm.trans b3)
  omega
def apU (U : List Int) : Option Int → List Int
  | some s => if s ∈ U then U else U ++ [s]
  | none => U
theorem apU_nodup {U : List Int} (h : U.Nodup) (o : Option Int) : (apU U o).Nodup := by
  cases o with
  | none => exact h
  | some s =>
    simp only [apU]
    split
    · exact h
    · rename_i q
      rw [List.nodup_append]
      exact ⟨h, by simp, fun a ha b hb e => q (by simp at hb; rw [← hb, ← e]; exact ha)⟩
theorem apU_mem {U : List Int} {y : Int} (o : Option Int) : y ∈ apU U o ↔ y ∈ U ∨ o = some y := by
  cases o with
  | none => simp [apU]
  | some s =>
    simp only [apU]
    split
    · rename_i q
      exact ⟨.inl, fun h => h.elim id fun e => by cases e; exact q⟩
    · simp [eq_comm]
theorem apU_len {U : List Int} (o : Option Int) : (apU U o).length ≤ U.length + 1 := by
  cases o with
  | none => simp [apU]
  | some s =>
    simp only [apU]
    split <;> simp
def lslV : Option (Int × Int) → Option Int
  | some p => if 0 ≤ p.2 then some p.2 else none
  | none => none
noncomputable def b_law_slots_1F (h1 : GF) : GS := (sSeq (sSet md_law_slots 5 (gSeq (gSeq (gVar 0) (gSeq (gVar 4) (gSeq (gVar 1) gNil))) (gCall [] md_law_live h1 3)))
    (sIf (gAnd (gSeq (gSeq (gVar 5) (gC .non)) fNotN) (gAnd (gSeq (gSeq (gSeq (gSeq (gVar 5) (gC (.int 1))) fIxA) (gC (.int 0))) fGe) (gSeq (gSeq (gSeq (gSeq (gVar 5) (gC (.int 1))) fIxA) (gVar 2)) fNotInA))) (sExpr (gSeq (gVar 2) (gSeq chkL (gSeq (gSeq (gSeq (gSeq (gVar 5) (gC (.int 1))) fIxA) gNil) fApp)))) sNil))
theorem b_law_slots_1_F : b_law_slots_1 = b_law_slots_1F G_law_live := rfl
theorem ls_turnF (hG : GF) (mt : List Tr) {U : List Int} {vt : Option (Int × Int)} (pl : hG [.nd .lst .lnt mt, iT x, bT la] = some (.rt (lvT vt) [.any, .any, .any])) (hU : U.length < 1000) {e5 : Ent} (n5 : Nal e5) :
    b_law_slots_1F hG ⟨[.tr (.nd .lst .lnt mt), .tr (bT la), .tr (rowT U), .no, .tr (iT x), e5], []⟩ = some (.nx ⟨[.tr (.nd .lst .lnt mt), .tr (bT la), .tr (rowT (apU U (lslV vt))), .no, .tr (iT x), .tr (lvT vt)], []⟩) := by
  have hs : U.length < sizeLine := by rw [sizeLine_eq]; omega
  cases vt with
  | none =>
    simp only [lvT] at pl
    simp! [b_law_slots_1F, pl, lvT, lslV, apU, n5.kr, n5.ke, n5.kj]
  | some p =>
    obtain ⟨lot, s⟩ := p
    simp only [lvT] at pl
    by_cases q : 0 ≤ s
    · by_cases q2 : s ∈ U
      · simp! [b_law_slots_1F, pl, lvT, lslV, q, q2, hs, apU, n5.kr, n5.ke, n5.kj]
      · simp! [b_law_slots_1F, pl, lvT, lslV, q, q2, hs, apU, n5.kr, n5.ke, n5.kj]
    · simp! [b_law_slots_1F, pl, lvT, lslV, q, hs, apU, n5.kr, n5.ke, n5.kj]
theorem ls_turn (hm : MsOk ms) (hn : ms.length ≤ 100) {U : List Int} (hU : U.length < 1000) {e5 : Ent} (n5 : Nal e5) :
    ∃ e5', Nal e5' ∧ b_law_slots_1 ⟨[.tr (msT .lnt ms), .tr (bT la), .tr (rowT U), .no, .tr (iT x), e5], []⟩ = some (.nx ⟨[.tr (msT .lnt ms), .tr (bT la), .tr (rowT (apU U (lsl la ms x))), .no, .tr (iT x), e5'], []⟩) := by
  rw [b_law_slots_1_F]
  exact ⟨.tr (lvT (liveF la x ms)), nal_tr, ls_turnF G_law_live _ (P_llive hm hn) hU n5⟩
theorem P_lslots (hm : MsOk ms) (hn : ms.length ≤ 30) (hnd : (ms.map fun p => ((p.1 : Nat) : Int)).Nodup) : G_law_slots [msT .lnt ms, bT la] = some (.rt (rowT (srtX (slotsF la ms))) [.any, .any]) := by
  obtain ⟨m1, q1, U, e4, e5, n4, n5, hn1, hmem, hlen, rfl⟩ := loopR_nx (bd := bind md_law_slots 4) (gs := b_law_slots_1) (lo := 0) (n := 24)
    (fun i m => ∃ U e4 e5, Nal e4 ∧ Nal e5 ∧ U.Nodup ∧ (∀ y, y ∈ U ↔ y ∈ (ms.map fun p => ((p.1 : Nat) : Int)) ++ (rng 0 i).filterMap (lsl la ms)) ∧ U.length ≤ 30 + i ∧ m = ⟨[.tr (msT .lnt ms), .tr (bT la), .tr (rowT U), .no, e4, e5], []⟩)
    (m := ⟨[.tr (msT .lnt ms), .tr (bT la), .tr (rowT (ms.map fun p => ((p.1 : Nat) : Int))), .no, .no, .no], []⟩) ⟨_, .no, .no, nal_no, nal_no, hnd, fun y => by simp [rng], by rw [List.length_map]; omega, rfl⟩
    (by
      rintro i m hi ⟨U, e4, e5, n4, n5, hn1, hmem, hlen, rfl⟩
      obtain ⟨e5', n5', hb⟩ := ls_turn (x := (0 : Int) + i) (la := la) hm (by omega) (U := U) (by omega) n5
      refine ⟨_, _, ?_, hb, _, .tr (iT (0 + i)), e5', nal_tr, n5', apU_nodup hn1 _, fun y => ?_, ?_, rfl⟩
      · generalize msT .lnt ms = mt
        simp! [n4.kr, n5.kr]
      · rw [apU_mem, hmem, show rng 0 (i + 1) = rng 0 i ++ [(0 : Int) + i] by simp [rng, List.range_succ], List.filterMap_append]
        simp only [List.mem_append, List.mem_filterMap, List.mem_singleton, exists_eq_left]
        exact or_assoc
      · have := apU_len (U := U) (lsl la ms (0 + (i : Int)))
        omega)
  have hlc : gLc [3] (gVar 0) (bind md_law_slots 3) (gC (.bl true)) e_law_slots_1 ⟨[.tr (msT .lnt ms), .tr (bT la), .no, .no, .no, .no], []⟩ = some (.ok ⟨[.tr (msT .lnt ms), .tr (bT la), .no, .no, .no, .no], [.tr (.nd .lst .own ((ms.filter fun _ => true).map fun p => iT (p.1 : Nat)))]⟩) :=
    gLcP_is (xs := ms) (enc := pmT) (.tr (msT .lnt ms)) (.tr (msT .lnt ms)) .lst .lnt (by simp! []) (by simp! []) (by rfl) (by simp! []) (by omega) rfl (by rfl) (by simp! []) rfl rfl (fun x hx => by simp [kid, kidL, cp, cpL, kid_rcT, cp_rcT]) (fun _ => true) (fun p => iT (p.1 : Nat))
      (fun x hx s' => by simp! []) (fun x hx s' _ => ⟨by
        have r0 := fun o => kid_rcT o x.2
        have r1 := cp_rcT x.2
        generalize msT .lnt ms = mt
        simp! [e_law_slots_1, r0, r1], rfl⟩)
  rw [filt_true] at hlc
  have hmm : (ms.map fun p => iT (p.1 : Nat)) = (ms.map fun p => ((p.1 : Nat) : Int)).map iT := by rw [List.map_map]; rfl
  rw [hmm] at hlc
  have hsort : sortI U = srtX (slotsF la ms) := by
    refine srtX_uniq ?_ fun k => ?_
    · have a := sortI_sorted U
      have b : (sortI U).Nodup := (sortI_perm U).nodup_iff.mpr hn1
      exact (a.and b).imp fun ⟨p, q⟩ => by omega
    · rw [(sortI_perm U).mem_iff, hmem]
      rfl
  rw [← hsort]
  have s1 : sSet md_law_slots 2 (gLc [3] (gVar 0) (bind md_law_slots 3) (gC (.bl true)) e_law_slots_1) ⟨[.tr (msT .lnt ms), .tr (bT la), .no, .no, .no, .no], []⟩ = some (.nx ⟨[.tr (msT .lnt ms), .tr (bT la), .tr (rowT (ms.map fun p => ((p.1 : Nat) : Int))), .no, .no, .no], []⟩) := by
    clear q1 hmem hsort
    generalize (ms.map fun p => ((p.1 : Nat) : Int)) = fm at *
    simp only [msT] at *
    generalize ms.map pmT = mt at *
    simp! [hlc]
  have s2 : sForR1 (gSeq (gC (.int 24)) gNil) (bind md_law_slots 4) b_law_slots_1 ⟨[.tr (msT .lnt ms), .tr (bT la), .tr (rowT (ms.map fun p => ((p.1 : Nat) : Int))), .no, .no, .no], []⟩ = some (.nx ⟨[.tr (msT .lnt ms), .tr (bT la), .tr (rowT U), .no, e4, e5], []⟩) := by
    rw [sForR1_e (n := 24) (Γ := [.tr (msT .lnt ms), .tr (bT la), .tr (rowT (ms.map fun p => ((p.1 : Nat) : Int))), .no, .no, .no]) (s := []) rfl (by decide) (by decide)]
    exact q1
  have s3 : sRet (gSeq (gSeq (gVar 2) gNil) fSrt) ⟨[.tr (msT .lnt ms), .tr (bT la), .tr (rowT U), .no, e4, e5], []⟩ = some (.rt (rowT (sortI U)) ⟨[.tr (msT .lnt ms), .tr (bT la), .tr (rowT U), .no, e4, e5], []⟩) := by
    generalize msT .lnt ms = mt
    simp! [fSrt, intsT_map, n4.kr, n5.kr, n4.ke, n5.ke]
  have all : g_law_slots ⟨[.tr (msT .lnt ms), .tr (bT la), .no, .no, .no, .no], []⟩ = some (.rt (rowT (sortI U)) ⟨[.tr (msT .lnt ms), .tr (bT la), .tr (rowT U), .no, e4, e5], []⟩) := by
    unfold g_law_slots
    rw [sSeq_e, s1, bS_nx, sSeq_e, s2, bS_nx, s3]
  exact (run_rt (md := md_law_slots) (N := 6) (g := g_law_slots) (ts := [msT .lnt ms, bT la]) all).trans (fR_row2 _ _ _ rfl)
end
/-! the law's own cells of a block (g_law_cellsF printed by absf.py) -/
noncomputable def g_law_cellsF (h1 : GF) : GS := (sSeq (sSet md_law_cells 5 (gSeq (gSeq (gVar 1) (gSeq (gVar 3) (gSeq (gVar 4) gNil))) (gCall [] md_law_live h1 3)))
    (sSeq (sIf (gSeq (gSeq (gVar 5) (gC .non)) fIsN) (sRet (gSeq (gSeq (gVar 2) (gVar 3)) fIxA)) sNil)
    (sSeq (sAsg (gVar 5) (unpk md_law_cells [6, 7]))
    (sSeq (sIf (gAnd (gSeq (gSeq (gVar 7) (gC (.int 0))) fGe) (gAnd (gSeq (gSeq (gSeq (gSeq (gVar 0) (gVar 7)) fIxA) (gC .non)) fNotN) (gSeq (gSeq (gSeq (gSeq (gSeq (gSeq (gSeq (gVar 0) (gVar 7)) fIxA) gNoP) (gSeq (gC (.int 3)) chkInt)) (fSl false true)) (gSeq (gSeq (gC (.str "copy")) (gSeq (gSeq (gVar 6) (fMv md_law_cells)) (gSeq (gVar 3) gNil))) (fNew .tup 3))) fEq))) (sRet (gSeq (gSeq (gSeq (gSeq (gVar 0) (gVar 7)) fIxA) (gC (.int 3))) fIxA)) sNil)
    (sRet (gSeq (gSeq (gC (.int 0)) (gSeq (gC (.int 0)) (gSeq (gC (.int 0)) (gSeq (gC (.int 0)) (gSeq (gC (.int 0)) (gSeq (gC (.int 0)) (gSeq (gC (.int 0)) (gSeq (gC (.int 0)) gNil)))))))) (fNew .tup 8)))))))
theorem g_law_cells_F : g_law_cells = g_law_cellsF G_law_live := rfl
section
variable {x hd : Int} {la : Bool} {ms : List (Nat × Rc)} {S : Sb}
def cellV (S : Sb) (x : Int) : Option (Int × Int) → List Int
  | none => hAt S x
  | some p => if 0 ≤ p.2 ∧ p.2 < 30 then cellO p.1 x (oAt S.ls p.2) else z8
theorem cellsF_V : cellsF S la x ms = cellV S x (liveF la x ms) := by
  unfold cellsF cellV
  cases liveF la x ms <;> rfl
theorem sl3 {Γ s : List Ent} {a b c d : Tr} (h : cpL [a, b, c, d] = true) (k : kidL .own [a, b, c, d] = [a, b, c, d]) : fSl false true ⟨Γ, .tr (iT 3) :: .tr (.nd .tup .own [a, b, c, d]) :: s⟩ = some (.ok ⟨Γ, .tr (.nd .tup .own [a, b, c]) :: s⟩) := by
  have k2 : [a, b, c, d].map (kid .own) = [a, b, c, d] := by simpa [kidL] using k
  unfold fSl prt
  simp only [prt, cutG, viewE, itemsE, k2, h]
  rfl
theorem e_cc : PyData.eqv (.str "copy") (.str "copy") = true := by decide
theorem e_mc : PyData.eqv (.str "mark") (.str "copy") = false := by decide
theorem feq_cp {o o' : Ow} {l b lot x : Int} : FEq false (.nd .tup o [.a (.str "copy"), iT l, iT b]) (.nd .tup o' [.a (.str "copy"), iT lot, iT x]) = some (.bl (decide (l = lot ∧ b = x))) := by
  have q1 : PyData.eqv (.int l) (.int lot) = decide (l = lot) := dd_int.eq l lot
  have q2 : PyData.eqv (.int b) (.int x) = decide (b = x) := dd_int.eq b x
  have sc : PyData.strOk "copy" = true := by decide +kernel
  have s1 : SeqAt.shaped (.tuple [.str "copy", .int l, .int b]) = true := (Sh.tup (n := 63) (.cons (.str sc) (.cons (.int _) (.cons (.int _) .nil)))).shaped
  have s2 : SeqAt.shaped (.tuple [.str "copy", .int lot, .int x]) = true := (Sh.tup (n := 63) (.cons (.str sc) (.cons (.int _) (.cons (.int _) .nil)))).shaped
  have t1 : toD (.nd .tup o [.a (.str "copy"), iT l, iT b]) = some (.tuple [.str "copy", .int l, .int b]) := rfl
  have t2 : toD (.nd .tup o' [.a (.str "copy"), iT lot, iT x]) = some (.tuple [.str "copy", .int lot, .int x]) := rfl
  have e0 : PyData.eqv (.tuple [.str "copy", .int l, .int b]) (.tuple [.str "copy", .int lot, .int x]) = (PyData.eqv (.str "copy") (.str "copy") && (PyData.eqv (.int l) (.int lot) && (PyData.eqv (.int b) (.int x) && true))) := by simp only [PyData.eqv, PyData.eqvAll]
  unfold FEq
  simp only [t1, t2, s1, s2, e0, e_cc, q1, q2, and_self, if_true, Bool.false_eq_true, if_false]
  by_cases h1 : l = lot <;> by_cases h2 : b = x <;> simp [h1, h2]
theorem feq_mk {o o' o2 : Ow} {l lot x : Int} {cs : List (Int × Int)} : FEq false (.nd .tup o [.a (.str "mark"), iT l, .nd .tup o2 (cs.map prT)]) (.nd .tup o' [.a (.str "copy"), iT lot, iT x]) = some (.bl false) := by
  have sc : PyData.strOk "copy" = true := by decide +kernel
  have sm : PyData.strOk "mark" = true := by decide +kernel
  have s1 : SeqAt.shaped (.tuple [.str "mark", .int l, .tuple (cs.map ddPr)]) = true := (Sh.tup (n := 63) (.cons (.str sm) (.cons (.int _) (.cons (Sh.tup (n := 62) (.map fun p => Sh.tup (n := 61) (.cons (.int _) (.cons (.int _) .nil)))) .nil)))).shaped
  have s2 : SeqAt.shaped (.tuple [.str "copy", .int lot, .int x]) = true := (Sh.tup (n := 63) (.cons (.str sc) (.cons (.int _) (.cons (.int _) .nil)))).shaped
  have t0 : toDL (cs.map prT) = some (cs.map ddPr) := toDL_map toD_pr cs
  have t1 : toD (.nd .tup o [.a (.str "mark"), iT l, .nd .tup o2 (cs.map prT)]) = some (.tuple [.str "mark", .int l, .tuple (cs.map ddPr)]) := by
    simp only [toD, toDL, t0]
  have t2 : toD (.nd .tup o' [.a (.str "copy"), iT lot, iT x]) = some (.tuple [.str "copy", .int lot, .int x]) := rfl
  have e0 : PyData.eqv (.tuple [.str "mark", .int l, .tuple (cs.map ddPr)]) (.tuple [.str "copy", .int lot, .int x]) = (PyData.eqv (.str "mark") (.str "copy") && (PyData.eqv (.int l) (.int lot) && (PyData.eqv (.tuple (cs.map ddPr)) (.int x) && true))) := by simp only [PyData.eqv, PyData.eqvAll]
  unfold FEq
  simp only [t1, t2, s1, s2, e0, e_mc, Bool.false_and, and_self, if_true, Bool.false_eq_true, if_false]
theorem P_lcellsF (hG : GF) (mt : Tr) (cm : cp mt = true) (km : kid .lnt mt = mt) (o : S.Ok) (h0 : 0 ≤ x) (h1 : x < 24) {v : Option (Int × Int)} (pl : hG [mt, iT x, bT la] = some (.rt (lvT v) [.any, .any, .any])) (hv : ∀ p, v = some p → p.2 < 30) :
    runF md_law_cells 8 (g_law_cellsF hG) [lgT .lnt S.ls, mt, .nd .lst .lnt (S.hs.map tupT), iT x, bT la] = some (.rt (tupT (cellV S x v)) [.any, .any, .any, .any, .any]) := by
  have a1 := ixN_len (n := 24) (i := x) h0 h1
  have a2 := hs_at o h0 h1
  have l1 : S.hs.length = 24 := o.h
  have l2 : S.ls.length = 30 := o.l
  rw [← List.length_map (f := tupT)] at l1
  rw [← List.length_map (f := slT)] at l2
  have l2' := o.l
  simp only [cellV, lgT]
  generalize S.hs.map tupT = t1 at *
  cases v with
  | none =>
    simp only [lvT] at pl
    generalize S.ls.map slT = t2 at *
    simp! [g_law_cellsF, pl, a1, a2, l1, cm, km]
  | some p =>
    obtain ⟨lot, s⟩ := p
    have q2 : s < 30 := hv _ rfl
    simp only [lvT] at pl
    by_cases q1 : 0 ≤ s
    · simp only [q1, q2, and_self, if_true]
      have b1 := ixN_len (n := 30) (i := s) q1 q2
      have b2 := slT_at q1 q2 l2'
      generalize S.ls.map slT = t2 at *
      cases hq : oAt S.ls s with
      | none =>
        rw [hq] at b2
        simp only [slT] at b2
        simp! [g_law_cellsF, pl, l2, q1, q2, b1, b2, cellO, z8, cm, km]
      | some r =>
        rw [hq] at b2
        cases r with
        | mk l9 cs rs =>
          have c0 := cpL_prT cs
          have k0 := fun o => kidL_prT o cs
          have f0 := fun {o o' o2} => @feq_mk o o' o2 l9 lot x cs
          have s3 := fun {Γ s} => @sl3 Γ s (.a (.str "mark")) (iT l9) (.nd .tup .own (cs.map prT)) (tupT rs) (by simp [cpL, cp, c0]) (by simp [kidL, kid, k0, kidL_iT])
          simp only [slT, rcT] at b2
          generalize cs.map prT = ct at *
          simp! [g_law_cellsF, pl, l2, q1, q2, b1, b2, cellO, z8, c0, k0, f0, s3, cm, km, gNoP, chkInt]
        | cp l3 b c =>
          have f0 := fun {o o' l3 b} => @feq_cp o o' l3 b lot x
          have s3 := fun {Γ s} {l3 b : Int} => @sl3 Γ s (.a (.str "copy")) (iT l3) (iT b) (tupT c) (by simp [cpL, cp]) (by simp [kidL, kid, kidL_iT])
          simp only [slT, rcT] at b2
          by_cases q3 : l3 = lot
          · by_cases q4 : b = x
            · simp only [cellO, q3, q4, and_self, if_true]
              simp! [g_law_cellsF, pl, l2, q1, q2, b1, b2, q3, q4, f0, s3, cm, km, gNoP, chkInt]
            · simp only [cellO, q3, q4, and_false, if_false]
              simp! [g_law_cellsF, pl, l2, q1, q2, b1, b2, q3, q4, z8, f0, s3, cm, km, gNoP, chkInt]
          · simp only [cellO, q3, false_and, if_false]
            simp! [g_law_cellsF, pl, l2, q1, q2, b1, b2, q3, z8, f0, s3, cm, km, gNoP, chkInt]
    · simp only [q1, false_and, if_false]
      generalize S.ls.map slT = t2 at *
      simp! [g_law_cellsF, pl, l2, q1, z8, cm, km]
end
/-! what a write to another slot leaves as it is -/
section
variable {x n : Int} {la : Bool} {ms : List (Nat × Rc)} {S : Sb} {ls : List (Option Rc)}
theorem live_from : ∀ (ms : List (Nat × Rc)) {v : Option (Int × Int)} {p : Int × Int}, ms.foldl (fun v p => stpV la x v p.2) v = some p → v = some p ∨ ∃ m ∈ ms, p.1 = lotR m.2 ∧ ∃ q ∈ csR m.2, q.1 = x ∧ q.2 = p.2
  | [], v, p, h => .inl h
  | m :: ms, v, p, h => by
    have hl : ∀ (cs : List (Int × Int)) (v : Option (Int × Int)) (p : Int × Int) (lot : Int), lastP x lot cs v = some p → v = some p ∨ (p.1 = lot ∧ ∃ q ∈ cs, q.1 = x ∧ q.2 = p.2) := by
      intro cs
      induction cs with
      | nil => exact fun v p lot h => .inl h
      | cons c cs ih =>
        intro v p lot h
        have h2 : lastP x lot cs (if c.1 = x then some (lot, c.2) else v) = some p := h
        rcases ih _ _ _ h2 with q | ⟨q1, q, hq, q2, q3⟩
        · split at q
          · rename_i hc
            cases q
            exact .inr ⟨rfl, c, List.mem_cons_self, hc, rfl⟩
          · exact .inl q
        · exact .inr ⟨q1, q, List.mem_cons_of_mem _ hq, q2, q3⟩
    rcases live_from ms h with q | ⟨m', hm', q⟩
    · have q : stpV la x v m.2 = some p := q
      unfold stpV at q
      split at q
      · cases q
      · rcases hl _ _ _ _ q with q | ⟨q1, q2⟩
        · split at q
          · cases q
          · exact .inl q
        · exact .inr ⟨m, List.mem_cons_self, q1, q2⟩
    · exact .inr ⟨m', List.mem_cons_of_mem _ hm', q⟩
theorem live_in_ms {p : Int × Int} (h : liveF la x ms = some p) : ∃ m ∈ ms, p.1 = lotR m.2 ∧ ∃ q ∈ csR m.2, q.1 = x ∧ q.2 = p.2 := by
  rcases live_from ms h with q | q
  · cases q
  · exact q
theorem fmA_set : ∀ (ls : List (Option Rc)) (i s : Nat) {l y : Int} {c : List Int}, (∀ p, fmA n i ls = some p → p.1 ≠ i + s) → fmA n i (ls.set s (some (.cp l y c))) = fmA n i ls
  | [], i, s, _, _, _, _ => by rw [List.set_nil]
  | o :: t, i, 0, l, y, c, h => by
    rw [List.set_cons_zero]
    have e : fmA n i (some (Rc.cp l y c) :: t) = fmA n (i + 1) t := by
      simp only [fmA, isM, Bool.false_eq_true, if_false]
    rw [e]
    cases o with
    | none => simp only [fmA]
    | some r =>
      by_cases q : isM n (some r) = true
      · exact absurd rfl (h (i, r) (by simp only [fmA, q, if_true]))
      · simp only [fmA, q, Bool.false_eq_true, if_false]
  | none :: t, i, s + 1, l, y, c, h => by
    rw [List.set_cons_succ]
    simp only [fmA] at h ⊢
    exact fmA_set t (i + 1) s fun p hp => by have := h p hp; omega
  | some r :: t, i, s + 1, l, y, c, h => by
    rw [List.set_cons_succ]
    by_cases q : isM n (some r) = true
    · simp only [fmA, q, if_true]
    · simp only [fmA, q, Bool.false_eq_true, if_false] at h ⊢
      exact fmA_set t (i + 1) s fun p hp => by have := h p hp; omega
theorem fms_set {s : Nat} {l y : Int} {c : List Int} : ∀ (f : Nat) (n : Int), (∀ p ∈ fms f ls n, p.1 ≠ s) → fms f (ls.set s (some (.cp l y c))) n = fms f ls n
  | 0, _, _ => rfl
  | f + 1, n, h => by
    have e : fmk (ls.set s (some (.cp l y c))) n = fmk ls n := fmA_set ls 0 s fun p hp => by
      have := h p (by
        unfold fms
        rw [show fmk ls n = some p from hp]
        exact List.mem_cons_self)
      omega
    unfold fms
    rw [e]
    cases hq : fmk ls n with
    | none => rfl
    | some p =>
      have := fms_set (s := s) (l := l) (y := y) (c := c) f (n + 1) fun p' hp' => h p' (by
        unfold fms
        rw [hq]
        exact List.mem_cons_of_mem _ hp')
      simp only [this]
theorem oAt_set_ne {s a : Int} {r : Option Rc} (h0 : 0 ≤ s) (a0 : 0 ≤ a) (h : s ≠ a) : oAt (ls.set a.toNat r) s = oAt ls s := by
  unfold oAt
  rw [List.getD_eq_getElem?_getD, List.getD_eq_getElem?_getD, List.getElem?_set_ne (by omega)]
theorem oAt_set_eq {a : Int} {r : Option Rc} (h0 : 0 ≤ a) (h1 : a < ls.length) : oAt (ls.set a.toNat r) a = r := by
  unfold oAt
  rw [List.getD_eq_getElem?_getD, List.getElem?_set_self (by omega)]
  rfl
theorem mem_srtX {ns : List Int} {y : Int} : y ∈ srtX ns ↔ y ∈ ns := by
  unfold srtX
  rw [(sortI_perm _).mem_iff]
  exact mem_ddp
theorem mem_slots {y : Int} : y ∈ srtX (slotsF la ms) ↔ (∃ p ∈ ms, ((p.1 : Nat) : Int) = y) ∨ ∃ x, 0 ≤ x ∧ x < 24 ∧ ∃ lot, liveF la x ms = some (lot, y) ∧ 0 ≤ y := by
  rw [mem_srtX, slotsF, List.mem_append, List.mem_map, List.mem_filterMap]
  refine or_congr Iff.rfl ⟨?_, ?_⟩
  · rintro ⟨x, hx, h⟩
    obtain ⟨k, hk, rfl⟩ := List.mem_map.mp hx
    have := List.mem_range.mp hk
    refine ⟨0 + (k : Int), by omega, by omega, ?_⟩
    unfold lsl at h
    split at h
    · rename_i p hp
      split at h
      · cases h
        exact ⟨p.1, hp, by assumption⟩
      · cases h
    · cases h
  · rintro ⟨x, x0, x1, lot, h, hy⟩
    refine ⟨x, List.mem_map.mpr ⟨x.toNat, List.mem_range.mpr (by omega), by omega⟩, ?_⟩
    unfold lsl
    rw [h]
    simp [hy]
/-- a write to a slot that is not read changes nothing that is read -/
theorem other_same {a : Int} {l y : Int} {c : List Int} {f : Nat} {hd : Int} (a0 : 0 ≤ a) (h : a ∉ srtX (slotsF la (fms f S.ls hd))) :
    fms f (S.lp a (.cp l y c)).ls hd = fms f S.ls hd ∧ ∀ x, 0 ≤ x → x < 24 → cellsF (S.lp a (.cp l y c)) la x (fms f S.ls hd) = cellsF S la x (fms f S.ls hd) := by
  have h' := fun q => h (mem_slots.mpr q)
  refine ⟨fms_set f hd fun p hp e => h' (.inl ⟨p, hp, by omega⟩), fun x x0 x1 => ?_⟩
  rw [cellsF_V, cellsF_V]
  cases hv : liveF la x (fms f S.ls hd) with
  | none => rfl
  | some p =>
    simp only [cellV]
    by_cases q : 0 ≤ p.2 ∧ p.2 < 30
    · rw [if_pos q, if_pos q]
      unfold Sb.lp
      rw [oAt_set_ne q.1 a0 fun e => h' (.inr ⟨x, x0, x1, p.1, by rw [hv, ← e], a0⟩)]
    · rw [if_neg q, if_neg q]
theorem told_same {a : Int} {l y : Int} {c : List Int} {f : Nat} {hd : Int} (a0 : 0 ≤ a) (h : ∀ p ∈ fms f S.ls hd, ((p.1 : Nat) : Int) ≠ a) : fms f (S.lp a (.cp l y c)).ls hd = fms f S.ls hd :=
  fms_set f hd fun p hp e => h p hp (by omega)
theorem told_cells {a lot : Int} {c : List Int} {ms : List (Nat × Rc)} (o : S.Ok) (a0 : 0 ≤ a) (a1 : a < 30) (h : liveF la x ms = some (lot, a)) : cellsF (S.lp a (.cp lot x c)) la x ms = c := by
  rw [cellsF_V, h]
  simp only [cellV, a0, a1, and_self, if_true]
  unfold Sb.lp
  rw [oAt_set_eq a0 (by rw [o.l]; omega)]
  simp [cellO]
structure MsB (ms : List (Nat × Rc)) : Prop where
  ok : MsOk ms
  n : ms.length ≤ 30
  rc : ∀ p ∈ ms, RcOk p.2
  s : ∀ p ∈ ms, p.1 < 30
  nd : (ms.map fun p => ((p.1 : Nat) : Int)).Nodup
theorem fms_B {H : List (List Int)} (k : LgOk S H) (f : Nat) (n : Int) : MsB (fms f S.ls n) := by
  have at_ : ∀ p ∈ fms f S.ls n, S.ls[p.1]? = some (some p.2) := fun p hp => by
    obtain ⟨i, hi, e⟩ := List.getElem_of_mem hp
    obtain ⟨j, r⟩ := p
    exact (fmk_some (fms_at (List.getElem?_eq_some_iff.mpr ⟨hi, e⟩))).1
  refine ⟨fms_mk f S.ls n, fms_len f n (by rw [k.o.l]; decide), fun p hp => k.rc _ (List.mem_of_getElem? (at_ p hp)), fun p hp => ?_, fms_nodup f n⟩
  have := (List.getElem?_eq_some_iff.mp (at_ p hp)).1
  rw [k.o.l] at this
  exact this
theorem MsB.live (b : MsB ms) {p : Int × Int} (h : liveF la x ms = some p) : 1 ≤ p.1 ∧ p.1 ≤ 999999 ∧ -1 ≤ p.2 ∧ p.2 < 30 := by
  obtain ⟨m, hm, e, q, hq, _, e2⟩ := live_in_ms h
  have ok := b.rc m hm
  obtain ⟨lot, cs, rs, er⟩ := b.ok m hm
  rw [er] at ok e hq
  have hq : q ∈ cs := hq
  have e : p.1 = lot := e
  obtain ⟨l0, l1, _, _, hs, _⟩ := ok
  have := hs q hq
  omega
end
/-! all cells, told by the program and by the law (bodies F printed by absf.py) -/
noncomputable def e_law_all_cells_1F (h1 : GF) : GE := (gSeq (gSeq (gVar 0) (gSeq (gVar 2) (gSeq (gVar 3) gNil))) (gSeq (gSeq (gVar 1) gNil) (noEx (gCall [] md_cells_after h1 4))))
theorem e_law_all_cells_1_F : e_law_all_cells_1 = e_law_all_cells_1F G_cells_after := rfl
noncomputable def e_law_other_slots_1F (h1 : GF) : GE := (gSeq (gSeq (gVar 1) (gSeq (gVar 5) (gSeq (gVar 3) (gSeq (gVar 8) (gSeq (gVar 4) gNil))))) (gCall [] md_law_cells h1 5))
theorem e_law_other_slots_1_F : e_law_other_slots_1 = e_law_other_slots_1F G_law_cells := rfl
noncomputable def e_law_3F (h1 : GF) : GE := (gSeq (gSeq (gVar 6) (gSeq (gVar 9) (gSeq (gVar 4) (gSeq (gVar 5) (gSeq (gVar 10) gNil))))) (gCall [] md_law_cells h1 5))
theorem e_law_3_F : e_law_3 = e_law_3F G_law_cells := rfl
section
variable {x h l : Int} {la : Bool} {ms : List (Nat × Rc)} {S : Sb} {ws : List Wt}
theorem P_lcells (o : S.Ok) (b : MsB ms) (h0 : 0 ≤ x) (h1 : x < 24) : G_law_cells [lgT .lnt S.ls, msT .lnt ms, .nd .lst .lnt (S.hs.map tupT), iT x, bT la] = some (.rt (tupT (cellsF S la x ms)) [.any, .any, .any, .any, .any]) := by
  unfold G_law_cells
  rw [g_law_cells_F, cellsF_V]
  exact P_lcellsF G_law_live (msT .lnt ms) rfl rfl o h0 h1 (P_llive b.ok (by have := b.n; omega)) fun p hp => (b.live hp).2.2.2
noncomputable def flC (S : Sb) (h l : Int) (ws : List Wt) (la : Bool) (ms : List (Nat × Rc)) (x : Int) : Ow :=
  open Classical in if q : ∃ f, (f = .own ∨ f = .frz) ∧ G_cells_after [dkT .lnt S h l ws, msT .lnt ms, iT x, bT la] = some (.rt (rzT f (cellsF S la x ms)) [.any, .any, .any, .any]) then Classical.choose q else .own
theorem flC_ok : flC S h l ws la ms x = .own ∨ flC S h l ws la ms x = .frz := by
  unfold flC
  split
  · rename_i q
    exact (Classical.choose_spec q).1
  · exact .inl rfl
theorem P_cells2 (o : S.Ok) (b : MsB ms) (h0 : 0 ≤ x) (h1 : x < 24) : G_cells_after [dkT .lnt S h l ws, msT .lnt ms, iT x, bT la] = some (.rt (rzT (flC S h l ws la ms x) (cellsF S la x ms)) [.any, .any, .any, .any]) := by
  have q := P_cellsA (S := S) (h := h) (l := l) (ws := ws) (la := la) (ms := ms) o b.ok (by have := b.n; omega) h0 h1
  have e : flC S h l ws la ms x = Classical.choose q := by
    unfold flC
    rw [dif_pos q]
  rw [e]
  exact (Classical.choose_spec q).2
theorem esc_rz {f : Ow} (hf : f = .own ∨ f = .frz) (r : List Int) : esc (rzT f r) = true := by
  rcases hf with rfl | rfl
  · simp [esc]
  · rfl
theorem allc_comp (hG : GF) (dk : List Tr) (mt : List Tr) (F : Int → Tr) (hF : ∀ x, esc (F x) = true) (pc : ∀ x, 0 ≤ x → x < 24 → hG [.nd (.ins 0 6) .lnt dk, .nd .lst .lnt mt, iT x, bT la] = some (.rt (F x) [.any, .any, .any, .any])) :
    gLcR1 [3] (gSeq (gC (.int 24)) gNil) (bind md_law_all_cells 3) (gC (.bl true)) (e_law_all_cells_1F hG) ⟨[.tr (.nd (.ins 0 6) .lnt dk), .tr (bT la), .tr (.nd .lst .own mt), .no], []⟩ = some (.ok ⟨[.tr (.nd (.ins 0 6) .lnt dk), .tr (bT la), .tr (.nd .lst .own mt), .no], [.tr (.nd .lst .own ((rng 0 24).map F))]⟩) := by
  have h := gLcR1P (ga := gSeq (gC (.int 24)) gNil) (md := md_law_all_cells) (k := 3) (gt := gC (.bl true)) (ge := e_law_all_cells_1F hG) (Γ := [.tr (.nd (.ins 0 6) .lnt dk), .tr (bT la), .tr (.nd .lst .own mt), .no]) (s := []) (j := 24) (by simp! []) (by decide) (by decide) rfl (by rfl) (by simp! []) rfl (fun _ => true) F (fun y s' y0 y1 => by rfl) (fun y s' y0 y1 _ => ⟨by
    have p := pc y y0 y1
    simp! [e_law_all_cells_1F, p], hF y⟩)
  rw [filt_true] at h
  exact h
theorem P_allcells (k : S.Ok) (b : MsB (fms 40 S.ls (h + 1))) : G_law_all_cells [dkT .lnt S h l ws, bT la] = some (.rt (.nd .lst .own ((rng 0 24).map fun x => rzT (flC S h l ws la (fms 40 S.ls (h + 1)) x) (cellsF S la x (fms 40 S.ls (h + 1))))) [.any, .any]) := by
  have pf := P_found (S := S) (h := h) (l := l) (ws := ws) k.l
  generalize fms 40 S.ls (h + 1) = ms at *
  have hc := allc_comp G_cells_after [plT, .nd .lst .own (S.hs.map tupT), .nd .lst .own (S.ls.map slT), iT h, iT l, .nd (.dct (wsK ws)) .own (ws.map wtT)] (ms.map pmT) (fun x => rzT (flC S h l ws la ms x) (cellsF S la x ms)) (la := la) (fun x => esc_rz flC_ok _) (fun x x0 x1 => P_cells2 k b x0 x1)
  rw [← e_law_all_cells_1_F] at hc
  have es : escL ((rng 0 24).map fun x => rzT (flC S h l ws la ms x) (cellsF S la x ms)) = true := by
    rw [escL_all]
    intro t ht
    obtain ⟨y, _, rfl⟩ := List.mem_map.mp ht
    exact esc_rz flC_ok _
  have es2 : escL (ms.map pmT) = true := by
    rw [escL_all]
    intro t ht
    obtain ⟨p, _, rfl⟩ := List.mem_map.mp ht
    simp [esc, escL, esc_rcT]
  generalize ((rng 0 24).map fun x => rzT (flC S h l ws la ms x) (cellsF S la x ms)) = ct at *
  have s1 : sSet md_law_all_cells 2 (gSeq (gSeq (gVar 0) gNil) (gCall [] md_found_marks G_found_marks 1)) ⟨[.tr (dkT .lnt S h l ws), .tr (bT la), .no, .no], []⟩ = some (.nx ⟨[.tr (dkT .lnt S h l ws), .tr (bT la), .tr (msT .own ms), .no], []⟩) := by
    clear hc
    simp only [dkT, msT] at *
    generalize G_found_marks = gf at *
    generalize ms.map pmT = mt at *
    generalize wsK ws = t3 at *
    generalize ws.map wtT = t4 at *
    generalize S.hs.map tupT = t1 at *
    generalize S.ls.map slT = t2 at *
    simp! [pf, es2]
  have all : g_law_all_cells ⟨[.tr (dkT .lnt S h l ws), .tr (bT la), .no, .no], []⟩ = some (.rt (.nd .lst .own ct) ⟨[.tr (dkT .lnt S h l ws), .tr (bT la), .tr (msT .own ms), .no], []⟩) := by
    unfold g_law_all_cells
    rw [sSeq_e, s1, bS_nx]
    unfold sRet
    rw [hc]
  refine (run_rt (md := md_law_all_cells) (N := 4) (g := g_law_all_cells) (ts := [dkT .lnt S h l ws, bT la]) all).trans ?_
  generalize (Ent.tr (dkT .lnt S h l ws)) = a
  generalize (Ent.tr (msT .own ms)) = c
  simp! [es]
end
/-! the slots that are not read (bodies F printed by absf.py and partsf.py) -/
noncomputable def b_law_other_slots_2F (h1 h2 : GF) : GS := (sIf (gSeq (gSeq (gVar 12) (gVar 6)) fNotInA) (sSeq (sAsg (gSeq (gSeq (gVar 9) (gSeq (gSeq (gSeq (gSeq (gVar 12) gNil) fInt) (gSeq (gSeq (gVar 9) gNil) fLen)) fMod)) fIxA) (unpk md_law_other_slots [13, 14]))
    (sSeq (sExpr (gSeq (gSeq (gVar 0) (gSeq (gVar 1) (gSeq (gVar 12) (gSeq (gSeq (gSeq (gC (.str "copy")) (gSeq (gSeq (gVar 13) (fMv md_law_other_slots)) (gSeq (gSeq (gVar 14) (fMv md_law_other_slots)) (gSeq (gSeq (gSeq (gSeq (gSeq (gVar 12) (gC (.int 1))) fAdd) (gSeq (gC (.int 555)) (gSeq (gC (.int 0)) (gSeq (gC (.int 0)) (gSeq (gC (.int 0)) (gSeq (gC (.int 0)) (gSeq (gC (.int 0)) (gSeq (gC (.int 7)) gNil)))))))) (fNew .tup 8)) gNil)))) (fNew .tup 4)) gNil)))) (gCall [0, 1] md_law_put h1 4)))
    (sIf (gSeq (gSeq (gSeq (gSeq (gVar 0) (gSeq (gVar 4) gNil)) (gCall [] md_law_all_cells h2 2)) (gVar 7)) fNe) (sRet (gC (.bl false))) sNil))) sNil)
theorem b_law_other_slots_2_F : b_law_other_slots_2 = b_law_other_slots_2F G_law_put G_law_all_cells := rfl
noncomputable def lo1 (h1 : GF) (z : GS) : GS := (sSeq (sSet md_law_other_slots 5 (gSeq (gSeq (gVar 1) (gSeq (gVar 2) gNil)) (gCall [] md_law_marks h1 2)))
    z)
noncomputable def lo2 (h1 : GF) (z : GS) : GS := (sSeq (sSet md_law_other_slots 6 (gSeq (gSeq (gVar 5) (gSeq (gVar 4) gNil)) (gCall [] md_law_slots h1 2)))
    z)
noncomputable def lo3 (z : GS) : GS := (sSeq (sSet md_law_other_slots 7 (gLcR1 [8] (gSeq (gC (.int 24)) gNil) (bind md_law_other_slots 8) (gC (.bl true)) e_law_other_slots_1))
    z)
noncomputable def lo4 (z : GS) : GS := (sSeq (sSet md_law_other_slots 9 (gSeq gNil (fNew .lst 0)))
    z)
noncomputable def lo5 (z : GS) : GS := (sSeq (sFor (gVar 5) (bind md_law_other_slots 10) b_law_other_slots_1)
    z)
noncomputable def lo6 (z : GS) : GS := (sSeq (sExpr (gSeq (gVar 9) (gSeq chkL (gSeq (gSeq (gSeq (gSeq (gSeq (gSeq (gVar 2) (gC (.int 1))) fAdd) (gSeq (gC (.int 10)) gNil)) (fNew .tup 2)) gNil) fApp))))
    z)
noncomputable def lo7 (z : GS) : GS := (sSeq (sForR1 (gSeq (gC (.int 30)) gNil) (bind md_law_other_slots 12) b_law_other_slots_2)
    z)
noncomputable def lo8 (h1 h2 : GF) : GS := (sRet (gSeq (gSeq (gSeq (gSeq (gVar 0) gNil) (gSeq (gSeq (gVar 4) gNil) (noEx (gCall [] md_slots_read h1 2)))) (gSeq (gVar 6) gNil)) (gCall [] md_law_same h2 2)))
theorem e_g_law_other_slots : g_law_other_slots = lo1 G_law_marks (lo2 G_law_slots (lo3 (lo4 (lo5 (lo6 (lo7 (lo8 G_slots_read G_law_same))))))) := rfl
section
variable {x hd l : Int} {la : Bool} {ms : List (Nat × Rc)} {S : Sb} {H : List (List Int)}
theorem feq_cells {o o' : Ow} (f : Int → Ow) (D : Int → List Int) : FEq true (.nd .lst o ((rng 0 24).map fun x => rzT (f x) (D x))) (.nd .lst o' ((rng 0 24).map fun x => tupT (D x))) = some (.bl false) := by
  have t1 : toD (.nd .lst o ((rng 0 24).map fun x => rzT (f x) (D x))) = some (.list (((rng 0 24).map D).map fun r => .tuple (r.map .int))) := by
    rw [toD, toDL_map (dd := fun x => .tuple ((D x).map .int)) fun x => toD_tup (o := f x) (D x), List.map_map]
    rfl
  have t2 : toD (.nd .lst o' ((rng 0 24).map fun x => tupT (D x))) = some (.list (((rng 0 24).map D).map fun r => .tuple (r.map .int))) := by
    rw [toD, toDL_map (dd := fun x => .tuple ((D x).map .int)) fun x => toD_tup (o := .own) (D x), List.map_map]
    rfl
  have := feq_of (neg := true) (dd_list (dd_tup dd_int)) (by decide) t1 t2
  rw [this]
  simp
def NmOk (N : List (Int × Int)) : Prop := ∀ q ∈ N, 1 ≤ q.1 ∧ q.1 ≤ 999999 ∧ 0 ≤ q.2 ∧ q.2 < 24
theorem rowOk {x lot b : Int} (x0 : 0 ≤ x) (x1 : x < 30) (l0 : 1 ≤ lot) (l1 : lot ≤ 999999) (b0 : 0 ≤ b) (b1 : b < 24) : RcOk (.cp lot b [x + 1, 555, 0, 0, 0, 0, 0, 7]) :=
  ⟨l0, l1, b0, b1, rfl, fun i hi => by simp at hi; omega⟩
theorem os_no (h1 h2 : GF) {T : List Int} {N : List (Int × Int)} (dk lg hm mt du : Tr) {e10 e13 e14 : Ent} (hx : x ∈ T) : b_law_other_slots_2F h1 h2 ⟨[.tr dk, .tr lg, .tr (iT hd), .tr hm, .tr (bT la), .tr mt, .tr (rowT T), .tr du, .no, .tr (.nd .lst .own (N.map prT)), e10, .no, .tr (iT x), e13, e14], []⟩ = some (.nx ⟨[.tr dk, .tr lg, .tr (iT hd), .tr hm, .tr (bT la), .tr mt, .tr (rowT T), .tr du, .no, .tr (.nd .lst .own (N.map prT)), e10, .no, .tr (iT x), e13, e14], []⟩) := by
  generalize N.map prT = nt
  simp! [b_law_other_slots_2F, hx]
theorem os_yes (h1 h2 : GF) {T : List Int} {N : List (Int × Int)} {q : Int × Int} (dk dk' lg lg' : List Tr) (hm mt : Tr) (du cs : List Tr) {e10 e13 e14 : Ent} (hx : x ∉ T) (hN : N ≠ []) (hl : N.length < 100000) (x0 : 0 ≤ x) (hq : N[(x % N.length).toNat]? = some q)
    (p1 : h1 [.nd (.ins 0 6) .own dk, .nd .lst .own lg, iT x, rcT (.cp q.1 q.2 [x + 1, 555, 0, 0, 0, 0, 0, 7])] = some (.rt (.a .non) [.nd (.ins 0 6) .own dk', .nd .lst .own lg', .any, .any]))
    (p2 : h2 [.nd (.ins 0 6) .lnt dk', bT la] = some (.rt (.nd .lst .own cs) [.any, .any])) (p3 : FEq true (.nd .lst .own cs) (.nd .lst .own du) = some (.bl false)) (n10 : Nal e10) (n13 : Nal e13) (n14 : Nal e14) :
    b_law_other_slots_2F h1 h2 ⟨[.tr (.nd (.ins 0 6) .own dk), .tr (.nd .lst .own lg), .tr (iT hd), .tr hm, .tr (bT la), .tr mt, .tr (rowT T), .tr (.nd .lst .own du), .no, .tr (.nd .lst .own (N.map prT)), e10, .no, .tr (iT x), e13, e14], []⟩ = some (.nx ⟨[.tr (.nd (.ins 0 6) .own dk'), .tr (.nd .lst .own lg'), .tr (iT hd), .tr hm, .tr (bT la), .tr mt, .tr (rowT T), .tr (.nd .lst .own du), .no, .tr (.nd .lst .own (N.map prT)), e10, .no, .tr (iT x), .tr (iT q.1), .tr (iT q.2)], []⟩) := by
  have hpos : 0 < (N.length : Int) := by
    have := List.length_pos_iff.mpr hN
    omega
  have m0 : 0 ≤ x % N.length := Int.emod_nonneg _ (by omega)
  have m1 : x % N.length < N.length := Int.emod_lt_of_pos _ hpos
  have a1 := ixN_len m0 m1
  have a2 : (N.map prT)[(x % N.length).toNat]? = some (prT q) := by rw [List.getElem?_map, hq]; rfl
  have l1 : N.length = (N.map prT).length := by rw [List.length_map]
  have hp2 : 0 < N.length := by omega
  rw [l1] at a1 a2 hp2
  simp only [rcT, tupT, List.map_cons, List.map_nil] at p1
  generalize N.map prT = nt at *
  simp! [b_law_other_slots_2F, hx, hp2, a1, a2, p1, p2, p3, n10.kr, n10.ke, n10.kj, n13.kr, n13.ke, n13.kj, n14.kr, n14.ke, n14.kj]
end
/-! the slots that are not read: the loops -/
section
variable {x hd l : Int} {la : Bool} {ms : List (Nat × Rc)} {S : Sb} {H : List (List Int)}
abbrev gOs (dk lg : Tr) (hd : Int) (hm : Tr) (la : Bool) (mt : Tr) (T : List Int) (du nt : Tr) (e10 e12 e13 e14 : Ent) : Ms := ⟨[.tr dk, .tr lg, .tr (iT hd), .tr hm, .tr (bT la), .tr mt, .tr (rowT T), .tr du, .no, .tr nt, e10, .no, e12, e13, e14], []⟩
theorem os_loop {D : Int → List Int} {T : List Int} {N : List (Int × Int)} (hm mt : Tr) (hT : T = srtX (slotsF la ms)) (hN : NmOk N) (hN0 : N ≠ []) (hNl : N.length < 100000) (k : LgOk S H) (hf : fms 40 S.ls (hd + 1) = ms) (hD : ∀ x, 0 ≤ x → x < 24 → cellsF S la x ms = D x) {e10 : Ent} (n10 : Nal e10) :
    ∃ S' l' e12 e13 e14, LgOk S' H ∧ fms 40 S'.ls (hd + 1) = ms ∧ Nal e12 ∧ Nal e13 ∧ Nal e14 ∧ loopR (bind md_law_other_slots 12) b_law_other_slots_2 0 30 0 (gOs (dkT .own S hd l []) (lgT .own S.ls) hd hm la mt T (.nd .lst .own ((rng 0 24).map fun x => tupT (D x))) (.nd .lst .own (N.map prT)) e10 .no .no .no) = some (.nx (gOs (dkT .own S' hd l' []) (lgT .own S'.ls) hd hm la mt T (.nd .lst .own ((rng 0 24).map fun x => tupT (D x))) (.nd .lst .own (N.map prT)) e10 e12 e13 e14)) := by
  obtain ⟨m1, q1, S', l', e12, e13, e14, n12, n13, n14, k', hf', hD', rfl⟩ := loopR_nx (bd := bind md_law_other_slots 12) (gs := b_law_other_slots_2) (lo := 0) (n := 30)
    (fun i m => ∃ S l e12 e13 e14, Nal e12 ∧ Nal e13 ∧ Nal e14 ∧ LgOk S H ∧ fms 40 S.ls (hd + 1) = ms ∧ (∀ x, 0 ≤ x → x < 24 → cellsF S la x ms = D x) ∧ m = gOs (dkT .own S hd l []) (lgT .own S.ls) hd hm la mt T (.nd .lst .own ((rng 0 24).map fun x => tupT (D x))) (.nd .lst .own (N.map prT)) e10 e12 e13 e14)
    (m := gOs (dkT .own S hd l []) (lgT .own S.ls) hd hm la mt T (.nd .lst .own ((rng 0 24).map fun x => tupT (D x))) (.nd .lst .own (N.map prT)) e10 .no .no .no) ⟨S, l, .no, .no, .no, nal_no, nal_no, nal_no, k, hf, hD, rfl⟩
    (by
      rintro i m hi ⟨S, l, e12, e13, e14, n12, n13, n14, k, hf, hD, rfl⟩
      have hb : bind md_law_other_slots 12 ⟨(gOs (dkT .own S hd l []) (lgT .own S.ls) hd hm la mt T (.nd .lst .own ((rng 0 24).map fun x => tupT (D x))) (.nd .lst .own (N.map prT)) e10 e12 e13 e14).g, [.tr (.a (.int ((0 : Int) + i)))]⟩ = some (gOs (dkT .own S hd l []) (lgT .own S.ls) hd hm la mt T (.nd .lst .own ((rng 0 24).map fun x => tupT (D x))) (.nd .lst .own (N.map prT)) e10 (.tr (iT ((0 : Int) + i))) e13 e14) := by
        simp only [gOs]
        generalize dkT .own S hd l [] = dk
        generalize lgT .own S.ls = lg
        generalize (Tr.nd .lst .own ((rng 0 24).map fun x => tupT (D x))) = du
        generalize (Tr.nd .lst .own (N.map prT)) = nt
        simp! [n10.kr, n12.kr, n13.kr, n14.kr]
      generalize hx : (0 : Int) + i = x at *
      have x0 : 0 ≤ x := by omega
      have x1 : x < 30 := by omega
      by_cases hxT : x ∈ T
      · have h := os_no (x := x) (hd := hd) (la := la) (T := T) (N := N) G_law_put G_law_all_cells (dkT .own S hd l []) (lgT .own S.ls) hm mt (.nd .lst .own ((rng 0 24).map fun x => tupT (D x))) (e10 := e10) (e13 := e13) (e14 := e14) hxT
        rw [← b_law_other_slots_2_F] at h
        exact ⟨_, _, hb, h, S, l, .tr (iT x), e13, e14, nal_tr, n13, n14, k, hf, hD, rfl⟩
      · have hpos : 0 < (N.length : Int) := by
          have := List.length_pos_iff.mpr hN0
          omega
        have m0 : 0 ≤ x % N.length := Int.emod_nonneg _ (by omega)
        have m1 : x % N.length < N.length := Int.emod_lt_of_pos _ hpos
        obtain ⟨q, hq⟩ : ∃ q, N[(x % N.length).toNat]? = some q := ⟨_, List.getElem?_eq_getElem (by omega)⟩
        obtain ⟨q0, q1, q2, q3⟩ := hN q (List.mem_of_getElem? hq)
        have ok := rowOk x0 x1 q0 q1 q2 q3
        have sm := other_same (S := S) (la := la) (l := q.1) (y := q.2) (c := [x + 1, 555, 0, 0, 0, 0, 0, 7]) (f := 40) (hd := hd + 1) x0 (by rw [hf, ← hT]; exact hxT)
        rw [hf] at sm
        have k' := k.lp x ok
        have p1 := P_lput (h := hd) (l := l) k.o ok x0 x1
        have bB : MsB (fms 40 (S.lp x (.cp q.1 q.2 [x + 1, 555, 0, 0, 0, 0, 0, 7])).ls (hd + 1)) := fms_B k' 40 (hd + 1)
        have p2 := P_allcells (S := S.lp x (.cp q.1 q.2 [x + 1, 555, 0, 0, 0, 0, 0, 7])) (h := hd) (l := l + 1) (ws := []) (la := la) k'.o bB
        rw [sm.1] at p2
        have hD' : ∀ y, 0 ≤ y → y < 24 → cellsF (S.lp x (.cp q.1 q.2 [x + 1, 555, 0, 0, 0, 0, 0, 7])) la y ms = D y := fun y y0 y1 => (sm.2 y y0 y1).trans (hD y y0 y1)
        have em : ((rng 0 24).map fun y => rzT (flC (S.lp x (.cp q.1 q.2 [x + 1, 555, 0, 0, 0, 0, 0, 7])) hd (l + 1) [] la ms y) (cellsF (S.lp x (.cp q.1 q.2 [x + 1, 555, 0, 0, 0, 0, 0, 7])) la y ms)) = (rng 0 24).map fun y => rzT (flC (S.lp x (.cp q.1 q.2 [x + 1, 555, 0, 0, 0, 0, 0, 7])) hd (l + 1) [] la ms y) (D y) := List.map_congr_left fun y hy => by
          obtain ⟨j, hj, rfl⟩ := List.mem_map.mp hy
          have := List.mem_range.mp hj
          rw [hD' _ (by omega) (by omega)]
        rw [em] at p2
        have p3 := feq_cells (o := .own) (o' := .own) (fun y => flC (S.lp x (.cp q.1 q.2 [x + 1, 555, 0, 0, 0, 0, 0, 7])) hd (l + 1) [] la ms y) D
        have h := os_yes (x := x) (hd := hd) (la := la) (T := T) (N := N) (q := q) G_law_put G_law_all_cells _ _ _ _ hm mt _ _ (e10 := e10) (e13 := e13) (e14 := e14) hxT hN0 hNl x0 hq p1 p2 p3 n10 n13 n14
        rw [← b_law_other_slots_2_F] at h
        exact ⟨_, _, hb, h, S.lp x (.cp q.1 q.2 [x + 1, 555, 0, 0, 0, 0, 0, 7]), l + 1, .tr (iT x), .tr (iT q.1), .tr (iT q.2), nal_tr, nal_tr, nal_tr, k', sm.1, hD', rfl⟩)
  exact ⟨S', l', e12, e13, e14, k', hf', n12, n13, n14, q1⟩
end
/-! the slots that are not read: what is named -/
section
variable {x hd l : Int} {la : Bool} {ms : List (Nat × Rc)} {S : Sb} {H : List (List Int)} {z : GS}
theorem nm_comp {lot : Int} {cs : List (Int × Int)} {rt : List Tr} (i : Int) (dk lg hm mt du nt tt : Tr) (cr : cpL rt = true) (kr : ∀ o, kidL o rt = rt) (hl : cs.length ≤ 24) (st : List Ent) (hst : st.map (killR 11) = st) :
    gLc [11] (gSeq (gSeq (gSeq (gSeq (gVar 10) (gC (.int 1))) fIxA) (gC (.int 2))) fIxA) (bind md_law_other_slots 11) (gC (.bl true)) e_law_other_slots_2 ⟨[.tr dk, .tr lg, .tr (iT hd), .tr hm, .tr (bT la), .tr mt, .tr tt, .tr du, .no, .tr nt, .tr (.nd .tup .own [iT i, .nd .tup .own [.a (.str "mark"), iT lot, .nd .tup .own (cs.map prT), .nd .tup .own rt]]), .no, .no, .no, .no], st⟩ = some (.ok ⟨[.tr dk, .tr lg, .tr (iT hd), .tr hm, .tr (bT la), .tr mt, .tr tt, .tr du, .no, .tr nt, .tr (.nd .tup .own [iT i, .nd .tup .own [.a (.str "mark"), iT lot, .nd .tup .own (cs.map prT), .nd .tup .own rt]]), .no, .no, .no, .no], .tr (.nd .lst .own (cs.map fun q => prT (lot, q.1))) :: st⟩) := by
  have c0 := cpL_prT cs
  have k0 := fun o => kidL_prT o cs
  have h := gLcP_is (gs := gSeq (gSeq (gSeq (gSeq (gVar 10) (gC (.int 1))) fIxA) (gC (.int 2))) fIxA) (md := md_law_other_slots) (k := 11) (gt := gC (.bl true)) (ge := e_law_other_slots_2) (Γ := [.tr dk, .tr lg, .tr (iT hd), .tr hm, .tr (bT la), .tr mt, .tr tt, .tr du, .no, .tr nt, .tr (.nd .tup .own [iT i, .nd .tup .own [.a (.str "mark"), iT lot, .nd .tup .own (cs.map prT), .nd .tup .own rt]]), .no, .no, .no, .no]) (s := st) (xs := cs) (enc := prT) (.tr (.nd .tup .own (cs.map prT))) (.tr (.nd .tup .own (cs.map prT))) .tup .own (by simp! [c0, k0, cr, kr]) (by simp! [c0, k0]) (by rfl) (by simp! [c0]) (by omega) rfl (by rfl) (by simp! []) hst rfl (fun x hx => rfl) (fun _ => true) (fun q => prT (lot, q.1))
    (fun x hx s' => by simp! []) (fun x hx s' _ => ⟨by simp! [e_law_other_slots_2, c0, k0, cr, kr], rfl⟩)
  rw [filt_true] at h
  exact h
theorem nm_turn {p : Nat × Rc} {N : List (Int × Int)} (hp : IsMk p.2) (ho : RcOk p.2) (hN : NmOk N) (hl : N.length ≤ 2000) (dk lg hm mt du tt : Tr) : ∃ N', NmOk N' ∧ N'.length ≤ N.length + 24 ∧ b_law_other_slots_1 ⟨[.tr dk, .tr lg, .tr (iT hd), .tr hm, .tr (bT la), .tr mt, .tr tt, .tr du, .no, .tr (.nd .lst .own (N.map prT)), .tr (pmT p), .no, .no, .no, .no], [.al [5]]⟩ = some (.nx ⟨[.tr dk, .tr lg, .tr (iT hd), .tr hm, .tr (bT la), .tr mt, .tr tt, .tr du, .no, .tr (.nd .lst .own (N'.map prT)), .tr (pmT p), .no, .no, .no, .no], [.al [5]]⟩) := by
  obtain ⟨i, r⟩ := p
  obtain ⟨lot, cs, rs, hr⟩ := hp
  have hr : r = .mk lot cs rs := hr
  subst hr
  obtain ⟨l0, l1, _, _, hs, _, c24, _⟩ := ho
  refine ⟨N ++ cs.map fun q => (lot, q.1), fun q hq => ?_, by simp; omega, ?_⟩
  · rcases List.mem_append.mp hq with hq | hq
    · exact hN q hq
    · obtain ⟨c, hc, rfl⟩ := List.mem_map.mp hq
      have := hs c hc
      exact ⟨l0, l1, this.1, this.2.1⟩
  · have c1 : cpL (rs.map iT) = true := cpL_iT rs
    have k1 : ∀ o, kidL o (rs.map iT) = rs.map iT := fun o => by simp [kidL_iT]
    have hc := nm_comp (hd := hd) (la := la) (lot := lot) (cs := cs) (rt := rs.map iT) (i : Nat) dk lg hm mt du (.nd .lst .own (N.map prT)) tt c1 k1 c24 [.al [9], .al [5]] rfl
    have e1 : (N ++ cs.map fun q => (lot, q.1)).map prT = N.map prT ++ cs.map fun q => prT (lot, q.1) := by
      rw [List.map_append, List.map_map]
      rfl
    have es : escL (cs.map fun q => prT (lot, q.1)) = true := by
      rw [escL_all]
      intro t ht
      obtain ⟨q, _, rfl⟩ := List.mem_map.mp ht
      rfl
    have hz : (N.map prT).length + (cs.map fun q => prT (lot, q.1)).length ≤ sizeLine := by rw [List.length_map, List.length_map, sizeLine_eq]; omega
    have km : (cs.map fun q => prT (lot, q.1)).map (kid .own) = cs.map fun q => prT (lot, q.1) := by
      rw [List.map_map]
      exact List.map_congr_left fun q _ => kid_pr _ _
    rw [e1]
    simp only [pmT, rcT] at hc ⊢
    generalize (cs.map fun q => prT (lot, q.1)) = qt at *
    generalize N.map prT = nt at *
    generalize cs.map prT = ct at *
    have hc2 : ∀ {q : GE}, bE (gLc [11] (gSeq (gSeq (gSeq (gSeq (gVar 10) (gC (.int 1))) fIxA) (gC (.int 2))) fIxA) (bind md_law_other_slots 11) (gC (.bl true)) e_law_other_slots_2 ⟨[.tr dk, .tr lg, .tr (iT hd), .tr hm, .tr (bT la), .tr mt, .tr tt, .tr du, .no, .tr (.nd .lst .own nt), .tr (.nd .tup .own [iT (i : Nat), .nd .tup .own [.a (.str "mark"), iT lot, .nd .tup .own ct, .nd .tup .own (rs.map iT)]]), .no, .no, .no, .no], [.al [9], .al [5]]⟩) q = q _ := fun {q} => by rw [hc]; rfl
    simp only [fIxA] at hc hc2
    simp! [b_law_other_slots_1, hc, fExt, es, hz, km]
end
/-! the law's comparison of what is told with what is due -/
def okV : V → Prop
  | .non => True
  | .bl _ => True
  | .int _ => True
  | .str _ => True
  | _ => False
def topOk (k : Nk) (o : Ow) (ts : List Tr) : Prop := (k = .lst ∧ (o = .lnt ∨ o = .frz)) ∨ (k = .tup ∧ o = .own ∧ cpL ts = true)
def Sm : Nat → Tr → Tr → Prop
  | 0, _, _ => False
  | n + 1, t, u => (∃ v, t = .a v ∧ u = .a v ∧ okV v) ∨ ∃ (k : Nk) (o o' : Ow) (ts us : List Tr), topOk k o ts ∧ topOk k o' us ∧ t = .nd k o ts ∧ u = .nd k o' us ∧ ts.length = us.length ∧ us.length ≤ 100000 ∧
      ∀ (j : Nat) (x y : Tr), ts[j]? = some x → us[j]? = some y → cp (kid o x) = true ∧ cp (kid o' y) = true ∧ cp (kid .lnt (kid o x)) = true ∧ cp (kid .lnt (kid o' y)) = true ∧ Sm n (kid .lnt (kid o x)) (kid .lnt (kid o' y))
section
variable {s : List Ent}
theorem varE_top {k : Nk} {o : Ow} {ts : List Tr} {i : Nat} (h : topOk k o ts) : cp (.nd k o ts) = true := by
  rcases h with ⟨rfl, rfl | rfl⟩ | ⟨rfl, rfl, h⟩
  · rfl
  · rfl
  · exact h
theorem same_turn {R : GF} {k : Nk} {o o' : Ow} {ts us : List Tr} {x y : Tr} {i : Int} {j : Nat} (h1 : topOk k o ts) (h2 : topOk k o' us) (a1 : ixN us.length i = some j) (hl : ts.length = us.length) (hx : ts[j]? = some x) (hy : us[j]? = some y) (c1 : cp (kid o x) = true) (c2 : cp (kid o' y) = true) (d1 : cp (kid .lnt (kid o x)) = true) (d2 : cp (kid .lnt (kid o' y)) = true)
    (h : R [kid .lnt (kid o x), kid .lnt (kid o' y)] = some (.rt (bT true) [.any, .any])) : b_law_same_1 R ⟨[.tr (.nd k o ts), .tr (.nd k o' us), .tr (iT i)], []⟩ = some (.nx ⟨[.tr (.nd k o ts), .tr (.nd k o' us), .tr (iT i)], []⟩) := by
  have v1 := varE_top (i := 0) h1
  have v2 := varE_top (i := 0) h2
  have f1 : fIxA ⟨[.tr (.nd k o ts), .tr (.nd k o' us), .tr (iT i)], [.tr (iT i), .tr (.nd k o ts)]⟩ = some (.ok ⟨[.tr (.nd k o ts), .tr (.nd k o' us), .tr (iT i)], [.tr (kid o x)]⟩) := by
    rcases h1 with ⟨rfl, rfl | rfl⟩ | ⟨rfl, rfl, _⟩ <;> simp [fIxA, gOr, fIx, viewE, a1, hl, kidE, hx, c1]
  have f2 : fIxA ⟨[.tr (.nd k o ts), .tr (.nd k o' us), .tr (iT i)], [.tr (iT i), .tr (.nd k o' us), .tr (kid o x)]⟩ = some (.ok ⟨[.tr (.nd k o ts), .tr (.nd k o' us), .tr (iT i)], [.tr (kid o' y), .tr (kid o x)]⟩) := by
    rcases h2 with ⟨rfl, rfl | rfl⟩ | ⟨rfl, rfl, _⟩ <;> simp [fIxA, gOr, fIx, viewE, a1, kidE, hy, c2]
  have g0 : gVar 0 ⟨[.tr (.nd k o ts), .tr (.nd k o' us), .tr (iT i)], []⟩ = some (.ok ⟨[.tr (.nd k o ts), .tr (.nd k o' us), .tr (iT i)], [.tr (.nd k o ts)]⟩) := by simp [gVar, v1]
  have g1 : gVar 1 ⟨[.tr (.nd k o ts), .tr (.nd k o' us), .tr (iT i)], [.tr (kid o x)]⟩ = some (.ok ⟨[.tr (.nd k o ts), .tr (.nd k o' us), .tr (iT i)], [.tr (.nd k o' us), .tr (kid o x)]⟩) := by simp [gVar, v2]
  have g2 : ∀ s, gVar 2 ⟨[.tr (.nd k o ts), .tr (.nd k o' us), .tr (iT i)], s⟩ = some (.ok ⟨[.tr (.nd k o ts), .tr (.nd k o' us), .tr (iT i)], .tr (iT i) :: s⟩) := fun s => rfl
  have gc : gCall [] md_law_same R 2 ⟨[.tr (.nd k o ts), .tr (.nd k o' us), .tr (iT i)], [.tr (kid o' y), .tr (kid o x)]⟩ = some (.ok ⟨[.tr (.nd k o ts), .tr (.nd k o' us), .tr (iT i)], [.tr (bT true)]⟩) := by
    simp [gCall, extAll, argT, viewE, d1, d2, h, resAll]
  simp only [b_law_same_1, sIf, gNot, gSeq, gNil, g0, g1, g2, f1, f2, gc]
  rfl
theorem isi_lst_int {o : Ow} {ts : List Tr} : FIsi (.nd .lst o ts) (.a (.ty "int")) = some (.bl false) := by simp [FIsi, tyN, kit_list_int]
theorem isi_lst_str {o : Ow} {ts : List Tr} : FIsi (.nd .lst o ts) (.a (.ty "str")) = some (.bl false) := by simp [FIsi, tyN, kit_list_str]
theorem isi_lst_tuple {o : Ow} {ts : List Tr} : FIsi (.nd .lst o ts) (.a (.ty "tuple")) = some (.bl false) := by simp [FIsi, tyN, kit_list_tuple]
theorem isi_lst_list {o : Ow} {ts : List Tr} : FIsi (.nd .lst o ts) (.a (.ty "list")) = some (.bl true) := by simp [FIsi, tyN, kit_list_list]
theorem isi_tup_int {o : Ow} {ts : List Tr} : FIsi (.nd .tup o ts) (.a (.ty "int")) = some (.bl false) := by simp [FIsi, tyN, kit_tuple_int]
theorem isi_tup_str {o : Ow} {ts : List Tr} : FIsi (.nd .tup o ts) (.a (.ty "str")) = some (.bl false) := by simp [FIsi, tyN, kit_tuple_str]
theorem isi_tup_tuple {o : Ow} {ts : List Tr} : FIsi (.nd .tup o ts) (.a (.ty "tuple")) = some (.bl true) := by simp [FIsi, tyN, kit_tuple_tuple]
theorem isi_tup_list {o : Ow} {ts : List Tr} : FIsi (.nd .tup o ts) (.a (.ty "list")) = some (.bl false) := by simp [FIsi, tyN, kit_tuple_list]
theorem isi_lst {o : Ow} {ts : List Tr} : FIsi (.nd .lst o ts) (.nd .tup .own [.a (.ty "tuple"), .a (.ty "list")]) = some (.bl true) := by
  simp only [FIsi, tyN, tyNames, kitAnyB, kit_list_tuple, kit_list_list]
theorem isi_tup {o : Ow} {ts : List Tr} : FIsi (.nd .tup o ts) (.nd .tup .own [.a (.ty "tuple"), .a (.ty "list")]) = some (.bl true) := by
  simp only [FIsi, tyN, tyNames, kitAnyB, kit_tuple_tuple]
theorem sc_l0 {o o' : Ow} {ts us : List Tr} (ho : o = .lnt ∨ o = .frz) (ho' : o' = .lnt ∨ o' = .frz) (hl : ts.length = us.length) : (gOrB (gSeq (gSeq (gVar 1) (gC .non)) fIsN) (gOrB (gSeq (gSeq (gVar 1) (gC (.bl true))) fIsBV) (gSeq (gSeq (gVar 1) (gC (.bl false))) fIsBV))) ⟨[.tr (.nd .lst o ts), .tr (.nd .lst o' us), .no], []⟩ = some (.ok ⟨[.tr (.nd .lst o ts), .tr (.nd .lst o' us), .no], [.tr (bT false)]⟩) := by
  rcases ho with rfl | rfl <;> rcases ho' with rfl | rfl <;> simp! [hl, -FIsi, isi_lst, isi_lst_int, isi_lst_str, isi_lst_tuple, isi_lst_list]
theorem sc_l1 {o o' : Ow} {ts us : List Tr} (ho : o = .lnt ∨ o = .frz) (ho' : o' = .lnt ∨ o' = .frz) (hl : ts.length = us.length) : ((gSeq (gSeq (gVar 1) (gSeq (gC (.ty "int")) gNil)) fIsi)) ⟨[.tr (.nd .lst o ts), .tr (.nd .lst o' us), .no], []⟩ = some (.ok ⟨[.tr (.nd .lst o ts), .tr (.nd .lst o' us), .no], [.tr (bT false)]⟩) := by
  rcases ho with rfl | rfl <;> rcases ho' with rfl | rfl <;> simp! [hl, -FIsi, isi_lst, isi_lst_int, isi_lst_str, isi_lst_tuple, isi_lst_list]
theorem sc_l2 {o o' : Ow} {ts us : List Tr} (ho : o = .lnt ∨ o = .frz) (ho' : o' = .lnt ∨ o' = .frz) (hl : ts.length = us.length) : ((gSeq (gSeq (gVar 1) (gSeq (gC (.ty "str")) gNil)) fIsi)) ⟨[.tr (.nd .lst o ts), .tr (.nd .lst o' us), .no], []⟩ = some (.ok ⟨[.tr (.nd .lst o ts), .tr (.nd .lst o' us), .no], [.tr (bT false)]⟩) := by
  rcases ho with rfl | rfl <;> rcases ho' with rfl | rfl <;> simp! [hl, -FIsi, isi_lst, isi_lst_int, isi_lst_str, isi_lst_tuple, isi_lst_list]
theorem sc_l3 {o o' : Ow} {ts us : List Tr} (ho : o = .lnt ∨ o = .frz) (ho' : o' = .lnt ∨ o' = .frz) (hl : ts.length = us.length) : ((gAnd (gSeq (gSeq (gVar 1) (gSeq (gC (.ty "tuple")) gNil)) fIsi) (gNot (gSeq (gSeq (gVar 0) (gSeq (gC (.ty "tuple")) gNil)) fIsi)))) ⟨[.tr (.nd .lst o ts), .tr (.nd .lst o' us), .no], []⟩ = some (.ok ⟨[.tr (.nd .lst o ts), .tr (.nd .lst o' us), .no], [.tr (bT false)]⟩) := by
  rcases ho with rfl | rfl <;> rcases ho' with rfl | rfl <;> simp! [hl, -FIsi, isi_lst, isi_lst_int, isi_lst_str, isi_lst_tuple, isi_lst_list]
theorem sc_l4 {o o' : Ow} {ts us : List Tr} (ho : o = .lnt ∨ o = .frz) (ho' : o' = .lnt ∨ o' = .frz) (hl : ts.length = us.length) : ((gAnd (gSeq (gSeq (gVar 1) (gSeq (gC (.ty "list")) gNil)) fIsi) (gNot (gSeq (gSeq (gVar 0) (gSeq (gC (.ty "list")) gNil)) fIsi)))) ⟨[.tr (.nd .lst o ts), .tr (.nd .lst o' us), .no], []⟩ = some (.ok ⟨[.tr (.nd .lst o ts), .tr (.nd .lst o' us), .no], [.tr (bT false)]⟩) := by
  rcases ho with rfl | rfl <;> rcases ho' with rfl | rfl <;> simp! [hl, -FIsi, isi_lst, isi_lst_int, isi_lst_str, isi_lst_tuple, isi_lst_list]
theorem sc_l5 {o o' : Ow} {ts us : List Tr} (ho : o = .lnt ∨ o = .frz) (ho' : o' = .lnt ∨ o' = .frz) (hl : ts.length = us.length) : ((gOrB (gNot (gSeq (gSeq (gVar 0) (gSeq (gSeq (gSeq (gC (.ty "tuple")) (gSeq (gC (.ty "list")) gNil)) (fNew .tup 2)) gNil)) fIsi)) (gSeq (gSeq (gSeq (gSeq (gVar 0) gNil) fLen) (gSeq (gSeq (gVar 1) gNil) fLen)) fNe))) ⟨[.tr (.nd .lst o ts), .tr (.nd .lst o' us), .no], []⟩ = some (.ok ⟨[.tr (.nd .lst o ts), .tr (.nd .lst o' us), .no], [.tr (bT false)]⟩) := by
  rcases ho with rfl | rfl <;> rcases ho' with rfl | rfl <;> simp! [hl, -FIsi, isi_lst, isi_lst_int, isi_lst_str, isi_lst_tuple, isi_lst_list]
theorem sc_t0 {ts us : List Tr} (q : cpL ts = true) (q' : cpL us = true) (hl : ts.length = us.length) : (gOrB (gSeq (gSeq (gVar 1) (gC .non)) fIsN) (gOrB (gSeq (gSeq (gVar 1) (gC (.bl true))) fIsBV) (gSeq (gSeq (gVar 1) (gC (.bl false))) fIsBV))) ⟨[.tr (.nd .tup .own ts), .tr (.nd .tup .own us), .no], []⟩ = some (.ok ⟨[.tr (.nd .tup .own ts), .tr (.nd .tup .own us), .no], [.tr (bT false)]⟩) := by
  simp! [hl, q, q', -FIsi, isi_tup, isi_tup_int, isi_tup_str, isi_tup_tuple, isi_tup_list]
theorem sc_t1 {ts us : List Tr} (q : cpL ts = true) (q' : cpL us = true) (hl : ts.length = us.length) : ((gSeq (gSeq (gVar 1) (gSeq (gC (.ty "int")) gNil)) fIsi)) ⟨[.tr (.nd .tup .own ts), .tr (.nd .tup .own us), .no], []⟩ = some (.ok ⟨[.tr (.nd .tup .own ts), .tr (.nd .tup .own us), .no], [.tr (bT false)]⟩) := by
  simp! [hl, q, q', -FIsi, isi_tup, isi_tup_int, isi_tup_str, isi_tup_tuple, isi_tup_list]
theorem sc_t2 {ts us : List Tr} (q : cpL ts = true) (q' : cpL us = true) (hl : ts.length = us.length) : ((gSeq (gSeq (gVar 1) (gSeq (gC (.ty "str")) gNil)) fIsi)) ⟨[.tr (.nd .tup .own ts), .tr (.nd .tup .own us), .no], []⟩ = some (.ok ⟨[.tr (.nd .tup .own ts), .tr (.nd .tup .own us), .no], [.tr (bT false)]⟩) := by
  simp! [hl, q, q', -FIsi, isi_tup, isi_tup_int, isi_tup_str, isi_tup_tuple, isi_tup_list]
theorem sc_t3 {ts us : List Tr} (q : cpL ts = true) (q' : cpL us = true) (hl : ts.length = us.length) : ((gAnd (gSeq (gSeq (gVar 1) (gSeq (gC (.ty "tuple")) gNil)) fIsi) (gNot (gSeq (gSeq (gVar 0) (gSeq (gC (.ty "tuple")) gNil)) fIsi)))) ⟨[.tr (.nd .tup .own ts), .tr (.nd .tup .own us), .no], []⟩ = some (.ok ⟨[.tr (.nd .tup .own ts), .tr (.nd .tup .own us), .no], [.tr (bT false)]⟩) := by
  simp! [hl, q, q', -FIsi, isi_tup, isi_tup_int, isi_tup_str, isi_tup_tuple, isi_tup_list]
theorem sc_t4 {ts us : List Tr} (q : cpL ts = true) (q' : cpL us = true) (hl : ts.length = us.length) : ((gAnd (gSeq (gSeq (gVar 1) (gSeq (gC (.ty "list")) gNil)) fIsi) (gNot (gSeq (gSeq (gVar 0) (gSeq (gC (.ty "list")) gNil)) fIsi)))) ⟨[.tr (.nd .tup .own ts), .tr (.nd .tup .own us), .no], []⟩ = some (.ok ⟨[.tr (.nd .tup .own ts), .tr (.nd .tup .own us), .no], [.tr (bT false)]⟩) := by
  simp! [hl, q, q', -FIsi, isi_tup, isi_tup_int, isi_tup_str, isi_tup_tuple, isi_tup_list]
theorem sc_t5 {ts us : List Tr} (q : cpL ts = true) (q' : cpL us = true) (hl : ts.length = us.length) : ((gOrB (gNot (gSeq (gSeq (gVar 0) (gSeq (gSeq (gSeq (gC (.ty "tuple")) (gSeq (gC (.ty "list")) gNil)) (fNew .tup 2)) gNil)) fIsi)) (gSeq (gSeq (gSeq (gSeq (gVar 0) gNil) fLen) (gSeq (gSeq (gVar 1) gNil) fLen)) fNe))) ⟨[.tr (.nd .tup .own ts), .tr (.nd .tup .own us), .no], []⟩ = some (.ok ⟨[.tr (.nd .tup .own ts), .tr (.nd .tup .own us), .no], [.tr (bT false)]⟩) := by
  simp! [hl, q, q', -FIsi, isi_tup, isi_tup_int, isi_tup_str, isi_tup_tuple, isi_tup_list]
theorem same_nd {R : GF} {k : Nk} {o o' : Ow} {ts us : List Tr} (h1 : topOk k o ts) (h2 : topOk k o' us) (hl : ts.length = us.length) (hu : us.length ≤ 100000)
    (h : ∀ (j : Nat) (x y : Tr), ts[j]? = some x → us[j]? = some y → cp (kid o x) = true ∧ cp (kid o' y) = true ∧ cp (kid .lnt (kid o x)) = true ∧ cp (kid .lnt (kid o' y)) = true ∧ R [kid .lnt (kid o x), kid .lnt (kid o' y)] = some (.rt (bT true) [.any, .any])) :
    runF md_law_same 3 (g_law_same R) [.nd k o ts, .nd k o' us] = some (.rt (bT true) [.any, .any]) := by
  have v1 := varE_top (i := 0) h1
  have v2 := varE_top (i := 0) h2
  obtain ⟨e', he⟩ := loopR_all (md := md_law_same) (k := 2) (n := us.length) (lo := 0) (Γ := [.tr (.nd k o ts), .tr (.nd k o' us), .no]) (s := []) (gs := b_law_same_1 R) (t := bT false) rfl (by simp) rfl rfl (fun _ => true) (fun i i0 i1 => by
    have a1 := ixN_len (n := us.length) (i := i) (by omega) (by omega)
    have hx : ts[i.toNat]? = some ts[i.toNat] := List.getElem?_eq_getElem (by omega)
    have hy : us[i.toNat]? = some us[i.toNat] := List.getElem?_eq_getElem (by omega)
    obtain ⟨c1, c2, d1, d2, r⟩ := h _ _ _ hx hy
    exact same_turn h1 h2 a1 hl hx hy c1 c2 d1 d2 r)
  rw [if_pos (by simp)] at he
  have hn : (us.length : Int) < 4611686018427387904 := by omega
  have hr : sForR1 (gSeq (gSeq (gSeq (gVar 1) gNil) fLen) gNil) (bind md_law_same 2) (b_law_same_1 R) ⟨[.tr (.nd k o ts), .tr (.nd k o' us), .no], []⟩ = some (.nx ⟨[.tr (.nd k o ts), .tr (.nd k o' us), e'], []⟩) := by
    rw [sForR1_e (n := us.length) (Γ := [.tr (.nd k o ts), .tr (.nd k o' us), .no]) (s := []) (by
      rcases h2 with ⟨rfl, rfl | rfl⟩ | ⟨rfl, rfl, q⟩
      · simp! []
      · simp! []
      · simp! [q]) (by omega) (by omega), Int.toNat_natCast, he]
    rfl
  have fin : ∀ m : Ms, g_law_same R ⟨[.tr (.nd k o ts), .tr (.nd k o' us), .no], []⟩ = some (.rt (bT true) ⟨[.tr (.nd k o ts), .tr (.nd k o' us), e'], []⟩) := fun _ => by
    rcases h1 with ⟨rfl, ho⟩ | ⟨rfl, rfl, q⟩
    · rcases h2 with ⟨_, ho'⟩ | ⟨z, _⟩
      · simp only [g_law_same, sSeq, sIf, sc_l0 ho ho' hl, sc_l1 ho ho' hl, sc_l2 ho ho' hl, sc_l3 ho ho' hl, sc_l4 ho ho' hl, sc_l5 ho ho' hl, sNil, hr, sRet, gC, Bool.false_eq_true, if_false]
      · cases z
    · rcases h2 with ⟨z, _⟩ | ⟨_, rfl, q'⟩
      · cases z
      · simp only [g_law_same, sSeq, sIf, sc_t0 q q' hl, sc_t1 q q' hl, sc_t2 q q' hl, sc_t3 q q' hl, sc_t4 q q' hl, sc_t5 q q' hl, sNil, hr, sRet, gC, Bool.false_eq_true, if_false]
  unfold runF
  rw [show (⟨[Tr.nd k o ts, .nd k o' us].map Ent.tr ++ List.replicate (3 - [Tr.nd k o ts, .nd k o' us].length) .no, []⟩ : Ms) = ⟨[.tr (.nd k o ts), .tr (.nd k o' us), .no], []⟩ from rfl, fin ⟨[], []⟩]
  rfl
theorem same_ok : ∀ (n : Nat) (t u : Tr), Sm n t u → GN_law_same n [t, u] = some (.rt (bT true) [.any, .any])
  | 0, _, _, h => h.elim
  | n + 1, t, u, h => by
    rcases h with ⟨v, rfl, rfl, hv⟩ | ⟨k, o, o', ts, us, h1, h2, rfl, rfl, hl, hu, hk⟩
    · cases v with
      | non => simp! [GN_law_same, g_law_same]
      | bl b => cases b <;> simp! [GN_law_same, g_law_same]
      | int i => simp! [GN_law_same, g_law_same]
      | str x => simp! [GN_law_same, g_law_same]
      | _ => exact hv.elim
    · exact same_nd h1 h2 hl hu fun j x y hx hy => by
        obtain ⟨c1, c2, d1, d2, r⟩ := hk j x y hx hy
        exact ⟨c1, c2, d1, d2, same_ok n _ _ r⟩
end
/-! the slots that are not read: the whole -/
section
variable {x hd l : Int} {la : Bool} {ms : List (Nat × Rc)} {S : Sb} {H : List (List Int)} {z : GS}
theorem sm_rowL {m : Nat} {r : List Int} (hr : r.length ≤ 100000) : Sm (m + 2) (.nd .lst .lnt (r.map iT)) (.nd .lst .lnt (r.map iT)) := by
  refine .inr ⟨.lst, .lnt, .lnt, _, _, .inl ⟨rfl, .inl rfl⟩, .inl ⟨rfl, .inl rfl⟩, rfl, rfl, rfl, by rw [List.length_map]; exact hr, fun j x y hx hy => ?_⟩
  rw [hx] at hy
  cases hy
  rw [List.getElem?_map] at hx
  cases hv : r[j]? with
  | none => rw [hv] at hx; cases hx
  | some v =>
    rw [hv] at hx
    cases hx
    exact ⟨rfl, rfl, rfl, rfl, .inl ⟨_, rfl, rfl, trivial⟩⟩
theorem sm_tupR {m : Nat} {r : List Int} (hr : r.length ≤ 100000) : Sm (m + 2) (tupT r) (tupT r) := by
  refine .inr ⟨.tup, .own, .own, _, _, .inr ⟨rfl, rfl, cpL_iT r⟩, .inr ⟨rfl, rfl, cpL_iT r⟩, rfl, rfl, rfl, by rw [List.length_map]; exact hr, fun j x y hx hy => ?_⟩
  rw [hx] at hy
  cases hy
  rw [List.getElem?_map] at hx
  cases hv : r[j]? with
  | none => rw [hv] at hx; cases hx
  | some v =>
    rw [hv] at hx
    cases hx
    exact ⟨rfl, rfl, rfl, rfl, .inl ⟨_, rfl, rfl, trivial⟩⟩
theorem same_row {r : List Int} (hr : r.length ≤ 100000) : G_law_same [.nd .lst .lnt (r.map iT), .nd .lst .lnt (r.map iT)] = some (.rt (bT true) [.any, .any]) := same_ok 8 _ _ (sm_rowL (m := 6) hr)
theorem same_tup {r : List Int} (hr : r.length ≤ 100000) : G_law_same [tupT r, tupT r] = some (.rt (bT true) [.any, .any]) := same_ok 8 _ _ (sm_tupR (m := 6) hr)
theorem slots_len (hn : ms.length ≤ 30) : (srtX (slotsF la ms)).length ≤ 100000 := by
  have h1 : (srtX (slotsF la ms)).length = (ddp (slotsF la ms)).length := (sortI_perm _).length_eq
  have h2 : ∀ l : List Int, (ddp l).length ≤ l.length := by
    intro l
    induction l with
    | nil => simp [ddp]
    | cons a l ih =>
      unfold ddp
      split
      · simp only [List.length_cons]; omega
      · simp only [List.length_cons]; omega
  have h3 : (slotsF la ms).length ≤ 54 := by
    have := filterMap_len (lsl la ms) (rng 0 24)
    rw [rng_len] at this
    unfold slotsF
    rw [List.length_append, List.length_map]
    omega
  have := h2 (slotsF la ms)
  omega
theorem loq1 (h1 : GF) (dk : Tr) (lg mt : List Tr) (hm : Tr) (es : escL mt = true) (p1 : h1 [.nd .lst .lnt lg, iT hd] = some (.rt (.nd .lst .own mt) [.any, .any])) :
    lo1 h1 z ⟨[.tr dk, .tr (.nd .lst .own lg), .tr (iT hd), .tr hm, .tr (bT la), .no, .no, .no, .no, .no, .no, .no, .no, .no, .no], []⟩ = z ⟨[.tr dk, .tr (.nd .lst .own lg), .tr (iT hd), .tr hm, .tr (bT la), .tr (.nd .lst .own mt), .no, .no, .no, .no, .no, .no, .no, .no, .no], []⟩ := by
  simp! [lo1, p1, es]
theorem loq2 (h1 : GF) (dk lg : Tr) (mt : List Tr) (hm : Tr) (T : List Int) (p1 : h1 [.nd .lst .lnt mt, bT la] = some (.rt (rowT T) [.any, .any])) :
    lo2 h1 z ⟨[.tr dk, .tr lg, .tr (iT hd), .tr hm, .tr (bT la), .tr (.nd .lst .own mt), .no, .no, .no, .no, .no, .no, .no, .no, .no], []⟩ = z ⟨[.tr dk, .tr lg, .tr (iT hd), .tr hm, .tr (bT la), .tr (.nd .lst .own mt), .tr (rowT T), .no, .no, .no, .no, .no, .no, .no, .no], []⟩ := by
  simp! [lo2, p1]
theorem loq3c (hG : GF) (dk : Tr) (lg mt ht : List Tr) (T : List Int) (D : Int → List Int) (pc : ∀ x, 0 ≤ x → x < 24 → hG [.nd .lst .lnt lg, .nd .lst .lnt mt, .nd .lst .lnt ht, iT x, bT la] = some (.rt (tupT (D x)) [.any, .any, .any, .any, .any])) :
    gLcR1 [8] (gSeq (gC (.int 24)) gNil) (bind md_law_other_slots 8) (gC (.bl true)) (e_law_other_slots_1F hG) ⟨[.tr dk, .tr (.nd .lst .own lg), .tr (iT hd), .tr (.nd .lst .lnt ht), .tr (bT la), .tr (.nd .lst .own mt), .tr (rowT T), .no, .no, .no, .no, .no, .no, .no, .no], []⟩ = some (.ok ⟨[.tr dk, .tr (.nd .lst .own lg), .tr (iT hd), .tr (.nd .lst .lnt ht), .tr (bT la), .tr (.nd .lst .own mt), .tr (rowT T), .no, .no, .no, .no, .no, .no, .no, .no], [.tr (.nd .lst .own ((rng 0 24).map fun x => tupT (D x)))]⟩) := by
  have h := gLcR1P (ga := gSeq (gC (.int 24)) gNil) (md := md_law_other_slots) (k := 8) (gt := gC (.bl true)) (ge := e_law_other_slots_1F hG) (Γ := [.tr dk, .tr (.nd .lst .own lg), .tr (iT hd), .tr (.nd .lst .lnt ht), .tr (bT la), .tr (.nd .lst .own mt), .tr (rowT T), .no, .no, .no, .no, .no, .no, .no, .no]) (s := []) (j := 24) (by simp! []) (by decide) (by decide) rfl (by rfl) (by simp! []) rfl (fun _ => true) (fun x => tupT (D x)) (fun y s' y0 y1 => by rfl) (fun y s' y0 y1 _ => ⟨by
    have p := pc y y0 y1
    simp! [e_law_other_slots_1F, p], by simp [esc]⟩)
  rw [filt_true] at h
  exact h
theorem loq3 (dk lg hm mt tt : Tr) (ct : List Tr) (es : escL ct = true) (hc : gLcR1 [8] (gSeq (gC (.int 24)) gNil) (bind md_law_other_slots 8) (gC (.bl true)) e_law_other_slots_1 ⟨[.tr dk, .tr lg, .tr (iT hd), .tr hm, .tr (bT la), .tr mt, .tr tt, .no, .no, .no, .no, .no, .no, .no, .no], []⟩ = some (.ok ⟨[.tr dk, .tr lg, .tr (iT hd), .tr hm, .tr (bT la), .tr mt, .tr tt, .no, .no, .no, .no, .no, .no, .no, .no], [.tr (.nd .lst .own ct)]⟩)) :
    lo3 z ⟨[.tr dk, .tr lg, .tr (iT hd), .tr hm, .tr (bT la), .tr mt, .tr tt, .no, .no, .no, .no, .no, .no, .no, .no], []⟩ = z ⟨[.tr dk, .tr lg, .tr (iT hd), .tr hm, .tr (bT la), .tr mt, .tr tt, .tr (.nd .lst .own ct), .no, .no, .no, .no, .no, .no, .no], []⟩ := by
  unfold lo3
  rw [sSeq_e, sSet_e, hc]
  rfl
theorem loq4 (dk lg hm mt tt du : Tr) : lo4 z ⟨[.tr dk, .tr lg, .tr (iT hd), .tr hm, .tr (bT la), .tr mt, .tr tt, .tr du, .no, .no, .no, .no, .no, .no, .no], []⟩ = z ⟨[.tr dk, .tr lg, .tr (iT hd), .tr hm, .tr (bT la), .tr mt, .tr tt, .tr du, .no, .tr (.nd .lst .own []), .no, .no, .no, .no, .no], []⟩ := by
  simp! [lo4]
theorem loq5 (b : MsB ms) (dk lg hm tt du : Tr) : ∃ N e10, NmOk N ∧ N.length ≤ 720 ∧ Nal e10 ∧ lo5 z ⟨[.tr dk, .tr lg, .tr (iT hd), .tr hm, .tr (bT la), .tr (msT .own ms), .tr tt, .tr du, .no, .tr (.nd .lst .own []), .no, .no, .no, .no, .no], []⟩ = z ⟨[.tr dk, .tr lg, .tr (iT hd), .tr hm, .tr (bT la), .tr (msT .own ms), .tr tt, .tr du, .no, .tr (.nd .lst .own (N.map prT)), e10, .no, .no, .no, .no], []⟩ := by
  obtain ⟨Γ', ⟨N, e10, hN, hl, n10, rfl⟩, h1⟩ := loopE_pre (gs := b_law_other_slots_1) (bd := bind md_law_other_slots 10) (s := []) (xs := ms) (enc := pmT) (.al [5]) .lst .own
    (fun p Γ => ∃ (N : List (Int × Int)) (e10 : Ent), NmOk N ∧ N.length ≤ 24 * p.length ∧ Nal e10 ∧ Γ = [.tr dk, .tr lg, .tr (iT hd), .tr hm, .tr (bT la), .tr (msT .own ms), .tr tt, .tr du, .no, .tr (.nd .lst .own (N.map prT)), e10, .no, .no, .no, .no])
    (fun p Γ ⟨_, _, _, _, _, e⟩ => by rw [e]; rfl) rfl (fun x _ => by simp [kid, kidL, cp, cpL, kid_rcT, cp_rcT]) (Γ := [.tr dk, .tr lg, .tr (iT hd), .tr hm, .tr (bT la), .tr (msT .own ms), .tr tt, .tr du, .no, .tr (.nd .lst .own []), .no, .no, .no, .no, .no])
    (by
      rintro p y q Γ hx ⟨N, e10, hN, hl, n10, rfl⟩
      have hy : y ∈ ms := by rw [hx]; simp
      have hpl : p.length < 30 := by
        have := b.n
        rw [hx] at this
        simp at this
        omega
      obtain ⟨N', hN', hl', ht⟩ := nm_turn (hd := hd) (la := la) (b.ok y hy) (b.rc y hy) hN (by omega) dk lg hm (msT .own ms) du tt
      have r0 := cp_rcT y.2
      have r1 := fun o => kid_rcT o y.2
      refine ⟨[.tr dk, .tr lg, .tr (iT hd), .tr hm, .tr (bT la), .tr (msT .own ms), .tr tt, .tr du, .no, .tr (.nd .lst .own (N.map prT)), .tr (pmT y), .no, .no, .no, .no], _, ?_, ⟨N', .tr (pmT y), hN', by simp; omega, nal_tr, rfl⟩, .inl ht⟩
      generalize N.map prT = nt
      simp! [n10.kr, r0, r1])
    ⟨[], .no, fun q hq => (by cases hq), by simp, nal_no, rfl⟩
  refine ⟨N, e10, hN, by have := b.n; omega, n10, ?_⟩
  have hl2 : ms.length = (ms.map pmT).length := by rw [List.length_map]
  rw [hl2] at h1
  simp only [msT] at *
  generalize ms.map pmT = mt at *
  simp! [lo5, sFor, h1]
theorem loq6 {N : List (Int × Int)} (hl : N.length ≤ 720) (dk lg hm mt tt du : Tr) {e10 : Ent} (n10 : Nal e10) : lo6 z ⟨[.tr dk, .tr lg, .tr (iT hd), .tr hm, .tr (bT la), .tr mt, .tr tt, .tr du, .no, .tr (.nd .lst .own (N.map prT)), e10, .no, .no, .no, .no], []⟩ = z ⟨[.tr dk, .tr lg, .tr (iT hd), .tr hm, .tr (bT la), .tr mt, .tr tt, .tr du, .no, .tr (.nd .lst .own ((N ++ [(hd + 1, 10)]).map prT)), e10, .no, .no, .no, .no], []⟩ := by
  have e1 : (N ++ [(hd + 1, 10)]).map prT = N.map prT ++ [prT (hd + 1, 10)] := by rw [List.map_append]; rfl
  have hs : (N.map prT).length < sizeLine := by rw [List.length_map, sizeLine_eq]; omega
  rw [e1]
  generalize N.map prT = nt at *
  simp! [lo6, hs, n10.kr, n10.ke, n10.kj]
theorem loq8 (h1 h2 : GF) (dk dk' : List Tr) (lg hm mt du nt : Tr) {T : List Int} {e10 e12 e13 e14 : Ent} (p1 : h1 [.nd (.ins 0 6) .lnt dk, bT la] = some (.rt (rowT T) [.any, .any])) (p2 : h2 [.nd .lst .lnt (T.map iT), .nd .lst .lnt (T.map iT)] = some (.rt (bT true) [.any, .any])) :
    lo8 h1 h2 ⟨[.tr (.nd (.ins 0 6) .own dk), .tr lg, .tr (iT hd), .tr hm, .tr (bT la), .tr mt, .tr (rowT T), .tr du, .no, .tr nt, e10, .no, e12, e13, e14], []⟩ = some (.rt (bT true) ⟨[.tr (.nd (.ins 0 6) .own dk), .tr lg, .tr (iT hd), .tr hm, .tr (bT la), .tr mt, .tr (rowT T), .tr du, .no, .tr nt, e10, .no, e12, e13, e14], []⟩) := by
  simp! [lo8, p1, p2]
end
/-! the slots that are not read: put together; the body of the told slots (printed by absf.py) -/
noncomputable def b_law_told_slots_1F (h1 h2 h3 h4 h5 h6 : GF) : GS := (sSeq (sSet md_law_told_slots 8 (gSeq (gSeq (gVar 4) (gSeq (gVar 7) (gSeq (gVar 3) gNil))) (gCall [] md_law_live h1 3)))
    (sIf (gAnd (gSeq (gSeq (gVar 8) (gC .non)) fNotN) (gAnd (gSeq (gSeq (gSeq (gSeq (gVar 8) (gC (.int 1))) fIxA) (gC (.int 0))) fGe) (gSeq (gSeq (gSeq (gSeq (gVar 8) (gC (.int 1))) fIxA) (gVar 5)) fNotInA))) (sSeq (sAsg (gVar 8) (unpk md_law_told_slots [9, 10]))
    (sSeq (sSet md_law_told_slots 11 (gSeq (gSeq (gVar 0) (gSeq (gSeq (gSeq (gVar 0) gNil) (gCall [] md_found_marks h2 1)) (gSeq (gVar 7) gNil))) (gSeq (gSeq (gVar 3) gNil) (noEx (gCall [] md_cells_after h3 4)))))
    (sSeq (sSet md_law_told_slots 12 (gSeq (gSeq (gVar 7) (gSeq (gC (.int 777)) (gSeq (gC (.int 0)) (gSeq (gC (.int 0)) (gSeq (gC (.int 0)) (gSeq (gC (.int 0)) (gSeq (gSeq (gVar 10) (fMv md_law_told_slots)) (gSeq (gC (.int 9)) gNil)))))))) (fNew .tup 8)))
    (sSeq (sSet md_law_told_slots 13 (gSeq (gVar 0) (gSeq (chkI 0) (gSeq (gSeq (gSeq (gSeq (gC (.str "log")) (gSeq (gSeq (gVar 10) (fMv md_law_told_slots)) gNil)) (fNew .tup 2)) (gSeq (gSeq (gSeq (gC (.str "copy")) (gSeq (gSeq (gVar 9) (fMv md_law_told_slots)) (gSeq (gVar 7) (gSeq (gSeq (gVar 12) (fMv md_law_told_slots)) gNil)))) (fNew .tup 4)) gNil)) (gCall [0] md_Disk_issue h4 3)))))
    (sSeq (sIf (gNot (gSeq (gSeq (gSeq (gSeq (gVar 0) (gSeq (gSeq (gSeq (gVar 0) gNil) (gCall [] md_found_marks h2 1)) (gSeq (gVar 7) gNil))) (gSeq (gSeq (gVar 3) gNil) (noEx (gCall [] md_cells_after h3 4)))) (gSeq (gVar 11) gNil)) (gCall [] md_law_same h5 2))) (sRet (gC (.bl false))) sNil)
    (sSeq (sExpr (gSeq (gVar 0) (gSeq (chkI 0) (gSeq (gSeq (gVar 13) gNil) (gCall [0] md_Disk_sure h6 2)))))
    (sSeq (sSubA (gSeq (gSeq (gC (.str "copy")) (gSeq (gSeq (gVar 9) (fMv md_law_told_slots)) (gSeq (gVar 7) (gSeq (gSeq (gVar 12) (fMv md_law_told_slots)) gNil)))) (fNew .tup 4)) (gVar 1) (gVar 10))
    (sIf (gNot (gSeq (gSeq (gSeq (gSeq (gVar 0) (gSeq (gSeq (gSeq (gVar 0) gNil) (gCall [] md_found_marks h2 1)) (gSeq (gVar 7) gNil))) (gSeq (gSeq (gVar 3) gNil) (noEx (gCall [] md_cells_after h3 4)))) (gSeq (gVar 12) gNil)) (gCall [] md_law_same h5 2))) (sRet (gC (.bl false))) sNil)))))))) sNil))
theorem b_law_told_slots_1_F : b_law_told_slots_1 = b_law_told_slots_1F G_law_live G_found_marks G_cells_after G_Disk_issue G_law_same G_Disk_sure := rfl
section
variable {x hd l : Int} {la : Bool} {ms : List (Nat × Rc)} {S : Sb} {H : List (List Int)} {z : GS}
theorem esL_ms (ms : List (Nat × Rc)) : escL (ms.map pmT) = true := by
  rw [escL_all]
  intro t ht
  obtain ⟨p, _, rfl⟩ := List.mem_map.mp ht
  simp [esc, escL, esc_rcT]
theorem loq7 {dk lg dk' lg' hm mt du nt : Tr} {T : List Int} {e10 e12 e13 e14 : Ent} (q1 : loopR (bind md_law_other_slots 12) b_law_other_slots_2 0 30 0 (gOs dk lg hd hm la mt T du nt e10 .no .no .no) = some (.nx (gOs dk' lg' hd hm la mt T du nt e10 e12 e13 e14))) :
    lo7 z (gOs dk lg hd hm la mt T du nt e10 .no .no .no) = z (gOs dk' lg' hd hm la mt T du nt e10 e12 e13 e14) := by
  unfold lo7
  rw [sSeq_e, sForR1_e (n := 30) (Γ := (gOs dk lg hd hm la mt T du nt e10 .no .no .no).g) (s := []) rfl (by decide) (by decide)]
  show bS (loopR _ _ 0 30 0 (gOs dk lg hd hm la mt T du nt e10 .no .no .no)) z = _
  rw [q1]
  rfl
theorem fR_os {dk lg a b c : Ent} {rest : List Ent} {t1 t2 : Tr} (h1 : dk = .tr t1) (h2 : lg = .tr t2) (e1 : esc t1 = true) (e2 : esc t2 = true) : fR md_law_other_slots (some (.rt (bT true) ⟨dk :: lg :: a :: b :: c :: rest, []⟩)) = some (.rt (bT true) [t1, t2, .any, .any, .any]) := by
  subst h1
  subst h2
  simp! [e1, e2]
theorem P_other (k : LgOk S H) (h0 : 0 ≤ hd) (h1 : hd ≤ 999984) : ∃ S' l', LgOk S' H ∧ G_law_other_slots [dkT .own S hd l [], lgT .own S.ls, iT hd, .nd .lst .lnt (H.map tupT), bT la] = some (.rt (bT true) [dkT .own S' hd l' [], lgT .own S'.ls, .any, .any, .any]) := by
  have b := fms_B k 40 (hd + 1)
  have p1 := P_lmarks (hd := hd) k.o.l
  have p2 := P_lslots (la := la) b.ok b.n b.nd
  have pc : ∀ x, 0 ≤ x → x < 24 → G_law_cells [lgT .lnt S.ls, msT .lnt (fms 40 S.ls (hd + 1)), .nd .lst .lnt (H.map tupT), iT x, bT la] = some (.rt (tupT (cellsF S la x (fms 40 S.ls (hd + 1)))) [.any, .any, .any, .any, .any]) := fun x x0 x1 => by
    have := P_lcells (la := la) k.o b x0 x1
    rwa [k.hs] at this
  generalize hms : fms 40 S.ls (hd + 1) = ms at *
  have c3 := loq3c (hd := hd) (la := la) G_law_cells (dkT .own S hd l []) (S.ls.map slT) (ms.map pmT) (H.map tupT) (srtX (slotsF la ms)) (fun x => cellsF S la x ms) pc
  rw [← e_law_other_slots_1_F] at c3
  have es3 : escL ((rng 0 24).map fun x => tupT (cellsF S la x ms)) = true := by
    rw [escL_all]
    intro t ht
    obtain ⟨y, _, rfl⟩ := List.mem_map.mp ht
    simp [esc]
  obtain ⟨N, e10, hN, hNl, n10, q5⟩ := loq5 (hd := hd) (la := la) (z := lo6 (lo7 (lo8 G_slots_read G_law_same))) b (dkT .own S hd l []) (lgT .own S.ls) (.nd .lst .lnt (H.map tupT)) (rowT (srtX (slotsF la ms))) (.nd .lst .own ((rng 0 24).map fun x => tupT (cellsF S la x ms)))
  have hN' : NmOk (N ++ [(hd + 1, 10)]) := fun q hq => by
    rcases List.mem_append.mp hq with hq | hq
    · exact hN q hq
    · simp at hq
      subst hq
      exact ⟨by show 1 ≤ hd + 1; omega, by show hd + 1 ≤ 999999; omega, by show (0 : Int) ≤ 10; decide, by show (10 : Int) < 24; decide⟩
  obtain ⟨S', l', e12, e13, e14, k', hf', n12, n13, n14, q7⟩ := os_loop (l := l) (D := fun x => cellsF S la x ms) (.nd .lst .lnt (H.map tupT)) (msT .own ms) rfl hN' (by simp) (by simp; omega) k hms (fun x _ _ => rfl) n10
  refine ⟨S', l', k', ?_⟩
  have p8 := P_slots (S := S') (h := hd) (l := l') (la := la) (ws := []) k'.o
  rw [hf'] at p8
  have q8 := loq8 (hd := hd) (la := la) G_slots_read G_law_same _ [] (lgT .own S'.ls) (.nd .lst .lnt (H.map tupT)) (msT .own ms) (.nd .lst .own ((rng 0 24).map fun x => tupT (cellsF S la x ms))) (.nd .lst .own ((N ++ [(hd + 1, 10)]).map prT)) (e10 := e10) (e12 := e12) (e13 := e13) (e14 := e14) p8 (same_row (slots_len b.n))
  have all : g_law_other_slots ⟨[.tr (dkT .own S hd l []), .tr (lgT .own S.ls), .tr (iT hd), .tr (.nd .lst .lnt (H.map tupT)), .tr (bT la), .no, .no, .no, .no, .no, .no, .no, .no, .no, .no], []⟩ = lo8 G_slots_read G_law_same (gOs (dkT .own S' hd l' []) (lgT .own S'.ls) hd (.nd .lst .lnt (H.map tupT)) la (msT .own ms) (srtX (slotsF la ms)) (.nd .lst .own ((rng 0 24).map fun x => tupT (cellsF S la x ms))) (.nd .lst .own ((N ++ [(hd + 1, 10)]).map prT)) e10 e12 e13 e14) := by
    rw [e_g_law_other_slots, loq1 G_law_marks _ _ _ _ (esL_ms ms) p1, loq2 G_law_slots _ _ _ _ _ p2, loq3 _ _ _ _ _ _ es3 c3, loq4, q5, loq6 hNl _ _ _ _ _ _ n10]
    exact loq7 q7
  replace all := all.trans q8
  have es1 : esc (dkT .own S' hd l' []) = true := rfl
  have es2 : esc (lgT .own S'.ls) = true := rfl
  exact (run_rt (md := md_law_other_slots) (N := 15) (g := g_law_other_slots) (ts := [dkT .own S hd l [], lgT .own S.ls, iT hd, .nd .lst .lnt (H.map tupT), bT la]) all).trans (fR_os rfl rfl es1 es2)
end
/-! the slots that are told: one turn -/
section
variable {x hd l lot s w : Int} {la : Bool} {ms : List (Nat × Rc)} {S : Sb} {H : List (List Int)} {z : GS}
abbrev gTs (dk lg : Tr) (hd : Int) (la : Bool) (mt : Tr) (U : List Int) (e7 e8 e9 e10 e11 e12 e13 : Ent) : Ms := ⟨[.tr dk, .tr lg, .tr (iT hd), .tr (bT la), .tr mt, .tr (rowT U), .no, e7, e8, e9, e10, e11, e12, e13], []⟩
theorem ts_none (h1 h2 h3 h4 h5 h6 : GF) (dk lg : Tr) (mt : List Tr) {U : List Int} {e8 e9 e10 e11 e12 e13 : Ent} (p1 : h1 [.nd .lst .lnt mt, iT x, bT la] = some (.rt (.a .non) [.any, .any, .any])) (n8 : Nal e8) (n9 : Nal e9) (n10 : Nal e10) (n11 : Nal e11) (n12 : Nal e12) (n13 : Nal e13) :
    b_law_told_slots_1F h1 h2 h3 h4 h5 h6 (gTs dk lg hd la (.nd .lst .own mt) U (.tr (iT x)) e8 e9 e10 e11 e12 e13) = some (.nx (gTs dk lg hd la (.nd .lst .own mt) U (.tr (iT x)) (.tr (.a .non)) e9 e10 e11 e12 e13)) := by
  simp! [b_law_told_slots_1F, p1, n8.kr, n8.ke, n8.kj, n9.kr, n10.kr, n11.kr, n12.kr, n13.kr]
theorem ts_no (h1 h2 h3 h4 h5 h6 : GF) (dk lg : Tr) (mt : List Tr) {U : List Int} {e8 e9 e10 e11 e12 e13 : Ent} (p1 : h1 [.nd .lst .lnt mt, iT x, bT la] = some (.rt (prT (lot, s)) [.any, .any, .any])) (n8 : Nal e8) (n9 : Nal e9) (n10 : Nal e10) (n11 : Nal e11) (n12 : Nal e12) (n13 : Nal e13) (hs : ¬ (0 ≤ s ∧ s ∉ U)) :
    b_law_told_slots_1F h1 h2 h3 h4 h5 h6 (gTs dk lg hd la (.nd .lst .own mt) U (.tr (iT x)) e8 e9 e10 e11 e12 e13) = some (.nx (gTs dk lg hd la (.nd .lst .own mt) U (.tr (iT x)) (.tr (prT (lot, s))) e9 e10 e11 e12 e13)) := by
  by_cases q : 0 ≤ s
  · have q2 : s ∈ U := Classical.not_not.mp fun q2 => hs ⟨q, q2⟩
    simp! [b_law_told_slots_1F, p1, n8.kr, n8.ke, n8.kj, n9.kr, n10.kr, n11.kr, n12.kr, n13.kr, q, q2]
  · simp! [b_law_told_slots_1F, p1, n8.kr, n8.ke, n8.kj, n9.kr, n10.kr, n11.kr, n12.kr, n13.kr, q]
theorem ts_yes (h1 h2 h3 h4 h5 h6 : GF) (dk0 dk1 dk2 lg : List Tr) (mt : List Tr) {U : List Int} {j : Nat} {c0 : List Int} {f0 f1 f2 : Ow} {e8 e9 e10 e11 e12 e13 : Ent}
    (p1 : h1 [.nd .lst .lnt mt, iT x, bT la] = some (.rt (prT (lot, s)) [.any, .any, .any]))
    (p20 : h2 [.nd (.ins 0 6) .lnt dk0] = some (.rt (.nd .lst .own mt) [.any])) (p21 : h2 [.nd (.ins 0 6) .lnt dk1] = some (.rt (.nd .lst .own mt) [.any])) (p22 : h2 [.nd (.ins 0 6) .lnt dk2] = some (.rt (.nd .lst .own mt) [.any]))
    (p30 : h3 [.nd (.ins 0 6) .lnt dk0, .nd .lst .lnt mt, iT x, bT la] = some (.rt (rzT f0 c0) [.any, .any, .any, .any])) (p31 : h3 [.nd (.ins 0 6) .lnt dk1, .nd .lst .lnt mt, iT x, bT la] = some (.rt (rzT f1 c0) [.any, .any, .any, .any])) (p32 : h3 [.nd (.ins 0 6) .lnt dk2, .nd .lst .lnt mt, iT x, bT la] = some (.rt (rzT f2 [x, 777, 0, 0, 0, 0, s, 9]) [.any, .any, .any, .any]))
    (hf0 : f0 = .own ∨ f0 = .frz) (hf1 : f1 = .own ∨ f1 = .frz) (hf2 : f2 = .own ∨ f2 = .frz) (es : escL mt = true)
    (p4 : h4 [.nd (.ins 0 6) .own dk0, plcT false s, rcT (.cp lot x [x, 777, 0, 0, 0, 0, s, 9])] = some (.rt (iT w) [.nd (.ins 0 6) .own dk1, .any, .any]))
    (p50 : h5 [tupT c0, tupT c0] = some (.rt (bT true) [.any, .any])) (p51 : h5 [tupT [x, 777, 0, 0, 0, 0, s, 9], tupT [x, 777, 0, 0, 0, 0, s, 9]] = some (.rt (bT true) [.any, .any]))
    (p6 : h6 [.nd (.ins 0 6) .own dk1, iT w] = some (.rt (.a .non) [.nd (.ins 0 6) .own dk2, .any]))
    (s0 : 0 ≤ s) (hU : s ∉ U) (hj : ixN lg.length s = some j)
    (n8 : Nal e8) (n9 : Nal e9) (n10 : Nal e10) (n11 : Nal e11) (n12 : Nal e12) (n13 : Nal e13) :
    b_law_told_slots_1F h1 h2 h3 h4 h5 h6 (gTs (.nd (.ins 0 6) .own dk0) (.nd .lst .own lg) hd la (.nd .lst .own mt) U (.tr (iT x)) e8 e9 e10 e11 e12 e13) = some (.nx (gTs (.nd (.ins 0 6) .own dk2) (.nd .lst .own (lg.set j (rcT (.cp lot x [x, 777, 0, 0, 0, 0, s, 9])))) hd la (.nd .lst .own mt) U (.tr (iT x)) (.tr (prT (lot, s))) (.tr (iT lot)) (.tr (iT s)) (.tr (rzT f0 c0)) (.tr (tupT [x, 777, 0, 0, 0, 0, s, 9])) (.tr (iT w)))) := by
  simp only [plcT, hlS, Bool.false_eq_true, if_false, rcT, tupT, List.map_cons, List.map_nil] at *
  have k0 := cpL_iT c0
  have k1 := kidL_iT
  have k2 := escL_iT c0
  rcases hf0 with rfl | rfl <;> rcases hf1 with rfl | rfl <;> rcases hf2 with rfl | rfl <;>
    simp! [b_law_told_slots_1F, p1, p20, p21, p22, p30, p31, p32, es, p4, p50, p51, p6, s0, hU, hj, k0, k1, k2, n8.kr, n8.ke, n8.kj, n9.kr, n9.ke, n9.kj, n10.kr, n10.ke, n10.kj, n11.kr, n11.ke, n11.kj, n12.kr, n12.ke, n12.kj, n13.kr, n13.ke, n13.kj]
end
/-! the slots that are told: the loop and the whole -/
section
variable {x hd l lot s w : Int} {la : Bool} {ms : List (Nat × Rc)} {S : Sb} {H : List (List Int)} {z : GS}
abbrev cpR (lot x s : Int) : Rc := .cp lot x [x, 777, 0, 0, 0, 0, s, 9]
theorem cells_len (k : LgOk S H) (hH : ∀ c ∈ H, c.length ≤ 100000) : (cellsF S la x ms).length ≤ 100000 := by
  have hz : z8.length ≤ 100000 := by decide
  unfold cellsF
  cases liveF la x ms with
  | none =>
    show (S.hs.getD x.toNat []).length ≤ 100000
    rw [List.getD_eq_getElem?_getD, k.hs]
    cases hc : H[x.toNat]? with
    | none => simp
    | some c => exact hH c (List.mem_of_getElem? hc)
  | some p =>
    show (if 0 ≤ p.2 ∧ p.2 < 30 then cellO p.1 x (oAt S.ls p.2) else z8).length ≤ 100000
    split
    · cases hc : oAt S.ls p.2 with
      | none => exact hz
      | some r =>
        cases r with
        | mk a b c => exact hz
        | cp a b c =>
          have hm : some (Rc.cp a b c) ∈ S.ls := by
            unfold oAt at hc
            rw [List.getD_eq_getElem?_getD] at hc
            cases hq : S.ls[p.2.toNat]? with
            | none => rw [hq] at hc; cases hc
            | some o =>
              rw [hq] at hc
              have hc : o = some (Rc.cp a b c) := hc
              exact hc ▸ List.mem_of_getElem? hq
          have ok := k.rc _ hm
          have h8 : c.length = 8 := ok.2.2.2.2.1
          show (if a = p.1 ∧ b = x then c else z8).length ≤ 100000
          split
          · omega
          · exact hz
    · exact hz
theorem ts_loop (hH : ∀ c ∈ H, c.length ≤ 100000) {U : List Int} (hU : U = ms.map fun p => ((p.1 : Nat) : Int)) (k : LgOk S H) (hf : fms 40 S.ls (hd + 1) = ms) :
    ∃ S' l' e7 e8 e9 e10 e11 e12 e13, LgOk S' H ∧ fms 40 S'.ls (hd + 1) = ms ∧ loopR (bind md_law_told_slots 7) b_law_told_slots_1 10 8 0 (gTs (dkT .own S hd l []) (lgT .own S.ls) hd la (msT .own ms) U .no .no .no .no .no .no .no) = some (.nx (gTs (dkT .own S' hd l' []) (lgT .own S'.ls) hd la (msT .own ms) U e7 e8 e9 e10 e11 e12 e13)) := by
  obtain ⟨m1, q1, S', l', e7, e8, e9, e10, e11, e12, e13, _, _, _, _, _, _, _, k', hf', rfl⟩ := loopR_nx (bd := bind md_law_told_slots 7) (gs := b_law_told_slots_1) (lo := 10) (n := 8)
    (fun i m => ∃ S l e7 e8 e9 e10 e11 e12 e13, Nal e7 ∧ Nal e8 ∧ Nal e9 ∧ Nal e10 ∧ Nal e11 ∧ Nal e12 ∧ Nal e13 ∧ LgOk S H ∧ fms 40 S.ls (hd + 1) = ms ∧ m = gTs (dkT .own S hd l []) (lgT .own S.ls) hd la (msT .own ms) U e7 e8 e9 e10 e11 e12 e13)
    (m := gTs (dkT .own S hd l []) (lgT .own S.ls) hd la (msT .own ms) U .no .no .no .no .no .no .no) ⟨S, l, .no, .no, .no, .no, .no, .no, .no, nal_no, nal_no, nal_no, nal_no, nal_no, nal_no, nal_no, k, hf, rfl⟩
    (by
      rintro i m hi ⟨S, l, e7, e8, e9, e10, e11, e12, e13, n7, n8, n9, n10, n11, n12, n13, k, hf, rfl⟩
      have hb : bind md_law_told_slots 7 ⟨(gTs (dkT .own S hd l []) (lgT .own S.ls) hd la (msT .own ms) U e7 e8 e9 e10 e11 e12 e13).g, [.tr (.a (.int ((10 : Int) + i)))]⟩ = some (gTs (dkT .own S hd l []) (lgT .own S.ls) hd la (msT .own ms) U (.tr (iT ((10 : Int) + i))) e8 e9 e10 e11 e12 e13) := by
        simp only [gTs]
        generalize dkT .own S hd l [] = dk
        generalize lgT .own S.ls = lg
        generalize msT .own ms = mt
        simp! [n7.kr, n8.kr, n9.kr, n10.kr, n11.kr, n12.kr, n13.kr]
      generalize hx : (10 : Int) + i = x at *
      have x0 : 10 ≤ x := by omega
      have x1 : x < 18 := by omega
      have bB : MsB ms := by rw [← hf]; exact fms_B k 40 (hd + 1)
      have p1 := P_llive (la := la) (x := x) bB.ok (by have := bB.n; omega)
      cases hv : liveF la x ms with
      | none =>
        rw [hv] at p1
        have h := ts_none (x := x) (hd := hd) (la := la) (U := U) G_law_live G_found_marks G_cells_after G_Disk_issue G_law_same G_Disk_sure (dkT .own S hd l []) (lgT .own S.ls) (ms.map pmT) p1 n8 n9 n10 n11 n12 n13
        rw [← b_law_told_slots_1_F] at h
        exact ⟨_, _, hb, h, S, l, _, _, e9, e10, e11, e12, e13, nal_tr, nal_tr, n9, n10, n11, n12, n13, k, hf, rfl⟩
      | some p =>
        obtain ⟨lot, s⟩ := p
        rw [hv] at p1
        obtain ⟨l0, l1, s0, s1⟩ := bB.live hv
        simp only at l0 l1 s0 s1
        by_cases hs : 0 ≤ s ∧ s ∉ U
        · obtain ⟨q0, hn⟩ := hs
          have ok : RcOk (cpR lot x s) := ⟨l0, l1, by omega, by omega, rfl, fun i hi => by simp at hi; omega⟩
          have k' := k.lp s ok
          have hne : ∀ p ∈ fms 40 S.ls (hd + 1), ((p.1 : Nat) : Int) ≠ s := fun p hp e => hn (by
            rw [hU, ← hf]
            exact List.mem_map.mpr ⟨p, hp, e⟩)
          have sm := told_same (S := S) (a := s) (l := lot) (y := x) (c := [x, 777, 0, 0, 0, 0, s, 9]) (f := 40) (hd := hd + 1) q0 hne
          rw [hf] at sm
          have tc := told_cells (S := S) (la := la) (x := x) (a := s) (lot := lot) (c := [x, 777, 0, 0, 0, 0, s, 9]) (ms := ms) k.o q0 s1 hv
          have hp : PlOk (Ct.isH (.l (cpR lot x s))) s := ⟨q0, fun e => (by cases e), fun _ => s1⟩
          have w0 : WsOk l [] := ⟨by simp, by simp, by simp⟩
          have p4 := P_issue (S := S) (h := hd) (c := .l (cpR lot x s)) (t := rcT (cpR lot x s)) w0 (by simp) hp (cp_rcT _) (kid_rcT _ _) ⟨fun e => (by cases e), fun _ => P_logc ok⟩ (by simp)
          have w1 : WsOk (l + 1) ([] ++ (⟨l + 1, s, .l (cpR lot x s)⟩ : Wt) :: []) := ⟨by simp, by simp, by simp⟩
          have p6 := P_sure (S := S) (h := hd) (l := l + 1) (p := []) (q := []) (w := ⟨l + 1, s, .l (cpR lot x s)⟩) k.o w1 hp
          have e2 : S.put ⟨l + 1, s, .l (cpR lot x s)⟩ = S.lp s (cpR lot x s) := rfl
          rw [e2] at p6
          have p20 := P_found (S := S) (h := hd) (l := l) (ws := []) k.o.l
          have p21 := P_found (S := S) (h := hd) (l := l + 1) (ws := [⟨l + 1, s, .l (cpR lot x s)⟩]) k.o.l
          have p22 := P_found (S := S.lp s (cpR lot x s)) (h := hd) (l := l + 1) (ws := []) k'.o.l
          rw [hf] at p20 p21
          rw [sm] at p22
          have p30 := P_cells2 (S := S) (h := hd) (l := l) (ws := []) (la := la) (x := x) k.o bB (by omega) (by omega)
          have p31 := P_cells2 (S := S) (h := hd) (l := l + 1) (ws := [⟨l + 1, s, .l (cpR lot x s)⟩]) (la := la) (x := x) k.o bB (by omega) (by omega)
          have p32 := P_cells2 (S := S.lp s (cpR lot x s)) (h := hd) (l := l + 1) (ws := []) (la := la) (x := x) k'.o bB (by omega) (by omega)
          rw [tc] at p32
          have hc : (cellsF S la x ms).length ≤ 100000 := cells_len k hH
          have i1 := ixN_len (n := (S.ls.map slT).length) (i := s) q0 (by rw [List.length_map, k.o.l]; omega)
          have h := ts_yes (x := x) (hd := hd) (la := la) (U := U) G_law_live G_found_marks G_cells_after G_Disk_issue G_law_same G_Disk_sure _ _ _ _ _ p1 p20 p21 p22 p30 p31 p32 flC_ok flC_ok flC_ok (esL_ms ms) p4 (same_tup hc) (same_tup (by simp)) p6 q0 hn i1 n8 n9 n10 n11 n12 n13
          rw [← b_law_told_slots_1_F] at h
          have el : (S.ls.map slT).set s.toNat (rcT (cpR lot x s)) = (S.lp s (cpR lot x s)).ls.map slT := by
            simp only [Sb.lp, List.map_set]
            rfl
          rw [el] at h
          exact ⟨_, _, hb, h, S.lp s (cpR lot x s), l + 1, _, _, _, _, _, _, _, nal_tr, nal_tr, nal_tr, nal_tr, nal_tr, nal_tr, nal_tr, k', sm, rfl⟩
        · have h := ts_no (x := x) (hd := hd) (la := la) (U := U) G_law_live G_found_marks G_cells_after G_Disk_issue G_law_same G_Disk_sure (dkT .own S hd l []) (lgT .own S.ls) (ms.map pmT) p1 n8 n9 n10 n11 n12 n13 hs
          rw [← b_law_told_slots_1_F] at h
          exact ⟨_, _, hb, h, S, l, _, _, e9, e10, e11, e12, e13, nal_tr, nal_tr, n9, n10, n11, n12, n13, k, hf, rfl⟩)
  exact ⟨S', l', e7, e8, e9, e10, e11, e12, e13, k', hf', q1⟩
end
/-! the slots that are told: the whole (parts printed by partsf.py) -/
noncomputable def lt1 (h1 : GF) (z : GS) : GS := (sSeq (sSet md_law_told_slots 4 (gSeq (gSeq (gVar 1) (gSeq (gVar 2) gNil)) (gCall [] md_law_marks h1 2)))
    z)
noncomputable def lt2 (z : GS) : GS := (sSeq (sSet md_law_told_slots 5 (gLc [6] (gVar 4) (bind md_law_told_slots 6) (gC (.bl true)) e_law_told_slots_1))
    z)
noncomputable def lt3 (z : GS) : GS := (sSeq (sForR2 (gSeq (gC (.int 10)) (gSeq (gC (.int 18)) gNil)) (bind md_law_told_slots 7) b_law_told_slots_1)
    z)
noncomputable def lt4 : GS := (sRet (gC (.bl true)))
theorem e_g_law_told_slots : g_law_told_slots = lt1 G_law_marks (lt2 (lt3 (lt4))) := rfl
section
variable {x hd l lot s w : Int} {la : Bool} {ms : List (Nat × Rc)} {S : Sb} {H : List (List Int)} {z : GS}
theorem ltq1 (h1 : GF) (dk : Tr) (lg mt : List Tr) (es : escL mt = true) (p1 : h1 [.nd .lst .lnt lg, iT hd] = some (.rt (.nd .lst .own mt) [.any, .any])) :
    lt1 h1 z ⟨[.tr dk, .tr (.nd .lst .own lg), .tr (iT hd), .tr (bT la), .no, .no, .no, .no, .no, .no, .no, .no, .no, .no], []⟩ = z ⟨[.tr dk, .tr (.nd .lst .own lg), .tr (iT hd), .tr (bT la), .tr (.nd .lst .own mt), .no, .no, .no, .no, .no, .no, .no, .no, .no], []⟩ := by
  simp! [lt1, p1, es]
theorem ltq2c (hm : MsOk ms) (hn : ms.length ≤ 100) (dk lg : Tr) :
    gLc [6] (gVar 4) (bind md_law_told_slots 6) (gC (.bl true)) e_law_told_slots_1 ⟨[.tr dk, .tr lg, .tr (iT hd), .tr (bT la), .tr (msT .own ms), .no, .no, .no, .no, .no, .no, .no, .no, .no], []⟩ = some (.ok ⟨[.tr dk, .tr lg, .tr (iT hd), .tr (bT la), .tr (msT .own ms), .no, .no, .no, .no, .no, .no, .no, .no, .no], [.tr (rowT (ms.map fun p => ((p.1 : Nat) : Int)))]⟩) := by
  have h := gLcP_is (gs := gVar 4) (md := md_law_told_slots) (k := 6) (gt := gC (.bl true)) (ge := e_law_told_slots_1) (Γ := [.tr dk, .tr lg, .tr (iT hd), .tr (bT la), .tr (msT .own ms), .no, .no, .no, .no, .no, .no, .no, .no, .no]) (s := []) (xs := ms) (enc := pmT) (.al [4]) (.al [4]) .lst .own (by simp! []) (by simp! []) (by rfl) (by rfl) (by omega) rfl (by rfl) (by simp! []) rfl rfl (fun x hx => by simp [kid, kidL, cp, cpL, kid_rcT, cp_rcT]) (fun _ => true) (fun p => iT (p.1 : Nat))
    (fun x hx s' => by simp! []) (fun x hx s' _ => ⟨by
      have r0 := fun o => kid_rcT o x.2
      have r1 := cp_rcT x.2
      generalize msT .own ms = mt
      simp! [e_law_told_slots_1, r0, r1], rfl⟩)
  rw [filt_true] at h
  rw [h]
  have hmm : (ms.map fun p => iT (p.1 : Nat)) = (ms.map fun p => ((p.1 : Nat) : Int)).map iT := by rw [List.map_map]; rfl
  rw [hmm]
theorem ltq2 (hm : MsOk ms) (hn : ms.length ≤ 100) (dk lg : Tr) :
    lt2 z ⟨[.tr dk, .tr lg, .tr (iT hd), .tr (bT la), .tr (msT .own ms), .no, .no, .no, .no, .no, .no, .no, .no, .no], []⟩ = z (gTs dk lg hd la (msT .own ms) (ms.map fun p => ((p.1 : Nat) : Int)) .no .no .no .no .no .no .no) := by
  unfold lt2
  rw [sSeq_e, sSet_e, ltq2c hm hn]
  rfl
theorem ltq3 {dk lg dk' lg' : Tr} {mt : Tr} {U : List Int} {e7 e8 e9 e10 e11 e12 e13 : Ent} (q1 : loopR (bind md_law_told_slots 7) b_law_told_slots_1 10 8 0 (gTs dk lg hd la mt U .no .no .no .no .no .no .no) = some (.nx (gTs dk' lg' hd la mt U e7 e8 e9 e10 e11 e12 e13))) :
    lt3 z (gTs dk lg hd la mt U .no .no .no .no .no .no .no) = z (gTs dk' lg' hd la mt U e7 e8 e9 e10 e11 e12 e13) := by
  unfold lt3
  rw [sSeq_e, sForR2_e (k := 10) (n := 18) (Γ := (gTs dk lg hd la mt U .no .no .no .no .no .no .no).g) (s := []) rfl (by decide) (by decide) (by decide) (by decide)]
  show bS (loopR _ _ 10 8 0 (gTs dk lg hd la mt U .no .no .no .no .no .no .no)) z = _
  rw [q1]
  rfl
theorem fR_ts {dk lg a b : Ent} {rest : List Ent} {t1 t2 : Tr} (h1 : dk = .tr t1) (h2 : lg = .tr t2) (e1 : esc t1 = true) (e2 : esc t2 = true) : fR md_law_told_slots (some (.rt (bT true) ⟨dk :: lg :: a :: b :: rest, []⟩)) = some (.rt (bT true) [t1, t2, .any, .any]) := by
  subst h1
  subst h2
  simp! [e1, e2]
theorem P_told (hH : ∀ c ∈ H, c.length ≤ 100000) (k : LgOk S H) : ∃ S' l', LgOk S' H ∧ G_law_told_slots [dkT .own S hd l [], lgT .own S.ls, iT hd, bT la] = some (.rt (bT true) [dkT .own S' hd l' [], lgT .own S'.ls, .any, .any]) := by
  have b := fms_B k 40 (hd + 1)
  have p1 := P_lmarks (hd := hd) k.o.l
  obtain ⟨S', l', e7, e8, e9, e10, e11, e12, e13, k', hf', q1⟩ := ts_loop (la := la) (l := l) (hd := hd) (ms := fms 40 S.ls (hd + 1)) hH rfl k rfl
  generalize hms : fms 40 S.ls (hd + 1) = ms at *
  refine ⟨S', l', k', ?_⟩
  have all : g_law_told_slots ⟨[.tr (dkT .own S hd l []), .tr (lgT .own S.ls), .tr (iT hd), .tr (bT la), .no, .no, .no, .no, .no, .no, .no, .no, .no, .no], []⟩ = lt4 (gTs (dkT .own S' hd l' []) (lgT .own S'.ls) hd la (msT .own ms) (ms.map fun p => ((p.1 : Nat) : Int)) e7 e8 e9 e10 e11 e12 e13) := by
    rw [e_g_law_told_slots, ltq1 G_law_marks _ _ _ (esL_ms ms) p1]
    exact (ltq2 b.ok (by have := b.n; omega) (dkT .own S hd l []) (lgT .own S.ls)).trans (ltq3 q1)
  replace all := all.trans (show lt4 _ = some (.rt (bT true) _) from rfl)
  have es1 : esc (dkT .own S' hd l' []) = true := rfl
  have es2 : esc (lgT .own S'.ls) = true := rfl
  exact (run_rt (md := md_law_told_slots) (N := 14) (g := g_law_told_slots) (ts := [dkT .own S hd l [], lgT .own S.ls, iT hd, bT la]) all).trans (fR_ts rfl rfl es1 es2)
end
/-! the law: its parts (printed by partsf.py and absf.py) -/
noncomputable def lw1 (h1 : GF) (z : GS) : GS := (sSeq (sSet md_law 2 (gSeq (gSeq (gSeq (gSeq (gSeq (gSeq (gC (.int 3)) (gSeq (gC (.int 0)) (gSeq (gC (.int 999980)) (gSeq (gC (.int 40)) gNil)))) (fNew .lst 4)) (gSeq (gSeq (gVar 1) (gSeq (gC (.int 4)) gNil)) (gCall [0] md_law_pick h1 2))) fIxA) (gSeq (gSeq (gVar 1) (gSeq (gC (.int 5)) gNil)) (gCall [0] md_law_pick h1 2))) fAdd))
    z)
noncomputable def lw2 (h1 : GF) (z : GS) : GS := (sSeq (sSet md_law 3 (gSeq (gSeq (gSeq (gSeq (gVar 1) (gSeq (gC (.int 2)) gNil)) (gCall [0] md_law_pick h1 2)) (gC (.int 0))) fEq))
    z)
noncomputable def lw3 (z : GS) : GS := (sSeq (sSet md_law 4 (gLcR1 [5] (gSeq (gC (.int 24)) gNil) (bind md_law 5) (gC (.bl true)) e_law_1))
    z)
noncomputable def lw4 (z : GS) : GS := (sSeq (sSet md_law 6 (gLcR1 [7] (gSeq (gC (.int 30)) gNil) (bind md_law 7) (gC (.bl true)) e_law_2))
    z)
noncomputable def lw5 (h1 : GF) (z : GS) : GS := (sSeq (sSet md_law 8 (gSeq (gSeq (gVar 1) (gSeq (gVar 2) (gSeq (gVar 6) (gSeq (gVar 4) gNil)))) (gCall [0, 2] md_law_disk h1 4)))
    z)
noncomputable def lw6 (h1 : GF) (z : GS) : GS := (sSeq (sSet md_law 9 (gSeq (gSeq (gVar 6) (gSeq (gVar 2) gNil)) (gCall [] md_law_marks h1 2)))
    z)
noncomputable def lw7 (z : GS) : GS := (sSeq (sFor (gSeq (gSeq (gC (.bl true)) (gSeq (gC (.bl false)) gNil)) (fNew .lst 2)) (bind md_law 10) b_law_1)
    z)
noncomputable def lw8 (h1 : GF) (z : GS) : GS := (sSeq (sIf (gNot (gSeq (gSeq (gVar 8) (gSeq (gVar 6) (gSeq (gVar 2) (gSeq (gVar 4) (gSeq (gVar 3) gNil))))) (gCall [0, 1] md_law_other_slots h1 5))) (sRet (gC (.bl false))) sNil)
    z)
noncomputable def lw9 (h1 : GF) (z : GS) : GS := (sSeq (sIf (gNot (gSeq (gSeq (gVar 8) (gSeq (gVar 6) (gSeq (gVar 2) (gSeq (gVar 3) gNil)))) (gCall [0, 1] md_law_told_slots h1 4))) (sRet (gC (.bl false))) sNil)
    z)
noncomputable def lw10 (h1 : GF) (z : GS) : GS := (sSeq (sSet md_law 9 (gSeq (gSeq (gVar 6) (gSeq (gVar 2) gNil)) (gCall [] md_law_marks h1 2)))
    z)
noncomputable def lw11 (h1 h2 h3 : GF) : GS := (sRet (gSeq (gSeq (gSeq (gSeq (gVar 8) gNil) (gSeq (gSeq (gVar 3) gNil) (noEx (gCall [] md_slots_read h1 2)))) (gSeq (gSeq (gSeq (gVar 9) (gSeq (gVar 3) gNil)) (gCall [] md_law_slots h2 2)) gNil)) (gCall [] md_law_same h3 2)))
theorem e_g_law : g_law = lw1 G_law_pick (lw2 G_law_pick (lw3 (lw4 (lw5 G_law_disk (lw6 G_law_marks (lw7 (lw8 G_law_other_slots (lw9 G_law_told_slots (lw10 G_law_marks (lw11 G_slots_read G_law_slots G_law_same)))))))))) := rfl
noncomputable def b_law_1F (h1 h2 h3 h4 : GF) (c : GE) : GS := (sSeq (sSet md_law 11 (gSeq (gSeq (gVar 8) gNil) (gSeq (gSeq (gVar 10) gNil) (noEx (gCall [] md_slots_read h1 2)))))
    (sSeq (sIf (gNot (gSeq (gSeq (gVar 11) (gSeq (gSeq (gSeq (gVar 9) (gSeq (gVar 10) gNil)) (gCall [] md_law_slots h2 2)) gNil)) (gCall [] md_law_same h3 2))) (sRet (gC (.bl false))) sNil)
    (sSeq (sExpr (gSeq (gVar 11) (gSeq chkL (gSeq (gSeq (gSeq (gC (.int 5)) fNeg) gNil) fApp))))
    (sSeq (sSet md_law 12 c)
    (sIf (gNot (gSeq (gSeq (gSeq (gSeq (gVar 8) (gSeq (gVar 10) gNil)) (gCall [] md_law_all_cells h4 2)) (gSeq (gVar 12) gNil)) (gCall [] md_law_same h3 2))) (sRet (gC (.bl false))) sNil)))))
theorem b_law_1_F : b_law_1 = b_law_1F G_slots_read G_law_slots G_law_same G_law_all_cells (gLcR1 [5] (gSeq (gC (.int 24)) gNil) (bind md_law 5) (gC (.bl true)) e_law_3) := rfl
section
variable {x hd l lot s w : Int} {la wy : Bool} {fs : List Int} {ms : List (Nat × Rc)} {S : Sb} {H : List (List Int)} {z : GS}
abbrev gW (ft : Tr) (e2 e3 e4 e6 e8 e9 e10 e11 e12 : Ent) : Ms := ⟨[.no, .tr ft, e2, e3, e4, .no, e6, .no, e8, e9, e10, e11, e12], []⟩
theorem lwq1 (hf : Feed fs) : ∃ fs' hd, Feed fs' ∧ 0 ≤ hd ∧ hd ≤ 999984 ∧ ∀ z, lw1 G_law_pick z (gW (rowT fs) .no .no .no .no .no .no .no .no .no) = z (gW (rowT fs') (.tr (iT hd)) .no .no .no .no .no .no .no .no) := by
  obtain ⟨c, f1, p1, c0, c1, hf1⟩ := G_pick hf (n := 4) (by decide)
  obtain ⟨d, f2, p2, d0, d1, hf2⟩ := G_pick hf1 (n := 5) (by decide)
  have i1 := ixN_len (n := 4) (i := c) c0 c1
  have hc : c = 0 ∨ c = 1 ∨ c = 2 ∨ c = 3 := by omega
  rcases hc with rfl | rfl | rfl | rfl
  · exact ⟨f2, 3 + d, hf2, by omega, by omega, fun z => by simp! [lw1, p1, p2]⟩
  · exact ⟨f2, 0 + d, hf2, by omega, by omega, fun z => by simp! [lw1, p1, p2]⟩
  · exact ⟨f2, 999980 + d, hf2, by omega, by omega, fun z => by simp! [lw1, p1, p2]⟩
  · exact ⟨f2, 40 + d, hf2, by omega, by omega, fun z => by simp! [lw1, p1, p2]⟩
theorem lwq2 (hf : Feed fs) : ∃ fs' la, Feed fs' ∧ ∀ z, lw2 G_law_pick z (gW (rowT fs) (.tr (iT hd)) .no .no .no .no .no .no .no .no) = z (gW (rowT fs') (.tr (iT hd)) (.tr (bT la)) .no .no .no .no .no .no .no) := by
  obtain ⟨c, f1, p1, c0, c1, hf1⟩ := G_pick hf (n := 2) (by decide)
  exact ⟨f1, decide (c = 0), hf1, fun z => by simp! [lw2, p1]⟩
theorem lwq3 (ft : Tr) : lw3 z (gW ft (.tr (iT hd)) (.tr (bT la)) .no .no .no .no .no .no .no) = z (gW ft (.tr (iT hd)) (.tr (bT la)) (.tr (.nd .lst .own (H0.map tupT))) .no .no .no .no .no .no) := by
  have h := gLcR1P (ga := gSeq (gC (.int 24)) gNil) (md := md_law) (k := 5) (gt := gC (.bl true)) (ge := e_law_1) (Γ := [.no, .tr ft, .tr (iT hd), .tr (bT la), .no, .no, .no, .no, .no, .no, .no, .no, .no]) (s := []) (j := 24) (by simp! []) (by decide) (by decide) rfl (by rfl) (by simp! []) rfl (fun _ => true) (fun x => tupT (hrow x)) (fun y s' y0 y1 => by rfl) (fun y s' y0 y1 _ => ⟨by
    simp! [e_law_1, hrow], rfl⟩)
  rw [filt_true] at h
  unfold lw3
  rw [sSeq_e, sSet_e, h]
  have e1 : ((rng 0 (24 : Int).toNat).map fun x => tupT (hrow x)) = H0.map tupT := by
    unfold H0
    rw [List.map_map]
    rfl
  rw [e1]
  rfl
theorem lwq4 (ft hm : Tr) : lw4 z (gW ft (.tr (iT hd)) (.tr (bT la)) (.tr hm) .no .no .no .no .no .no) = z (gW ft (.tr (iT hd)) (.tr (bT la)) (.tr hm) (.tr (lgT .own (List.replicate 30 none))) .no .no .no .no .no) := by
  have h := gLcR1P (ga := gSeq (gC (.int 30)) gNil) (md := md_law) (k := 7) (gt := gC (.bl true)) (ge := e_law_2) (Γ := [.no, .tr ft, .tr (iT hd), .tr (bT la), .tr hm, .no, .no, .no, .no, .no, .no, .no, .no]) (s := []) (j := 30) (by simp! []) (by decide) (by decide) rfl (by rfl) (by simp! []) rfl (fun _ => true) (fun x => .a .non) (fun y s' y0 y1 => by rfl) (fun y s' y0 y1 _ => ⟨by
    simp! [e_law_2], rfl⟩)
  rw [filt_true] at h
  unfold lw4
  rw [sSeq_e, sSet_e, h]
  rfl
theorem lwq5 (h1 : GF) {f f' : List Int} (hm dk lg lg' : List Tr) (p1 : h1 [rowT f, iT hd, .nd .lst .own lg, .nd .lst .lnt hm] = some (.rt (.nd (.ins 0 6) .own dk) [rowT f', .any, .nd .lst .own lg', .any])) :
    lw5 h1 z (gW (rowT f) (.tr (iT hd)) (.tr (bT la)) (.tr (.nd .lst .own hm)) (.tr (.nd .lst .own lg)) .no .no .no .no .no) = z (gW (rowT f') (.tr (iT hd)) (.tr (bT la)) (.tr (.nd .lst .own hm)) (.tr (.nd .lst .own lg')) (.tr (.nd (.ins 0 6) .own dk)) .no .no .no .no) := by
  simp! [lw5, p1]
theorem lwq6 (h1 : GF) (ft hm dk : Tr) (lg mt : List Tr) (es : escL mt = true) {e10 e11 e12 e9 : Ent} (n9 : Nal e9) (n10 : Nal e10) (n11 : Nal e11) (n12 : Nal e12) (p1 : h1 [.nd .lst .lnt lg, iT hd] = some (.rt (.nd .lst .own mt) [.any, .any])) :
    lw6 h1 z (gW ft (.tr (iT hd)) (.tr (bT la)) (.tr hm) (.tr (.nd .lst .own lg)) (.tr dk) e9 e10 e11 e12) = z (gW ft (.tr (iT hd)) (.tr (bT la)) (.tr hm) (.tr (.nd .lst .own lg)) (.tr dk) (.tr (.nd .lst .own mt)) e10 e11 e12) := by
  simp! [lw6, p1, es, n9.kr, n9.ke, n9.kj, n10.kr, n10.ke, n10.kj, n11.kr, n11.ke, n11.kj, n12.kr, n12.ke, n12.kj]
theorem lwq8 (h1 : GF) (ft mt : Tr) (hm dk lg dk' lg' : List Tr) {e10 e11 e12 : Ent} (n10 : Nal e10) (n11 : Nal e11) (n12 : Nal e12) (p1 : h1 [.nd (.ins 0 6) .own dk, .nd .lst .own lg, iT hd, .nd .lst .lnt hm, bT la] = some (.rt (bT true) [.nd (.ins 0 6) .own dk', .nd .lst .own lg', .any, .any, .any])) :
    lw8 h1 z (gW ft (.tr (iT hd)) (.tr (bT la)) (.tr (.nd .lst .own hm)) (.tr (.nd .lst .own lg)) (.tr (.nd (.ins 0 6) .own dk)) (.tr mt) e10 e11 e12) = z (gW ft (.tr (iT hd)) (.tr (bT la)) (.tr (.nd .lst .own hm)) (.tr (.nd .lst .own lg')) (.tr (.nd (.ins 0 6) .own dk')) (.tr mt) e10 e11 e12) := by
  simp! [lw8, p1, n10.ke, n11.ke, n12.ke]
theorem lwq9 (h1 : GF) (ft mt hm : Tr) (dk lg dk' lg' : List Tr) {e10 e11 e12 : Ent} (n10 : Nal e10) (n11 : Nal e11) (n12 : Nal e12) (p1 : h1 [.nd (.ins 0 6) .own dk, .nd .lst .own lg, iT hd, bT la] = some (.rt (bT true) [.nd (.ins 0 6) .own dk', .nd .lst .own lg', .any, .any])) :
    lw9 h1 z (gW ft (.tr (iT hd)) (.tr (bT la)) (.tr hm) (.tr (.nd .lst .own lg)) (.tr (.nd (.ins 0 6) .own dk)) (.tr mt) e10 e11 e12) = z (gW ft (.tr (iT hd)) (.tr (bT la)) (.tr hm) (.tr (.nd .lst .own lg')) (.tr (.nd (.ins 0 6) .own dk')) (.tr mt) e10 e11 e12) := by
  simp! [lw9, p1, n10.ke, n11.ke, n12.ke]
theorem lwq10 (h1 : GF) (ft hm dk : Tr) (lg mt : List Tr) (es : escL mt = true) {e10 e11 e12 e9 : Ent} (n9 : Nal e9) (n10 : Nal e10) (n11 : Nal e11) (n12 : Nal e12) (p1 : h1 [.nd .lst .lnt lg, iT hd] = some (.rt (.nd .lst .own mt) [.any, .any])) :
    lw10 h1 z (gW ft (.tr (iT hd)) (.tr (bT la)) (.tr hm) (.tr (.nd .lst .own lg)) (.tr dk) e9 e10 e11 e12) = z (gW ft (.tr (iT hd)) (.tr (bT la)) (.tr hm) (.tr (.nd .lst .own lg)) (.tr dk) (.tr (.nd .lst .own mt)) e10 e11 e12) := lwq6 h1 ft hm dk lg mt es n9 n10 n11 n12 p1
theorem lwq11 (h1 h2 h3 : GF) (ft hm lg : Tr) (dk mt : List Tr) {T : List Int} {e10 e11 e12 : Ent} (p1 : h1 [.nd (.ins 0 6) .lnt dk, bT la] = some (.rt (rowT T) [.any, .any])) (p2 : h2 [.nd .lst .lnt mt, bT la] = some (.rt (rowT T) [.any, .any])) (p3 : h3 [.nd .lst .lnt (T.map iT), .nd .lst .lnt (T.map iT)] = some (.rt (bT true) [.any, .any])) :
    lw11 h1 h2 h3 (gW ft (.tr (iT hd)) (.tr (bT la)) (.tr hm) (.tr lg) (.tr (.nd (.ins 0 6) .own dk)) (.tr (.nd .lst .own mt)) e10 e11 e12) = some (.rt (bT true) (gW ft (.tr (iT hd)) (.tr (bT la)) (.tr hm) (.tr lg) (.tr (.nd (.ins 0 6) .own dk)) (.tr (.nd .lst .own mt)) e10 e11 e12)) := by
  simp! [lw11, p1, p2, p3]
end
/-! the law -/
section
variable {x hd l lot s w : Int} {la wy : Bool} {fs : List Int} {ms : List (Nat × Rc)} {S : Sb} {H : List (List Int)} {z : GS}
theorem esL_rz {f : Int → Ow} (hf : ∀ x, f x = .own ∨ f x = .frz) (D : Int → List Int) : escL ((rng 0 24).map fun x => rzT (f x) (D x)) = true := by
  rw [escL_all]
  intro t ht
  obtain ⟨y, _, rfl⟩ := List.mem_map.mp ht
  exact esc_rz (hf y) _
theorem kid_rz (o f : Ow) (r : List Int) : kid o (rzT f r) = tupT r := by simp [kid, kidL_iT]
theorem same_cells (f : Int → Ow) (D : Int → List Int) (hD : ∀ x, (D x).length ≤ 100000) :
    G_law_same [.nd .lst .lnt ((rng 0 24).map fun x => rzT (f x) (D x)), .nd .lst .lnt ((rng 0 24).map fun x => tupT (D x))] = some (.rt (bT true) [.any, .any]) := by
  refine same_ok 8 _ _ (.inr ⟨.lst, .lnt, .lnt, _, _, .inl ⟨rfl, .inl rfl⟩, .inl ⟨rfl, .inl rfl⟩, rfl, rfl, by simp, by rw [List.length_map, rng_len]; decide, fun j x y hx hy => ?_⟩)
  rw [List.getElem?_map] at hx hy
  cases hv : (rng 0 24)[j]? with
  | none => rw [hv] at hx; cases hx
  | some v =>
    rw [hv] at hx hy
    cases hx
    cases hy
    have k1 : kid .lnt (rzT (f v) (D v)) = tupT (D v) := kid_rz _ _ _
    have k2 : kid .lnt (tupT (D v)) = tupT (D v) := kid_rz _ _ _
    have c1 : cp (tupT (D v)) = true := cpL_iT _
    rw [k1, k2, k2]
    exact ⟨c1, c1, c1, c1, sm_tupR (m := 5) (hD v)⟩
theorem lw_due (hG : GF) (ft dk : Tr) (hm lg mt : List Tr) (D : Int → List Int) {e11 e12 : Ent} (n11 : Nal e11) (n12 : Nal e12) (la : Bool) (pc : ∀ x, 0 ≤ x → x < 24 → hG [.nd .lst .lnt lg, .nd .lst .lnt mt, .nd .lst .lnt hm, iT x, bT wy] = some (.rt (tupT (D x)) [.any, .any, .any, .any, .any])) (st : List Ent) (hst : st.map (killR 5) = st) :
    gLcR1 [5] (gSeq (gC (.int 24)) gNil) (bind md_law 5) (gC (.bl true)) (e_law_3F hG) ⟨[.no, .tr ft, .tr (iT hd), .tr (bT la), .tr (.nd .lst .own hm), .no, .tr (.nd .lst .own lg), .no, .tr dk, .tr (.nd .lst .own mt), .tr (bT wy), e11, e12], st⟩ = some (.ok ⟨[.no, .tr ft, .tr (iT hd), .tr (bT la), .tr (.nd .lst .own hm), .no, .tr (.nd .lst .own lg), .no, .tr dk, .tr (.nd .lst .own mt), .tr (bT wy), e11, e12], .tr (.nd .lst .own ((rng 0 24).map fun x => tupT (D x))) :: st⟩) := by
  have h := gLcR1P (ga := gSeq (gC (.int 24)) gNil) (md := md_law) (k := 5) (gt := gC (.bl true)) (ge := e_law_3F hG) (Γ := [.no, .tr ft, .tr (iT hd), .tr (bT la), .tr (.nd .lst .own hm), .no, .tr (.nd .lst .own lg), .no, .tr dk, .tr (.nd .lst .own mt), .tr (bT wy), e11, e12]) (s := st) (j := 24) (by simp! []) (by decide) (by decide) rfl (by rfl) (by simp! [n11.kr, n12.kr]) hst (fun _ => true) (fun x => tupT (D x)) (fun y s' y0 y1 => by rfl) (fun y s' y0 y1 _ => ⟨by
    have p := pc y y0 y1
    simp! [e_law_3F, p], by simp [esc]⟩)
  rw [filt_true] at h
  exact h
theorem lw_turn (h1 h2 h3 h4 : GF) (c : GE) (ft : Tr) (hm dk lg mt ct du st0 : List Tr) {T : List Int} {e11 e12 : Ent} (n11 : Nal e11) (n12 : Nal e12) (hT : T.length ≤ 1000) (ed : escL du = true)
    (p1 : h1 [.nd (.ins 0 6) .lnt dk, bT wy] = some (.rt (rowT T) [.any, .any])) (p2 : h2 [.nd .lst .lnt mt, bT wy] = some (.rt (rowT T) [.any, .any])) (p3 : h3 [.nd .lst .lnt (T.map iT), .nd .lst .lnt (T.map iT)] = some (.rt (bT true) [.any, .any]))
    (p4 : h4 [.nd (.ins 0 6) .lnt dk, bT wy] = some (.rt (.nd .lst .own ct) [.any, .any])) (p5 : h3 [.nd .lst .lnt ct, .nd .lst .lnt du] = some (.rt (bT true) [.any, .any]))
    (hc : ∀ T' : List Int, c ⟨[.no, .tr ft, .tr (iT hd), .tr (bT la), .tr (.nd .lst .own hm), .no, .tr (.nd .lst .own lg), .no, .tr (.nd (.ins 0 6) .own dk), .tr (.nd .lst .own mt), .tr (bT wy), .tr (rowT T'), e12], [.tr (.nd .lst .lnt st0)]⟩ = some (.ok ⟨[.no, .tr ft, .tr (iT hd), .tr (bT la), .tr (.nd .lst .own hm), .no, .tr (.nd .lst .own lg), .no, .tr (.nd (.ins 0 6) .own dk), .tr (.nd .lst .own mt), .tr (bT wy), .tr (rowT T'), e12], .tr (.nd .lst .own du) :: [.tr (.nd .lst .lnt st0)]⟩)) :
    b_law_1F h1 h2 h3 h4 c ⟨(gW ft (.tr (iT hd)) (.tr (bT la)) (.tr (.nd .lst .own hm)) (.tr (.nd .lst .own lg)) (.tr (.nd (.ins 0 6) .own dk)) (.tr (.nd .lst .own mt)) (.tr (bT wy)) e11 e12).g, [.tr (.nd .lst .lnt st0)]⟩ = some (.nx ⟨(gW ft (.tr (iT hd)) (.tr (bT la)) (.tr (.nd .lst .own hm)) (.tr (.nd .lst .own lg)) (.tr (.nd (.ins 0 6) .own dk)) (.tr (.nd .lst .own mt)) (.tr (bT wy)) (.tr (rowT (T ++ [-5]))) (.tr (.nd .lst .own du))).g, [.tr (.nd .lst .lnt st0)]⟩) := by
  have hs : T.length < sizeLine := by rw [sizeLine_eq]; omega
  have hc' := hc (T ++ [-5])
  simp! [b_law_1F, p1, p2, p3, p4, p5, hs, hc', ed, n11.kr, n11.ke, n11.kj, n12.kr, n12.ke, n12.kj]
end
/-! the law: the two ways, and the whole -/
section
variable {x hd l lot s w : Int} {la wy : Bool} {fs : List Int} {ms : List (Nat × Rc)} {S : Sb} {H : List (List Int)} {z : GS}
theorem way_turn (hH : ∀ c ∈ H, c.length ≤ 100000) (k : LgOk S H) (hms : fms 40 S.ls (hd + 1) = ms) (ft : Tr) (st0 : List Tr) (wy : Bool) {e11 e12 : Ent} (n11 : Nal e11) (n12 : Nal e12) :
    ∃ e11' e12', Nal e11' ∧ Nal e12' ∧ b_law_1 ⟨(gW ft (.tr (iT hd)) (.tr (bT la)) (.tr (.nd .lst .own (H.map tupT))) (.tr (lgT .own S.ls)) (.tr (dkT .own S hd l [])) (.tr (msT .own ms)) (.tr (bT wy)) e11 e12).g, [.tr (.nd .lst .lnt st0)]⟩ = some (.nx ⟨(gW ft (.tr (iT hd)) (.tr (bT la)) (.tr (.nd .lst .own (H.map tupT))) (.tr (lgT .own S.ls)) (.tr (dkT .own S hd l [])) (.tr (msT .own ms)) (.tr (bT wy)) e11' e12').g, [.tr (.nd .lst .lnt st0)]⟩) := by
  have b := fms_B k 40 (hd + 1)
  have p1 := P_slots (S := S) (h := hd) (l := l) (la := wy) (ws := []) k.o
  have p4 := P_allcells (S := S) (h := hd) (l := l) (la := wy) (ws := []) k.o b
  rw [hms] at b p1 p4
  have p2 := P_lslots (la := wy) b.ok b.n b.nd
  have pc : ∀ x, 0 ≤ x → x < 24 → G_law_cells [lgT .lnt S.ls, msT .lnt ms, .nd .lst .lnt (H.map tupT), iT x, bT wy] = some (.rt (tupT (cellsF S wy x ms)) [.any, .any, .any, .any, .any]) := fun x x0 x1 => by
    have := P_lcells (la := wy) k.o b x0 x1
    rwa [k.hs] at this
  have hc : ∀ T' : List Int, _ := fun T' => lw_due (hd := hd) (wy := wy) G_law_cells ft (dkT .own S hd l []) (H.map tupT) (S.ls.map slT) (ms.map pmT) (fun x => cellsF S wy x ms) (e11 := .tr (rowT T')) (e12 := e12) nal_tr n12 la pc [.tr (.nd .lst .lnt st0)] rfl
  rw [← e_law_3_F] at hc
  have hT : (srtX (slotsF wy ms)).length ≤ 1000 := by
    have h1 : (srtX (slotsF wy ms)).length = (ddp (slotsF wy ms)).length := (sortI_perm _).length_eq
    have h2 : ∀ l : List Int, (ddp l).length ≤ l.length := by
      intro l
      induction l with
      | nil => simp [ddp]
      | cons a l ih =>
        unfold ddp
        split
        · simp only [List.length_cons]; omega
        · simp only [List.length_cons]; omega
    have h3 : (slotsF wy ms).length ≤ 54 := by
      have := filterMap_len (lsl wy ms) (rng 0 24)
      rw [rng_len] at this
      have := b.n
      unfold slotsF
      rw [List.length_append, List.length_map]
      omega
    have := h2 (slotsF wy ms)
    omega
  have ed : escL ((rng 0 24).map fun x => tupT (cellsF S wy x ms)) = true := esL_rz (f := fun _ => .own) (fun _ => .inl rfl) _
  have p5 := same_cells (fun x => flC S hd l [] wy ms x) (fun x => cellsF S wy x ms) (fun x => cells_len k hH)
  have h := lw_turn (hd := hd) (la := la) (wy := wy) G_slots_read G_law_slots G_law_same G_law_all_cells _ ft (H.map tupT) _ (S.ls.map slT) (ms.map pmT) _ _ st0 n11 n12 hT ed p1 p2 (same_row (by omega)) p4 p5 hc
  rw [← b_law_1_F] at h
  exact ⟨_, _, nal_tr, nal_tr, h⟩
theorem lwq7 (hH : ∀ c ∈ H, c.length ≤ 100000) (k : LgOk S H) (hms : fms 40 S.ls (hd + 1) = ms) (ft : Tr) :
    ∃ e10 e11 e12, Nal e10 ∧ Nal e11 ∧ Nal e12 ∧ ∀ z, lw7 z (gW ft (.tr (iT hd)) (.tr (bT la)) (.tr (.nd .lst .own (H.map tupT))) (.tr (lgT .own S.ls)) (.tr (dkT .own S hd l [])) (.tr (msT .own ms)) .no .no .no) = z (gW ft (.tr (iT hd)) (.tr (bT la)) (.tr (.nd .lst .own (H.map tupT))) (.tr (lgT .own S.ls)) (.tr (dkT .own S hd l [])) (.tr (msT .own ms)) e10 e11 e12) := by
  obtain ⟨Γ', ⟨e10, e11, e12, n10, n11, n12, rfl⟩, h1⟩ := loopE_pre (gs := b_law_1) (bd := bind md_law 10) (s := []) (xs := [true, false]) (enc := bT) (.tr (.nd .lst .lnt [bT true, bT false])) .lst .lnt
    (fun p Γ => ∃ e10 e11 e12, Nal e10 ∧ Nal e11 ∧ Nal e12 ∧ Γ = (gW ft (.tr (iT hd)) (.tr (bT la)) (.tr (.nd .lst .own (H.map tupT))) (.tr (lgT .own S.ls)) (.tr (dkT .own S hd l [])) (.tr (msT .own ms)) e10 e11 e12).g)
    (fun p Γ _ => rfl) rfl (fun x _ => rfl) (Γ := (gW ft (.tr (iT hd)) (.tr (bT la)) (.tr (.nd .lst .own (H.map tupT))) (.tr (lgT .own S.ls)) (.tr (dkT .own S hd l [])) (.tr (msT .own ms)) .no .no .no).g)
    (by
      rintro p y q Γ hx ⟨e10, e11, e12, n10, n11, n12, rfl⟩
      obtain ⟨e11', e12', n11', n12', ht⟩ := way_turn (la := la) (l := l) hH k hms ft [bT true, bT false] y n11 n12
      refine ⟨_, _, ?_, ⟨.tr (bT y), e11', e12', nal_tr, n11', n12', rfl⟩, .inl ht⟩
      generalize dkT .own S hd l [] = dk
      generalize lgT .own S.ls = lg
      generalize msT .own ms = mt
      generalize (Tr.nd .lst .own (H.map tupT)) = hm
      simp! [n10.kr, n11.kr, n12.kr])
    ⟨.no, .no, .no, nal_no, nal_no, nal_no, rfl⟩
  refine ⟨e10, e11, e12, n10, n11, n12, fun z => ?_⟩
  unfold lw7
  rw [sSeq_e]
  have e1 : sFor (gSeq (gSeq (gC (.bl true)) (gSeq (gC (.bl false)) gNil)) (fNew .lst 2)) (bind md_law 10) b_law_1 (gW ft (.tr (iT hd)) (.tr (bT la)) (.tr (.nd .lst .own (H.map tupT))) (.tr (lgT .own S.ls)) (.tr (dkT .own S hd l [])) (.tr (msT .own ms)) .no .no .no) = loopE .lst (bind md_law 10) b_law_1 2 0 ⟨(gW ft (.tr (iT hd)) (.tr (bT la)) (.tr (.nd .lst .own (H.map tupT))) (.tr (lgT .own S.ls)) (.tr (dkT .own S hd l [])) (.tr (msT .own ms)) .no .no .no).g, [.tr (.nd .lst .lnt [bT true, bT false])]⟩ := rfl
  rw [e1]
  erw [h1]
  rfl
theorem H0_small : ∀ c ∈ H0, c.length ≤ 100000 := fun c hc => by
  obtain ⟨x, _, rfl⟩ := List.mem_map.mp hc
  exact (by decide : (8 : Nat) ≤ 100000)
end
theorem lawIs : ∀ fs, Feed fs → ∃ m, g_law (feedG 11 fs) = some (.rt (bT true) m) := by
  intro fs hf
  obtain ⟨f1, hd, hf1, h0, h1, z1⟩ := lwq1 hf
  obtain ⟨f2, la, hf2, z2⟩ := lwq2 (hd := hd) hf1
  obtain ⟨f3, S, l, hf3, k, pd⟩ := P_ldisk hf2 h0 h1
  have b := fms_B k 40 (hd + 1)
  have p6 := P_lmarks (hd := hd) k.o.l
  obtain ⟨e10, e11, e12, n10, n11, n12, z7⟩ := lwq7 (hd := hd) (la := la) (l := l) H0_small k rfl (rowT f3)
  obtain ⟨S1, l1, k1, po⟩ := P_other (l := l) (la := la) k h0 h1
  obtain ⟨S2, l2, k2, pt⟩ := P_told (hd := hd) (l := l1) (la := la) H0_small k1
  have b2 := fms_B k2 40 (hd + 1)
  have p10 := P_lmarks (hd := hd) k2.o.l
  have q1 := P_slots (S := S2) (h := hd) (l := l2) (la := la) (ws := []) k2.o
  have q2 := P_lslots (la := la) b2.ok b2.n b2.nd
  have q3 := same_row (slots_len (la := la) b2.n)
  have h5 := fun z => lwq5 (la := la) (z := z) G_law_disk _ _ _ _ pd
  have h6 := fun z => lwq6 (la := la) (z := z) G_law_marks (rowT f3) (.nd .lst .own (H0.map tupT)) (dkT .own S hd l []) (S.ls.map slT) _ (esL_ms _) nal_no nal_no nal_no nal_no p6
  have h8 := fun z => lwq8 (z := z) G_law_other_slots (rowT f3) (msT .own (fms 40 S.ls (hd + 1))) _ _ _ _ _ n10 n11 n12 po
  have h9 := fun z => lwq9 (z := z) G_law_told_slots (rowT f3) (msT .own (fms 40 S.ls (hd + 1))) (.nd .lst .own (H0.map tupT)) _ _ _ _ n10 n11 n12 pt
  have h10 := fun z => lwq10 (la := la) (z := z) G_law_marks (rowT f3) (.nd .lst .own (H0.map tupT)) (dkT .own S2 hd l2 []) (S2.ls.map slT) _ (esL_ms _) (e9 := .tr (msT .own (fms 40 S.ls (hd + 1)))) nal_tr n10 n11 n12 p10
  have h11 := lwq11 (hd := hd) (la := la) G_slots_read G_law_slots G_law_same (rowT f3) (.nd .lst .own (H0.map tupT)) (lgT .own S2.ls) _ ((fms 40 S2.ls (hd + 1)).map pmT) (e10 := e10) (e11 := e11) (e12 := e12) q1 q2 q3
  refine ⟨gW (rowT f3) (.tr (iT hd)) (.tr (bT la)) (.tr (.nd .lst .own (H0.map tupT))) (.tr (lgT .own S2.ls)) (.tr (dkT .own S2 hd l2 [])) (.tr (msT .own (fms 40 S2.ls (hd + 1)))) e10 e11 e12, ?_⟩
  rw [e_g_law]
  show lw1 _ _ (gW (rowT fs) .no .no .no .no .no .no .no .no .no) = _
  rw [z1, z2, lwq3, lwq4]
  exact (h5 _).trans ((h6 _).trans ((z7 _).trans ((h8 _).trans ((h9 _).trans ((h10 _).trans h11)))))
section
variable {P : Program} {w : World} {K : PySem.W.Frag} {mg : Str → Option Value} {base : Heap}
theorem ok_law (T : Txt K mg) : FnOk P w K mg base CX0 12 T.a_law T.fd_law ["_law_script"] (spLaw K) := ok_law_of lawIs T
end
theorem Vals.app {vs zs : List V} {us ws : List Value} (h : Vals vs us) (k : Vals zs ws) : Vals (vs ++ zs) (us ++ ws) := by
  induction h with
  | nil => exact k
  | cons r _ ih => exact .cons r ih
theorem fun_kbn {K : PySem.W.Frag} {x qual : Str} {st : Stmt} {f : Addr} {fd : FuncData} {ps ks : List Str} {n : Nat} (F : Fun K x qual st f fd)
    (h : ∀ (kV doc pm : Value) (an : Option Addr) (cdv ct : Value) (us ws : List Value), us.length = n → ws.length = ks.length → bindArgs (PySem.W.fnOf x qual (defArgs st) (defBody st) (defScope st) .none kV doc pm an cdv ct) ⟨us, ks.zip ws⟩ = pure (ps.zip (us ++ ws))) :
    KBn K fd ps n ks (fun us ws => us ++ ws) (fun vs zs => vs ++ zs) := by
  obtain ⟨oc, od, kV, doc, pm, an, cdv, ct, osl, rfl, lk, hcd⟩ := F.ex
  exact ⟨fun s us ws _ l1 l2 => .of_eq (h kV doc pm an cdv ct us ws l1 l2), fun r1 r2 => Vals.app r1 r2⟩
theorem txt_mk {K : PySem.W.Frag} {h : Heap} {mg : Str → Option Value} (X : K.In h) (G : h.Ns mainGlobals mg)
    {c_Disk : Addr}
    {c_Plan : Addr}
    {f0 : Addr} {od0 an0 : Option Addr} {sl0 : Array (Option Value)} {oc0 kV0 dc0 pm0 cd0 ct0 : Value}
    {f1 : Addr} {od1 an1 : Option Addr} {sl1 : Array (Option Value)} {oc1 kV1 dc1 pm1 cd1 ct1 : Value}
    {f2 : Addr} {od2 an2 : Option Addr} {sl2 : Array (Option Value)} {oc2 kV2 dc2 pm2 cd2 ct2 : Value}
    {f3 : Addr} {od3 an3 : Option Addr} {sl3 : Array (Option Value)} {oc3 kV3 dc3 pm3 cd3 ct3 : Value}
    {f4 : Addr} {od4 an4 : Option Addr} {sl4 : Array (Option Value)} {oc4 kV4 dc4 pm4 cd4 ct4 : Value}
    {f5 : Addr} {od5 an5 : Option Addr} {sl5 : Array (Option Value)} {oc5 kV5 dc5 pm5 cd5 ct5 : Value}
    {f6 : Addr} {od6 an6 : Option Addr} {sl6 : Array (Option Value)} {oc6 kV6 dc6 pm6 cd6 ct6 : Value}
    {f7 : Addr} {od7 an7 : Option Addr} {sl7 : Array (Option Value)} {oc7 kV7 dc7 pm7 cd7 ct7 : Value}
    {f8 : Addr} {od8 an8 : Option Addr} {sl8 : Array (Option Value)} {oc8 kV8 dc8 pm8 cd8 ct8 : Value}
    {f9 : Addr} {od9 an9 : Option Addr} {sl9 : Array (Option Value)} {oc9 kV9 dc9 pm9 cd9 ct9 : Value}
    {f10 : Addr} {od10 an10 : Option Addr} {sl10 : Array (Option Value)} {oc10 kV10 dc10 pm10 cd10 ct10 : Value}
    {f11 : Addr} {od11 an11 : Option Addr} {sl11 : Array (Option Value)} {oc11 kV11 dc11 pm11 cd11 ct11 : Value}
    {f12 : Addr} {od12 an12 : Option Addr} {sl12 : Array (Option Value)} {oc12 kV12 dc12 pm12 cd12 ct12 : Value}
    {f13 : Addr} {od13 an13 : Option Addr} {sl13 : Array (Option Value)} {oc13 kV13 dc13 pm13 cd13 ct13 : Value}
    {f14 : Addr} {od14 an14 : Option Addr} {sl14 : Array (Option Value)} {oc14 kV14 dc14 pm14 cd14 ct14 : Value}
    {f15 : Addr} {od15 an15 : Option Addr} {sl15 : Array (Option Value)} {oc15 kV15 dc15 pm15 cd15 ct15 : Value}
    {f16 : Addr} {od16 an16 : Option Addr} {sl16 : Array (Option Value)} {oc16 kV16 dc16 pm16 cd16 ct16 : Value}
    {f17 : Addr} {od17 an17 : Option Addr} {sl17 : Array (Option Value)} {oc17 kV17 dc17 pm17 cd17 ct17 : Value}
    {f18 : Addr} {od18 an18 : Option Addr} {sl18 : Array (Option Value)} {oc18 kV18 dc18 pm18 cd18 ct18 : Value}
    {f19 : Addr} {od19 an19 : Option Addr} {sl19 : Array (Option Value)} {oc19 kV19 dc19 pm19 cd19 ct19 : Value}
    {f20 : Addr} {od20 an20 : Option Addr} {sl20 : Array (Option Value)} {oc20 kV20 dc20 pm20 cd20 ct20 : Value}
    {f21 : Addr} {od21 an21 : Option Addr} {sl21 : Array (Option Value)} {oc21 kV21 dc21 pm21 cd21 ct21 : Value}
    {f22 : Addr} {od22 an22 : Option Addr} {sl22 : Array (Option Value)} {oc22 kV22 dc22 pm22 cd22 ct22 : Value}
    {f23 : Addr} {od23 an23 : Option Addr} {sl23 : Array (Option Value)} {oc23 kV23 dc23 pm23 cd23 ct23 : Value}
    {f24 : Addr} {od24 an24 : Option Addr} {sl24 : Array (Option Value)} {oc24 kV24 dc24 pm24 cd24 ct24 : Value}
    {f25 : Addr} {od25 an25 : Option Addr} {sl25 : Array (Option Value)} {oc25 kV25 dc25 pm25 cd25 ct25 : Value}
    {f26 : Addr} {od26 an26 : Option Addr} {sl26 : Array (Option Value)} {oc26 kV26 dc26 pm26 cd26 ct26 : Value}
    {f27 : Addr} {od27 an27 : Option Addr} {sl27 : Array (Option Value)} {oc27 kV27 dc27 pm27 cd27 ct27 : Value}
    {f28 : Addr} {od28 an28 : Option Addr} {sl28 : Array (Option Value)} {oc28 kV28 dc28 pm28 cd28 ct28 : Value}
    {f29 : Addr} {od29 an29 : Option Addr} {sl29 : Array (Option Value)} {oc29 kV29 dc29 pm29 cd29 ct29 : Value}
    {f30 : Addr} {od30 an30 : Option Addr} {sl30 : Array (Option Value)} {oc30 kV30 dc30 pm30 cd30 ct30 : Value}
    {f31 : Addr} {od31 an31 : Option Addr} {sl31 : Array (Option Value)} {oc31 kV31 dc31 pm31 cd31 ct31 : Value}
    {f32 : Addr} {od32 an32 : Option Addr} {sl32 : Array (Option Value)} {oc32 kV32 dc32 pm32 cd32 ct32 : Value}
    {f33 : Addr} {od33 an33 : Option Addr} {sl33 : Array (Option Value)} {oc33 kV33 dc33 pm33 cd33 ct33 : Value}
    {f34 : Addr} {od34 an34 : Option Addr} {sl34 : Array (Option Value)} {oc34 kV34 dc34 pm34 cd34 ct34 : Value}
    {f35 : Addr} {od35 an35 : Option Addr} {sl35 : Array (Option Value)} {oc35 kV35 dc35 pm35 cd35 ct35 : Value}
    {f36 : Addr} {od36 an36 : Option Addr} {sl36 : Array (Option Value)} {oc36 kV36 dc36 pm36 cd36 ct36 : Value}
    {f37 : Addr} {od37 an37 : Option Addr} {sl37 : Array (Option Value)} {oc37 kV37 dc37 pm37 cd37 ct37 : Value}
    {c_NOUGHTS : Addr} {odc_NOUGHTS : Option Addr} {nc_NOUGHTS : Nat} {slc_NOUGHTS : Array (Option Value)}
    {tkc_NOUGHTS_0 : Tok}
    {tkc_NOUGHTS_1 : Tok}
    {tkc_NOUGHTS_2 : Tok}
    {tkc_NOUGHTS_3 : Tok}
    {tkc_NOUGHTS_4 : Tok}
    {tkc_NOUGHTS_5 : Tok}
    {tkc_NOUGHTS_6 : Tok}
    {tkc_NOUGHTS_7 : Tok}
    {t_MOST_CELL : Tok}
    {t_MOST_LOT : Tok}
    {t_LAST_BLOCK : Tok}
    {t_LAST_SLOT : Tok}
    {t_NO_SLOT : Tok}
    {e_BadValue : Addr}
    {e_NoWrite : Addr}
    {e_PlaceBusy : Addr}
    (aC_Disk : PySem.W.nsIn K mainGlobals "Disk" = some (some (.ref c_Disk)))
    (pg_Disk : PySem.W.plainGet K c_Disk Str.empty = true)
    (hd_Disk : PySem.W.hasDictIn K c_Disk = true)
    (po_Disk : PySem.W.plainOver K c_Disk = true)
    (sa_Disk : PySem.W.findIn K (.ref c_Disk) "__setattr__" = some (some (.builtin "object.__setattr__")))
    (mk_Disk : PySem.W.makesIn K c_Disk = true)
    (kc_Disk : PySem.W.keepIn K (.ref c_Disk) = true)
    (nf_Disk_plan : PySem.W.findIn K (.ref c_Disk) "plan" = some none)
    (nf_Disk_home : PySem.W.findIn K (.ref c_Disk) "home" = some none)
    (nf_Disk_log : PySem.W.findIn K (.ref c_Disk) "log" = some none)
    (nf_Disk_head : PySem.W.findIn K (.ref c_Disk) "head" = some none)
    (nf_Disk_last : PySem.W.findIn K (.ref c_Disk) "last" = some none)
    (nf_Disk_writes : PySem.W.findIn K (.ref c_Disk) "_writes" = some none)
    (aC_Plan : PySem.W.nsIn K mainGlobals "Plan" = some (some (.ref c_Plan)))
    (pg_Plan : PySem.W.plainGet K c_Plan Str.empty = true)
    (hd_Plan : PySem.W.hasDictIn K c_Plan = true)
    (po_Plan : PySem.W.plainOver K c_Plan = true)
    (sa_Plan : PySem.W.findIn K (.ref c_Plan) "__setattr__" = some (some (.builtin "object.__setattr__")))
    (mk_Plan : PySem.W.makesIn K c_Plan = true)
    (kc_Plan : PySem.W.keepIn K (.ref c_Plan) = true)
    (nf_Plan_blocks : PySem.W.findIn K (.ref c_Plan) "blocks" = some none)
    (nf_Plan_nodes : PySem.W.findIn K (.ref c_Plan) "nodes" = some none)
    (nf_Plan_slots : PySem.W.findIn K (.ref c_Plan) "slots" = some none)
    (nf_Plan_maps : PySem.W.findIn K (.ref c_Plan) "maps" = some none)
    (nf_Plan_first_node : PySem.W.findIn K (.ref c_Plan) "first_node" = some none)
    (nf_Plan_first_data : PySem.W.findIn K (.ref c_Plan) "first_data" = some none)
    (a0 : PySem.W.nsIn K mainGlobals "find_mark" = some (some (.ref f0)))
    (l0 : K.lookup f0 = some ⟨oc0, od0, .func (PySem.W.fnOf "find_mark" "find_mark" (defArgs s_find_mark) (defBody s_find_mark) (defScope s_find_mark) .none kV0 dc0 pm0 an0 cd0 ct0), sl0⟩)
    (c0 : PySem.W.codeIn K cd0 "find_mark" = true)
    (k0 : PySem.W.keepIn K (.ref f0) = true)
    (a1 : PySem.W.nsIn K mainGlobals "found_marks" = some (some (.ref f1)))
    (l1 : K.lookup f1 = some ⟨oc1, od1, .func (PySem.W.fnOf "found_marks" "found_marks" (defArgs s_found_marks) (defBody s_found_marks) (defScope s_found_marks) .none kV1 dc1 pm1 an1 cd1 ct1), sl1⟩)
    (c1 : PySem.W.codeIn K cd1 "found_marks" = true)
    (k1 : PySem.W.keepIn K (.ref f1) = true)
    (a2 : PySem.W.nsIn K mainGlobals "live_copy" = some (some (.ref f2)))
    (l2 : K.lookup f2 = some ⟨oc2, od2, .func (PySem.W.fnOf "live_copy" "live_copy" (defArgs s_live_copy) (defBody s_live_copy) (defScope s_live_copy) .none kV2 dc2 pm2 an2 cd2 ct2), sl2⟩)
    (c2 : PySem.W.codeIn K cd2 "live_copy" = true)
    (k2 : PySem.W.keepIn K (.ref f2) = true)
    (a3 : PySem.W.nsIn K mainGlobals "cells_after" = some (some (.ref f3)))
    (l3 : K.lookup f3 = some ⟨oc3, od3, .func (PySem.W.fnOf "cells_after" "cells_after" (defArgs s_cells_after) (defBody s_cells_after) (defScope s_cells_after) .none kV3 dc3 pm3 an3 cd3 ct3), sl3⟩)
    (c3 : PySem.W.codeIn K cd3 "cells_after" = true)
    (k3 : PySem.W.keepIn K (.ref f3) = true)
    (a4 : PySem.W.nsIn K mainGlobals "slots_read" = some (some (.ref f4)))
    (l4 : K.lookup f4 = some ⟨oc4, od4, .func (PySem.W.fnOf "slots_read" "slots_read" (defArgs s_slots_read) (defBody s_slots_read) (defScope s_slots_read) .none kV4 dc4 pm4 an4 cd4 ct4), sl4⟩)
    (c4 : PySem.W.codeIn K cd4 "slots_read" = true)
    (k4 : PySem.W.keepIn K (.ref f4) = true)
    (a5 : PySem.W.nsIn K mainGlobals "is_within" = some (some (.ref f5)))
    (l5 : K.lookup f5 = some ⟨oc5, od5, .func (PySem.W.fnOf "is_within" "is_within" (defArgs s_is_within) (defBody s_is_within) (defScope s_is_within) .none kV5 dc5 pm5 an5 cd5 ct5), sl5⟩)
    (c5 : PySem.W.codeIn K cd5 "is_within" = true)
    (k5 : PySem.W.keepIn K (.ref f5) = true)
    (a6 : PySem.W.nsIn K mainGlobals "is_row_of_cells" = some (some (.ref f6)))
    (l6 : K.lookup f6 = some ⟨oc6, od6, .func (PySem.W.fnOf "is_row_of_cells" "is_row_of_cells" (defArgs s_is_row_of_cells) (defBody s_is_row_of_cells) (defScope s_is_row_of_cells) .none kV6 dc6 pm6 an6 cd6 ct6), sl6⟩)
    (c6 : PySem.W.codeIn K cd6 "is_row_of_cells" = true)
    (k6 : PySem.W.keepIn K (.ref f6) = true)
    (a7 : PySem.W.nsIn K mainGlobals "are_blocks" = some (some (.ref f7)))
    (l7 : K.lookup f7 = some ⟨oc7, od7, .func (PySem.W.fnOf "are_blocks" "are_blocks" (defArgs s_are_blocks) (defBody s_are_blocks) (defScope s_are_blocks) .none kV7 dc7 pm7 an7 cd7 ct7), sl7⟩)
    (c7 : PySem.W.codeIn K cd7 "are_blocks" = true)
    (k7 : PySem.W.keepIn K (.ref f7) = true)
    (a8 : PySem.W.nsIn K mainGlobals "are_copies" = some (some (.ref f8)))
    (l8 : K.lookup f8 = some ⟨oc8, od8, .func (PySem.W.fnOf "are_copies" "are_copies" (defArgs s_are_copies) (defBody s_are_copies) (defScope s_are_copies) .none kV8 dc8 pm8 an8 cd8 ct8), sl8⟩)
    (c8 : PySem.W.codeIn K cd8 "are_copies" = true)
    (k8 : PySem.W.keepIn K (.ref f8) = true)
    (a9 : PySem.W.nsIn K mainGlobals "check_record" = some (some (.ref f9)))
    (l9 : K.lookup f9 = some ⟨oc9, od9, .func (PySem.W.fnOf "check_record" "check_record" (defArgs s_check_record) (defBody s_check_record) (defScope s_check_record) .none kV9 dc9 pm9 an9 cd9 ct9), sl9⟩)
    (c9 : PySem.W.codeIn K cd9 "check_record" = true)
    (k9 : PySem.W.keepIn K (.ref f9) = true)
    (a10 : PySem.W.nsIn K mainGlobals "fits_plan" = some (some (.ref f10)))
    (l10 : K.lookup f10 = some ⟨oc10, od10, .func (PySem.W.fnOf "fits_plan" "fits_plan" (defArgs s_fits_plan) (defBody s_fits_plan) (defScope s_fits_plan) .none kV10 dc10 pm10 an10 cd10 ct10), sl10⟩)
    (c10 : PySem.W.codeIn K cd10 "fits_plan" = true)
    (k10 : PySem.W.keepIn K (.ref f10) = true)
    (a11 : PySem.W.nsIn K mainGlobals "is_place" = some (some (.ref f11)))
    (l11 : K.lookup f11 = some ⟨oc11, od11, .func (PySem.W.fnOf "is_place" "is_place" (defArgs s_is_place) (defBody s_is_place) (defScope s_is_place) .none kV11 dc11 pm11 an11 cd11 ct11), sl11⟩)
    (c11 : PySem.W.codeIn K cd11 "is_place" = true)
    (k11 : PySem.W.keepIn K (.ref f11) = true)
    (a12 : PySem.W.nsIn K mainGlobals "home_content" = some (some (.ref f12)))
    (l12 : K.lookup f12 = some ⟨oc12, od12, .func (PySem.W.fnOf "home_content" "home_content" (defArgs s_home_content) (defBody s_home_content) (defScope s_home_content) .none kV12 dc12 pm12 an12 cd12 ct12), sl12⟩)
    (c12 : PySem.W.codeIn K cd12 "home_content" = true)
    (k12 : PySem.W.keepIn K (.ref f12) = true)
    (a13 : PySem.W.nsIn K mainGlobals "log_content" = some (some (.ref f13)))
    (l13 : K.lookup f13 = some ⟨oc13, od13, .func (PySem.W.fnOf "log_content" "log_content" (defArgs s_log_content) (defBody s_log_content) (defScope s_log_content) .none kV13 dc13 pm13 an13 cd13 ct13), sl13⟩)
    (c13 : PySem.W.codeIn K cd13 "log_content" = true)
    (k13 : PySem.W.keepIn K (.ref f13) = true)
    (a14 : PySem.W.nsIn K mainGlobals "_law_feed" = some (some (.ref f14)))
    (l14 : K.lookup f14 = some ⟨oc14, od14, .func (PySem.W.fnOf "_law_feed" "_law_feed" (defArgs s_law_feed) (defBody s_law_feed) (defScope s_law_feed) .none kV14 dc14 pm14 an14 cd14 ct14), sl14⟩)
    (c14 : PySem.W.codeIn K cd14 "_law_feed" = true)
    (k14 : PySem.W.keepIn K (.ref f14) = true)
    (a15 : PySem.W.nsIn K mainGlobals "_law_pick" = some (some (.ref f15)))
    (l15 : K.lookup f15 = some ⟨oc15, od15, .func (PySem.W.fnOf "_law_pick" "_law_pick" (defArgs s_law_pick) (defBody s_law_pick) (defScope s_law_pick) .none kV15 dc15 pm15 an15 cd15 ct15), sl15⟩)
    (c15 : PySem.W.codeIn K cd15 "_law_pick" = true)
    (k15 : PySem.W.keepIn K (.ref f15) = true)
    (a16 : PySem.W.nsIn K mainGlobals "_law_same" = some (some (.ref f16)))
    (l16 : K.lookup f16 = some ⟨oc16, od16, .func (PySem.W.fnOf "_law_same" "_law_same" (defArgs s_law_same) (defBody s_law_same) (defScope s_law_same) .none kV16 dc16 pm16 an16 cd16 ct16), sl16⟩)
    (c16 : PySem.W.codeIn K cd16 "_law_same" = true)
    (k16 : PySem.W.keepIn K (.ref f16) = true)
    (a17 : PySem.W.nsIn K mainGlobals "_law_slot" = some (some (.ref f17)))
    (l17 : K.lookup f17 = some ⟨oc17, od17, .func (PySem.W.fnOf "_law_slot" "_law_slot" (defArgs s_law_slot) (defBody s_law_slot) (defScope s_law_slot) .none kV17 dc17 pm17 an17 cd17 ct17), sl17⟩)
    (c17 : PySem.W.codeIn K cd17 "_law_slot" = true)
    (k17 : PySem.W.keepIn K (.ref f17) = true)
    (a18 : PySem.W.nsIn K mainGlobals "_law_mark" = some (some (.ref f18)))
    (l18 : K.lookup f18 = some ⟨oc18, od18, .func (PySem.W.fnOf "_law_mark" "_law_mark" (defArgs s_law_mark) (defBody s_law_mark) (defScope s_law_mark) .none kV18 dc18 pm18 an18 cd18 ct18), sl18⟩)
    (c18 : PySem.W.codeIn K cd18 "_law_mark" = true)
    (k18 : PySem.W.keepIn K (.ref f18) = true)
    (a19 : PySem.W.nsIn K mainGlobals "_law_put" = some (some (.ref f19)))
    (l19 : K.lookup f19 = some ⟨oc19, od19, .func (PySem.W.fnOf "_law_put" "_law_put" (defArgs s_law_put) (defBody s_law_put) (defScope s_law_put) .none kV19 dc19 pm19 an19 cd19 ct19), sl19⟩)
    (c19 : PySem.W.codeIn K cd19 "_law_put" = true)
    (k19 : PySem.W.keepIn K (.ref f19) = true)
    (a20 : PySem.W.nsIn K mainGlobals "_law_copies" = some (some (.ref f20)))
    (l20 : K.lookup f20 = some ⟨oc20, od20, .func (PySem.W.fnOf "_law_copies" "_law_copies" (defArgs s_law_copies) (defBody s_law_copies) (defScope s_law_copies) .none kV20 dc20 pm20 an20 cd20 ct20), sl20⟩)
    (c20 : PySem.W.codeIn K cd20 "_law_copies" = true)
    (k20 : PySem.W.keepIn K (.ref f20) = true)
    (a21 : PySem.W.nsIn K mainGlobals "_law_disk" = some (some (.ref f21)))
    (l21 : K.lookup f21 = some ⟨oc21, od21, .func (PySem.W.fnOf "_law_disk" "_law_disk" (defArgs s_law_disk) (defBody s_law_disk) (defScope s_law_disk) .none kV21 dc21 pm21 an21 cd21 ct21), sl21⟩)
    (c21 : PySem.W.codeIn K cd21 "_law_disk" = true)
    (k21 : PySem.W.keepIn K (.ref f21) = true)
    (a22 : PySem.W.nsIn K mainGlobals "_law_marks" = some (some (.ref f22)))
    (l22 : K.lookup f22 = some ⟨oc22, od22, .func (PySem.W.fnOf "_law_marks" "_law_marks" (defArgs s_law_marks) (defBody s_law_marks) (defScope s_law_marks) .none kV22 dc22 pm22 an22 cd22 ct22), sl22⟩)
    (c22 : PySem.W.codeIn K cd22 "_law_marks" = true)
    (k22 : PySem.W.keepIn K (.ref f22) = true)
    (a23 : PySem.W.nsIn K mainGlobals "_law_live" = some (some (.ref f23)))
    (l23 : K.lookup f23 = some ⟨oc23, od23, .func (PySem.W.fnOf "_law_live" "_law_live" (defArgs s_law_live) (defBody s_law_live) (defScope s_law_live) .none kV23 dc23 pm23 an23 cd23 ct23), sl23⟩)
    (c23 : PySem.W.codeIn K cd23 "_law_live" = true)
    (k23 : PySem.W.keepIn K (.ref f23) = true)
    (a24 : PySem.W.nsIn K mainGlobals "_law_slots" = some (some (.ref f24)))
    (l24 : K.lookup f24 = some ⟨oc24, od24, .func (PySem.W.fnOf "_law_slots" "_law_slots" (defArgs s_law_slots) (defBody s_law_slots) (defScope s_law_slots) .none kV24 dc24 pm24 an24 cd24 ct24), sl24⟩)
    (c24 : PySem.W.codeIn K cd24 "_law_slots" = true)
    (k24 : PySem.W.keepIn K (.ref f24) = true)
    (a25 : PySem.W.nsIn K mainGlobals "_law_cells" = some (some (.ref f25)))
    (l25 : K.lookup f25 = some ⟨oc25, od25, .func (PySem.W.fnOf "_law_cells" "_law_cells" (defArgs s_law_cells) (defBody s_law_cells) (defScope s_law_cells) .none kV25 dc25 pm25 an25 cd25 ct25), sl25⟩)
    (c25 : PySem.W.codeIn K cd25 "_law_cells" = true)
    (k25 : PySem.W.keepIn K (.ref f25) = true)
    (a26 : PySem.W.nsIn K mainGlobals "_law_all_cells" = some (some (.ref f26)))
    (l26 : K.lookup f26 = some ⟨oc26, od26, .func (PySem.W.fnOf "_law_all_cells" "_law_all_cells" (defArgs s_law_all_cells) (defBody s_law_all_cells) (defScope s_law_all_cells) .none kV26 dc26 pm26 an26 cd26 ct26), sl26⟩)
    (c26 : PySem.W.codeIn K cd26 "_law_all_cells" = true)
    (k26 : PySem.W.keepIn K (.ref f26) = true)
    (a27 : PySem.W.nsIn K mainGlobals "_law_other_slots" = some (some (.ref f27)))
    (l27 : K.lookup f27 = some ⟨oc27, od27, .func (PySem.W.fnOf "_law_other_slots" "_law_other_slots" (defArgs s_law_other_slots) (defBody s_law_other_slots) (defScope s_law_other_slots) .none kV27 dc27 pm27 an27 cd27 ct27), sl27⟩)
    (c27 : PySem.W.codeIn K cd27 "_law_other_slots" = true)
    (k27 : PySem.W.keepIn K (.ref f27) = true)
    (a28 : PySem.W.nsIn K mainGlobals "_law_told_slots" = some (some (.ref f28)))
    (l28 : K.lookup f28 = some ⟨oc28, od28, .func (PySem.W.fnOf "_law_told_slots" "_law_told_slots" (defArgs s_law_told_slots) (defBody s_law_told_slots) (defScope s_law_told_slots) .none kV28 dc28 pm28 an28 cd28 ct28), sl28⟩)
    (c28 : PySem.W.codeIn K cd28 "_law_told_slots" = true)
    (k28 : PySem.W.keepIn K (.ref f28) = true)
    (a29 : PySem.W.nsIn K mainGlobals "law" = some (some (.ref f29)))
    (l29 : K.lookup f29 = some ⟨oc29, od29, .func (PySem.W.fnOf "law" "law" (defArgs s_law) (defBody s_law) (defScope s_law) .none kV29 dc29 pm29 an29 cd29 ct29), sl29⟩)
    (c29 : PySem.W.codeIn K cd29 "law" = true)
    (k29 : PySem.W.keepIn K (.ref f29) = true)
    (a30 : PySem.W.findIn K (.ref c_Disk) "__init__" = some (some (.ref f30)))
    (i30 : PySem.W.isFn K (.ref f30) = true)
    (l30 : K.lookup f30 = some ⟨oc30, od30, .func (PySem.W.fnOf "__init__" "Disk.__init__" (defArgs s_Disk_init) (defBody s_Disk_init) (defScope s_Disk_init) .none kV30 dc30 pm30 an30 cd30 ct30), sl30⟩)
    (c30 : PySem.W.codeIn K cd30 "Disk.__init__" = true)
    (k30 : PySem.W.keepIn K (.ref f30) = true)
    (a31 : PySem.W.findIn K (.ref c_Disk) "issue" = some (some (.ref f31)))
    (i31 : PySem.W.isFn K (.ref f31) = true)
    (l31 : K.lookup f31 = some ⟨oc31, od31, .func (PySem.W.fnOf "issue" "Disk.issue" (defArgs s_Disk_issue) (defBody s_Disk_issue) (defScope s_Disk_issue) .none kV31 dc31 pm31 an31 cd31 ct31), sl31⟩)
    (c31 : PySem.W.codeIn K cd31 "Disk.issue" = true)
    (k31 : PySem.W.keepIn K (.ref f31) = true)
    (a32 : PySem.W.findIn K (.ref c_Disk) "busy" = some (some (.ref f32)))
    (i32 : PySem.W.isFn K (.ref f32) = true)
    (l32 : K.lookup f32 = some ⟨oc32, od32, .func (PySem.W.fnOf "busy" "Disk.busy" (defArgs s_Disk_busy) (defBody s_Disk_busy) (defScope s_Disk_busy) .none kV32 dc32 pm32 an32 cd32 ct32), sl32⟩)
    (c32 : PySem.W.codeIn K cd32 "Disk.busy" = true)
    (k32 : PySem.W.keepIn K (.ref f32) = true)
    (a33 : PySem.W.findIn K (.ref c_Disk) "_put" = some (some (.ref f33)))
    (i33 : PySem.W.isFn K (.ref f33) = true)
    (l33 : K.lookup f33 = some ⟨oc33, od33, .func (PySem.W.fnOf "_put" "Disk._put" (defArgs s_Disk_put) (defBody s_Disk_put) (defScope s_Disk_put) .none kV33 dc33 pm33 an33 cd33 ct33), sl33⟩)
    (c33 : PySem.W.codeIn K cd33 "Disk._put" = true)
    (k33 : PySem.W.keepIn K (.ref f33) = true)
    (a34 : PySem.W.findIn K (.ref c_Disk) "sure" = some (some (.ref f34)))
    (i34 : PySem.W.isFn K (.ref f34) = true)
    (l34 : K.lookup f34 = some ⟨oc34, od34, .func (PySem.W.fnOf "sure" "Disk.sure" (defArgs s_Disk_sure) (defBody s_Disk_sure) (defScope s_Disk_sure) .none kV34 dc34 pm34 an34 cd34 ct34), sl34⟩)
    (c34 : PySem.W.codeIn K cd34 "Disk.sure" = true)
    (k34 : PySem.W.keepIn K (.ref f34) = true)
    (a35 : PySem.W.findIn K (.ref c_Disk) "barrier" = some (some (.ref f35)))
    (i35 : PySem.W.isFn K (.ref f35) = true)
    (l35 : K.lookup f35 = some ⟨oc35, od35, .func (PySem.W.fnOf "barrier" "Disk.barrier" (defArgs s_Disk_barrier) (defBody s_Disk_barrier) (defScope s_Disk_barrier) .none kV35 dc35 pm35 an35 cd35 ct35), sl35⟩)
    (c35 : PySem.W.codeIn K cd35 "Disk.barrier" = true)
    (k35 : PySem.W.keepIn K (.ref f35) = true)
    (a36 : PySem.W.findIn K (.ref c_Disk) "move_head" = some (some (.ref f36)))
    (i36 : PySem.W.isFn K (.ref f36) = true)
    (l36 : K.lookup f36 = some ⟨oc36, od36, .func (PySem.W.fnOf "move_head" "Disk.move_head" (defArgs s_Disk_move_head) (defBody s_Disk_move_head) (defScope s_Disk_move_head) .none kV36 dc36 pm36 an36 cd36 ct36), sl36⟩)
    (c36 : PySem.W.codeIn K cd36 "Disk.move_head" = true)
    (k36 : PySem.W.keepIn K (.ref f36) = true)
    (a37 : PySem.W.findIn K (.ref c_Plan) "__init__" = some (some (.ref f37)))
    (i37 : PySem.W.isFn K (.ref f37) = true)
    (l37 : K.lookup f37 = some ⟨oc37, od37, .func (PySem.W.fnOf "__init__" "Plan.__init__" (defArgs s_Plan_init) (defBody s_Plan_init) (defScope s_Plan_init) .none kV37 dc37 pm37 an37 cd37 ct37), sl37⟩)
    (c37 : PySem.W.codeIn K cd37 "Plan.__init__" = true)
    (k37 : PySem.W.keepIn K (.ref f37) = true)
    (z_abs : PySem.W.nsIn K mainGlobals "abs" = some none)
    (z_all : PySem.W.nsIn K mainGlobals "all" = some none)
    (z_bool : PySem.W.nsIn K mainGlobals "bool" = some none)
    (z_enumerate : PySem.W.nsIn K mainGlobals "enumerate" = some none)
    (z_int : PySem.W.nsIn K mainGlobals "int" = some none)
    (z_isinstance : PySem.W.nsIn K mainGlobals "isinstance" = some none)
    (z_len : PySem.W.nsIn K mainGlobals "len" = some none)
    (z_list : PySem.W.nsIn K mainGlobals "list" = some none)
    (z_max : PySem.W.nsIn K mainGlobals "max" = some none)
    (z_range : PySem.W.nsIn K mainGlobals "range" = some none)
    (z_set : PySem.W.nsIn K mainGlobals "set" = some none)
    (z_sorted : PySem.W.nsIn K mainGlobals "sorted" = some none)
    (z_str : PySem.W.nsIn K mainGlobals "str" = some none)
    (z_tuple : PySem.W.nsIn K mainGlobals "tuple" = some none)
    (lkc_NOUGHTS : K.lookup c_NOUGHTS = some ⟨.type "tuple", odc_NOUGHTS, .seq #[.int 0 tkc_NOUGHTS_0, .int 0 tkc_NOUGHTS_1, .int 0 tkc_NOUGHTS_2, .int 0 tkc_NOUGHTS_3, .int 0 tkc_NOUGHTS_4, .int 0 tkc_NOUGHTS_5, .int 0 tkc_NOUGHTS_6, .int 0 tkc_NOUGHTS_7] nc_NOUGHTS, slc_NOUGHTS⟩)
    (qc_NOUGHTS : PySem.W.nsIn K mainGlobals "NOUGHTS" = some (some (.ref c_NOUGHTS)))
    (q_MOST_CELL : PySem.W.nsIn K mainGlobals "MOST_CELL" = some (some (.int 999999999 t_MOST_CELL)))
    (q_MOST_LOT : PySem.W.nsIn K mainGlobals "MOST_LOT" = some (some (.int 999999 t_MOST_LOT)))
    (q_LAST_BLOCK : PySem.W.nsIn K mainGlobals "LAST_BLOCK" = some (some (.int 63 t_LAST_BLOCK)))
    (q_LAST_SLOT : PySem.W.nsIn K mainGlobals "LAST_SLOT" = some (some (.int 199 t_LAST_SLOT)))
    (q_NO_SLOT : PySem.W.nsIn K mainGlobals "NO_SLOT" = some (some (.int (-1) t_NO_SLOT)))
    (gx_BadValue : PySem.W.nsIn K mainGlobals "BadValue" = some (some (.ref e_BadValue)))
    (xx_BadValue : PySem.W.excIn K e_BadValue [.type "ValueError", .type "Exception", .type "BaseException", .type "object"] "ValueError.__new__" = true)
    (kx_BadValue : PySem.W.keepIn K (.ref e_BadValue) = true)
    (bx_BadValue : PySem.W.subIn K (.ref e_BadValue) (.type "BaseException") = some true)
    (tx_BadValue : PySem.W.typeIn K (.ref e_BadValue) = some (.type "type"))
    (hg_BadValue : PySem.W.findIn K (.ref e_BadValue) "__getattribute__" = some (some (.builtin "BaseException.__getattribute__")))
    (hk_BadValue : PySem.W.findIn K (.ref e_BadValue) "__getattr__" = some none)
    (hh_BadValue : PySem.W.hasDictIn K e_BadValue = true)
    (ha_BadValue : PySem.W.findIn K (.ref e_BadValue) "__class__" = some (some (.builtin "object.__class__")))
    (hn_BadValue : PySem.W.specialIn K (.builtin "object.__class__") "__get__" = some (some (.builtin "getset_descriptor.__get__")))
    (ht_BadValue : PySem.W.takesIn K (.builtin "object.__class__") = some true)
    (hm_BadValue : PySem.W.mroIn K e_BadValue (.type "object") = some true)
    (gx_NoWrite : PySem.W.nsIn K mainGlobals "NoWrite" = some (some (.ref e_NoWrite)))
    (xx_NoWrite : PySem.W.excIn K e_NoWrite [.type "ValueError", .type "Exception", .type "BaseException", .type "object"] "ValueError.__new__" = true)
    (kx_NoWrite : PySem.W.keepIn K (.ref e_NoWrite) = true)
    (bx_NoWrite : PySem.W.subIn K (.ref e_NoWrite) (.type "BaseException") = some true)
    (tx_NoWrite : PySem.W.typeIn K (.ref e_NoWrite) = some (.type "type"))
    (hg_NoWrite : PySem.W.findIn K (.ref e_NoWrite) "__getattribute__" = some (some (.builtin "BaseException.__getattribute__")))
    (hk_NoWrite : PySem.W.findIn K (.ref e_NoWrite) "__getattr__" = some none)
    (hh_NoWrite : PySem.W.hasDictIn K e_NoWrite = true)
    (ha_NoWrite : PySem.W.findIn K (.ref e_NoWrite) "__class__" = some (some (.builtin "object.__class__")))
    (hn_NoWrite : PySem.W.specialIn K (.builtin "object.__class__") "__get__" = some (some (.builtin "getset_descriptor.__get__")))
    (ht_NoWrite : PySem.W.takesIn K (.builtin "object.__class__") = some true)
    (hm_NoWrite : PySem.W.mroIn K e_NoWrite (.type "object") = some true)
    (gx_PlaceBusy : PySem.W.nsIn K mainGlobals "PlaceBusy" = some (some (.ref e_PlaceBusy)))
    (xx_PlaceBusy : PySem.W.excIn K e_PlaceBusy [.type "ValueError", .type "Exception", .type "BaseException", .type "object"] "ValueError.__new__" = true)
    (kx_PlaceBusy : PySem.W.keepIn K (.ref e_PlaceBusy) = true)
    (bx_PlaceBusy : PySem.W.subIn K (.ref e_PlaceBusy) (.type "BaseException") = some true)
    (tx_PlaceBusy : PySem.W.typeIn K (.ref e_PlaceBusy) = some (.type "type"))
    (hg_PlaceBusy : PySem.W.findIn K (.ref e_PlaceBusy) "__getattribute__" = some (some (.builtin "BaseException.__getattribute__")))
    (hk_PlaceBusy : PySem.W.findIn K (.ref e_PlaceBusy) "__getattr__" = some none)
    (hh_PlaceBusy : PySem.W.hasDictIn K e_PlaceBusy = true)
    (ha_PlaceBusy : PySem.W.findIn K (.ref e_PlaceBusy) "__class__" = some (some (.builtin "object.__class__")))
    (hn_PlaceBusy : PySem.W.specialIn K (.builtin "object.__class__") "__get__" = some (some (.builtin "getset_descriptor.__get__")))
    (ht_PlaceBusy : PySem.W.takesIn K (.builtin "object.__class__") = some true)
    (hm_PlaceBusy : PySem.W.mroIn K e_PlaceBusy (.type "object") = some true)
    : ∃ T : Txt K mg, mg "law" = some (.ref T.a_law) ∧ (∀ (s : Shared) (v : Value), BindsTo s T.fd_law ⟨[v], []⟩ [("_law_script", v)]) := by
  have F0 := fun_mk (st := s_find_mark) l0 c0 k0
  have b0 := F0.binds (ps := ["disk", "lot"]) fun _ _ _ _ _ _ us hl => match us, hl with | [_, _], _ => rfl
  have F1 := fun_mk (st := s_found_marks) l1 c1 k1
  have b1 := F1.binds (ps := ["disk"]) fun _ _ _ _ _ _ us hl => match us, hl with | [_], _ => rfl
  have F2 := fun_mk (st := s_live_copy) l2 c2 k2
  have b2 := fun_kbn (ps := ["marks", "x", "lapse"]) (n := 2) (ks := ["lapse"]) F2 fun _ _ _ _ _ _ us ws h1 h2 => match us, ws, h1, h2 with | [_, _], [_], _, _ => rfl
  have F3 := fun_mk (st := s_cells_after) l3 c3 k3
  have b3 := fun_kbn (ps := ["disk", "marks", "x", "lapse"]) (n := 3) (ks := ["lapse"]) F3 fun _ _ _ _ _ _ us ws h1 h2 => match us, ws, h1, h2 with | [_, _, _], [_], _, _ => rfl
  have F4 := fun_mk (st := s_slots_read) l4 c4 k4
  have b4 := fun_kbn (ps := ["disk", "lapse"]) (n := 1) (ks := ["lapse"]) F4 fun _ _ _ _ _ _ us ws h1 h2 => match us, ws, h1, h2 with | [_], [_], _, _ => rfl
  have F5 := fun_mk (st := s_is_within) l5 c5 k5
  have b5 := F5.binds (ps := ["part", "low", "high"]) fun _ _ _ _ _ _ us hl => match us, hl with | [_, _, _], _ => rfl
  have F6 := fun_mk (st := s_is_row_of_cells) l6 c6 k6
  have b6 := F6.binds (ps := ["part"]) fun _ _ _ _ _ _ us hl => match us, hl with | [_], _ => rfl
  have F7 := fun_mk (st := s_are_blocks) l7 c7 k7
  have b7 := F7.binds (ps := ["part"]) fun _ _ _ _ _ _ us hl => match us, hl with | [_], _ => rfl
  have F8 := fun_mk (st := s_are_copies) l8 c8 k8
  have b8 := F8.binds (ps := ["part"]) fun _ _ _ _ _ _ us hl => match us, hl with | [_], _ => rfl
  have F9 := fun_mk (st := s_check_record) l9 c9 k9
  have b9 := F9.binds (ps := ["record"]) fun _ _ _ _ _ _ us hl => match us, hl with | [_], _ => rfl
  have F10 := fun_mk (st := s_fits_plan) l10 c10 k10
  have b10 := F10.binds (ps := ["record", "plan"]) fun _ _ _ _ _ _ us hl => match us, hl with | [_, _], _ => rfl
  have F11 := fun_mk (st := s_is_place) l11 c11 k11
  have b11 := F11.binds (ps := ["place", "plan"]) fun _ _ _ _ _ _ us hl => match us, hl with | [_, _], _ => rfl
  have F12 := fun_mk (st := s_home_content) l12 c12 k12
  have b12 := F12.binds (ps := ["what"]) fun _ _ _ _ _ _ us hl => match us, hl with | [_], _ => rfl
  have F13 := fun_mk (st := s_log_content) l13 c13 k13
  have b13 := F13.binds (ps := ["what", "plan"]) fun _ _ _ _ _ _ us hl => match us, hl with | [_, _], _ => rfl
  have F14 := fun_mk (st := s_law_feed) l14 c14 k14
  have b14 := F14.binds (ps := ["_law_script"]) fun _ _ _ _ _ _ us hl => match us, hl with | [_], _ => rfl
  have F15 := fun_mk (st := s_law_pick) l15 c15 k15
  have b15 := F15.binds (ps := ["_law_feed_here", "_law_limit"]) fun _ _ _ _ _ _ us hl => match us, hl with | [_, _], _ => rfl
  have F16 := fun_mk (st := s_law_same) l16 c16 k16
  have b16 := F16.binds (ps := ["_law_actual", "_law_due"]) fun _ _ _ _ _ _ us hl => match us, hl with | [_, _], _ => rfl
  have F17 := fun_mk (st := s_law_slot) l17 c17 k17
  have b17 := F17.binds (ps := ["_law_feed_here", "_law_k"]) fun _ _ _ _ _ _ us hl => match us, hl with | [_, _], _ => rfl
  have F18 := fun_mk (st := s_law_mark) l18 c18 k18
  have b18 := F18.binds (ps := ["_law_feed_here", "_law_lot"]) fun _ _ _ _ _ _ us hl => match us, hl with | [_, _], _ => rfl
  have F19 := fun_mk (st := s_law_put) l19 c19 k19
  have b19 := F19.binds (ps := ["_law_disk_here", "_law_log", "_law_slot_here", "_law_record"]) fun _ _ _ _ _ _ us hl => match us, hl with | [_, _, _, _], _ => rfl
  have F20 := fun_mk (st := s_law_copies) l20 c20 k20
  have b20 := F20.binds (ps := ["_law_feed_here", "_law_disk_here", "_law_log", "_law_marks_here"]) fun _ _ _ _ _ _ us hl => match us, hl with | [_, _, _, _], _ => rfl
  have F21 := fun_mk (st := s_law_disk) l21 c21 k21
  have b21 := F21.binds (ps := ["_law_feed_here", "_law_head", "_law_log", "_law_home"]) fun _ _ _ _ _ _ us hl => match us, hl with | [_, _, _, _], _ => rfl
  have F22 := fun_mk (st := s_law_marks) l22 c22 k22
  have b22 := F22.binds (ps := ["_law_log", "_law_head"]) fun _ _ _ _ _ _ us hl => match us, hl with | [_, _], _ => rfl
  have F23 := fun_mk (st := s_law_live) l23 c23 k23
  have b23 := F23.binds (ps := ["_law_marks_here", "_law_x", "_law_lapse"]) fun _ _ _ _ _ _ us hl => match us, hl with | [_, _, _], _ => rfl
  have F24 := fun_mk (st := s_law_slots) l24 c24 k24
  have b24 := F24.binds (ps := ["_law_marks_here", "_law_lapse"]) fun _ _ _ _ _ _ us hl => match us, hl with | [_, _], _ => rfl
  have F25 := fun_mk (st := s_law_cells) l25 c25 k25
  have b25 := F25.binds (ps := ["_law_log", "_law_marks_here", "_law_home", "_law_x", "_law_lapse"]) fun _ _ _ _ _ _ us hl => match us, hl with | [_, _, _, _, _], _ => rfl
  have F26 := fun_mk (st := s_law_all_cells) l26 c26 k26
  have b26 := F26.binds (ps := ["_law_disk_here", "_law_lapse"]) fun _ _ _ _ _ _ us hl => match us, hl with | [_, _], _ => rfl
  have F27 := fun_mk (st := s_law_other_slots) l27 c27 k27
  have b27 := F27.binds (ps := ["_law_disk_here", "_law_log", "_law_head", "_law_home", "_law_lapse"]) fun _ _ _ _ _ _ us hl => match us, hl with | [_, _, _, _, _], _ => rfl
  have F28 := fun_mk (st := s_law_told_slots) l28 c28 k28
  have b28 := F28.binds (ps := ["_law_disk_here", "_law_log", "_law_head", "_law_lapse"]) fun _ _ _ _ _ _ us hl => match us, hl with | [_, _, _, _], _ => rfl
  have F29 := fun_mk (st := s_law) l29 c29 k29
  have b29 := F29.binds (ps := ["_law_script"]) fun _ _ _ _ _ _ us hl => match us, hl with | [_], _ => rfl
  have F30 := fun_mk (st := s_Disk_init) l30 c30 k30
  have b30 := F30.binds (ps := ["self", "plan"]) fun _ _ _ _ _ _ us hl => match us, hl with | [_, _], _ => rfl
  have F31 := fun_mk (st := s_Disk_issue) l31 c31 k31
  have b31 := F31.binds (ps := ["self", "place", "what"]) fun _ _ _ _ _ _ us hl => match us, hl with | [_, _, _], _ => rfl
  have F32 := fun_mk (st := s_Disk_busy) l32 c32 k32
  have b32 := F32.binds (ps := ["self", "place"]) fun _ _ _ _ _ _ us hl => match us, hl with | [_, _], _ => rfl
  have F33 := fun_mk (st := s_Disk_put) l33 c33 k33
  have b33 := F33.binds (ps := ["self", "place", "what"]) fun _ _ _ _ _ _ us hl => match us, hl with | [_, _, _], _ => rfl
  have F34 := fun_mk (st := s_Disk_sure) l34 c34 k34
  have b34 := F34.binds (ps := ["self", "number"]) fun _ _ _ _ _ _ us hl => match us, hl with | [_, _], _ => rfl
  have F35 := fun_mk (st := s_Disk_barrier) l35 c35 k35
  have b35 := F35.binds (ps := ["self"]) fun _ _ _ _ _ _ us hl => match us, hl with | [_], _ => rfl
  have F36 := fun_mk (st := s_Disk_move_head) l36 c36 k36
  have b36 := F36.binds (ps := ["self", "p"]) fun _ _ _ _ _ _ us hl => match us, hl with | [_, _], _ => rfl
  have F37 := fun_mk (st := s_Plan_init) l37 c37 k37
  have b37 := fun_kbn (ps := ["self", "blocks", "nodes", "slots"]) (n := 2) (ks := ["nodes", "slots"]) F37 fun _ _ _ _ _ _ us ws h1 h2 => match us, ws, h1, h2 with | [_, _], [_, _], _, _ => rfl
  exact ⟨{
    c_Disk := _
    C_Disk := ⟨pg_Disk, hd_Disk, po_Disk, sa_Disk⟩
    g_Disk := PySem.W.mg_of X G aC_Disk
    kp_Disk := kc_Disk
    mk_Disk := mk_Disk
    n_Disk_plan := nf_Disk_plan
    n_Disk_home := nf_Disk_home
    n_Disk_log := nf_Disk_log
    n_Disk_head := nf_Disk_head
    n_Disk_last := nf_Disk_last
    n_Disk_writes := nf_Disk_writes
    c_Plan := _
    C_Plan := ⟨pg_Plan, hd_Plan, po_Plan, sa_Plan⟩
    g_Plan := PySem.W.mg_of X G aC_Plan
    kp_Plan := kc_Plan
    mk_Plan := mk_Plan
    n_Plan_blocks := nf_Plan_blocks
    n_Plan_nodes := nf_Plan_nodes
    n_Plan_slots := nf_Plan_slots
    n_Plan_maps := nf_Plan_maps
    n_Plan_first_node := nf_Plan_first_node
    n_Plan_first_data := nf_Plan_first_data
    a_find_mark := _
    fd_find_mark := _
    F_find_mark := F0
    b_find_mark := b0
    m_find_mark := PySem.W.mg_of X G a0
    a_found_marks := _
    fd_found_marks := _
    F_found_marks := F1
    b_found_marks := b1
    m_found_marks := PySem.W.mg_of X G a1
    a_live_copy := _
    fd_live_copy := _
    F_live_copy := F2
    b_live_copy := b2
    m_live_copy := PySem.W.mg_of X G a2
    a_cells_after := _
    fd_cells_after := _
    F_cells_after := F3
    b_cells_after := b3
    m_cells_after := PySem.W.mg_of X G a3
    a_slots_read := _
    fd_slots_read := _
    F_slots_read := F4
    b_slots_read := b4
    m_slots_read := PySem.W.mg_of X G a4
    a_is_within := _
    fd_is_within := _
    F_is_within := F5
    b_is_within := b5
    m_is_within := PySem.W.mg_of X G a5
    a_is_row_of_cells := _
    fd_is_row_of_cells := _
    F_is_row_of_cells := F6
    b_is_row_of_cells := b6
    m_is_row_of_cells := PySem.W.mg_of X G a6
    a_are_blocks := _
    fd_are_blocks := _
    F_are_blocks := F7
    b_are_blocks := b7
    m_are_blocks := PySem.W.mg_of X G a7
    a_are_copies := _
    fd_are_copies := _
    F_are_copies := F8
    b_are_copies := b8
    m_are_copies := PySem.W.mg_of X G a8
    a_check_record := _
    fd_check_record := _
    F_check_record := F9
    b_check_record := b9
    m_check_record := PySem.W.mg_of X G a9
    a_fits_plan := _
    fd_fits_plan := _
    F_fits_plan := F10
    b_fits_plan := b10
    m_fits_plan := PySem.W.mg_of X G a10
    a_is_place := _
    fd_is_place := _
    F_is_place := F11
    b_is_place := b11
    m_is_place := PySem.W.mg_of X G a11
    a_home_content := _
    fd_home_content := _
    F_home_content := F12
    b_home_content := b12
    m_home_content := PySem.W.mg_of X G a12
    a_log_content := _
    fd_log_content := _
    F_log_content := F13
    b_log_content := b13
    m_log_content := PySem.W.mg_of X G a13
    a_law_feed := _
    fd_law_feed := _
    F_law_feed := F14
    b_law_feed := b14
    m_law_feed := PySem.W.mg_of X G a14
    a_law_pick := _
    fd_law_pick := _
    F_law_pick := F15
    b_law_pick := b15
    m_law_pick := PySem.W.mg_of X G a15
    a_law_same := _
    fd_law_same := _
    F_law_same := F16
    b_law_same := b16
    m_law_same := PySem.W.mg_of X G a16
    a_law_slot := _
    fd_law_slot := _
    F_law_slot := F17
    b_law_slot := b17
    m_law_slot := PySem.W.mg_of X G a17
    a_law_mark := _
    fd_law_mark := _
    F_law_mark := F18
    b_law_mark := b18
    m_law_mark := PySem.W.mg_of X G a18
    a_law_put := _
    fd_law_put := _
    F_law_put := F19
    b_law_put := b19
    m_law_put := PySem.W.mg_of X G a19
    a_law_copies := _
    fd_law_copies := _
    F_law_copies := F20
    b_law_copies := b20
    m_law_copies := PySem.W.mg_of X G a20
    a_law_disk := _
    fd_law_disk := _
    F_law_disk := F21
    b_law_disk := b21
    m_law_disk := PySem.W.mg_of X G a21
    a_law_marks := _
    fd_law_marks := _
    F_law_marks := F22
    b_law_marks := b22
    m_law_marks := PySem.W.mg_of X G a22
    a_law_live := _
    fd_law_live := _
    F_law_live := F23
    b_law_live := b23
    m_law_live := PySem.W.mg_of X G a23
    a_law_slots := _
    fd_law_slots := _
    F_law_slots := F24
    b_law_slots := b24
    m_law_slots := PySem.W.mg_of X G a24
    a_law_cells := _
    fd_law_cells := _
    F_law_cells := F25
    b_law_cells := b25
    m_law_cells := PySem.W.mg_of X G a25
    a_law_all_cells := _
    fd_law_all_cells := _
    F_law_all_cells := F26
    b_law_all_cells := b26
    m_law_all_cells := PySem.W.mg_of X G a26
    a_law_other_slots := _
    fd_law_other_slots := _
    F_law_other_slots := F27
    b_law_other_slots := b27
    m_law_other_slots := PySem.W.mg_of X G a27
    a_law_told_slots := _
    fd_law_told_slots := _
    F_law_told_slots := F28
    b_law_told_slots := b28
    m_law_told_slots := PySem.W.mg_of X G a28
    a_law := _
    fd_law := _
    F_law := F29
    b_law := b29
    m_law := PySem.W.mg_of X G a29
    a_Disk_init := _
    fd_Disk_init := _
    F_Disk_init := F30
    b_Disk_init := b30
    m_Disk_init := ⟨mk_Disk, a30, i30, kc_Disk⟩
    a_Disk_issue := _
    fd_Disk_issue := _
    F_Disk_issue := F31
    b_Disk_issue := b31
    m_Disk_issue := ⟨a31, i31, k31⟩
    a_Disk_busy := _
    fd_Disk_busy := _
    F_Disk_busy := F32
    b_Disk_busy := b32
    m_Disk_busy := ⟨a32, i32, k32⟩
    a_Disk_put := _
    fd_Disk_put := _
    F_Disk_put := F33
    b_Disk_put := b33
    m_Disk_put := ⟨a33, i33, k33⟩
    a_Disk_sure := _
    fd_Disk_sure := _
    F_Disk_sure := F34
    b_Disk_sure := b34
    m_Disk_sure := ⟨a34, i34, k34⟩
    a_Disk_barrier := _
    fd_Disk_barrier := _
    F_Disk_barrier := F35
    b_Disk_barrier := b35
    m_Disk_barrier := ⟨a35, i35, k35⟩
    a_Disk_move_head := _
    fd_Disk_move_head := _
    F_Disk_move_head := F36
    b_Disk_move_head := b36
    m_Disk_move_head := ⟨a36, i36, k36⟩
    a_Plan_init := _
    fd_Plan_init := _
    F_Plan_init := F37
    b_Plan_init := b37
    m_Plan_init := ⟨mk_Plan, a37, i37, kc_Plan⟩
    n_abs := PySem.W.mg_none_of X G z_abs
    n_all := PySem.W.mg_none_of X G z_all
    n_bool := PySem.W.mg_none_of X G z_bool
    n_enumerate := PySem.W.mg_none_of X G z_enumerate
    n_int := PySem.W.mg_none_of X G z_int
    n_isinstance := PySem.W.mg_none_of X G z_isinstance
    n_len := PySem.W.mg_none_of X G z_len
    n_list := PySem.W.mg_none_of X G z_list
    n_max := PySem.W.mg_none_of X G z_max
    n_range := PySem.W.mg_none_of X G z_range
    n_set := PySem.W.mg_none_of X G z_set
    n_sorted := PySem.W.mg_none_of X G z_sorted
    n_str := PySem.W.mg_none_of X G z_str
    n_tuple := PySem.W.mg_none_of X G z_tuple
    c_NOUGHTS := _
    w_NOUGHTS := sqt_w lkc_NOUGHTS (by show 8 ≤ sizeLine; decide) (.cons ⟨_, rfl⟩ (.cons ⟨_, rfl⟩ (.cons ⟨_, rfl⟩ (.cons ⟨_, rfl⟩ (.cons ⟨_, rfl⟩ (.cons ⟨_, rfl⟩ (.cons ⟨_, rfl⟩ (.cons ⟨_, rfl⟩ .nil))))))))
    g_NOUGHTS := PySem.W.mg_of X G qc_NOUGHTS
    t_MOST_CELL := _
    g_MOST_CELL := PySem.W.mg_of X G q_MOST_CELL
    t_MOST_LOT := _
    g_MOST_LOT := PySem.W.mg_of X G q_MOST_LOT
    t_LAST_BLOCK := _
    g_LAST_BLOCK := PySem.W.mg_of X G q_LAST_BLOCK
    t_LAST_SLOT := _
    g_LAST_SLOT := PySem.W.mg_of X G q_LAST_SLOT
    t_NO_SLOT := _
    g_NO_SLOT := PySem.W.mg_of X G q_NO_SLOT
    e_BadValue := e_BadValue
    g_BadValue := PySem.W.mg_of X G gx_BadValue
    x_BadValue := xx_BadValue
    k_BadValue := kx_BadValue
    sb_BadValue := bx_BadValue
    ty_BadValue := tx_BadValue
    is_BadValue := ⟨hg_BadValue, hk_BadValue, bx_BadValue, hh_BadValue, ha_BadValue, hn_BadValue, ht_BadValue, hm_BadValue⟩
    e_NoWrite := e_NoWrite
    g_NoWrite := PySem.W.mg_of X G gx_NoWrite
    x_NoWrite := xx_NoWrite
    k_NoWrite := kx_NoWrite
    sb_NoWrite := bx_NoWrite
    ty_NoWrite := tx_NoWrite
    is_NoWrite := ⟨hg_NoWrite, hk_NoWrite, bx_NoWrite, hh_NoWrite, ha_NoWrite, hn_NoWrite, ht_NoWrite, hm_NoWrite⟩
    e_PlaceBusy := e_PlaceBusy
    g_PlaceBusy := PySem.W.mg_of X G gx_PlaceBusy
    x_PlaceBusy := xx_PlaceBusy
    k_PlaceBusy := kx_PlaceBusy
    sb_PlaceBusy := bx_PlaceBusy
    ty_PlaceBusy := tx_PlaceBusy
    is_PlaceBusy := ⟨hg_PlaceBusy, hk_PlaceBusy, bx_PlaceBusy, hh_PlaceBusy, ha_PlaceBusy, hn_PlaceBusy, ht_PlaceBusy, hm_PlaceBusy⟩ }, PySem.W.mg_of X G a29, fun s v => .of_eq rfl⟩
theorem walk {l : PySem.W.OpenLaw} {q : Program} {loose : List Str} {XP : (Str → Option Value) → Heap → Prop} {YP : World → Heap → Prop} {d : DefRec} {K : Params → PySem.W.Frag} (hn : l.most = some 63) (hdf : d.params.defaults = [])
    (hY : ∀ (w : World) (h : Heap), YP w h → (K w.params).In h)
    (F : ∀ (w : World) (mg : Str → Option Value) (fa : Addr) (h : Heap), (K w.params).In h → h.Ns mainGlobals mg → mg d.name = some (.ref fa) →
      ∃ fd : FuncData, (∀ (s : Shared) (u : Value), BindsTo s fd ⟨[u], []⟩ [("_law_script", u)]) ∧ ∀ base : Heap, (K w.params).In base → base.Ns mainGlobals mg → FnOk l.prog w (K w.params) mg base CX0 12 fa fd ["_law_script"] (spLaw (K w.params))) :
    PySem.W.WalkO q loose XP YP l.row.toRowW d [] (fun f vs => PySem.call f vs) :=
  L2.walk_of (n := 63) (k := 12) (x := "_law_script") (CX := fun _ => CX0) (sp := fun w => spLaw (K w.params)) hn (by decide) hdf ⟨rfl, by decide, by decide⟩ hY F (fun _ _ a ns hl _ hS => ⟨a, ns, rfl, hS, hl, fun _ => rfl⟩) fun _ _ _ _ _ z => z
end Mine
open PySem PySem.W PyProof.Rows
set_option maxRecDepth 100000 in
set_option maxHeartbeats 0 in
theorem PySem.Challenge.cw_lotsandties_k47_slots_that_are_read_holds : PySem.Challenge.rw_lotsandties_k47_slots_that_are_read.Holds := by
  w_on; o_law; k_head; (case hw => w_witness2)
  k_fill
  refine Mine.walk (l := PySem.Challenge.rw_lotsandties_k47_slots_that_are_read) rfl rfl (fun w h Y => PySem.W.kIn_of Y) ?F
  case F =>
    intro w mg fa h KX G hmg
    obtain ⟨T, e1, e2⟩ : ∃ T : Mine.Txt _ mg, mg "law" = some (.ref T.a_law) ∧ (∀ (s : Shared) (v : Value), BindsTo s T.fd_law ⟨[v], []⟩ [("_law_script", v)]) := by
      refine' Mine.txt_mk KX G ?aC_Disk ?pg_Disk ?hd_Disk ?po_Disk ?sa_Disk ?mk_Disk ?kc_Disk ?nf_Disk_plan ?nf_Disk_home ?nf_Disk_log ?nf_Disk_head ?nf_Disk_last ?nf_Disk_writes ?aC_Plan ?pg_Plan ?hd_Plan ?po_Plan ?sa_Plan ?mk_Plan ?kc_Plan ?nf_Plan_blocks ?nf_Plan_nodes ?nf_Plan_slots ?nf_Plan_maps ?nf_Plan_first_node ?nf_Plan_first_data ?a0 ?l0 ?c0 ?k0 ?a1 ?l1 ?c1 ?k1 ?a2 ?l2 ?c2 ?k2 ?a3 ?l3 ?c3 ?k3 ?a4 ?l4 ?c4 ?k4 ?a5 ?l5 ?c5 ?k5 ?a6 ?l6 ?c6 ?k6 ?a7 ?l7 ?c7 ?k7 ?a8 ?l8 ?c8 ?k8 ?a9 ?l9 ?c9 ?k9 ?a10 ?l10 ?c10 ?k10 ?a11 ?l11 ?c11 ?k11 ?a12 ?l12 ?c12 ?k12 ?a13 ?l13 ?c13 ?k13 ?a14 ?l14 ?c14 ?k14 ?a15 ?l15 ?c15 ?k15 ?a16 ?l16 ?c16 ?k16 ?a17 ?l17 ?c17 ?k17 ?a18 ?l18 ?c18 ?k18 ?a19 ?l19 ?c19 ?k19 ?a20 ?l20 ?c20 ?k20 ?a21 ?l21 ?c21 ?k21 ?a22 ?l22 ?c22 ?k22 ?a23 ?l23 ?c23 ?k23 ?a24 ?l24 ?c24 ?k24 ?a25 ?l25 ?c25 ?k25 ?a26 ?l26 ?c26 ?k26 ?a27 ?l27 ?c27 ?k27 ?a28 ?l28 ?c28 ?k28 ?a29 ?l29 ?c29 ?k29 ?a30 ?i30 ?l30 ?c30 ?k30 ?a31 ?i31 ?l31 ?c31 ?k31 ?a32 ?i32 ?l32 ?c32 ?k32 ?a33 ?i33 ?l33 ?c33 ?k33 ?a34 ?i34 ?l34 ?c34 ?k34 ?a35 ?i35 ?l35 ?c35 ?k35 ?a36 ?i36 ?l36 ?c36 ?k36 ?a37 ?i37 ?l37 ?c37 ?k37 ?z_abs ?z_all ?z_bool ?z_enumerate ?z_int ?z_isinstance ?z_len ?z_list ?z_max ?z_range ?z_set ?z_sorted ?z_str ?z_tuple ?lkc_NOUGHTS ?qc_NOUGHTS ?q_MOST_CELL ?q_MOST_LOT ?q_LAST_BLOCK ?q_LAST_SLOT ?q_NO_SLOT ?gx_BadValue ?xx_BadValue ?kx_BadValue ?bx_BadValue ?tx_BadValue ?hg_BadValue ?hk_BadValue ?hh_BadValue ?ha_BadValue ?hn_BadValue ?ht_BadValue ?hm_BadValue ?gx_NoWrite ?xx_NoWrite ?kx_NoWrite ?bx_NoWrite ?tx_NoWrite ?hg_NoWrite ?hk_NoWrite ?hh_NoWrite ?ha_NoWrite ?hn_NoWrite ?ht_NoWrite ?hm_NoWrite ?gx_PlaceBusy ?xx_PlaceBusy ?kx_PlaceBusy ?bx_PlaceBusy ?tx_PlaceBusy ?hg_PlaceBusy ?hk_PlaceBusy ?hh_PlaceBusy ?ha_PlaceBusy ?hn_PlaceBusy ?ht_PlaceBusy ?hm_PlaceBusy
      (case aC_Disk => k_is); (case pg_Disk => k_is); (case hd_Disk => k_is); (case po_Disk => k_is); (case sa_Disk => k_is); (case mk_Disk => k_is)
      (case kc_Disk => k_is); (case nf_Disk_plan => k_is); (case nf_Disk_home => k_is); (case nf_Disk_log => k_is); (case nf_Disk_head => k_is); (case nf_Disk_last => k_is)
      (case nf_Disk_writes => k_is); (case aC_Plan => k_is); (case pg_Plan => k_is); (case hd_Plan => k_is); (case po_Plan => k_is); (case sa_Plan => k_is)
      (case mk_Plan => k_is); (case kc_Plan => k_is); (case nf_Plan_blocks => k_is); (case nf_Plan_nodes => k_is); (case nf_Plan_slots => k_is); (case nf_Plan_maps => k_is)
      (case nf_Plan_first_node => k_is); (case nf_Plan_first_data => k_is); (case a0 => k_is); (case l0 => k_is); (case c0 => k_is); (case k0 => k_is)
      (case a1 => k_is); (case l1 => k_is); (case c1 => k_is); (case k1 => k_is); (case a2 => k_is); (case l2 => k_is)
      (case c2 => k_is); (case k2 => k_is); (case a3 => k_is); (case l3 => k_is); (case c3 => k_is); (case k3 => k_is)
      (case a4 => k_is); (case l4 => k_is); (case c4 => k_is); (case k4 => k_is); (case a5 => k_is); (case l5 => k_is)
      (case c5 => k_is); (case k5 => k_is); (case a6 => k_is); (case l6 => k_is); (case c6 => k_is); (case k6 => k_is)
      (case a7 => k_is); (case l7 => k_is); (case c7 => k_is); (case k7 => k_is); (case a8 => k_is); (case l8 => k_is)
      (case c8 => k_is); (case k8 => k_is); (case a9 => k_is); (case l9 => k_is); (case c9 => k_is); (case k9 => k_is)
      (case a10 => k_is); (case l10 => k_is); (case c10 => k_is); (case k10 => k_is); (case a11 => k_is); (case l11 => k_is)
      (case c11 => k_is); (case k11 => k_is); (case a12 => k_is); (case l12 => k_is); (case c12 => k_is); (case k12 => k_is)
      (case a13 => k_is); (case l13 => k_is); (case c13 => k_is); (case k13 => k_is); (case a14 => k_is); (case l14 => k_is)
      (case c14 => k_is); (case k14 => k_is); (case a15 => k_is); (case l15 => k_is); (case c15 => k_is); (case k15 => k_is)
      (case a16 => k_is); (case l16 => k_is); (case c16 => k_is); (case k16 => k_is); (case a17 => k_is); (case l17 => k_is)
      (case c17 => k_is); (case k17 => k_is); (case a18 => k_is); (case l18 => k_is); (case c18 => k_is); (case k18 => k_is)
      (case a19 => k_is); (case l19 => k_is); (case c19 => k_is); (case k19 => k_is); (case a20 => k_is); (case l20 => k_is)
      (case c20 => k_is); (case k20 => k_is); (case a21 => k_is); (case l21 => k_is); (case c21 => k_is); (case k21 => k_is)
      (case a22 => k_is); (case l22 => k_is); (case c22 => k_is); (case k22 => k_is); (case a23 => k_is); (case l23 => k_is)
      (case c23 => k_is); (case k23 => k_is); (case a24 => k_is); (case l24 => k_is); (case c24 => k_is); (case k24 => k_is)
      (case a25 => k_is); (case l25 => k_is); (case c25 => k_is); (case k25 => k_is); (case a26 => k_is); (case l26 => k_is)
      (case c26 => k_is); (case k26 => k_is); (case a27 => k_is); (case l27 => k_is); (case c27 => k_is); (case k27 => k_is)
      (case a28 => k_is); (case l28 => k_is); (case c28 => k_is); (case k28 => k_is); (case a29 => k_is); (case l29 => k_is)
      (case c29 => k_is); (case k29 => k_is); (case a30 => k_is); (case i30 => k_is); (case l30 => k_is); (case c30 => k_is)
      (case k30 => k_is); (case a31 => k_is); (case i31 => k_is); (case l31 => k_is); (case c31 => k_is); (case k31 => k_is)
      (case a32 => k_is); (case i32 => k_is); (case l32 => k_is); (case c32 => k_is); (case k32 => k_is); (case a33 => k_is)
      (case i33 => k_is); (case l33 => k_is); (case c33 => k_is); (case k33 => k_is); (case a34 => k_is); (case i34 => k_is)
      (case l34 => k_is); (case c34 => k_is); (case k34 => k_is); (case a35 => k_is); (case i35 => k_is); (case l35 => k_is)
      (case c35 => k_is); (case k35 => k_is); (case a36 => k_is); (case i36 => k_is); (case l36 => k_is); (case c36 => k_is)
      (case k36 => k_is); (case a37 => k_is); (case i37 => k_is); (case l37 => k_is); (case c37 => k_is); (case k37 => k_is)
      (case z_abs => k_is); (case z_all => k_is); (case z_bool => k_is); (case z_enumerate => k_is); (case z_int => k_is); (case z_isinstance => k_is)
      (case z_len => k_is); (case z_list => k_is); (case z_max => k_is); (case z_range => k_is); (case z_set => k_is); (case z_sorted => k_is)
      (case z_str => k_is); (case z_tuple => k_is); (case qc_NOUGHTS => k_is); (case q_MOST_CELL => k_is); (case q_MOST_LOT => k_is); (case q_LAST_BLOCK => k_is)
      (case q_LAST_SLOT => k_is); (case q_NO_SLOT => k_is); (case gx_BadValue => k_is); (case xx_BadValue => k_exc); (case kx_BadValue => k_is); (case bx_BadValue => k_is)
      (case tx_BadValue => k_is); (case hg_BadValue => k_is); (case hk_BadValue => k_is); (case hh_BadValue => k_is); (case ha_BadValue => k_is); (case hn_BadValue => k_is)
      (case ht_BadValue => k_is); (case hm_BadValue => k_is); (case gx_NoWrite => k_is); (case xx_NoWrite => k_exc); (case kx_NoWrite => k_is); (case bx_NoWrite => k_is)
      (case tx_NoWrite => k_is); (case hg_NoWrite => k_is); (case hk_NoWrite => k_is); (case hh_NoWrite => k_is); (case ha_NoWrite => k_is); (case hn_NoWrite => k_is)
      (case ht_NoWrite => k_is); (case hm_NoWrite => k_is); (case gx_PlaceBusy => k_is); (case xx_PlaceBusy => k_exc); (case kx_PlaceBusy => k_is); (case bx_PlaceBusy => k_is)
      (case tx_PlaceBusy => k_is); (case hg_PlaceBusy => k_is); (case hk_PlaceBusy => k_is); (case hh_PlaceBusy => k_is); (case ha_PlaceBusy => k_is); (case hn_PlaceBusy => k_is)
      (case ht_PlaceBusy => k_is); (case hm_PlaceBusy => k_is); (case lkc_NOUGHTS => k_is)
    have e := hmg.symm.trans e1
    cases e
    exact ⟨T.fd_law, e2, fun base _ _ => Mine.ok_law T⟩

