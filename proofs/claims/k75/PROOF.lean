import PyProof.Rows.All
import Wide.All
import OpenK.AllK
import Wide.FinOn
import HandS.ForMost
import HandS.More
import HandS.Codes
import HandS.TupLe
import HandS.IsInst
import HandS.Walk
import HandS.Deep
import HandS.MakeKwOnly
import HandS.Style
import HandS.ClsMeth
import HandS.DictComp
import HandS.Exc
import HandS.ExcOwn
import HandS.ExcInit
import HandS.ExcField
import HandS.TryOnly
import HandS.ExcIs
import HandS.WordsExc
import HandS.CallSlots
import HandS.DeepEq
import HandS.DictTup
import HandS.Property
import HandS.TupAny
import HandS.TupMul
import HandS.NoneIn
import HandS.SortInts
import HandS.SortRule
import HandS.Rev
import HandS.RevRange
import HandS.SetFor
import HandS.TryMany
import HandS.SuiteRaise
import HandS.Star
import HandS.HotCalls
import HandS.Hot
import KE.KExcRaise
import KE.GoesEnum
import KE.DataFind
import KE.KDictDisplayH
import HandS.CallLocal
import HandS.StrMore
import HandS.StrSplit
import HandS.IterVal
import HandS.FStr
import KE.SortData
import KE.DataCmp
import HandS.GenCall
import HandS.GenList
import PyProof.RulesMatchSeq
import PyProof.Rows.MatchSeqLen
import KE.KeyNested
import PySem.Challenge.RW_lotsandties_k75_numbers_words_and_plans
set_option Elab.async false
set_option linter.all false
set_option maxRecDepth 100000
set_option maxHeartbeats 4000000
namespace Mine
open PySem L2
/-! Trees: what an object of the heap holds, without addresses. own: this place alone has it and may change it; frz: nobody changes it any more;
lnt: lent for the time of this def. -/
inductive Ow | own | frz | lnt
  deriving DecidableEq
/-- the written part; the classes by number, their fields' names in the order in which they come; the errors' classes by number -/
structure KC where
  K : PySem.W.Frag
  P : Program
  w : World
  ct : Nat → Addr
  nm : Nat → List Str
  et : Nat → Addr
  ef : Nat → Option (Str × Str)
/-- ins n k: an instance of class n with its first k fields -/
inductive Nk | lst | tup | ins (n k : Nat) | dct (ks : List Key) | dcT (ks : List NestedKey) | sti (l : List Int) | xd (d : Addr) (f x : Str)
  deriving DecidableEq
inductive Tr | any | a (v : V) | nd (k : Nk) (o : Ow) (ts : List Tr)
def eff : Ow → Ow → Ow
  | .own, o => o
  | .lnt, .frz => .frz
  | .lnt, _ => .lnt
  | .frz, _ => .frz
mutual
/-- a child as seen from its parent; a tuple hands the flag on to its items -/
def kid : Ow → Tr → Tr
  | o, .nd .tup o' ts => .nd .tup .own (kidL (eff o o') ts)
  | o, .nd .lst o' ts => .nd .lst (eff o o') ts
  | o, .nd (.ins n k) o' ts => .nd (.ins n k) (eff o o') ts
  | o, .nd (.dct ks) o' ts => .nd (.dct ks) (eff o o') ts
  | o, .nd (.dcT ks) o' ts => .nd (.dcT ks) (eff o o') ts
  | o, .nd (.sti l) o' ts => .nd (.sti l) (eff o o') ts
  | o, .nd (.xd d f x) o' ts => .nd (.xd d f x) (eff o o') ts
  | _, .any => .any
  | _, .a v => .a v
def kidL : Ow → List Tr → List Tr
  | _, [] => []
  | o, t :: ts => kid o t :: kidL o ts
end
mutual
/-- may be read twice: nothing in it is own -/
def cp : Tr → Bool
  | .any => false
  | .a _ => true
  | .nd .tup .own ts => cpL ts
  | .nd _ .own _ => false
  | .nd _ _ _ => true
def cpL : List Tr → Bool
  | [] => true
  | t :: ts => cp t && cpL ts
end
mutual
/-- may leave the def: nothing in it is lent -/
def esc : Tr → Bool
  | .any => true
  | .a _ => true
  | .nd .tup .own ts => escL ts
  | .nd _ .lnt _ => false
  | .nd _ _ _ => true
def escL : List Tr → Bool
  | [] => true
  | t :: ts => esc t && escL ts
end
abbrev Ps := Addr → Prop
structure Zn where
  fz : Ps
  ln : Ps
def TSK (K : KC) (H H' : Hp) : Prop := ∀ a xs, H a = some (.tup xs) → H' a = some (.tup xs)
mutual
/-- what is a key: numbers, texts, None, and tuples of such (new ones or ones of the written part) -/
def KeyV (K : PySem.W.Frag) (H : Hp) : NestedKey → V → Prop
  | .none, v => v = .non
  | .num i, v => v = .int i
  | .text x, v => v = .str x
  | .tup ks, v => ∃ b vs, v = .ref b ∧ (H b = some (.tup vs) ∨ SqT K (fun _ => none) b vs) ∧ KeyVs K H ks vs
def KeyVs (K : PySem.W.Frag) (H : Hp) : List NestedKey → List V → Prop
  | [], vs => vs = []
  | k :: ks, vs => ∃ v vs', vs = v :: vs' ∧ KeyV K H k v ∧ KeyVs K H ks vs'
end
/-- a tuple that is a key -/
def KeyAt (K : PySem.W.Frag) (H : Hp) (b : Addr) (k : NestedKey) : Prop := KeyV K H k (.ref b) ∧ k.depth ≤ 8
mutual
theorem KeyV.imp {K : PySem.W.Frag} {H H' : Hp} (tp : ∀ a xs, H a = some (.tup xs) → H' a = some (.tup xs)) : ∀ {k : NestedKey} {v : V}, KeyV K H k v → KeyV K H' k v
  | .none, _, h => by simp only [KeyV] at h ⊢; exact h
  | .num _, _, h => by simp only [KeyV] at h ⊢; exact h
  | .text _, _, h => by simp only [KeyV] at h ⊢; exact h
  | .tup ks, _, h => by
    simp only [KeyV] at h ⊢
    obtain ⟨b, vs, e, h1, h2⟩ := h
    exact ⟨b, vs, e, h1.imp (tp _ _) id, KeyVs.imp tp h2⟩
theorem KeyVs.imp {K : PySem.W.Frag} {H H' : Hp} (tp : ∀ a xs, H a = some (.tup xs) → H' a = some (.tup xs)) : ∀ {ks : List NestedKey} {vs : List V}, KeyVs K H ks vs → KeyVs K H' ks vs
  | [], _, h => by simp only [KeyVs] at h ⊢; exact h
  | _ :: _, _, h => by
    simp only [KeyVs] at h ⊢
    obtain ⟨v, vs', e, h1, h2⟩ := h
    exact ⟨v, vs', e, KeyV.imp tp h1, KeyVs.imp tp h2⟩
end
theorem KeyAt.imp {K : PySem.W.Frag} {H H' : Hp} {b : Addr} {k : NestedKey} (tp : ∀ a xs, H a = some (.tup xs) → H' a = some (.tup xs)) (h : KeyAt K H b k) : KeyAt K H' b k := ⟨h.1.imp tp, h.2⟩
/-- a dict with tuples as keys: the keys, their places, the values -/
def dphi (P : Program) (w : World) (a : Addr) (l : List (NestedKey × Addr × V)) : Heap → Prop := fun h => ∃ xs : List (NestedKey × Addr × Value),
  Paired (fun (p : NestedKey × Addr × V) (q : NestedKey × Addr × Value) => p.1 = q.1 ∧ p.2.1 = q.2.1 ∧ RelV p.2.2 q.2.2) l xs ∧
  ∃ o es ep, h.get? a = some o ∧ o.ExactDict ∧ o.data = .dict es ep ∧ es.toList = xs.map (entryOfKey (nestedKind P w))
def ObjAt (K : KC) : Nk → Ow → Hp → Addr → List V → Prop
  | .lst, _, H, a, vs => H a = some (.lst vs)
  | .tup, _, H, a, vs => H a = some (.tup vs) ∨ SqT K.K (fun _ => none) a vs
  | .ins n k, _, H, a, vs => ((K.nm n).take k).length = vs.length ∧ ∃ dx, H a = some (.ins (K.ct n) dx (((K.nm n).take k).zip vs))
  | .dct ks, .own, H, a, vs => ks.length = vs.length ∧ H a = some (.dK (ks.zip vs))
  | .dct ks, _, H, a, vs => ks.length = vs.length ∧ Rd H a (.dK (ks.zip vs))
  | .dcT ks, _, H, a, vs => ∃ bs : List Addr, ks.length = vs.length ∧ bs.length = vs.length ∧ ks.Nodup ∧ vs.length ≤ sizeLine ∧ (a == sysModules) = false ∧ (∀ p ∈ ks.zip bs, KeyAt K.K H p.2 p.1) ∧ H a = some (.ext (dphi K.P K.w a (ks.zip (bs.zip vs))))
  | .sti l, _, H, a, vs => vs = [] ∧ l.Nodup ∧ H a = some (.set (fun i => decide (i ∈ l)) l.length)
  | .xd d f x, _, H, a, vs => vs = [] ∧ a = d ∧ H a = some (.xd [(f, .str x)])
/-- a node's own address and what it owns -/
def Nod (Z : Zn) : Nk → Ow → Addr → List Tr → Ps → Ps → Prop
  | .tup, .own, _, _, Ψ, Φ => ∀ b, Φ b ↔ Ψ b
  | .tup, _, _, _, _, Φ => ∀ b, ¬ Φ b
  | _, .own, a, ts, Ψ, Φ => (∀ b, Φ b ↔ b = a ∨ Ψ b) ∧ ¬ Ψ a ∧ escL ts = true
  | _, .frz, a, _, _, Φ => (∀ b, ¬ Φ b) ∧ Z.fz a
  | _, .lnt, a, _, _, Φ => (∀ b, ¬ Φ b) ∧ Z.ln a
mutual
def Rep (K : KC) (Z : Zn) (H : Hp) : Ow → Tr → V → Ps → Prop
  | _, .any, _, Φ => ∀ b, ¬ Φ b
  | _, .a u, v, Φ => v = u ∧ ∀ b, ¬ Φ b
  | m, .nd k o ts, v, Φ => ∃ a vs Ψ, v = .ref a ∧ ObjAt K k (eff m o) H a vs ∧ RepL K Z H (eff m o) ts vs Ψ ∧ Nod Z k (eff m o) a ts Ψ Φ
def RepL (K : KC) (Z : Zn) (H : Hp) : Ow → List Tr → List V → Ps → Prop
  | _, [], vs, Φ => vs = [] ∧ ∀ b, ¬ Φ b
  | m, t :: ts, vs, Φ => ∃ v vs' Φ1 Φ2, vs = v :: vs' ∧ Rep K Z H m t v Φ1 ∧ RepL K Z H m ts vs' Φ2 ∧ (∀ b, ¬ (Φ1 b ∧ Φ2 b)) ∧ ∀ b, Φ b ↔ Φ1 b ∨ Φ2 b
end
section
variable {K : KC} {Z Z' : Zn} {H H' : Hp} {m : Ow} {t : Tr} {ts : List Tr} {v : V} {vs : List V} {Φ Ψ : Ps} {a : Addr} {k : Nk} {o : Ow}
theorem eff_nown {m o : Ow} (h : m ≠ .own) : eff m o ≠ .own := by cases m <;> cases o <;> simp_all [eff]
/-- what is seen stays, where what it rests on stays -/
structure Kp (K : KC) (Z Z' : Zn) (H H' : Hp) (Φ : Ps) : Prop where
  fz : ∀ b, Z.fz b → Z'.fz b
  ln : ∀ b, Z.ln b → Z'.ln b
  ob : ∀ b ob, (Φ b ∨ Z.fz b ∨ Z.ln b) → H b = some ob → H' b = some ob
  tp : TSK K H H'
theorem Kp.sub {Ψ : Ps} (h : Kp K Z Z' H H' Φ) (s : ∀ b, Ψ b → Φ b) : Kp K Z Z' H H' Ψ := ⟨h.fz, h.ln, fun b ob q e => h.ob b ob (by grind) e, h.tp⟩
theorem ObjAt.fr (h : ObjAt K k o H a vs) (hk : k ≠ .tup → ∀ ob, H a = some ob → H' a = some ob) (tp : TSK K H H') : ObjAt K k o H' a vs := by
  cases k with
  | tup => exact h.imp (tp _ _) id
  | lst => exact hk (by simp) _ h
  | ins n j =>
    obtain ⟨l, dx, e⟩ := h
    exact ⟨l, dx, hk (by simp) _ e⟩
  | dct ks =>
    cases o with
    | own => exact ⟨h.1, hk (by simp) _ h.2⟩
    | frz => exact ⟨h.1, h.2.imp (hk (by simp) _) fun ⟨ob, e⟩ => ⟨ob, hk (by simp) _ e⟩⟩
    | lnt => exact ⟨h.1, h.2.imp (hk (by simp) _) fun ⟨ob, e⟩ => ⟨ob, hk (by simp) _ e⟩⟩
  | dcT ks =>
    obtain ⟨bs, h1, h2, h3, h4, h5, h6, h7⟩ := h
    exact ⟨bs, h1, h2, h3, h4, h5, fun p hp => (h6 p hp).imp tp, hk (by simp) _ h7⟩
  | sti l => exact ⟨h.1, h.2.1, hk (by simp) _ h.2.2⟩
  | xd d f x => exact ⟨h.1, h.2.1, hk (by simp) _ h.2.2⟩
/-- what is seen of a thing, whatever the flag -/
theorem ObjAt.weak {o' : Ow} (h : ObjAt K k o H a vs) (ho : o' ≠ .own) : ObjAt K k o' H a vs := by
  cases k with
  | dct ks => cases o <;> cases o' <;> first | exact absurd rfl ho | exact h | exact ⟨h.1, .inl h.2⟩
  | _ => exact h
theorem ObjAt.rd {ks : List Key} (h : ObjAt K (.dct ks) o H a vs) : ks.length = vs.length ∧ Rd H a (.dK (ks.zip vs)) := by
  cases o
  · exact ⟨h.1, .inl h.2⟩
  · exact h
  · exact h
theorem Nod.zone (h : Nod Z k o a ts Ψ Φ) (hk : k ≠ .tup) : (o = .own ∧ Φ a) ∨ Z.fz a ∨ Z.ln a := by
  cases k <;> cases o <;> simp_all [Nod]
theorem Nod.mono (h : Nod Z k o a ts Ψ Φ) (f : ∀ b, Z.fz b → Z'.fz b) (l : ∀ b, Z.ln b → Z'.ln b) : Nod Z' k o a ts Ψ Φ := by
  cases k <;> cases o <;> simp_all [Nod]
theorem Nod.sub (h : Nod Z k o a ts Ψ Φ) (ho : o = .own) : ∀ b, Ψ b → Φ b := by
  cases k <;> cases o <;> simp_all [Nod]
/-- what is not own owns nothing -/
theorem Rep.no0 : ∀ (t : Tr) {m : Ow} {v : V} {Φ : Ps}, m ≠ .own → Rep K Z H m t v Φ → ∀ b, ¬ Φ b
  | .any, _, _, _, _, h => h
  | .a _, _, _, _, _, h => h.2
  | .nd k o ts, m, v, Φ, hm, h => by
    obtain ⟨a, vs, Ψ, _, _, hl, hn⟩ := h
    have e := eff_nown (o := o) hm
    cases k <;> cases eo : eff m o <;> simp_all [Nod]
theorem RepL.no0 : ∀ (ts : List Tr) {m : Ow} {vs : List V} {Φ : Ps}, m ≠ .own → RepL K Z H m ts vs Φ → ∀ b, ¬ Φ b
  | [], _, _, _, _, h => h.2
  | t :: ts, m, vs, Φ, hm, h => by
    obtain ⟨v, vs', Φ1, Φ2, e, h1, h2, d, u⟩ := h
    intro b q
    rcases (u b).mp q with z | z
    · exact Rep.no0 t hm h1 b z
    · exact RepL.no0 ts hm h2 b z
mutual
theorem Rep.fr : ∀ (t : Tr) {m : Ow} {v : V} {Φ : Ps}, Rep K Z H m t v Φ → Kp K Z Z' H H' Φ → Rep K Z' H' m t v Φ
  | .any, _, _, _, h, _ => h
  | .a _, _, _, _, h, _ => h
  | .nd k o ts, m, v, Φ, h, kp => by
    obtain ⟨a, vs, Ψ, e, ho, hl, hn⟩ := h
    refine ⟨a, vs, Ψ, e, ho.fr (fun hk ob q => kp.ob a ob ?_ q) kp.tp, RepL.fr ts hl (kp.sub ?_), hn.mono kp.fz kp.ln⟩
    · rcases hn.zone hk with z | z
      · exact .inl z.2
      · exact .inr z
    · intro b hb
      by_cases eo : eff m o = .own
      · exact hn.sub eo b hb
      · exact absurd hb (RepL.no0 ts eo hl b)
theorem RepL.fr : ∀ (ts : List Tr) {m : Ow} {vs : List V} {Φ : Ps}, RepL K Z H m ts vs Φ → Kp K Z Z' H H' Φ → RepL K Z' H' m ts vs Φ
  | [], _, _, _, h, _ => h
  | t :: ts, m, vs, Φ, h, kp => by
    obtain ⟨v, vs', Φ1, Φ2, e, h1, h2, d, u⟩ := h
    exact ⟨v, vs', Φ1, Φ2, e, Rep.fr t h1 (kp.sub fun b q => (u b).mpr (.inl q)), RepL.fr ts h2 (kp.sub fun b q => (u b).mpr (.inr q)), d, u⟩
end
mutual
theorem rep_kid : ∀ {t : Tr} {m : Ow} {v : V} {Φ : Ps}, Rep K Z H .own (kid m t) v Φ ↔ Rep K Z H m t v Φ
  | .any, _, _, _ => Iff.rfl
  | .a _, _, _, _ => Iff.rfl
  | .nd .lst o ts, m, v, Φ => by simp [kid, Rep, eff]
  | .nd (.ins _ _) o ts, m, v, Φ => by simp [kid, Rep, eff]
  | .nd (.dct _) o ts, m, v, Φ => by simp [kid, Rep, eff]
  | .nd (.dcT _) o ts, m, v, Φ => by simp [kid, Rep, eff]
  | .nd (.sti _) o ts, m, v, Φ => by simp [kid, Rep, eff]
  | .nd (.xd _ _ _) o ts, m, v, Φ => by simp [kid, Rep, eff]
  | .nd .tup o ts, m, v, Φ => by
    show (∃ a vs Ψ, v = .ref a ∧ ObjAt K .tup .own H a vs ∧ RepL K Z H .own (kidL (eff m o) ts) vs Ψ ∧ Nod Z .tup .own a (kidL (eff m o) ts) Ψ Φ) ↔ (∃ a vs Ψ, v = .ref a ∧ ObjAt K .tup (eff m o) H a vs ∧ RepL K Z H (eff m o) ts vs Ψ ∧ Nod Z .tup (eff m o) a ts Ψ Φ)
    constructor
    · rintro ⟨a, vs, Ψ, e, ho, hl, hn⟩
      have hl := (repL_kid (ts := ts) (m := eff m o)).mp hl
      refine ⟨a, vs, Ψ, e, ho, hl, ?_⟩
      have hn : ∀ b, Φ b ↔ Ψ b := hn
      cases eo : eff m o with
      | own => exact hn
      | frz => exact fun b q => RepL.no0 ts (by rw [eo]; simp) hl b ((hn b).mp q)
      | lnt => exact fun b q => RepL.no0 ts (by rw [eo]; simp) hl b ((hn b).mp q)
    · rintro ⟨a, vs, Ψ, e, ho, hl, hn⟩
      refine ⟨a, vs, Ψ, e, ho, (repL_kid (ts := ts) (m := eff m o)).mpr hl, ?_⟩
      show ∀ b, Φ b ↔ Ψ b
      cases eo : eff m o with
      | own =>
        rw [eo] at hn
        exact hn
      | frz =>
        rw [eo] at hn hl
        exact fun b => ⟨fun q => absurd q (hn b), fun q => absurd q (RepL.no0 ts (by simp) hl b)⟩
      | lnt =>
        rw [eo] at hn hl
        exact fun b => ⟨fun q => absurd q (hn b), fun q => absurd q (RepL.no0 ts (by simp) hl b)⟩
theorem repL_kid : ∀ {ts : List Tr} {m : Ow} {vs : List V} {Φ : Ps}, RepL K Z H .own (kidL m ts) vs Φ ↔ RepL K Z H m ts vs Φ
  | [], _, _, _ => Iff.rfl
  | t :: ts, m, vs, Φ => by
    simp only [kidL, RepL]
    constructor
    · rintro ⟨v, vs', Φ1, Φ2, e, h1, h2, d, u⟩
      exact ⟨v, vs', Φ1, Φ2, e, rep_kid.mp h1, repL_kid.mp h2, d, u⟩
    · rintro ⟨v, vs', Φ1, Φ2, e, h1, h2, d, u⟩
      exact ⟨v, vs', Φ1, Φ2, e, rep_kid.mpr h1, repL_kid.mpr h2, d, u⟩
end
end
section
variable {K : KC} {Z Z' : Zn} {H H' : Hp} {m : Ow} {t t' : Tr} {ts : List Tr} {v w : V} {vs us : List V} {Φ Ψ : Ps} {a : Addr} {k : Nk} {o : Ow} {i : Nat}
theorem getq_lt' {α : Type} {l : List α} {i : Nat} {x : α} (h : l[i]? = some x) : i < l.length := (List.getElem?_eq_some_iff.mp h).1
theorem RepL.len : ∀ (ts : List Tr) {vs : List V} {Φ : Ps}, RepL K Z H m ts vs Φ → ts.length = vs.length
  | [], _, _, h => by rw [h.1]; rfl
  | t :: ts, vs, Φ, h => by
    obtain ⟨v, vs', Φ1, Φ2, e, h1, h2, d, u⟩ := h
    rw [e, List.length_cons, List.length_cons, RepL.len ts h2]
theorem RepL.cast {Ψ : Ps} : ∀ (ts : List Tr) {vs : List V} {Φ : Ps}, RepL K Z H m ts vs Φ → (∀ b, Ψ b ↔ Φ b) → RepL K Z H m ts vs Ψ
  | [], _, _, h, e => ⟨h.1, fun b q => h.2 b ((e b).mp q)⟩
  | t :: ts, vs, Φ, h, e => by
    obtain ⟨v, vs', Φ1, Φ2, e1, h1, h2, d, u⟩ := h
    exact ⟨v, vs', Φ1, Φ2, e1, h1, h2, d, fun b => (e b).trans (u b)⟩
theorem Nod.cast {Ψ' Φ' : Ps} (h : Nod Z k o a ts Ψ Φ) (e1 : ∀ b, Ψ' b ↔ Ψ b) (e2 : ∀ b, Φ' b ↔ Φ b) : Nod Z k o a ts Ψ' Φ' := by
  cases k <;> cases o <;> simp_all [Nod]
theorem Rep.cast {Ψ : Ps} : ∀ (t : Tr) {v : V} {Φ : Ps}, Rep K Z H m t v Φ → (∀ b, Ψ b ↔ Φ b) → Rep K Z H m t v Ψ
  | .any, _, _, h, e => fun b q => h b ((e b).mp q)
  | .a _, _, _, h, e => ⟨h.1, fun b q => h.2 b ((e b).mp q)⟩
  | .nd k o ts, v, Φ, h, e => by
    obtain ⟨a, vs, Ψ', e1, ho, hl, hn⟩ := h
    exact ⟨a, vs, Ψ', e1, ho, hl, hn.cast (fun _ => Iff.rfl) e⟩
/-- one item of a row, and how another one takes its place -/
theorem RepL.at_ : ∀ (ts : List Tr) {vs : List V} {Φ : Ps} {i : Nat} {t : Tr}, RepL K Z H m ts vs Φ → ts[i]? = some t → ∃ v Φ1 Φ2, vs[i]? = some v ∧ Rep K Z H m t v Φ1 ∧ (∀ b, ¬ (Φ1 b ∧ Φ2 b)) ∧ (∀ b, Φ b ↔ Φ1 b ∨ Φ2 b) ∧
    RepL K Z H m (ts.set i .any) vs Φ2 ∧ RepL K Z H m (ts.eraseIdx i) (vs.eraseIdx i) Φ2
  | [], _, _, _, _, _, q => by simp at q
  | x :: ts, vs, Φ, 0, t, h, q => by
    obtain ⟨v, vs', Φ1, Φ2, e, h1, h2, d, u⟩ := h
    cases q
    subst e
    exact ⟨v, Φ1, Φ2, rfl, h1, d, u, ⟨v, vs', fun _ => False, Φ2, rfl, fun _ h => h, h2, fun _ h => h.1, by simp⟩, h2⟩
  | x :: ts, vs, Φ, i + 1, t, h, q => by
    obtain ⟨v, vs', Φ1, Φ2, e, h1, h2, d, u⟩ := h
    subst e
    obtain ⟨w, Θ1, Θ2, e2, r1, d2, u2, r2, r3⟩ := RepL.at_ ts (i := i) (t := t) h2 (by simpa using q)
    exact ⟨w, Θ1, fun b => Φ1 b ∨ Θ2 b, by simpa using e2, r1, by grind, by grind, ⟨v, vs', Φ1, Θ2, rfl, h1, r2, by grind, fun _ => Iff.rfl⟩, ⟨v, _, Φ1, Θ2, rfl, h1, r3, by grind, fun _ => Iff.rfl⟩⟩
/-- something comes to a place that is known to be nothing -/
theorem RepL.put : ∀ (ts : List Tr) {vs : List V} {Φ Ψ : Ps} {i : Nat} {t : Tr} {v : V}, RepL K Z H m ts vs Φ → ts[i]? = some .any → vs[i]? = some v → Rep K Z H m t v Ψ → (∀ b, ¬ (Ψ b ∧ Φ b)) → RepL K Z H m (ts.set i t) vs (fun b => Ψ b ∨ Φ b)
  | [], _, _, _, _, _, _, _, q, _, _, _ => by simp at q
  | x :: ts, vs, Φ, Ψ, 0, t, v, h, q, e, r, d => by
    obtain ⟨v', vs', Φ1, Φ2, e1, h1, h2, d1, u⟩ := h
    cases q
    subst e1
    cases e
    have h1' : ∀ b, ¬ Φ1 b := h1
    exact ⟨v, vs', Ψ, Φ2, rfl, r, h2, by grind, by grind⟩
  | x :: ts, vs, Φ, Ψ, i + 1, t, v, h, q, e, r, d => by
    obtain ⟨v', vs', Φ1, Φ2, e1, h1, h2, d1, u⟩ := h
    subst e1
    have := RepL.put ts (i := i) (t := t) (v := v) (Ψ := Ψ) h2 (by simpa using q) (by simpa using e) r (by grind)
    exact ⟨v', vs', Φ1, fun b => Ψ b ∨ Φ2 b, rfl, h1, this, by grind, by grind⟩
theorem RepL.append : ∀ (ts : List Tr) {us : List Tr} {vs ws : List V} {Φ Ψ : Ps}, RepL K Z H m ts vs Φ → RepL K Z H m us ws Ψ → (∀ b, ¬ (Φ b ∧ Ψ b)) → RepL K Z H m (ts ++ us) (vs ++ ws) (fun b => Φ b ∨ Ψ b)
  | [], us, vs, ws, Φ, Ψ, h, r, d => by
    obtain ⟨rfl, h2⟩ := h
    exact r.cast us (by grind)
  | t :: ts, us, vs, ws, Φ, Ψ, h, r, d => by
    obtain ⟨v, vs', Φ1, Φ2, e1, h1, h2, d1, u⟩ := h
    subst e1
    exact ⟨v, vs' ++ ws, Φ1, fun b => Φ2 b ∨ Ψ b, rfl, h1, RepL.append ts h2 r (by grind), by grind, by grind⟩
theorem RepL.split : ∀ (ts : List Tr) {us : List Tr} {vs : List V} {Φ : Ps}, RepL K Z H m (ts ++ us) vs Φ → ∃ v1 v2 Φ1 Φ2, vs = v1 ++ v2 ∧ RepL K Z H m ts v1 Φ1 ∧ RepL K Z H m us v2 Φ2 ∧ (∀ b, ¬ (Φ1 b ∧ Φ2 b)) ∧ ∀ b, Φ b ↔ Φ1 b ∨ Φ2 b
  | [], us, vs, Φ, h => ⟨[], vs, fun _ => False, Φ, rfl, ⟨rfl, fun _ h => h⟩, h, by grind, by grind⟩
  | t :: ts, us, vs, Φ, h => by
    obtain ⟨v, vs', Φ1, Φ2, e1, h1, h2, d1, u⟩ := h
    obtain ⟨v1, v2, Θ1, Θ2, e, r1, r2, d, u2⟩ := RepL.split ts h2
    subst e1 e
    exact ⟨v :: v1, v2, fun b => Φ1 b ∨ Θ1 b, Θ2, rfl, ⟨v, v1, Φ1, Θ1, rfl, h1, r1, by grind, fun _ => Iff.rfl⟩, r2, by grind, by grind⟩
theorem escL_all : ∀ {ts : List Tr}, escL ts = true ↔ ∀ t ∈ ts, esc t = true
  | [] => by simp [escL]
  | t :: ts => by simp [escL, escL_all (ts := ts)]
theorem escL_set {ts : List Tr} (h : escL ts = true) (e : esc t = true) : escL (ts.set i t) = true := by
  rw [escL_all] at h ⊢
  intro x hx
  rcases List.mem_or_eq_of_mem_set hx with z | z
  · exact h x z
  · rw [z]; exact e
/-! paths -/
def getP : List Tr → List Nat → Option Tr
  | _, [] => none
  | ts, [i] => ts[i]?
  | ts, i :: j :: p => match ts[i]? with
    | some (.nd .tup _ _) => none
    | some (.nd _ .own us) => getP us (j :: p)
    | _ => none
def setP : List Tr → List Nat → Tr → List Tr
  | ts, [], _ => ts
  | ts, [i], t => ts.set i t
  | ts, i :: j :: p, t => match ts[i]? with
    | some (.nd k o us) => ts.set i (.nd k o (setP us (j :: p) t))
    | _ => ts
theorem relV_ex : ∀ v : V, ∃ u, RelV v u
  | .non => ⟨_, rfl⟩
  | .bl _ => ⟨_, rfl⟩
  | .int i => ⟨.int i 0, 0, rfl⟩
  | .str x => ⟨.str x 0, 0, rfl⟩
  | .byt b => ⟨.bytes b 0, 0, rfl⟩
  | .flt b => ⟨.float b 0, 0, rfl⟩
  | .ref _ => ⟨_, rfl⟩
  | .ty _ => ⟨_, rfl⟩
theorem relV_inj : ∀ {v v' : V} {u : Value}, RelV v u → RelV v' u → v = v' := by
  intro v v' u h h'
  cases v <;> cases v' <;> simp only [RelV] at h h' <;> grind
abbrev DR : NestedKey × Addr × V → NestedKey × Addr × Value → Prop := fun p q => p.1 = q.1 ∧ p.2.1 = q.2.1 ∧ RelV p.2.2 q.2.2
theorem dr_ex : ∀ l : List (NestedKey × Addr × V), ∃ xs, Paired DR l xs
  | [] => ⟨[], .nil⟩
  | p :: l => by
    obtain ⟨u, hu⟩ := relV_ex p.2.2
    obtain ⟨xs, h⟩ := dr_ex l
    exact ⟨(p.1, p.2.1, u) :: xs, .cons ⟨rfl, rfl, hu⟩ h⟩
theorem dr_inj {P P' : Program} {w w' : World} {l : List (NestedKey × Addr × V)} {xs : List (NestedKey × Addr × Value)} (h : Paired DR l xs) : ∀ {l' : List (NestedKey × Addr × V)} {xs' : List (NestedKey × Addr × Value)}, Paired DR l' xs' →
    xs.map (entryOfKey (nestedKind P w)) = xs'.map (entryOfKey (nestedKind P' w')) → l.map (·.2.2) = l'.map (·.2.2) := by
  induction h with
  | nil =>
    intro l' xs' h' e
    cases h' with
    | nil => rfl
    | cons _ _ => cases e
  | cons a t ih =>
    intro l' xs' h' e
    cases h' with
    | nil => cases e
    | cons a' t' =>
      rw [List.map_cons, List.map_cons] at e
      have e1 := (List.cons.inj e).1
      have e2 := (List.cons.inj e).2
      have e3 := congrArg DictEntry.val e1
      simp only [entryOfKey] at e3
      rw [List.map_cons, List.map_cons, ih t' e2, relV_inj a.2.2 (e3 ▸ a'.2.2)]
theorem dphi_inj {P P' : Program} {w w' : World} {a : Addr} {l l' : List (NestedKey × Addr × V)} (e : dphi P w a l = dphi P' w' a l') : l.map (·.2.2) = l'.map (·.2.2) := by
  obtain ⟨xs, h⟩ := dr_ex l
  let o : Obj := { cls := .type "dict", data := .dict (xs.map (entryOfKey (nestedKind P w))).toArray 0 }
  let hp : Heap := ⟨Array.replicate (a + 1) o, {}⟩
  have hg : hp.get? a = some o := by
    unfold Heap.get?
    have : hp.objs[a]? = some o := by
      show (Array.replicate (a + 1) o)[a]? = some o
      rw [Array.getElem?_replicate, if_pos (by omega)]
    rw [this]
  have h1 : dphi P w a l hp := ⟨xs, h, o, _, _, hg, ⟨rfl, rfl, rfl⟩, rfl, by simp⟩
  rw [e] at h1
  obtain ⟨xs', h', o', es, ep, hg', _, hd, he⟩ := h1
  rw [hg] at hg'
  cases hg'
  have hd : Data.dict (xs.map (entryOfKey (nestedKind P w))).toArray 0 = Data.dict es ep := hd
  injection hd with hd1 _
  subst hd1
  exact dr_inj h h' (by simpa using he)
def Kids (H : Hp) (v : V) (vs : List V) : Prop := ∃ a, v = .ref a ∧ (H a = some (.lst vs) ∨ (∃ C dx ns, H a = some (.ins C dx (List.zip ns vs)) ∧ ns.length = vs.length) ∨ (∃ ks, H a = some (.dK (List.zip ks vs)) ∧ ks.length = vs.length) ∨
  (∃ P w l, H a = some (.ext (dphi P w a l)) ∧ l.map (·.2.2) = vs) ∨ (∃ S n, H a = some (.set S n) ∧ vs = []) ∨ ∃ f, H a = some (.xd f) ∧ vs = [])
theorem Kids.fn (h : Kids H v vs) (h' : Kids H v us) : vs = us := by
  obtain ⟨a, e, h⟩ := h
  obtain ⟨b, e', h'⟩ := h'
  subst e
  cases e'
  have key : ∀ {α : Type} {x y : List α} {p q : List V}, x.zip p = y.zip q → x.length = p.length → y.length = q.length → p = q := by
    intro α x y p q e h1 h2
    have e1 := congrArg (List.map Prod.snd) e
    rwa [List.map_snd_zip (by omega), List.map_snd_zip (by omega)] at e1
  rcases h with h | ⟨C, dx, ns, h, l⟩ | ⟨ks, h, l⟩ | ⟨P, w, m, h, l⟩ | ⟨S, n, h, l⟩ | ⟨S, h, l⟩ <;> rcases h' with h' | ⟨C', dx', ns', h', l'⟩ | ⟨ks', h', l'⟩ | ⟨P', w', m', h', l'⟩ | ⟨S', n', h', l'⟩ | ⟨S', h', l'⟩ <;> rw [h] at h' <;> first
    | exact HO.noConfusion (Option.some.inj h')
    | exact HO.lst.inj (Option.some.inj h')
    | exact key (HO.ins.inj (Option.some.inj h')).2.2 l l'
    | exact key (HO.dK.inj (Option.some.inj h')) l l'
    | rw [l, l']
    | exact l.symm.trans ((dphi_inj (HO.ext.inj (Option.some.inj h'))).trans l')
def Raw (H : Hp) : List V → List Nat → V → Prop
  | _, [], _ => False
  | vs, [i], w => vs[i]? = some w
  | vs, i :: j :: p, w => ∃ v us, vs[i]? = some v ∧ Kids H v us ∧ Raw H us (j :: p) w
theorem Raw.fn : ∀ {p : List Nat} {vs : List V} {w w' : V}, Raw H vs p w → Raw H vs p w' → w = w'
  | [], _, _, _, h, _ => h.elim
  | [i], vs, w, w', h, h' => by
    have h1 : vs[i]? = some w := h
    have h2 : vs[i]? = some w' := h'
    rw [h1] at h2
    exact Option.some.inj h2
  | i :: j :: p, vs, w, w', h, h' => by
    obtain ⟨v, us, e, k1, r⟩ := h
    obtain ⟨v', us', e', k2, r'⟩ := h'
    rw [e] at e'
    cases e'
    cases k1.fn k2
    exact Raw.fn r r'
theorem objKids (h : ObjAt K k .own H a vs) (hk : k ≠ .tup) : Kids H (.ref a) vs := by
  cases k with
  | tup => exact absurd rfl hk
  | lst => exact ⟨a, rfl, .inl h⟩
  | ins n j =>
    obtain ⟨l, dx, e⟩ := h
    exact ⟨a, rfl, .inr (.inl ⟨_, dx, _, e, l⟩)⟩
  | dct ks => exact ⟨a, rfl, .inr (.inr (.inl ⟨ks, h.2, h.1⟩))⟩
  | dcT ks =>
    obtain ⟨bs, h1, h2, _, _, _, _, h7⟩ := h
    refine ⟨a, rfl, .inr (.inr (.inr (.inl ⟨_, _, _, h7, ?_⟩)))⟩
    rw [show (fun p : NestedKey × Addr × V => p.2.2) = Prod.snd ∘ Prod.snd from rfl, ← List.map_map, List.map_snd_zip (by simp; omega), List.map_snd_zip (by omega)]
  | sti l => exact ⟨a, rfl, .inr (.inr (.inr (.inr (.inl ⟨_, _, h.2.2, h.1⟩))))⟩
  | xd d f x => exact ⟨a, rfl, .inr (.inr (.inr (.inr (.inr ⟨_, h.2.2, h.1⟩))))⟩
theorem Kids.fr (h : Kids H (.ref a) vs) (hk : ∀ ob, H a = some ob → H' a = some ob) : Kids H' (.ref a) vs := by
  obtain ⟨b, e, h⟩ := h
  cases e
  refine ⟨a, rfl, ?_⟩
  rcases h with h | ⟨C, dx, ns, h, l⟩ | ⟨ks, h, l⟩ | ⟨P, w, m, h, l⟩ | ⟨S, n, h, l⟩ | ⟨S, h, l⟩
  · exact .inl (hk _ h)
  · exact .inr (.inl ⟨C, dx, ns, hk _ h, l⟩)
  · exact .inr (.inr (.inl ⟨ks, hk _ h, l⟩))
  · exact .inr (.inr (.inr (.inl ⟨P, w, m, hk _ h, l⟩)))
  · exact .inr (.inr (.inr (.inr (.inl ⟨S, n, hk _ h, l⟩))))
  · exact .inr (.inr (.inr (.inr (.inr ⟨S, hk _ h, l⟩))))
/-- q does not lead into what stands at p -/
def nbel : List Nat → List Nat → Bool
  | [], [] => true
  | [], _ :: _ => false
  | _, [] => true
  | i :: p, j :: q => if i = j then nbel p q else true
theorem getP_cons {j : Nat} {p : List Nat} (h : getP ts (i :: j :: p) = some t) : ∃ k us, ts[i]? = some (.nd k .own us) ∧ k ≠ .tup ∧ getP us (j :: p) = some t := by
  simp only [getP] at h
  split at h
  · cases h
  · rename_i k us hne e
    exact ⟨_, _, e, fun hk => hne hk, h⟩
  · cases h
end
section
variable {K : KC} {Z Z' : Zn} {H H' : Hp} {m : Ow} {t t' : Tr} {ts : List Tr} {v w : V} {vs us : List V} {Φ Ψ : Ps} {a : Addr} {k : Nk} {o : Ow} {i : Nat}
theorem Nod.own (h : Nod Z k .own a ts Ψ Φ) (hk : k ≠ .tup) : (∀ b, Φ b ↔ b = a ∨ Ψ b) ∧ ¬ Ψ a ∧ escL ts = true := by
  cases k <;> first | exact absurd rfl hk | exact h
theorem Nod.mk (hk : k ≠ .tup) (h1 : ∀ b, Φ b ↔ b = a ∨ Ψ b) (h2 : ¬ Ψ a) (h3 : escL ts = true) : Nod Z k .own a ts Ψ Φ := by
  cases k <;> first | exact absurd rfl hk | exact ⟨h1, h2, h3⟩
/-- the addresses on the way to q, where a path of own things leads there -/
theorem Raw.keep : ∀ {q : List Nat} {ts : List Tr} {vs : List V} {Φ : Ps} {w : V}, RepL K Z H .own ts vs Φ → (getP ts q).isSome = true → Raw H vs q w → (∀ b ob, Φ b → H b = some ob → H' b = some ob) → Raw H' vs q w
  | [], _, _, _, _, _, _, r, _ => r
  | [i], _, _, _, _, _, _, r, _ => r
  | i :: j :: p, ts, vs, Φ, w, h, g, r, kp => by
    obtain ⟨t, g⟩ := Option.isSome_iff_exists.mp g
    obtain ⟨k, us, e, hk, g⟩ := getP_cons g
    obtain ⟨v, us', e2, kd, r⟩ := r
    obtain ⟨v', Φ1, Φ2, e3, r1, d, u, _⟩ := h.at_ ts e
    rw [e2] at e3
    cases e3
    obtain ⟨a, vs2, Ψ, rfl, ho, hl, hn⟩ := r1
    have ho : ObjAt K k .own H a vs2 := ho
    have hl : RepL K Z H .own us vs2 Ψ := hl
    have hn : Nod Z k .own a us Ψ Φ1 := hn
    cases (objKids ho hk).fn kd
    have hn := hn.own hk
    exact ⟨_, _, e2, kd.fr (kp a · (by grind)), Raw.keep hl (by rw [g]; rfl) r fun b ob hb => kp b ob (by grind)⟩
theorem escL_setP (ht : esc t = true) : ∀ (p : List Nat) (us : List Tr), escL us = true → escL (setP us p t) = true
  | [], us, h => by simpa [setP] using h
  | [i], us, h => by simp only [setP]; exact escL_set h ht
  | i :: j :: p, us, h => by
    simp only [setP]
    split
    · rename_i k o us2 e
      refine escL_set h ?_
      have h1 := escL_all.mp h _ (List.mem_of_getElem? e)
      have ih := escL_setP ht (j :: p) us2
      cases k <;> cases o <;> simp_all [esc]
    · exact h
theorem RepL.path : ∀ {p : List Nat} {ts : List Tr} {vs : List V} {Φ : Ps} {t : Tr}, RepL K Z H .own ts vs Φ → getP ts p = some t → ∃ w Φ1 Φ2, Raw H vs p w ∧ Rep K Z H .own t w Φ1 ∧ (∀ b, ¬ (Φ1 b ∧ Φ2 b)) ∧ (∀ b, Φ b ↔ Φ1 b ∨ Φ2 b) ∧
    RepL K Z H .own (setP ts p .any) vs Φ2 ∧
    (∀ q w' H', nbel p q = true → (getP ts q).isSome = true → Raw H vs q w' → (∀ b ob, ¬ Φ1 b → H b = some ob → H' b = some ob) → Raw H' vs q w')
  | [], _, _, _, _, _, g => by simp [getP] at g
  | [i], ts, vs, Φ, t, h, g => by
    obtain ⟨v, Φ1, Φ2, e, r, d, u, r2, _⟩ := h.at_ ts (i := i) g
    refine ⟨v, Φ1, Φ2, e, r, d, u, r2, fun q w' H' nb gq rq kp => ?_⟩
    match q with
    | [] => exact rq
    | [j] => exact rq
    | j :: j2 :: q =>
      have hij : i ≠ j := by
        intro e
        subst e
        simp [nbel] at nb
      have g2 : (getP (ts.set i .any) (j :: j2 :: q)).isSome = true := by
        obtain ⟨t2, gq⟩ := Option.isSome_iff_exists.mp gq
        obtain ⟨k, us, e, hk, g⟩ := getP_cons gq
        unfold getP at gq ⊢
        rw [List.getElem?_set_ne hij, gq]
        rfl
      exact Raw.keep r2 g2 rq fun b ob hb => kp b ob (by grind)
  | i :: j :: p, ts, vs, Φ, t, h, g => by
    obtain ⟨k, us, e, hk, g⟩ := getP_cons g
    obtain ⟨v, Φ1, Φ2, e2, r, d, u, r2, _⟩ := h.at_ ts e
    obtain ⟨a, vs2, Ψ, rfl, ho, hl, hn⟩ := r
    have ho : ObjAt K k .own H a vs2 := ho
    have hl : RepL K Z H .own us vs2 Ψ := hl
    have hn : Nod Z k .own a us Ψ Φ1 := hn
    have hn := hn.own hk
    obtain ⟨w, Θ1, Θ2, raw, rt, d2, u2, rs, st⟩ := RepL.path hl g
    have kd := objKids ho hk
    have hset : setP ts (i :: j :: p) .any = ts.set i (.nd k .own (setP us (j :: p) .any)) := by simp only [setP, e]
    have hes : escL (setP us (j :: p) .any) = true := by
      exact escL_setP rfl _ _ hn.2.2
    refine ⟨w, Θ1, fun b => Φ2 b ∨ b = a ∨ Θ2 b, ⟨_, _, e2, kd, raw⟩, rt, by grind, by grind, ?_, fun q w' H' nb gq rq kp => ?_⟩
    · rw [hset]
      have r3 := r2.put (ts := ts.set i .any) (i := i) (t := .nd k .own (setP us (j :: p) .any)) (v := .ref a) (Ψ := fun b => b = a ∨ Θ2 b) (by rw [List.getElem?_set_self (getq_lt' e)]) e2 ⟨a, vs2, Θ2, rfl, ho, rs, .mk hk (fun _ => Iff.rfl) (by grind) hes⟩ (by grind)
      rw [List.set_set] at r3
      exact r3.cast _ (by grind)
    · match q with
      | [] => exact rq
      | [_] => exact rq
      | i2 :: j2 :: q =>
        by_cases hi : i = i2
        · subst hi
          have nb : nbel (j :: p) (j2 :: q) = true := by simpa [nbel] using nb
          obtain ⟨t2, gq⟩ := Option.isSome_iff_exists.mp gq
          obtain ⟨k', us', e', hk', gq⟩ := getP_cons gq
          rw [e] at e'
          cases e'
          obtain ⟨v', us2, e3, kd2, rq⟩ := rq
          rw [e2] at e3
          cases e3
          cases kd.fn kd2
          exact ⟨_, _, e2, kd.fr (kp a · (by grind)), st (j2 :: q) w' H' nb (by rw [gq]; rfl) rq kp⟩
        · have g2 : (getP (ts.set i .any) (i2 :: j2 :: q)).isSome = true := by
            obtain ⟨t2, gq⟩ := Option.isSome_iff_exists.mp gq
            unfold getP at gq ⊢
            rw [List.getElem?_set_ne hi, gq]
            rfl
          exact Raw.keep r2 g2 rq fun b ob hb => kp b ob (by grind)
/-- something comes to a place, at the end of a path, that is known to be nothing -/
theorem RepL.putP : ∀ {p : List Nat} {ts : List Tr} {vs : List V} {Φ Ψ : Ps} {t : Tr} {w : V}, RepL K Z H .own ts vs Φ → getP ts p = some .any → Raw H vs p w → Rep K Z H .own t w Ψ → (∀ b, ¬ (Ψ b ∧ Φ b)) → esc t = true → RepL K Z H .own (setP ts p t) vs (fun b => Ψ b ∨ Φ b)
  | [], _, _, _, _, _, _, _, g, _, _, _, _ => by simp [getP] at g
  | [i], ts, vs, Φ, Ψ, t, w, h, g, r, rt, d, _ => h.put ts (i := i) g r rt d
  | i :: j :: p, ts, vs, Φ, Ψ, t, w, h, g, r, rt, d, he => by
    obtain ⟨k, us, e, hk, g⟩ := getP_cons g
    obtain ⟨v, Φ1, Φ2, e2, r1, d1, u, r2, _⟩ := h.at_ ts e
    obtain ⟨a, vs2, Ψ', rfl, ho, hl, hn⟩ := r1
    have ho : ObjAt K k .own H a vs2 := ho
    have hl : RepL K Z H .own us vs2 Ψ' := hl
    have hn : Nod Z k .own a us Ψ' Φ1 := hn
    have hn := hn.own hk
    obtain ⟨v', us2, e3, kd, raw⟩ := r
    rw [e2] at e3
    cases e3
    cases (objKids ho hk).fn kd
    have r3 := RepL.putP hl g raw rt (by grind) he
    have hset : setP ts (i :: j :: p) t = ts.set i (.nd k .own (setP us (j :: p) t)) := by simp only [setP, e]
    rw [hset]
    have r4 := r2.put (ts := ts.set i .any) (i := i) (t := .nd k .own (setP us (j :: p) t)) (v := .ref a) (Ψ := fun b => b = a ∨ Ψ b ∨ Ψ' b) (by rw [List.getElem?_set_self (getq_lt' e)]) e2 ⟨a, vs2, fun b => Ψ b ∨ Ψ' b, rfl, ho, r3, .mk hk (fun _ => Iff.rfl) ?_ (escL_setP he _ _ hn.2.2)⟩ ?_
    · rw [List.set_set] at r4
      exact r4.cast _ (by grind)
    · intro q
      rcases q with q | q
      · exact d a ⟨q, by grind⟩
      · exact hn.2.1 q
    · grind
theorem getP_setP_same : ∀ {p : List Nat} {ts : List Tr}, (getP ts p).isSome = true → getP (setP ts p t) p = some t
  | [], _, g => by simp [getP] at g
  | [i], ts, g => by
    obtain ⟨x, g⟩ := Option.isSome_iff_exists.mp g
    show (ts.set i t)[i]? = some t
    rw [List.getElem?_set_self (getq_lt' (show ts[i]? = some x from g))]
  | i :: j :: p, ts, g => by
    obtain ⟨x, g⟩ := Option.isSome_iff_exists.mp g
    obtain ⟨k, us, e, hk, g⟩ := getP_cons g
    simp only [setP, e]
    unfold getP
    rw [List.getElem?_set_self (getq_lt' e)]
    have := getP_setP_same (p := j :: p) (ts := us) (by rw [g]; rfl)
    cases k <;> simp_all
theorem getP_setP : ∀ {p q : List Nat} {ts : List Tr}, nbel p q = true → (getP ts q).isSome = true → (getP (setP ts p t) q).isSome = true
  | _, [], ts, _, g => by simp [getP] at g
  | [], q, ts, _, g => by simpa [setP] using g
  | [i], j :: q, ts, nb, g => by
    by_cases e : i = j
    · subst e
      match q, nb, g with
      | [], _, g =>
        obtain ⟨x, g⟩ := Option.isSome_iff_exists.mp g
        show ((ts.set i t)[i]?).isSome = true
        rw [List.getElem?_set_self (getq_lt' (show ts[i]? = some x from g))]
        rfl
      | _ :: _, nb, _ => simp [nbel] at nb
    · match q, nb, g with
      | [], _, g =>
        show ((ts.set i t)[j]?).isSome = true
        rw [List.getElem?_set_ne e]
        exact g
      | _ :: _, _, g =>
        simp only [setP]
        unfold getP at g ⊢
        rw [List.getElem?_set_ne e]
        exact g
  | i :: i2 :: p, j :: q, ts, nb, g => by
    simp only [setP]
    split
    · rename_i k o us e
      by_cases hij : i = j
      · subst hij
        match q, nb, g with
        | [], _, g =>
          show ((ts.set i _)[i]?).isSome = true
          rw [List.getElem?_set_self (getq_lt' e)]
          rfl
        | j2 :: q, nb, g =>
          obtain ⟨x, g⟩ := Option.isSome_iff_exists.mp g
          obtain ⟨k', us', e', hk, g⟩ := getP_cons g
          rw [e] at e'
          cases e'
          have nb : nbel (i2 :: p) (j2 :: q) = true := by simpa [nbel] using nb
          have ih := getP_setP (p := i2 :: p) (q := j2 :: q) (ts := us) nb (by rw [g]; rfl)
          unfold getP
          rw [List.getElem?_set_self (getq_lt' e)]
          cases k <;> simp_all
      · match q, g with
        | [], g =>
          show ((ts.set i _)[j]?).isSome = true
          rw [List.getElem?_set_ne hij]
          exact g
        | _ :: _, g =>
          unfold getP at g ⊢
          rw [List.getElem?_set_ne hij]
          exact g
    · exact g
/-- a path through nothing changed -/
theorem setP_setP {t' : Tr} : ∀ {p : List Nat} {ts : List Tr}, setP (setP ts p t) p t' = setP ts p t'
  | [], _ => rfl
  | [i], ts => by simp [setP]
  | i :: j :: p, ts => by
    cases e : ts[i]? with
    | none => simp only [setP, e]
    | some x =>
      cases x with
      | nd k o us =>
        simp only [setP, e, List.getElem?_set_self (getq_lt' e)]
        rw [List.set_set, setP_setP]
      | any => simp only [setP, e]
      | a v => simp only [setP, e]
end
inductive Ent | no | tr (t : Tr) | al (p : List Nat)
def Ent.tree : Ent → Tr
  | .tr t => t
  | _ => .any
def getT : Tr → List Nat → Option Tr
  | t, [] => some t
  | .nd .tup _ _, _ :: _ => none
  | .nd _ .own us, j :: p => match us[j]? with
    | some y => getT y p
    | none => none
  | _, _ :: _ => none
def setT : Tr → List Nat → Tr → Tr
  | _, [], x => x
  | .nd k o us, j :: p, x => match us[j]? with
    | some y => .nd k o (us.set j (setT y p x))
    | none => .nd k o us
  | t, _ :: _, _ => t
def getG (Γ : List Ent) : List Nat → Option Tr
  | [] => none
  | i :: p => match Γ[i]? with
    | some (.tr t) => getT t p
    | _ => none
def setG (Γ : List Ent) : List Nat → Tr → List Ent
  | [], _ => Γ
  | i :: p, x => match Γ[i]? with
    | some (.tr t) => Γ.set i (.tr (setT t p x))
    | _ => Γ
/-- an alias that leads into what stands at p is forgotten -/
def killE (p : List Nat) : Ent → Ent
  | .al q => if nbel p q = true then .al q else .no
  | e => e
abbrev trees (Γ : List Ent) : List Tr := Γ.map Ent.tree
section
variable {K : KC} {Z Z' : Zn} {H H' : Hp} {m : Ow} {t t' : Tr} {ts : List Tr} {v w : V} {vs us ws : List V} {Φ Ψ : Ps} {a : Addr} {k : Nk} {o : Ow} {i : Nat} {p q : List Nat} {Γ τ : List Ent} {σ : St}
theorem set_same {α : Type} : ∀ {l : List α} {i : Nat} {x : α}, l[i]? = some x → l.set i x = l
  | [], _, _, h => by simp at h
  | y :: l, 0, x, h => by cases h; rfl
  | y :: l, i + 1, x, h => by rw [List.set_cons_succ, set_same (by simpa using h)]
theorem getP_getT : ∀ {p : List Nat} {i : Nat} {ts : List Tr} {t : Tr}, ts[i]? = some t → getP ts (i :: p) = getT t p
  | [], i, ts, t, e => by simp [getP, getT, e]
  | j :: p, i, ts, t, e => by
    unfold getP
    rw [e]
    cases t with
    | any => simp [getT]
    | a v => simp [getT]
    | nd k o us =>
      have key : getP us (j :: p) = match us[j]? with
          | some y => getT y p
          | none => none := by
        cases e2 : us[j]? with
        | none => cases p <;> simp [getP, e2]
        | some y => exact getP_getT e2
      cases k <;> cases o <;> simp_all [getT]
theorem setP_setT : ∀ {p : List Nat} {i : Nat} {ts : List Tr} {t x : Tr}, ts[i]? = some t → setP ts (i :: p) x = ts.set i (setT t p x)
  | [], i, ts, t, x, e => by simp [setP, setT]
  | j :: p, i, ts, t, x, e => by
    simp only [setP, e]
    cases t with
    | any => simp only [setT]; rw [set_same e]
    | a v => simp only [setT]; rw [set_same e]
    | nd k o us =>
      simp only [setT]
      cases e2 : us[j]? with
      | none =>
        simp only []
        congr 2
        have : us.length ≤ j := List.getElem?_eq_none_iff.mp e2
        cases p with
        | nil => simp only [setP]; exact List.set_eq_of_length_le this
        | cons j2 p => simp only [setP, e2]
      | some y =>
        simp only []
        rw [setP_setT e2]
end
/-- what a def was called with: the heap, what it may change, what is frozen, which parameters are its own, their values -/
structure Cz where
  H0 : Hp
  F0 : Ps
  S0 : Ps
  md : List Bool
  vs : List V
def SlotOk (H : Hp) (Γ : List Ent) (ws : List V) (σ : St) (i : Nat) : Ent → Prop
  | .no => True
  | .tr _ => ∃ v, ws[i]? = some v ∧ σ[i]? = some (some v)
  | .al p => ∃ w, σ[i]? = some (some w) ∧ Raw H ws p w ∧ (getG Γ p).isSome = true
structure Ev (K : KC) (c : Cz) (Z : Zn) (ws : List V) (Φ Ψ : Ps) (σ : St) (H : Hp) (Γ τ : List Ent) (us : List V) : Prop where
  sl : RepL K Z H .own (trees Γ) ws Φ
  tm : RepL K Z H .own (trees τ) us Ψ
  dj : ∀ b, ¬ (Φ b ∧ Ψ b)
  so : ∀ (i : Nat) (e : Ent), Γ[i]? = some e → SlotOk H Γ ws σ i e
  to : ∀ (i : Nat) (p : List Nat), τ[i]? = some (Ent.al p) → ∃ w, us[i]? = some w ∧ Raw H ws p w ∧ (getG Γ p).isSome = true
  ln : σ.length = Γ.length
  zo : ∀ b, Φ b ∨ Ψ b → (c.F0 b ∨ c.H0 b = none) ∧ ¬ Z.fz b ∧ ¬ Z.ln b
  zf : ∀ b, Z.fz b → c.S0 b ∨ c.F0 b ∨ c.H0 b = none
  z0 : ∀ b, c.S0 b → Z.fz b
  zs : ∀ b, Z.fz b ∨ Z.ln b → (H b).isSome = true
  st : ∀ b o, c.H0 b = some o → ∃ o', H b = some o' ∧ (¬ c.F0 b → o' = o)
  pv : ∀ i : Nat, c.md[i]? = some true → ws[i]? = c.vs[i]?
def EnvOk (K : KC) (c : Cz) (σ : St) (H : Hp) (Γ τ : List Ent) (us : List V) : Prop := ∃ Z ws Φ Ψ, Ev K c Z ws Φ Ψ σ H Γ τ us
section
variable {K : KC} {Z Z' : Zn} {H H' : Hp} {m : Ow} {t t' : Tr} {ts : List Tr} {v w : V} {vs us ws : List V} {Φ Ψ : Ps} {a : Addr} {k : Nk} {o : Ow} {i : Nat} {p q : List Nat} {Γ τ : List Ent} {σ : St} {c : Cz}
theorem getG_getP (h : (getG Γ p).isSome = true) : getP (trees Γ) p = getG Γ p := by
  cases p with
  | nil => simp [getG] at h
  | cons i p =>
    simp only [getG] at h ⊢
    cases e : Γ[i]? with
    | none => simp [e] at h
    | some x =>
      cases x with
      | no => simp [e] at h
      | al _ => simp [e] at h
      | tr t =>
        simp only []
        exact getP_getT (by simp [e, Ent.tree])
theorem trees_setG (h : (getG Γ p).isSome = true) : trees (setG Γ p t) = setP (trees Γ) p t := by
  cases p with
  | nil => simp [getG] at h
  | cons i p =>
    simp only [getG, setG] at h ⊢
    cases e : Γ[i]? with
    | none => simp [e] at h
    | some x =>
      cases x with
      | no => simp [e] at h
      | al _ => simp [e] at h
      | tr t' =>
        simp only []
        rw [setP_setT (t := t') (by simp [e, Ent.tree])]
        simp [trees, List.map_set, Ent.tree]
mutual
theorem Rep.isS : ∀ (t : Tr) {m : Ow} {v : V} {Φ : Ps}, Rep K Z H m t v Φ → ∀ b, Φ b → (H b).isSome = true
  | .any, _, _, _, h, b, q => absurd q (h b)
  | .a _, _, _, _, h, b, q => absurd q (h.2 b)
  | .nd k o ts, m, v, Φ, h, b, q => by
    obtain ⟨a, vs, Ψ, e, ho, hl, hn⟩ := h
    have ih := RepL.isS ts hl b
    cases k with
    | tup => cases eo : eff m o <;> simp_all [Nod]
    | lst =>
      cases eo : eff m o <;> simp_all [Nod, ObjAt]
      rcases hn with ⟨h1, h2, h3⟩
      rcases q with rfl | q <;> simp_all
    | ins n j =>
      obtain ⟨l, dx, ho⟩ := ho
      cases eo : eff m o <;> simp_all [Nod]
      rcases q with rfl | q <;> simp_all
    | dct ks =>
      cases eo : eff m o <;> simp_all [Nod, ObjAt]
      rcases hn with ⟨h1, h2, h3⟩
      rcases q with rfl | q <;> simp_all
    | dcT ks =>
      obtain ⟨bs, _, _, _, _, _, _, ho⟩ := ho
      cases eo : eff m o <;> simp_all [Nod]
      rcases q with rfl | q <;> simp_all
    | sti l =>
      obtain ⟨_, _, ho⟩ := ho
      cases eo : eff m o <;> simp_all [Nod]
      rcases q with rfl | q <;> simp_all
    | xd d f x =>
      obtain ⟨_, _, ho⟩ := ho
      cases eo : eff m o <;> simp_all [Nod]
      rcases q with rfl | q <;> simp_all
theorem RepL.isS : ∀ (ts : List Tr) {m : Ow} {vs : List V} {Φ : Ps}, RepL K Z H m ts vs Φ → ∀ b, Φ b → (H b).isSome = true
  | [], _, _, _, h, b, q => absurd q (h.2 b)
  | t :: ts, m, vs, Φ, h, b, q => by
    obtain ⟨v, vs', Φ1, Φ2, e, h1, h2, d, u⟩ := h
    rcases (u b).mp q with z | z
    · exact Rep.isS t h1 b z
    · exact RepL.isS ts h2 b z
end
/-- no tuple is owned -/
def nt' : HO → Bool
  | .tup _ => false
  | .frz _ _ => false
  | _ => true
theorem tsk (h : ∀ b ob, H b = some ob → nt' ob = false → H' b = some ob) : TSK K H H' := fun a xs q => h a _ q rfl
mutual
theorem Rep.nt : ∀ (t : Tr) {m : Ow} {v : V} {Φ : Ps}, Rep K Z H m t v Φ → ∀ b ob, Φ b → H b = some ob → nt' ob = true
  | .any, _, _, _, h, b, _, q, _ => absurd q (h b)
  | .a _, _, _, _, h, b, _, q, _ => absurd q (h.2 b)
  | .nd k o ts, m, v, Φ, h, b, ob, q, hb => by
    obtain ⟨a, vs, Ψ, e, ho, hl, hn⟩ := h
    have ih := RepL.nt ts hl b ob
    cases k with
    | tup => cases eo : eff m o <;> simp_all [Nod]
    | lst =>
      cases eo : eff m o <;> simp_all [Nod, ObjAt]
      rcases q with rfl | q
      · simp_all; subst hb; rfl
      · exact ih q
    | ins n j =>
      obtain ⟨l, dx, ho⟩ := ho
      cases eo : eff m o <;> simp_all [Nod]
      rcases q with rfl | q
      · simp_all; subst hb; rfl
      · exact ih q
    | dct ks =>
      cases eo : eff m o <;> simp_all [Nod, ObjAt]
      rcases q with rfl | q
      · simp_all; subst hb; rfl
      · exact ih q
    | dcT ks =>
      obtain ⟨bs, _, _, _, _, _, _, ho⟩ := ho
      cases eo : eff m o <;> simp_all [Nod]
      rcases q with rfl | q
      · simp_all; subst hb; rfl
      · exact ih q
    | sti l =>
      obtain ⟨_, _, ho⟩ := ho
      cases eo : eff m o <;> simp_all [Nod]
      rcases q with rfl | q
      · simp_all; subst hb; rfl
      · exact ih q
    | xd d f x =>
      obtain ⟨_, _, ho⟩ := ho
      cases eo : eff m o <;> simp_all [Nod]
      rcases q with rfl | q
      · simp_all; subst hb; rfl
      · exact ih q
theorem RepL.nt : ∀ (ts : List Tr) {m : Ow} {vs : List V} {Φ : Ps}, RepL K Z H m ts vs Φ → ∀ b ob, Φ b → H b = some ob → nt' ob = true
  | [], _, _, _, h, b, _, q, _ => absurd q (h.2 b)
  | t :: ts, m, vs, Φ, h, b, ob, q, hb => by
    obtain ⟨v, vs', Φ1, Φ2, e, h1, h2, d, u⟩ := h
    rcases (u b).mp q with z | z
    · exact Rep.nt t h1 b ob z hb
    · exact RepL.nt ts h2 b ob z hb
end
/-- the upper temps change: what they own may change, new things may come -/
structure Chg (Z Z' : Zn) (H H' : Hp) (Ψ Ψ' : Ps) : Prop where
  fz : ∀ b, Z.fz b → Z'.fz b
  ln : ∀ b, Z.ln b → Z'.ln b
  fz' : ∀ b, Z'.fz b → Z.fz b ∨ Ψ b ∨ H b = none
  ln' : ∀ b, Z'.ln b → Z.ln b ∨ Ψ b ∨ H b = none
  zs : ∀ b, Z'.fz b ∨ Z'.ln b → (H' b).isSome = true
  ob : ∀ b ob, H b = some ob → ¬ Ψ b → H' b = some ob
  oc : ∀ b, Ψ b → (H' b).isSome = true
  nw : ∀ b, Ψ' b → (Ψ b ∨ H b = none) ∧ ¬ Z'.fz b ∧ ¬ Z'.ln b
theorem Ev.swapX {τ1 τ1' : List Ent} {us1 us1' : List V} {Ψ1 Ψ2 Ψ1' : Ps} (E : Ev K c Z ws Φ Ψ σ H Γ (τ1 ++ τ) (us1 ++ us)) (hl : τ1.length = us1.length) (hal : ∀ e ∈ τ1', ∀ p, e ≠ .al p)
    (r1 : RepL K Z H .own (trees τ1) us1 Ψ1) (r2 : RepL K Z H .own (trees τ) us Ψ2) (d : ∀ b, ¬ (Ψ1 b ∧ Ψ2 b)) (u : ∀ b, Ψ b ↔ Ψ1 b ∨ Ψ2 b)
    (n1 : RepL K Z' H' .own (trees τ1') us1' Ψ1') (ch : Chg Z Z' H H' Ψ1 Ψ1') (hl' : τ1'.length = us1'.length) : EnvOk K c σ H' Γ (τ1' ++ τ) (us1' ++ us) := by
  obtain ⟨sl, tm, dj, so, to, ln, zo, zf, z0, zs, st, pv⟩ := E
  have nt1 := RepL.nt _ r1
  have tp : TSK K H H' := tsk fun b ob e n => ch.ob b ob e fun q => by
    have := nt1 b ob q e
    rw [n] at this
    cases this
  have kpF : Kp K Z Z' H H' Φ := ⟨ch.fz, ch.ln, fun b ob q e => ch.ob b ob e (by grind), tp⟩
  have kpT : Kp K Z Z' H H' Ψ2 := ⟨ch.fz, ch.ln, fun b ob q e => ch.ob b ob e (by grind), tp⟩
  have hsome := RepL.isS _ sl
  have hsome2 := RepL.isS _ r2
  have rk : ∀ {p : List Nat} {w : V}, (getG Γ p).isSome = true → Raw H ws p w → Raw H' ws p w := fun {p w} g r => Raw.keep sl (by rw [getG_getP g]; exact g) r fun b ob hb e => ch.ob b ob e (by grind)
  refine ⟨Z', ws, Φ, fun b => Ψ1' b ∨ Ψ2 b, ⟨RepL.fr _ sl kpF, ?_, ?_, ?_, ?_, ln, ?_, ?_, fun b q => ch.fz b (z0 b q), ch.zs, ?_, pv⟩⟩
  · have := RepL.append _ n1 (RepL.fr _ r2 kpT) (by
      intro b ⟨q1, q2⟩
      have h1 := ch.nw b q1
      have h2 := hsome2 b q2
      rcases h1.1 with z | z
      · exact d b ⟨z, q2⟩
      · rw [z] at h2; cases h2)
    simpa [trees] using this
  · intro b ⟨q1, q2⟩
    have h2 := hsome b q1
    rcases q2 with q2 | q2
    · have h1 := ch.nw b q2
      rcases h1.1 with z | z
      · exact dj b ⟨q1, (u b).mpr (.inl z)⟩
      · rw [z] at h2; cases h2
    · exact dj b ⟨q1, (u b).mpr (.inr q2)⟩
  · intro i e he
    have := so i e he
    cases e with
    | no => trivial
    | tr t => exact this
    | al p =>
      obtain ⟨w, h1, h2, h3⟩ := this
      exact ⟨w, h1, rk h3 h2, h3⟩
  · intro i p hp
    by_cases hi : i < τ1'.length
    · rw [List.getElem?_append_left hi] at hp
      exact absurd rfl (hal _ (List.mem_of_getElem? hp) p)
    · rw [List.getElem?_append_right (by omega)] at hp
      have := to (i - τ1'.length + τ1.length) p (by rw [List.getElem?_append_right (by omega)]; rw [show i - τ1'.length + τ1.length - τ1.length = i - τ1'.length by omega]; exact hp)
      obtain ⟨w, h1, h2, h3⟩ := this
      refine ⟨w, ?_, rk h3 h2, h3⟩
      rw [List.getElem?_append_right (by omega)] at h1 ⊢
      rw [show i - us1'.length = i - τ1'.length + τ1.length - us1.length by omega]
      exact h1
  · intro b q
    rcases q with q | q | q
    · have h1 := zo b (.inl q)
      have h2 := hsome b q
      refine ⟨h1.1, fun z => ?_, fun z => ?_⟩
      · rcases ch.fz' b z with z | z | z
        · exact h1.2.1 z
        · exact dj b ⟨q, (u b).mpr (.inl z)⟩
        · rw [z] at h2; cases h2
      · rcases ch.ln' b z with z | z | z
        · exact h1.2.2 z
        · exact dj b ⟨q, (u b).mpr (.inl z)⟩
        · rw [z] at h2; cases h2
    · have h1 := ch.nw b q
      refine ⟨?_, h1.2⟩
      rcases h1.1 with z | z
      · exact (zo b (.inr ((u b).mpr (.inl z)))).1
      · cases e0 : c.H0 b with
        | none => exact .inr rfl
        | some o0 =>
          obtain ⟨o', h', _⟩ := st b o0 e0
          rw [z] at h'; cases h'
    · have h1 := zo b (.inr ((u b).mpr (.inr q)))
      have h2 := hsome2 b q
      refine ⟨h1.1, fun z => ?_, fun z => ?_⟩
      · rcases ch.fz' b z with z | z | z
        · exact h1.2.1 z
        · exact d b ⟨z, q⟩
        · rw [z] at h2; cases h2
      · rcases ch.ln' b z with z | z | z
        · exact h1.2.2 z
        · exact d b ⟨z, q⟩
        · rw [z] at h2; cases h2
  · intro b z
    rcases ch.fz' b z with z | z | z
    · exact zf b z
    · exact .inr (zo b (.inr ((u b).mpr (.inl z)))).1
    · cases e0 : c.H0 b with
      | none => exact .inr (.inr rfl)
      | some o0 =>
        obtain ⟨o', h', _⟩ := st b o0 e0
        rw [z] at h'; cases h'
  · intro b o0 e0
    obtain ⟨o', h', hn⟩ := st b o0 e0
    by_cases q : Ψ1 b
    · obtain ⟨o2, e2⟩ := Option.isSome_iff_exists.mp (ch.oc b q)
      refine ⟨o2, e2, fun nf => ?_⟩
      rcases (zo b (.inr ((u b).mpr (.inl q)))).1 with z | z
      · exact absurd z nf
      · rw [z] at e0; cases e0
    · exact ⟨o', ch.ob b o' h' q, hn⟩
theorem Ev.swap {τ1 τ1' : List Ent} {us1 us1' : List V} {Ψ1' : Ps} (E : Ev K c Z ws Φ Ψ σ H Γ (τ1 ++ τ) (us1 ++ us)) (hl : τ1.length = us1.length) (hal : ∀ e ∈ τ1', ∀ p, e ≠ .al p)
    (step : ∀ Ψ1, RepL K Z H .own (trees τ1) us1 Ψ1 → RepL K Z' H' .own (trees τ1') us1' Ψ1' ∧ Chg Z Z' H H' Ψ1 Ψ1') (hl' : τ1'.length = us1'.length) : EnvOk K c σ H' Γ (τ1' ++ τ) (us1' ++ us) := by
  have tm' : RepL K Z H .own (trees τ1 ++ trees τ) (us1 ++ us) Ψ := by simpa [trees] using E.tm
  obtain ⟨v1, v2, Ψ1, Ψ2, e, r1, r2, d, u⟩ := RepL.split _ tm'
  have hl1 := RepL.len _ r1
  have hlt : (trees τ1).length = τ1.length := by simp [trees]
  obtain ⟨rfl, rfl⟩ := List.append_inj e (by omega)
  obtain ⟨n1, ch⟩ := step Ψ1 r1
  exact E.swapX hl hal r1 r2 d u n1 ch hl'
end
section
variable {K : KC} {Z Z' : Zn} {H H' : Hp} {m : Ow} {t t' : Tr} {ts : List Tr} {v w : V} {vs us ws : List V} {Φ Ψ : Ps} {a : Addr} {k : Nk} {o : Ow} {i : Nat} {p q : List Nat} {Γ τ : List Ent} {σ : St} {c : Cz} {e : Ent}
mutual
theorem Rep.cp0 : ∀ (t : Tr) {v : V} {Φ : Ps}, Rep K Z H .own t v Φ → cp t = true → ∀ b, ¬ Φ b
  | .any, _, _, h, _ => h
  | .a _, _, _, h, _ => h.2
  | .nd k o ts, v, Φ, h, q => by
    obtain ⟨a, vs, Ψ, _, _, hl, hn⟩ := h
    cases o with
    | own =>
      cases k with
      | tup => 
        have ih := RepL.cp0 ts hl (by simpa [cp] using q)
        have hn : ∀ b, Φ b ↔ Ψ b := hn
        exact fun b z => ih b ((hn b).mp z)
      | _ => simp [cp] at q
    | frz => cases k <;> simp_all [Nod, eff]
    | lnt => cases k <;> simp_all [Nod, eff]
theorem RepL.cp0 : ∀ (ts : List Tr) {vs : List V} {Φ : Ps}, RepL K Z H .own ts vs Φ → cpL ts = true → ∀ b, ¬ Φ b
  | [], _, _, h, _ => h.2
  | t :: ts, vs, Φ, h, q => by
    obtain ⟨v, vs', Φ1, Φ2, _, h1, h2, _, u⟩ := h
    simp only [cpL, Bool.and_eq_true] at q
    intro b z
    rcases (u b).mp z with z | z
    · exact Rep.cp0 t h1 q.1 b z
    · exact RepL.cp0 ts h2 q.2 b z
end
def kill (p : List Nat) (Γ : List Ent) : List Ent := Γ.map (killE p)
/-- every alias of the slot i is forgotten -/
def killR (i : Nat) : Ent → Ent
  | .al q => if q.head? = some i then .no else .al q
  | e => e
theorem trees_kill : trees (kill p Γ) = trees Γ := by
  simp only [trees, kill, List.map_map]
  congr 1
  funext e
  cases e with
  | al q => by_cases h : nbel p q = true <;> simp [killE, h, Ent.tree]
  | _ => rfl
theorem trees_killR : trees (Γ.map (killR i)) = trees Γ := by
  simp only [trees, List.map_map]
  congr 1
  funext e
  cases e with
  | al q => by_cases h : q.head? = some i <;> simp [killR, h, Ent.tree]
  | _ => rfl
theorem kill_at (h : (kill p Γ)[i]? = some e) : ∃ e', Γ[i]? = some e' ∧ e = killE p e' := by
  rw [kill, List.getElem?_map] at h
  cases q : Γ[i]? with
  | none => simp [q] at h
  | some x => exact ⟨x, rfl, by simpa [q, eq_comm] using h⟩
theorem getG_kill : getG (kill p Γ) q = getG Γ q := by
  cases q with
  | nil => rfl
  | cons j q =>
    simp only [getG, kill, List.getElem?_map]
    cases Γ[j]? with
    | none => rfl
    | some x =>
      cases x with
      | al r => by_cases h : nbel p r = true <;> simp [killE, h]
      | _ => rfl
theorem getG_isP (h : (getG Γ p).isSome = true) : (getP (trees Γ) p).isSome = true := by rw [getG_getP h]; exact h
theorem head_tr (h : (getG Γ (i :: p)).isSome = true) : ∃ t, Γ[i]? = some (.tr t) := by
  simp only [getG] at h
  cases e : Γ[i]? with
  | none => simp [e] at h
  | some x =>
    cases x with
    | no => simp [e] at h
    | al _ => simp [e] at h
    | tr t => exact ⟨t, rfl⟩
theorem setG_len : (setG Γ p t).length = Γ.length := by
  cases p with
  | nil => rfl
  | cons i p =>
    simp only [setG]
    split <;> simp
theorem getG_setG (h : (getG Γ q).isSome = true) (hp : (getG Γ p).isSome = true) (nb : nbel p q = true) : (getG (setG Γ p t) q).isSome = true := by
  have h2 := getP_setP (t := t) nb (getG_isP h)
  rw [← trees_setG hp] at h2
  cases q with
  | nil => simp [getG] at h
  | cons j q =>
    obtain ⟨x, hx⟩ := head_tr h
    have : ∃ y, (setG Γ p t)[j]? = some (.tr y) := by
      cases p with
      | nil => exact ⟨x, hx⟩
      | cons i p =>
        obtain ⟨z, hz⟩ := head_tr hp
        simp only [setG, hz]
        by_cases e : i = j
        · subst e
          exact ⟨_, List.getElem?_set_self (getq_lt' hz)⟩
        · exact ⟨x, by rw [List.getElem?_set_ne e]; exact hx⟩
    obtain ⟨y, hy⟩ := this
    have e1 : getP (trees (setG Γ p t)) (j :: q) = getT y q := getP_getT (by simp [trees, hy, Ent.tree])
    simp only [getG, hy]
    rw [← e1]
    exact h2
theorem nbel_any : ∀ {p q : List Nat} {ts : List Tr}, getP ts p = some .any → (getP ts q).isSome = true → nbel p q = true
  | [], _, _, h, _ => by simp [getP] at h
  | _, [], _, _, h => by simp [getP] at h
  | [i], [j], ts, _, _ => by simp [nbel]
  | [i], j :: j2 :: q, ts, h, g => by
    by_cases e : i = j
    · subst e
      have h : ts[i]? = some .any := h
      simp [getP, h] at g
    · simp [nbel, e]
  | i :: i2 :: p, [j], ts, _, _ => by simp [nbel]
  | i :: i2 :: p, j :: j2 :: q, ts, h, g => by
    by_cases e : i = j
    · subst e
      obtain ⟨k, us, e1, hk, h⟩ := getP_cons h
      obtain ⟨x, g⟩ := Option.isSome_iff_exists.mp g
      obtain ⟨k', us', e2, hk', g⟩ := getP_cons g
      rw [e1] at e2
      cases e2
      have := nbel_any h (show (getP us (j2 :: q)).isSome = true by rw [g]; rfl)
      simpa [nbel] using this
    · simp [nbel, e]
theorem setG_at {j : Nat} (h : (setG Γ p t)[j]? = some e) : (∃ x y, Γ[j]? = some (.tr x) ∧ e = .tr y) ∨ Γ[j]? = some e := by
  cases p with
  | nil => exact .inr h
  | cons i p =>
    simp only [setG] at h
    split at h
    · rename_i x hx
      by_cases q : i = j
      · subst q
        rw [List.getElem?_set_self (getq_lt' hx)] at h
        exact .inl ⟨x, _, hx, (Option.some.inj h).symm⟩
      · rw [List.getElem?_set_ne q] at h
        exact .inr h
    · exact .inr h
/-- what stands at a place is taken out and held by hand -/
theorem EnvOk.ext (E : EnvOk K c σ H Γ (.al p :: τ) (w :: us)) (g : getG Γ p = some t) : EnvOk K c σ H (kill p (setG Γ p .any)) (.tr t :: .al p :: kill p τ) (w :: w :: us) := by
  obtain ⟨Z, ws, Φ, Ψ, sl, tm, dj, so, to, ln, zo, zf, z0, zs, st, pv⟩ := E
  have gs : (getG Γ p).isSome = true := by rw [g]; rfl
  have g2 : getP (trees Γ) p = some t := by rw [getG_getP gs, g]
  obtain ⟨w', Φ1, Φ2, raw, r, d, u, r2, _⟩ := RepL.path sl g2
  obtain ⟨w0, e0, raw0, _⟩ := to 0 p rfl
  have e0 : w = w0 := Option.some.inj e0
  subst e0
  cases raw.fn raw0
  obtain ⟨v0, vs0, Θ1, Θ2, e1, a1, a2, ad, au⟩ := tm
  cases e1
  have a1 : ∀ b, ¬ Θ1 b := a1
  have npp : ∀ {p : List Nat}, nbel p p = true := by
    intro p
    induction p with
    | nil => rfl
    | cons i p ih => simp [nbel, ih]
  refine ⟨Z, ws, Φ2, fun b => Φ1 b ∨ Ψ b, ⟨?_, ?_, by grind, ?_, ?_, ?_, by grind, zf, z0, zs, st, pv⟩⟩
  · rw [trees_kill, trees_setG gs]
    exact r2
  · refine ⟨w, _, Φ1, Ψ, rfl, r, ⟨w, us, Θ1, Θ2, rfl, a1, ?_, ad, au⟩, by grind, fun _ => Iff.rfl⟩
    show RepL K Z H .own (trees (kill p τ)) us Θ2
    rw [trees_kill]
    exact a2
  · intro j e he
    obtain ⟨e', he', rfl⟩ := kill_at he
    rcases setG_at he' with ⟨x, y, hx, rfl⟩ | he'
    · exact so j _ hx
    · have h1 := so j e' he'
      cases e' with
      | no => trivial
      | tr x => exact h1
      | al q =>
        obtain ⟨w1, s1, s2, s3⟩ := h1
        by_cases nb : nbel p q = true
        · simp only [killE, nb, if_true]
          exact ⟨w1, s1, s2, by rw [getG_kill]; exact getG_setG s3 gs nb⟩
        · simp only [killE, nb]
          trivial
  · intro j q hj
    match j with
    | 0 => simp at hj
    | 1 =>
      simp at hj
      subst hj
      exact ⟨w, rfl, raw, by rw [getG_kill]; exact getG_setG gs gs npp⟩
    | j + 2 =>
      have hj : (kill p τ)[j]? = some (.al q) := by simpa using hj
      obtain ⟨e', he', hk⟩ := kill_at hj
      cases e' with
      | no => simp [killE] at hk
      | tr _ => simp [killE] at hk
      | al r =>
        by_cases nb : nbel p r = true
        · simp only [killE, nb, if_true] at hk
          cases hk
          obtain ⟨w1, s1, s2, s3⟩ := to (j + 1) q (by simpa using he')
          exact ⟨w1, by simpa using s1, s2, by rw [getG_kill]; exact getG_setG s3 gs nb⟩
        · simp [killE, nb] at hk
  · rw [ln]; simp [kill, setG_len]
/-- it is put back -/
theorem EnvOk.back (E : EnvOk K c σ H Γ (.tr t :: .al p :: τ) (w :: w :: us)) (g : getG Γ p = some .any) (he : esc t = true) : EnvOk K c σ H (setG Γ p t) (.al p :: τ) (w :: us) := by
  obtain ⟨Z, ws, Φ, Ψ, sl, tm, dj, so, to, ln, zo, zf, z0, zs, st, pv⟩ := E
  have gs : (getG Γ p).isSome = true := by rw [g]; rfl
  have g2 : getP (trees Γ) p = some .any := by rw [getG_getP gs, g]
  obtain ⟨w0, e0, raw0, _⟩ := to 1 p rfl
  have e0 : w = w0 := Option.some.inj e0
  subst e0
  obtain ⟨v0, vs0, Θ1, Θ2, e1, a1, a2, ad, au⟩ := tm
  cases e1
  have r3 := RepL.putP sl g2 raw0 a1 (by grind) he
  have nb : ∀ {q : List Nat}, (getG Γ q).isSome = true → nbel p q = true := fun h => nbel_any g2 (getG_isP h)
  refine ⟨Z, ws, fun b => Θ1 b ∨ Φ b, Θ2, ⟨by rw [trees_setG gs]; exact r3, a2, by grind, ?_, ?_, by rw [ln]; simp [setG_len], by grind, zf, z0, zs, st, pv⟩⟩
  · intro j e he
    rcases setG_at he with ⟨x, y, hx, rfl⟩ | he'
    · exact so j _ hx
    · have h1 := so j e he'
      cases e with
      | no => trivial
      | tr x => exact h1
      | al q =>
        obtain ⟨w1, s1, s2, s3⟩ := h1
        exact ⟨w1, s1, s2, getG_setG s3 gs (nb s3)⟩
  · intro j q hj
    obtain ⟨w1, s1, s2, s3⟩ := to (j + 1) q (by simpa using hj)
    exact ⟨w1, by simpa using s1, s2, getG_setG s3 gs (nb s3)⟩
end
def viewE (Γ : List Ent) : Ent → Option Tr
  | .tr t => some t
  | .al p => getG Γ p
  | .no => none
/-- the j-th item of what stands there -/
def kidE (e : Ent) (k : Nk) (o : Ow) (ts : List Tr) (j : Nat) : Option Ent := match ts[j]? with
  | none => none
  | some t => if cp (kid o t) = true then some (.tr (kid o t)) else match e, k with
    | .tr _, _ => some (.tr (kid o t))
    | .al _, .tup => none
    | .al p, _ => if o = .own then some (.al (p ++ [j])) else none
    | .no, _ => none
section
variable {K : KC} {Z Z' : Zn} {H H' : Hp} {m : Ow} {t t' : Tr} {ts : List Tr} {v w : V} {vs us ws : List V} {Φ Ψ : Ps} {a : Addr} {k : Nk} {o : Ow} {i j : Nat} {p q : List Nat} {Γ τ : List Ent} {σ : St} {c : Cz} {e e' : Ent}
theorem EnvOk.var (E : EnvOk K c σ H Γ τ us) (h : Γ[i]? = some (.tr t)) (hc : cp t = true) : ∃ v, σ[i]? = some (some v) ∧ EnvOk K c σ H Γ (.tr t :: τ) (v :: us) := by
  obtain ⟨Z, ws, Φ, Ψ, sl, tm, dj, so, to, ln, zo, zf, z0, zs, st, pv⟩ := E
  obtain ⟨v, hv, hs⟩ := so i _ h
  obtain ⟨v', Φ1, Φ2, e1, r, _⟩ := RepL.at_ _ sl (i := i) (t := t) (by simp [trees, h, Ent.tree])
  rw [hv] at e1
  cases e1
  have n0 := Rep.cp0 t r hc
  refine ⟨v, hs, Z, ws, Φ, Ψ, ⟨sl, ⟨v, us, Φ1, Ψ, rfl, r, tm, by grind, by grind⟩, dj, so, ?_, ln, zo, zf, z0, zs, st, pv⟩⟩
  intro j p hj
  match j with
  | 0 => simp at hj
  | j + 1 => exact to j p (by simpa using hj)
theorem EnvOk.pushA (E : EnvOk K c σ H Γ τ us) (h : ∀ ws, (∀ Z Φ Ψ, Ev K c Z ws Φ Ψ σ H Γ τ us → Raw H ws p v)) (g : (getG Γ p).isSome = true) : EnvOk K c σ H Γ (.al p :: τ) (v :: us) := by
  obtain ⟨Z, ws, Φ, Ψ, EE⟩ := E
  have raw := h ws Z Φ Ψ EE
  obtain ⟨sl, tm, dj, so, to, ln, zo, zf, z0, zs, st, pv⟩ := EE
  refine ⟨Z, ws, Φ, Ψ, ⟨sl, ⟨v, us, fun _ => False, Ψ, rfl, fun _ h => h, tm, by grind, by grind⟩, dj, so, ?_, ln, zo, zf, z0, zs, st, pv⟩⟩
  intro j q hj
  match j with
  | 0 =>
    simp at hj
    subst hj
    exact ⟨v, rfl, raw, g⟩
  | j + 1 => exact to j q (by simpa using hj)
theorem EnvOk.varP (E : EnvOk K c σ H Γ τ us) (h : Γ[i]? = some (.tr t)) : ∃ v, σ[i]? = some (some v) ∧ EnvOk K c σ H Γ (.al [i] :: τ) (v :: us) := by
  obtain ⟨Z, ws, Φ, Ψ, EE⟩ := id E
  obtain ⟨v, hv, hs⟩ := EE.so i _ h
  refine ⟨v, hs, E.pushA (fun ws2 Z2 Φ2 Ψ2 EE2 => ?_) (by simp [getG, h, getT])⟩
  obtain ⟨v2, hv2, hs2⟩ := EE2.so i _ h
  rw [hs] at hs2
  cases hs2
  exact hv2
theorem EnvOk.varA (E : EnvOk K c σ H Γ τ us) (h : Γ[i]? = some (.al p)) : ∃ v, σ[i]? = some (some v) ∧ EnvOk K c σ H Γ (.al p :: τ) (v :: us) := by
  obtain ⟨Z, ws, Φ, Ψ, EE⟩ := id E
  obtain ⟨v, hs, raw, g⟩ := EE.so i _ h
  refine ⟨v, hs, E.pushA (fun ws2 Z2 Φ2 Ψ2 EE2 => ?_) g⟩
  obtain ⟨v2, hs2, raw2, _⟩ := EE2.so i _ h
  rw [hs] at hs2
  cases hs2
  exact raw2
theorem Ev.view (E : Ev K c Z ws Φ Ψ σ H Γ τ us) {n : Nat} (h1 : τ[n]? = some e) (h2 : us[n]? = some v) (hv : viewE Γ e = some t) : ∃ Θ, Rep K Z H .own t v Θ := by
  cases e with
  | no => simp [viewE] at hv
  | tr x =>
    obtain ⟨v', Φ1, Φ2, e1, r, _⟩ := RepL.at_ _ E.tm (i := n) (t := x) (by simp [trees, h1, Ent.tree])
    rw [h2] at e1
    cases e1
    simp only [viewE] at hv
    cases hv
    exact ⟨Φ1, r⟩
  | al p =>
    obtain ⟨w, e1, raw, g⟩ := E.to n p h1
    rw [h2] at e1
    cases e1
    obtain ⟨w', Φ1, Φ2, raw', r, _⟩ := RepL.path E.sl (p := p) (t := t) (by rw [getG_getP g]; exact hv)
    cases raw.fn raw'
    exact ⟨Φ1, r⟩
theorem Chg.same (Z : Zn) (H : Hp) (Ψ : Ps) (zs : ∀ b, Z.fz b ∨ Z.ln b → (H b).isSome = true) (hs : ∀ b, Ψ b → (H b).isSome = true) (Ψ' : Ps) (n : ∀ b, Ψ' b → Ψ b ∧ ¬ Z.fz b ∧ ¬ Z.ln b) : Chg Z Z H H Ψ Ψ' :=
  ⟨fun _ h => h, fun _ h => h, fun _ h => .inl h, fun _ h => .inl h, zs, fun _ _ h _ => h, hs, fun b q => ⟨.inl (n b q).1, (n b q).2⟩⟩
/-- the top is dropped -/
theorem EnvOk.drop (E : EnvOk K c σ H Γ (e :: τ) (v :: us)) : EnvOk K c σ H Γ τ us := by
  obtain ⟨Z, ws, Φ, Ψ, EE⟩ := E
  exact EE.swap (τ1 := [e]) (us1 := [v]) (τ1' := []) (us1' := []) (Ψ1' := fun _ => False) rfl (by simp) (fun Ψ1 r => ⟨⟨rfl, fun _ h => h⟩, .same _ _ _ EE.zs (fun b q => RepL.isS _ r b q) _ (by simp)⟩) rfl
theorem EnvOk.atom (E : EnvOk K c σ H Γ τ us) (v : V) : EnvOk K c σ H Γ (.tr (.a v) :: τ) (v :: us) := by
  obtain ⟨Z, ws, Φ, Ψ, EE⟩ := E
  exact EE.swap (τ1 := []) (us1 := []) (τ1' := [.tr (.a v)]) (us1' := [v]) (Ψ1' := fun _ => False) rfl (by simp) (fun Ψ1 r => ⟨⟨v, [], fun _ => False, fun _ => False, rfl, ⟨rfl, fun _ h => h⟩, ⟨rfl, fun _ h => h⟩, by simp, by simp⟩, .same _ _ _ EE.zs (fun b q => RepL.isS _ r b q) _ (by simp)⟩) rfl
theorem Raw.snoc : ∀ {p : List Nat} {vs us : List V} {w w' : V}, Raw H vs p w → Kids H w us → us[j]? = some w' → Raw H vs (p ++ [j]) w'
  | [], _, _, _, _, r, _, _ => r.elim
  | [i], vs, us, w, w', r, kd, e => ⟨w, us, r, kd, e⟩
  | i :: i2 :: p, vs, us, w, w', r, kd, e => by
    obtain ⟨v, us2, e1, k1, r⟩ := r
    exact ⟨v, us2, e1, k1, r.snoc kd e⟩
theorem getT_snoc : ∀ {p : List Nat} {t : Tr}, getT t p = some (.nd k .own ts) → k ≠ .tup → getT t (p ++ [j]) = ts[j]?
  | [], t, h, hk => by
    cases h
    show getT _ [j] = _
    cases k <;> simp_all [getT] <;> cases ts[j]? <;> rfl
  | i :: p, t, h, hk => by
    cases t with
    | any => simp [getT] at h
    | a v => simp [getT] at h
    | nd k' o us =>
      cases k' <;> cases o <;> simp_all [getT]
      all_goals
        cases e : us[i]? with
        | none => simp [e] at h
        | some y =>
          simp only [e] at h ⊢
          exact getT_snoc h hk
theorem getG_snoc (h : getG Γ p = some (.nd k .own ts)) (hk : k ≠ .tup) : getG Γ (p ++ [j]) = ts[j]? := by
  cases p with
  | nil => simp [getG] at h
  | cons i p =>
    simp only [getG, List.cons_append] at h ⊢
    cases e : Γ[i]? with
    | none => simp [e] at h
    | some x =>
      cases x with
      | no => simp [e] at h
      | al _ => simp [e] at h
      | tr t =>
        simp only [e] at h ⊢
        exact getT_snoc h hk
theorem EnvOk.kidOf (E : EnvOk K c σ H Γ (e :: τ) (w :: us)) (hv : viewE Γ e = some (.nd k o ts)) (hk : kidE e k o ts j = some e') :
    ∃ a vs w', w = .ref a ∧ ObjAt K k o H a vs ∧ ts.length = vs.length ∧ vs[j]? = some w' ∧ EnvOk K c σ H Γ (e' :: τ) (w' :: us) := by
  obtain ⟨Z, ws, Φ, Ψ, EE⟩ := id E
  have view : ∃ Θ, Rep K Z H .own (.nd k o ts) w Θ ∧ ∀ x, e = .tr x → ∃ Ψ2, RepL K Z H .own (trees τ) us Ψ2 ∧ (∀ b, ¬ (Θ b ∧ Ψ2 b)) ∧ ∀ b, Ψ b ↔ Θ b ∨ Ψ2 b := by
    cases e with
    | tr x =>
      obtain ⟨v0, vs0, Θ1, Θ2, e1, a1, a2, ad, au⟩ := EE.tm
      cases e1
      simp only [viewE] at hv
      cases hv
      exact ⟨Θ1, a1, fun _ _ => ⟨Θ2, a2, ad, au⟩⟩
    | no => simp [viewE] at hv
    | al p =>
      obtain ⟨Θ, r⟩ := EE.view (n := 0) rfl rfl hv
      exact ⟨Θ, r, fun _ h => by cases h⟩
  obtain ⟨Θ, rT, rX⟩ := view
  obtain ⟨a, vs, Ξ, rfl, ho, hl, hn⟩ := id rT
  have ho : ObjAt K k o H a vs := ho
  have hl : RepL K Z H o ts vs Ξ := hl
  have hn : Nod Z k o a ts Ξ Θ := hn
  unfold kidE at hk
  cases ht : ts[j]? with
  | none => simp [ht] at hk
  | some t =>
    simp only [ht] at hk
    obtain ⟨w', Ξ1, Ξ2, e1, r1, d1, u1, _⟩ := RepL.at_ _ hl ht
    refine ⟨a, vs, w', rfl, ho, RepL.len _ hl, e1, ?_⟩
    have r1' : Rep K Z H .own (kid o t) w' Ξ1 := rep_kid.mpr r1
    by_cases hc : cp (kid o t) = true
    · rw [if_pos hc] at hk
      cases hk
      have n0 := Rep.cp0 _ r1' hc
      exact EE.swap (τ1 := [e]) (us1 := [.ref a]) (τ1' := [.tr (kid o t)]) (us1' := [w']) (Ψ1' := Ξ1) rfl (by simp) (fun Ψ1 r => ⟨⟨w', [], Ξ1, fun _ => False, rfl, r1', ⟨rfl, fun _ h => h⟩, by grind, by grind⟩, .same _ _ _ EE.zs (fun b q => RepL.isS _ r b q) _ (by grind)⟩) rfl
    · rw [if_neg hc] at hk
      cases e with
      | no => simp [viewE] at hv
      | tr x =>
        simp only at hk
        cases hk
        simp only [viewE] at hv
        cases hv
        obtain ⟨Ψ2, rR, rD, rU⟩ := rX _ rfl
        exact EE.swapX (τ1 := [.tr (.nd k o ts)]) (us1 := [.ref a]) (τ1' := [.tr (kid o t)]) (us1' := [w']) (Ψ1 := Θ) (Ψ1' := Ξ1) rfl (by simp) ⟨.ref a, [], Θ, fun _ => False, rfl, rT, ⟨rfl, fun _ h => h⟩, by grind, by grind⟩ rR rD rU ⟨w', [], Ξ1, fun _ => False, rfl, r1', ⟨rfl, fun _ h => h⟩, by grind, by grind⟩ (.same _ _ _ EE.zs (Rep.isS _ rT) _ (by
          intro b q
          have hb : Θ b := by
            by_cases eo : o = .own
            · exact hn.sub eo b ((u1 b).mpr (.inl q))
            · exact absurd ((u1 b).mpr (.inl q)) (RepL.no0 _ eo hl b)
          exact ⟨hb, (EE.zo b (.inr ((rU b).mpr (.inl hb)))).2⟩)) rfl
      | al p =>
        have g : getG Γ p = some (.nd k o ts) := hv
        obtain ⟨w0, e0, raw, gg⟩ := EE.to 0 p rfl
        cases e0
        have : k ≠ .tup ∧ o = .own ∧ e' = .al (p ++ [j]) := by
          cases k <;> simp_all
          all_goals grind
        obtain ⟨h1, rfl, rfl⟩ := this
        have gs2 : (getG Γ (p ++ [j])).isSome = true := by rw [getG_snoc g h1, ht]; rfl
        have raw2 := raw.snoc (objKids ho h1) e1
        obtain ⟨sl, tm, dj, so, to, ln, zo, zf, z0, zs, st, pv⟩ := EE
        obtain ⟨v0, vs0, Θ1, Θ2, e2, a1, a2, ad, au⟩ := tm
        cases e2
        refine ⟨Z, ws, Φ, Ψ, ⟨sl, ⟨w', us, Θ1, Θ2, rfl, a1, a2, ad, au⟩, dj, so, ?_, ln, zo, zf, z0, zs, st, pv⟩⟩
        intro i q hi
        match i with
        | 0 =>
          simp at hi
          subst hi
          exact ⟨w', rfl, raw2, gs2⟩
        | i + 1 =>
          obtain ⟨w1, s1, s2, s3⟩ := to (i + 1) q (by simpa using hi)
          exact ⟨w1, by simpa using s1, s2, s3⟩
end
section
variable {K : KC} {Z Z' : Zn} {H H' : Hp} {m : Ow} {t t' : Tr} {ts : List Tr} {v w : V} {vs us ws : List V} {Φ Ψ : Ps} {a : Addr} {k : Nk} {o : Ow} {i j : Nat} {p q : List Nat} {Γ τ : List Ent} {σ : St} {c : Cz} {e e' : Ent}
theorem RepL.anyv : ∀ (ts : List Tr) {vs : List V} {Φ : Ps} {i : Nat}, RepL K Z H m ts vs Φ → ts[i]? = some .any → RepL K Z H m ts (vs.set i v) Φ
  | [], _, _, _, _, q => by simp at q
  | x :: ts, vs, Φ, 0, h, q => by
    obtain ⟨v', vs', Φ1, Φ2, e1, h1, h2, d1, u⟩ := h
    cases q
    subst e1
    exact ⟨v, vs', Φ1, Φ2, rfl, h1, h2, d1, u⟩
  | x :: ts, vs, Φ, i + 1, h, q => by
    obtain ⟨v', vs', Φ1, Φ2, e1, h1, h2, d1, u⟩ := h
    subst e1
    exact ⟨v', vs'.set i v, Φ1, Φ2, rfl, h1, RepL.anyv ts h2 (by simpa using q), d1, u⟩
theorem Raw.setv (h : q.head? ≠ some i) (r : Raw H ws q w) : Raw H (ws.set i v) q w := by
  match q with
  | [] => exact r
  | [j] =>
    have : i ≠ j := fun e => h (by rw [e]; rfl)
    show (ws.set i v)[j]? = some w
    rw [List.getElem?_set_ne this]
    exact r
  | j :: j2 :: q =>
    have : i ≠ j := fun e => h (by rw [e]; rfl)
    obtain ⟨v', us, e1, k1, r⟩ := r
    exact ⟨v', us, by rw [List.getElem?_set_ne this]; exact e1, k1, r⟩
theorem getG_ne (h : q.head? ≠ some i) : getG ((Γ.map (killR i)).set i e) q = getG Γ q := by
  match q with
  | [] => rfl
  | j :: q =>
    have : i ≠ j := fun e => h (by rw [e]; rfl)
    simp only [getG]
    rw [List.getElem?_set_ne this, List.getElem?_map]
    cases Γ[j]? with
    | none => rfl
    | some x =>
      cases x with
      | al r => by_cases h : r.head? = some i <;> simp [killR, h]
      | _ => rfl
theorem killR_at (h : (Γ.map (killR i))[j]? = some e) : ∃ e', Γ[j]? = some e' ∧ e = killR i e' := by
  rw [List.getElem?_map] at h
  cases q : Γ[j]? with
  | none => simp [q] at h
  | some x => exact ⟨x, rfl, by simpa [q, eq_comm] using h⟩
theorem EnvOk.setT (E : EnvOk K c σ H Γ (.tr t :: τ) (v :: us)) (hi : i < Γ.length) (hm : c.md[i]? ≠ some true) : EnvOk K c (σ.set i (some v)) H ((Γ.map (killR i)).set i (.tr t)) (τ.map (killR i)) us := by
  obtain ⟨Z, ws, Φ, Ψ, sl, tm, dj, so, to, ln, zo, zf, z0, zs, st, pv⟩ := E
  obtain ⟨v0, vs0, Θ1, Θ2, e1, a1, a2, ad, au⟩ := tm
  cases e1
  have hlt : i < (trees Γ).length := by simpa [trees] using hi
  obtain ⟨v', Φ1, Φ2, e2, r, d, u, r2, _⟩ := RepL.at_ _ sl (i := i) (t := (trees Γ)[i]) (List.getElem?_eq_getElem hlt)
  have hw : i < ws.length := getq_lt' e2
  have g1 : ((trees Γ).set i .any)[i]? = some .any := List.getElem?_set_self hlt
  have r3 := RepL.put _ (RepL.anyv (v := v) _ r2 g1) g1 (List.getElem?_set_self hw) a1 (by grind)
  rw [List.set_set] at r3
  have et : trees ((Γ.map (killR i)).set i (.tr t)) = (trees Γ).set i t := by
    have := trees_killR (Γ := Γ) (i := i)
    simp only [trees, List.map_set] at this ⊢
    rw [this]
    rfl
  refine ⟨Z, ws.set i v, fun b => Θ1 b ∨ Φ2 b, Θ2, ⟨by rw [et]; exact r3, ?_, by grind, ?_, ?_, by simp [ln], by grind, zf, z0, zs, st, ?_⟩⟩
  · show RepL K Z H .own (trees (τ.map (killR i))) us Θ2
    rw [trees_killR]
    exact a2
  · intro j e he
    by_cases hj : i = j
    · subst hj
      rw [List.getElem?_set_self (by simpa using hi)] at he
      cases he
      exact ⟨v, List.getElem?_set_self hw, List.getElem?_set_self (by omega)⟩
    · rw [List.getElem?_set_ne hj] at he
      obtain ⟨e', he', rfl⟩ := killR_at he
      have h1 := so j e' he'
      cases e' with
      | no => trivial
      | tr x =>
        obtain ⟨x1, x2, x3⟩ := h1
        exact ⟨x1, by rw [List.getElem?_set_ne hj]; exact x2, by rw [List.getElem?_set_ne hj]; exact x3⟩
      | al q =>
        obtain ⟨x1, x2, x3, x4⟩ := h1
        by_cases hq : q.head? = some i
        · simp only [killR, hq, if_true]
          trivial
        · simp only [killR, hq, if_false]
          exact ⟨x1, by rw [List.getElem?_set_ne hj]; exact x2, x3.setv hq, by rw [getG_ne hq]; exact x4⟩
  · intro j q hj
    obtain ⟨e', he', hk⟩ := killR_at hj
    cases e' with
    | no => simp [killR] at hk
    | tr _ => simp [killR] at hk
    | al r =>
      by_cases hq : r.head? = some i
      · simp [killR, hq] at hk
      · simp only [killR, hq, if_false] at hk
        cases hk
        obtain ⟨w1, s1, s2, s3⟩ := to (j + 1) q (by simpa using he')
        exact ⟨w1, by simpa using s1, s2.setv hq, by rw [getG_ne hq]; exact s3⟩
  · intro j hj
    have : i ≠ j := fun e => hm (by rw [e]; exact hj)
    rw [List.getElem?_set_ne this]
    exact pv j hj
theorem EnvOk.setA (E : EnvOk K c σ H Γ (.al p :: τ) (v :: us)) (hi : i < Γ.length) (hm : c.md[i]? ≠ some true) (hp : p.head? ≠ some i) : EnvOk K c (σ.set i (some v)) H ((Γ.map (killR i)).set i (.al p)) (τ.map (killR i)) us := by
  obtain ⟨Z, ws, Φ, Ψ, sl, tm, dj, so, to, ln, zo, zf, z0, zs, st, pv⟩ := E
  obtain ⟨w0, e0, raw0, g0⟩ := to 0 p rfl
  cases e0
  obtain ⟨v0, vs0, Θ1, Θ2, e1, a1, a2, ad, au⟩ := tm
  cases e1
  have a1 : ∀ b, ¬ Θ1 b := a1
  have hlt : i < (trees Γ).length := by simpa [trees] using hi
  obtain ⟨v', Φ1, Φ2, e2, r, d, u, r2, _⟩ := RepL.at_ _ sl (i := i) (t := (trees Γ)[i]) (List.getElem?_eq_getElem hlt)
  have et : trees ((Γ.map (killR i)).set i (.al p)) = (trees Γ).set i .any := by
    have := trees_killR (Γ := Γ) (i := i)
    simp only [trees, List.map_set] at this ⊢
    rw [this]
    rfl
  refine ⟨Z, ws, Φ2, Θ2, ⟨by rw [et]; exact r2, ?_, by grind, ?_, ?_, by simp [ln], by grind, zf, z0, zs, st, pv⟩⟩
  · show RepL K Z H .own (trees (τ.map (killR i))) us Θ2
    rw [trees_killR]
    exact a2
  · intro j e he
    by_cases hj : i = j
    · subst hj
      rw [List.getElem?_set_self (by simpa using hi)] at he
      cases he
      exact ⟨v, List.getElem?_set_self (by omega), raw0, by rw [getG_ne hp]; exact g0⟩
    · rw [List.getElem?_set_ne hj] at he
      obtain ⟨e', he', rfl⟩ := killR_at he
      have h1 := so j e' he'
      cases e' with
      | no => trivial
      | tr x =>
        obtain ⟨x1, x2, x3⟩ := h1
        exact ⟨x1, x2, by rw [List.getElem?_set_ne hj]; exact x3⟩
      | al q =>
        obtain ⟨x1, x2, x3, x4⟩ := h1
        by_cases hq : q.head? = some i
        · simp only [killR, hq, if_true]
          trivial
        · simp only [killR, hq, if_false]
          exact ⟨x1, by rw [List.getElem?_set_ne hj]; exact x2, x3, by rw [getG_ne hq]; exact x4⟩
  · intro j q hj
    obtain ⟨e', he', hk⟩ := killR_at hj
    cases e' with
    | no => simp [killR] at hk
    | tr _ => simp [killR] at hk
    | al r =>
      by_cases hq : r.head? = some i
      · simp [killR, hq] at hk
      · simp only [killR, hq, if_false] at hk
        cases hk
        obtain ⟨w1, s1, s2, s3⟩ := to (j + 1) q (by simpa using he')
        exact ⟨w1, by simpa using s1, s2, by rw [getG_ne hq]; exact s3⟩
theorem RepL.reverse : ∀ (ts : List Tr) {vs : List V} {Φ : Ps}, RepL K Z H m ts vs Φ → RepL K Z H m ts.reverse vs.reverse Φ
  | [], vs, Φ, h => by
    obtain ⟨rfl, h2⟩ := h
    exact ⟨rfl, h2⟩
  | t :: ts, vs, Φ, h => by
    obtain ⟨v', vs', Φ1, Φ2, e1, h1, h2, d1, u⟩ := h
    subst e1
    rw [List.reverse_cons, List.reverse_cons]
    have r1 : RepL K Z H m [t] [v'] Φ1 := ⟨v', [], Φ1, fun _ => False, rfl, h1, ⟨rfl, fun _ h => h⟩, by grind, by grind⟩
    exact (RepL.append _ (RepL.reverse ts h2) r1 (by grind)).cast _ (by grind)
/-- how a new node is marked -/
def mkN (k : Nk) (ts : List Tr) : Option Tr := if k = .tup then some (.nd .tup .own ts) else if escL ts = true then some (.nd k .own ts) else if cpL ts = true then some (.nd k .lnt ts) else none
mutual
theorem Rep.lend : ∀ (t : Tr) {m : Ow} {v : V} {Φ : Ps}, Rep K Z H m t v Φ → (∀ b, Z.fz b → Z'.fz b) → (∀ b, Z.ln b ∨ Φ b → Z'.ln b) → Rep K Z' H (eff .lnt m) t v (fun _ => False)
  | .any, _, _, _, h, _, _ => fun _ h => h
  | .a _, _, _, _, h, _, _ => ⟨h.1, fun _ h => h⟩
  | .nd k o ts, m, v, Φ, h, f, l => by
    obtain ⟨a, vs, Ψ, e1, ho, hl, hn⟩ := h
    have ee : eff (eff .lnt m) o = eff .lnt (eff m o) := by cases m <;> cases o <;> rfl
    have sub : ∀ b, Ψ b → Φ b := by
      intro b q
      by_cases eo : eff m o = .own
      · exact hn.sub eo b q
      · exact absurd q (RepL.no0 ts eo hl b)
    refine ⟨a, vs, fun _ => False, e1, ?_, ?_, ?_⟩
    · rw [ee]
      exact ho.weak (by cases eff m o <;> simp [eff])
    · rw [ee]
      exact RepL.lend ts hl f fun b q => l b (q.imp id (sub b))
    · rw [ee]
      cases k <;> cases eo : eff m o <;> simp_all [Nod, eff]
theorem RepL.lend : ∀ (ts : List Tr) {m : Ow} {vs : List V} {Φ : Ps}, RepL K Z H m ts vs Φ → (∀ b, Z.fz b → Z'.fz b) → (∀ b, Z.ln b ∨ Φ b → Z'.ln b) → RepL K Z' H (eff .lnt m) ts vs (fun _ => False)
  | [], _, _, _, h, _, _ => ⟨h.1, fun _ h => h⟩
  | t :: ts, m, vs, Φ, h, f, l => by
    obtain ⟨v', vs', Φ1, Φ2, e1, h1, h2, d1, u⟩ := h
    exact ⟨v', vs', _, _, e1, Rep.lend t h1 f (by grind), RepL.lend ts h2 f (by grind), by simp, by simp⟩
end
mutual
theorem Rep.freeze : ∀ (t : Tr) {m : Ow} {v : V} {Φ : Ps}, Rep K Z H m t v Φ → m ≠ .lnt → (m = .own → esc t = true) → (∀ b, Z.fz b ∨ Φ b → Z'.fz b) → Rep K Z' H .frz t v (fun _ => False)
  | .any, _, _, _, h, _, _, _ => fun _ h => h
  | .a _, _, _, _, h, _, _, _ => ⟨h.1, fun _ h => h⟩
  | .nd k o ts, m, v, Φ, h, hm, he, f => by
    obtain ⟨a, vs, Ψ, e1, ho, hl, hn⟩ := h
    have sub : ∀ b, Ψ b → Φ b := by
      intro b q
      by_cases eo : eff m o = .own
      · exact hn.sub eo b q
      · exact absurd q (RepL.no0 ts eo hl b)
    have nl : eff m o ≠ .lnt := by
      cases m with
      | lnt => exact absurd rfl hm
      | frz => simp [eff]
      | own =>
        have := he rfl
        cases k <;> cases o <;> simp_all [esc, eff]
    have ee : eff .frz o = .frz := rfl
    refine ⟨a, vs, fun _ => False, e1, ?_, ?_, ?_⟩
    · rw [ee]
      exact ho.weak (by simp)
    · rw [ee]
      refine RepL.freeze ts hl nl (fun q => ?_) fun b q => f b (q.imp id (sub b))
      cases m with
      | lnt => exact absurd rfl hm
      | frz => simp [eff] at q
      | own =>
        have := he rfl
        cases k <;> cases o <;> simp_all [esc, eff, Nod]
    · rw [ee]
      cases k <;> cases eo : eff m o <;> simp_all [Nod]
theorem RepL.freeze : ∀ (ts : List Tr) {m : Ow} {vs : List V} {Φ : Ps}, RepL K Z H m ts vs Φ → m ≠ .lnt → (m = .own → escL ts = true) → (∀ b, Z.fz b ∨ Φ b → Z'.fz b) → RepL K Z' H .frz ts vs (fun _ => False)
  | [], _, _, _, h, _, _, _ => ⟨h.1, fun _ h => h⟩
  | t :: ts, m, vs, Φ, h, hm, he, f => by
    obtain ⟨v', vs', Φ1, Φ2, e1, h1, h2, d1, u⟩ := h
    exact ⟨v', vs', _, _, e1, Rep.freeze t h1 hm (fun q => by have := he q; simp_all [escL]) (by grind), RepL.freeze ts h2 hm (fun q => by have := he q; simp_all [escL]) (by grind), by simp, by simp⟩
end
end
section
variable {K : KC} {Z Z' : Zn} {H H' : Hp} {m : Ow} {t t' : Tr} {ts : List Tr} {v w : V} {vs us ws : List V} {Φ Ψ : Ps} {a : Addr} {k k' : Nk} {o : Ow} {i j : Nat} {p q : List Nat} {Γ τ τ1 τ1' : List Ent} {σ : St} {c : Cz} {e e' : Ent}
theorem Ev.swapE {us1 us1' : List V} (E : Ev K c Z ws Φ Ψ σ H Γ (τ1 ++ τ) (us1 ++ us)) (hl : τ1.length = us1.length) (hal : ∀ e ∈ τ1', ∀ p, e ≠ .al p)
    (step : ∀ Ψ1, RepL K Z H .own (trees τ1) us1 Ψ1 → (∀ b, Ψ1 b → ¬ Z.fz b ∧ ¬ Z.ln b) → ∃ Z' Ψ1', RepL K Z' H' .own (trees τ1') us1' Ψ1' ∧ Chg Z Z' H H' Ψ1 Ψ1') (hl' : τ1'.length = us1'.length) : EnvOk K c σ H' Γ (τ1' ++ τ) (us1' ++ us) := by
  have tm' : RepL K Z H .own (trees τ1 ++ trees τ) (us1 ++ us) Ψ := by simpa [trees] using E.tm
  obtain ⟨v1, v2, Ψ1, Ψ2, e, r1, r2, d, u⟩ := RepL.split _ tm'
  have hl1 := RepL.len _ r1
  have hlt : (trees τ1).length = τ1.length := by simp [trees]
  obtain ⟨rfl, rfl⟩ := List.append_inj e (by omega)
  obtain ⟨Z', Ψ1', n1, ch⟩ := step Ψ1 r1 fun b q => (E.zo b (.inr ((u b).mpr (.inl q)))).2
  exact E.swapX hl hal r1 r2 d u n1 ch hl'
theorem upd_kp {pa : Addr} {ob : HO} (hp : H pa = none) (Φ : Ps) : Kp K Z Z H (upd H pa ob) Φ :=
  ⟨fun _ h => h, fun _ h => h, fun b o _ e => by rw [upd_ne (ne_of_none e hp)]; exact e, tsk fun b o e _ => by rw [upd_ne (ne_of_none e hp)]; exact e⟩
theorem trees_tr : trees (ts.map Ent.tr) = ts := by
  simp only [trees, List.map_map]
  exact List.map_id' ts
theorem EnvOk.new {pa : Addr} {ob : HO} (E : EnvOk K c σ H Γ (ts.reverse.map Ent.tr ++ τ) (vs.reverse ++ us)) (hl : ts.length = vs.length) (hp : H pa = none) (hk : mkN k ts = some t) (ho : ∀ o, ObjAt K k o (upd H pa ob) pa vs) : EnvOk K c σ (upd H pa ob) Γ (.tr t :: τ) (.ref pa :: us) := by
  obtain ⟨Z, ws, Φ, Ψ, EE⟩ := E
  refine EE.swapE (τ1' := [.tr t]) (us1' := [.ref pa]) (by simp [hl]) (by simp) (fun Ψ1 r zo => ?_) rfl
  rw [trees_tr] at r
  have r := RepL.reverse _ r
  rw [List.reverse_reverse, List.reverse_reverse] at r
  have r2 := RepL.fr _ r (upd_kp (K := K) (Z := Z) (ob := ob) hp Ψ1)
  have hs := RepL.isS _ r
  have np : ¬ Ψ1 pa := fun q => by have := hs pa q; rw [hp] at this; cases this
  have nz : ∀ b, Z.fz b ∨ Z.ln b → b ≠ pa := fun b q e => by have := EE.zs b q; rw [e, hp] at this; cases this
  have kb : ∀ b, (H b).isSome = true → (upd H pa ob b).isSome = true := fun b q => by
    by_cases e : b = pa
    · rw [e, upd_same]; rfl
    · rw [upd_ne e]; exact q
  have one : ∀ {Z' : Zn} {Θ : Ps}, Rep K Z' (upd H pa ob) .own t (.ref pa) Θ → RepL K Z' (upd H pa ob) .own (trees [.tr t]) [.ref pa] Θ := fun {Z' Θ} h => ⟨.ref pa, [], Θ, fun _ => False, rfl, h, ⟨rfl, fun _ h => h⟩, by simp, by simp⟩
  unfold mkN at hk
  by_cases h1 : k = .tup
  · rw [if_pos h1] at hk
    cases hk
    subst h1
    refine ⟨Z, Ψ1, one ⟨pa, vs, Ψ1, rfl, ho _, r2, fun _ => Iff.rfl⟩, ⟨fun _ h => h, fun _ h => h, fun _ h => .inl h, fun _ h => .inl h, fun b q => kb b (EE.zs b q), fun b o e _ => by rw [upd_ne (ne_of_none e hp)]; exact e, fun b q => kb b (hs b q), fun b q => ⟨.inl q, zo b q⟩⟩⟩
  · rw [if_neg h1] at hk
    by_cases h2 : escL ts = true
    · rw [if_pos h2] at hk
      cases hk
      refine ⟨Z, fun b => b = pa ∨ Ψ1 b, one ⟨pa, vs, Ψ1, rfl, ho _, r2, .mk h1 (fun _ => Iff.rfl) np h2⟩, ⟨fun _ h => h, fun _ h => h, fun _ h => .inl h, fun _ h => .inl h, fun b q => kb b (EE.zs b q), fun b o e _ => by rw [upd_ne (ne_of_none e hp)]; exact e, fun b q => kb b (hs b q), fun b q => ?_⟩⟩
      rcases q with q | q
      · subst q
        exact ⟨.inr hp, fun z => nz b (.inl z) rfl, fun z => nz b (.inr z) rfl⟩
      · exact ⟨.inl q, zo b q⟩
    · rw [if_neg h2] at hk
      by_cases h3 : cpL ts = true
      · rw [if_pos h3] at hk
        cases hk
        have n0 := RepL.cp0 _ r h3
        refine ⟨⟨Z.fz, fun b => b = pa ∨ Z.ln b⟩, fun _ => False, one ⟨pa, vs, fun _ => False, rfl, ho _, ?_, ?_⟩, ⟨fun _ h => h, fun _ h => .inr h, fun _ h => .inl h, fun b h => ?_, fun b q => ?_, fun b o e _ => by rw [upd_ne (ne_of_none e hp)]; exact e, fun b q => kb b (hs b q), fun b q => q.elim⟩⟩
        · exact RepL.lend (m := .own) ts r2 (fun _ h => h) fun b q => .inr (q.elim id fun z => absurd z (n0 b))
        · cases k with
          | tup => exact absurd rfl h1
          | _ => exact ⟨fun _ h => h, .inl rfl⟩
        · rcases h with h | h
          · exact .inr (.inr (by rw [h]; exact hp))
          · exact .inl h
        · rcases q with q | q | q
          · exact kb b (EE.zs b (.inl q))
          · rw [q, upd_same]; rfl
          · exact kb b (EE.zs b (.inr q))
      · rw [if_neg h3] at hk
        cases hk
theorem EnvOk.lend (E : EnvOk K c σ H Γ (.tr t :: τ) (v :: us)) : EnvOk K c σ H Γ (.tr (kid .lnt t) :: τ) (v :: us) := by
  obtain ⟨Z, ws, Φ, Ψ, EE⟩ := E
  refine EE.swapE (τ1 := [.tr t]) (us1 := [v]) (τ1' := [.tr (kid .lnt t)]) (us1' := [v]) rfl (by simp) (fun Ψ1 r zo => ?_) rfl
  have hs := RepL.isS _ r
  obtain ⟨v0, vs0, Θ1, Θ2, e1, a1, a2, ad, au⟩ := r
  cases e1
  refine ⟨⟨Z.fz, fun b => Z.ln b ∨ Ψ1 b⟩, fun _ => False, ⟨v, [], fun _ => False, fun _ => False, rfl, rep_kid.mpr (Rep.lend (m := .own) t a1 (fun _ h => h) fun b q => q.imp id fun z => (au b).mpr (.inl z)), ⟨rfl, fun _ h => h⟩, by simp, by simp⟩,
    ⟨fun _ h => h, fun _ h => .inl h, fun _ h => .inl h, fun b h => h.imp id .inl, fun b q => ?_, fun b o e _ => e, hs, fun b q => q.elim⟩⟩
  rcases q with q | q | q
  · exact EE.zs b (.inl q)
  · exact EE.zs b (.inr q)
  · exact hs b q
theorem EnvOk.freeze (E : EnvOk K c σ H Γ (.tr t :: τ) (v :: us)) (he : esc t = true) : EnvOk K c σ H Γ (.tr (kid .frz t) :: τ) (v :: us) := by
  obtain ⟨Z, ws, Φ, Ψ, EE⟩ := E
  refine EE.swapE (τ1 := [.tr t]) (us1 := [v]) (τ1' := [.tr (kid .frz t)]) (us1' := [v]) rfl (by simp) (fun Ψ1 r zo => ?_) rfl
  have hs := RepL.isS _ r
  obtain ⟨v0, vs0, Θ1, Θ2, e1, a1, a2, ad, au⟩ := r
  cases e1
  refine ⟨⟨fun b => Z.fz b ∨ Ψ1 b, Z.ln⟩, fun _ => False, ⟨v, [], fun _ => False, fun _ => False, rfl, rep_kid.mpr (Rep.freeze (m := .own) t a1 (by simp) (fun _ => he) fun b q => q.imp id fun z => (au b).mpr (.inl z)), ⟨rfl, fun _ h => h⟩, by simp, by simp⟩,
    ⟨fun _ h => .inl h, fun _ h => h, fun b h => h.imp id .inl, fun _ h => .inl h, fun b q => ?_, fun b o e _ => e, hs, fun b q => q.elim⟩⟩
  rcases q with (q | q) | q
  · exact EE.zs b (.inl q)
  · exact hs b q
  · exact EE.zs b (.inr q)
/-- an own node that is held changes in place; items may come out of it -/
theorem EnvOk.mut {us1 vs' vouts : List V} {ts' outs : List Tr} {ob : HO} (E : EnvOk K c σ H Γ (.tr (.nd k .own ts) :: (τ1 ++ τ)) (.ref a :: (us1 ++ us))) (hk : k ≠ .tup) (hk' : k' ≠ .tup) (hl : τ1.length = us1.length) (ho : ObjAt K k .own H a vs)
    (step : ∀ Z Ψa Ψb, RepL K Z H .own ts vs Ψa → RepL K Z H .own (trees τ1) us1 Ψb → (∀ b, ¬ (Ψa b ∧ Ψb b)) → ∃ Ψ', RepL K Z H .own (ts' ++ outs) (vs' ++ vouts) Ψ' ∧ ∀ b, Ψ' b → Ψa b ∨ Ψb b)
    (hl2 : ts'.length = vs'.length) (hl3 : outs.length = vouts.length) (he : escL ts' = true) (ho' : ObjAt K k' .own (upd H a ob) a vs') :
    EnvOk K c σ (upd H a ob) Γ (.tr (.nd k' .own ts') :: (outs.map .tr ++ τ)) (.ref a :: (vouts ++ us)) := by
  obtain ⟨Z, ws, Φ, Ψ, EE⟩ := E
  refine EE.swapE (τ1 := .tr (.nd k .own ts) :: τ1) (us1 := .ref a :: us1) (τ1' := .tr (.nd k' .own ts') :: outs.map .tr) (us1' := .ref a :: vouts) (by simp [hl]) (by simp) (fun Ψ1 r zo => ?_) (by simp [hl3])
  have hs := RepL.isS _ r
  have nt := RepL.nt _ r
  obtain ⟨v0, vs0, Θ1, Θ2, e1, a1, a2, ad, au⟩ := r
  cases e1
  obtain ⟨a', vs2, Ξ, e2, ho2, hl4, hn⟩ := a1
  cases e2
  have ho2 : ObjAt K k .own H a vs2 := ho2
  have hl4 : RepL K Z H .own ts vs2 Ξ := hl4
  have hn : Nod Z k .own a ts Ξ Θ1 := hn
  cases (objKids ho hk).fn (objKids ho2 hk)
  have hn := hn.own hk
  obtain ⟨Ψ', r', sub⟩ := step Z Ξ Θ2 hl4 a2 (by grind)
  have na : ¬ Ψ' a := by grind
  have aΨ : Ψ1 a := by grind
  have nz := zo a aΨ
  have kp : Kp K Z Z H (upd H a ob) Ψ' := ⟨fun _ h => h, fun _ h => h, fun b o q e => by rw [upd_ne (by grind)]; exact e, tsk fun b o e n => by
    rw [upd_ne (fun q => by subst q; have := nt b o aΨ e; rw [n] at this; cases this)]; exact e⟩
  have r' := RepL.fr _ r' kp
  obtain ⟨w1, w2, Ξ1, Ξ2, e3, b1, b2, bd, bu⟩ := RepL.split _ r'
  have hlen := RepL.len _ b1
  obtain ⟨rfl, rfl⟩ := List.append_inj e3 (by omega)
  refine ⟨Z, fun b => b = a ∨ Ψ' b, ⟨.ref a, vouts, fun b => b = a ∨ Ξ1 b, Ξ2, rfl, ⟨a, vs', Ξ1, rfl, ho', b1, .mk hk' (fun _ => Iff.rfl) (by grind) he⟩, ?_, by grind, by grind⟩, ⟨fun _ h => h, fun _ h => h, fun _ h => .inl h, fun _ h => .inl h, fun b q => ?_, fun b o e n => by rw [upd_ne (by grind)]; exact e, fun b q => ?_, fun b q => ?_⟩⟩
  · show RepL K Z (upd H a ob) .own (trees (outs.map .tr)) vouts Ξ2
    rw [trees_tr]
    exact b2
  · rw [upd_ne (by grind)]; exact EE.zs b q
  · by_cases e : b = a
    · rw [e, upd_same]; rfl
    · rw [upd_ne e]; exact hs b q
  · have : Ψ1 b := by grind
    exact ⟨.inl this, zo b this⟩
end
/-! the machine: readings as functions on trees -/
structure KT where
  P : Program
  w : World
  ct : Nat → Addr
  nm : Nat → List Str
  et : Nat → Addr
  ef : Nat → Option (Str × Str)
abbrev kcm (K : PySem.W.Frag) (T : KT) : KC := ⟨K, T.P, T.w, T.ct, T.nm, T.et, T.ef⟩
/-- a heap behind an error, and where the error's own dict lies (if it has one) -/
abbrev HX := Hp × Option Addr
abbrev xdT (d : Addr) (f x : Str) : Tr := .nd (.xd d f x) .own []
/-- behind an error of the kind C: if it has a field, its own dict lies on top -/
def EnvX (K : KC) (c : Cz) (C : Nat) (σ : St) (H : HX) (Γ s : List Ent) (us : List V) : Prop := match K.ef C with
  | none => H.2 = none ∧ EnvOk K c σ H.1 Γ s us
  | some (f, x) => ∃ d, H.2 = some d ∧ EnvOk K c σ H.1 Γ (.tr (xdT d f x) :: s) (.ref d :: us)
theorem EnvX.imp {K : KC} {c c' : Cz} {C : Nat} {σ σ' : St} {H : HX} {Γ Γ' s s' : List Ent} {us us' : List V} (h : EnvX K c C σ H Γ s us) (f : ∀ H t vs, EnvOk K c σ H Γ (t ++ s) (vs ++ us) → EnvOk K c' σ' H Γ' (t ++ s') (vs ++ us')) : EnvX K c' C σ' H Γ' s' us' := by
  unfold EnvX at h ⊢
  cases e : K.ef C with
  | none =>
    rw [e] at h
    exact ⟨h.1, f H.1 [] [] h.2⟩
  | some p =>
    rw [e] at h
    obtain ⟨d, h1, h2⟩ := h
    exact ⟨d, h1, f H.1 [_] [_] h2⟩
theorem EnvX.mk0 {K : KC} {c : Cz} {C : Nat} {σ : St} {H : Hp} {Γ s : List Ent} {us : List V} (hC : K.ef C = none) (h : EnvOk K c σ H Γ s us) : EnvX K c C σ (H, none) Γ s us := by
  unfold EnvX
  rw [hC]
  exact ⟨rfl, h⟩
theorem EnvX.no {K : KC} {c : Cz} {C : Nat} {σ : St} {H : HX} {Γ s : List Ent} {us : List V} (hC : K.ef C = none) (E : EnvX K c C σ H Γ s us) : H.2 = none ∧ EnvOk K c σ H.1 Γ s us := by
  unfold EnvX at E
  rw [hC] at E
  exact E
structure Ms where
  g : List Ent
  s : List Ent
inductive Rs | ok (m : Ms) | ex (C : Nat) (g : List Ent)
abbrev GE := Ms → Option Rs
def PostE (K : KC) (c : Cz) (W : WX) (σ : St) (us : List V) (Q : VK) : Rs → Prop
  | .ok m' => ∀ v H', EnvOk K c σ H' m'.g m'.s (v :: us) → Q v H'
  | .ex C g' => ∀ H' : HX, EnvX K c C σ H' g' [] [] → W (.ref (K.et C)) H'.2 σ H'.1
def SE (K : KC) (md : List Bool) (W : WX) (t : TE) (g : GE) : Prop := ∀ (c : Cz) (σ : St) (H : Hp) (m : Ms) (us : List V) (Q : VK) (r : Rs), c.md = md → EnvOk K c σ H m.g m.s us → g m = some r → PostE K c W σ us Q r → t σ H Q
def PostA (K : KC) (c : Cz) (W : WX) (σ : St) (us : List V) (n : Nat) (Q : List V → Hp → Prop) : Rs → Prop
  | .ok m' => ∀ vs H', vs.length = n → EnvOk K c σ H' m'.g m'.s (vs.reverse ++ us) → Q vs H'
  | .ex C g' => ∀ H' : HX, EnvX K c C σ H' g' [] [] → W (.ref (K.et C)) H'.2 σ H'.1
def SA (K : KC) (md : List Bool) (W : WX) (n : Nat) (t : TA) (g : GE) : Prop := ∀ (c : Cz) (σ : St) (H : Hp) (m : Ms) (us : List V) (Q : List V → Hp → Prop) (r : Rs), c.md = md → EnvOk K c σ H m.g m.s us → g m = some r → PostA K c W σ us n Q r → t σ H Q
/-- a test leaves a truth value on top -/
def PostT (K : KC) (c : Cz) (W : WX) (σ : St) (us : List V) (Q : Bool → Hp → Prop) : Rs → Prop
  | .ok ⟨g', .tr (.a (.bl b)) :: s'⟩ => ∀ H', EnvOk K c σ H' g' s' us → Q b H'
  | .ok _ => False
  | .ex C g' => ∀ H' : HX, EnvX K c C σ H' g' [] [] → W (.ref (K.et C)) H'.2 σ H'.1
def ST (K : KC) (md : List Bool) (W : WX) (t : TT) (g : GE) : Prop := ∀ (c : Cz) (σ : St) (H : Hp) (m : Ms) (us : List V) (Q : Bool → Hp → Prop) (r : Rs), c.md = md → EnvOk K c σ H m.g m.s us → g m = some r → PostT K c W σ us Q r → t σ H Q
def ME (X : Cx) (T : KT) (md : List Bool) (W : WX) (e : Expr) (g : GE) : Prop := ∃ t, PE X e t ∧ SE (kcm X.K T) md W t g
def MA (X : Cx) (T : KT) (md : List Bool) (W : WX) (es : List Expr) (g : GE) : Prop := ∃ t, PA X es t ∧ SA (kcm X.K T) md W es.length t g
def MT (X : Cx) (T : KT) (md : List Bool) (W : WX) (e : Expr) (g : GE) : Prop := ∃ t, PT X e t ∧ ST (kcm X.K T) md W t g
def MW (X : Cx) (T : KT) (md : List Bool) (W : WX) (e : Expr) (g : GE) : Prop := ∃ t, PW X e t ∧ ST (kcm X.K T) md W t g
def gSeq (a b : GE) : GE := fun m => match a m with
  | some (.ok m') => b m'
  | r => r
/-- what an operation on n values of the stack does -/
def RA (K : KC) (md : List Bool) (W : WX) (n : Nat) (r : St → List V → Hp → VK → Prop) (f : GE) : Prop := ∀ (c : Cz) (σ : St) (H : Hp) (m : Ms) (us vs : List V) (Q : VK) (rr : Rs), c.md = md → vs.length = n → EnvOk K c σ H m.g m.s (vs.reverse ++ us) → f m = some rr → PostE K c W σ us Q rr → r σ vs H Q
abbrev RA2 (K : KC) (md : List Bool) (W : WX) (r : R2) (f : GE) : Prop := RA K md W 2 (fun _ vs H Q => ∃ x y, vs = [x, y] ∧ r x y H Q) f
section
variable {K : KC} {X : Cx} {T : KT} {md : List Bool} {W : WX} {t ta tb : TE} {g ga gb f f' : GE} {e a b : Expr} {es : List Expr} {pos : Pos} {n : Nat} {r r' : R2} {v : V}
theorem RA2.mk (h : ∀ (c : Cz) (σ : St) (H : Hp) (m : Ms) (us : List V) (x y : V) (Q : VK) (rr : Rs), c.md = md → EnvOk K c σ H m.g m.s (y :: x :: us) → f m = some rr → PostE K c W σ us Q rr → r x y H Q) : RA2 K md W r f := by
  intro c σ H m us vs Q rr hc hl E hf hp
  match vs, hl with
  | [x, y], _ => exact ⟨x, y, rfl, h c σ H m us x y Q rr hc E hf hp⟩
theorem RA2.use (h : RA2 K md W r f) {c : Cz} {σ : St} {H : Hp} {m : Ms} {us : List V} {x y : V} {Q : VK} {rr : Rs} (hc : c.md = md) (E : EnvOk K c σ H m.g m.s (y :: x :: us)) (hf : f m = some rr) (hp : PostE K c W σ us Q rr) : r x y H Q := by
  obtain ⟨x', y', e, q⟩ := h c σ H m us [x, y] Q rr hc rfl E hf hp
  cases e
  exact q
theorem se_op (hr : RA2 K md W r f) (ha : SE K md W ta ga) (hb : SE K md W tb gb) : SE K md W (tOp r ta tb) (gSeq (gSeq ga gb) f) := by
  intro c σ H m us Q rr hc E hg hp
  simp only [gSeq] at hg
  cases e1 : ga m with
  | none => simp [e1] at hg
  | some r1 =>
    cases r1 with
    | ex C g' =>
      simp only [e1] at hg
      cases hg
      exact ha c σ H m us _ _ hc E e1 hp
    | ok m1 =>
      simp only [e1] at hg
      refine ha c σ H m us _ _ hc E e1 fun x H1 E1 => ?_
      cases e2 : gb m1 with
      | none => simp [e2] at hg
      | some r2 =>
        cases r2 with
        | ex C g' =>
          simp only [e2] at hg
          cases hg
          exact hb c σ H1 m1 _ _ _ hc E1 e2 hp
        | ok m2 =>
          simp only [e2] at hg
          exact hb c σ H1 m1 _ _ _ hc E1 e2 fun y H2 E2 => hr.use hc E2 hg hp
theorem OpR.or {f : Value → Value → Sem Value} (h : OpR X f r) (h' : OpR X f r') : OpR X f (fun x y H Q => r x y H Q ∨ r' x y H Q) := by
  intro pins s σ H x y v u Q I rx ry q
  rcases q with q | q
  · exact h pins s σ H x y v u Q I rx ry q
  · exact h' pins s σ H x y v u Q I rx ry q
def gOr (f f' : GE) : GE := fun m => match f m with
  | none => f' m
  | r => r
theorem RA2.or (h : RA2 K md W r f) (h' : RA2 K md W r' f') : RA2 K md W (fun x y H Q => r x y H Q ∨ r' x y H Q) (gOr f f') := by
  refine .mk fun c σ H m us x y Q rr hc E hf hp => ?_
  simp only [gOr] at hf
  cases e1 : f m with
  | none =>
    simp only [e1] at hf
    exact .inr (h'.use hc E hf hp)
  | some r1 =>
    simp only [e1] at hf
    exact .inl (h.use hc E (by rw [e1]; exact hf) hp)
/-- an operation that looks at two things and gives a plain value -/
def fP2 (F : Tr → Tr → Option V) : GE := fun m => match m.s with
  | y :: x :: s => match viewE m.g x, viewE m.g y with
    | some tx, some ty => match F tx ty with
      | some v => some (.ok ⟨m.g, .tr (.a v) :: s⟩)
      | none => none
    | _, _ => none
  | _ => none
theorem fP2_ok {F : Tr → Tr → Option V} (hF : ∀ (Z : Zn) (H : Hp) (x y : V) (tx ty : Tr) (u : V) (Φ Ψ : Ps) (Q : VK), Rep K Z H .own tx x Φ → Rep K Z H .own ty y Ψ → F tx ty = some u → Q u H → r x y H Q) : RA2 K md W r (fP2 F) := by
  refine .mk fun c σ H m us x y Q rr hc E hf hp => ?_
  simp only [fP2] at hf
  split at hf
  · rename_i ey ex s hs
    split at hf
    · rename_i tx ty h1 h2
      split at hf
      · rename_i u hu
        cases hf
        rw [hs] at E
        obtain ⟨Z, ws, Φ, Ψ, EE⟩ := id E
        obtain ⟨Θ1, r1⟩ := EE.view (n := 1) rfl rfl h1
        obtain ⟨Θ2, r2⟩ := EE.view (n := 0) rfl rfl h2
        exact hF Z H x y tx ty u Θ1 Θ2 Q r1 r2 hu (hp u H (E.drop.drop.atom u))
      · cases hf
    · cases hf
  · cases hf
/-- the same of one thing -/
def fP1 (F : Tr → Option V) : GE := fun m => match m.s with
  | x :: s => match viewE m.g x with
    | some tx => match F tx with
      | some v => some (.ok ⟨m.g, .tr (.a v) :: s⟩)
      | none => none
    | _ => none
  | _ => none
theorem fP1_ok {F : Tr → Option V} {r : St → List V → Hp → VK → Prop} (hF : ∀ (σ : St) (Z : Zn) (H : Hp) (x : V) (tx : Tr) (u : V) (Φ : Ps) (Q : VK), Rep K Z H .own tx x Φ → F tx = some u → Q u H → r σ [x] H Q) : RA K md W 1 r (fP1 F) := by
  intro c σ H m us vs Q rr hc hl E hf hp
  match vs, hl with
  | [x], _ =>
    simp only [fP1] at hf
    split at hf
    · rename_i ex s hs
      split at hf
      · rename_i tx h1
        split at hf
        · rename_i u hu
          cases hf
          rw [hs] at E
          obtain ⟨Z, ws, Φ, Ψ, EE⟩ := id E
          obtain ⟨Θ1, r1⟩ := EE.view (n := 0) rfl rfl h1
          exact hF σ Z H x tx u Θ1 Q r1 hu (hp u H (E.drop.atom u))
        · cases hf
      · cases hf
    · cases hf
def gC (v : V) : GE := fun m => some (.ok ⟨m.g, .tr (.a v) :: m.s⟩)
theorem se_c : SE K md W (tC v) (gC v) := by
  intro c σ H m us Q rr hc E hg hp
  cases hg
  exact hp v H (E.atom v)
theorem me_c (h : PE X e (tC v)) : ME X T md W e (gC v) := ⟨_, h, se_c⟩
def gVar (i : Nat) : GE := fun m => match m.g[i]? with
  | some (.tr t) => if cp t = true then some (.ok ⟨m.g, .tr t :: m.s⟩) else some (.ok ⟨m.g, .al [i] :: m.s⟩)
  | some (.al p) => some (.ok ⟨m.g, .al p :: m.s⟩)
  | _ => none
theorem se_var {i : Nat} : SE K md W (tVar i) (gVar i) := by
  intro c σ H m us Q rr hc E hg hp
  simp only [gVar] at hg
  split at hg
  · rename_i t ht
    by_cases h : cp t = true
    · rw [if_pos h] at hg
      cases hg
      obtain ⟨v, h1, E1⟩ := E.var ht h
      exact ⟨v, h1, hp v H E1⟩
    · rw [if_neg h] at hg
      cases hg
      obtain ⟨v, h1, E1⟩ := E.varP ht
      exact ⟨v, h1, hp v H E1⟩
  · rename_i p ht
    cases hg
    obtain ⟨v, h1, E1⟩ := E.varA ht
    exact ⟨v, h1, hp v H E1⟩
  · cases hg
theorem me_var {i : Nat} (h : PE X e (tVar i)) : ME X T md W e (gVar i) := ⟨_, h, se_var⟩
theorem me_bin {op : Operator} (ho : OpR X (binaryOp op) r) (hf : RA2 (kcm X.K T) md W r f) (ha : ME X T md W a ga) (hb : ME X T md W b gb) : ME X T md W (.BinOp a op b pos) (gSeq (gSeq ga gb) f) := by
  obtain ⟨ta, pa, sa⟩ := ha
  obtain ⟨tb, pb, sb⟩ := hb
  exact ⟨_, pe_op ho pa pb, se_op hf sa sb⟩
theorem me_cmp {op : CmpOp} (ho : OpR X (compareOp op) r) (hf : RA2 (kcm X.K T) md W r f) (ha : ME X T md W a ga) (hb : ME X T md W b gb) (hm : behindInMarks op b = false) : ME X T md W (.Compare a [op] [b] pos) (gSeq (gSeq ga gb) f) := by
  obtain ⟨ta, pa, sa⟩ := ha
  obtain ⟨tb, pb, sb⟩ := hb
  exact ⟨_, pe_cmpR ho pa pb hm, se_op hf sa sb⟩
theorem me_ix (ho : IxR X r) (hf : RA2 (kcm X.K T) md W r f) (ha : ME X T md W a ga) (hb : ME X T md W b gb) (hs : PlainIx b) : ME X T md W (.Subscript a b pos) (gSeq (gSeq ga gb) f) := by
  obtain ⟨ta, pa, sa⟩ := ha
  obtain ⟨tb, pb, sb⟩ := hb
  exact ⟨_, pe_ix ho pa pb hs, se_op hf sa sb⟩
/-! tests -/
theorem st_of (hs : SE K md W t g) : ST K md W (fun σ H Q => t σ H fun x H' => ∃ k, x = .bl k ∧ Q k H') g := by
  intro c σ H m us Q rr hc E hg hp
  refine hs c σ H m us _ rr hc E hg ?_
  cases rr with
  | ex C g' => exact hp
  | ok m' =>
    intro v H' E'
    obtain ⟨g', s'⟩ := m'
    match s', hp with
    | .tr (.a (.bl b)) :: s', hp =>
      obtain ⟨Z, ws, Φ, Ψ, EE⟩ := id E'
      obtain ⟨Θ1, r1⟩ := EE.view (n := 0) (e := .tr (.a (.bl b))) rfl rfl rfl
      obtain ⟨rfl, _⟩ := r1
      exact ⟨b, rfl, hp H' E'.drop⟩
theorem mt_val (h : ME X T md W e g) (he : ∀ whole, isTrue e X.env whole = (do let v ← whole; standAt e.pos; holding [v] (truthy v)) := by intro _; rfl) : MT X T md W e g := by
  obtain ⟨t, p, s⟩ := h
  exact ⟨_, pt_val p he, st_of s⟩
theorem mt_cmp {op : CmpOp} (ho : OpR X (compareOp op) r) (hf : RA2 (kcm X.K T) md W r f) (ha : ME X T md W a ga) (hb : ME X T md W b gb) (hm : behindInMarks op b = false) : MT X T md W (.Compare a [op] [b] pos) (gSeq (gSeq ga gb) f) := by
  obtain ⟨ta, pa, sa⟩ := ha
  obtain ⟨tb, pb, sb⟩ := hb
  exact ⟨_, pt_cmpR ho pa pb hm, st_of (se_op hf sa sb)⟩
def gNot (g : GE) : GE := fun m => match g m with
  | some (.ok ⟨g', .tr (.a (.bl b)) :: s'⟩) => some (.ok ⟨g', .tr (.a (.bl (!b))) :: s'⟩)
  | some (.ex C g') => some (.ex C g')
  | _ => none
theorem st_not {t : TT} (hs : ST K md W t g) : ST K md W (tNot t) (gNot g) := by
  intro c σ H m us Q rr hc E hg hp
  simp only [gNot] at hg
  split at hg
  · rename_i g' b s' h1
    cases hg
    exact hs c σ H m us _ _ hc E h1 hp
  · rename_i C g' h1
    cases hg
    exact hs c σ H m us _ _ hc E h1 hp
  · cases hg
theorem mt_not (h : MT X T md W e g) : MT X T md W (.UnaryOp .Not e pos) (gNot g) := by
  obtain ⟨t, p, s⟩ := h
  exact ⟨_, pt_not p, st_not s⟩
def gAnd (g h : GE) : GE := fun m => match g m with
  | some (.ok ⟨g', .tr (.a (.bl true)) :: s'⟩) => h ⟨g', s'⟩
  | some (.ok ⟨g', .tr (.a (.bl false)) :: s'⟩) => some (.ok ⟨g', .tr (.a (.bl false)) :: s'⟩)
  | some (.ex C g') => some (.ex C g')
  | _ => none
def gOrB (g h : GE) : GE := fun m => match g m with
  | some (.ok ⟨g', .tr (.a (.bl false)) :: s'⟩) => h ⟨g', s'⟩
  | some (.ok ⟨g', .tr (.a (.bl true)) :: s'⟩) => some (.ok ⟨g', .tr (.a (.bl true)) :: s'⟩)
  | some (.ex C g') => some (.ex C g')
  | _ => none
theorem top_bl {c : Cz} {σ : St} {H : Hp} {g' s' : List Ent} {x : V} {us : List V} {b : Bool} (E : EnvOk K c σ H g' (.tr (.a (.bl b)) :: s') (x :: us)) : x = .bl b := by
  obtain ⟨Z, ws, Φ, Ψ, EE⟩ := E
  obtain ⟨Θ1, r1⟩ := EE.view (n := 0) (e := .tr (.a (.bl b))) rfl rfl rfl
  exact r1.1
theorem st_and {t u : TT} {h : GE} (hs : ST K md W t g) (hu : ST K md W u h) : ST K md W (tAnd t u) (gAnd g h) := by
  intro c σ H m us Q rr hc E hg hp
  simp only [gAnd] at hg
  split at hg
  · rename_i g' s' h1
    exact hs c σ H m us _ _ hc E h1 fun H' E' => iteT (hu c σ H' _ us _ _ hc E' hg hp)
  · rename_i g' s' h1
    cases hg
    exact hs c σ H m us _ _ hc E h1 fun H' E' => iteF (hp H' E')
  · rename_i C g' h1
    cases hg
    exact hs c σ H m us _ _ hc E h1 hp
  · cases hg
theorem st_or {t u : TT} {h : GE} (hs : ST K md W t g) (hu : ST K md W u h) : ST K md W (tOr t u) (gOrB g h) := by
  intro c σ H m us Q rr hc E hg hp
  simp only [gOrB] at hg
  split at hg
  · rename_i g' s' h1
    exact hs c σ H m us _ _ hc E h1 fun H' E' => iteF (hu c σ H' _ us _ _ hc E' hg hp)
  · rename_i g' s' h1
    cases hg
    exact hs c σ H m us _ _ hc E h1 fun H' E' => iteT (hp H' E')
  · rename_i C g' h1
    cases hg
    exact hs c σ H m us _ _ hc E h1 hp
  · cases hg
theorem se_and {h : GE} (hs : SE K md W ta g) (hu : SE K md W tb h) : SE K md W (tAndV ta tb) (gAnd g h) := by
  intro c σ H m us Q rr hc E hg hp
  simp only [gAnd] at hg
  split at hg
  · rename_i g' s' h1
    exact hs c σ H m us _ _ hc E h1 fun x H' E' => ⟨true, top_bl E', iteT (hu c σ H' _ us _ _ hc E'.drop hg hp)⟩
  · rename_i g' s' h1
    cases hg
    exact hs c σ H m us _ _ hc E h1 fun x H' E' => ⟨false, top_bl E', iteF (hp _ H' (top_bl E' ▸ E'))⟩
  · rename_i C g' h1
    cases hg
    exact hs c σ H m us _ _ hc E h1 hp
  · cases hg
theorem se_or {h : GE} (hs : SE K md W ta g) (hu : SE K md W tb h) : SE K md W (tOrV ta tb) (gOrB g h) := by
  intro c σ H m us Q rr hc E hg hp
  simp only [gOrB] at hg
  split at hg
  · rename_i g' s' h1
    exact hs c σ H m us _ _ hc E h1 fun x H' E' => ⟨false, top_bl E', iteF (hu c σ H' _ us _ _ hc E'.drop hg hp)⟩
  · rename_i g' s' h1
    cases hg
    exact hs c σ H m us _ _ hc E h1 fun x H' E' => ⟨true, top_bl E', iteT (hp _ H' (top_bl E' ▸ E'))⟩
  · rename_i C g' h1
    cases hg
    exact hs c σ H m us _ _ hc E h1 hp
  · cases hg
theorem se_not (hs : SE K md W ta g) : SE K md W (tNotV ta) (gNot g) := by
  intro c σ H m us Q rr hc E hg hp
  simp only [gNot] at hg
  split at hg
  · rename_i g' b s' h1
    cases hg
    exact hs c σ H m us _ _ hc E h1 fun x H' E' => ⟨b, top_bl E', hp _ H' (E'.drop.atom _)⟩
  · rename_i C g' h1
    cases hg
    exact hs c σ H m us _ _ hc E h1 hp
  · cases hg
theorem me_one {op : BoolOp} (h : ME X T md W a g) : ME X T md W (.BoolOp op [a] pos) g := by
  obtain ⟨t, p, s⟩ := h
  exact ⟨_, pe_one p, s⟩
theorem me_and {h : GE} {rest : List Expr} (ha : ME X T md W a g) (hb : ME X T md W (.BoolOp .And (b :: rest) pos) h) : ME X T md W (.BoolOp .And (a :: b :: rest) pos) (gAnd g h) := by
  obtain ⟨t, p, s⟩ := ha
  obtain ⟨t', p', s'⟩ := hb
  exact ⟨_, pe_and p p', se_and s s'⟩
theorem me_or {h : GE} {rest : List Expr} (ha : ME X T md W a g) (hb : ME X T md W (.BoolOp .Or (b :: rest) pos) h) : ME X T md W (.BoolOp .Or (a :: b :: rest) pos) (gOrB g h) := by
  obtain ⟨t, p, s⟩ := ha
  obtain ⟨t', p', s'⟩ := hb
  exact ⟨_, pe_or p p', se_or s s'⟩
theorem me_not (h : ME X T md W a g) : ME X T md W (.UnaryOp .Not a pos) (gNot g) := by
  obtain ⟨t, p, s⟩ := h
  exact ⟨_, pe_not p, se_not s⟩
def gIf (c g h : GE) : GE := fun m => match c m with
  | some (.ok ⟨g', .tr (.a (.bl true)) :: s'⟩) => g ⟨g', s'⟩
  | some (.ok ⟨g', .tr (.a (.bl false)) :: s'⟩) => h ⟨g', s'⟩
  | some (.ex C g') => some (.ex C g')
  | _ => none
theorem mw_and1 (h : MT X T md W a g) : MW X T md W (.BoolOp .And [a] pos) g := by
  obtain ⟨t, p, s⟩ := h
  exact ⟨_, pw_and1 p, s⟩
theorem mw_or1 (h : MT X T md W a g) : MW X T md W (.BoolOp .Or [a] pos) g := by
  obtain ⟨t, p, s⟩ := h
  exact ⟨_, pw_or1 p, s⟩
theorem mw_and {h : GE} {rest : List Expr} (ha : MT X T md W a g) (hb : MW X T md W (.BoolOp .And (b :: rest) pos) h) : MW X T md W (.BoolOp .And (a :: b :: rest) pos) (gAnd g h) := by
  obtain ⟨t, p, s⟩ := ha
  obtain ⟨t', p', s'⟩ := hb
  exact ⟨_, pw_and p p', st_and s s'⟩
theorem mw_or {h : GE} {rest : List Expr} (ha : MT X T md W a g) (hb : MW X T md W (.BoolOp .Or (b :: rest) pos) h) : MW X T md W (.BoolOp .Or (a :: b :: rest) pos) (gOrB g h) := by
  obtain ⟨t, p, s⟩ := ha
  obtain ⟨t', p', s'⟩ := hb
  exact ⟨_, pw_or p p', st_or s s'⟩
theorem mw_pt (h : MW X T md W e g) : MT X T md W e g := by
  obtain ⟨t, p, s⟩ := h
  exact ⟨_, PW.pt p, s⟩
end
section
variable {K : KC} {X : Cx} {T : KT} {md : List Bool} {W : WX} {t ta tb : TE} {g ga gb f f' : GE} {e a b : Expr} {es : List Expr} {pos : Pos} {n : Nat} {r r' : R2} {v : V}
/-! arguments, displays -/
def gNil : GE := fun m => some (.ok m)
theorem ma_nil : MA X T md W [] gNil := ⟨_, pa_nil, fun c σ H m us Q rr hc E hg hp => by
  cases hg
  exact hp [] H rfl E⟩
theorem ma_cons (ha : ME X T md W e g) (hr : MA X T md W es f) (hs : starEach (e :: es) X.env = (false, eval e X.env) :: starEach es X.env := by rfl) : MA X T md W (e :: es) (gSeq g f) := by
  obtain ⟨t, p, s⟩ := ha
  obtain ⟨t', p', s'⟩ := hr
  refine ⟨_, pa_cons p p' hs, fun c σ H m us Q rr hc E hg hp => ?_⟩
  simp only [gSeq] at hg
  split at hg
  · rename_i m1 h1
    refine s c σ H m us _ _ hc E h1 fun x H1 E1 => s' c σ H1 m1 _ _ _ hc E1 hg ?_
    cases rr with
    | ex C g' => exact hp
    | ok m2 => exact fun vs H2 hl E2 => hp (x :: vs) H2 (by simp [hl]) (by simpa using E2)
  · rename_i h1
    refine s c σ H m us _ _ hc E hg ?_
    cases rr with
    | ex C g' => exact hp
    | ok m2 => exact absurd hg (h1 m2)
def popN : Nat → List Ent → Option (List Tr × List Ent)
  | 0, s => some ([], s)
  | n + 1, .tr t :: s => match popN n s with
    | some (ts, s') => some (ts ++ [t], s')
    | none => none
  | _, _ => none
theorem popN_eq : ∀ {n : Nat} {s s' : List Ent} {ts : List Tr}, popN n s = some (ts, s') → s = ts.reverse.map Ent.tr ++ s' ∧ ts.length = n
  | 0, s, s', ts, h => by
    simp only [popN] at h
    cases h
    exact ⟨rfl, rfl⟩
  | n + 1, s, s', ts, h => by
    match s, h with
    | .tr t :: s, h =>
      simp only [popN] at h
      split at h
      · rename_i ts1 s1 h1
        cases h
        obtain ⟨rfl, rfl⟩ := popN_eq h1
        exact ⟨by simp, by simp⟩
      · cases h
/-- a new object of the n values on top -/
def fNew (k : Nk) (n : Nat) : GE := fun m => match popN n m.s with
  | some (ts, s') => match mkN k ts with
    | some t => some (.ok ⟨m.g, .tr t :: s'⟩)
    | none => none
  | none => none
theorem fNew_ok {c : Cz} {σ : St} {H : Hp} {m : Ms} {us vs : List V} {Q : VK} {rr : Rs} {k : Nk} {ob : HO} (E : EnvOk K c σ H m.g m.s (vs.reverse ++ us)) (hl : vs.length = n) (hf : fNew k n m = some rr) (hp : PostE K c W σ us Q rr) (ho : ∀ o pa, ObjAt K k o (upd H pa ob) pa vs) : ∀ pa, H pa = none → Q (.ref pa) (upd H pa ob) := by
  intro pa np
  simp only [fNew] at hf
  split at hf
  · rename_i ts s' h1
    split at hf
    · rename_i t h2
      cases hf
      obtain ⟨e1, e2⟩ := popN_eq h1
      rw [e1] at E
      exact hp _ _ (E.new (by omega) np h2 fun o => ho o pa)
    · cases hf
  · cases hf
theorem me_lst (h : MA X T md W es g) (hl : es.length ≤ sizeLine) : ME X T md W (.List es pos) (gSeq g (fNew .lst es.length)) := by
  obtain ⟨t, p, s⟩ := h
  refine ⟨_, pe_lst p, fun c σ H m us Q rr hc E hg hp => ?_⟩
  simp only [gSeq] at hg
  split at hg
  · rename_i m1 h1
    exact s c σ H m us _ _ hc E h1 fun vs H1 hv E1 => ⟨by omega, fNew_ok E1 hv hg hp fun o pa => upd_same⟩
  · rename_i h1
    refine s c σ H m us _ _ hc E hg ?_
    cases rr with
    | ex C g' => exact hp
    | ok m2 => exact absurd hg (h1 m2)
theorem me_tup {x1 : Nat} (h : MA X T md W es g) (hl : es.length ≤ sizeLine) : ME X T md W (.Tuple es x1 pos) (gSeq g (fNew .tup es.length)) := by
  obtain ⟨t, p, s⟩ := h
  refine ⟨_, pe_tup p, fun c σ H m us Q rr hc E hg hp => ?_⟩
  simp only [gSeq] at hg
  split at hg
  · rename_i m1 h1
    exact s c σ H m us _ _ hc E h1 fun vs H1 hv E1 => ⟨by omega, fNew_ok E1 hv hg hp fun o pa => .inl upd_same⟩
  · rename_i h1
    refine s c σ H m us _ _ hc E hg ?_
    cases rr with
    | ex C g' => exact hp
    | ok m2 => exact absurd hg (h1 m2)
/-! a thing is handed on: what a name held alone goes out of it -/
def fMv (md : List Bool) : GE := fun m => match m.s with
  | .tr t :: s => some (.ok ⟨m.g, .tr t :: s⟩)
  | .al [j] :: s => if md.getD j false = true then none else match m.g[j]? with
    | some (.tr t) => some (.ok ⟨kill [j] (m.g.set j (.tr .any)), .tr t :: kill [j] s⟩)
    | _ => none
  | _ => none
theorem EnvOk.drop2 {c : Cz} {σ : St} {H : Hp} {Γ τ : List Ent} {tr : Tr} {p : List Nat} {us : List V} {x y : V} (E : EnvOk K c σ H Γ (.tr tr :: .al p :: τ) (x :: y :: us)) : EnvOk K c σ H Γ (.tr tr :: τ) (x :: us) := by
  obtain ⟨Z, ws, Φ, Ψ, EE⟩ := E
  refine EE.swapE (τ1 := [.tr tr, .al p]) (us1 := [x, y]) (τ1' := [.tr tr]) (us1' := [x]) rfl (by simp) (fun Ψ1 r zo => ?_) rfl
  have hs := RepL.isS _ r
  obtain ⟨v0, vs0, Θ1, Θ2, e1, a1, a2, ad, au⟩ := r
  cases e1
  exact ⟨Z, Θ1, ⟨x, [], Θ1, fun _ => False, rfl, a1, ⟨rfl, fun _ h => h⟩, by simp, by simp⟩, .same _ _ _ EE.zs hs _ fun b q => ⟨(au b).mpr (.inl q), zo b ((au b).mpr (.inl q))⟩⟩
theorem fMv_ok {c : Cz} {σ : St} {H : Hp} {m m' : Ms} {us : List V} {x : V} (E : EnvOk K c σ H m.g m.s (x :: us)) (hf : fMv md m = some (.ok m')) : EnvOk K c σ H m'.g m'.s (x :: us) := by
  simp only [fMv] at hf
  split at hf
  · rename_i t s hs
    cases hf
    rw [hs] at E
    exact E
  · rename_i j s hs
    split at hf
    · cases hf
    · split at hf
      · rename_i t ht
        cases hf
        rw [hs] at E
        have := EnvOk.drop2 (E.ext (t := t) (by simp [getG, ht, getT]))
        simpa [setG, ht, setT] using this
      · cases hf
  · cases hf
theorem fMv_ex {m : Ms} {C : Nat} {g' : List Ent} : fMv md m ≠ some (.ex C g') := by
  intro h
  simp only [fMv] at h
  split at h
  · cases h
  · split at h
    · cases h
    · split at h <;> cases h
  · cases h
theorem me_mv (h : ME X T md W e g) : ME X T md W e (gSeq g (fMv md)) := by
  obtain ⟨t, p, s⟩ := h
  refine ⟨_, p, fun c σ H m us Q rr hc E hg hp => ?_⟩
  simp only [gSeq] at hg
  split at hg
  · rename_i m1 h1
    cases rr with
    | ex C g' => exact absurd hg fMv_ex
    | ok m2 => exact s c σ H m us _ _ hc E h1 fun x H1 E1 => hp x H1 (fMv_ok E1 hg)
  · rename_i h1
    refine s c σ H m us _ _ hc E hg ?_
    cases rr with
    | ex C g' => exact hp
    | ok m2 => exact absurd hg (h1 m2)
/-- what is on top is never changed any more -/
def fFrz : GE := fun m => match m.s with
  | .tr t :: s => if esc t = true then some (.ok ⟨m.g, .tr (kid .frz t) :: s⟩) else none
  | _ => none
theorem me_frz (h : ME X T md W e g) : ME X T md W e (gSeq g fFrz) := by
  obtain ⟨t, p, s⟩ := h
  refine ⟨_, p, fun c σ H m us Q rr hc E hg hp => ?_⟩
  simp only [gSeq] at hg
  split at hg
  · rename_i m1 h1
    simp only [fFrz] at hg
    split at hg
    · rename_i t s1 hs
      split at hg
      · rename_i he
        cases hg
        exact s c σ H m us _ _ hc E h1 fun x H1 E1 => hp x H1 (EnvOk.freeze (hs ▸ E1) he)
      · cases hg
    · cases hg
  · rename_i h1
    refine s c σ H m us _ _ hc E hg ?_
    cases rr with
    | ex C g' => exact hp
    | ok m2 => exact absurd hg (h1 m2)
/-! fields -/
theorem lookup_zip {f : Str} : ∀ {ns : List Str} {vs : List V} {j : Nat}, ns.idxOf? f = some j → ns.length = vs.length → (ns.zip vs).lookup f = vs[j]?
  | [], _, _, h, _ => by simp at h
  | n :: ns, [], _, _, l => by simp at l
  | n :: ns, v :: vs, j, h, l => by
    rw [List.idxOf?_cons] at h
    rw [List.zip_cons_cons, List.lookup_cons]
    by_cases e : n = f
    · subst e
      simp at h
      subst h
      simp
    · have e1 : (n == f) = false := by simpa using e
      have e2 : (f == n) = false := by simpa using fun q : f = n => e q.symm
      rw [e1] at h
      simp only [Bool.false_eq_true, if_false, Option.map_eq_some_iff] at h
      obtain ⟨j', h1, rfl⟩ := h
      rw [e2]
      simpa using lookup_zip h1 (by simpa using l)
theorem idx_take {f : Str} : ∀ {ns : List Str} {j k : Nat}, ns.idxOf? f = some j → j < k → (ns.take k).idxOf? f = some j
  | [], _, _, h, _ => by simp at h
  | n :: ns, j, 0, h, l => by omega
  | n :: ns, j, k + 1, h, l => by
    rw [List.take_succ_cons]
    rw [List.idxOf?_cons] at h ⊢
    by_cases e : (n == f) = true
    · rw [if_pos e] at h ⊢
      exact h
    · rw [if_neg e] at h ⊢
      simp only [Option.map_eq_some_iff] at h ⊢
      obtain ⟨j', h1, rfl⟩ := h
      exact ⟨j', idx_take h1 (by omega), rfl⟩
/-- the classes that have a field f, with its place -/
def FldOk (K : PySem.W.Frag) (T : KT) (f : Str) (tab : List (Nat × Nat)) : Prop := ∀ n j, (n, j) ∈ tab → Cls K (T.ct n) ∧ NoAttr K (T.ct n) f ∧ (T.nm n).idxOf? f = some j
def fFld (tab : List (Nat × Nat)) : GE := fun m => match m.s with
  | e :: s => match viewE m.g e with
    | some (.nd (.ins n k) o ts) => match tab.lookup n with
      | some j => match kidE e (.ins n k) o ts j with
        | some e' => some (.ok ⟨m.g, e' :: s⟩)
        | none => none
      | none => none
    | _ => none
  | _ => none
theorem mem_lookup {α : Type} : ∀ {tab : List (Nat × α)} {n : Nat} {j : α}, tab.lookup n = some j → (n, j) ∈ tab
  | [], _, _, h => by simp at h
  | (n', j') :: tab, n, j, h => by
    rw [List.lookup_cons] at h
    by_cases e : (n == n') = true
    · rw [e] at h
      simp only [Option.some.injEq] at h
      have : n = n' := by simpa using e
      subst this h
      exact List.mem_cons_self
    · have e : (n == n') = false := by simpa using e
      rw [e] at h
      exact List.mem_cons_of_mem _ (mem_lookup h)
theorem me_fld {fl : Str} {tab : List (Nat × Nat)} (h : ME X T md W e g) (ht : FldOk X.K T fl tab) (hb : attributeBase e fl X.env (eval e X.env) = eval e X.env := by rfl) : ME X T md W (.Attribute e fl pos) (gSeq g (fFld tab)) := by
  obtain ⟨t, p, s⟩ := h
  refine ⟨_, pe_fld p hb, fun c σ H m us Q rr hc E hg hp => ?_⟩
  simp only [gSeq] at hg
  split at hg
  · rename_i m1 h1
    refine s c σ H m us _ _ hc E h1 fun x H1 E1 => ?_
    simp only [fFld] at hg
    split at hg
    · rename_i en s1 hs
      split at hg
      · rename_i nn k o ts hv
        split at hg
        · rename_i j hj
          split at hg
          · rename_i e' hk
            cases hg
            rw [hs] at E1
            obtain ⟨ad, vs, w', rfl, ho, hl, hw, E2⟩ := E1.kidOf hv hk
            obtain ⟨l, dx, ho⟩ := ho
            obtain ⟨c1, c2, c3⟩ := ht nn j (mem_lookup hj)
            have hjk : j < k := by
              have h1 := getq_lt' hw
              have h2 : ((T.nm nn).take k).length = vs.length := l
              rw [List.length_take] at h2
              omega
            refine ⟨ad, T.ct nn, dx, _, w', rfl, ho, c1, c2, ?_, hp w' H1 E2⟩
            rw [lookup_zip (idx_take c3 hjk) l]
            exact hw
          · cases hg
        · cases hg
      · cases hg
    · cases hg
  · rename_i h1
    refine s c σ H m us _ _ hc E hg ?_
    cases rr with
    | ex C g' => exact hp
    | ok m2 => exact absurd hg (h1 m2)
/-! subscripts of lists and tuples -/
def fIx : GE := fun m => match m.s with
  | .tr (.a (.int i)) :: e :: s => match viewE m.g e with
    | some (.nd .lst o ts) => match ixN ts.length i with
      | some j => match kidE e .lst o ts j with
        | some e' => some (.ok ⟨m.g, e' :: s⟩)
        | none => none
      | none => none
    | some (.nd .tup o ts) => match ixN ts.length i with
      | some j => match kidE e .tup o ts j with
        | some e' => some (.ok ⟨m.g, e' :: s⟩)
        | none => none
      | none => none
    | _ => none
  | _ => none
theorem objL {H : Hp} {ad : Addr} {vs : List V} {o : Ow} (h : ObjAt K .lst o H ad vs) : SqL K.K H ad vs := .inl (.inl h)
theorem objT {H : Hp} {ad : Addr} {vs : List V} {o : Ow} (h : ObjAt K .tup o H ad vs) : SqT K.K H ad vs := by
  rcases h with h | (h | ⟨_, h⟩) | h
  · exact .inl (.inl h)
  · cases h
  · cases h
  · exact .inr h
theorem top_a {c : Cz} {σ : St} {H : Hp} {g' s' : List Ent} {x u : V} {us : List V} (E : EnvOk K c σ H g' (.tr (.a u) :: s') (x :: us)) : x = u := by
  obtain ⟨Z, ws, Φ, Ψ, EE⟩ := E
  obtain ⟨Θ1, r1⟩ := EE.view (n := 0) (e := .tr (.a u)) rfl rfl rfl
  exact r1.1
theorem fIx_ok : RA2 K md W (fun x y H Q => rIxL K.K x y H Q ∨ rIxT K.K x y H Q) fIx := by
  refine .mk fun c σ H m us x y Q rr hc E hf hp => ?_
  simp only [fIx] at hf
  split at hf
  · rename_i i e s hs
    rw [hs] at E
    have ey := top_a E
    subst ey
    have E1 := E.drop
    split at hf
    · rename_i o ts hv
      split at hf
      · rename_i j hj
        split at hf
        · rename_i e' hk
          cases hf
          obtain ⟨ad, vs, w', rfl, ho, hl, hw, E2⟩ := E1.kidOf hv hk
          refine .inl ⟨ad, vs, i, w', rfl, rfl, objL ho, ?_, hp w' H E2⟩
          unfold atI
          rw [← hl, hj]
          exact hw
        · cases hf
      · cases hf
    · rename_i o ts hv
      split at hf
      · rename_i j hj
        split at hf
        · rename_i e' hk
          cases hf
          obtain ⟨ad, vs, w', rfl, ho, hl, hw, E2⟩ := E1.kidOf hv hk
          refine .inr ⟨ad, vs, i, w', rfl, rfl, objT ho, ?_, hp w' H E2⟩
          unfold atI
          rw [← hl, hj]
          exact hw
        · cases hf
      · cases hf
    · cases hf
  · cases hf
end
section
variable {K : KC} {X : Cx} {T : KT} {md : List Bool} {W : WX} {t ta tb : TE} {g ga gb f f' : GE} {e a b : Expr} {es : List Expr} {pos : Pos} {n : Nat} {r r' : R2} {v : V}
/-! numbers -/
def FI (C : Int → Int → Bool) (h : Int → Int → V) : Tr → Tr → Option V
  | .a (.int i), .a (.int j) => if C i j = true then some (h i j) else none
  | _, _ => none
def cT : Int → Int → Bool := fun _ _ => true
theorem FI_eq {C : Int → Int → Bool} {h : Int → Int → V} {tx ty : Tr} {u : V} (e : FI C h tx ty = some u) : ∃ i j, tx = .a (.int i) ∧ ty = .a (.int j) ∧ C i j = true ∧ u = h i j := by
  unfold FI at e
  split at e
  · rename_i i j
    split at e
    · rename_i hc
      exact ⟨i, j, rfl, rfl, hc, (Option.some.inj e).symm⟩
    · cases e
  · cases e
theorem fI_ok0 {h : Int → Int → V} : RA2 K md W (rI0 h) (fP2 (FI cT h)) := fP2_ok fun Z H x y tx ty u Φ Ψ Q r1 r2 e q => by
  obtain ⟨i, j, rfl, rfl, _, rfl⟩ := FI_eq e
  exact ⟨i, j, r1.1, r2.1, q⟩
theorem fI_ok {C : Int → Int → Bool} {P : Int → Int → Prop} {h : Int → Int → V} (hC : ∀ i j, C i j = true → P i j) : RA2 K md W (rI P h) (fP2 (FI C h)) := fP2_ok fun Z H x y tx ty u Φ Ψ Q r1 r2 e q => by
  obtain ⟨i, j, rfl, rfl, hc, rfl⟩ := FI_eq e
  exact ⟨i, j, r1.1, r2.1, hC i j hc, q⟩
def FS : Tr → Tr → Option V
  | .a (.str i), .a (.str j) => if i.length + j.length ≤ sizeLine then some (.str (i ++ j)) else none
  | _, _ => none
theorem fS_ok : RA2 K md W (fun x y H Q => ∃ i j, x = .str i ∧ y = .str j ∧ i.length + j.length ≤ sizeLine ∧ Q (.str (i ++ j)) H) (fP2 FS) := fP2_ok fun Z H x y tx ty u Φ Ψ Q r1 r2 e q => by
  unfold FS at e
  split at e
  · split at e
    · rename_i i j hc
      cases e
      exact ⟨i, j, r1.1, r2.1, hc, q⟩
    · cases e
  · cases e
/-! lists: + and * -/
/-- the items of a list that is read, to be put into a new one -/
def itemsE (e : Ent) (o : Ow) (ts : List Tr) : Option (List Tr) := match e with
  | .tr _ => some (ts.map (kid o))
  | _ => if cpL (ts.map (kid o)) = true then some (ts.map (kid o)) else none
def fCat : GE := fun m => match m.s with
  | y :: x :: s => match viewE m.g x, viewE m.g y with
    | some (.nd .lst o ts), some (.nd .lst o' us) => match itemsE x o ts, itemsE y o' us with
      | some ts', some us' => if ts.length + us.length ≤ sizeLine then match mkN .lst (ts' ++ us') with
          | some t => some (.ok ⟨m.g, .tr t :: s⟩)
          | none => none
        else none
      | _, _ => none
    | _, _ => none
  | _ => none
theorem RepL.kids {Z : Zn} {H : Hp} {o : Ow} : ∀ (ts : List Tr) {vs : List V} {Φ : Ps}, RepL K Z H o ts vs Φ → RepL K Z H .own (ts.map (kid o)) vs Φ
  | [], _, _, h => h
  | t :: ts, vs, Φ, h => by
    obtain ⟨v, vs', Φ1, Φ2, e, h1, h2, d, u⟩ := h
    exact ⟨v, vs', Φ1, Φ2, e, rep_kid.mpr h1, RepL.kids ts h2, d, u⟩
/-- the items of the thing on top, held by hand in its place -/
theorem EnvOk.items {c : Cz} {σ : St} {H : Hp} {Γ τ : List Ent} {us : List V} {w : V} {en : Ent} {k : Nk} {o : Ow} {ts ts' : List Tr} (E : EnvOk K c σ H Γ (en :: τ) (w :: us)) (hv : viewE Γ en = some (.nd k o ts)) (hi : itemsE en o ts = some ts') :
    ∃ ad vs, w = .ref ad ∧ ObjAt K k o H ad vs ∧ ts.length = vs.length ∧ ts' = ts.map (kid o) ∧ EnvOk K c σ H Γ (ts'.reverse.map Ent.tr ++ τ) (vs.reverse ++ us) := by
  obtain ⟨Z, ws, Φ, Ψ, EE⟩ := E
  have view : ∃ Θ, Rep K Z H .own (.nd k o ts) w Θ ∧ ((cpL (ts.map (kid o)) = true) ∨ ∃ Ψ2, RepL K Z H .own (trees [en]) [w] Θ ∧ RepL K Z H .own (trees τ) us Ψ2 ∧ (∀ b, ¬ (Θ b ∧ Ψ2 b)) ∧ ∀ b, Ψ b ↔ Θ b ∨ Ψ2 b) ∧ ts' = ts.map (kid o) := by
    cases en with
    | tr x =>
      obtain ⟨v0, vs0, Θ1, Θ2, e1, a1, a2, ad, au⟩ := EE.tm
      cases e1
      simp only [viewE] at hv
      cases hv
      simp only [itemsE] at hi
      exact ⟨Θ1, a1, .inr ⟨Θ2, ⟨w, [], Θ1, fun _ => False, rfl, a1, ⟨rfl, fun _ h => h⟩, by simp, by simp⟩, a2, ad, au⟩, (Option.some.inj hi).symm⟩
    | no => simp [viewE] at hv
    | al p =>
      obtain ⟨Θ, r⟩ := EE.view (n := 0) rfl rfl hv
      simp only [itemsE] at hi
      split at hi
      · rename_i hc
        exact ⟨Θ, r, .inl hc, (Option.some.inj hi).symm⟩
      · cases hi
  obtain ⟨Θ, r, hor, ets⟩ := view
  obtain ⟨ad, vs, Ξ, rfl, ho, hl, hn⟩ := id r
  have ho : ObjAt K k o H ad vs := ho
  have hl : RepL K Z H o ts vs Ξ := hl
  have hn : Nod Z k o ad ts Ξ Θ := hn
  have hsub : ∀ b, Ξ b → Θ b := fun b q => by
    by_cases eo : o = .own
    · exact hn.sub eo b q
    · exact absurd q (RepL.no0 _ eo hl b)
  have r2 := RepL.reverse _ (RepL.kids _ hl)
  refine ⟨ad, vs, rfl, ho, RepL.len _ hl, ets, ?_⟩
  have hlen := RepL.len _ hl
  subst ets
  rcases hor with hc | ⟨Ψ2, r3, r4, d, u⟩
  · have n0 := RepL.cp0 _ (RepL.kids _ hl) hc
    refine EE.swapE (τ1 := [en]) (us1 := [.ref ad]) (us1' := vs.reverse) rfl (by simp) (fun Ψ1 r zo => ⟨Z, Ξ, by rw [trees_tr]; exact r2, .same _ _ _ EE.zs (fun b q => RepL.isS _ r b q) _ fun b q => absurd q (n0 b)⟩) (by simp [hlen])
  · exact EE.swapX (τ1 := [en]) (us1 := [.ref ad]) (us1' := vs.reverse) rfl (by simp) r3 r4 d u (by rw [trees_tr]; exact r2) (.same _ _ _ EE.zs (Rep.isS _ r) _ fun b q => ⟨hsub b q, (EE.zo b (.inr ((u b).mpr (.inl (hsub b q))))).2⟩) (by simp [hlen])
/-- the second thing comes on top -/
theorem RepL.swap2 {Z : Zn} {H : Hp} {m : Ow} {t1 t2 : Tr} {ts : List Tr} {v1 v2 : V} {vs : List V} {Φ : Ps} (h : RepL K Z H m (t1 :: t2 :: ts) (v1 :: v2 :: vs) Φ) : RepL K Z H m (t2 :: t1 :: ts) (v2 :: v1 :: vs) Φ := by
  obtain ⟨_, _, Φ1, Φ2, e, h1, ⟨_, _, Φ3, Φ4, e', h2, h3, d', u'⟩, d, u⟩ := h
  cases e
  cases e'
  exact ⟨_, _, Φ3, fun b => Φ1 b ∨ Φ4 b, rfl, h2, ⟨_, _, Φ1, Φ4, rfl, h1, h3, by grind, fun _ => Iff.rfl⟩, by grind, by grind⟩
theorem EnvOk.swap2 {c : Cz} {σ : St} {H : Hp} {Γ τ : List Ent} {us : List V} {v1 v2 : V} {e1 e2 : Ent} (E : EnvOk K c σ H Γ (e1 :: e2 :: τ) (v1 :: v2 :: us)) : EnvOk K c σ H Γ (e2 :: e1 :: τ) (v2 :: v1 :: us) := by
  obtain ⟨Z, ws, Φ, Ψ, sl, tm, dj, so, to, ln, zo, zf, z0, zs, st, pv⟩ := E
  refine ⟨Z, ws, Φ, Ψ, ⟨sl, RepL.swap2 tm, dj, so, ?_, ln, zo, zf, z0, zs, st, pv⟩⟩
  intro i p hi
  match i with
  | 0 => exact to 1 p (by simpa using hi)
  | 1 => exact to 0 p (by simpa using hi)
  | i + 2 => exact to (i + 2) p (by simpa using hi)
/-- the order of what is held by hand does not matter -/
theorem RepL.perm {Z : Zn} {H : Hp} {m : Ow} {l l' : List (Ent × V)} (h : l.Perm l') : ∀ {Φ : Ps}, RepL K Z H m (l.map (·.1.tree)) (l.map (·.2)) Φ → RepL K Z H m (l'.map (·.1.tree)) (l'.map (·.2)) Φ := by
  induction h with
  | nil => intro Φ h; exact h
  | cons x _ ih =>
    intro Φ h
    obtain ⟨v, vs', Φ1, Φ2, e, h1, h2, d, u⟩ := h
    cases e
    exact ⟨_, _, Φ1, Φ2, rfl, h1, ih h2, d, u⟩
  | swap x y l => intro Φ h; exact RepL.swap2 h
  | trans _ _ ih1 ih2 => intro Φ h; exact ih2 (ih1 h)
theorem EnvOk.perm {c : Cz} {σ : St} {H : Hp} {Γ : List Ent} {l l' : List (Ent × V)} (h : l.Perm l') (E : EnvOk K c σ H Γ (l.map (·.1)) (l.map (·.2))) : EnvOk K c σ H Γ (l'.map (·.1)) (l'.map (·.2)) := by
  obtain ⟨Z, ws, Φ, Ψ, sl, tm, dj, so, to, ln, zo, zf, z0, zs, st, pv⟩ := E
  have et : ∀ l : List (Ent × V), trees (l.map (·.1)) = l.map (·.1.tree) := fun l => by simp [trees, List.map_map]
  have tm : RepL K Z H .own (l.map (·.1.tree)) (l.map (·.2)) Ψ := by rw [← et]; exact tm
  refine ⟨Z, ws, Φ, Ψ, ⟨sl, by rw [et]; exact RepL.perm h tm, dj, so, ?_, ln, zo, zf, z0, zs, st, pv⟩⟩
  intro i p hi
  rw [List.getElem?_map] at hi ⊢
  cases q : l'[i]? with
  | none => simp [q] at hi
  | some x =>
    obtain ⟨j, hj⟩ := List.getElem?_of_mem (h.mem_iff.mpr (List.mem_of_getElem? q))
    have := to j p (by rw [List.getElem?_map, hj]; simpa [q] using hi)
    rw [List.getElem?_map, hj] at this
    simpa using this
theorem EnvOk.permA {c : Cz} {σ : St} {H : Hp} {Γ A B τ : List Ent} {va vb us : List V} (la : A.length = va.length) (lb : B.length = vb.length) (E : EnvOk K c σ H Γ (A ++ (B ++ τ)) (va ++ (vb ++ us))) : EnvOk K c σ H Γ (B ++ (A ++ τ)) (vb ++ (va ++ us)) := by
  have lt : τ.length = us.length := by
    obtain ⟨Z, ws, Φ, Ψ, EE⟩ := E
    have := RepL.len _ EE.tm
    simp [trees] at this
    omega
  have h := EnvOk.perm (K := K) (c := c) (σ := σ) (H := H) (Γ := Γ) (l := A.zip va ++ (B.zip vb ++ τ.zip us)) (l' := B.zip vb ++ (A.zip va ++ τ.zip us)) (by
    rw [← List.append_assoc, ← List.append_assoc]
    exact List.Perm.append_right _ List.perm_append_comm)
  simp only [List.map_append, List.map_fst_zip (Nat.le_of_eq la), List.map_snd_zip (Nat.le_of_eq la.symm), List.map_fst_zip (Nat.le_of_eq lb), List.map_snd_zip (Nat.le_of_eq lb.symm), List.map_fst_zip (Nat.le_of_eq lt), List.map_snd_zip (Nat.le_of_eq lt.symm)] at h
  exact h E
theorem fCat_ok : RA2 K md W rCat fCat := by
  refine .mk fun c σ H m us x y Q rr hc E hf hp => ?_
  simp only [fCat] at hf
  split at hf
  · rename_i ey ex s hs
    split at hf
    · rename_i o ts o' us' hx hy
      split at hf
      · rename_i ts' us2 h1 h2
        split at hf
        · rename_i hlen
          split at hf
          · rename_i tn hn
            cases hf
            rw [hs] at E
            obtain ⟨ad, vs, rfl, ho, hl, e1, E1⟩ := E.items hy h2
            have l2 : us2.length = vs.length := by rw [e1]; simpa using hl
            have E2 := EnvOk.permA (B := [ex]) (vb := [x]) (by simp [l2]) rfl E1
            obtain ⟨ad2, vs2, rfl, ho2, hl2, e2, E3⟩ := EnvOk.items (τ := us2.reverse.map Ent.tr ++ s) (us := vs.reverse ++ us) E2 hx h1
            have l1 : ts'.length = vs2.length := by rw [e2]; simpa using hl2
            refine ⟨ad2, ad, vs2, vs, rfl, rfl, ho2, ho, by omega, fun p np => hp _ _ ?_⟩
            have E4 := EnvOk.permA (A := ts'.reverse.map Ent.tr) (B := us2.reverse.map Ent.tr) (va := vs2.reverse) (vb := vs.reverse) (by simp [l1]) (by simp [l2]) E3
            refine EnvOk.new (ts := ts' ++ us2) (vs := vs2 ++ vs) (by simpa using E4) (by simp [l1, l2]) np hn fun o => upd_same
          · cases hf
        · cases hf
      · cases hf
    · cases hf
  · cases hf
def fRep : GE := fun m => match m.s with
  | .tr (.a (.int k)) :: x :: s => match viewE m.g x with
    | some (.nd .lst o ts) => if cpL (ts.map (kid o)) = true ∧ -(2 ^ 63) ≤ k ∧ k < 2 ^ 63 ∧ ts.length * k.toNat ≤ sizeLine then match mkN .lst (List.replicate k.toNat (ts.map (kid o))).flatten with
        | some t => some (.ok ⟨m.g, .tr t :: s⟩)
        | none => none
      else none
    | _ => none
  | _ => none
theorem RepL.rep {Z : Zn} {H : Hp} {ts : List Tr} {vs : List V} {Φ : Ps} (h : RepL K Z H .own ts vs Φ) (hc : cpL ts = true) : ∀ k : Nat, ∃ Ψ, RepL K Z H .own (List.replicate k ts).flatten (List.replicate k vs).flatten Ψ ∧ ∀ b, ¬ Ψ b
  | 0 => ⟨fun _ => False, ⟨rfl, fun _ h => h⟩, fun _ h => h⟩
  | k + 1 => by
    obtain ⟨Ψ, r, n⟩ := RepL.rep h hc k
    have n0 := RepL.cp0 _ h hc
    refine ⟨fun b => Φ b ∨ Ψ b, ?_, by grind⟩
    rw [List.replicate_succ, List.replicate_succ, List.flatten_cons, List.flatten_cons]
    exact RepL.append _ h r (by grind)
theorem fRep_ok : RA2 K md W rRep fRep := by
  refine .mk fun c σ H m us x y Q rr hc E hf hp => ?_
  simp only [fRep] at hf
  split at hf
  · rename_i k ex s hs
    split at hf
    · rename_i o ts hx
      split at hf
      · rename_i hg
        split at hf
        · rename_i tn hn
          cases hf
          rw [hs] at E
          have ey := top_a E
          subst ey
          obtain ⟨ad, vs, rfl, ho, hl, _, E1⟩ := E.drop.items (ts' := ts.map (kid o)) hx (by
            cases ex with
            | tr _ => rfl
            | no => simp [viewE] at hx
            | al p => simp only [itemsE]; rw [if_pos hg.1])
          refine ⟨ad, k, vs, rfl, rfl, ho, hg.2.1, hg.2.2.1, by rw [← hl]; exact hg.2.2.2, fun p np => hp _ _ ?_⟩
          obtain ⟨Z, ws, Φ, Ψ, EE⟩ := E1
          refine EnvOk.new (ts := (List.replicate k.toNat (ts.map (kid o))).flatten) (vs := (List.replicate k.toNat vs).flatten) ?_ (by simp [hl]) np hn fun o => upd_same
          refine EE.swapE (by simp [hl]) (fun e he p => by obtain ⟨x, _, rfl⟩ := List.mem_map.mp he; exact fun q => by cases q) (fun Ψ1 r zo => ?_) (by simp [hl])
          rw [trees_tr] at r ⊢
          have r0 := RepL.reverse _ r
          rw [List.reverse_reverse, List.reverse_reverse] at r0
          obtain ⟨Ψ2, r2, n2⟩ := RepL.rep r0 hg.1 k.toNat
          exact ⟨Z, Ψ2, RepL.reverse _ r2, .same _ _ _ EE.zs (RepL.isS _ r) _ fun b q => absurd q (n2 b)⟩
        · cases hf
      · cases hf
    · cases hf
  · cases hf
/-! + - * // % -/
instance (i j : Int) : Decidable (CMul i j) := by unfold CMul; infer_instance
def cMul : Int → Int → Bool := fun i j => decide (CMul i j)
def cPos : Int → Int → Bool := fun _ j => decide (0 < j)
def cDiv : Int → Int → Bool := fun i j => decide (0 < j ∧ j < 1073741824)
def fAdd : GE := gOr (fP2 (FI cT fun i j => .int (i + j))) (gOr (fP2 FS) fCat)
def fSub : GE := fP2 (FI cT fun i j => .int (i - j))
def fMul : GE := gOr (fP2 (FI cMul fun i j => .int (i * j))) fRep
def fMod : GE := fP2 (FI cPos fun i j => .int (i % j))
def fDiv : GE := fP2 (FI cDiv fun i j => .int (i / j))
theorem me_add (ha : ME X T md W a ga) (hb : ME X T md W b gb) : ME X T md W (.BinOp a .Add b pos) (gSeq (gSeq ga gb) fAdd) := me_bin (op_add.or (op_add_str.or op_cat)) (fI_ok0.or (fS_ok.or fCat_ok)) ha hb
theorem me_sub (ha : ME X T md W a ga) (hb : ME X T md W b gb) : ME X T md W (.BinOp a .Sub b pos) (gSeq (gSeq ga gb) fSub) := me_bin op_sub fI_ok0 ha hb
theorem me_mul (ha : ME X T md W a ga) (hb : ME X T md W b gb) : ME X T md W (.BinOp a .Mult b pos) (gSeq (gSeq ga gb) fMul) := me_bin (op_mul.or op_rep) ((fI_ok (C := cMul) fun _ _ h => of_decide_eq_true h).or fRep_ok) ha hb
theorem me_mod (ha : ME X T md W a ga) (hb : ME X T md W b gb) : ME X T md W (.BinOp a .Mod b pos) (gSeq (gSeq ga gb) fMod) := me_bin op_mod (fI_ok (C := cPos) fun _ _ h => of_decide_eq_true h) ha hb
theorem me_div (ha : ME X T md W a ga) (hb : ME X T md W b gb) : ME X T md W (.BinOp a .FloorDiv b pos) (gSeq (gSeq ga gb) fDiv) := me_bin op_fdiv (fI_ok (C := cDiv) fun i j h => (of_decide_eq_true h : 0 < j ∧ j < 1073741824)) ha hb
/-! comparisons -/
def fLt : GE := fP2 (FI cT fun i j => .bl (decide (i < j)))
def fLe : GE := fP2 (FI cT fun i j => .bl (decide (i ≤ j)))
def fGt : GE := fP2 (FI cT fun i j => .bl (decide (j < i)))
def fGe : GE := fP2 (FI cT fun i j => .bl (decide (j ≤ i)))
mutual
def toD : Tr → Option PyData
  | .a .non => some .none
  | .a (.bl b) => some (.bool b)
  | .a (.int i) => some (.int i)
  | .a (.str x) => some (.str x)
  | .nd .lst _ ts => match toDL ts with
    | some ds => some (.list ds)
    | none => none
  | .nd .tup _ ts => match toDL ts with
    | some ds => some (.tuple ds)
    | none => none
  | _ => none
def toDL : List Tr → Option (List PyData)
  | [] => some []
  | t :: ts => match toD t, toDL ts with
    | some d, some ds => some (d :: ds)
    | _, _ => none
end
mutual
theorem toD_ok {Z : Zn} {H : Hp} : ∀ (t : Tr) {m : Ow} {v : V} {Φ : Ps} {d : PyData}, Rep K Z H m t v Φ → toD t = some d → Dp K.K H v d
  | .any, _, _, _, _, _, e => by simp [toD] at e
  | .a u, _, v, _, d, h, e => by
    obtain ⟨rfl, _⟩ := h
    cases v <;> simp [toD] at e <;> subst e <;> constructor
  | .nd k o ts, m, v, Φ, d, h, e => by
    obtain ⟨ad, vs, Ψ, rfl, ho, hl, hn⟩ := h
    cases k with
    | lst =>
      simp only [toD] at e
      split at e
      · rename_i ds hd
        cases e
        exact .lst (objL ho) (toDL_ok ts hl hd)
      · cases e
    | tup =>
      simp only [toD] at e
      split at e
      · rename_i ds hd
        cases e
        exact .tup (objT ho) (toDL_ok ts hl hd)
      · cases e
    | ins _ _ => simp [toD] at e
    | dct _ => simp [toD] at e
    | dcT _ => simp [toD] at e
    | sti _ => simp [toD] at e
    | xd _ _ _ => simp [toD] at e
theorem toDL_ok {Z : Zn} {H : Hp} : ∀ (ts : List Tr) {m : Ow} {vs : List V} {Φ : Ps} {ds : List PyData}, RepL K Z H m ts vs Φ → toDL ts = some ds → DpAll K.K H vs ds
  | [], _, vs, _, ds, h, e => by
    obtain ⟨rfl, _⟩ := h
    simp only [toDL] at e
    cases e
    exact .nil
  | t :: ts, m, vs, Φ, ds, h, e => by
    obtain ⟨v, vs', Φ1, Φ2, rfl, h1, h2, _, _⟩ := h
    simp only [toDL] at e
    split at e
    · rename_i d ds' hd hds
      cases e
      exact .cons (toD_ok t h1 hd) (toDL_ok ts h2 hds)
    · cases e
end
def FEq (neg : Bool) : Tr → Tr → Option V
  | .a u, .a v => if scal u v = true then some (.bl (if neg then !decide (u = v) else decide (u = v))) else none
  | tx, ty => match toD tx, toD ty with
    | some d, some e => if SeqAt.shaped d = true ∧ SeqAt.shaped e = true then some (.bl (if neg then !PyData.eqv d e else PyData.eqv d e)) else none
    | _, _ => none
def fEq : GE := fP2 (FEq false)
def fNe : GE := fP2 (FEq true)
theorem FEq_eq {neg : Bool} {tx ty : Tr} {u : V} (h : FEq neg tx ty = some u) : (∃ x y, tx = .a x ∧ ty = .a y ∧ scal x y = true ∧ u = .bl (if neg then !decide (x = y) else decide (x = y))) ∨ ∃ d e, toD tx = some d ∧ toD ty = some e ∧ SeqAt.shaped d = true ∧ SeqAt.shaped e = true ∧ u = .bl (if neg then !PyData.eqv d e else PyData.eqv d e) := by
  unfold FEq at h
  split at h
  · rename_i x y
    split at h
    · rename_i hc
      exact .inl ⟨x, y, rfl, rfl, hc, (Option.some.inj h).symm⟩
    · cases h
  · split at h
    · rename_i d e hd he
      split at h
      · rename_i hc
        exact .inr ⟨d, e, hd, he, hc.1, hc.2, (Option.some.inj h).symm⟩
      · cases h
    · cases h
theorem fEq_ok : RA2 K md W (fun x y H Q => rEq x y H Q ∨ rEqD K.K x y H Q) fEq := fP2_ok fun Z H x y tx ty u Φ Ψ Q r1 r2 e q => by
  rcases FEq_eq e with ⟨x', y', rfl, rfl, hc, rfl⟩ | ⟨d, e', hd, he, s1, s2, rfl⟩
  · obtain ⟨rfl, _⟩ := r1
    obtain ⟨rfl, _⟩ := r2
    exact .inl ⟨hc, q⟩
  · exact .inr ⟨d, e', toD_ok _ r1 hd, toD_ok _ r2 he, s1, s2, q⟩
theorem fNe_ok : RA2 K md W (fun x y H Q => rNe x y H Q ∨ rNeD K.K x y H Q) fNe := fP2_ok fun Z H x y tx ty u Φ Ψ Q r1 r2 e q => by
  rcases FEq_eq e with ⟨x', y', rfl, rfl, hc, rfl⟩ | ⟨d, e', hd, he, s1, s2, rfl⟩
  · obtain ⟨rfl, _⟩ := r1
    obtain ⟨rfl, _⟩ := r2
    exact .inl ⟨hc, q⟩
  · exact .inr ⟨d, e', toD_ok _ r1 hd, toD_ok _ r2 he, s1, s2, q⟩
/-- is None -/
def FIs (neg : Bool) : Tr → Tr → Option V
  | .a u, .a .non => some (.bl (if neg then !decide (u = .non) else decide (u = .non)))
  | .nd _ _ _, .a .non => some (.bl neg)
  | _, _ => none
def fIsN : GE := fP2 (FIs false)
def fNotN : GE := fP2 (FIs true)
theorem fIsN_ok : RA2 K md W (fun x y H Q => y = .non ∧ Q (.bl (decide (x = .non))) H) fIsN := fP2_ok fun Z H x y tx ty u Φ Ψ Q r1 r2 e q => by
  unfold FIs at e
  split at e
  · cases e
    obtain ⟨rfl, _⟩ := r1
    exact ⟨r2.1, q⟩
  · cases e
    obtain ⟨ad, vs, Ξ, rfl, _⟩ := r1
    exact ⟨r2.1, q⟩
  · cases e
def FIsB (neg : Bool) : Tr → Tr → Option V
  | .a (.bl a), .a (.bl b) => some (.bl (if neg then !decide (a = b) else decide (a = b)))
  | _, _ => none
def fIsB : GE := fP2 (FIsB false)
/-- in, of flat things -/
def atoms : List Tr → Option (List V)
  | [] => some []
  | .a v :: ts => match atoms ts with
    | some vs => some (v :: vs)
    | none => none
  | _ => none
theorem atoms_ok {Z : Zn} {H : Hp} {m : Ow} : ∀ {ts : List Tr} {vs us : List V} {Φ : Ps}, RepL K Z H m ts vs Φ → atoms ts = some us → vs = us
  | [], _, _, _, h, e => by
    obtain ⟨rfl, _⟩ := h
    simp only [atoms] at e
    cases e
    rfl
  | t :: ts, vs, us, Φ, h, e => by
    obtain ⟨v, vs', Φ1, Φ2, rfl, h1, h2, _, _⟩ := h
    cases t with
    | a w =>
      simp only [atoms] at e
      split at e
      · rename_i us' he
        cases e
        rw [atoms_ok h2 he, h1.1]
      · cases e
    | any => simp [atoms] at e
    | nd _ _ _ => simp [atoms] at e
def FIn (neg : Bool) : Tr → Tr → Option V
  | .a x, .nd .lst _ ts => match atoms ts with
    | some vs => if flatV x = true ∧ vs.all flatV = true then some (.bl (if neg then !inV x vs else inV x vs)) else none
    | none => none
  | .a x, .nd .tup _ ts => match atoms ts with
    | some vs => if flatV x = true ∧ vs.all flatV = true then some (.bl (if neg then !inV x vs else inV x vs)) else none
    | none => none
  | _, _ => none
theorem fIn_ok {neg : Bool} : RA2 K md W (rIn K.K neg) (fP2 (FIn neg)) := fP2_ok fun Z H x y tx ty u Φ Ψ Q r1 r2 e q => by
  unfold FIn at e
  split at e
  · split at e
    · rename_i vs hv
      split at e
      · rename_i hc
        cases e
        obtain ⟨rfl, _⟩ := r1
        obtain ⟨ad, vs', Ξ, rfl, ho, hl, _⟩ := r2
        cases atoms_ok hl hv
        exact ⟨ad, vs, rfl, .inl (objL ho), hc.1, hc.2, q⟩
      · cases e
    · cases e
  · split at e
    · rename_i vs hv
      split at e
      · rename_i hc
        cases e
        obtain ⟨rfl, _⟩ := r1
        obtain ⟨ad, vs', Ξ, rfl, ho, hl, _⟩ := r2
        cases atoms_ok hl hv
        exact ⟨ad, vs, rfl, .inr (objT ho), hc.1, hc.2, q⟩
      · cases e
    · cases e
  · cases e
def fIn : GE := fP2 (FIn false)
def fNotIn : GE := fP2 (FIn true)
end
section
variable {K : KC} {X : Cx} {T : KT} {md : List Bool} {W : WX} {g ga gb f f' : GE} {e a b : Expr} {es : List Expr} {pos p : Pos} {n : Nat} {v : V} {x : Str} {id Ty : String} {q q' : List V → Hp → VK → Prop}
theorem se_cb {t : TA} (ha : SA K md W n t g) (hf : RA K md W n (fun _ => q) f) : SE K md W (tCB q t) (gSeq g f) := by
  intro c σ H m us Q rr hc E hg hp
  simp only [gSeq] at hg
  split at hg
  · rename_i m1 h1
    exact ha c σ H m us _ _ hc E h1 fun vs H1 hl E1 => hf c σ H1 m1 us vs Q rr hc hl E1 hg hp
  · rename_i h1
    refine ha c σ H m us _ _ hc E hg ?_
    cases rr with
    | ex C g' => exact hp
    | ok m2 => exact absurd hg (h1 m2)
theorem me_callB (hc : CallR X (.builtin id) q) (hf : RA (kcm X.K T) md W (e :: es).length (fun _ => q) f) (hg : Gl X x) (hm : X.mg x = none) (hv : bootBuiltins x = some (.builtin id)) (ha : MA X T md W (e :: es) g) (hn : x ≠ "__name__" := by decide) (hdb : (x == ("__debug__" : Str)) = false := by decide)
    (he : starEach (e :: es) X.env = (false, eval e X.env) :: starEach es X.env := by rfl) (hpl : (backTo pos (starEach es X.env)).any (·.1) = false := by rfl) : ME X T md W (.Call (.Name x p) (e :: es) [] pos) (gSeq g f) := by
  obtain ⟨t, pa, sa⟩ := ha
  exact ⟨_, pe_callB hc hg hm hv pa hn hdb he hpl, se_cb sa hf⟩
theorem me_callTy (hc : CallR X (.type Ty) q) (hf : RA (kcm X.K T) md W (e :: es).length (fun _ => q) f) (hg : Gl X x) (hm : X.mg x = none) (hv : bootBuiltins x = some (.type Ty)) (ha : MA X T md W (e :: es) g) (hn : x ≠ "__name__" := by decide) (hdb : (x == ("__debug__" : Str)) = false := by decide)
    (he : starEach (e :: es) X.env = (false, eval e X.env) :: starEach es X.env := by rfl) (hpl : (backTo pos (starEach es X.env)).any (·.1) = false := by rfl) : ME X T md W (.Call (.Name x p) (e :: es) [] pos) (gSeq g f) := by
  obtain ⟨t, pa, sa⟩ := ha
  exact ⟨_, pe_callTy hc hg hm hv pa hn hdb he hpl, se_cb sa hf⟩
theorem CallR.or {f : Value} (h : CallR X f q) (h' : CallR X f q') : CallR X f (fun xs H Q => q xs H Q ∨ q' xs H Q) := by
  intro pins s σ H xs us Q I r z
  rcases z with z | z
  · exact h pins s σ H xs us Q I r z
  · exact h' pins s σ H xs us Q I r z
theorem RA.or {r r' : St → List V → Hp → VK → Prop} (h : RA K md W n r f) (h' : RA K md W n r' f') : RA K md W n (fun σ xs H Q => r σ xs H Q ∨ r' σ xs H Q) (gOr f f') := by
  intro c σ H m us vs Q rr hc hl E hf hp
  simp only [gOr] at hf
  cases e1 : f m with
  | none =>
    simp only [e1] at hf
    exact .inr (h' c σ H m us vs Q rr hc hl E hf hp)
  | some r1 =>
    simp only [e1] at hf
    exact .inl (h c σ H m us vs Q rr hc hl E (by rw [e1]; exact hf) hp)
/-! len -/
def FLen : Tr → Option V
  | .a (.str z) => if z.length ≤ sizeLine then some (.int z.length) else none
  | .nd .lst _ ts => some (.int ts.length)
  | .nd .tup _ ts => some (.int ts.length)
  | .nd (.dct ks) _ ts => some (.int ts.length)
  | _ => none
def fLen : GE := fP1 FLen
theorem call_lenR : CallR X (.builtin "len") (fun xs H Q => ∃ a kvs, xs = [V.ref a] ∧ Rd H a (.dK kvs) ∧ Q (.int kvs.length) H) := by
  intro pins s σ H xs us Q I r h
  obtain ⟨a, kvs, rfl, ha, q⟩ := h
  obtain ⟨u, rfl, ru⟩ := vals1 r
  cases ru
  exact d_len I ha fun t s' I' => ⟨.int kvs.length, H, I', ⟨t, rfl⟩, q⟩
theorem fLen_ok : RA K md W 1 (fun _ xs H Q => (∃ x n, xs = [x] ∧ LenV K.K x H n ∧ Q (.int n) H) ∨ ∃ a kvs, xs = [V.ref a] ∧ Rd H a (.dK kvs) ∧ Q (.int kvs.length) H) fLen := fP1_ok fun σ Z H x tx u Φ Q r e q => by
  unfold FLen at e
  split at e
  · split at e
    · rename_i z hz
      cases e
      obtain ⟨rfl, _⟩ := r
      exact .inl ⟨_, _, rfl, ⟨hz, rfl⟩, q⟩
    · cases e
  · cases e
    obtain ⟨ad, vs, Ξ, rfl, ho, hl, _⟩ := r
    rw [RepL.len _ hl] at q
    exact .inl ⟨_, _, rfl, .inl ⟨vs, objL ho, rfl⟩, q⟩
  · cases e
    obtain ⟨ad, vs, Ξ, rfl, ho, hl, _⟩ := r
    rw [RepL.len _ hl] at q
    exact .inl ⟨_, _, rfl, .inr ⟨vs, objT ho, rfl⟩, q⟩
  · cases e
    obtain ⟨ad, vs, Ξ, rfl, ho, hl, _⟩ := r
    rw [RepL.len _ hl] at q
    have ho := ObjAt.rd ho
    refine .inr ⟨ad, _, rfl, ho.2, ?_⟩
    rw [List.length_zip, ho.1, Nat.min_self]
    exact q
  · cases e
/-! list(x), tuple(x) -/
def fLst : GE := fun m => match m.s with
  | e :: s => match viewE m.g e with
    | some (.nd .lst o ts) => match itemsE e o ts with
      | some ts' => match mkN .lst ts' with
        | some t => some (.ok ⟨m.g, .tr t :: s⟩)
        | none => none
      | none => none
    | some (.nd .tup o ts) => match itemsE e o ts with
      | some ts' => match mkN .lst ts' with
        | some t => some (.ok ⟨m.g, .tr t :: s⟩)
        | none => none
      | none => none
    | _ => none
  | _ => none
def fTup : GE := fun m => match m.s with
  | e :: s => match viewE m.g e with
    | some (.nd .lst o ts) => match itemsE e o ts with
      | some ts' => some (.ok ⟨m.g, .tr (.nd .tup .own ts') :: s⟩)
      | none => none
    | some (.nd .tup _ _) => some (.ok ⟨m.g, e :: s⟩)
    | _ => none
  | _ => none
/-! int, abs, min, max -/
def FInt : Tr → Option V
  | .a (.int i) => some (.int i)
  | .a (.bl k) => some (.int (if k then 1 else 0))
  | _ => none
def fInt : GE := fP1 FInt
theorem fInt_ok : RA K md W 1 (fun _ xs H Q => (∃ i, xs = [.int i] ∧ Q (.int i) H) ∨ ∃ k, xs = [.bl k] ∧ Q (.int (if k then 1 else 0)) H) fInt := fP1_ok fun σ Z H x tx u Φ Q r e q => by
  unfold FInt at e
  split at e
  · cases e
    exact .inl ⟨_, by rw [r.1], q⟩
  · cases e
    exact .inr ⟨_, by rw [r.1], q⟩
  · cases e
def fMax : GE := fP2 (FI cT fun i j => .int (if j > i then j else i))
theorem fII_ok {h : Int → Int → Int} : RA K md W 2 (fun _ xs H Q => ∃ i j, xs = [.int i, .int j] ∧ Q (.int (h i j)) H) (fP2 (FI cT fun i j => .int (h i j))) := by
  intro c σ H m us vs Q rr hc hl E hf hp
  obtain ⟨x, y, e, i, j, h1, h2, q⟩ := fI_ok0 (K := K) (md := md) (W := W) (h := fun i j => .int (h i j)) c σ H m us vs Q rr hc hl E hf hp
  exact ⟨i, j, by rw [e, h1, h2], q⟩
def FNeg : Tr → Option V
  | .a (.int i) => some (.int (-i))
  | _ => none
def fNeg : GE := fP1 FNeg
theorem fNeg_ok : RA K md W 1 (fun _ xs H Q => ∃ i, xs = [.int i] ∧ Q (.int (-i)) H) fNeg := fP1_ok fun σ Z H x tx u Φ Q r e q => by
  unfold FNeg at e
  split at e
  · cases e
    exact ⟨_, by rw [r.1], q⟩
  · cases e
theorem me_neg (h : ME X T md W a ga) : ME X T md W (.UnaryOp .USub a pos) (gSeq ga fNeg) := by
  obtain ⟨t, p, s⟩ := h
  refine ⟨_, pe_un un_neg p, fun c σ H m us Q rr hc E hg hp => ?_⟩
  simp only [gSeq] at hg
  split at hg
  · rename_i m1 h1
    refine s c σ H m us _ _ hc E h1 fun x H1 E1 => ?_
    obtain ⟨i, e, q⟩ := fNeg_ok c σ H1 m1 us [x] Q rr hc rfl E1 hg hp
    cases e
    exact ⟨i, rfl, q⟩
  · rename_i h1
    refine s c σ H m us _ _ hc E hg ?_
    cases rr with
    | ex C g' => exact hp
    | ok m2 => exact absurd hg (h1 m2)
/-! isinstance of built-in classes -/
def tyN : Tr → Option String
  | .a .non => some "NoneType"
  | .a (.bl _) => some "bool"
  | .a (.int _) => some "int"
  | .a (.str _) => some "str"
  | .nd .lst _ _ => some "list"
  | .nd .tup _ _ => some "tuple"
  | .nd (.dct _) .own _ => some "dict"
  | _ => none
theorem tyN_ok {Z : Zn} {H : Hp} {t : Tr} {v : V} {Φ : Ps} {s : String} (r : Rep K Z H .own t v Φ) (h : tyN t = some s) : TyX K.K H v (.type s) := by
  unfold tyN at h
  split at h <;> cases h
  · rw [r.1]; exact .base .non
  · rw [r.1]; exact .base (.bl _)
  · rw [r.1]; exact .base (.int _)
  · rw [r.1]; exact .base (.str _)
  · obtain ⟨ad, vs, Ξ, rfl, ho, _⟩ := r
    exact .base (.lst ho)
  · obtain ⟨ad, vs, Ξ, rfl, ho, _⟩ := r
    rcases ho with ho | (ho | ⟨_, ho⟩) | ⟨o, its, k, h1, h2, _⟩
    · exact .base (.tup ho)
    · cases ho
    · cases ho
    · exact .kTuple h1 h2
  · obtain ⟨ad, vs, Ξ, rfl, ho, _⟩ := r
    exact .base (.dK ho.2)
def kitAnyB (a : String) : List String → Option Bool
  | [] => some false
  | b :: bs => match kitB a b with
    | some true => some true
    | some false => kitAnyB a bs
    | none => none
def tyNames : List Tr → Option (List String)
  | [] => some []
  | .a (.ty n) :: ts => match tyNames ts with
    | some ns => some (n :: ns)
    | none => none
  | _ => none
def FIsi : Tr → Tr → Option V
  | tx, .a (.ty n) => match tyN tx with
    | some s => match kitB s n with
      | some b => some (.bl b)
      | none => none
    | none => none
  | tx, .nd .tup .own ts => match tyN tx, tyNames ts with
    | some s, some ns => match kitAnyB s ns with
      | some b => some (.bl b)
      | none => none
    | _, _ => none
  | _, _ => none
def fIsi : GE := fP2 FIsi
theorem kitAnyB_ok {K : PySem.W.Frag} {a : String} : ∀ {ns : List String} {b : Bool}, kitAnyB a ns = some b → PySem.W.kitAny K (.type a) (ns.map Value.type) = some b
  | [], b, h => by
    simp only [kitAnyB] at h
    rw [← h]
    rfl
  | n :: ns, b, h => by
    simp only [kitAnyB] at h
    split at h
    · rename_i h1
      cases h
      exact kitAny_cons (kit_ty h1) (fun q => by cases q) (fun _ => rfl)
    · rename_i h1
      exact kitAny_cons (kit_ty h1) (fun _ => kitAnyB_ok h) (fun q => by cases q)
    · cases h
theorem tyNames_ok {Z : Zn} {H : Hp} {m : Ow} : ∀ {ts : List Tr} {vs : List V} {Φ : Ps} {ns : List String}, RepL K Z H m ts vs Φ → tyNames ts = some ns → Paired ClsV vs (ns.map Value.type)
  | [], _, _, _, h, e => by
    obtain ⟨rfl, _⟩ := h
    simp only [tyNames] at e
    cases e
    exact .nil
  | t :: ts, vs, Φ, ns, h, e => by
    obtain ⟨v, vs', Φ1, Φ2, rfl, h1, h2, _, _⟩ := h
    unfold tyNames at e
    split at e
    · rename_i heq
      cases heq
    · rename_i n ts2 heq
      cases heq
      split at e
      · rename_i ns' hn
        cases e
        rw [h1.1]
        exact .cons (.ty n) (tyNames_ok h2 hn)
      · cases e
    · cases e
theorem fIsi_ok : RA K md W 2 (fun _ xs H Q => rIsi K.K xs H Q ∨ (rIsiT K.K xs H Q ∨ rIsiK K.K xs H Q)) fIsi := by
  intro c σ H m us vs Q rr hc hl E hf hp
  have := fP2_ok (K := K) (md := md) (W := W) (F := FIsi) (r := fun x y H Q => rIsi K.K [x, y] H Q ∨ (rIsiT K.K [x, y] H Q ∨ rIsiK K.K [x, y] H Q)) (fun Z H x y tx ty u Φ Ψ Q r1 r2 e q => by
    unfold FIsi at e
    split at e
    · split at e
      · rename_i n _ s hs
        split at e
        · rename_i b hb
          cases e
          rw [r2.1]
          exact .inl ⟨x, _, _, _, b, rfl, .ty n, tyN_ok r1 hs, kit_ty hb, q⟩
        · cases e
      · cases e
    · split at e
      · rename_i ts s ns hs hn
        split at e
        · rename_i b hb
          cases e
          obtain ⟨ad, vs, Ξ, rfl, ho, hl, _⟩ := r2
          rcases ho with ho | ho
          · exact .inr (.inl ⟨x, ad, vs, _, _, b, rfl, ho, tyNames_ok hl hn, tyN_ok r1 hs, kitAnyB_ok hb, q⟩)
          · rcases ho with (ho | ⟨_, ho⟩) | ⟨o, its, k, h1, h2, h3, h4, h5⟩
            · cases ho
            · cases ho
            · have e3 := ClsV.all (tyNames_ok hl hn) h5
              obtain ⟨oc, od, dt, sl⟩ := o
              simp only at h2 h3
              subst h2 h3
              exact .inr (.inr ⟨x, ad, od, its.toList, k, sl, _, b, rfl, by rw [Array.toArray_toList]; exact h1, tyN_ok r1 hs, by rw [e3]; exact kitAnyB_ok hb, q⟩)
        · cases e
      · cases e
    · cases e) c σ H m us vs Q rr hc hl E hf hp
  obtain ⟨x, y, rfl, z⟩ := this
  exact z
end
section
variable {K : KC} {X : Cx} {T : KT} {md : List Bool} {W : WX} {c : Cz} {σ : St} {H H' : Hp} {Γ τ τ1 : List Ent} {us us1 vs vs' : List V} {v w : V} {p q : List Nat} {t : Tr} {ts ts' : List Tr} {k k' : Nk} {i j : Nat} {a : Addr}
theorem kill_set {e : Ent} : kill p (Γ.set i e) = (kill p Γ).set i (killE p e) := by simp [kill, List.map_set]
theorem setG_kill : setG (kill p Γ) q t = kill p (setG Γ q t) := by
  cases q with
  | nil => rfl
  | cons i q =>
    simp only [setG]
    cases e : Γ[i]? with
    | none => simp [kill, e]
    | some x =>
      have e2 : (kill p Γ)[i]? = some (killE p x) := by simp [kill, e]
      cases x with
      | no => simp [e2, killE]
      | tr y => simp only [e2, killE, kill_set]
      | al r =>
        by_cases nb : nbel p r = true
        · simp [e2, killE, nb]
        · simp [e2, killE, nb]
theorem setT_setT : ∀ {p : List Nat} {t x y : Tr}, setT (setT t p x) p y = setT t p y
  | [], _, _, _ => rfl
  | j :: p, t, x, y => by
    cases t with
    | any => rfl
    | a v => rfl
    | nd k o us =>
      simp only [setT]
      cases e : us[j]? with
      | none => simp [e, setT]
      | some z =>
        simp only [setT, List.getElem?_set_self (getq_lt' e), List.set_set]
        rw [setT_setT]
theorem setG_setG {x y : Tr} : setG (setG Γ p x) p y = setG Γ p y := by
  cases p with
  | nil => rfl
  | cons i p =>
    simp only [setG]
    cases e : Γ[i]? with
    | none => simp [e]
    | some z =>
      cases z with
      | no => simp [e]
      | al _ => simp [e]
      | tr t => simp only [List.getElem?_set_self (getq_lt' e), List.set_set, setT_setT]
theorem kill_trs : kill p (ts.map Ent.tr) = ts.map Ent.tr := by
  simp [kill, killE]
theorem getG_setG_same {x : Tr} (h : (getG Γ p).isSome = true) : getG (setG Γ p x) p = some x := by
  have h1 := getG_setG (t := x) h h (by
    have npp : ∀ {p : List Nat}, nbel p p = true := by
      intro p
      induction p with
      | nil => rfl
      | cons i p ih => simp [nbel, ih]
    exact npp)
  rw [← getG_getP h1, trees_setG h]
  exact getP_setP_same (getG_isP h)
/-- the things on top of a place go into it, or change it: the node at the place becomes another one -/
theorem EnvOk.modP {ins outs : List Tr} {vouts : List V} {ob : HO} (E : EnvOk K c σ H Γ (.al p :: (ins.map Ent.tr ++ τ)) (w :: (us1 ++ us))) (hl : ins.length = us1.length) (g : getG Γ p = some (.nd k .own ts)) (hk : k ≠ .tup) (hk' : k' ≠ .tup)
    (step : ∀ a vs, w = .ref a → ObjAt K k .own H a vs → ts.length = vs.length → ∃ vs', ts'.length = vs'.length ∧ ObjAt K k' .own (upd H a ob) a vs' ∧ ∀ Z Ψa Ψb, RepL K Z H .own ts vs Ψa → RepL K Z H .own ins us1 Ψb → (∀ b, ¬ (Ψa b ∧ Ψb b)) → ∃ Ψ', RepL K Z H .own (ts' ++ outs) (vs' ++ vouts) Ψ' ∧ ∀ b, Ψ' b → Ψa b ∨ Ψb b)
    (hl3 : outs.length = vouts.length) (he : escL ts' = true) : ∃ a, w = .ref a ∧ EnvOk K c σ (upd H a ob) (kill p (setG Γ p (.nd k' .own ts'))) (outs.map .tr ++ kill p τ) (vouts ++ us) := by
  have gs : (getG Γ p).isSome = true := by rw [g]; rfl
  have E1 := E.ext g
  obtain ⟨Z, ws, Φ, Ψ, EE⟩ := id E1
  obtain ⟨Θ, a, vs, Ξ, rfl, ho, hlr, hn⟩ := EE.view (n := 0) (e := .tr (.nd k .own ts)) rfl rfl rfl
  have ho : ObjAt K k .own H a vs := ho
  obtain ⟨vs', l2, ho', st⟩ := step a vs rfl ho (RepL.len _ hlr)
  refine ⟨a, rfl, ?_⟩
  have ek : kill p (ins.map Ent.tr ++ τ) = ins.map Ent.tr ++ kill p τ := by
    have := kill_trs (p := p) (ts := ins)
    simp only [kill, List.map_append] at this ⊢
    rw [this]
  rw [ek] at E1
  have E2 : EnvOk K c σ H (kill p (setG Γ p .any)) ([.tr (.nd k .own ts)] ++ (ins.map Ent.tr ++ (.al p :: kill p τ))) ([.ref a] ++ (us1 ++ (.ref a :: us))) := by
    have h1 := EnvOk.permA (A := [.tr (.nd k .own ts)]) (B := [.al p] ++ ins.map Ent.tr) (τ := kill p τ) (va := [.ref a]) (vb := [.ref a] ++ us1) (us := us) rfl (by simp [hl]) (by simpa using E1)
    have h2 := EnvOk.permA (A := [.al p]) (B := ins.map Ent.tr) (τ := .tr (.nd k .own ts) :: kill p τ) (va := [.ref a]) (vb := us1) (us := .ref a :: us) rfl (by simp [hl]) (by simpa using h1)
    have h3 := EnvOk.permA (A := ins.map Ent.tr ++ [.al p]) (B := [.tr (.nd k .own ts)]) (τ := kill p τ) (va := us1 ++ [.ref a]) (vb := [.ref a]) (us := us) (by simp [hl]) rfl (by simpa using h2)
    simpa using h3
  have E3 := EnvOk.mut (τ1 := ins.map Ent.tr) (τ := .al p :: kill p τ) (us1 := us1) (us := .ref a :: us) (k' := k') (ts' := ts') (outs := outs) (vs' := vs') (vouts := vouts) (ob := ob) E2 hk hk' (by simp [hl]) ho (fun Z Ψa Ψb r1 r2 => by rw [trees_tr] at r2; exact st Z Ψa Ψb r1 r2) l2 hl3 he ho'
  have E4 : EnvOk K c σ (upd H a ob) (kill p (setG Γ p .any)) (.tr (.nd k' .own ts') :: .al p :: (outs.map .tr ++ kill p τ)) (.ref a :: .ref a :: (vouts ++ us)) := by
    have h1 := EnvOk.permA (A := [.tr (.nd k' .own ts')] ++ outs.map Ent.tr) (B := [.al p]) (τ := kill p τ) (va := [.ref a] ++ vouts) (vb := [.ref a]) (us := us) (by simp [hl3]) rfl (by simpa using E3)
    exact EnvOk.swap2 (by simpa using h1)
  have gk : getG (kill p (setG Γ p .any)) p = some .any := by rw [getG_kill]; exact getG_setG_same gs
  have E5 := (E4.back gk (by
    cases k' <;> first | exact absurd rfl hk' | rfl)).drop
  rw [setG_kill, setG_setG] at E5
  exact E5
/-! statements -/
inductive Os | nx (m : Ms) | rt (t : Tr) (m : Ms) | bk (m : Ms) | ct (m : Ms) | ex (C : Nat) (g : List Ent)
abbrev GS := Ms → Option Os
def PostS (K : KC) (c : Cz) (W : WX) (us : List V) (D : Ends) : Os → Prop
  | .nx m => ∀ σ' H', EnvOk K c σ' H' m.g m.s us → D.nx σ' H'
  | .rt t m => ∀ σ' v H', EnvOk K c σ' H' m.g (.tr t :: m.s) (v :: us) → D.rt v H'
  | .bk m => ∀ σ' H', EnvOk K c σ' H' m.g m.s us → D.bk σ' H'
  | .ct m => ∀ σ' H', EnvOk K c σ' H' m.g m.s us → D.ct σ' H'
  | .ex C g => ∀ σ' (H' : HX), EnvX K c C σ' H' g [] [] → W (.ref (K.et C)) H'.2 σ' H'.1
def SS (K : KC) (md : List Bool) (W : WX) (t : L2.TS) (g : GS) : Prop := ∀ (c : Cz) (σ : St) (H : Hp) (m : Ms) (us : List V) (D : Ends) (o : Os), c.md = md → EnvOk K c σ H m.g m.s us → g m = some o → PostS K c W us D o → t D σ H
def MS (X : Cx) (T : KT) (md : List Bool) (W : WX) (st : Stmt) (g : GS) : Prop := ∃ t, PS X st t ∧ SS (kcm X.K T) md W t g
def MSs (X : Cx) (T : KT) (md : List Bool) (W : WX) (sts : List Stmt) (g : GS) : Prop := ∃ t, PSs X sts t ∧ SS (kcm X.K T) md W t g
variable {st : Stmt} {rest sts sts' : List Stmt} {g g' : GS} {ge gf gt : GE} {e b o : Expr} {pos pos' : Pos}
def sNil : GS := fun m => some (.nx m)
def sSeq (g h : GS) : GS := fun m => match g m with
  | some (.nx m') => h m'
  | r => r
theorem mss_nil : MSs X T md W [] sNil := ⟨_, pss_nil, fun c σ H m us D o hc E hg hp => by
  cases hg
  exact hp σ H E⟩
theorem mss_cons (h1 : MS X T md W st g) (h2 : MSs X T md W rest g') : MSs X T md W (st :: rest) (sSeq g g') := by
  obtain ⟨t, p, s⟩ := h1
  obtain ⟨t', p', s'⟩ := h2
  refine ⟨_, pss_cons p p', fun c σ H m us D o hc E hg hp => ?_⟩
  simp only [sSeq] at hg
  split at hg
  · rename_i m1 h1
    exact s c σ H m us _ _ hc E h1 fun σ' H' E' => s' c σ' H' m1 us D o hc E' hg hp
  · rename_i h1
    refine s c σ H m us _ _ hc E hg ?_
    cases o with
    | nx m' => exact absurd hg (h1 m')
    | rt t m' => exact hp
    | bk m' => exact hp
    | ct m' => exact hp
    | ex C g => exact hp
theorem mss_one (h1 : MS X T md W st g) : MSs X T md W [st] g := by
  obtain ⟨t, p, s⟩ := h1
  exact ⟨_, pss_one p, s⟩
def sExpr (ge : GE) : GS := fun m => match ge m with
  | some (.ok ⟨g, _ :: s⟩) => some (.nx ⟨g, s⟩)
  | some (.ex C g) => some (.ex C g)
  | _ => none
theorem ms_expr (h : ME X T md W e ge) (hs : swapsWith e none pos.line X.env = pure false := by rfl) : MS X T md W (.Expr e pos) (sExpr ge) := by
  obtain ⟨t, p, s⟩ := h
  refine ⟨_, ps_expr p hs, fun c σ H m us D o hc E hg hp => ?_⟩
  simp only [sExpr] at hg
  split at hg
  · rename_i h1
    cases hg
    exact s c σ H m us _ _ hc E h1 fun x H1 E1 => hp σ H1 E1.drop
  · rename_i h1
    cases hg
    exact s c σ H m us _ _ hc E h1 fun H1 E1 => hp σ H1 E1
  · cases hg
def sRet (ge : GE) : GS := fun m => match ge m with
  | some (.ok ⟨g, .tr t :: s⟩) => some (.rt t ⟨g, s⟩)
  | some (.ex C g) => some (.ex C g)
  | _ => none
theorem ms_ret (h : ME X T md W e ge) : MS X T md W (.Return (some e) pos) (sRet ge) := by
  obtain ⟨t, p, s⟩ := h
  refine ⟨_, ps_ret p, fun c σ H m us D o hc E hg hp => ?_⟩
  simp only [sRet] at hg
  split at hg
  · rename_i h1
    cases hg
    exact s c σ H m us _ _ hc E h1 fun x H1 E1 => hp σ x H1 E1
  · rename_i h1
    cases hg
    exact s c σ H m us _ _ hc E h1 fun H1 E1 => hp σ H1 E1
  · cases hg
def sRetN : GS := fun m => some (.rt (.a .non) m)
def sIf (gt : GE) (g h : GS) : GS := fun m => match gt m with
  | some (.ok ⟨g', .tr (.a (.bl true)) :: s'⟩) => g ⟨g', s'⟩
  | some (.ok ⟨g', .tr (.a (.bl false)) :: s'⟩) => h ⟨g', s'⟩
  | some (.ex C g') => some (.ex C g')
  | _ => none
theorem ms_if (hc : MT X T md W e gt) (ha : MSs X T md W sts g) (hb : MSs X T md W sts' g') : MS X T md W (.If e sts sts' pos) (sIf gt g g') := by
  obtain ⟨tc, pc, sc⟩ := hc
  obtain ⟨t, p, s⟩ := ha
  obtain ⟨t', p', s'⟩ := hb
  refine ⟨_, ps_if pc p p', fun c σ H m us D o hm E hg hp => ?_⟩
  simp only [sIf] at hg
  split at hg
  · rename_i h1
    exact sc c σ H m us _ _ hm E h1 fun H' E' => iteT (s c σ H' _ us D o hm E' hg hp)
  · rename_i h1
    exact sc c σ H m us _ _ hm E h1 fun H' E' => iteF (s' c σ H' _ us D o hm E' hg hp)
  · rename_i h1
    cases hg
    exact sc c σ H m us _ _ hm E h1 fun H' E' => hp σ H' E'
  · cases hg
/-- a name gets what is on top -/
def bind (md : List Bool) (i : Nat) (m : Ms) : Option Ms := if md.getD i false = true ∨ ¬ i < m.g.length then none else match m.s with
  | .tr t :: s => some ⟨(m.g.map (killR i)).set i (.tr t), s.map (killR i)⟩
  | .al p :: s => if p.head? = some i then none else some ⟨(m.g.map (killR i)).set i (.al p), s.map (killR i)⟩
  | _ => none
theorem bind_ok {m m' : Ms} {x : V} (hc : c.md = md) (E : EnvOk K c σ H m.g m.s (x :: us)) (h : bind md i m = some m') : EnvOk K c (σ.set i (some x)) H m'.g m'.s us := by
  unfold bind at h
  split at h
  · cases h
  · rename_i hn
    have h1 : i < m.g.length := Classical.byContradiction fun q => hn (.inr q)
    have h2 : c.md[i]? ≠ some true := fun q => hn (.inl (by rw [← hc, List.getD_eq_getElem?_getD, q]; rfl))
    split at h
    · rename_i t s hs
      cases h
      rw [hs] at E
      exact E.setT h1 h2
    · rename_i p s hs
      split at h
      · cases h
      · rename_i hp
        cases h
        rw [hs] at E
        exact E.setA h1 h2 hp
    · cases h
def sSet (md : List Bool) (i : Nat) (ge : GE) : GS := fun m => match ge m with
  | some (.ok m') => match bind md i m' with
    | some m2 => some (.nx m2)
    | none => none
  | some (.ex C g) => some (.ex C g)
  | none => none
theorem ss_set {t : TE} (s : SE K md W t ge) : SS K md W (tAsg t (gName i)) (sSet md i ge) := by
  intro c σ H m us D o hc E hg hp
  simp only [sSet] at hg
  split at hg
  · rename_i m1 h1
    split at hg
    · rename_i m2 h2
      cases hg
      exact s c σ H m us _ _ hc E h1 fun x H1 E1 => hp _ H1 (bind_ok hc E1 h2)
    · cases hg
  · rename_i h1
    cases hg
    exact s c σ H m us _ _ hc E h1 fun H1 E1 => hp σ H1 E1
  · cases hg
theorem ms_set {x : Str} (hN : X.N.Nodup) (hi : X.N[i]? = some x) (hx : Loc X.env.scope x) (h : ME X T md W e ge) (hs : swapsWith e (some (.Name x pos')) pos.line X.env = pure false := by rfl)
    (hf : X.fn x = true ∨ X.env.scope.names.lookup x = some .local := by first | exact .inl rfl | exact .inr rfl | assumption) : MS X T md W (.Assign [.Name x pos'] e pos) (sSet md i ge) := by
  obtain ⟨t, p, s⟩ := h
  exact ⟨_, ps_set hN hi hx p hs hf, ss_set s⟩
end
section
variable {K : KC} {X : Cx} {T : KT} {md : List Bool} {W : WX} {c : Cz} {σ : St} {H H' : Hp} {Γ τ : List Ent} {us vs ws : List V} {v w wp : V} {p q r : List Nat} {t : Tr} {ts : List Tr} {k : Nk} {i j j' : Nat} {a : Addr} {Z : Zn} {Φ Ψ : Ps} {ob : HO}
theorem RepL.set1 {Z : Zn} {Ψa Ψb : Ps} (h : RepL K Z H .own ts vs Ψa) (hj : j < ts.length) (h2 : RepL K Z H .own [t] [v] Ψb) (d : ∀ b, ¬ (Ψa b ∧ Ψb b)) : ∃ Ψ', RepL K Z H .own (ts.set j t) (vs.set j v) Ψ' ∧ ∀ b, Ψ' b → Ψa b ∨ Ψb b := by
  obtain ⟨v', Φ1, Φ2, e1, r, d1, u, r2, _⟩ := RepL.at_ _ h (i := j) (t := ts[j]) (List.getElem?_eq_getElem hj)
  obtain ⟨_, _, Θ1, Θ2, e2, a1, a2, ad, au⟩ := h2
  cases e2
  have n2 : ∀ b, ¬ Θ2 b := a2.2
  have hw := getq_lt' e1
  have g1 : (ts.set j .any)[j]? = some .any := List.getElem?_set_self hj
  have r3 := RepL.put _ (RepL.anyv (v := v) _ r2 g1) g1 (List.getElem?_set_self hw) a1 (by grind)
  rw [List.set_set] at r3
  exact ⟨_, r3, by grind⟩
/-- p leads into or to what stands at q -/
def pre : List Nat → List Nat → Bool
  | [], _ => true
  | _, [] => false
  | i :: p, j :: q => decide (i = j) && pre p q
def killJ (p : List Nat) : Ent → Ent
  | .al q => if pre p q = true then .no else .al q
  | e => e
theorem Raw.split : ∀ {p : List Nat} {ws : List V} {j : Nat} {r : List Nat} {w : V}, p ≠ [] → Raw H ws (p ++ j :: r) w → ∃ wp us, Raw H ws p wp ∧ Kids H wp us ∧ Raw H us (j :: r) w
  | [], _, _, _, _, h, _ => absurd rfl h
  | [i], ws, j, r, w, _, h => by
    obtain ⟨v, us, e, kd, h⟩ := h
    exact ⟨v, us, e, kd, h⟩
  | i :: i2 :: p, ws, j, r, w, _, h => by
    obtain ⟨v, us, e, kd, h⟩ := h
    obtain ⟨wp, us2, h1, h2, h3⟩ := Raw.split (p := i2 :: p) (by simp) h
    exact ⟨wp, us2, ⟨v, us, e, kd, h1⟩, h2, h3⟩
theorem Raw.join : ∀ {p : List Nat} {ws : List V} {j : Nat} {r : List Nat} {wp w : V} {us : List V}, Raw H ws p wp → Kids H wp us → Raw H us (j :: r) w → Raw H ws (p ++ j :: r) w
  | [], _, _, _, _, _, _, h, _, _ => h.elim
  | [i], ws, j, r, wp, w, us, h, kd, h2 => ⟨wp, us, h, kd, h2⟩
  | i :: i2 :: p, ws, j, r, wp, w, us, h, kd, h2 => by
    obtain ⟨v, us2, e, kd2, h⟩ := h
    exact ⟨v, us2, e, kd2, Raw.join h kd h2⟩
theorem nbel_or : ∀ {p q : List Nat}, nbel p q = true ∨ ∃ j r, q = p ++ j :: r
  | [], [] => .inl rfl
  | [], j :: q => .inr ⟨j, q, rfl⟩
  | i :: p, [] => .inl rfl
  | i :: p, j :: q => by
    by_cases e : i = j
    · subst e
      rcases nbel_or (p := p) (q := q) with h | ⟨j, r, h⟩
      · exact .inl (by simpa [nbel] using h)
      · exact .inr ⟨j, r, by rw [h]; rfl⟩
    · exact .inl (by simp [nbel, e])
theorem pre_app : ∀ {p : List Nat} {j j' : Nat} {r : List Nat}, pre (p ++ [j]) (p ++ j' :: r) = decide (j = j')
  | [], j, j', r => by simp [pre]
  | i :: p, j, j', r => by simp [pre, pre_app (p := p)]
theorem getT_app : ∀ {p : List Nat} {t : Tr} {j : Nat} {r : List Nat}, getT t p = some (.nd k .own ts) → k ≠ .tup → getT t (p ++ j :: r) = match ts[j]? with
    | some y => getT y r
    | none => none
  | [], t, j, r, h, hk => by
    cases h
    show getT (.nd k .own ts) (j :: r) = _
    cases k <;> simp_all [getT] <;> rfl
  | i :: p, t, j, r, h, hk => by
    cases t with
    | any => simp [getT] at h
    | a v => simp [getT] at h
    | nd k' o us =>
      cases k' <;> cases o <;> simp_all [getT]
      all_goals
        cases e : us[i]? with
        | none => simp [e] at h
        | some y =>
          simp only [e] at h ⊢
          exact getT_app h hk
theorem getG_app (h : getG Γ p = some (.nd k .own ts)) (hk : k ≠ .tup) : getG Γ (p ++ j :: r) = match ts[j]? with
    | some y => getT y r
    | none => none := by
  cases p with
  | nil => simp [getG] at h
  | cons i p =>
    simp only [getG, List.cons_append] at h ⊢
    cases e : Γ[i]? with
    | none => simp [e] at h
    | some x =>
      cases x with
      | no => simp [e] at h
      | al _ => simp [e] at h
      | tr t =>
        simp only [e] at h ⊢
        exact getT_app h hk
theorem getG_ne_nil (h : (getG Γ p).isSome = true) : p ≠ [] := fun e => by subst e; simp [getG] at h
/-- an item of a list, dict or instance that stands at a place is replaced; aliases of the other items stay -/
theorem EnvOk.setIn (E : EnvOk K c σ H Γ (.al p :: .tr t :: τ) (w :: v :: us)) (g : getG Γ p = some (.nd k .own ts)) (hk : k ≠ .tup) (hj : j < ts.length) (he : esc t = true) (hob : ∀ a vs, ObjAt K k .own H a vs → w = .ref a → ObjAt K k .own (upd H a ob) a (vs.set j v)) :
    ∃ a, w = .ref a ∧ EnvOk K c σ (upd H a ob) ((setG Γ p (.nd k .own (ts.set j t))).map (killJ (p ++ [j]))) (τ.map (killJ (p ++ [j]))) us := by
  obtain ⟨Z, ws, Φ, Ψ, sl, tm, dj, so, to, ln, zo, zf, z0, zs, st, pv⟩ := E
  have gs : (getG Γ p).isSome = true := by rw [g]; rfl
  have g2 : getP (trees Γ) p = some (.nd k .own ts) := by rw [getG_getP gs, g]
  obtain ⟨w', Φ1, Φ2, raw, rp, d, u, r2, stab⟩ := RepL.path sl g2
  obtain ⟨w0, e0, raw0, _⟩ := to 0 p rfl
  cases e0
  cases raw.fn raw0
  obtain ⟨a, vs, Ξ, rfl, ho, hl, hn⟩ := id rp
  have ho : ObjAt K k .own H a vs := ho
  have hl : RepL K Z H .own ts vs Ξ := hl
  have hn : Nod Z k .own a ts Ξ Φ1 := hn
  have hn' := hn.own hk
  obtain ⟨_, _, Θ1, Θ2, e1, a1, a2, ad, au⟩ := tm
  cases e1
  obtain ⟨_, _, Θ3, Θ4, e2, a3, a4, ad2, au2⟩ := a2
  cases e2
  have a1 : ∀ b, ¬ Θ1 b := a1
  have ho' := hob a vs ho rfl
  have hsome : (H a).isSome = true := Rep.isS _ rp a (by grind)
  have nta : ∀ ob, H a = some ob → nt' ob = true := fun ob e => Rep.nt _ rp a ob (by grind) e
  have tp : TSK K H (upd H a ob) := tsk fun b o' e n => by
    rw [upd_ne (fun q => by subst q; have := nta o' e; rw [n] at this; cases this)]; exact e
  have kpo : ∀ {Θ : Ps}, (∀ b, Θ b → b ≠ a) → (∀ b, Z.fz b ∨ Z.ln b → b ≠ a) → Kp K Z Z H (upd H a ob) Θ := fun {Θ} h1 h2 => ⟨fun _ h => h, fun _ h => h, fun b o' q e => by rw [upd_ne (by rcases q with q | q; exact h1 b q; exact h2 b q)]; exact e, tp⟩
  have za : ∀ b, Z.fz b ∨ Z.ln b → b ≠ a := fun b q e => by
    subst e
    have := (zo b (.inl ((u b).mpr (.inl (by grind))))).2
    rcases q with q | q
    · exact this.1 q
    · exact this.2 q
  have one : RepL K Z H .own [t] [v] Θ3 := ⟨v, [], Θ3, fun _ => False, rfl, a3, ⟨rfl, fun _ h => h⟩, by simp, by simp⟩
  obtain ⟨Ξ', rk, subk⟩ := RepL.set1 hl hj one (by grind)
  have rk' := RepL.fr _ rk (kpo (Θ := Ξ') (by grind) za)
  have node : Rep K Z (upd H a ob) .own (.nd k .own (ts.set j t)) (.ref a) (fun b => b = a ∨ Ξ' b) := ⟨a, vs.set j v, Ξ', rfl, ho', rk', .mk hk (fun _ => Iff.rfl) (by grind) (escL_set hn'.2.2 he)⟩
  have r3 := RepL.fr _ r2 (kpo (Θ := Φ2) (by grind) za)
  have keepR : ∀ b ob', ¬ Φ1 b → H b = some ob' → upd H a ob b = some ob' := fun b ob' nb e => by rw [upd_ne (by grind)]; exact e
  have npp : ∀ {p : List Nat}, nbel p p = true := by
    intro p
    induction p with
    | nil => rfl
    | cons i p ih => simp [nbel, ih]
  have rawp : Raw (upd H a ob) ws p (.ref a) := stab p (.ref a) _ npp (by rw [g2]; rfl) raw keepR
  have gset : getP (setP (trees Γ) p .any) p = some .any := getP_setP_same (by rw [g2]; rfl)
  have r4 := RepL.putP r3 gset rawp node (by grind) (by cases k <;> first | exact absurd rfl hk | rfl)
  rw [setP_setP] at r4
  have lenv := RepL.len _ hl
  -- aliases
  have rawq : ∀ {q : List Nat} {x : V}, (getG Γ q).isSome = true → pre (p ++ [j]) q = false → Raw H ws q x → Raw (upd H a ob) ws q x ∧ (getG (setG Γ p (.nd k .own (ts.set j t))) q).isSome = true := fun {q x} gq hpre rq => by
    rcases nbel_or (p := p) (q := q) with nb | ⟨j', r, rfl⟩
    · exact ⟨stab q x _ nb (getG_isP gq) rq keepR, getG_setG gq gs nb⟩
    · rw [pre_app] at hpre
      have hjj : j ≠ j' := by simpa using hpre
      obtain ⟨wq, us2, h1, h2, h3⟩ := Raw.split (getG_ne_nil gs) rq
      cases raw.fn h1
      cases (objKids ho hk).fn h2
      have gk : getG Γ (p ++ j' :: r) = match ts[j']? with
          | some y => getT y r
          | none => none := getG_app g hk
      have gk2 : (getP ts (j' :: r)).isSome = true := by
        cases e : ts[j']? with
        | none => rw [gk, e] at gq; cases gq
        | some y => rw [getP_getT e]; rw [gk, e] at gq; exact gq
      have h3' : Raw (upd H a ob) vs (j' :: r) x := Raw.keep hl gk2 h3 fun b ob' hb e => by rw [upd_ne (by grind)]; exact e
      refine ⟨Raw.join rawp (objKids ho' hk) ?_, ?_⟩
      · match r, h3' with
        | [], h3' =>
          show (vs.set j v)[j']? = some x
          rw [List.getElem?_set_ne hjj]
          exact h3'
        | j2 :: r, h3' =>
          obtain ⟨v2, us3, e3, k3, h4⟩ := h3'
          exact ⟨v2, us3, by rw [List.getElem?_set_ne hjj]; exact e3, k3, h4⟩
      · have : getG (setG Γ p (.nd k .own (ts.set j t))) p = some (.nd k .own (ts.set j t)) := getG_setG_same gs
        rw [getG_app this hk, List.getElem?_set_ne hjj]
        rw [gk] at gq
        exact gq
  have trk : ∀ (L : List Ent), trees (L.map (killJ (p ++ [j]))) = trees L := fun L => by
    simp only [trees, List.map_map]
    congr 1
    funext e
    cases e with
    | al q => by_cases h : pre (p ++ [j]) q = true <;> simp [killJ, h, Ent.tree]
    | _ => rfl
  have gkj : ∀ {Γ : List Ent} {q : List Nat}, getG (Γ.map (killJ (p ++ [j]))) q = getG Γ q := fun {Γ q} => by
    cases q with
    | nil => rfl
    | cons i q =>
      simp only [getG, List.getElem?_map]
      cases Γ[i]? with
      | none => rfl
      | some x =>
        cases x with
        | al r => by_cases h : pre (p ++ [j]) r = true <;> simp [killJ, h]
        | _ => rfl
  refine ⟨a, rfl, Z, ws, fun b => (b = a ∨ Ξ' b) ∨ Φ2 b, Θ4, ⟨by rw [trk, trees_setG gs]; exact r4, by rw [trk]; exact RepL.fr _ a4 (kpo (Θ := Θ4) (by grind) za), by grind, ?_, ?_, by rw [ln]; simp [setG_len], by grind, zf, z0, fun b q => ?_, fun b o0 e0 => ?_, pv⟩⟩
  · intro i e he
    rw [List.getElem?_map] at he
    cases hx : (setG Γ p (.nd k .own (ts.set j t)))[i]? with
    | none => simp [hx] at he
    | some x =>
      simp only [hx, Option.map_some, Option.some.injEq] at he
      subst he
      rcases setG_at hx with ⟨y, z, hy, rfl⟩ | hx'
      · exact so i _ hy
      · have h1 := so i x hx'
        cases x with
        | no => trivial
        | tr y => exact h1
        | al q =>
          obtain ⟨x1, x2, x3, x4⟩ := h1
          by_cases hq : pre (p ++ [j]) q = true
          · simp only [killJ, hq, if_true]
            trivial
          · simp only [killJ, hq, if_false]
            have := rawq x4 (by simpa using hq) x3
            exact ⟨x1, x2, this.1, by rw [gkj]; exact this.2⟩
  · intro i q hi
    rw [List.getElem?_map] at hi
    cases hx : τ[i]? with
    | none => simp [hx] at hi
    | some x =>
      simp only [hx, Option.map_some, Option.some.injEq] at hi
      cases x with
      | no => simp [killJ] at hi
      | tr _ => simp [killJ] at hi
      | al q' =>
        by_cases hq : pre (p ++ [j]) q' = true
        · simp [killJ, hq] at hi
        · simp only [killJ, hq, if_false] at hi
          cases hi
          obtain ⟨w1, s1, s2, s3⟩ := to (i + 2) q (by simpa using hx)
          have := rawq s3 (by simpa using hq) s2
          exact ⟨w1, by simpa using s1, this.1, by rw [gkj]; exact this.2⟩
  · rw [upd_ne (za b q)]
    exact zs b q
  · obtain ⟨o', e', hno⟩ := st b o0 e0
    by_cases hb : b = a
    · subst hb
      refine ⟨ob, upd_same, fun nf => ?_⟩
      rcases (zo b (.inl ((u b).mpr (.inl (by grind))))).1 with z | z
      · exact absurd z nf
      · rw [z] at e0; cases e0
    · exact ⟨o', by rw [upd_ne hb]; exact e', hno⟩
end
section
variable {K : KC} {X : Cx} {T : KT} {md : List Bool} {W : WX} {c : Cz} {σ : St} {H H' : Hp} {Γ τ τ1 : List Ent} {us us1 vs vs' : List V} {v w : V} {p q : List Nat} {t : Tr} {ts ts' : List Tr} {k k' : Nk} {i j : Nat} {a : Addr}
variable {st : Stmt} {rest sts sts' : List Stmt} {g g' : GS} {ge gf gt gi go gv : GE} {e b o ie : Expr} {pos pos' : Pos}
/-- o[i] = v, of a list -/
def stSub : Ms → Option Ms := fun m => match m.s with
  | .tr (.a (.int x)) :: .al p :: .tr t :: s => match getG m.g p with
    | some (.nd .lst .own ts) => match ixN ts.length x with
      | some j => if esc t = true then some ⟨(setG m.g p (.nd .lst .own (ts.set j t))).map (killJ (p ++ [j])), s.map (killJ (p ++ [j]))⟩ else none
      | none => none
    | _ => none
  | _ => none
theorem ixN_lt {n : Nat} {x : Int} {j : Nat} (h : ixN n x = some j) : j < n := by
  unfold ixN at h
  split at h
  · split at h
    · cases h; omega
    · cases h
  · split at h
    · cases h; omega
    · cases h
theorem nodE (hk : k ≠ .tup) : ∀ {ts : List Tr}, (∀ {Z : Zn} {H : Hp} {v : V} {Φ : Ps}, Rep K Z H .own (.nd k .own ts) v Φ → escL ts = true) := fun {ts Z H v Φ} r => by
  obtain ⟨a, vs, Ψ, _, _, _, hn⟩ := r
  have hn : Nod Z k .own a ts Ψ Φ := hn
  exact (hn.own hk).2.2
theorem EnvOk.escAt (E : EnvOk K c σ H Γ (.al p :: τ) (w :: us)) (g : getG Γ p = some (.nd k .own ts)) (hk : k ≠ .tup) : escL ts = true := by
  obtain ⟨Z, ws, Φ, Ψ, EE⟩ := E
  obtain ⟨Θ, r⟩ := EE.view (n := 0) (e := .al p) rfl rfl g
  exact nodE hk r
theorem stSub_ok {m m' : Ms} {x y z : V} {Q : Hp → Prop} (E : EnvOk K c σ H m.g m.s (z :: y :: x :: us)) (h : stSub m = some m') (hq : ∀ H', EnvOk K c σ H' m'.g m'.s us → Q H') : rSetL y z x H Q := by
  unfold stSub at h
  split at h
  · rename_i xi p t s hs
    split at h
    · rename_i ts hg
      split at h
      · rename_i j hj
        split at h
        · rename_i he
          cases h
          rw [hs] at E
          have ez := top_a E
          subst ez
          have E1 := E.drop
          have hes := E1.escAt hg (by simp)
          have hjl := ixN_lt hj
          obtain ⟨Z, ws, Φ, Ψ, EE⟩ := id E1
          obtain ⟨Θ, a, vs, Ξ, rfl, ho, hlr, hn⟩ := EE.view (n := 0) (e := .al p) rfl rfl hg
          have ho : H a = some (.lst vs) := ho
          have hlen := RepL.len _ hlr
          refine ⟨a, vs, xi, j, rfl, rfl, ho, by rw [← hlen]; exact hj, hq _ ?_⟩
          obtain ⟨a', e, E2⟩ := EnvOk.setIn (j := j) (ob := .lst (vs.set j x)) E1 hg (by simp) hjl he (fun a2 vs2 ho2 e2 => by
            cases e2
            have ho2 : H a = some (.lst vs2) := ho2
            rw [ho] at ho2
            cases ho2
            exact upd_same)
          cases e
          exact E2
        · cases h
      · cases h
    · cases h
  · cases h
/-- o.f = v -/
def stFld (tab : List (Nat × Nat)) : Ms → Option Ms := fun m => match m.s with
  | .al p :: .tr t :: s => match getG m.g p with
    | some (.nd (.ins n k) .own ts) => match tab.lookup n with
      | some j => if esc t = true ∧ k < 900 then
          if j < k then some ⟨(setG m.g p (.nd (.ins n k) .own (ts.set j t))).map (killJ (p ++ [j])), s.map (killJ (p ++ [j]))⟩
          else if j = k then some ⟨kill p (setG m.g p (.nd (.ins n (k + 1)) .own (ts ++ [t]))), kill p s⟩ else none
        else none
      | none => none
    | _ => none
  | _ => none
theorem putF_set {f : Str} : ∀ {ns : List Str} {vs : List V} {j : Nat}, ns.idxOf? f = some j → ns.length = vs.length → putF f v (ns.zip vs) = ns.zip (vs.set j v)
  | [], _, _, h, _ => by simp at h
  | n :: ns, [], _, _, l => by simp at l
  | n :: ns, x :: vs, j, h, l => by
    rw [List.idxOf?_cons] at h
    rw [List.zip_cons_cons]
    unfold putF
    by_cases e : n = f
    · subst e
      simp at h
      subst h
      simp
    · have e1 : (n == f) = false := by simpa using e
      rw [e1] at h
      simp only [Bool.false_eq_true, if_false, Option.map_eq_some_iff] at h
      obtain ⟨j', h1, rfl⟩ := h
      rw [if_neg e, putF_set h1 (by simpa using l)]
      simp
theorem putF_app {f : Str} : ∀ {ns : List Str} {vs : List V} {k : Nat}, ns.idxOf? f = some k → (ns.take k).length = vs.length → putF f v ((ns.take k).zip vs) = (ns.take (k + 1)).zip (vs ++ [v])
  | [], _, _, h, _ => by simp at h
  | n :: ns, [], k, h, l => by
    have : k = 0 := by
      cases k with
      | zero => rfl
      | succ k => simp at l
    subst this
    rw [List.idxOf?_cons] at h
    by_cases e : (n == f) = true
    · have : n = f := by simpa using e
      subst this
      simp [putF]
    · simp [e] at h
  | n :: ns, x :: vs, k, h, l => by
    cases k with
    | zero => simp at l
    | succ k =>
      rw [List.idxOf?_cons] at h
      by_cases e : (n == f) = true
      · simp [e] at h
      · rw [if_neg e] at h
        simp only [Option.map_eq_some_iff] at h
        obtain ⟨j', h1, h2⟩ := h
        have : j' = k := by omega
        subst this
        have ne : n ≠ f := by simpa using e
        rw [List.take_succ_cons, List.zip_cons_cons]
        unfold putF
        rw [if_neg ne, putF_app h1 (by simpa using l)]
        simp
theorem stFld_ok {m m' : Ms} {x y : V} {fl : Str} {tab : List (Nat × Nat)} {Q : Hp → Prop} (ht : FldOk K.K ⟨K.P, K.w, K.ct, K.nm, K.et, K.ef⟩ fl tab) (E : EnvOk K c σ H m.g m.s (y :: x :: us)) (h : stFld tab m = some m') (hq : ∀ H', EnvOk K c σ H' m'.g m'.s us → Q H') :
    ∃ a C dx fs, y = .ref a ∧ H a = some (.ins C dx fs) ∧ Cls K.K C ∧ NoAttr K.K C fl ∧ fs.length < 1000 ∧ Q (upd H a (.ins C dx (putF fl x fs))) ∧ ∀ n k o ts e s', m.s = e :: s' → viewE m.g e = some (.nd (.ins n k) o ts) → C = K.ct n := by
  unfold stFld at h
  split at h
  · rename_i p t s hs
    split at h
    · rename_i n k ts hg
      split at h
      · rename_i j hj
        split at h
        · rename_i he
          rw [hs] at E
          have hes := E.escAt hg (by simp)
          obtain ⟨Z, ws, Φ, Ψ, EE⟩ := id E
          obtain ⟨Θ, a, vs, Ξ, rfl, ho, hlr, hn⟩ := EE.view (n := 0) (e := .al p) rfl rfl hg
          obtain ⟨l, dx, ho⟩ := ho
          have hlen := RepL.len _ hlr
          obtain ⟨c1, c2, c3⟩ := ht n j (mem_lookup hj)
          have c3 : (K.nm n).idxOf? fl = some j := c3
          have c1 : Cls K.K (K.ct n) := c1
          have c2 : NoAttr K.K (K.ct n) fl := c2
          have lt : (((K.nm n).take k).zip vs).length < 1000 := by
            rw [List.length_zip, List.length_take]
            have := he.2
            omega
          refine ⟨a, _, dx, _, rfl, ho, c1, c2, lt, ?_, fun n' k' o' ts' e' s' q1 q2 => by
            rw [hs] at q1
            cases q1
            rw [show viewE m.g (.al p) = getG m.g p from rfl, hg] at q2
            cases q2
            rfl⟩
          split at h
          · rename_i hjk
            cases h
            refine hq _ ?_
            have hjt : j < ts.length := by
              rw [hlen, ← l, List.length_take]
              have : j < (K.nm n).length := by
                have h3 := c3
                rw [List.idxOf?_eq_some_iff] at h3
                exact h3.1
              omega
            rw [putF_set (idx_take c3 hjk) l]
            obtain ⟨a', e, E2⟩ := EnvOk.setIn (j := j) (ob := .ins (K.ct n) dx (((K.nm n).take k).zip (vs.set j x))) E hg (by simp) hjt he.1 (fun a2 vs2 ho2 e2 => by
              cases e2
              obtain ⟨l3, dx2, ho2⟩ := ho2
              have ev : vs = vs2 := Kids.fn (H := H) (v := .ref a) ⟨a, rfl, .inr (.inl ⟨_, dx, _, ho, l⟩)⟩ ⟨a, rfl, .inr (.inl ⟨_, dx2, _, ho2, l3⟩)⟩
              subst ev
              exact ⟨by simpa using l, dx, upd_same⟩)
            cases e
            exact E2
          · split at h
            · rename_i hjk hjk2
              cases h
              subst hjk2
              refine hq _ ?_
              rw [putF_app c3 l]
              have hjn : j < (K.nm n).length := by
                have h3 := c3
                rw [List.idxOf?_eq_some_iff] at h3
                exact h3.1
              obtain ⟨a', e, E2⟩ := EnvOk.modP (ins := [t]) (us1 := [x]) (outs := []) (vouts := []) (k' := .ins n (j + 1)) (ts' := ts ++ [t]) (ob := .ins (K.ct n) dx (((K.nm n).take (j + 1)).zip (vs ++ [x]))) (τ := s) (us := us) E rfl hg (by simp) (by simp) (fun a2 vs2 e2 ho2 l2 => by
                cases e2
                obtain ⟨l3, dx2, ho2⟩ := ho2
                have ev : vs = vs2 := Kids.fn (H := H) (v := .ref a) ⟨a, rfl, .inr (.inl ⟨_, dx, _, ho, l⟩)⟩ ⟨a, rfl, .inr (.inl ⟨_, dx2, _, ho2, l3⟩)⟩
                subst ev
                refine ⟨vs ++ [x], by simpa using l2, ⟨by rw [List.length_take] at l ⊢; simp; omega, dx, upd_same⟩, fun Z Ψa Ψb r1 r2 d => ⟨_, by simpa using RepL.append _ r1 r2 d, fun b q => q⟩⟩) rfl (by
                  rw [escL_all] at hes ⊢
                  intro y hy
                  rcases List.mem_append.mp hy with z | z
                  · exact hes y z
                  · rw [List.mem_singleton.mp z]; exact he.1)
              cases e
              simpa using E2
            · cases h
        · cases h
      · cases h
    · cases h
  · cases h
def sFldS (tab : List (Nat × Nat)) (gv go : GE) : GS := fun m => match gSeq gv go m with
  | some (.ok m') => match stFld tab m' with
    | some m2 => some (.nx m2)
    | none => none
  | some (.ex C g) => some (.ex C g)
  | none => none
theorem ms_fld {fl : Str} {tab : List (Nat × Nat)} {spos tpos : Pos} (hv : ME X T md W e gv) (ho : ME X T md W o go) (ht : FldOk X.K T fl tab) (hs : swapsWith e (some (.Attribute o fl spos)) tpos.line X.env = pure false := by rfl) : MS X T md W (.Assign [.Attribute o fl spos] e tpos) (sFldS tab gv go) := by
  obtain ⟨tv, pv, sv⟩ := hv
  obtain ⟨to, po, so⟩ := ho
  refine ⟨_, ps_fld po pv hs, fun c σ H m us D oo hc E hg hp => ?_⟩
  simp only [sFldS, gSeq] at hg
  cases e1 : gv m with
  | none => simp [e1] at hg
  | some r1 =>
    cases r1 with
    | ex C g' =>
      simp only [e1] at hg
      cases hg
      exact sv c σ H m us _ _ hc E e1 fun H1 E1 => hp σ H1 E1
    | ok m1 =>
      simp only [e1] at hg
      refine sv c σ H m us _ _ hc E e1 fun x H1 E1 => ?_
      cases e2 : go m1 with
      | none => simp [e2] at hg
      | some r2 =>
        cases r2 with
        | ex C g' =>
          simp only [e2] at hg
          cases hg
          exact so c σ H1 m1 _ _ _ hc E1 e2 fun H2 E2 => hp σ H2 E2
        | ok m2 =>
          simp only [e2] at hg
          refine so c σ H1 m1 _ _ _ hc E1 e2 fun y H2 E2 => ?_
          split at hg
          · rename_i m4 h4
            cases hg
            obtain ⟨a, C, dx, fs, z1, z2, z3, z4, z5, z6, _⟩ := stFld_ok ht E2 h4 fun H4 E4 => hp σ H4 E4
            exact ⟨a, C, dx, fs, z1, z2, z3, z4, z5, z6⟩
          · cases hg
end
section
variable {K : KC} {X : Cx} {T : KT} {md : List Bool} {W : WX} {c : Cz} {σ : St} {H H' : Hp} {Γ τ τ1 : List Ent} {us us1 vs vs' : List V} {v w : V} {p q : List Nat} {t : Tr} {ts ts' : List Tr} {k k' : Nk} {i j n : Nat} {a : Addr} {en en' : Ent} {o : Ow}
variable {st : Stmt} {rest sts sts' body : List Stmt} {g g' gb : GS} {ge gf gt gi go gv ga gs f : GE} {e b oe ie tg iter : Expr} {es : List Expr} {pos pos' : Pos}
/-! methods of lists -/
def chkL : GE := fun m => match m.s with
  | e :: _ => match viewE m.g e with
    | some (.nd .lst _ _) => some (.ok m)
    | _ => none
  | _ => none
def RM (K : KC) (md : List Bool) (W : WX) (n : Nat) (r : V → List V → Hp → VK → Prop) (f : GE) : Prop := ∀ (c : Cz) (σ : St) (H : Hp) (m : Ms) (us vs : List V) (x : V) (Q : VK) (rr : Rs), c.md = md → vs.length = n → EnvOk K c σ H m.g m.s (vs.reverse ++ x :: us) → f m = some rr → PostE K c W σ us Q rr → r x vs H Q
theorem chkL_ok {m : Ms} {x : V} {rr : Rs} (E : EnvOk K c σ H m.g m.s (x :: us)) (h : chkL m = some rr) : rr = .ok m ∧ tyV K.K "list" x H := by
  unfold chkL at h
  split at h
  · rename_i e s hs
    split at h
    · rename_i o ts hv
      cases h
      rw [hs] at E
      obtain ⟨Z, ws, Φ, Ψ, EE⟩ := E
      obtain ⟨Θ, a, vs, Ξ, rfl, ho, _⟩ := EE.view (n := 0) rfl rfl hv
      exact ⟨rfl, .inl ⟨rfl, vs, objL ho⟩⟩
    · cases h
  · cases h
theorem me_bm {r : V → List V → Hp → VK → Prop} {nmm : Str} {apos : Pos} (ho : ME X T md W oe go) (ha : MA X T md W es ga) (hf : RM (kcm X.K T) md W es.length r f) (h : ∀ {to : TE} {t : TA}, PE X oe to → PA X es t → PE X (.Call (.Attribute oe nmm apos) es [] pos) (tBM X.K "list" r to t)) : ME X T md W (.Call (.Attribute oe nmm apos) es [] pos) (gSeq go (gSeq chkL (gSeq ga f))) := by
  obtain ⟨to, po, so⟩ := ho
  obtain ⟨t, pa, sa⟩ := ha
  refine ⟨_, h po pa, fun c σ H m us Q rr hc E hg hp => ?_⟩
  simp only [gSeq] at hg
  split at hg
  · rename_i m1 h1
    refine so c σ H m us _ _ hc E h1 fun x H1 E1 => ?_
    split at hg
    · rename_i m2 h2
      obtain ⟨e2, ty⟩ := chkL_ok E1 h2
      cases e2
      refine ⟨ty, ?_⟩
      split at hg
      · rename_i m3 h3
        exact sa c σ H1 m1 _ _ _ hc E1 h3 fun vs H2 hl E2 => hf c σ H2 m3 us vs x Q rr hc hl E2 hg hp
      · rename_i h3
        refine sa c σ H1 m1 _ _ _ hc E1 hg ?_
        cases rr with
        | ex C g' => exact hp
        | ok m2 => exact absurd hg (h3 m2)
    · rename_i h2
      obtain ⟨e2, ty⟩ := chkL_ok E1 hg
      exact absurd (e2 ▸ hg) (h2 m1)
  · rename_i h1
    refine so c σ H m us _ _ hc E hg ?_
    cases rr with
    | ex C g' => exact hp
    | ok m2 => exact absurd hg (h1 m2)
def fApp : GE := fun m => match m.s with
  | .tr t :: .al p :: s => match getG m.g p with
    | some (.nd .lst .own ts) => if esc t = true ∧ ts.length < sizeLine then some (.ok ⟨kill p (setG m.g p (.nd .lst .own (ts ++ [t]))), .tr (.a .non) :: kill p s⟩) else none
    | _ => none
  | _ => none
theorem escL_app (h : escL ts = true) (he : esc t = true) : escL (ts ++ [t]) = true := by
  rw [escL_all] at h ⊢
  intro y hy
  rcases List.mem_append.mp hy with z | z
  · exact h y z
  · rw [List.mem_singleton.mp z]; exact he
theorem fApp_ok : RM K md W 1 rAppend fApp := by
  intro c σ H m us vs x Q rr hc hl E hf hp
  match vs, hl with
  | [y], _ =>
    unfold fApp at hf
    split at hf
    · rename_i t p s hs
      split at hf
      · rename_i ts hg
        split at hf
        · rename_i he
          cases hf
          rw [hs] at E
          have E1 : EnvOk K c σ H m.g (.al p :: .tr t :: s) (x :: y :: us) := EnvOk.swap2 E
          have hes := E1.escAt hg (by simp)
          obtain ⟨Z, ws, Φ, Ψ, EE⟩ := id E1
          obtain ⟨Θ, a, vs, Ξ, rfl, ho, hlr, hn⟩ := EE.view (n := 0) (e := .al p) rfl rfl hg
          have ho : H a = some (.lst vs) := ho
          have hlen := RepL.len _ hlr
          refine ⟨a, vs, y, rfl, rfl, ho, by rw [← hlen]; exact he.2, hp _ _ ?_⟩
          obtain ⟨a', e, E2⟩ := EnvOk.modP (ins := [t]) (us1 := [y]) (outs := []) (vouts := []) (k' := .lst) (ts' := ts ++ [t]) (ob := .lst (vs ++ [y])) (τ := s) (us := us) E1 rfl hg (by simp) (by simp) (fun a2 vs2 e2 ho2 l2 => by
            cases e2
            have ho2 : H a = some (.lst vs2) := ho2
            rw [ho] at ho2
            cases ho2
            exact ⟨vs ++ [y], by simpa using l2, upd_same, fun Z Ψa Ψb r1 r2 d => ⟨_, by simpa using RepL.append _ r1 r2 d, fun b q => q⟩⟩) rfl (escL_app hes he.1)
          cases e
          exact EnvOk.atom (by simpa using E2) .non
        · cases hf
      · cases hf
    · cases hf
def fPopA : GE := fun m => match m.s with
  | .tr (.a (.int x)) :: .al p :: s => match getG m.g p with
    | some (.nd .lst .own ts) => if -(2 ^ 63) ≤ x ∧ x < 2 ^ 63 then match seqIndex? x ts.length with
        | some j => match ts[j]? with
          | some t => some (.ok ⟨kill p (setG m.g p (.nd .lst .own (ts.eraseIdx j))), .tr t :: kill p s⟩)
          | none => none
        | none => none
      else none
    | _ => none
  | _ => none
theorem escL_erase (h : escL ts = true) : escL (ts.eraseIdx j) = true := by
  rw [escL_all] at h ⊢
  exact fun y hy => h y (List.mem_of_mem_eraseIdx hy)
theorem popStep {ad : Addr} {E1 : EnvOk K c σ H Γ (.al p :: τ) (.ref ad :: us)} (hg : getG Γ p = some (.nd .lst .own ts)) (ho : H ad = some (.lst vs)) (ht : ts[j]? = some t) (hv : vs[j]? = some v) : EnvOk K c σ (upd H ad (.lst (vs.eraseIdx j))) (kill p (setG Γ p (.nd .lst .own (ts.eraseIdx j)))) (.tr t :: kill p τ) (v :: us) := by
  obtain ⟨a', e, E2⟩ := EnvOk.modP (ins := []) (us1 := []) (outs := [t]) (vouts := [v]) (k' := .lst) (ts' := ts.eraseIdx j) (ob := .lst (vs.eraseIdx j)) (τ := τ) (us := us) E1 rfl hg (by simp) (by simp) (fun a2 vs2 e2 ho2 l2 => by
    cases e2
    have ho2 : H ad = some (.lst vs2) := ho2
    rw [ho] at ho2
    cases ho2
    refine ⟨vs.eraseIdx j, by rw [List.length_eraseIdx, List.length_eraseIdx, l2], upd_same, fun Z Ψa Ψb r1 r2 d => ?_⟩
    obtain ⟨v', Φ1, Φ2, e1, r, d1, u, _, r3⟩ := RepL.at_ _ r1 ht
    rw [hv] at e1
    cases e1
    have one : RepL K Z H .own [t] [v] Φ1 := ⟨v, [], Φ1, fun _ => False, rfl, r, ⟨rfl, fun _ h => h⟩, by simp, by simp⟩
    exact ⟨_, RepL.append _ r3 one (by grind), by grind⟩) rfl (escL_erase (E1.escAt hg (by simp)))
  cases e
  simpa using E2
theorem fPopA_ok : RM K md W 1 rPopAt fPopA := by
  intro c σ H m us vs x Q rr hc hl E hf hp
  match vs, hl with
  | [y], _ =>
    unfold fPopA at hf
    split at hf
    · rename_i xi p s hs
      split at hf
      · rename_i ts hg
        split at hf
        · rename_i hb
          split at hf
          · rename_i j hj
            split at hf
            · rename_i t ht
              cases hf
              rw [hs] at E
              have ey := top_a E
              subst ey
              have E1 := E.drop
              obtain ⟨Z, ws, Φ, Ψ, EE⟩ := id E1
              obtain ⟨Θ, a, vs, Ξ, rfl, ho, hlr, hn⟩ := EE.view (n := 0) (e := .al p) rfl rfl hg
              have ho : H a = some (.lst vs) := ho
              have hlen := RepL.len _ hlr
              have hjv : j < vs.length := by rw [← hlen]; exact getq_lt' ht
              exact ⟨a, vs, xi, j, vs[j], rfl, rfl, ho, hb.1, hb.2, by rw [← hlen]; exact hj, List.getElem?_eq_getElem hjv, hp _ _ (popStep (E1 := E1) hg ho ht (List.getElem?_eq_getElem hjv))⟩
            · cases hf
          · cases hf
        · cases hf
      · cases hf
    · cases hf
def fPop : GE := fun m => match m.s with
  | .al p :: s => match getG m.g p with
    | some (.nd .lst .own ts) => match ts[ts.length - 1]? with
      | some t => some (.ok ⟨kill p (setG m.g p (.nd .lst .own (ts.eraseIdx (ts.length - 1)))), .tr t :: kill p s⟩)
      | none => none
    | _ => none
  | _ => none
/-! x op= e -/
def sAug (md : List Bool) (i : Nat) (ge f : GE) : GS := sSet md i (gSeq (gSeq (gVar i) ge) f)
/-! targets -/
def SG (K : KC) (md : List Bool) (t : TG) (b : Ms → Option Ms) : Prop := ∀ (c : Cz) (σ : St) (H : Hp) (m m' : Ms) (us : List V) (x : V) (Q : St → Hp → Prop), c.md = md → EnvOk K c σ H m.g m.s (x :: us) → b m = some m' → (∀ σ' H', EnvOk K c σ' H' m'.g m'.s us → Q σ' H') → t x σ H Q
def MG (X : Cx) (T : KT) (md : List Bool) (tg : Expr) (b : Ms → Option Ms) : Prop := ∃ t, PG X tg t ∧ SG (kcm X.K T) md t b
theorem sg_name : SG K md (gName i) (bind md i) := fun c σ H m m' us x Q hc E h hq => hq _ _ (bind_ok hc E h)
theorem mg_name {x : Str} (hN : X.N.Nodup) (hi : X.N[i]? = some x) (hx : Loc X.env.scope x) (hf : X.fn x = true ∨ X.env.scope.names.lookup x = some .local := by first | exact .inl rfl | exact .inr rfl | assumption) : MG X T md (.Name x pos) (bind md i) := ⟨_, pg_name hN hi hx hf, sg_name⟩
end
section
variable {K : KC} {X : Cx} {T : KT} {md : List Bool} {W : WX} {c : Cz} {σ : St} {H H' : Hp} {Γ τ τ1 : List Ent} {us us1 vs vs' : List V} {v w : V} {p q : List Nat} {t : Tr} {ts ts' : List Tr} {k k' : Nk} {i j n : Nat} {a : Addr} {en en' : Ent} {o : Ow}
variable {st : Stmt} {rest sts sts' body : List Stmt} {g g' gb : GS} {ge gf gt gi go gv ga gs f : GE} {e b oe ie tg iter : Expr} {es : List Expr} {pos pos' : Pos} {bd : Ms → Option Ms}
/-- the j-th item beside the thing itself -/
def kidX (e : Ent) (k : Nk) (o : Ow) (ts : List Tr) (j : Nat) : Option Ent := match ts[j]? with
  | none => none
  | some t => if cp (kid o t) = true then some (.tr (kid o t)) else match e, k with
    | .al _, .tup => none
    | .al p, _ => if o = .own then some (.al (p ++ [j])) else none
    | _, _ => none
theorem EnvOk.dup (E : EnvOk K c σ H Γ (.al p :: τ) (w :: us)) : EnvOk K c σ H Γ (.al p :: .al p :: τ) (w :: w :: us) := by
  obtain ⟨Z, ws, Φ, Ψ, EE⟩ := id E
  obtain ⟨w0, e0, raw, g⟩ := EE.to 0 p rfl
  cases e0
  refine E.pushA (fun ws2 Z2 Φ2 Ψ2 EE2 => ?_) g
  obtain ⟨w1, e1, raw1, _⟩ := EE2.to 0 p rfl
  cases e1
  exact raw1
theorem EnvOk.dupC (E : EnvOk K c σ H Γ (.tr t :: τ) (w :: us)) (hc : cp t = true) : EnvOk K c σ H Γ (.tr t :: .tr t :: τ) (w :: w :: us) := by
  obtain ⟨Z, ws, Φ, Ψ, EE⟩ := E
  refine EE.swapE (τ1 := [.tr t]) (us1 := [w]) (τ1' := [.tr t, .tr t]) (us1' := [w, w]) rfl (by simp) (fun Ψ1 r zo => ?_) rfl
  have hs := RepL.isS _ r
  obtain ⟨v0, vs0, Θ1, Θ2, e1, a1, a2, ad, au⟩ := id r
  cases e1
  have n0 := Rep.cp0 _ a1 hc
  have n2 : ∀ b, ¬ Θ2 b := a2.2
  exact ⟨Z, Θ1, ⟨w, [w], Θ1, Θ1, rfl, a1, ⟨w, [], Θ1, Θ2, rfl, a1, a2, by grind, by grind⟩, by grind, by grind⟩, .same _ _ _ EE.zs hs _ fun b q => absurd q (n0 b)⟩
theorem EnvOk.kidX (E : EnvOk K c σ H Γ (en :: τ) (w :: us)) (hc : ∀ t, en = .tr t → cp t = true) (hv : viewE Γ en = some (.nd k o ts)) (hk : kidX en k o ts j = some en') :
    ∃ a vs w', w = .ref a ∧ ObjAt K k o H a vs ∧ ts.length = vs.length ∧ vs[j]? = some w' ∧ EnvOk K c σ H Γ (en' :: en :: τ) (w' :: w :: us) := by
  have hE : kidE en k o ts j = some en' := by
    unfold Mine.kidX at hk
    unfold kidE
    split at hk
    · cases hk
    · rename_i t ht
      try simp only [ht]
      split at hk
      · rename_i hcp
        rw [if_pos hcp]
        exact hk
      · rename_i hcp
        rw [if_neg hcp]
        split at hk
        · cases hk
        · rename_i p hne
          split at hk
          · rename_i ho
            cases hk
            cases k <;> simp_all
          · cases hk
        · cases hk
  have E2 : EnvOk K c σ H Γ (en :: en :: τ) (w :: w :: us) := by
    cases en with
    | no => simp [viewE] at hv
    | tr t => exact E.dupC (hc t rfl)
    | al p => exact E.dup
  exact E2.kidOf hv hE
def cpE : Ent → Bool
  | .tr t => cp t
  | _ => true
/-- for over the thing on top, which stays there -/
def loopE (k : Nk) (bd : Ms → Option Ms) (body : GS) : Nat → Nat → Ms → Option Os
  | 0, i, m => match m.s with
    | e :: s => match viewE m.g e with
      | some (.nd k' _ ts) => if k' = k ∧ ts.length = i then some (.nx ⟨m.g, s⟩) else none
      | _ => none
    | _ => none
  | r + 1, i, m => match m.s with
    | e :: s => match viewE m.g e with
      | some (.nd k' o ts) => if k' = k ∧ cpE e = true ∧ ts.length = i + (r + 1) then match kidX e k o ts i with
          | some e' => match bd ⟨m.g, e' :: e :: s⟩ with
            | some m1 => match body m1 with
              | some (.nx m2) => loopE k bd body r (i + 1) m2
              | some (.ct m2) => loopE k bd body r (i + 1) m2
              | some (.bk m2) => some (.nx ⟨m2.g, m2.s.tail⟩)
              | some (.rt t m2) => some (.rt t ⟨m2.g, m2.s.tail⟩)
              | some (.ex C g) => some (.ex C g)
              | none => none
            | none => none
          | none => none
        else none
      | _ => none
    | _ => none
/-- what a for walks: made ready, with its length -/
def ready : Ms → Option (Ms × Nk × Nat) := fun m => match m.s with
  | .tr (.nd k o ts) :: s => if k = .lst ∨ k = .tup then some (⟨m.g, .tr (kid .lnt (.nd k o ts)) :: s⟩, k, ts.length) else none
  | .al p :: s => match getG m.g p with
    | some (.nd .lst .own ts) => some (⟨m.g, .al p :: s⟩, .lst, ts.length)
    | _ => none
  | _ => none
def sFor (gs : GE) (bd : Ms → Option Ms) (body : GS) : GS := fun m => match gs m with
  | some (.ok m1) => match ready m1 with
    | some (m2, k, n) => loopE k bd body n 0 m2
    | none => none
  | some (.ex C g) => some (.ex C g)
  | none => none
theorem tail_len {s : List Ent} (E : EnvOk K c σ H Γ s us) : s.length = us.length := by
  obtain ⟨Z, ws, Φ, Ψ, EE⟩ := E
  have := RepL.len _ EE.tm
  simpa [trees] using this
theorem EnvOk.tail {s : List Ent} {x : V} (E : EnvOk K c σ H Γ s (x :: us)) : EnvOk K c σ H Γ s.tail us := by
  have := tail_len E
  match s, this with
  | e :: s, _ => exact E.drop
theorem EnvOk.tail2 {s : List Ent} {x y : V} (E : EnvOk K c σ H Γ (.tr t :: s) (y :: x :: us)) : EnvOk K c σ H Γ (.tr t :: s.tail) (y :: us) := by
  have := tail_len E
  match s, this with
  | e :: s, _ => exact (EnvOk.swap2 E).drop
/-- the abstract loop: J walks, the items come as the machine has them -/
theorem loop_ok {J : It} {tb : L2.TS} {gT : TG} {D : Ends} {w : V} {oo : Os} (hm : c.md = md) (hT : SG K md gT bd) (hB : SS K md W tb gb)
    (stop : ∀ i H Γ τ σ us e ts o, EnvOk K c σ H Γ (e :: τ) (w :: us) → viewE Γ e = some (.nd k o ts) → ts.length = i → J.stop i H)
    (step : ∀ i H Γ τ σ us e ts o e', EnvOk K c σ H Γ (e :: τ) (w :: us) → cpE e = true → viewE Γ e = some (.nd k o ts) → kidX e k o ts i = some e' → i < ts.length → J.go i H ∧ ∀ x H', J.yld i H x H' → H' = H ∧ EnvOk K c σ H Γ (e' :: e :: τ) (x :: w :: us))
    (hp : PostS K c W us D oo) : ∀ {σ : St} {H : Hp} {m : Ms} {n : Nat}, EnvOk K c σ H m.g m.s (w :: us) → loopE k bd gb n 0 m = some oo →
    ∃ Wv : Nat → Nat → St → Hp → Prop, (∃ mm, Wv 0 mm σ H) ∧ ∀ i mm σ H, Wv i mm σ H →
      (J.stop i H ∧ D.nx σ H) ∨ (J.go i H ∧ ∃ N : St → Hp → Prop, (∀ σ' H', N σ' H' → ∃ m', m' < mm ∧ Wv (i + 1) m' σ' H') ∧ ∀ x H', J.yld i H x H' → gT x σ H' fun σ2 H2 => tb { D with nx := N, ct := N, bk := D.nx } σ2 H2) := by
  intro σ H m n E hg
  refine ⟨fun i r σ H => ∃ m : Ms, EnvOk K c σ H m.g m.s (w :: us) ∧ loopE k bd gb r i m = some oo, ⟨n, m, E, hg⟩, ?_⟩
  rintro i r σ H ⟨m, E, hg⟩
  cases r with
  | zero =>
    simp only [loopE] at hg
    split at hg
    · rename_i e s hs
      split at hg
      · rename_i k' o ts hv
        split at hg
        · rename_i hl
          cases hg
          rw [hs] at E
          obtain ⟨rfl, hl⟩ := hl
          exact .inl ⟨stop i H m.g s σ us e ts o E hv hl, hp σ H E.drop⟩
        · cases hg
      · cases hg
    · cases hg
  | succ r =>
    simp only [loopE] at hg
    split at hg
    · rename_i e s hs
      split at hg
      · rename_i k' o ts hv
        split at hg
        · rename_i hl
          obtain ⟨rfl, hl⟩ := hl
          split at hg
          · rename_i e' hk
            split at hg
            · rename_i m1 h1
              rw [hs] at E
              obtain ⟨go, yld⟩ := step i H m.g s σ us e ts o e' E hl.1 hv hk (by have := hl.2; omega)
              refine .inr ⟨go, fun σ' H' => ∃ m : Ms, EnvOk K c σ' H' m.g m.s (w :: us) ∧ loopE k' bd gb r (i + 1) m = some oo, fun σ' H' z => ⟨r, by omega, z⟩, fun x H' y => ?_⟩
              obtain ⟨rfl, E1⟩ := yld x H' y
              refine hT c σ H' ⟨m.g, e' :: e :: s⟩ m1 _ x _ hm E1 h1 fun σ2 H2 E2 => ?_
              cases h2 : gb m1 with
              | none => simp [h2] at hg
              | some o2 =>
                refine hB c σ2 H2 m1 _ _ o2 hm E2 h2 ?_
                cases o2 with
                | nx m2 =>
                  simp only [h2] at hg
                  exact fun σ3 H3 E3 => ⟨m2, E3, hg⟩
                | ct m2 =>
                  simp only [h2] at hg
                  exact fun σ3 H3 E3 => ⟨m2, E3, hg⟩
                | bk m2 =>
                  simp only [h2] at hg
                  cases hg
                  exact fun σ3 H3 E3 => hp σ3 H3 E3.tail
                | rt t m2 =>
                  simp only [h2] at hg
                  cases hg
                  exact fun σ3 x3 H3 E3 => hp σ3 x3 H3 E3.tail2
                | ex C g' =>
                  simp only [h2] at hg
                  cases hg
                  exact hp
            · cases hg
          · cases hg
        · cases hg
      · cases hg
    · cases hg
theorem PI.or {tg iter : Expr} {w1 w2 : TI} (h1 : PI X tg iter w1) (h2 : PI X tg iter w2) : PI X tg iter (fun σ H R => w1 σ H R ∨ w2 σ H R) := by
  refine ⟨fun pins s σ H R I h => ?_⟩
  rcases h with h | h
  · exact h1.run pins s σ H R I h
  · exact h2.run pins s σ H R I h
theorem ready_ok {m m' : Ms} {k : Nk} {x : V} (E : EnvOk K c σ H m.g m.s (x :: us)) (h : ready m = some (m', k, n)) : EnvOk K c σ H m'.g m'.s (x :: us) ∧ ∃ e s o ts, m'.s = e :: s ∧ viewE m'.g e = some (.nd k o ts) ∧ (k = .lst ∨ k = .tup) := by
  unfold ready at h
  split at h
  · rename_i k2 o ts s hs
    split at h
    · rename_i hk
      cases h
      rw [hs] at E
      rcases hk with rfl | rfl
      · exact ⟨E.lend, _, _, _, _, rfl, rfl, .inl rfl⟩
      · exact ⟨E.lend, _, _, _, _, rfl, rfl, .inr rfl⟩
    · cases h
  · rename_i p s hs
    split at h
    · rename_i ts hg
      cases h
      rw [hs] at E
      exact ⟨E, _, _, _, _, rfl, hg, .inl rfl⟩
    · cases h
  · cases h
theorem viewObj (E : EnvOk K c σ H Γ (en :: τ) (w :: us)) (hv : viewE Γ en = some (.nd k o ts)) : ∃ a vs, w = .ref a ∧ ObjAt K k o H a vs ∧ ts.length = vs.length := by
  obtain ⟨Z, ws, Φ, Ψ, EE⟩ := E
  obtain ⟨Θ, a, vs, Ξ, rfl, ho, hl, _⟩ := EE.view (n := 0) rfl rfl hv
  exact ⟨a, vs, rfl, ho, RepL.len _ hl⟩
theorem cpE_tr (h : cpE en = true) : ∀ t, en = .tr t → cp t = true := fun t e => by subst e; exact h
theorem ms_for (hs : ME X T md W iter gs) (hT : MG X T md tg bd) (hB : MSs X T md W body gb) (hp : PassesOwn (model X.prog X.w) X.A X.env X.xe) (hc : X.calm = true)
    (hf : ∀ x, foldedSetIterable iter X.env x = pure x := by intro _; rfl) : MS X T md W (.For tg iter body [] pos) (sFor gs bd gb) := by
  obtain ⟨ti, pi, si⟩ := hs
  obtain ⟨tt, pt, st⟩ := hT
  obtain ⟨tb, pb, sb⟩ := hB
  refine ⟨_, ps_for hp hc (PI.or (pi_list pi) (pi_tup pi)) pt pb hf, fun c σ H m us D oo hm E hg hpo => ?_⟩
  simp only [sFor] at hg
  split at hg
  · rename_i m1 h1
    split at hg
    · rename_i m2 k n h2
      -- the kind is known ahead
      have hk : k = .lst ∨ k = .tup := by
        unfold ready at h2
        split at h2
        · split at h2
          · rename_i hk
            cases h2
            exact hk
          · cases h2
        · split at h2
          · cases h2
            exact .inl rfl
          · cases h2
        · cases h2
      rcases hk with rfl | rfl
      · refine .inl (si c σ H m us _ _ hm E h1 fun x H1 E1 => ?_)
        obtain ⟨E2, e, s, o, ts, hs2, hv, _⟩ := ready_ok E1 h2
        obtain ⟨a, vs, rfl, ho, _⟩ := viewObj (hs2 ▸ E2) hv
        refine ⟨a, rfl, ⟨vs, objL ho⟩, ?_⟩
        refine loop_ok hm st sb (fun i H Γ τ σ us e ts o E hv hl => ?_) (fun i H Γ τ σ us e ts o e' E hcp hv hk hi => ?_) hpo E2 hg
        · obtain ⟨a', vs', e, ho, hl2⟩ := viewObj E hv
          cases e
          exact ⟨vs', objL ho, by omega⟩
        · obtain ⟨a', vs', w', e, ho, hl2, hw, E3⟩ := EnvOk.kidX E (cpE_tr hcp) hv hk
          cases e
          refine ⟨⟨vs', w', objL ho, hw⟩, fun x H' y => ?_⟩
          obtain ⟨rfl, y⟩ := y
          have := y vs' (objL ho)
          rw [hw] at this
          cases this
          exact ⟨rfl, E3⟩
      · refine .inr (si c σ H m us _ _ hm E h1 fun x H1 E1 => ?_)
        obtain ⟨E2, e, s, o, ts, hs2, hv, _⟩ := ready_ok E1 h2
        obtain ⟨a, vs, rfl, ho, _⟩ := viewObj (hs2 ▸ E2) hv
        refine ⟨a, rfl, ⟨vs, objT ho⟩, ?_⟩
        refine loop_ok hm st sb (fun i H Γ τ σ us e ts o E hv hl => ?_) (fun i H Γ τ σ us e ts o e' E hcp hv hk hi => ?_) hpo E2 hg
        · obtain ⟨a', vs', e, ho, hl2⟩ := viewObj E hv
          cases e
          exact ⟨vs', objT ho, by omega⟩
        · obtain ⟨a', vs', w', e, ho, hl2, hw, E3⟩ := EnvOk.kidX E (cpE_tr hcp) hv hk
          cases e
          refine ⟨⟨vs', w', objT ho, hw⟩, fun x H' y => ?_⟩
          obtain ⟨rfl, y⟩ := y
          have := y vs' (objT ho)
          rw [hw] at this
          cases this
          exact ⟨rfl, E3⟩
    · cases hg
  · rename_i h1
    cases hg
    exact .inl (si c σ H m us _ _ hm E h1 fun H1 E1 => hpo σ H1 E1)
  · cases hg
/-! for over a range: no object is on the stack -/
def loopR (bd : Ms → Option Ms) (body : GS) (lo : Int) : Nat → Nat → Ms → Option Os
  | 0, _, m => some (.nx m)
  | r + 1, i, m => match bd ⟨m.g, .tr (.a (.int (lo + i))) :: m.s⟩ with
    | some m1 => match body m1 with
      | some (.nx m2) => loopR bd body lo r (i + 1) m2
      | some (.ct m2) => loopR bd body lo r (i + 1) m2
      | some (.bk m2) => some (.nx m2)
      | some (.rt t m2) => some (.rt t m2)
      | some (.ex C g) => some (.ex C g)
      | none => none
    | none => none
theorem loopR_ok {lo : Int} {tb : L2.TS} {gT : TG} {D : Ends} {oo : Os} (hm : c.md = md) (hT : SG K md gT bd) (hB : SS K md W tb gb) (hp : PostS K c W us D oo) {m : Ms} (E : EnvOk K c σ H m.g m.s us) (hg : loopR bd gb lo n 0 m = some oo) :
    ∃ Wv : Nat → Nat → St → Hp → Prop, (∃ mm, Wv 0 mm σ H) ∧ ∀ i mm σ H, Wv i mm σ H →
      ((Itr lo n).stop i H ∧ D.nx σ H) ∨ ((Itr lo n).go i H ∧ ∃ N : St → Hp → Prop, (∀ σ' H', N σ' H' → ∃ m', m' < mm ∧ Wv (i + 1) m' σ' H') ∧ ∀ x H', (Itr lo n).yld i H x H' → gT x σ H' fun σ2 H2 => tb { D with nx := N, ct := N, bk := D.nx } σ2 H2) := by
  refine ⟨fun i r σ H => i + r = n ∧ ∃ m : Ms, EnvOk K c σ H m.g m.s us ∧ loopR bd gb lo r i m = some oo, ⟨n, by omega, m, E, hg⟩, ?_⟩
  rintro i r σ H ⟨hir, m, E, hg⟩
  cases r with
  | zero =>
    simp only [loopR] at hg
    cases hg
    exact .inl ⟨by show n ≤ i; omega, hp σ H E⟩
  | succ r =>
    simp only [loopR] at hg
    split at hg
    · rename_i m1 h1
      refine .inr ⟨by show i < n; omega, fun σ' H' => i + 1 + r = n ∧ ∃ m : Ms, EnvOk K c σ' H' m.g m.s us ∧ loopR bd gb lo r (i + 1) m = some oo, fun σ' H' z => ⟨r, by omega, z⟩, fun x H' y => ?_⟩
      obtain ⟨rfl, rfl⟩ := y
      refine hT c σ H' ⟨m.g, _ :: m.s⟩ m1 _ _ _ hm (E.atom _) h1 fun σ2 H2 E2 => ?_
      cases h2 : gb m1 with
      | none => simp [h2] at hg
      | some o2 =>
        refine hB c σ2 H2 m1 _ _ o2 hm E2 h2 ?_
        cases o2 with
        | nx m2 =>
          simp only [h2] at hg
          exact fun σ3 H3 E3 => ⟨by omega, m2, E3, hg⟩
        | ct m2 =>
          simp only [h2] at hg
          exact fun σ3 H3 E3 => ⟨by omega, m2, E3, hg⟩
        | bk m2 =>
          simp only [h2] at hg
          cases hg
          exact hp
        | rt t m2 =>
          simp only [h2] at hg
          cases hg
          exact hp
        | ex C g' =>
          simp only [h2] at hg
          cases hg
          exact hp
    · cases hg
def sForR1 (ga : GE) (bd : Ms → Option Ms) (body : GS) : GS := fun m => match ga m with
  | some (.ok ⟨g', .tr (.a (.int j)) :: s⟩) => if -(2 ^ 62) ≤ j ∧ j < 2 ^ 62 then loopR bd body 0 j.toNat 0 ⟨g', s⟩ else none
  | some (.ex C g) => some (.ex C g)
  | _ => none
theorem ms_forR1 {rp : Pos} (ha : MA X T md W [e] ga) (hT : MG X T md tg bd) (hB : MSs X T md W body gb) (hgl : Gl X "range") (hmg : X.mg "range" = none) (hp : PassesOwn (model X.prog X.w) X.A X.env X.xe) (hc : X.calm = true)
    (hs : starEach [e] X.env = [(false, eval e X.env)] := by rfl) (hf : ∀ x, foldedSetIterable (.Call (.Name "range" rp) [e] [] pos') X.env x = pure x := by intro _; rfl) : MS X T md W (.For tg (.Call (.Name "range" rp) [e] [] pos') body [] pos) (sForR1 ga bd gb) := by
  obtain ⟨ta, pa, sa⟩ := ha
  obtain ⟨tt, pt, st⟩ := hT
  obtain ⟨tb, pb, sb⟩ := hB
  refine ⟨_, ps_for hp hc (pi_range1 hgl hmg pa hs) pt pb hf, fun c σ H m us D oo hm E hg hpo => ?_⟩
  simp only [sForR1] at hg
  split at hg
  · rename_i g' j s h1
    split at hg
    · rename_i hb
      refine sa c σ H m us _ _ hm E h1 fun vs H1 hl E1 => ?_
      match vs, hl with
      | [x], _ =>
        have E1 : EnvOk (kcm X.K T) c σ H1 g' (.tr (.a (.int j)) :: s) (x :: us) := E1
        cases top_a E1
        exact ⟨j, rfl, hb.1, hb.2, loopR_ok hm st sb hpo (m := ⟨g', s⟩) E1.drop hg⟩
    · cases hg
  · rename_i h1
    cases hg
    exact sa c σ H m us _ _ hm E h1 fun H1 E1 => hpo σ H1 E1
  · cases hg
end
/-! errors whose context is None (they are raised where nothing is handled): the names of ExcCtx in place of Exc's -/
section
variable {X : Cx} {W : WX} {E : XK}
abbrev Takes (X : Cx) (W : WX) : Prop := L2N.Takes X W
abbrev PMk := L2N.PMk
theorem passAt (tk : Takes X W) (σ : L2.St) : PassesAt (L2N.CX X.prog X.w) X σ (WE W σ) := L2N.passAt tk σ
theorem takes0 : Takes X (fun _ _ _ _ => False) := by
  rintro u s ⟨_, _, _, _, _, _, _, _, _, _, _, _, _, _, _, _, z⟩
  exact z.elim
theorem takes_of (hs : X.stack = X.env :: X.outer) (hf : X.env.frame = some X.env.locals) (hex : X.ex = []) {E₁ : Value → Shared → Prop} (hx : X.xe = fun e s' => wpAny (model X.prog X.w) X.A (leaving X.env e) (fun _ s'' => L2N.CX X.prog X.w X.outer X.H_0 X.s_0 E e s'') E₁ s') :
    Takes X (fun cls d _ H => E cls d H) := L2N.takes_of hs hf hex hx
theorem pmk_own {x m : Str} {j : Nat} {p p2 pos : Pos} {C : Addr} {bmB : List Value} {B newId initId : String} (F : ExcBaseFacts B newId initId bmB) (q : PySem.W.excIn X.K C bmB newId = true) (gC : X.mg x = some (.ref C)) (kC : PySem.W.keepIn X.K (.ref C) = true) (r : Raises X (.ref C)) (hg : Gl X x)
    (notDb : (x == ("__debug__" : Str)) = false := by decide) : PMk X (.Call (.Name x p) [.Constant (.str m) j p2] [] pos) (fun _ H Q => Q (.ref C) none H) := L2N.pmk_own F q gC kC r hg notDb
end
section
variable {K : KC} {X : Cx} {T : KT} {md mdc : List Bool} {W : WX} {c : Cz} {σ : St} {H H' : Hp} {Γ τ τ1 : List Ent} {us us1 vs vs' : List V} {v w : V} {p q : List Nat} {t : Tr} {ts ts' : List Tr} {k k' : Nk} {i j n d : Nat} {a : Addr} {en en' : Ent} {o : Ow}
/-! a def's promise by a function on trees -/
inductive Rt | rt (r : Tr) (ts : List Tr) | ex (C : Nat) (ts : List Tr)
abbrev GF := List Tr → Option Rt
structure Cl (H H' : Hp) (F S S' F1 : Ps) : Prop where
  ob : ∀ b ob, H b = some ob → ¬ F b → H' b = some ob
  oc : ∀ b, F b → (H' b).isSome = true
  nw : ∀ b, F1 b → (F b ∨ H b = none) ∧ ¬ S' b
  s0 : ∀ b, S b → S' b
  s1 : ∀ b, S' b → S b ∨ F b ∨ H b = none
  ss : ∀ b, S' b → (H' b).isSome = true
/-- the parameters behind an error, ahead of them the error's own dict -/
def RepX (K : KC) (C : Nat) (S : Ps) (H : HX) (ts : List Tr) (vs : List V) (F : Ps) : Prop := match K.ef C with
  | none => H.2 = none ∧ RepL K ⟨S, fun _ => False⟩ H.1 .own ts vs F
  | some (f, x) => ∃ d, H.2 = some d ∧ RepL K ⟨S, fun _ => False⟩ H.1 .own (xdT d f x :: ts) (.ref d :: vs) F
def PostF (K : KC) (vs : List V) (H : Hp) (F S : Ps) (Q : VK) (E : XK) : Rt → Prop
  | .rt r ts' => ∀ v H' S' F1, RepL K ⟨S', fun _ => False⟩ H' .own (r :: ts') (v :: vs) F1 → Cl H H' F S S' F1 → Q v H'
  | .ex C ts' => ∀ (H' : HX) S' F1, RepX K C S' H' ts' vs F1 → Cl H H'.1 F S S' F1 → E (.ref (K.et C)) H'.2 H'.1
/-- only what is a parameter of its own comes back -/
def outP : List Bool → List Ent → List Tr
  | [], _ => []
  | true :: bs, e :: es => e.tree :: outP bs es
  | false :: bs, _ :: es => .any :: outP bs es
  | _ :: bs, [] => .any :: outP bs []
def mdOk : List Bool → List Tr → Bool
  | [], [] => true
  | b :: bs, t :: ts => (b || cp t) && mdOk bs ts
  | _, _ => false
def spOf (K : KC) (md : List Bool) (G : GF) : Sp := fun vs H Q E => ∃ (ts : List Tr) (Z : Zn) (F : Ps) (o : Rt), RepL K Z H .own ts vs F ∧ mdOk md ts = true ∧ (∀ b, F b → ¬ Z.fz b ∧ ¬ Z.ln b) ∧ (∀ b, Z.fz b ∨ Z.ln b → (H b).isSome = true) ∧ G ts = some o ∧ PostF K vs H F Z.fz Q E o
def runF (md : List Bool) (N : Nat) (g : GS) : GF := fun ts => match g ⟨ts.map Ent.tr ++ List.replicate (N - ts.length) .no, []⟩ with
  | some (.nx m) => if escL (outP md m.g) = true then some (.rt (.a .non) (outP md m.g)) else none
  | some (.rt t m) => if esc t = true ∧ escL (outP md m.g) = true then some (.rt t (outP md m.g)) else none
  | some (.ex C g') => if escL (outP md g') = true then some (.ex C (outP md g')) else none
  | _ => none
mutual
theorem Rep.esc0 {Z : Zn} {H : Hp} : ∀ (t : Tr) {m : Ow} {v : V} {Φ : Ps}, Rep K Z H m t v Φ → m ≠ .lnt → (m = .own → esc t = true) → Rep K ⟨Z.fz, fun _ => False⟩ H m t v Φ
  | .any, _, _, _, h, _, _ => h
  | .a _, _, _, _, h, _, _ => h
  | .nd k o ts, m, v, Φ, h, hm, he => by
    obtain ⟨a, vs, Ψ, e1, ho, hl, hn⟩ := h
    have nl : eff m o ≠ .lnt := by
      cases m with
      | lnt => exact absurd rfl hm
      | frz => simp [eff]
      | own =>
        have := he rfl
        cases k <;> cases o <;> simp_all [esc, eff]
    refine ⟨a, vs, Ψ, e1, ho, RepL.esc0 ts hl nl fun q => ?_, ?_⟩
    · cases m with
      | lnt => exact absurd rfl hm
      | frz => simp [eff] at q
      | own =>
        have := he rfl
        cases k <;> cases o <;> simp_all [esc, eff, Nod]
    · cases k <;> cases eo : eff m o <;> simp_all [Nod]
theorem RepL.esc0 {Z : Zn} {H : Hp} : ∀ (ts : List Tr) {m : Ow} {vs : List V} {Φ : Ps}, RepL K Z H m ts vs Φ → m ≠ .lnt → (m = .own → escL ts = true) → RepL K ⟨Z.fz, fun _ => False⟩ H m ts vs Φ
  | [], _, _, _, h, _, _ => h
  | t :: ts, m, vs, Φ, h, hm, he => by
    obtain ⟨v', vs', Φ1, Φ2, e1, h1, h2, d1, u⟩ := h
    exact ⟨v', vs', Φ1, Φ2, e1, Rep.esc0 t h1 hm (fun q => by have := he q; simp_all [escL]), RepL.esc0 ts h2 hm (fun q => by have := he q; simp_all [escL]), d1, u⟩
end
theorem outP_ok {Z : Zn} {H : Hp} : ∀ {md : List Bool} {Γ : List Ent} {ws vs : List V} {Φ : Ps}, RepL K Z H .own (trees Γ) ws Φ → vs.length = md.length → (∀ i : Nat, md[i]? = some true → ws[i]? = vs[i]?) → ∃ Φ', RepL K Z H .own (outP md Γ) vs Φ' ∧ ∀ b, Φ' b → Φ b
  | [], Γ, ws, vs, Φ, h, l, _ => by
    match vs, l with
    | [], _ => exact ⟨fun _ => False, ⟨rfl, fun _ h => h⟩, fun _ h => h.elim⟩
  | b :: md, [], ws, vs, Φ, h, l, e => by
    match vs, l with
    | x :: vs, l =>
      obtain ⟨Φ', r, s⟩ := outP_ok (md := md) (Γ := []) (ws := []) (vs := vs) (Φ := fun _ => False) ⟨rfl, fun _ h => h⟩ (by simpa using l) (fun i hi => by
        have := e (i + 1) (by simpa using hi)
        rw [h.1] at this
        simpa using this)
      have hb : outP (b :: md) [] = .any :: outP md [] := by cases b <;> rfl
      rw [hb]
      exact ⟨Φ', ⟨x, vs, fun _ => False, Φ', rfl, fun _ h => h, r, by simp, by simp⟩, fun b q => (s b q).elim⟩
  | b :: md, en :: Γ, ws, vs, Φ, h, l, e => by
    match vs, l with
    | x :: vs, l =>
      obtain ⟨v0, ws', Φ1, Φ2, e1, h1, h2, d, u⟩ := h
      subst e1
      obtain ⟨Φ', r, s⟩ := outP_ok (md := md) (Γ := Γ) (ws := ws') (vs := vs) h2 (by simpa using l) (fun i hi => by simpa using e (i + 1) (by simpa using hi))
      cases b with
      | false => exact ⟨Φ', ⟨x, vs, fun _ => False, Φ', rfl, fun _ h => h, r, by simp, by simp⟩, fun b q => (u b).mpr (.inr (s b q))⟩
      | true =>
        have : v0 = x := by simpa using e 0 rfl
        subst this
        exact ⟨fun b => Φ1 b ∨ Φ' b, ⟨v0, vs, Φ1, Φ', rfl, h1, r, by grind, fun _ => Iff.rfl⟩, by grind⟩
theorem mdOk_len : ∀ {md : List Bool} {ts : List Tr}, mdOk md ts = true → md.length = ts.length
  | [], [], _ => rfl
  | b :: bs, t :: ts, h => by
    simp only [mdOk, Bool.and_eq_true] at h
    simp [mdOk_len h.2]
  | [], _ :: _, h => by simp [mdOk] at h
  | _ :: _, [], h => by simp [mdOk] at h
theorem RepL.anys : ∀ (n : Nat) {Z : Zn} {H : Hp}, RepL K Z H .own (List.replicate n .any) (List.replicate n .non) (fun _ => False)
  | 0, _, _ => ⟨rfl, fun _ h => h⟩
  | n + 1, _, _ => ⟨.non, _, fun _ => False, fun _ => False, rfl, fun _ h => h, RepL.anys n, by simp, by simp⟩
theorem start_ok {N : List Str} {Z : Zn} {F : Ps} (r : RepL K Z H .own ts vs F) (hl : ts.length ≤ N.length) (hmd : md.length = ts.length) (zo : ∀ b, F b → ¬ Z.fz b ∧ ¬ Z.ln b) (zs : ∀ b, Z.fz b ∨ Z.ln b → (H b).isSome = true) :
    EnvOk K ⟨H, F, Z.fz, md, vs⟩ (start N vs) H (ts.map Ent.tr ++ List.replicate (N.length - ts.length) .no) [] [] := by
  have lt := RepL.len _ r
  have es : start N vs = vs.map some ++ List.replicate (N.length - vs.length) none := by
    first | rfl | (unfold start; rfl) | (unfold start; simp)
  refine ⟨Z, vs ++ List.replicate (N.length - ts.length) .non, F, fun _ => False, ⟨?_, ⟨rfl, fun _ h => h⟩, by simp, ?_, by simp, ?_, ?_, fun b q => .inl q, fun b q => q, zs, fun b o e => ⟨o, e, fun _ => rfl⟩, ?_⟩⟩
  · have := RepL.append _ r (RepL.anys (K := K) (Z := Z) (H := H) (N.length - ts.length)) (by simp)
    have et : trees (ts.map Ent.tr ++ List.replicate (N.length - ts.length) .no) = ts ++ List.replicate (N.length - ts.length) .any := by
      have := trees_tr (ts := ts)
      simp only [trees, List.map_append, List.map_replicate] at this ⊢
      rw [this]
      rfl
    rw [et]
    exact this.cast _ (by simp)
  · intro i e he
    by_cases hi : i < ts.length
    · rw [List.getElem?_append_left (by simpa using hi)] at he
      have : ∃ t, e = .tr t := by
        simp at he
        obtain ⟨_, _, he⟩ := he
        exact ⟨_, he.symm⟩
      obtain ⟨t, rfl⟩ := this
      have hiv : i < vs.length := by omega
      refine ⟨vs[i], by rw [List.getElem?_append_left hiv, List.getElem?_eq_getElem hiv], ?_⟩
      rw [es, List.getElem?_append_left (by simpa using hiv)]
      simp [hiv]
    · rw [List.getElem?_append_right (by simpa using hi)] at he
      have := List.mem_of_getElem? he
      simp at this
      rw [this.2]
      trivial
  · rw [es]
    simp
    omega
  · intro b q
    rcases q with q | q
    · exact ⟨.inl q, zo b q⟩
    · exact q.elim
  · intro i hi
    have h1 : i < md.length := getq_lt' hi
    rw [List.getElem?_append_left (by omega)]
theorem exit_ok {Z0 : Zn} {F : Ps} {s : List Ent} (hF : ∀ b, F b → (H b).isSome = true) (hmd : md.length = vs.length) (E : EnvOk K ⟨H, F, Z0.fz, md, vs⟩ σ H' Γ s us) (he : escL (trees s) = true) (ho : escL (outP md Γ) = true) : ∃ S' F1, RepL K ⟨S', fun _ => False⟩ H' .own (trees s ++ outP md Γ) (us ++ vs) F1 ∧ Cl H H' F Z0.fz S' F1 := by
  obtain ⟨Z, ws, Φ, Ψ, sl, tm, dj, so, to, ln, zo, zf, z0, zs, st, pv⟩ := E
  obtain ⟨Φ', r, sub⟩ := outP_ok (md := md) (vs := vs) sl hmd.symm pv
  have r1 := RepL.esc0 _ r (by simp) fun _ => ho
  have r2 := RepL.esc0 _ tm (by simp) fun _ => he
  have hs1 := RepL.isS _ sl
  have hs2 := RepL.isS _ tm
  refine ⟨Z.fz, fun b => Ψ b ∨ Φ' b, RepL.append _ r2 r1 (by grind), ⟨fun b ob e n => ?_, fun b q => ?_, fun b q => ?_, z0, fun b q => zf b q, fun b q => zs b (.inl q)⟩⟩
  · obtain ⟨o', e', h⟩ := st b ob e
    rw [e', h n]
  · obtain ⟨ob, e⟩ := Option.isSome_iff_exists.mp (hF b q)
    obtain ⟨o', e', _⟩ := st b ob e
    rw [e']; rfl
  · have h := zo b (by grind)
    exact ⟨h.1, h.2.1⟩
theorem exitX_ok {C : Nat} {Hd : HX} {Z0 : Zn} {F : Ps} (hF : ∀ b, F b → (H b).isSome = true) (hmd : md.length = vs.length) (E : EnvX K ⟨H, F, Z0.fz, md, vs⟩ C σ Hd Γ [] []) (ho : escL (outP md Γ) = true) : ∃ S' F1, RepX K C S' Hd (outP md Γ) vs F1 ∧ Cl H Hd.1 F Z0.fz S' F1 := by
  unfold EnvX at E
  unfold RepX
  cases e : K.ef C with
  | none =>
    rw [e] at E
    obtain ⟨S', F1, r1, cl⟩ := exit_ok hF hmd E.2 (by simp [escL]) ho
    exact ⟨S', F1, ⟨E.1, r1⟩, cl⟩
  | some p =>
    rw [e] at E
    obtain ⟨d, h1, E2⟩ := E
    obtain ⟨S', F1, r1, cl⟩ := exit_ok hF hmd E2 (by simp [escL, esc, Ent.tree]) ho
    exact ⟨S', F1, ⟨d, h1, r1⟩, cl⟩
variable {P : Program} {Wd : World} {Kf : PySem.W.Frag} {mg : Str → Option Value} {base : Heap}
/-- a def whose body is a term of the machine -/
theorem fn_sim {x qual : Str} {st : Stmt} {f : Addr} {fd : FuncData} {N ps : List Str} {k : Nat} {g : GS} (F : Fun Kf x qual st f fd) (S : FnScope N ps (defScope st)) (hps : ps.length = md.length) (hN : ps.length ≤ N.length)
    (body : ∀ (cdv : Value) (A : Around) (outer : List Env) (s : Shared) (H : Hp) (E : XK), Room k (A.deeper (PyProof.Rows.envOfC qual (defScope st) s.heap.objs.size f cdv)) →
      MSs (cxOf (L2N.CX P Wd) P Wd Kf mg base N qual (defScope st) f cdv A outer s H E) T md (fun cls d _ H => E cls d H) (defBody st) g) :
    FnOk P Wd Kf mg base (L2N.CX P Wd) (k + 1) f fd ps (spOf (kcm Kf T) md (runF md N.length g)) := by
  obtain ⟨oc, od, kV, doc, pm, an, cdv, ct, osl, rfl, inK, cdOk⟩ := F.ex
  refine fn_of inK cdOk S (fun vs H Q E h => ?_) (fun A outer s H vs Q E hr h => ?_)
  · obtain ⟨ts, Z, F, o, r, hm, _⟩ := h
    have h1 := RepL.len _ r
    have h2 := mdOk_len hm
    omega
  · obtain ⟨ts, Z, F, o, r, hm, zo, zs, hG, hp⟩ := h
    have h1 := RepL.len _ r
    have h2 := mdOk_len hm
    obtain ⟨t, pt, sim⟩ := body cdv A outer s H E hr
    refine ⟨t, pt, ?_⟩
    have E0 := start_ok (K := kcm Kf T) (N := N) (md := md) r (by omega) h2 zo zs
    simp only [runF] at hG
    cases hg : g ⟨ts.map Ent.tr ++ List.replicate (N.length - ts.length) .no, []⟩ with
    | none => simp [hg] at hG
    | some oo =>
      refine sim ⟨H, F, Z.fz, md, vs⟩ (start N vs) H ⟨ts.map Ent.tr ++ List.replicate (N.length - ts.length) Ent.no, []⟩ [] _ oo rfl E0 hg ?_
      cases oo with
      | nx m =>
        simp only [hg] at hG
        split at hG
        · rename_i he
          cases hG
          intro σ' H' E1
          have hnil : m.s = [] := by have := tail_len E1; simpa using this
          rw [hnil] at E1
          obtain ⟨S', F1, r1, cl⟩ := exit_ok (RepL.isS _ r) (by omega) (E1.atom .non) (by simp [escL, esc, Ent.tree]) he
          exact hp .non H' S' F1 r1 cl
        · cases hG
      | rt tt m =>
        simp only [hg] at hG
        split at hG
        · rename_i he
          cases hG
          intro σ' v H' E1
          have hnil : m.s = [] := by have := tail_len E1; simpa using this
          rw [hnil] at E1
          obtain ⟨S', F1, r1, cl⟩ := exit_ok (RepL.isS _ r) (by omega) E1 (by simp [escL, Ent.tree, he.1]) he.2
          exact hp v H' S' F1 r1 cl
        · cases hG
      | ex C g' =>
        simp only [hg] at hG
        split at hG
        · rename_i he
          cases hG
          intro σ' H' E1
          obtain ⟨S', F1, r1, cl⟩ := exitX_ok (RepL.isS _ r) (by omega) E1 he
          exact hp H' S' F1 r1 cl
        · cases hG
      | bk m => simp [hg] at hG
      | ct m => simp [hg] at hG
end
section
variable {K : KC} {X : Cx} {T : KT} {md mdc : List Bool} {W : WX} {c : Cz} {σ : St} {H H' : Hp} {Γ τ τ1 A B P : List Ent} {us us1 vs vs' va vb vp : List V} {v w : V} {p q : List Nat} {t : Tr} {ts ts' : List Tr} {k k' : Nk} {i j n d : Nat} {a : Addr} {en en' : Ent} {o : Ow} {Z : Zn} {ws : List V} {Φ Ψ : Ps} {G : GF}
def argT (Γ : List Ent) : List Bool → List Ent → Option (List Tr)
  | [], [] => some []
  | true :: bs, .tr t :: es => match argT Γ bs es with
    | some ts => some (t :: ts)
    | none => none
  | false :: bs, e :: es => match viewE Γ e with
    | some t => if cp (kid .lnt t) = true then match argT Γ bs es with
        | some ts => some (kid .lnt t :: ts)
        | none => none
      else none
    | none => none
  | _, _ => none
theorem argT_ok : ∀ {mdc : List Bool} {ents : List Ent} {vs : List V} {Ψa : Ps} {ts : List Tr}, RepL K Z H .own (trees ents) vs Ψa → (∀ (i : Nat) (p : List Nat) (v : V) (t : Tr), ents[i]? = some (.al p) → vs[i]? = some v → getG Γ p = some t → ∃ Θ, Rep K Z H .own t v Θ ∧ ∀ b, Θ b → Φ b) →
    argT Γ mdc ents = some ts → mdOk mdc ts = true ∧ ∃ F R : Ps, (∀ b, Ψa b ↔ F b ∨ R b) ∧ (∀ b, ¬ (F b ∧ R b)) ∧ ∀ Zc : Zn, (∀ b, Z.fz b → Zc.fz b) → (∀ b, Z.ln b ∨ R b ∨ Φ b → Zc.ln b) → RepL K Zc H .own ts vs F
  | [], [], vs, Ψa, ts, r, _, h => by
    simp only [argT] at h
    cases h
    exact ⟨rfl, fun _ => False, fun _ => False, fun b => ⟨fun q => (r.2 b q).elim, fun q => by simp at q⟩, by simp, fun Zc _ _ => ⟨r.1, fun _ h => h⟩⟩
  | [], _ :: _, _, _, _, _, _, h => by simp [argT] at h
  | true :: bs, [], _, _, _, _, _, h => by simp [argT] at h
  | false :: bs, [], _, _, _, _, _, h => by simp [argT] at h
  | true :: bs, e :: es, vs, Ψa, ts, r, hv, h => by
    obtain ⟨v, vs', Φ1, Φ2, e1, h1, h2, d, u⟩ := r
    subst e1
    cases e with
    | no => simp [argT] at h
    | al _ => simp [argT] at h
    | tr t =>
      simp only [argT] at h
      split at h
      · rename_i ts' h3
        cases h
        obtain ⟨m1, F, R, u2, d2, bld⟩ := argT_ok (mdc := bs) (ents := es) (vs := vs') h2 (fun i p v t a b => hv (i + 1) p v t (by simpa using a) (by simpa using b)) h3
        refine ⟨by simp [mdOk, m1], fun b => Φ1 b ∨ F b, R, by grind, by grind, fun Zc hf hl => ⟨v, vs', Φ1, F, rfl, Rep.fr t h1 ⟨hf, fun b q => hl b (.inl q), fun b o _ e => e, fun _ _ h => h⟩, bld Zc hf hl, by grind, fun _ => Iff.rfl⟩⟩
      · cases h
  | false :: bs, e :: es, vs, Ψa, ts, r, hv, h => by
    obtain ⟨v, vs', Φ1, Φ2, e1, h1, h2, d, u⟩ := r
    subst e1
    simp only [argT] at h
    split at h
    · rename_i t ht
      split at h
      · rename_i hc
        split at h
        · rename_i ts' h3
          cases h
          obtain ⟨m1, F, R, u2, d2, bld⟩ := argT_ok (mdc := bs) (ents := es) (vs := vs') h2 (fun i p v t a b => hv (i + 1) p v t (by simpa using a) (by simpa using b)) h3
          have vw : ∃ Θ, Rep K Z H .own t v Θ ∧ ∀ b, Θ b → Φ b ∨ Φ1 b := by
            cases e with
            | no => simp [viewE] at ht
            | tr x =>
              simp only [viewE] at ht
              cases ht
              exact ⟨Φ1, h1, fun b q => .inr q⟩
            | al p =>
              obtain ⟨Θ, z1, z2⟩ := hv 0 p v t rfl rfl ht
              exact ⟨Θ, z1, fun b q => .inl (z2 b q)⟩
          obtain ⟨Θ, z1, z2⟩ := vw
          refine ⟨by simp [mdOk, m1, hc], F, fun b => Φ1 b ∨ R b, by grind, by grind, fun Zc hf hl => ⟨v, vs', fun _ => False, F, rfl, rep_kid.mpr (Rep.lend (m := .own) t z1 hf fun b q => hl b (by grind)), bld Zc hf (fun b q => hl b (by grind)), by simp, by simp⟩⟩
        · cases h
      · cases h
    · cases h
theorem call_ok {ents s : List Ent} {G : GF} {o : Rt} {Q : VK} {E : XK} (EE : Ev K c Z ws Φ Ψ σ H Γ (ents.reverse ++ s) (vs.reverse ++ us)) (l : ents.length = vs.length) (h : argT Γ mdc ents = some ts) (hG : G ts = some o)
    (post : match o with
      | .rt r ts' => ∀ v H', ts'.length = vs.length → EnvOk K c σ H' Γ (.tr r :: (ts'.map .tr ++ s)) (v :: (vs ++ us)) → Q v H'
      | .ex C ts' => ∀ H' : HX, ts'.length = vs.length → EnvX K c C σ H' Γ (ts'.map .tr ++ s) (vs ++ us) → E (.ref (K.et C)) H'.2 H'.1) : spOf K mdc G vs H Q E := by
  have tm' : RepL K Z H .own (trees ents.reverse ++ trees s) (vs.reverse ++ us) Ψ := by simpa [trees] using EE.tm
  obtain ⟨v1, v2, Ψ1, Ψ2, e, r1, r2, d, u⟩ := RepL.split _ tm'
  have hl1 := RepL.len _ r1
  have hlt : (trees ents.reverse).length = ents.length := by simp [trees]
  obtain ⟨rfl, rfl⟩ := List.append_inj e (by simp; omega)
  have r0 : RepL K Z H .own (trees ents) vs Ψ1 := by
    have := RepL.reverse _ r1
    have e2 : (trees ents.reverse).reverse = trees ents := by simp [trees]
    rwa [e2, List.reverse_reverse] at this
  obtain ⟨m1, F, R, u2, d2, bld⟩ := argT_ok (Φ := Φ) (Γ := Γ) r0 (fun i p v t a b g => by
    have hi : i < ents.length := getq_lt' a
    have a' : (ents.reverse ++ s)[ents.length - 1 - i]? = some (.al p) := by
      rw [List.getElem?_append_left (by simp; omega), List.getElem?_reverse (by omega), show ents.length - 1 - (ents.length - 1 - i) = i by omega]
      exact a
    obtain ⟨w, b', raw, gs⟩ := EE.to _ p a'
    rw [List.getElem?_append_left (by simp; omega), List.getElem?_reverse (by omega), show vs.length - 1 - (ents.length - 1 - i) = i by omega, b] at b'
    cases b'
    obtain ⟨w', Φ1, Φ2, raw', r, _, uu, _⟩ := RepL.path EE.sl (p := p) (t := t) (by rw [getG_getP gs]; exact g)
    cases raw.fn raw'
    exact ⟨Φ1, r, fun b q => (uu b).mpr (.inl q)⟩) h
  have hsF := RepL.isS _ EE.sl
  have hsT := RepL.isS _ EE.tm
  refine ⟨ts, ⟨Z.fz, fun b => Z.ln b ∨ R b ∨ Φ b⟩, F, o, bld _ (fun _ h => h) (fun _ h => h), m1, fun b q => ?_, fun b q => ?_, hG, ?_⟩
  · have h1 := EE.zo b (.inr ((u b).mpr (.inl ((u2 b).mpr (.inl q)))))
    refine ⟨h1.2.1, fun z => ?_⟩
    rcases z with z | z | z
    · exact h1.2.2 z
    · exact d2 b ⟨q, z⟩
    · exact EE.dj b ⟨z, (u b).mpr (.inl ((u2 b).mpr (.inl q)))⟩
  · rcases q with q | q | q | q
    · exact EE.zs b (.inl q)
    · exact EE.zs b (.inr q)
    · exact hsT b ((u b).mpr (.inl ((u2 b).mpr (.inr q))))
    · exact hsF b q
  · have chg : ∀ {H' : Hp} {S' F1 : Ps}, Cl H H' F Z.fz S' F1 → Chg Z ⟨S', Z.ln⟩ H H' Ψ1 F1 := fun {H' S' F1} cl => by
      have zF : ∀ b, F b → ¬ Z.fz b ∧ ¬ Z.ln b := fun b q => (EE.zo b (.inr ((u b).mpr (.inl ((u2 b).mpr (.inl q)))))).2
      refine ⟨cl.s0, fun _ h => h, fun b q => ?_, fun b q => .inl q, fun b q => ?_, fun b ob e n => cl.ob b ob e (fun q => n ((u2 b).mpr (.inl q))), fun b q => ?_, fun b q => ?_⟩
      · rcases cl.s1 b q with z | z | z
        · exact .inl z
        · exact .inr (.inl ((u2 b).mpr (.inl z)))
        · exact .inr (.inr z)
      · rcases q with q | q
        · exact cl.ss b q
        · obtain ⟨ob, e⟩ := Option.isSome_iff_exists.mp (EE.zs b (.inr q))
          rw [cl.ob b ob e fun z => (zF b z).2 q]
          rfl
      · by_cases z : F b
        · exact cl.oc b z
        · obtain ⟨ob, e⟩ := Option.isSome_iff_exists.mp (hsT b ((u b).mpr (.inl q)))
          rw [cl.ob b ob e z]
          rfl
      · have h1 := cl.nw b q
        refine ⟨h1.1.imp (fun z => (u2 b).mpr (.inl z)) id, h1.2, fun z => ?_⟩
        rcases h1.1 with y | y
        · exact (zF b y).2 z
        · have := EE.zs b (.inr z)
          rw [y] at this
          cases this
    have mono : ∀ {H' : Hp} {S' F1 : Ps} {xs : List Tr} {ys : List V}, RepL K ⟨S', fun _ => False⟩ H' .own xs ys F1 → RepL K ⟨S', Z.ln⟩ H' .own xs ys F1 := fun {H' S' F1 xs ys} r => RepL.fr _ r ⟨fun _ h => h, fun _ h => h.elim, fun _ _ _ h => h, fun _ _ h => h⟩
    cases o with
    | rt r ts' =>
      intro v H' S' F1 rr cl
      have hlen : ts'.length = vs.length := by have := RepL.len _ rr; simpa using this
      refine post v H' hlen ?_
      exact EE.swapX (τ1' := .tr r :: ts'.map .tr) (us1' := v :: vs) (by simp; omega) (by simp) r1 r2 d u (by
        have := mono rr
        have et : trees (.tr r :: ts'.map .tr) = r :: ts' := by
          have := trees_tr (ts := ts')
          simp only [trees, List.map_cons] at this ⊢
          rw [this]
          rfl
        rw [et]
        exact this) (chg cl) (by simp [hlen])
    | ex C ts' =>
      intro H' S' F1 rr cl
      unfold RepX at rr
      unfold EnvX at post
      cases eC : K.ef C with
      | none =>
        rw [eC] at rr
        simp only [eC] at post
        obtain ⟨h0, rr⟩ := rr
        have hlen : ts'.length = vs.length := by have := RepL.len _ rr; simpa using this
        refine post H' hlen ⟨h0, ?_⟩
        exact EE.swapX (τ1' := ts'.map .tr) (us1' := vs) (by simp; omega) (by simp) r1 r2 d u (by rw [trees_tr]; exact mono rr) (chg cl) (by simp [hlen])
      | some p =>
        rw [eC] at rr
        simp only [eC] at post
        obtain ⟨d0, h0, rr⟩ := rr
        have hlen : ts'.length = vs.length := by have := RepL.len _ rr; simpa using this
        refine post H' hlen ⟨d0, h0, ?_⟩
        exact EE.swapX (τ1' := .tr (xdT d0 p.1 p.2) :: ts'.map .tr) (us1' := .ref d0 :: vs) (by simp; omega) (by simp) r1 r2 d u (by
          have := mono rr
          have et : trees (.tr (xdT d0 p.1 p.2) :: ts'.map .tr) = xdT d0 p.1 p.2 :: ts' := by
            have := trees_tr (ts := ts')
            simp only [trees, List.map_cons] at this ⊢
            rw [this]
            rfl
          rw [et]
          exact this) (chg cl) (by simp [hlen])
theorem EnvOk.permM (lp : P.length = vp.length) (la : A.length = va.length) (lb : B.length = vb.length) (E : EnvOk K c σ H Γ (P ++ (A ++ (B ++ τ))) (vp ++ (va ++ (vb ++ us)))) : EnvOk K c σ H Γ (P ++ (B ++ (A ++ τ))) (vp ++ (vb ++ (va ++ us))) := by
  have lt : τ.length = us.length := by
    have := tail_len E
    simp at this
    omega
  have h := EnvOk.perm (K := K) (c := c) (σ := σ) (H := H) (Γ := Γ) (l := P.zip vp ++ (A.zip va ++ (B.zip vb ++ τ.zip us))) (l' := P.zip vp ++ (B.zip vb ++ (A.zip va ++ τ.zip us))) (by
    refine List.Perm.append_left _ ?_
    rw [← List.append_assoc, ← List.append_assoc]
    exact List.Perm.append_right _ List.perm_append_comm)
  simp only [List.map_append, List.map_fst_zip (Nat.le_of_eq lp), List.map_snd_zip (Nat.le_of_eq lp.symm), List.map_fst_zip (Nat.le_of_eq la), List.map_snd_zip (Nat.le_of_eq la.symm), List.map_fst_zip (Nat.le_of_eq lb), List.map_snd_zip (Nat.le_of_eq lb.symm), List.map_fst_zip (Nat.le_of_eq lt), List.map_snd_zip (Nat.le_of_eq lt.symm)] at h
  exact h E
end
section
variable {K : KC} {X : Cx} {T : KT} {md mdc : List Bool} {W : WX} {c : Cz} {σ : St} {H H' : Hp} {Γ τ τ1 A B P : List Ent} {us us1 vs vs' va vb vp : List V} {v w : V} {p q : List Nat} {t : Tr} {ts ts' : List Tr} {k k' : Nk} {i j n d h : Nat} {a : Addr} {en en' : Ent} {o : Ow} {Z : Zn} {ws : List V} {Φ Ψ : Ps} {G : GF} {m m' : Ms}
/-- an own argument at depth d of n is taken out of its place; the place is kept below the arguments -/
def extAt (d n : Nat) (m : Ms) : Option Ms := match m.s[d]? with
  | some (.al p) => match getG m.g p with
    | some t => some ⟨kill p (setG m.g p .any), (kill p (m.s.eraseIdx d)).take d ++ .tr t :: (((kill p (m.s.eraseIdx d)).drop d).take (n - 1 - d) ++ .al p :: (kill p (m.s.eraseIdx d)).drop (n - 1))⟩
    | none => none
  | some (.tr _) => some ⟨m.g, m.s.take n ++ .no :: m.s.drop n⟩
  | _ => none
theorem split_at {α : Type} {l : List α} {d : Nat} {x : α} (h : l[d]? = some x) : l = l.take d ++ ([x] ++ l.drop (d + 1)) := by
  have hlt := getq_lt' h
  have e := (List.getElem?_eq_some_iff.mp h).2
  have h1 : l.drop d = [x] ++ l.drop (d + 1) := by rw [List.drop_eq_getElem_cons hlt, e]; rfl
  rw [← h1, List.take_append_drop]
theorem erase_split {α : Type} {l : List α} {d : Nat} : l.eraseIdx d = l.take d ++ l.drop (d + 1) := List.eraseIdx_eq_take_drop_succ _ _
theorem EnvOk.pushNo (E : EnvOk K c σ H Γ τ us) (v : V) : EnvOk K c σ H Γ (.no :: τ) (v :: us) := by
  obtain ⟨Z, ws, Φ, Ψ, EE⟩ := E
  exact EE.swap (τ1 := []) (us1 := []) (τ1' := [.no]) (us1' := [v]) (Ψ1' := fun _ => False) rfl (by simp) (fun Ψ1 r => ⟨⟨v, [], fun _ => False, fun _ => False, rfl, fun _ h => h, ⟨rfl, fun _ h => h⟩, by simp, by simp⟩, .same _ _ _ EE.zs (fun b q => RepL.isS _ r b q) _ (by simp)⟩) rfl
theorem extAt_ok (E : EnvOk K c σ H m.g m.s us) (hd : d < n) (hn : n ≤ us.length) (h : extAt d n m = some m') : ∃ w, us[d]? = some w ∧ EnvOk K c σ H m'.g m'.s (us.take n ++ w :: us.drop n) := by
  have hl := tail_len E
  have hdu : d < us.length := by omega
  refine ⟨us[d], List.getElem?_eq_getElem hdu, ?_⟩
  have eu := split_at (List.getElem?_eq_getElem hdu)
  unfold extAt at h
  split at h
  · rename_i p hp
    split at h
    · rename_i t ht
      cases h
      have es := split_at hp
      have E1 : EnvOk K c σ H m.g (m.s.take d ++ ([.al p] ++ m.s.drop (d + 1))) (us.take d ++ ([us[d]] ++ us.drop (d + 1))) := by rw [← es, ← eu]; exact E
      have E2 := EnvOk.permA (by simp; omega) rfl E1
      rw [← erase_split, ← erase_split] at E2
      have E3 := EnvOk.ext (p := p) (t := t) (τ := m.s.eraseIdx d) (us := us.eraseIdx d) E2 ht
      -- lengths
      generalize hs' : kill p (m.s.eraseIdx d) = s' at *
      generalize hu' : us.eraseIdx d = u' at *
      have ls : s'.length = m.s.length - 1 := by rw [← hs']; simp [kill, List.length_eraseIdx]; omega
      have lu : u'.length = us.length - 1 := by rw [← hu', List.length_eraseIdx]; simp; omega
      have sp : ∀ {α : Type} (l : List α), l = l.take d ++ ((l.drop d).take (n - 1 - d) ++ l.drop (n - 1)) := fun l => by
        have : l.drop (n - 1) = (l.drop d).drop (n - 1 - d) := by rw [List.drop_drop]; congr 1; omega
        rw [this, List.take_append_drop, List.take_append_drop]
      have E4 : EnvOk K c σ H (kill p (setG m.g p .any)) ([.tr t] ++ ([.al p] ++ ((s'.take d ++ (s'.drop d).take (n - 1 - d)) ++ s'.drop (n - 1)))) ([us[d]] ++ ([us[d]] ++ ((u'.take d ++ (u'.drop d).take (n - 1 - d)) ++ u'.drop (n - 1)))) := by
        rw [List.append_assoc (s'.take d), List.append_assoc (u'.take d), ← sp s', ← sp u']
        exact E3
      have E5 := EnvOk.permM (P := [.tr t]) (vp := [us[d]]) rfl rfl (by simp; omega) E4
      rw [List.append_assoc (s'.take d), List.append_assoc (u'.take d)] at E5
      have E6 := EnvOk.permA (A := [.tr t]) (va := [us[d]]) rfl (by simp; omega) E5
      have ev : us.take n ++ us[d] :: us.drop n = u'.take d ++ ([us[d]] ++ ((u'.drop d).take (n - 1 - d) ++ ([us[d]] ++ u'.drop (n - 1)))) := by
        have h1 : u'.take d = us.take d := by rw [← hu', erase_split, List.take_append_of_le_length (by simp; omega), List.take_take]; simp
        have h2 : u'.drop d = us.drop (d + 1) := by
          rw [← hu', erase_split, List.drop_append]
          have : (us.take d).length = d := by simp; omega
          rw [this]
          simp
        have h3 : u'.drop (n - 1) = us.drop n := by
          have : u'.drop (n - 1) = (u'.drop d).drop (n - 1 - d) := by rw [List.drop_drop]; congr 1; omega
          rw [this, h2, List.drop_drop]
          congr 1
          omega
        have h4 : us.take n = us.take d ++ ([us[d]] ++ (us.drop (d + 1)).take (n - 1 - d)) := by
          have : n = d + (1 + (n - 1 - d)) := by omega
          conv => lhs; rw [this, List.take_add]
          congr 1
          rw [List.drop_eq_getElem_cons hdu, Nat.add_comm 1, List.take_succ_cons]
          rfl
        rw [h1, h2, h3, h4]
        simp
      rw [ev]
      exact E6
    · cases h
  · cases h
    have E1 := E.pushNo us[d]
    have E2 : EnvOk K c σ H m.g ([.no] ++ (m.s.take n ++ m.s.drop n)) ([us[d]] ++ (us.take n ++ us.drop n)) := by rw [List.take_append_drop, List.take_append_drop]; exact E1
    exact EnvOk.permA (A := [.no]) (va := [us[d]]) rfl (by simp; omega) E2
  · cases h
/-- behind the call: what came back at index i of n goes to its place; h things lie above -/
def resAt (h i n : Nat) (m : Ms) : Option Ms := match m.s[h + i]?, m.s[h + n]? with
  | some (.tr t), some (.al p) => match getG m.g p with
    | some .any => if esc t = true then some ⟨setG m.g p t, (m.s.eraseIdx (h + n)).eraseIdx (h + i)⟩ else none
    | _ => none
  | some (.tr _), some .no => some ⟨m.g, (m.s.eraseIdx (h + n)).eraseIdx (h + i)⟩
  | _, _ => none
theorem two_split {α : Type} {l : List α} {x y : Nat} {a b : α} (hx : l[x]? = some a) (hy : l[y]? = some b) (hxy : x < y) : l = l.take x ++ ([a] ++ ((l.drop (x + 1)).take (y - x - 1) ++ ([b] ++ l.drop (y + 1)))) ∧ (l.eraseIdx y).eraseIdx x = l.take x ++ ((l.drop (x + 1)).take (y - x - 1) ++ l.drop (y + 1)) := by
  have h1 := split_at hx
  have hyl := getq_lt' hy
  have h2 : (l.drop (x + 1))[y - x - 1]? = some b := by rw [List.getElem?_drop, show x + 1 + (y - x - 1) = y by omega]; exact hy
  have h3 := split_at h2
  have h4 : (l.drop (x + 1)).drop (y - x - 1 + 1) = l.drop (y + 1) := by rw [List.drop_drop]; congr 1; omega
  rw [h4] at h3
  refine ⟨by rw [← h3]; exact h1, ?_⟩
  rw [erase_split (l := l.eraseIdx y)]
  have e1 : (l.eraseIdx y).take x = l.take x := by rw [erase_split, List.take_append_of_le_length (by simp; omega), List.take_take]; congr 1; omega
  have e2 : (l.eraseIdx y).drop (x + 1) = (l.drop (x + 1)).take (y - x - 1) ++ l.drop (y + 1) := by
    rw [erase_split, List.drop_append]
    have hlen : (l.take y).length = y := by simp; omega
    rw [hlen, show x + 1 - y = 0 by omega, List.drop_zero]
    congr 1
    rw [List.drop_take]
    congr 1
  rw [e1, e2]
theorem resAt_ok (E : EnvOk K c σ H m.g m.s us) (hi : i < n) (hu : us[h + i]? = us[h + n]?) (hh : resAt h i n m = some m') : EnvOk K c σ H m'.g m'.s ((us.eraseIdx (h + n)).eraseIdx (h + i)) := by
  have hl := tail_len E
  unfold resAt at hh
  split at hh
  · rename_i t p h1 h2
    split at hh
    · rename_i hg
      split at hh
      · rename_i he
        cases hh
        have hlt := getq_lt' h2
        have hlt1 := getq_lt' h1
        obtain ⟨w, hw⟩ : ∃ w, us[h + n]? = some w := ⟨_, List.getElem?_eq_getElem (by omega)⟩
        have hw2 : us[h + i]? = some w := by rw [hu]; exact hw
        obtain ⟨s1, s2⟩ := two_split h1 h2 (by omega)
        obtain ⟨u1, u2⟩ := two_split hw2 hw (by omega)
        rw [s1, u1] at E
        have E1 := EnvOk.permA (A := m.s.take (h + i)) (B := [.tr t]) (va := us.take (h + i)) (vb := [w]) (by simp; omega) rfl E
        have E2 := EnvOk.permM (P := [.tr t]) (vp := [w]) (A := m.s.take (h + i) ++ (m.s.drop (h + i + 1)).take (h + n - (h + i) - 1)) (va := us.take (h + i) ++ (us.drop (h + i + 1)).take (h + n - (h + i) - 1)) (B := [.al p]) (vb := [w]) rfl (by simp; omega) rfl (by simpa [List.append_assoc] using E1)
        have E3 := (EnvOk.back E2 hg he).drop
        rw [s2, u2]
        simpa [List.append_assoc] using E3
      · cases hh
    · cases hh
  · rename_i t h1 h2
    cases hh
    have hlt := getq_lt' h2
    have hlt1 := getq_lt' h1
    obtain ⟨w, hw⟩ : ∃ w, us[h + n]? = some w := ⟨_, List.getElem?_eq_getElem (by omega)⟩
    have hw2 : us[h + i]? = some w := by rw [hu]; exact hw
    obtain ⟨s1, s2⟩ := two_split h1 h2 (by omega)
    obtain ⟨u1, u2⟩ := two_split hw2 hw (by omega)
    rw [s1, u1] at E
    have E1 := EnvOk.permA (A := m.s.take (h + i)) (B := [.tr t]) (va := us.take (h + i)) (vb := [w]) (by simp; omega) rfl E
    have E2 := EnvOk.permM (P := [.tr t]) (vp := [w]) (A := m.s.take (h + i) ++ (m.s.drop (h + i + 1)).take (h + n - (h + i) - 1)) (va := us.take (h + i) ++ (us.drop (h + i + 1)).take (h + n - (h + i) - 1)) (B := [.no]) (vb := [w]) rfl (by simp; omega) rfl (by simpa [List.append_assoc] using E1)
    have E3 := E2.drop.drop
    rw [s2, u2]
    simpa [List.append_assoc] using E3
  · cases hh
end
section
variable {K : KC} {X : Cx} {T : KT} {md mdc : List Bool} {W : WX} {c : Cz} {σ : St} {H H' : Hp} {Γ τ τ1 A B P : List Ent} {us us0 us1 vs vs' va vb vp : List V} {v w : V} {p q : List Nat} {t : Tr} {ts ts' : List Tr} {k k' : Nk} {i j n d h : Nat} {a : Addr} {en en' : Ent} {o : Ow} {Z : Zn} {ws : List V} {Φ Ψ : Ps} {G : GF} {m m' : Ms} {is : List Nat}
def extAll (n : Nat) : List Nat → Ms → Option Ms
  | [], m => some m
  | i :: is, m => match extAt (n - 1 - i) n m with
    | some m' => extAll n is m'
    | none => none
theorem extAll_ok : ∀ {is : List Nat} {m m' : Ms} {us0 : List V}, EnvOk K c σ H m.g m.s (vs.reverse ++ us0) → vs.length = n → (∀ i ∈ is, i < n) → extAll n is m = some m' → EnvOk K c σ H m'.g m'.s (vs.reverse ++ (is.reverse.map (vs.getD · .non) ++ us0))
  | [], m, m', us0, E, hl, hi, h => by
    simp only [extAll] at h
    cases h
    simpa using E
  | i :: is, m, m', us0, E, hl, hi, h => by
    simp only [extAll] at h
    split at h
    · rename_i m1 h1
      have hin := hi i List.mem_cons_self
      obtain ⟨w, hw, E1⟩ := extAt_ok E (by omega) (by simp; omega) h1
      rw [List.getElem?_append_left (by simp; omega), List.getElem?_reverse (by omega), show vs.length - 1 - (n - 1 - i) = i by omega] at hw
      have e1 : (vs.reverse ++ us0).take n = vs.reverse := by rw [List.take_append_of_le_length (by simp; omega)]; exact List.take_of_length_le (by simp; omega)
      have e2 : (vs.reverse ++ us0).drop n = us0 := by rw [List.drop_append_of_le_length (by simp; omega), List.drop_of_length_le (by simp; omega)]; rfl
      rw [e1, e2] at E1
      have := extAll_ok (is := is) (us0 := w :: us0) E1 hl (fun i h => hi i (List.mem_cons_of_mem _ h)) h
      simpa [hw] using this
    · cases h
def resAll (h : Nat) : Nat → List Nat → Ms → Option Ms
  | _, [], m => some m
  | n, i :: is, m => match resAt h i n m with
    | some m' => resAll h (n - 1) is m'
    | none => none
theorem resAll_ok {hv : List V} (hh : hv.length = h) : ∀ {is : List Nat} {n : Nat} {m m' : Ms} {vals : List V}, vals.length = n → (∀ i ∈ is, i < n) → is.Pairwise (· > ·) → EnvOk K c σ H m.g m.s (hv ++ (vals ++ (is.map (vals.getD · .non) ++ us0))) → resAll h n is m = some m' → ∃ vals' : List V, vals'.length = n - is.length ∧ EnvOk K c σ H m'.g m'.s (hv ++ (vals' ++ us0))
  | [], n, m, m', vals, hl, hi, hp, E, hr => by
    simp only [resAll] at hr
    cases hr
    exact ⟨vals, by simpa using hl, by simpa using E⟩
  | i :: is, n, m, m', vals, hl, hi, hp, E, hr => by
    simp only [resAll] at hr
    split at hr
    · rename_i m1 h1
      have hin := hi i List.mem_cons_self
      have hpw := List.pairwise_cons.mp hp
      have g1 : (hv ++ (vals ++ ((i :: is).map (vals.getD · .non) ++ us0)))[h + i]? = vals[i]? := by
        rw [List.getElem?_append_right (by omega), show h + i - hv.length = i by omega, List.getElem?_append_left (by omega)]
      have g2 : (hv ++ (vals ++ ((i :: is).map (vals.getD · .non) ++ us0)))[h + n]? = some (vals.getD i .non) := by
        rw [List.getElem?_append_right (by omega), show h + n - hv.length = n by omega, List.getElem?_append_right (by omega), show n - vals.length = 0 by omega]
        rfl
      have E1 := resAt_ok (n := n) E hin (by rw [g1, g2, List.getD_eq_getElem?_getD, List.getElem?_eq_getElem (by omega)]; rfl) h1
      have ev : ((hv ++ (vals ++ ((i :: is).map (vals.getD · .non) ++ us0))).eraseIdx (h + n)).eraseIdx (h + i) = hv ++ (vals.eraseIdx i ++ (is.map ((vals.eraseIdx i).getD · .non) ++ us0)) := by
        have e1 : (hv ++ (vals ++ ((i :: is).map (vals.getD · .non) ++ us0))).eraseIdx (h + n) = hv ++ (vals ++ (is.map (vals.getD · .non) ++ us0)) := by
          rw [List.eraseIdx_append_of_length_le (by omega), show h + n - hv.length = n by omega, List.eraseIdx_append_of_length_le (by omega), show n - vals.length = 0 by omega]
          rfl
        rw [e1, List.eraseIdx_append_of_length_le (by omega), show h + i - hv.length = i by omega, List.eraseIdx_append_of_lt_length (by omega)]
        congr 3
        refine List.map_congr_left fun x hx => ?_
        have : x < i := hpw.1 x hx
        rw [List.getD_eq_getElem?_getD, List.getD_eq_getElem?_getD, List.getElem?_eraseIdx_of_lt this]
      rw [ev] at E1
      obtain ⟨vals', l', E2⟩ := resAll_ok hh (is := is) (n := n - 1) (vals := vals.eraseIdx i) (by rw [List.length_eraseIdx, if_pos (by omega)]; omega) (fun x hx => by have := hpw.1 x hx; omega) hpw.2 E1 hr
      exact ⟨vals', by simp; omega, E2⟩
    · cases hr
theorem EnvOk.dropN : ∀ {A : List Ent} {va : List V}, A.length = va.length → EnvOk K c σ H Γ (A ++ τ) (va ++ us) → EnvOk K c σ H Γ τ us
  | [], [], _, E => E
  | e :: A, v :: va, l, E => EnvOk.dropN (by simpa using l) (EnvOk.drop E)
theorem EnvOk.dropAll {s : List Ent} (E : EnvOk K c σ H Γ s us) : EnvOk K c σ H Γ [] [] := by
  have := tail_len E
  exact EnvOk.dropN (A := s) (va := us) (τ := []) (us := []) this (by simpa using E)
theorem EnvX.dropAll {C : Nat} {Hd : HX} {s : List Ent} (E : EnvX K c C σ Hd Γ s us) : EnvX K c C σ Hd Γ [] [] := E.imp fun H t vs E1 => by
  have l1 := tail_len E1
  unfold EnvX at E
  cases e : K.ef C with
  | none =>
    rw [e] at E
    have l2 := tail_len E.2
    have E2 := EnvOk.permA (A := t) (B := s) (τ := []) (va := vs) (vb := us) (us := []) (by simp at l1; omega) l2 (by simpa using E1)
    exact EnvOk.dropN l2 E2
  | some p =>
    rw [e] at E
    obtain ⟨d, _, E0⟩ := E
    have l2 := tail_len E0
    have l2 : s.length = us.length := by simpa using l2
    have E2 := EnvOk.permA (A := t) (B := s) (τ := []) (va := vs) (vb := us) (us := []) (by simp at l1; omega) l2 (by simpa using E1)
    exact EnvOk.dropN l2 E2
theorem resAt_top {e : Ent} {g : List Ent} {s : List Ent} {m' : Ms} (hr : resAt h i n ⟨g, s⟩ = some m') : resAt (h + 1) i n ⟨g, e :: s⟩ = some ⟨m'.g, e :: m'.s⟩ := by
  have e1 : h + 1 + i = (h + i) + 1 := by omega
  have e2 : h + 1 + n = (h + n) + 1 := by omega
  unfold resAt at hr ⊢
  rw [e1, e2]
  have q : ∀ k, (Ms.mk g (e :: s)).s[k + 1]? = s[k]? := fun k => List.getElem?_cons_succ
  have q2 : ∀ k l, ((Ms.mk g (e :: s)).s.eraseIdx (k + 1)).eraseIdx (l + 1) = e :: ((s.eraseIdx k).eraseIdx l) := fun k l => rfl
  rw [q, q, q2]
  change (match s[h + i]?, s[h + n]? with
    | some (.tr t), some (.al p) => match getG g p with
      | some .any => if esc t = true then some (Ms.mk (setG g p t) ((s.eraseIdx (h + n)).eraseIdx (h + i))) else none
      | _ => none
    | some (.tr _), some .no => some (Ms.mk g ((s.eraseIdx (h + n)).eraseIdx (h + i)))
    | _, _ => none) = some m' at hr
  cases h1 : s[h + i]? with
  | none => rw [h1] at hr; cases hr
  | some x =>
    cases h2 : s[h + n]? with
    | none => rw [h1, h2] at hr; cases x <;> cases hr
    | some y =>
      rw [h1, h2] at hr
      cases x with
      | no => cases hr
      | al p => cases hr
      | tr t =>
        cases y with
        | tr _ => cases hr
        | no => cases hr; rfl
        | al p =>
          simp only at hr ⊢
          cases h3 : getG g p with
          | none => rw [h3] at hr; cases hr
          | some u =>
            rw [h3] at hr
            cases u with
            | a _ => cases hr
            | nd _ _ _ => cases hr
            | any =>
              simp only at hr ⊢
              by_cases h4 : esc t = true
              · rw [if_pos h4] at hr ⊢
                cases hr
                rfl
              · rw [if_neg h4] at hr
                cases hr
theorem resAll_top {e : Ent} : ∀ {is : List Nat} {n : Nat} {m m' : Ms}, resAll h n is m = some m' → resAll (h + 1) n is ⟨m.g, e :: m.s⟩ = some ⟨m'.g, e :: m'.s⟩
  | [], n, m, m', hr => by
    simp only [resAll] at hr ⊢
    cases hr
    rfl
  | i :: is, n, m, m', hr => by
    simp only [resAll] at hr ⊢
    split at hr
    · rename_i m1 h1
      rw [resAt_top h1]
      exact resAll_top hr
    · cases hr
theorem resAllX_ok {C : Nat} {Hd : HX} {vals : List V} (hl : vals.length = n) (hi : ∀ i ∈ is, i < n) (hp : is.Pairwise (· > ·)) (E : EnvX K c C σ Hd m.g m.s (vals ++ (is.map (vals.getD · .non) ++ us0))) (hr : resAll 0 n is m = some m') : EnvX K c C σ Hd m'.g [] [] := by
  unfold EnvX at E
  cases e : K.ef C with
  | none =>
    rw [e] at E
    obtain ⟨vals', lv, E3⟩ := resAll_ok (hv := []) (h := 0) rfl hl hi hp (by simpa using E.2) hr
    unfold EnvX
    rw [e]
    exact ⟨E.1, E3.dropAll⟩
  | some p =>
    rw [e] at E
    obtain ⟨d, h1, E0⟩ := E
    obtain ⟨vals', lv, E3⟩ := resAll_ok (hv := [.ref d]) (h := 0 + 1) rfl (m := ⟨m.g, .tr (xdT d p.1 p.2) :: m.s⟩) hl hi hp (by simpa using E0) (resAll_top hr)
    have l3 := tail_len E3
    refine EnvX.dropAll (s := m'.s) (us := vals' ++ us0) ?_
    unfold EnvX
    rw [e]
    exact ⟨d, h1, E3⟩
/-- a call of a def by its function on trees; is: the arguments that are its own and stand at places -/
def gCall (is : List Nat) (mdc : List Bool) (G : GF) (n : Nat) : GE := fun m => match extAll n is m with
  | none => none
  | some m1 => match argT m1.g mdc (m1.s.take n).reverse with
    | none => none
    | some ts => match G ts with
      | some (.rt r ts') => match resAll 1 n is.reverse ⟨m1.g, .tr r :: (ts'.map .tr ++ m1.s.drop n)⟩ with
        | some m2 => some (.ok ⟨m2.g, m2.s.take 1 ++ m2.s.drop (1 + (n - is.length))⟩)
        | none => none
      | some (.ex C ts') => match resAll 0 n is.reverse ⟨m1.g, ts'.map .tr ++ m1.s.drop n⟩ with
        | some m2 => some (.ex C m2.g)
        | none => none
      | none => none
theorem gCall_ok (hin : ∀ i ∈ is, i < n) (hpw : is.reverse.Pairwise (· > ·)) : RA K md W n (fun σ vs H Q => spOf K mdc G vs H Q (fun cls d H => W cls d σ H)) (gCall is mdc G n) := by
  intro c σ H m us vs Q rr hc hl E hf hp
  unfold gCall at hf
  split at hf
  · cases hf
  · rename_i m1 h1
    have E1 := extAll_ok E hl hin h1
    split at hf
    · cases hf
    · rename_i ts hts
      have hlen := tail_len E1
      have hn : n ≤ m1.s.length := by rw [hlen]; simp; omega
      obtain ⟨Z, ws, Φ, Ψ, EE⟩ := E1
      have es : m1.s = (m1.s.take n).reverse.reverse ++ m1.s.drop n := by rw [List.reverse_reverse, List.take_append_drop]
      split at hf
      · rename_i r ts' hG
        split at hf
        · rename_i m2 h2
          cases hf
          refine call_ok (ents := (m1.s.take n).reverse) (s := m1.s.drop n) (o := .rt r ts') (es ▸ EE) (by simp; omega) hts hG ?_
          intro v H' l' E2
          obtain ⟨vals', lv, E3⟩ := resAll_ok (hv := [v]) (h := 1) rfl (is := is.reverse) (n := n) (m := ⟨m1.g, .tr r :: (ts'.map .tr ++ m1.s.drop n)⟩) (vals := vs) hl (fun i hi => hin i (List.mem_reverse.mp hi)) hpw E2 h2
          have lm := tail_len E3
          simp only [List.length_append, List.length_cons, List.length_nil, List.length_reverse] at lm lv
          refine hp v H' ?_
          have e3 : m2.s = m2.s.take 1 ++ ((m2.s.drop 1).take (n - is.length) ++ m2.s.drop (1 + (n - is.length))) := by
            have : m2.s.drop (1 + (n - is.length)) = (m2.s.drop 1).drop (n - is.length) := by rw [List.drop_drop]
            rw [this, List.take_append_drop, List.take_append_drop]
          rw [e3] at E3
          have E4 := EnvOk.permA (A := m2.s.take 1) (va := [v]) (by simp; omega) (by simp; omega) E3
          exact EnvOk.dropN (by simp; omega) E4
        · cases hf
      · rename_i C ts' hG
        split at hf
        · rename_i m2 h2
          cases hf
          refine call_ok (ents := (m1.s.take n).reverse) (s := m1.s.drop n) (o := .ex C ts') (es ▸ EE) (by simp; omega) hts hG ?_
          intro H' l' E2
          exact hp H' (resAllX_ok (is := is.reverse) (n := n) (m := ⟨m1.g, ts'.map .tr ++ m1.s.drop n⟩) (vals := vs) hl (fun i hi => hin i (List.mem_reverse.mp hi)) hpw E2 h2)
        · cases hf
      · cases hf
variable {x : Str} {pp pos apos : Pos} {e oe : Expr} {es : List Expr} {ga go : GE} {kk : Nat} {f : Addr} {fd : FuncData} {ps : List Str}
theorem seqA {tA : TA} {R : St → List V → Hp → VK → Prop} {fg : GE} (sa : SA K md W n tA ga) (hf : RA K md W n R fg) : SE K md W (fun σ H Q => tA σ H fun vs H1 => R σ vs H1 Q) (gSeq ga fg) := by
  intro c σ H m us Q rr hc E hg hp
  simp only [gSeq] at hg
  split at hg
  · rename_i m1 h1
    exact sa c σ H m us _ _ hc E h1 fun vs H1 hl E1 => hf c σ H1 m1 us vs Q rr hc hl E1 hg hp
  · rename_i h1
    refine sa c σ H m us _ _ hc E hg ?_
    cases rr with
    | ex C g' => exact hp
    | ok m2 => exact absurd hg (h1 m2)
theorem me_call (F : FnOk X.prog X.w X.K X.mg X.base (L2N.CX X.prog X.w) kk f fd ps (spOf (kcm X.K T) mdc G)) (hr : Room kk X.A) (tk : Takes X W) (hg : Gl X x) (hm : X.mg x = some (.ref f)) (hk : PySem.W.keepIn X.K (.ref f) = true) (hb : Binds X.K fd ps [])
    (ha : MA X T md W (e :: es) ga) (hin : ∀ i ∈ is, i < (e :: es).length) (hpw : is.reverse.Pairwise (· > ·)) (hdb : (x == ("__debug__" : Str)) = false := by decide)
    (he : starEach (e :: es) X.env = (false, eval e X.env) :: starEach es X.env := by rfl) (hpl : (backTo pos (starEach es X.env)).any (·.1) = false := by rfl) : ME X T md W (.Call (.Name x pp) (e :: es) [] pos) (gSeq ga (gCall is mdc G (e :: es).length)) := by
  obtain ⟨t, pa, sa⟩ := ha
  exact ⟨_, pe_callS (E := WE W) F hr hg hm hk hb (fun σ => passAt tk σ) pa hdb he hpl, seqA sa (gCall_ok hin hpw)⟩
end
section
variable {K : KC} {X : Cx} {T : KT} {md mdc : List Bool} {W : WX} {c : Cz} {σ : St} {H H' : Hp} {Γ τ τ1 A B P : List Ent} {us us0 us1 vs vs' va vb vp : List V} {v w : V} {p q : List Nat} {t : Tr} {ts ts' : List Tr} {k k' : Nk} {i j n d h : Nat} {a : Addr} {en en' : Ent} {o : Ow} {Z : Zn} {ws : List V} {Φ Ψ : Ps} {G : GF} {m m' : Ms} {is : List Nat}
variable {x me : Str} {pp pos apos : Pos} {e oe : Expr} {es : List Expr} {ga go : GE} {kk : Nat} {f C : Addr} {fd : FuncData} {ps : List Str} {CXk : CXT} {sp : Sp} {ta : TE} {tA : TA} {Ew : St → XK} {pl : Sem Bool}
/-! methods, with what is raised wished for at the slots -/
def tMethS (C : Addr) (m : Str) (sp : Sp) (E : St → XK) (ta : TE) (t : TA) : TE := fun σ H Q => ta σ H fun x H1 => ∃ a dx fs, x = .ref a ∧ H1 a = some (.ins C dx fs) ∧ fs.lookup m = none ∧ t σ H1 fun vs H2 => sp (x :: vs) H2 Q (E σ)
theorem pe_methS (po : PE X oe ta) (c : Cls X.K C) (hm : Meth X.K C me f) (F : FnOk X.prog X.w X.K X.mg X.base CXk kk f fd ps sp) (hr : Room kk X.A) (hb : Binds X.K fd ps []) (hx : ∀ σ, PassesAt CXk X σ (Ew σ)) (pa : PA X (e :: es) tA)
    (hst : starEach (e :: es) X.env = (false, eval e X.env) :: starEach es X.env := by rfl) (hpl : (backTo pos (starEach es X.env)).any (·.1) = false := by rfl)
    (ht : eval (.Call (.Attribute oe me apos) (e :: es) [] pos) X.env = (do let ov ← eval oe X.env; standAt apos.atName; let (f, first) ← holding [ov] (getMethod ov me pl); callWith pos f first (backTo pos (starEach (e :: es) X.env)) (backToKw pos (keywordEach [] X.env))) := by rfl) :
    PE X (.Call (.Attribute oe me apos) (e :: es) [] pos) (tMethS C me sp Ew ta tA) := by
  constructor
  intro pins s σ H Q I hh
  refine PySem.W.methodCall_KW (pl := pl) (he := ht) (thn (po.run pins s σ H _ I hh) ?_)
  rintro u s1 ⟨xv, H1, I1, rx, ad, dx, fs, rfl, ea, lk, q1⟩
  cases (show u = Value.ref ad from rx)
  apply getmeth_ok I1 ea c hm lk
  refine PySem.W.callWith_K (first := [.ref ad]) (h₀ := X.base) I.ok.mod.kin hm.kp (thn (pa.run pos pins s1 σ H1 _ I1 q1) ?_) hst hpl
  rintro us s2 ⟨vs, H2, I2, rr, q2⟩
  exact ⟨I2.kIn, run_fnS (us := .ref ad :: us) (vs := .ref ad :: vs) F hr hb (hx σ) I2 (.cons rfl rr) q2⟩
theorem pe_methS0 (po : PE X oe ta) (c : Cls X.K C) (hm : Meth X.K C me f) (F : FnOk X.prog X.w X.K X.mg X.base CXk kk f fd ps sp) (hr : Room kk X.A) (hb : Binds X.K fd ps []) (hx : ∀ σ, PassesAt CXk X σ (Ew σ))
    (ht : eval (.Call (.Attribute oe me apos) [] [] pos) X.env = (do let ov ← eval oe X.env; standAt apos.atName; let (f, first) ← holding [ov] (getMethod ov me pl); callWith pos f first (backTo pos (starEach [] X.env)) (backToKw pos (keywordEach [] X.env))) := by rfl) :
    PE X (.Call (.Attribute oe me apos) [] [] pos) (tMethS C me sp Ew ta tNil) := by
  constructor
  intro pins s σ H Q I hh
  refine PySem.W.methodCall_KW (pl := pl) (he := ht) (thn (po.run pins s σ H _ I hh) ?_)
  rintro u s1 ⟨xv, H1, I1, rx, ad, dx, fs, rfl, ea, lk, q1⟩
  cases (show u = Value.ref ad from rx)
  apply getmeth_ok I1 ea c hm lk
  exact PySem.W.callWith_K0 (first := [.ref ad]) I1.kIn hm.kp (run_fnS (us := [.ref ad]) (vs := [.ref ad]) F hr hb (hx σ) I1 (.cons rfl .nil) q1)
/-- on top stands an instance of the class n -/
def chkI (n : Nat) : GE := fun m => match m.s with
  | e :: _ => match viewE m.g e with
    | some (.nd (.ins n' _) _ _) => if n' = n then some (.ok m) else none
    | _ => none
  | _ => none
theorem lookup_none {fl : Str} : ∀ {ns : List Str} {vs : List V}, ns.idxOf? fl = none → (ns.zip vs).lookup fl = none
  | [], _, _ => rfl
  | n :: ns, [], _ => rfl
  | n :: ns, v :: vs, h => by
    rw [List.idxOf?_cons] at h
    by_cases e : (n == fl) = true
    · simp [e] at h
    · rw [if_neg e] at h
      have e2 : (fl == n) = false := by
        have : n ≠ fl := by simpa using e
        simpa using fun q : fl = n => this q.symm
      rw [List.zip_cons_cons, List.lookup_cons, e2]
      exact lookup_none (by simpa using h)
theorem take_none {fl : Str} {ns : List Str} {k : Nat} (h : ns.idxOf? fl = none) : (ns.take k).idxOf? fl = none := by
  rw [List.idxOf?_eq_none_iff] at h ⊢
  exact fun q => h (List.mem_of_mem_take q)
theorem chkI_ok {rr : Rs} {xv : V} (E : EnvOk K c σ H m.g m.s (xv :: us)) (h : chkI n m = some rr) (hno : (K.nm n).idxOf? me = none) : rr = .ok m ∧ ∃ a dx fs, xv = .ref a ∧ H a = some (.ins (K.ct n) dx fs) ∧ fs.lookup me = none := by
  unfold chkI at h
  split at h
  · rename_i e s hs
    split at h
    · rename_i n' kf o ts hv
      split at h
      · rename_i hn
        subst hn
        cases h
        rw [hs] at E
        obtain ⟨a, vs, rfl, ⟨l, dx, ho⟩, _⟩ := viewObj E hv
        exact ⟨rfl, a, dx, _, rfl, ho, lookup_none (take_none hno)⟩
      · cases h
    · cases h
  · cases h
theorem me_meth (ho : ME X T md W oe go) (c : Cls X.K (T.ct n)) (hm : Meth X.K (T.ct n) me f) (hno : (T.nm n).idxOf? me = none) (F : FnOk X.prog X.w X.K X.mg X.base (L2N.CX X.prog X.w) kk f fd ps (spOf (kcm X.K T) mdc G)) (hr : Room kk X.A) (tk : Takes X W) (hb : Binds X.K fd ps [])
    (ha : MA X T md W (e :: es) ga) (hin : ∀ i ∈ is, i < (e :: es).length + 1) (hpw : is.reverse.Pairwise (· > ·))
    (hst : starEach (e :: es) X.env = (false, eval e X.env) :: starEach es X.env := by rfl) (hpl : (backTo pos (starEach es X.env)).any (·.1) = false := by rfl)
    (ht : eval (.Call (.Attribute oe me apos) (e :: es) [] pos) X.env = (do let ov ← eval oe X.env; standAt apos.atName; let (f, first) ← holding [ov] (getMethod ov me pl); callWith pos f first (backTo pos (starEach (e :: es) X.env)) (backToKw pos (keywordEach [] X.env))) := by rfl) :
    ME X T md W (.Call (.Attribute oe me apos) (e :: es) [] pos) (gSeq go (gSeq (chkI n) (gSeq ga (gCall is mdc G ((e :: es).length + 1))))) := by
  obtain ⟨to, po, so⟩ := ho
  obtain ⟨t, pa, sa⟩ := ha
  refine ⟨_, pe_methS (Ew := WE W) po c hm F hr hb (fun σ => passAt tk σ) pa hst hpl ht, fun c σ H m us Q rr hc E hg hp => ?_⟩
  simp only [gSeq] at hg
  split at hg
  · rename_i m1 h1
    refine so c σ H m us _ _ hc E h1 fun xv H1 E1 => ?_
    split at hg
    · rename_i m2 h2
      obtain ⟨e2, a, dx, fs, ex, ea, lk⟩ := chkI_ok E1 h2 hno
      cases e2
      refine ⟨a, dx, fs, ex, ea, lk, ?_⟩
      split at hg
      · rename_i m3 h3
        exact sa c σ H1 m1 _ _ _ hc E1 h3 fun vs H2 hl E2 => gCall_ok hin hpw c σ H2 m3 us (xv :: vs) Q rr hc (by simp [hl]) (by simpa using E2) hg hp
      · rename_i h3
        refine sa c σ H1 m1 _ _ _ hc E1 hg ?_
        cases rr with
        | ex C g' => exact hp
        | ok m2 => exact absurd hg (h3 m2)
    · rename_i h2
      obtain ⟨e2, _⟩ := chkI_ok E1 hg hno
      exact absurd (e2 ▸ hg) (h2 m1)
  · rename_i h1
    refine so c σ H m us _ _ hc E hg ?_
    cases rr with
    | ex C g' => exact hp
    | ok m2 => exact absurd hg (h1 m2)
theorem me_meth0 (ho : ME X T md W oe go) (c : Cls X.K (T.ct n)) (hm : Meth X.K (T.ct n) me f) (hno : (T.nm n).idxOf? me = none) (F : FnOk X.prog X.w X.K X.mg X.base (L2N.CX X.prog X.w) kk f fd ps (spOf (kcm X.K T) mdc G)) (hr : Room kk X.A) (tk : Takes X W) (hb : Binds X.K fd ps [])
    (hin : ∀ i ∈ is, i < 1) (hpw : is.reverse.Pairwise (· > ·))
    (ht : eval (.Call (.Attribute oe me apos) [] [] pos) X.env = (do let ov ← eval oe X.env; standAt apos.atName; let (f, first) ← holding [ov] (getMethod ov me pl); callWith pos f first (backTo pos (starEach [] X.env)) (backToKw pos (keywordEach [] X.env))) := by rfl) :
    ME X T md W (.Call (.Attribute oe me apos) [] [] pos) (gSeq go (gSeq (chkI n) (gCall is mdc G 1))) := by
  obtain ⟨to, po, so⟩ := ho
  refine ⟨_, pe_methS0 (Ew := WE W) po c hm F hr hb (fun σ => passAt tk σ) ht, fun c σ H m us Q rr hc E hg hp => ?_⟩
  simp only [gSeq] at hg
  split at hg
  · rename_i m1 h1
    refine so c σ H m us _ _ hc E h1 fun xv H1 E1 => ?_
    split at hg
    · rename_i m2 h2
      obtain ⟨e2, a, dx, fs, ex, ea, lk⟩ := chkI_ok E1 h2 hno
      cases e2
      exact ⟨a, dx, fs, ex, ea, lk, gCall_ok hin hpw c σ H1 m1 us [xv] Q rr hc rfl E1 hg hp⟩
    · rename_i h2
      obtain ⟨e2, _⟩ := chkI_ok E1 hg hno
      exact absurd (e2 ▸ hg) (h2 m1)
  · rename_i h1
    refine so c σ H m us _ _ hc E hg ?_
    cases rr with
    | ex C g' => exact hp
    | ok m2 => exact absurd hg (h1 m2)
/-! a new instance -/
def gMake (n : Nat) (mdc : List Bool) (G : GF) (l : Nat) : GE := fun m => match argT m.g (true :: mdc) (.tr (.nd (.ins n 0) .own []) :: (m.s.take l).reverse) with
  | none => none
  | some ts => match G ts with
    | some (.rt (.a .non) (t :: _)) => some (.ok ⟨m.g, .tr t :: m.s.drop l⟩)
    | some (.ex C _) => some (.ex C m.g)
    | _ => none
theorem EnvOk.newIns {pa dx : Addr} (E : EnvOk K c σ H Γ τ us) (hp : H pa = none) (hd : H dx = none) (ne : dx ≠ pa) : EnvOk K c σ (upd (upd H dx (.own pa)) pa (.ins (K.ct n) dx [])) Γ (.tr (.nd (.ins n 0) .own []) :: τ) (.ref pa :: us) := by
  obtain ⟨Z, ws, Φ, Ψ, EE⟩ := E
  have hk : ∀ b ob, H b = some ob → upd (upd H dx (.own pa)) pa (.ins (K.ct n) dx []) b = some ob := fun b ob e => by
    rw [upd_ne (ne_of_none e hp), upd_ne (ne_of_none e hd)]
    exact e
  have hs : ∀ b, (H b).isSome = true → (upd (upd H dx (.own pa)) pa (.ins (K.ct n) dx []) b).isSome = true := fun b q => by
    obtain ⟨ob, e⟩ := Option.isSome_iff_exists.mp q
    rw [hk b ob e]
    rfl
  have nz : ∀ b, Z.fz b ∨ Z.ln b → b ≠ pa := fun b q e => by have := EE.zs b q; rw [e, hp] at this; cases this
  refine EE.swapE (τ1 := []) (us1 := []) (τ1' := [.tr (.nd (.ins n 0) .own [])]) (us1' := [.ref pa]) rfl (by simp) (fun Ψ1 r zo => ?_) rfl
  have n0 : ∀ b, ¬ Ψ1 b := r.2
  refine ⟨Z, fun b => b = pa, ⟨.ref pa, [], fun b => b = pa, fun _ => False, rfl, ⟨pa, [], fun _ => False, rfl, ⟨by simp, dx, by simp [upd_same]⟩, ⟨rfl, fun _ h => h⟩, .mk (by simp) (by simp) (by simp) rfl⟩, ⟨rfl, fun _ h => h⟩, by simp, by simp⟩, ⟨fun _ h => h, fun _ h => h, fun _ h => .inl h, fun _ h => .inl h, fun b q => hs b (EE.zs b q), fun b ob e _ => hk b ob e, fun b q => absurd q (n0 b), fun b q => ?_⟩⟩
  have : b = pa := q
  subst this
  exact ⟨.inr hp, fun z => nz b (.inl z) rfl, fun z => nz b (.inr z) rfl⟩
theorem gMake_ok {xa dx : Addr} {l : Nat} {Q : VK} {rr : Rs} {Ex : XK} (E : EnvOk K c σ H m.g m.s (vs.reverse ++ us)) (hl : vs.length = l) (hf : gMake n mdc G l m = some rr) (hp : PostE K c W σ us Q rr) (hE : ∀ C (H' : HX), W (.ref (K.et C)) H'.2 σ H'.1 → Ex (.ref (K.et C)) H'.2 H'.1) (hx : H xa = none) (hd : H dx = none) (ne : dx ≠ xa) :
    spOf K (true :: mdc) G (.ref xa :: vs) (upd (upd H dx (.own xa)) xa (.ins (K.ct n) dx [])) (fun v H2 => v = .non ∧ Q (.ref xa) H2) Ex := by
  unfold gMake at hf
  split at hf
  · cases hf
  · rename_i ts hts
    have hlen := tail_len E
    have hn : l ≤ m.s.length := by rw [hlen]; simp; omega
    have E1 := E.newIns (n := n) hx hd ne
    have es : m.s = (m.s.take l).reverse.reverse ++ m.s.drop l := by rw [List.reverse_reverse, List.take_append_drop]
    rw [es] at E1
    have E2 := EnvOk.permA (A := [.tr (.nd (.ins n 0) .own [])]) (B := (m.s.take l).reverse.reverse) (va := [.ref xa]) (vb := vs.reverse) rfl (by simp; omega) E1
    obtain ⟨Z, ws, Φ, Ψ, EE⟩ := E2
    split at hf
    · rename_i t rest hG
      cases hf
      refine call_ok (ents := .tr (.nd (.ins n 0) .own []) :: (m.s.take l).reverse) (s := m.s.drop l) (vs := .ref xa :: vs) (us := us) (o := .rt (.a .non) (t :: rest)) (by simpa using EE) (by simp; omega) hts hG ?_
      intro v H' l' E3
      have ev := top_a E3
      refine ⟨ev, hp _ _ ?_⟩
      have E4 := E3.drop
      have E5 : EnvOk K c σ H' m.g ([.tr t] ++ (rest.map .tr ++ m.s.drop l)) ([.ref xa] ++ (vs ++ us)) := by simpa using E4
      have E6 := EnvOk.permA (A := [.tr t]) (va := [.ref xa]) rfl (by simp at l' ⊢; omega) E5
      exact EnvOk.dropN (by simp at l' ⊢; omega) E6
    · rename_i C rest hG
      cases hf
      refine call_ok (ents := .tr (.nd (.ins n 0) .own []) :: (m.s.take l).reverse) (s := m.s.drop l) (vs := .ref xa :: vs) (us := us) (o := .ex C rest) (by simpa using EE) (by simp; omega) hts hG ?_
      intro H' l' E3
      exact hE C H' (hp H' E3.dropAll)
    · cases hf
end
section
variable {K : KC} {X : Cx} {T : KT} {md mdc : List Bool} {W : WX} {c : Cz} {σ σ' : St} {H H' : Hp} {Γ τ τ1 A B P : List Ent} {us us0 us1 vs vs' : List V} {v w : V} {p q : List Nat} {t : Tr} {ts ts' : List Tr} {k k' : Nk} {i j n d h : Nat} {a : Addr} {en en' : Ent} {o : Ow} {Z : Zn} {ws : List V} {Φ Ψ : Ps} {m m' : Ms} {g ge gt gs ga : GE} {e tg iter elt : Expr} {bd : Ms → Option Ms}
/-! the machine's own reading: the same in every context -/
def wpE (K : KC) (md : List Bool) (W : WX) (g : GE) : TE := fun σ H Q => ∃ c m us r, c.md = md ∧ EnvOk K c σ H m.g m.s us ∧ g m = some r ∧ PostE K c W σ us Q r
theorem ME.pe (h : ME X T md W e g) : PE X e (wpE (kcm X.K T) md W g) := by
  obtain ⟨t, p, s⟩ := h
  exact ⟨fun pins st σ H Q I ⟨c, m, us, r, hc, E, hg, hp⟩ => p.run pins st σ H Q I (s c σ H m us Q r hc E hg hp)⟩
def wpT (K : KC) (md : List Bool) (W : WX) (g : GE) : TT := fun σ H Q => ∃ c m us r, c.md = md ∧ EnvOk K c σ H m.g m.s us ∧ g m = some r ∧ PostT K c W σ us Q r
theorem MT.pt (h : MT X T md W e g) : PT X e (wpT (kcm X.K T) md W g) := by
  obtain ⟨t, p, s⟩ := h
  exact ⟨fun pins st σ H Q I ⟨c, m, us, r, hc, E, hg, hp⟩ => p.run pins st σ H Q I (s c σ H m us Q r hc E hg hp)⟩
abbrev WF : WX := fun _ _ _ _ => False
theorem EnvOk.reσ (E : EnvOk K c σ H Γ τ us) (hl : σ'.length = σ.length) (h : ∀ (i : Nat) (e : Ent), Γ[i]? = some e → e = .no ∨ σ'[i]? = σ[i]?) : EnvOk K c σ' H Γ τ us := by
  obtain ⟨Z, ws, Φ, Ψ, sl, tm, dj, so, to, ln, zo, zf, z0, zs, st, pv⟩ := E
  refine ⟨Z, ws, Φ, Ψ, ⟨sl, tm, dj, fun i e he => ?_, to, by rw [hl]; exact ln, zo, zf, z0, zs, st, pv⟩⟩
  have h1 := so i e he
  rcases h i e he with h2 | h2
  · subst h2
    trivial
  · cases e with
    | no => trivial
    | tr t =>
      obtain ⟨x, a, b⟩ := h1
      exact ⟨x, a, by rw [h2]; exact b⟩
    | al p =>
      obtain ⟨x, a, b⟩ := h1
      exact ⟨x, by rw [h2]; exact a, b⟩
/-- a slot is forgotten -/
def clr (i : Nat) (m : Ms) : Ms := ⟨(m.g.map (killR i)).set i .no, m.s.map (killR i)⟩
theorem EnvOk.clr (E : EnvOk K c σ H m.g m.s us) (hi : i < m.g.length) : EnvOk K c σ H (clr i m).g (clr i m).s us := by
  obtain ⟨Z, ws, Φ, Ψ, sl, tm, dj, so, to, ln, zo, zf, z0, zs, st, pv⟩ := E
  have hlt : i < (trees m.g).length := by simpa [trees] using hi
  obtain ⟨v', Φ1, Φ2, e2, r, d, u, r2, _⟩ := RepL.at_ _ sl (i := i) (t := (trees m.g)[i]) (List.getElem?_eq_getElem hlt)
  have et : trees ((m.g.map (killR i)).set i .no) = (trees m.g).set i .any := by
    have := trees_killR (Γ := m.g) (i := i)
    simp only [trees, List.map_set] at this ⊢
    rw [this]
    rfl
  refine ⟨Z, ws, Φ2, Ψ, ⟨by show RepL _ _ _ _ (trees ((m.g.map (killR i)).set i .no)) _ _; rw [et]; exact r2, ?_, by grind, ?_, ?_, by simp [Mine.clr, ln], by grind, zf, z0, zs, st, pv⟩⟩
  · show RepL K Z H .own (trees (m.s.map (killR i))) us Ψ
    rw [trees_killR]
    exact tm
  · intro j e he
    by_cases hj : i = j
    · subst hj
      have he : ((m.g.map (killR i)).set i .no)[i]? = some e := he
      rw [List.getElem?_set_self (by simpa using hi)] at he
      cases he
      trivial
    · have he : ((m.g.map (killR i)).set i .no)[j]? = some e := he
      rw [List.getElem?_set_ne hj] at he
      obtain ⟨e', he', rfl⟩ := killR_at he
      have h1 := so j e' he'
      cases e' with
      | no => trivial
      | tr x => exact h1
      | al q =>
        obtain ⟨x1, x2, x3, x4⟩ := h1
        by_cases hq : q.head? = some i
        · simp only [killR, hq, if_true]
          trivial
        · simp only [killR, hq, if_false]
          exact ⟨x1, x2, x3, by show (getG ((m.g.map (killR i)).set i .no) q).isSome = true; rw [getG_ne hq]; exact x4⟩
  · intro j q hj
    obtain ⟨e', he', hk⟩ := killR_at hj
    cases e' with
    | no => simp [killR] at hk
    | tr _ => simp [killR] at hk
    | al r =>
      by_cases hq : r.head? = some i
      · simp [killR, hq] at hk
      · simp only [killR, hq, if_false] at hk
        cases hk
        obtain ⟨w1, s1, s2, s3⟩ := to j q he'
        exact ⟨w1, s1, s2, by show (getG ((m.g.map (killR i)).set i .no) q).isSome = true; rw [getG_ne hq]; exact s3⟩
/-- a target of a comprehension whose names are the slots cv -/
def SGW (K : KC) (md : List Bool) (cv : List Nat) (t : TG) (b : Ms → Option Ms) : Prop := ∀ (c : Cz) (σ : St) (H : Hp) (m m' : Ms) (us : List V) (x : V) (Q : St → Hp → Prop), c.md = md → EnvOk K c (wipe σ cv) H m.g m.s (x :: us) → b m = some m' → (∀ σ2, wipe σ2 cv = wipe σ cv → EnvOk K c σ2 H m'.g m'.s us → Q σ2 H) → t x (wipe σ cv) H Q
theorem sgw_name : SGW K md [i] (gName i) (bind md i) := fun c σ H m m' us x Q hc E h hq => by
  refine hq _ ?_ (bind_ok hc E h)
  simp [wipe, List.set_set]
def clrs : List Nat → Ms → Ms
  | [], m => m
  | i :: is, m => clrs is (clr i m)
def allNo (Γ : List Ent) : List Nat → Bool
  | [] => true
  | i :: is => (match Γ[i]? with
    | some .no => true
    | _ => false) && allNo Γ is
/-- one turn: the item is on top, the new list at depth d below it -/
def lcTurn (cv : List Nat) (bd : Ms → Option Ms) (gt ge : GE) (d : Nat) (m : Ms) : Option Ms := match bd m with
  | none => none
  | some m1 => match gt m1 with
    | some (.ok ⟨g2, .tr (.a (.bl true)) :: s2⟩) => match ge ⟨g2, s2⟩ with
      | some (.ok ⟨g3, .tr y :: s3⟩) => match s3[d]? with
        | some (.tr (.nd .lst .own acc)) => if esc y = true ∧ acc.length < sizeLine ∧ (∀ i ∈ cv, i < g3.length) then some (clrs cv ⟨g3, s3.set d (.tr (.nd .lst .own (acc ++ [y])))⟩) else none
        | _ => none
      | _ => none
    | some (.ok ⟨g2, .tr (.a (.bl false)) :: s2⟩) => if ∀ i ∈ cv, i < g2.length then some (clrs cv ⟨g2, s2⟩) else none
    | _ => none
theorem clrs_ok : ∀ {cv : List Nat} {m : Ms}, EnvOk K c σ H m.g m.s us → (∀ i ∈ cv, i < m.g.length) → EnvOk K c σ H (clrs cv m).g (clrs cv m).s us
  | [], m, E, _ => E
  | i :: cv, m, E, h => clrs_ok (cv := cv) (m := clr i m) (E.clr (h i List.mem_cons_self)) (fun j hj => by simpa [clr] using h j (List.mem_cons_of_mem _ hj))
end
section
variable {K : KC} {X : Cx} {T : KT} {md mdc : List Bool} {W : WX} {c : Cz} {σ σ' σ2 : St} {H H' : Hp} {Γ τ τ1 A B P : List Ent} {us us0 us1 vs vs' : List V} {v w : V} {p q : List Nat} {t : Tr} {ts ts' : List Tr} {k k' : Nk} {i j n d h : Nat} {a D : Addr} {en en' : Ent} {o : Ow} {Z : Zn} {ws : List V} {Φ Ψ : Ps} {m m' : Ms} {g ge gt gs ga : GE} {e b tg iter elt : Expr} {bd : Ms → Option Ms} {cv : List Nat}
theorem wipe_get : ∀ {cv : List Nat} {i : Nat}, i ∉ cv → (wipe σ cv)[i]? = σ[i]?
  | [], _, _ => rfl
  | v :: cv, i, h => by
    simp only [List.mem_cons, not_or] at h
    unfold wipe
    rw [List.getElem?_set_ne (fun e => h.1 e.symm), wipe_get h.2]
theorem clr_no {m : Ms} (h : (clr j m).g[i]? = some e') (hm : m.g[i]? = some .no ∨ i = j) : e' = .no := by
  unfold clr at h
  simp only at h
  by_cases hj : j = i
  · subst hj
    by_cases hl : j < (m.g.map (killR j)).length
    · rw [List.getElem?_set_self hl] at h
      cases h
      rfl
    · rw [List.getElem?_eq_none (by simpa using hl)] at h
      cases h
  · rw [List.getElem?_set_ne hj] at h
    obtain ⟨x, hx, rfl⟩ := killR_at h
    rcases hm with hm | hm
    · rw [hm] at hx
      cases hx
      rfl
    · exact absurd hm.symm hj
theorem clrs_no : ∀ {cv : List Nat} {m : Ms} {i : Nat} {e : Ent}, (clrs cv m).g[i]? = some e → (m.g[i]? = some .no ∨ i ∈ cv) → e = .no
  | [], m, i, e, h, hm => by
    rcases hm with hm | hm
    · rw [show (clrs [] m).g = m.g from rfl, hm] at h
      cases h
      rfl
    · simp at hm
  | j :: cv, m, i, e, h, hm => by
    refine clrs_no (cv := cv) (m := clr j m) h ?_
    by_cases hi : i ∈ cv
    · exact .inr hi
    · left
      have hj : m.g[i]? = some .no ∨ i = j := by
        rcases hm with hm | hm
        · exact .inl hm
        · rcases List.mem_cons.mp hm with hm | hm
          · exact .inr hm
          · exact absurd hm hi
      have hlen : ∀ {cv : List Nat} {m : Ms}, (clrs cv m).g.length = m.g.length := by
        intro cv
        induction cv with
        | nil => intro m; rfl
        | cons x cv ih => intro m; rw [show clrs (x :: cv) m = clrs cv (clr x m) from rfl, ih]; simp [clr]
      have hlt := getq_lt' h
      rw [hlen] at hlt
      have : i < (clr j m).g.length := by simpa [clr] using hlt
      have h2 := List.getElem?_eq_getElem this
      rw [h2, clr_no h2 hj]
theorem backσ (E : EnvOk K c σ2 H (clrs cv m).g (clrs cv m).s us) (hw : wipe σ2 cv = wipe σ cv) : EnvOk K c (wipe σ cv) H (clrs cv m).g (clrs cv m).s us := by
  refine E.reσ (by rw [← hw, wipe_length]) fun i e he => ?_
  by_cases hi : i ∈ cv
  · exact .inl (clrs_no he (.inr hi))
  · right
    rw [← hw, wipe_get hi]
/-- the list at depth d gets one more item, that on top -/
theorem EnvOk.appAt {s : List Ent} {y : Tr} {yv : V} {acc : List Tr} (E : EnvOk K c σ H Γ (.tr y :: s) (yv :: us)) (hs : s[d]? = some (.tr (.nd .lst .own acc))) (hu : us[d]? = some (.ref D)) (he : esc y = true) :
    ∃ vs, H D = some (.lst vs) ∧ acc.length = vs.length ∧ EnvOk K c σ (upd H D (.lst (vs ++ [yv]))) Γ (s.set d (.tr (.nd .lst .own (acc ++ [y])))) us := by
  obtain ⟨Z, ws, Φ, Ψ, EE⟩ := id E
  obtain ⟨Θ, a, vs, Ξ, ea, ho, hlr, hn⟩ := EE.view (n := d + 1) (e := .tr (.nd .lst .own acc)) (v := .ref D) (by simpa using hs) (by simpa using hu) rfl
  cases ea
  have ho : H D = some (.lst vs) := ho
  have hn : Nod Z .lst .own D acc Ξ Θ := hn
  have hesc := (hn.own (by simp)).2.2
  refine ⟨vs, ho, RepL.len _ hlr, ?_⟩
  have s1 := split_at hs
  have u1 := split_at hu
  have hl := tail_len E
  have lus : s.length = us.length := by simpa using hl
  have hds := getq_lt' hs
  have E1 : EnvOk K c σ H Γ ([.tr y] ++ (s.take d ++ ([.tr (.nd .lst .own acc)] ++ s.drop (d + 1)))) ([yv] ++ (us.take d ++ ([.ref D] ++ us.drop (d + 1)))) := by rw [← s1, ← u1]; exact E
  have E2 := EnvOk.permM (P := [.tr y]) (vp := [yv]) rfl (by simp; omega) rfl E1
  have E3 := EnvOk.permA (A := [.tr y]) (B := [.tr (.nd .lst .own acc)]) (va := [yv]) (vb := [.ref D]) rfl rfl E2
  have E4 := EnvOk.mut (k := .lst) (k' := .lst) (ts := acc) (ts' := acc ++ [y]) (outs := []) (vouts := []) (vs' := vs ++ [yv]) (ob := .lst (vs ++ [yv])) (τ1 := [.tr y]) (us1 := [yv]) (τ := s.take d ++ s.drop (d + 1)) (us := us.take d ++ us.drop (d + 1)) E3 (by simp) (by simp) rfl ho
    (fun Z Ψa Ψb r1 r2 dd => ⟨_, by simpa [Ent.tree] using RepL.append _ r1 r2 dd, fun b q => q⟩) (by simpa using RepL.len _ hlr) rfl (escL_app hesc he) upd_same
  have E5 := EnvOk.permA (A := [.tr (.nd .lst .own (acc ++ [y]))]) (B := s.take d) (τ := s.drop (d + 1)) (va := [.ref D]) (vb := us.take d) (us := us.drop (d + 1)) rfl (by simp; omega) (by simpa using E4)
  have e6 : s.set d (.tr (.nd .lst .own (acc ++ [y]))) = s.take d ++ ([.tr (.nd .lst .own (acc ++ [y]))] ++ s.drop (d + 1)) := by
    rw [List.set_eq_take_append_cons_drop, if_pos hds]
    rfl
  rw [e6, u1]
  simpa using E5
theorem lcTurn_ok {gT : TG} {tt : TT} {te : TE} {s : List Ent} {x : V} {Nx : Hp → Prop} (hm : c.md = md) (hT : SGW K md cv gT bd) (hTt : ST K md WF tt gt) (hTe : SE K md WF te ge) (E : EnvOk K c (wipe σ cv) H Γ s (x :: us)) (hD : us[d]? = some (.ref D))
    (ht : lcTurn cv bd gt ge d ⟨Γ, s⟩ = some m') (hN : ∀ H', EnvOk K c (wipe σ cv) H' m'.g m'.s us → Nx H') :
    gT x (wipe σ cv) H fun σ2 H2 => wipe σ2 cv = wipe σ cv ∧ tt σ2 H2 fun b H3 => if b = true then te σ2 H3 fun y H4 => ∃ acc, H4 D = some (.lst acc) ∧ acc.length < sizeLine ∧ Nx (upd H4 D (.lst (acc ++ [y]))) else Nx H3 := by
  unfold lcTurn at ht
  split at ht
  · cases ht
  · rename_i m1 h1
    refine hT c σ H ⟨Γ, s⟩ m1 us x _ hm E h1 fun σ2 hw E2 => ⟨hw, ?_⟩
    split at ht
    · rename_i g2 s2 h2
      refine hTt c σ2 H m1 us _ _ hm E2 h2 fun H3 E3 => iteT ?_
      split at ht
      · rename_i g3 y s3 h3
        refine hTe c σ2 H3 ⟨g2, s2⟩ us _ _ hm E3 h3 fun yv H4 E4 => ?_
        split at ht
        · rename_i acc hacc
          split at ht
          · rename_i hc
            cases ht
            obtain ⟨vs, ho, hl, E5⟩ := EnvOk.appAt E4 hacc hD hc.1
            refine ⟨vs, ho, by rw [← hl]; exact hc.2.1, hN _ ?_⟩
            exact backσ (clrs_ok (m := ⟨g3, s3.set d (.tr (.nd .lst .own (acc ++ [y])))⟩) E5 hc.2.2) hw
          · cases ht
        · cases ht
      · cases ht
    · rename_i g2 s2 h2
      refine hTt c σ2 H m1 us _ _ hm E2 h2 fun H3 E3 => iteF ?_
      split at ht
      · rename_i hc
        cases ht
        exact hN _ (backσ (clrs_ok (m := ⟨g2, s2⟩) E3 hc) hw)
      · cases ht
    · cases ht
/-! over a range -/
def lcR (cv : List Nat) (bd : Ms → Option Ms) (gt ge : GE) (lo : Int) : Nat → Nat → Ms → Option Ms
  | 0, _, m => some m
  | r + 1, i, m => match lcTurn cv bd gt ge 0 ⟨m.g, .tr (.a (.int (lo + i))) :: m.s⟩ with
    | some m' => lcR cv bd gt ge lo r (i + 1) m'
    | none => none
theorem lcR_ok {gT : TG} {tt : TT} {te : TE} {lo : Int} {Q : VK} (hm : c.md = md) (hT : SGW K md cv gT bd) (hTt : ST K md WF tt gt) (hTe : SE K md WF te ge) {m : Ms} (E : EnvOk K c (wipe σ cv) H m.g m.s (.ref D :: us)) (hg : lcR cv bd gt ge lo n 0 m = some m') (hQ : ∀ H', EnvOk K c (wipe σ cv) H' m'.g m'.s (.ref D :: us) → Q (.ref D) H') :
    ∃ Wv : Nat → Nat → Hp → Prop, (∃ mm, Wv 0 mm H) ∧ ∀ i mm H, Wv i mm H →
      ((Itr lo n).stop i H ∧ Q (.ref D) H) ∨ ((Itr lo n).go i H ∧ ∃ Nx : Hp → Prop, (∀ H', Nx H' → ∃ m', m' < mm ∧ Wv (i + 1) m' H') ∧ ∀ x H', (Itr lo n).yld i H x H' → gT x (wipe σ cv) H' fun σ2 H2 => wipe σ2 cv = wipe σ cv ∧ tt σ2 H2 fun b H3 =>
        if b = true then te σ2 H3 fun y H4 => ∃ acc, H4 D = some (.lst acc) ∧ acc.length < sizeLine ∧ Nx (upd H4 D (.lst (acc ++ [y]))) else Nx H3) := by
  refine ⟨fun i r H => i + r = n ∧ ∃ m : Ms, EnvOk K c (wipe σ cv) H m.g m.s (.ref D :: us) ∧ lcR cv bd gt ge lo r i m = some m', ⟨n, by omega, m, E, hg⟩, ?_⟩
  rintro i r H ⟨hir, m, E, hg⟩
  cases r with
  | zero =>
    simp only [lcR] at hg
    cases hg
    exact .inl ⟨by show n ≤ i; omega, hQ H E⟩
  | succ r =>
    simp only [lcR] at hg
    split at hg
    · rename_i m1 h1
      refine .inr ⟨by show i < n; omega, fun H' => i + 1 + r = n ∧ ∃ m : Ms, EnvOk K c (wipe σ cv) H' m.g m.s (.ref D :: us) ∧ lcR cv bd gt ge lo r (i + 1) m = some m', fun H' z => ⟨r, by omega, z⟩, fun x H' y => ?_⟩
      obtain ⟨rfl, rfl⟩ := y
      exact lcTurn_ok (d := 0) hm hT hTt hTe (E.atom _) rfl h1 fun H2 E2 => ⟨by omega, m1, E2, hg⟩
    · cases hg
/-! over a list or tuple -/
def lcL (k : Nk) (cv : List Nat) (bd : Ms → Option Ms) (gt ge : GE) : Nat → Nat → Ms → Option Ms
  | 0, i, m => match m.s with
    | e :: _ => match viewE m.g e with
      | some (.nd k' _ ts) => if k' = k ∧ ts.length = i then some m else none
      | _ => none
    | _ => none
  | r + 1, i, m => match m.s with
    | e :: s => match viewE m.g e with
      | some (.nd k' o ts) => if k' = k ∧ cpE e = true ∧ ts.length = i + (r + 1) then match kidX e k o ts i with
          | some e' => match lcTurn cv bd gt ge 1 ⟨m.g, e' :: e :: s⟩ with
            | some m' => lcL k cv bd gt ge r (i + 1) m'
            | none => none
          | none => none
        else none
      | _ => none
    | _ => none
theorem lcL_ok {J : It} {gT : TG} {tt : TT} {te : TE} {Q : VK} {w : V} (hm : c.md = md) (hT : SGW K md cv gT bd) (hTt : ST K md WF tt gt) (hTe : SE K md WF te ge)
    (stop : ∀ i H Γ τ σ us e ts o, EnvOk K c σ H Γ (e :: τ) (w :: us) → viewE Γ e = some (.nd k o ts) → ts.length = i → J.stop i H)
    (step : ∀ i H Γ τ σ us e ts o e', EnvOk K c σ H Γ (e :: τ) (w :: us) → cpE e = true → viewE Γ e = some (.nd k o ts) → kidX e k o ts i = some e' → i < ts.length → J.go i H ∧ ∀ x H', J.yld i H x H' → H' = H ∧ EnvOk K c σ H Γ (e' :: e :: τ) (x :: w :: us))
    {m : Ms} (E : EnvOk K c (wipe σ cv) H m.g m.s (w :: .ref D :: us)) (hg : lcL k cv bd gt ge n 0 m = some m') (hQ : ∀ H', EnvOk K c (wipe σ cv) H' m'.g m'.s (w :: .ref D :: us) → Q (.ref D) H') :
    ∃ Wv : Nat → Nat → Hp → Prop, (∃ mm, Wv 0 mm H) ∧ ∀ i mm H, Wv i mm H →
      (J.stop i H ∧ Q (.ref D) H) ∨ (J.go i H ∧ ∃ Nx : Hp → Prop, (∀ H', Nx H' → ∃ m', m' < mm ∧ Wv (i + 1) m' H') ∧ ∀ x H', J.yld i H x H' → gT x (wipe σ cv) H' fun σ2 H2 => wipe σ2 cv = wipe σ cv ∧ tt σ2 H2 fun b H3 =>
        if b = true then te σ2 H3 fun y H4 => ∃ acc, H4 D = some (.lst acc) ∧ acc.length < sizeLine ∧ Nx (upd H4 D (.lst (acc ++ [y]))) else Nx H3) := by
  refine ⟨fun i r H => ∃ m : Ms, EnvOk K c (wipe σ cv) H m.g m.s (w :: .ref D :: us) ∧ lcL k cv bd gt ge r i m = some m', ⟨n, m, E, hg⟩, ?_⟩
  rintro i r H ⟨m, E, hg⟩
  cases r with
  | zero =>
    simp only [lcL] at hg
    split at hg
    · rename_i e s hs
      split at hg
      · rename_i k' o ts hv
        split at hg
        · rename_i hl
          cases hg
          obtain ⟨rfl, hl⟩ := hl
          exact .inl ⟨stop i H m'.g s (wipe σ cv) _ e ts o (hs ▸ E) hv hl, hQ H E⟩
        · cases hg
      · cases hg
    · cases hg
  | succ r =>
    simp only [lcL] at hg
    split at hg
    · rename_i e s hs
      split at hg
      · rename_i k' o ts hv
        split at hg
        · rename_i hl
          obtain ⟨rfl, hl⟩ := hl
          split at hg
          · rename_i e' hk
            split at hg
            · rename_i m1 h1
              obtain ⟨go, yld⟩ := step i H m.g s (wipe σ cv) _ e ts o e' (hs ▸ E) hl.1 hv hk (by have := hl.2; omega)
              refine .inr ⟨go, fun H' => ∃ m : Ms, EnvOk K c (wipe σ cv) H' m.g m.s (w :: .ref D :: us) ∧ lcL k' cv bd gt ge r (i + 1) m = some m', fun H' z => ⟨r, by omega, z⟩, fun x H' y => ?_⟩
              obtain ⟨rfl, E1⟩ := yld x H' y
              exact lcTurn_ok (d := 1) hm hT hTt hTe E1 rfl h1 fun H2 E2 => ⟨m1, E2, hg⟩
            · cases hg
          · cases hg
        · cases hg
      · cases hg
    · cases hg
end
section
variable {K : KC} {X : Cx} {T : KT} {md mdc : List Bool} {W : WX} {c : Cz} {σ σ' σ2 : St} {H H' : Hp} {Γ τ τ1 A B P : List Ent} {us us0 us1 vs vs' : List V} {v w : V} {p q : List Nat} {t : Tr} {ts ts' : List Tr} {k k' : Nk} {i j n d h : Nat} {a D : Addr} {en en' : Ent} {o : Ow} {Z : Zn} {ws : List V} {Φ Ψ : Ps} {m m' : Ms} {g ge gt gs ga : GE} {e b tg iter elt : Expr} {ifs : List Expr} {bd : Ms → Option Ms} {cv : List Nat} {gT : TG} {tt : TT} {te : TE} {pos pos' rp : Pos} {scope : Scope} {own : List (Str × Nat)}
theorem allNo_ok : ∀ {cv : List Nat}, allNo Γ cv = true → ∀ i ∈ cv, Γ[i]? = some .no
  | [], _, i, hi => by simp at hi
  | j :: cv, h, i, hi => by
    simp only [allNo, Bool.and_eq_true] at h
    rcases List.mem_cons.mp hi with z | z
    · subst z
      have := h.1
      split at this
      · rename_i h1
        exact h1
      · cases this
    · exact allNo_ok h.2 i z
theorem toW (E : EnvOk K c σ H Γ τ us) (h : allNo Γ cv = true) : EnvOk K c (wipe σ cv) H Γ τ us := by
  refine E.reσ (by rw [wipe_length]) fun i e he => ?_
  by_cases hi : i ∈ cv
  · have := allNo_ok h i hi
    rw [this] at he
    cases he
    exact .inl rfl
  · exact .inr (wipe_get hi)
theorem fromW (E : EnvOk K c (wipe σ cv) H Γ τ us) (h : allNo Γ cv = true) : EnvOk K c σ H Γ τ us := by
  refine E.reσ (by rw [wipe_length]) fun i e he => ?_
  by_cases hi : i ∈ cv
  · have := allNo_ok h i hi
    rw [this] at he
    cases he
    exact .inl rfl
  · exact .inr (wipe_get hi).symm
theorem st_yes : ST K md W tYes (gC (.bl true)) := by
  intro c σ H m us Q rr hc E hg hp
  cases hg
  exact hp H E
/-- [elt for tg in iter if ..]: over a list or tuple -/
def gLc (cv : List Nat) (gs : GE) (bd : Ms → Option Ms) (gt ge : GE) : GE := fun m => match gs m with
  | some (.ok m1) => match ready m1 with
    | some (m2, k, n) => match m2.s with
      | e :: s => if allNo m2.g cv = true then match lcL k cv bd gt ge n 0 ⟨m2.g, e :: .tr (.nd .lst .own []) :: s⟩ with
          | some m3 => if allNo m3.g cv = true then some (.ok ⟨m3.g, m3.s.tail⟩) else none
          | none => none
        else none
      | _ => none
    | none => none
  | some (.ex C g) => some (.ex C g)
  | none => none
theorem EnvOk.empty {s : List Ent} (E : EnvOk K c σ H Γ s us) (hD : H D = none) : EnvOk K c σ (upd H D (.lst [])) Γ (.tr (.nd .lst .own []) :: s) (.ref D :: us) :=
  EnvOk.new (ts := []) (vs := []) (k := .lst) E rfl hD rfl fun o => upd_same
theorem ready_kind {m m' : Ms} (h : ready m = some (m', k, n)) : k = .lst ∨ k = .tup := by
  unfold ready at h
  split at h
  · split at h
    · rename_i hk
      cases h
      exact hk
    · cases h
  · split at h
    · cases h
      exact .inl rfl
    · cases h
  · cases h
theorem stopL {aa : Addr} : ∀ i H Γ τ σ us e ts o, EnvOk K c σ H Γ (e :: τ) (.ref aa :: us) → viewE Γ e = some (.nd .lst o ts) → ts.length = i → (Itl K.K aa).stop i H := fun i H Γ τ σ us e ts o E hv hl => by
  obtain ⟨a', vs', e, ho, hl2⟩ := viewObj E hv
  cases e
  exact ⟨vs', objL ho, by omega⟩
theorem stepL {aa : Addr} : ∀ i H Γ τ σ us e ts o e', EnvOk K c σ H Γ (e :: τ) (.ref aa :: us) → cpE e = true → viewE Γ e = some (.nd .lst o ts) → kidX e .lst o ts i = some e' → i < ts.length → (Itl K.K aa).go i H ∧ ∀ x H', (Itl K.K aa).yld i H x H' → H' = H ∧ EnvOk K c σ H Γ (e' :: e :: τ) (x :: .ref aa :: us) := fun i H Γ τ σ us e ts o e' E hcp hv hk hi => by
  obtain ⟨a', vs', w', e, ho, hl2, hw, E3⟩ := EnvOk.kidX E (cpE_tr hcp) hv hk
  cases e
  refine ⟨⟨vs', w', objL ho, hw⟩, fun x H' y => ?_⟩
  obtain ⟨rfl, y⟩ := y
  have := y vs' (objL ho)
  rw [hw] at this
  cases this
  exact ⟨rfl, E3⟩
theorem stopT {aa : Addr} : ∀ i H Γ τ σ us e ts o, EnvOk K c σ H Γ (e :: τ) (.ref aa :: us) → viewE Γ e = some (.nd .tup o ts) → ts.length = i → (Itt K.K aa).stop i H := fun i H Γ τ σ us e ts o E hv hl => by
  obtain ⟨a', vs', e, ho, hl2⟩ := viewObj E hv
  cases e
  exact ⟨vs', objT ho, by omega⟩
theorem stepT {aa : Addr} : ∀ i H Γ τ σ us e ts o e', EnvOk K c σ H Γ (e :: τ) (.ref aa :: us) → cpE e = true → viewE Γ e = some (.nd .tup o ts) → kidX e .tup o ts i = some e' → i < ts.length → (Itt K.K aa).go i H ∧ ∀ x H', (Itt K.K aa).yld i H x H' → H' = H ∧ EnvOk K c σ H Γ (e' :: e :: τ) (x :: .ref aa :: us) := fun i H Γ τ σ us e ts o e' E hcp hv hk hi => by
  obtain ⟨a', vs', w', e, ho, hl2, hw, E3⟩ := EnvOk.kidX E (cpE_tr hcp) hv hk
  cases e
  refine ⟨⟨vs', w', objT ho, hw⟩, fun x H' y => ?_⟩
  obtain ⟨rfl, y⟩ := y
  have := y vs' (objT ho)
  rw [hw] at this
  cases this
  exact ⟨rfl, E3⟩
theorem se_lc {tl : TE} (si : SE K md W tl gs) (hT : SGW K md cv gT bd) (hTt : ST K md WF tt gt) (hTe : SE K md WF te ge) : SE K md W (tLc (fun σ H R => iList K.K tl σ H R ∨ iTup K.K tl σ H R) gT tt te cv) (gLc cv gs bd gt ge) := by
  intro c σ H m us Q rr hm E hg hp
  simp only [gLc] at hg
  split at hg
  · rename_i m1 h1
    split at hg
    · rename_i m2 k n h2
      split at hg
      · rename_i e s hs
        split at hg
        · rename_i hn1
          split at hg
          · rename_i m3 h3
            split at hg
            · rename_i hn2
              cases hg
              rcases ready_kind h2 with rfl | rfl
              · refine .inl (si c σ H m us _ _ hm E h1 fun x H1 E1 => ?_)
                obtain ⟨E2, e2, s2, o, ts, hs2, hv, _⟩ := ready_ok E1 h2
                rw [hs] at hs2
                cases hs2
                rw [hs] at E2
                obtain ⟨aa, vs, rfl, ho, _⟩ := viewObj E2 hv
                refine ⟨aa, rfl, ⟨vs, objL ho⟩, fun D hD => ?_⟩
                have E3 := EnvOk.swap2 ((toW E2 hn1).empty hD)
                exact lcL_ok hm hT hTt hTe stopL stepL (m := ⟨m2.g, e :: .tr (.nd .lst .own []) :: s⟩) E3 h3 fun H' E4 => hp _ H' (fromW E4 hn2).tail
              · refine .inr (si c σ H m us _ _ hm E h1 fun x H1 E1 => ?_)
                obtain ⟨E2, e2, s2, o, ts, hs2, hv, _⟩ := ready_ok E1 h2
                rw [hs] at hs2
                cases hs2
                rw [hs] at E2
                obtain ⟨aa, vs, rfl, ho, _⟩ := viewObj E2 hv
                refine ⟨aa, rfl, ⟨vs, objT ho⟩, fun D hD => ?_⟩
                have E3 := EnvOk.swap2 ((toW E2 hn1).empty hD)
                exact lcL_ok hm hT hTt hTe stopT stepT (m := ⟨m2.g, e :: .tr (.nd .lst .own []) :: s⟩) E3 h3 fun H' E4 => hp _ H' (fromW E4 hn2).tail
            · cases hg
          · cases hg
        · cases hg
      · cases hg
    · cases hg
  · rename_i h1
    cases hg
    exact .inl (si c σ H m us _ _ hm E h1 hp)
  · cases hg
def gLcR1 (cv : List Nat) (ga : GE) (bd : Ms → Option Ms) (gt ge : GE) : GE := fun m => match ga m with
  | some (.ok ⟨g', .tr (.a (.int j)) :: s⟩) => if -(2 ^ 62) ≤ j ∧ j < 2 ^ 62 ∧ allNo g' cv = true then match lcR cv bd gt ge 0 j.toNat 0 ⟨g', .tr (.nd .lst .own []) :: s⟩ with
      | some m3 => if allNo m3.g cv = true then some (.ok m3) else none
      | none => none
    else none
  | some (.ex C g) => some (.ex C g)
  | _ => none
def gLcR2 (cv : List Nat) (ga : GE) (bd : Ms → Option Ms) (gt ge : GE) : GE := fun m => match ga m with
  | some (.ok ⟨g', .tr (.a (.int j)) :: .tr (.a (.int i)) :: s⟩) => if -(2 ^ 62) ≤ i ∧ i < 2 ^ 62 ∧ -(2 ^ 62) ≤ j ∧ j < 2 ^ 62 ∧ allNo g' cv = true then match lcR cv bd gt ge i (j - i).toNat 0 ⟨g', .tr (.nd .lst .own []) :: s⟩ with
      | some m3 => if allNo m3.g cv = true then some (.ok m3) else none
      | none => none
    else none
  | some (.ex C g) => some (.ex C g)
  | _ => none
theorem se_lcR1 {ta : TA} (sa : SA K md W 1 ta ga) (hT : SGW K md cv gT bd) (hTt : ST K md WF tt gt) (hTe : SE K md WF te ge) : SE K md W (tLc (iRng1 ta) gT tt te cv) (gLcR1 cv ga bd gt ge) := by
  intro c σ H m us Q rr hm E hg hp
  simp only [gLcR1] at hg
  split at hg
  · rename_i g' j s h1
    split at hg
    · rename_i hb
      split at hg
      · rename_i m3 h3
        split at hg
        · rename_i hn2
          cases hg
          refine sa c σ H m us _ _ hm E h1 fun vs H1 hl E1 => ?_
          match vs, hl with
          | [x], _ =>
            have E1 : EnvOk K c σ H1 g' (.tr (.a (.int j)) :: s) (x :: us) := E1
            cases top_a E1
            refine ⟨j, rfl, hb.1, hb.2.1, fun D hD => ?_⟩
            exact lcR_ok hm hT hTt hTe (m := ⟨g', .tr (.nd .lst .own []) :: s⟩) ((toW E1.drop hb.2.2).empty hD) h3 fun H' E4 => hp _ H' (fromW E4 hn2)
        · cases hg
      · cases hg
    · cases hg
  · rename_i h1
    cases hg
    exact sa c σ H m us _ _ hm E h1 hp
  · cases hg
theorem se_lcR2 {ta : TA} (sa : SA K md W 2 ta ga) (hT : SGW K md cv gT bd) (hTt : ST K md WF tt gt) (hTe : SE K md WF te ge) : SE K md W (tLc (iRng2 ta) gT tt te cv) (gLcR2 cv ga bd gt ge) := by
  intro c σ H m us Q rr hm E hg hp
  simp only [gLcR2] at hg
  split at hg
  · rename_i g' j i s h1
    split at hg
    · rename_i hb
      split at hg
      · rename_i m3 h3
        split at hg
        · rename_i hn2
          cases hg
          refine sa c σ H m us _ _ hm E h1 fun vs H1 hl E1 => ?_
          match vs, hl with
          | [x, y], _ =>
            have E1 : EnvOk K c σ H1 g' (.tr (.a (.int j)) :: .tr (.a (.int i)) :: s) (y :: x :: us) := E1
            cases top_a E1
            cases top_a E1.drop
            refine ⟨i, j, rfl, ⟨hb.1, hb.2.1, hb.2.2.1, hb.2.2.2.1⟩, fun D hD => ?_⟩
            exact lcR_ok hm hT hTt hTe (m := ⟨g', .tr (.nd .lst .own []) :: s⟩) ((toW E1.drop.drop hb.2.2.2.2).empty hD) h3 fun H' E4 => hp _ H' (fromW E4 hn2)
        · cases hg
      · cases hg
    · cases hg
  · rename_i h1
    cases hg
    exact sa c σ H m us _ _ hm E h1 hp
  · cases hg
end
section
variable {K : KC} {X : Cx} {T : KT} {md mdc : List Bool} {W : WX} {c : Cz} {σ σ' σ2 : St} {H H' : Hp} {Γ τ : List Ent} {us vs : List V} {v w : V} {i j n : Nat} {m m' : Ms} {g ge gt gs ga gk : GE} {e b tg iter elt cnd : Expr} {es : List Expr} {pos pos' rp : Pos} {scope : Scope} {x y : Str} {G : GF} {kk : Nat} {f C : Addr} {fd : FuncData} {ps : List Str} {pp apos : Pos} {me : Str} {is : List Nat}
theorem se_wp : SE K md W (wpE K md W g) g := fun c σ H m us Q r hc E hg hp => ⟨c, m, us, r, hc, E, hg, hp⟩
theorem me_lcR10 (ha : MA X T md W [e] ga) (ok : BlkOk X.N X.env.scope scope [(x, i)]) (hg : ∀ (s : Shared) (H : Hp) (C : Addr) (cl : List (Str × Addr)) (fp : List Addr), PG (X.blk s H scope (compEnvC scope cl C X.env) fp) tg (gName i))
    (he : ∀ (s : Shared) (H : Hp) (C : Addr) (cl : List (Str × Addr)) (fp : List Addr), ME (X.blk s H scope (compEnvC scope cl C X.env) fp) T md WF elt ge)
    (hgl : Gl X "range") (hmg : X.mg "range" = none) (hc : X.calm = true) (hN : X.N.Nodup) (hs : starEach [e] X.env = [(false, eval e X.env)] := by rfl) (hf : ∀ x, foldedSetIterable (.Call (.Name "range" rp) [e] [] pos') X.env x = pure x := by intro _; rfl) : ME X T md W (.ListComp elt [⟨tg, .Call (.Name "range" rp) [e] [] pos', [], 0⟩] scope pos) (gLcR1 [i] ga (bind md i) (gC (.bl true)) ge) := by
  obtain ⟨ti, pi, si⟩ := ha
  exact ⟨_, pe_lc (te := wpE (kcm X.K T) md WF ge) hc hN (pi_range1 hgl hmg pi hs) ok hg (fun s H C cl fp => pts_nil) (fun s H C cl fp => (he s H C cl fp).pe) hf, se_lcR1 si sgw_name st_yes se_wp⟩
theorem me_lcR20 (ha : MA X T md W [e, b] ga) (ok : BlkOk X.N X.env.scope scope [(x, i)]) (hg : ∀ (s : Shared) (H : Hp) (C : Addr) (cl : List (Str × Addr)) (fp : List Addr), PG (X.blk s H scope (compEnvC scope cl C X.env) fp) tg (gName i))
    (he : ∀ (s : Shared) (H : Hp) (C : Addr) (cl : List (Str × Addr)) (fp : List Addr), ME (X.blk s H scope (compEnvC scope cl C X.env) fp) T md WF elt ge)
    (hgl : Gl X "range") (hmg : X.mg "range" = none) (hc : X.calm = true) (hN : X.N.Nodup) (hs : starEach [e, b] X.env = [(false, eval e X.env), (false, eval b X.env)] := by rfl) (hs2 : starEach [b] X.env = [(false, eval b X.env)] := by rfl) (hf : ∀ x, foldedSetIterable (.Call (.Name "range" rp) [e, b] [] pos') X.env x = pure x := by intro _; rfl) : ME X T md W (.ListComp elt [⟨tg, .Call (.Name "range" rp) [e, b] [] pos', [], 0⟩] scope pos) (gLcR2 [i] ga (bind md i) (gC (.bl true)) ge) := by
  obtain ⟨ti, pi, si⟩ := ha
  exact ⟨_, pe_lc (te := wpE (kcm X.K T) md WF ge) hc hN (pi_range2 hgl hmg pi hs hs2) ok hg (fun s H C cl fp => pts_nil) (fun s H C cl fp => (he s H C cl fp).pe) hf, se_lcR2 si sgw_name st_yes se_wp⟩
/-- a statement by its own rule, from a value's term: the rule of the statement, and the machine's term of the value -/
theorem ms_asgOf {st : Stmt} {te : TE} (hp : PS X st (tAsg te (gName i))) (s : SE (kcm X.K T) md W te ge) : MS X T md W st (sSet md i ge) := ⟨_, hp, ss_set s⟩
/-! constants of a class -/
theorem me_cval {u : Value} {mc : Value} (he : PE X e (tC (.ref C))) (r : ClX.CRead X.K C mc) (k : ClX.CVal X.K C mc me v u) (hb : attributeBase e me X.env (eval e X.env) = eval e X.env := by rfl) : ME X T md W (.Attribute e me pos) (gC v) := by
  refine ⟨_, ClX.pe_cval he hb, fun c σ H m us Q rr hc E hg hp => ?_⟩
  cases hg
  exact ⟨C, mc, v, u, rfl, r, k, hp v H (E.atom v)⟩
/-! calls that let nothing out -/
def noEx (g : GE) : GE := fun m => match g m with
  | some (.ok m') => some (.ok m')
  | _ => none
def MKw (X : Cx) (T : KT) (md : List Bool) (W : WX) (kws : List Keyword) (g : GE) : Prop := ∃ t, PK X kws t ∧ SA (kcm X.K T) md W kws.length t g
theorem mk_nil : MKw X T md W [] gNil := ⟨_, pk_nil, fun c σ H m us Q rr hc E hg hp => by
  cases hg
  exact hp [] H rfl E⟩
theorem mk_cons {kws : List Keyword} {nm : Option Str} {kpos : Pos} (ha : ME X T md W e ge) (hr : MKw X T md W kws gk) : MKw X T md W (⟨nm, e, kpos⟩ :: kws) (gSeq ge gk) := by
  obtain ⟨t, p, s⟩ := ha
  obtain ⟨t', p', s'⟩ := hr
  refine ⟨_, pk_cons p p', fun c σ H m us Q rr hc E hg hp => ?_⟩
  simp only [gSeq] at hg
  split at hg
  · rename_i m1 h1
    refine s c σ H m us _ _ hc E h1 fun x H1 E1 => s' c σ H1 m1 _ _ _ hc E1 hg ?_
    cases rr with
    | ex C g' => exact hp
    | ok m2 => exact fun vs H2 hl E2 => hp (x :: vs) H2 (by simp [hl]) (by simpa using E2)
  · rename_i h1
    refine s c σ H m us _ _ hc E hg ?_
    cases rr with
    | ex C g' => exact hp
    | ok m2 => exact absurd hg (h1 m2)
end
/-! static methods and class constants, read off the class -/
structure SMet (K : PySem.W.Frag) (C : Addr) (m : Str) (g : Addr) : Prop where
  rd : ClX.CRead K C (.type "type")
  at_ : ∃ p rest, PySem.W.findCls K (.ref C) (.type "type") m = some (.get (.builtin "staticmethod.__get__") (.ref p) .none (.ref C)) ∧ PySem.W.recIn K p "staticmethod" = some (.ref g :: rest)
  kp : PySem.W.keepIn K (.ref g) = true
section
variable {X : Cx} {CX : CXT} {k : Nat} {C g : Addr} {sp : Sp} {E : XK} {o e : Expr} {es : List Expr} {m : Str} {pos apos : Pos} {ta : TE} {t : TA} {pl : Sem Bool} {fd : FuncData} {ps : List Str} {ds : List Value} {dvs : List V}
end
theorem kit_true {K : PySem.W.Frag} {C D : Addr} (hd : PySem.W.hasDictIn K D = true) (ht : PySem.W.typeIn K (.ref D) = some (.type "type")) (h : PySem.W.subIn K (.ref C) (.ref D) = some true) : PySem.W.kitOne K (.ref C) (.ref D) = some true := by
  unfold PySem.W.kitOne
  split
  · rfl
  · obtain ⟨cd, hc, _⟩ := PySem.W.any_some hd
    show (if ((PySem.W.clsIn K D).isSome && PySem.W.typeIn K (.ref D) == some (.type "type")) = true then PySem.W.subIn K (.ref C) (.ref D) else none) = _
    have e2 : ((PySem.W.clsIn K D).isSome && PySem.W.typeIn K (.ref D) == some (.type "type")) = true := by rw [hc, ht] <;> rfl
    rw [if_pos e2]
    exact h
theorem kit_false {K : PySem.W.Frag} {C D : Addr} (hd : PySem.W.hasDictIn K D = true) (ht : PySem.W.typeIn K (.ref D) = some (.type "type")) (h : PySem.W.subIn K (.ref C) (.ref D) = some false) (hs : PySem.W.subIn K (.ref C) (.ref C) = some true) : PySem.W.kitOne K (.ref C) (.ref D) = some false := by
  unfold PySem.W.kitOne
  split
  · rename_i q
    have e : C = D := Value.ref.inj (beq_iff_eq.mp q)
    rw [← e, hs] at h
    cases h
  · obtain ⟨cd, hc, _⟩ := PySem.W.any_some hd
    show (if ((PySem.W.clsIn K D).isSome && PySem.W.typeIn K (.ref D) == some (.type "type")) = true then PySem.W.subIn K (.ref C) (.ref D) else none) = _
    have e2 : ((PySem.W.clsIn K D).isSome && PySem.W.typeIn K (.ref D) == some (.type "type")) = true := by rw [hc, ht] <;> rfl
    rw [if_pos e2]
    exact h
theorem kit_type {K : PySem.W.Frag} {C : Addr} {S : String} {b : Bool} (hm : PySem.W.kitMeta S = true) (h : PySem.W.subIn K (.ref C) (.type S) = some b) : PySem.W.kitOne K (.ref C) (.type S) = some b := by
  show (if (Value.ref C == Value.type S) = true then _ else if PySem.W.kitMeta S = true then PySem.W.subIn K (.ref C) (.type S) else none) = some b
  rw [if_neg (by intro q; cases (beq_iff_eq.mp q)), if_pos hm]
  exact h
section
variable {K : KC} {X : Cx} {T : KT} {md mdc : List Bool} {W : WX} {c : Cz} {σ σ' σ2 : St} {H H' : Hp} {Γ τ : List Ent} {us vs : List V} {v w : V} {i j n : Nat} {m m' : Ms} {g ge gt gs ga gk gv go gi fo : GE} {gb : GS} {e b tg iter elt cnd oe ie : Expr} {es : List Expr} {pos pos' rp tpos : Pos} {x y : Str} {G : GF} {kk : Nat} {f C : Addr} {fd : FuncData} {ps : List Str} {pp apos : Pos} {me fl : Str} {is : List Nat} {pl : Sem Bool} {ts : List Tr} {t : Tr} {sts : List Stmt} {st : Stmt}
/-! several names at once -/
def bindAll (md : List Bool) : List Nat → Ms → Option Ms
  | [], m => some m
  | i :: is, m => match bind md i m with
    | some m' => bindAll md is m'
    | none => none
def tNames : List Nat → TGs
  | [] => L2.gNil
  | i :: is => gCons (gName i) (tNames is)
theorem bindAll_ok (hc : c.md = md) : ∀ {is : List Nat} {xs : List V} {m m' : Ms} {σ : St} {Q : St → Hp → Prop}, xs.length = is.length → EnvOk K c σ H m.g m.s (xs ++ us) → bindAll md is m = some m' → (∀ σ', EnvOk K c σ' H m'.g m'.s us → Q σ' H) → tNames is xs σ H Q
  | [], [], m, m', σ, Q, _, E, h, hq => by
    simp only [bindAll] at h
    cases h
    exact ⟨rfl, hq σ E⟩
  | i :: is, x :: xs, m, m', σ, Q, hl, E, h, hq => by
    simp only [bindAll] at h
    split at h
    · rename_i m1 h1
      exact ⟨x, xs, rfl, bindAll_ok hc (by simpa using hl) (bind_ok hc E h1) h hq⟩
    · cases h
  | [], _ :: _, _, _, _, _, hl, _, _, _ => by simp at hl
  | _ :: _, [], _, _, _, _, hl, _, _, _ => by simp at hl
def unpkP (md : List Bool) : List Nat → Nat → Ms → Option Ms
  | [], _, m => some ⟨m.g, m.s.tail⟩
  | i :: is, j, m => match m.s with
    | .al p :: s => match getG m.g p with
      | some (.nd .lst .own ts) => match kidX (.al p) .lst .own ts j with
        | some e' => match bind md i ⟨m.g, e' :: .al p :: s⟩ with
          | some m' => unpkP md is (j + 1) m'
          | none => none
        | none => none
      | _ => none
    | _ => none
def unpk (md : List Bool) (is : List Nat) : Ms → Option Ms := fun m => match m.s with
  | .tr (.nd k o ts) :: s => if (k = .lst ∨ k = .tup) ∧ ts.length = is.length then bindAll md is ⟨m.g, (ts.map (kid o)).map Ent.tr ++ s⟩ else none
  | .al p :: s => match getG m.g p with
    | some (.nd .lst .own ts) => if ts.length = is.length then unpkP md is 0 ⟨m.g, .al p :: s⟩ else none
    | _ => none
  | _ => none
theorem unpkP_ok {aa : Addr} (hc : c.md = md) (hH : H aa = some (.lst vs)) : ∀ {is : List Nat} {j : Nat} {m m' : Ms} {σ : St} {Q : St → Hp → Prop}, j + is.length = vs.length → EnvOk K c σ H m.g m.s (.ref aa :: us) → unpkP md is j m = some m' → (∀ σ', EnvOk K c σ' H m'.g m'.s us → Q σ' H) → tNames is (vs.drop j) σ H Q
  | [], j, m, m', σ, Q, hl, E, h, hq => by
    simp only [unpkP] at h
    cases h
    exact ⟨List.drop_of_length_le (by simp at hl; omega), hq σ E.tail⟩
  | i :: is, j, m, m', σ, Q, hl, E, h, hq => by
    simp only [unpkP] at h
    split at h
    · rename_i p s hs
      split at h
      · rename_i ts hg
        split at h
        · rename_i e' hk
          split at h
          · rename_i m1 h1
            rw [hs] at E
            obtain ⟨a', vs', w', ea, ho, hl2, hw, E1⟩ := EnvOk.kidX E (fun t q => by cases q) (k := .lst) (o := .own) (ts := ts) hg hk
            cases ea
            have ho : H aa = some (.lst vs') := ho
            rw [hH] at ho
            cases ho
            have hjl := getq_lt' hw
            have ed : vs.drop j = w' :: vs.drop (j + 1) := by rw [List.drop_eq_getElem_cons hjl, (List.getElem?_eq_some_iff.mp hw).2]
            rw [ed]
            exact ⟨w', _, rfl, unpkP_ok hc hH (by simp at hl; omega) (bind_ok hc E1 h1) h hq⟩
          · cases h
        · cases h
      · cases h
    · cases h
theorem zip_rev {α β : Type} : ∀ {l : List α} {r : List β}, l.length = r.length → l.reverse.zip r.reverse = (l.zip r).reverse
  | [], [], _ => rfl
  | a :: l, b :: r, h => by
    rw [List.reverse_cons, List.reverse_cons, List.zip_cons_cons, List.reverse_cons, List.zip_append (by simpa using h), zip_rev (by simpa using h)]
    rfl
theorem EnvOk.revs {s : List Ent} (hl : ts.length = vs.length) (E : EnvOk K c σ H Γ (ts.reverse.map Ent.tr ++ s) (vs.reverse ++ us)) : EnvOk K c σ H Γ (ts.map Ent.tr ++ s) (vs ++ us) := by
  have lt : s.length = us.length := by
    have := tail_len E
    simp at this
    omega
  have h := EnvOk.perm (K := K) (c := c) (σ := σ) (H := H) (Γ := Γ) (l := (ts.map Ent.tr).reverse.zip vs.reverse ++ s.zip us) (l' := (ts.map Ent.tr).zip vs ++ s.zip us) (by
    refine List.Perm.append_right _ ?_
    rw [zip_rev (by simpa using hl)]
    exact List.reverse_perm _)
  have l1 : (ts.map Ent.tr).length = vs.length := by simpa using hl
  simp only [List.map_append, List.map_fst_zip (Nat.le_of_eq l1), List.map_snd_zip (Nat.le_of_eq l1.symm), List.map_fst_zip (Nat.le_of_eq lt), List.map_snd_zip (Nat.le_of_eq lt.symm)] at h
  rw [List.map_fst_zip (by simp; omega), List.map_snd_zip (by simp; omega)] at h
  exact h (by simpa using E)
theorem PG.or {t1 t2 : TG} (h1 : PG X tg t1) (h2 : PG X tg t2) : PG X tg (fun v σ H Q => t1 v σ H Q ∨ t2 v σ H Q) := by
  refine ⟨fun pins s σ H v u Q I r h => ?_⟩
  rcases h with h | h
  · exact h1.run pins s σ H v u Q I r h
  · exact h2.run pins s σ H v u Q I r h
theorem sg_unp : SG K md (fun v σ H Q => gTup K.K is.length (tNames is) v σ H Q ∨ gLst K.K is.length (tNames is) v σ H Q) (unpk md is) := by
  intro c σ H m m' us x Q hc E h hq
  unfold unpk at h
  split at h
  · rename_i k o ts s hs
    split at h
    · rename_i hk
      rw [hs] at E
      obtain ⟨ad, vs, rfl, ho, hl, _, E1⟩ := EnvOk.items (ts' := ts.map (kid o)) E (by rfl) (by rfl)
      have E2 := EnvOk.revs (ts := ts.map (kid o)) (by simpa using hl) E1
      rcases hk.1 with rfl | rfl
      · exact .inr ⟨ad, vs, rfl, objL ho, by omega, bindAll_ok (m := ⟨m.g, (ts.map (kid o)).map Ent.tr ++ s⟩) hc (by omega) E2 h fun σ' E3 => hq σ' H E3⟩
      · exact .inl ⟨ad, vs, rfl, objT ho, by omega, bindAll_ok (m := ⟨m.g, (ts.map (kid o)).map Ent.tr ++ s⟩) hc (by omega) E2 h fun σ' E3 => hq σ' H E3⟩
    · cases h
  · rename_i p s hs
    split at h
    · rename_i ts hg
      split at h
      · rename_i hl
        rw [hs] at E
        obtain ⟨ad, vs, rfl, ho, hl2⟩ := viewObj E (k := .lst) (o := .own) (ts := ts) hg
        have hb := unpkP_ok (m := ⟨m.g, .al p :: s⟩) (j := 0) hc ho (by omega) E h (fun σ' E3 => hq σ' H E3)
        exact .inr ⟨ad, vs, rfl, objL ho, by omega, by simpa using hb⟩
      · cases h
    · cases h
  · cases h
theorem mg_unp (h1 : PG X tg (gTup X.K is.length (tNames is))) (h2 : PG X tg (gLst X.K is.length (tNames is))) : MG X T md tg (unpk md is) := ⟨_, PG.or h1 h2, sg_unp⟩
/-- target = e, by the target's machine -/
def sAsg (ge : GE) (bd : Ms → Option Ms) : GS := fun m => match ge m with
  | some (.ok m1) => match bd m1 with
    | some m2 => some (.nx m2)
    | none => none
  | some (.ex C g) => some (.ex C g)
  | none => none
/-- a, b = x, y -/
def sPar (md : List Bool) (i j : Nat) (ga : GE) : GS := fun m => match ga m with
  | some (.ok ⟨g', y :: x :: s⟩) => match bindAll md [i, j] ⟨g', x :: y :: s⟩ with
    | some m2 => some (.nx m2)
    | none => none
  | some (.ex C g) => some (.ex C g)
  | _ => none
/-! raise -/
def sRaise (C : Nat) : GS := fun m => some (.ex C m.g)
theorem ms_raise {n : Nat} (hc : X.calm = true) (tk : Takes X W) (he : PMk X e (fun _ H Q => Q (.ref (T.et n)) none H)) (hf : T.ef n = none := by rfl) : MS X T md W (.Raise (some e) none pos) (sRaise n) := by
  refine ⟨_, L2N.ps_raise hc tk he, fun c σ H m us D o hc E hg hp => ?_⟩
  cases hg
  exact hp σ (H, none) (EnvX.mk0 hf E.dropAll)
end
section
variable {K : KC} {X : Cx} {T : KT} {md mdc : List Bool} {W : WX} {c : Cz} {σ σ' σ2 : St} {H H' : Hp} {Γ τ : List Ent} {us vs : List V} {v w : V} {i j n : Nat} {m m' : Ms} {g ge gt gs ga gk gv go gi fo : GE} {gb : GS} {e b oe ie : Expr} {es : List Expr} {pos pos' rp tpos : Pos} {fl : Str} {tab : List (Nat × Nat)} {op : Operator}
/-! o.f op= e -/
def sFAug (tab : List (Nat × Nat)) (go gv fo : GE) : GS := fun m => match go m with
  | some (.ok ⟨g1, .al p :: s1⟩) => match getG g1 p with
    | some (.nd (.ins n k) .own ts) => match tab.lookup n with
      | some j => match ts[j]? with
        | some (.a u) => match gv ⟨g1, .tr (.a u) :: .al p :: s1⟩ with
          | some (.ok m2) => match fo m2 with
            | some (.ok ⟨g3, .tr (.a z) :: e3 :: s3⟩) => match viewE g3 e3 with
              | some (.nd (.ins n' _) _ _) => if n' = n then match stFld tab ⟨g3, e3 :: .tr (.a z) :: s3⟩ with
                  | some m4 => some (.nx m4)
                  | none => none
                else none
              | _ => none
            | _ => none
          | some (.ex C g) => some (.ex C g)
          | none => none
        | _ => none
      | none => none
    | _ => none
  | some (.ex C g) => some (.ex C g)
  | _ => none
/-! o[i] op= e, of a list -/
def sSAug (go gi gv fo : GE) : GS := fun m => match gSeq go gi m with
  | some (.ok ⟨g1, .tr (.a (.int x)) :: .al p :: s1⟩) => match getG g1 p with
    | some (.nd .lst .own ts) => match ixN ts.length x with
      | some j => match ts[j]? with
        | some (.a u) => match gv ⟨g1, .tr (.a u) :: .tr (.a (.int x)) :: .al p :: s1⟩ with
          | some (.ok m2) => match fo m2 with
            | some (.ok ⟨g3, .tr (.a z) :: e3 :: e4 :: s3⟩) => match stSub ⟨g3, e3 :: e4 :: .tr (.a z) :: s3⟩ with
              | some m4 => some (.nx m4)
              | none => none
            | _ => none
          | some (.ex C g) => some (.ex C g)
          | none => none
        | _ => none
      | none => none
    | _ => none
  | some (.ex C g) => some (.ex C g)
  | _ => none
end
section
variable {K : KC} {X : Cx} {T : KT} {md mdc : List Bool} {W : WX} {c : Cz} {σ : St} {H : Hp} {us : List V} {i n j : Nat} {m : Ms} {g ga gb gc ge gt gs f f' : GE} {e a b cc tg iter elt cnd : Expr} {pos pos' rp py spos : Pos} {scope : Scope} {x y fl : Str} {r r' : R2} {tab : List (Nat × Nat)} {Kf : PySem.W.Frag}
theorem FldOk.nil : FldOk Kf T fl [] := fun n j h => by simp at h
theorem FldOk.cons (h1 : Cls Kf (T.ct n)) (h2 : NoAttr Kf (T.ct n) fl) (h3 : (T.nm n).idxOf? fl = some j) (h : FldOk Kf T fl tab) : FldOk Kf T fl ((n, j) :: tab) := fun n' j' q => by
  rcases List.mem_cons.mp q with z | z
  · cases z
    exact ⟨h1, h2, h3⟩
  · exact h n' j' z
/-! a < b < c -/
def gChain (ga gb f gc f' : GE) : GE := fun m => match gSeq ga gb m with
  | some (.ok ⟨g1, .tr (.a v) :: s1⟩) => match f ⟨g1, .tr (.a v) :: s1⟩ with
    | some (.ok ⟨g2, .tr (.a (.bl true)) :: s2⟩) => match gc ⟨g2, .tr (.a v) :: s2⟩ with
      | some (.ok m3) => f' m3
      | some (.ex C g) => some (.ex C g)
      | none => none
    | some (.ok ⟨g2, .tr (.a (.bl false)) :: s2⟩) => some (.ok ⟨g2, .tr (.a (.bl false)) :: s2⟩)
    | _ => none
  | some (.ex C g) => some (.ex C g)
  | _ => none
theorem se_chain {ta tb tc : TE} (sa : SE K md W ta ga) (sb : SE K md W tb gb) (hf : RA2 K md W r f) (sc : SE K md W tc gc) (hf' : RA2 K md W r' f') : SE K md W (tChain r r' ta tb tc) (gChain ga gb f gc f') := by
  intro c σ H m us Q rr hc E hg hp
  simp only [gChain] at hg
  cases e1 : ga m with
  | none => simp [gSeq, e1] at hg
  | some r1 =>
    cases r1 with
    | ex C g' =>
      simp only [gSeq, e1] at hg
      cases hg
      exact sa c σ H m us _ _ hc E e1 hp
    | ok m1 =>
      simp only [gSeq, e1] at hg
      refine sa c σ H m us _ _ hc E e1 fun x H1 E1 => ?_
      split at hg
      · rename_i g1 v s1 h1
        refine sb c σ H1 m1 _ _ _ hc E1 h1 fun y H2 E2 => ?_
        have E2 : EnvOk K c σ H2 g1 (.tr (.a v) :: s1) (y :: x :: us) := E2
        have ey := top_a E2
        subst ey
        split at hg
        · rename_i g2 s2 h2
          refine hf.use hc E2 h2 fun z H3 E3 => ⟨true, top_bl E3, iteT ?_⟩
          have E4 : EnvOk K c σ H3 g2 (.tr (.a y) :: s2) (y :: us) := E3.drop.atom y
          split at hg
          · rename_i m3 h3
            exact sc c σ H3 ⟨g2, _⟩ _ _ _ hc E4 h3 fun w H4 E5 => hf'.use hc E5 hg hp
          · rename_i h3
            cases hg
            exact sc c σ H3 ⟨g2, _⟩ _ _ _ hc E4 h3 hp
          · cases hg
        · rename_i g2 s2 h2
          cases hg
          exact hf.use hc E2 h2 fun z H3 E3 => ⟨false, top_bl E3, iteF (hp _ _ (top_bl E3 ▸ E3))⟩
        · cases hg
      · rename_i h1
        cases hg
        exact sb c σ H1 m1 _ _ _ hc E1 h1 hp
      · cases hg
theorem mt_chain (ha : ME X T md W a ga) (hb : ME X T md W b gb) (hf : RA2 (kcm X.K T) md W r f) (hcc : ME X T md W cc gc) (hf' : RA2 (kcm X.K T) md W r' f') (hp : ∀ {ta tb tc : TE}, PE X a ta → PE X b tb → PE X cc tc → PT X e (tTest (tChain r r' ta tb tc))) : MT X T md W e (gChain ga gb f gc f') := by
  obtain ⟨ta, pa, sa⟩ := ha
  obtain ⟨tb, pb, sb⟩ := hb
  obtain ⟨tc, pc, sc⟩ := hcc
  exact ⟨_, hp pa pb pc, st_of (se_chain sa sb hf sc hf')⟩
theorem ms_lc0 {k : Nat} (hs : ME X T md W iter gs) (ok : BlkOk X.N X.env.scope scope [(x, i)]) (hg : ∀ (s : Shared) (H : Hp) (C : Addr) (cl : List (Str × Addr)) (fp : List Addr), PG (X.blk s H scope (compEnvC scope cl C X.env) fp) tg (gName i))
    (he : ∀ (s : Shared) (H : Hp) (C : Addr) (cl : List (Str × Addr)) (fp : List Addr), ME (X.blk s H scope (compEnvC scope cl C X.env) fp) T md WF elt ge)
    (hc : X.calm = true) (hN : X.N.Nodup) (hy : X.N[k]? = some y) (hyl : X.env.scope.names.lookup y = some .local) (hsw : swapsWith (.ListComp elt [⟨tg, iter, [], 0⟩] scope pos) (some (.Name y py)) spos.line X.env = pure true) (hf : ∀ x, foldedSetIterable iter X.env x = pure x := by intro _; rfl) :
    MS X T md W (.Assign [.Name y py] (.ListComp elt [⟨tg, iter, [], 0⟩] scope pos) spos) (sSet md k (gLc [i] gs (bind md i) (gC (.bl true)) ge)) := by
  obtain ⟨ti, pi, si⟩ := hs
  exact ms_asgOf (ps_setLc (te := wpE (kcm X.K T) md WF ge) hc hN hy hyl hsw (PI.or (pi_list pi) (pi_tup pi)) ok hg (fun s H C cl fp => pts_nil) (fun s H C cl fp => (he s H C cl fp).pe) hf) (se_lc si sgw_name st_yes se_wp)
theorem ms_lcR10 {k : Nat} (ha : MA X T md W [e] ga) (ok : BlkOk X.N X.env.scope scope [(x, i)]) (hg : ∀ (s : Shared) (H : Hp) (C : Addr) (cl : List (Str × Addr)) (fp : List Addr), PG (X.blk s H scope (compEnvC scope cl C X.env) fp) tg (gName i))
    (he : ∀ (s : Shared) (H : Hp) (C : Addr) (cl : List (Str × Addr)) (fp : List Addr), ME (X.blk s H scope (compEnvC scope cl C X.env) fp) T md WF elt ge)
    (hgl : Gl X "range") (hmg : X.mg "range" = none) (hc : X.calm = true) (hN : X.N.Nodup) (hy : X.N[k]? = some y) (hyl : X.env.scope.names.lookup y = some .local) (hsw : swapsWith (.ListComp elt [⟨tg, .Call (.Name "range" rp) [e] [] pos', [], 0⟩] scope pos) (some (.Name y py)) spos.line X.env = pure true) (hs : starEach [e] X.env = [(false, eval e X.env)] := by rfl) (hf : ∀ x, foldedSetIterable (.Call (.Name "range" rp) [e] [] pos') X.env x = pure x := by intro _; rfl) :
    MS X T md W (.Assign [.Name y py] (.ListComp elt [⟨tg, .Call (.Name "range" rp) [e] [] pos', [], 0⟩] scope pos) spos) (sSet md k (gLcR1 [i] ga (bind md i) (gC (.bl true)) ge)) := by
  obtain ⟨ti, pi, si⟩ := ha
  exact ms_asgOf (ps_setLc (te := wpE (kcm X.K T) md WF ge) hc hN hy hyl hsw (pi_range1 hgl hmg pi hs) ok hg (fun s H C cl fp => pts_nil) (fun s H C cl fp => (he s H C cl fp).pe) hf) (se_lcR1 si sgw_name st_yes se_wp)
def fAddI : GE := fP2 (FI cT fun i j => .int (i + j))
def fSubI : GE := fP2 (FI cT fun i j => .int (i - j))
end
section
variable {K : KC} {X : Cx} {T : KT} {md mdc : List Bool} {W : WX} {c : Cz} {σ : St} {H : Hp} {us : List V} {i n j : Nat} {m : Ms} {g : GE} {e : Expr} {fl : Str} {tab : List (Nat × Nat)} {gT : TG} {tt : TT} {tk tv : TE} {cv : List Nat}
theorem PE.or {t1 t2 : TE} (h1 : PE X e t1) (h2 : PE X e t2) : PE X e (fun σ H Q => t1 σ H Q ∨ t2 σ H Q) := by
  refine ⟨fun pins s σ H Q I h => ?_⟩
  rcases h with h | h
  · exact h1.run pins s σ H Q I h
  · exact h2.run pins s σ H Q I h
/-- {.. for n in x.f}, the dict x.f being empty -/
def gDc0 (i : Nat) (tab : List (Nat × Nat)) : GE := fun m => match gSeq (gVar i) (fFld tab) m with
  | some (.ok ⟨_, e :: _⟩) => match viewE m.g e with
    | some (.nd (.dct []) _ []) => some (.ok ⟨m.g, .tr (.nd (.dct []) .own []) :: m.s⟩)
    | _ => none
  | _ => none
/-- {} -/
def gD0 : GE := fun m => some (.ok ⟨m.g, .tr (.nd (.dct []) .own []) :: m.s⟩)
end
section
variable {K : KC} {X : Cx} {T : KT} {md mdc : List Bool} {W : WX} {c : Cz} {σ : St} {H H' : Hp} {Γ τ : List Ent} {us vs ws wq : List V} {v w wp : V} {p q r : List Nat} {t : Tr} {ts : List Tr} {i j n : Nat} {Z : Zn} {qs : List (List Nat)}
/-! defs that keep the addresses below a parameter of their own: ghosts are aliases that lie at the bottom of the stack -/
abbrev GG := List Tr → List (List Nat) → Option (Rt × List Ent)
theorem Raw.app {xs : List V} : ∀ {q : List Nat} {vs : List V} {w : V}, Raw H vs q w → Raw H (vs ++ xs) q w
  | [], _, _, h => h
  | [i], vs, w, h => by
    have h : vs[i]? = some w := h
    show (vs ++ xs)[i]? = some w
    rw [List.getElem?_append_left (getq_lt' h)]
    exact h
  | i :: j :: q, vs, w, h => by
    obtain ⟨v, us, e, kd, h⟩ := h
    exact ⟨v, us, by rw [List.getElem?_append_left (getq_lt' e)]; exact e, kd, h⟩
variable {P : Program} {Wd : World} {Kf : PySem.W.Frag} {mg : Str → Option Value} {base : Heap}
end
section
variable {K : KC} {X : Cx} {T : KT} {md mdc : List Bool} {W : WX} {c : Cz} {σ : St} {H H' : Hp} {Γ τ : List Ent} {us vs ws wq : List V} {v w wp : V} {p q r : List Nat} {t : Tr} {ts : List Tr} {i j n : Nat} {Z : Zn} {qs : List (List Nat)} {Φ Ψ : Ps} {m m' : Ms} {G : GG}
variable {x me : Str} {pp pos apos : Pos} {e oe : Expr} {es : List Expr} {ga go : GE} {kk : Nat} {f C : Addr} {fd : FuncData} {ps : List Str} {pl : Sem Bool}
end
section
variable {K : KC} {X : Cx} {T : KT} {md : List Bool} {W : WX} {c : Cz} {σ : St} {H H' : Hp} {Γ τ : List Ent} {us vs : List V} {v w : V} {p q : List Nat} {t : Tr} {ts ts' : List Tr} {i j : Nat} {ks : List Key} {k : Key}
variable {g : GS} {gi go gv ga gb : GE} {e a b o ie : Expr} {pos pos' : Pos}
/-! dicts by int and str keys: reads and stores -/
def keyOf : V → Option Key
  | .int i => some (.inl i)
  | .str s => some (.inr s)
  | _ => none
theorem keyOf_kV (h : keyOf v = some k) : v = kV k := by
  cases v <;> simp [keyOf] at h <;> subst h <;> rfl
def kix (k : Key) : List Key → Option Nat
  | [] => none
  | x :: ks => if x = k then some 0 else (kix k ks).map (· + 1)
theorem kix_at : ∀ {ks : List Key} {j : Nat}, kix k ks = some j → ks[j]? = some k
  | [], _, h => by simp [kix] at h
  | x :: ks, j, h => by
    simp only [kix] at h
    split at h
    · rename_i e
      cases h
      simp [e]
    · simp only [Option.map_eq_some_iff] at h
      obtain ⟨j', h1, rfl⟩ := h
      simpa using kix_at h1
theorem kix_none : ∀ {ks : List Key}, kix k ks = none → k ∉ ks
  | [], _ => by simp
  | x :: ks, h => by
    simp only [kix] at h
    split at h
    · cases h
    · rename_i e
      have := kix_none (by simpa using h)
      simp [this, Ne.symm e]
theorem valV_zip : ∀ {ks : List Key} {vs : List V} {j : Nat}, kix k ks = some j → ks.length = vs.length → valV (ks.zip vs) k = vs[j]?
  | [], _, _, h, _ => by simp [kix] at h
  | x :: ks, [], _, _, l => by simp at l
  | x :: ks, y :: vs, j, h, l => by
    simp only [kix] at h
    rw [List.zip_cons_cons]
    by_cases e : x = k
    · rw [if_pos e] at h
      cases h
      rw [valV_pos e]
      rfl
    · rw [if_neg e] at h
      simp only [Option.map_eq_some_iff] at h
      obtain ⟨j', h1, rfl⟩ := h
      rw [valV_neg e, valV_zip h1 (by simpa using l)]
      simp
def rIxD : R2 := fun x y H Q => ∃ a v, x = .ref a ∧ DGet H a y (some v) ∧ Q v H
theorem ix_dict (hu : X.A.units + 1 < cLine) : IxR X rIxD := by
  intro value slice pins s σ H x y v u Q I rx ry h hs
  obtain ⟨a, w, rfl, g, q⟩ := h
  cases rx
  exact PyProof.Rows.tail_any (dict_typeIs I g) PySem.F.slot_dict_getitem.lookup (d_getItem hu I g ry fun w' s3 I3 rw' => ⟨w, H, I3, rw', q⟩) hs
def fIxK : GE := fun m => match m.s with
  | .tr (.a y) :: e :: s => match viewE m.g e with
    | some (.nd (.dct ks) o ts) => match keyOf y with
      | some k => match kix k ks with
        | some j => match kidE e (.dct ks) o ts j with
          | some e' => some (.ok ⟨m.g, e' :: s⟩)
          | none => none
        | none => none
      | none => none
    | _ => none
  | _ => none
theorem fIxK_ok : RA2 K md W rIxD fIxK := by
  refine .mk fun c σ H m us x y Q rr hc E hf hp => ?_
  simp only [fIxK] at hf
  split at hf
  · rename_i y e s hs
    rw [hs] at E
    have ey := top_a E
    subst ey
    have E1 := E.drop
    split at hf
    · rename_i ks o ts hv
      split at hf
      · rename_i k hk0
        split at hf
        · rename_i j hj
          split at hf
          · rename_i e' hk
            cases hf
            obtain ⟨ad, vs, w', rfl, ho, hl, hw, E2⟩ := E1.kidOf hv hk
            have ho := ObjAt.rd ho
            refine ⟨ad, w', rfl, ?_, hp w' H E2⟩
            rw [keyOf_kV hk0]
            have e : valV (ks.zip vs) k = some w' := by rw [valV_zip hj ho.1, hw]
            exact .inl ⟨_, k, ho.2, rfl, e.symm⟩
          · cases hf
        · cases hf
      · cases hf
    · cases hf
  · cases hf
/-- o[i]: lists, tuples, dicts -/
def fIxA : GE := gOr fIx fIxK
theorem me_ixA (hu : X.A.units + 64 < cLine) (ha : ME X T md W a ga) (hb : ME X T md W b gb) (hs : PlainIx b) : ME X T md W (.Subscript a b pos) (gSeq (gSeq ga gb) fIxA) := me_ix ((ix_list.or ix_tup).or (ix_dict (by omega))) (fIx_ok.or fIxK_ok) ha hb hs
theorem putK_set : ∀ {ks : List Key} {vs : List V} {j : Nat}, ks.Nodup → kix k ks = some j → ks.length = vs.length → putK (ks.zip vs) k v = ks.zip (vs.set j v) := by
  intro ks vs j nd h l
  have hm : ∃ y, (k, y) ∈ ks.zip vs := by
    obtain ⟨h3, h4⟩ := List.getElem?_eq_some_iff.mp (kix_at h)
    have h5 : (ks.zip vs)[j]'(by simp; omega) = (ks[j], vs[j]) := by simp
    rw [h4] at h5
    exact ⟨_, h5 ▸ List.getElem_mem _⟩
  obtain ⟨y, hy⟩ := hm
  unfold putK
  rw [if_pos (by rw [List.any_eq_true]; exact ⟨_, hy, by simp⟩)]
  clear hy
  induction ks generalizing vs j with
  | nil => simp [kix] at h
  | cons x ks ih =>
    cases vs with
    | nil => simp at l
    | cons z vs =>
      simp only [kix] at h
      have nd' := List.nodup_cons.mp nd
      by_cases e : x = k
      · subst e
        rw [if_pos rfl] at h
        cases h
        rw [List.zip_cons_cons, List.map_cons, if_pos rfl, List.set_cons_zero, List.zip_cons_cons]
        congr 1
        have : ∀ kv ∈ ks.zip vs, (if kv.1 = x then (kv.1, v) else kv) = kv := by
          intro kv hkv
          rw [if_neg]
          intro q
          exact nd'.1 (q ▸ (List.of_mem_zip hkv).1)
        rw [List.map_congr_left this]
        simp
      · rw [if_neg e] at h
        simp only [Option.map_eq_some_iff] at h
        obtain ⟨j', h1, rfl⟩ := h
        rw [List.zip_cons_cons, List.map_cons, if_neg e, List.set_cons_succ, List.zip_cons_cons, ih nd'.2 h1 (by simpa using l)]
theorem putK_app {ks : List Key} {vs : List V} (h : kix k ks = none) (l : ks.length = vs.length) : putK (ks.zip vs) k v = (ks ++ [k]).zip (vs ++ [v]) := by
  unfold putK
  rw [if_neg]
  · rw [List.zip_append l]
    rfl
  · rw [List.any_eq_true]
    rintro ⟨kv, hkv, e⟩
    have : kv.1 = k := by simpa using e
    exact kix_none h (this ▸ (List.of_mem_zip hkv).1)
def rSetD : TSet := fun o i v H Q => ∃ a H', o = .ref a ∧ DPut H a i v H' ∧ Q H'
theorem set_dict (hu : X.A.units + 1 < cLine) : PSet X rSetD := by
  intro pins s σ H o i v ov iv u Q I ro ri rv h
  obtain ⟨a, H', rfl, g, q⟩ := h
  cases ro
  exact d_setItem hu I g ri rv fun s' I' => ⟨H', I', q⟩
theorem PSet.or {t t' : TSet} (h : PSet X t) (h' : PSet X t') : PSet X (fun o i v H Q => t o i v H Q ∨ t' o i v H Q) := by
  intro pins s σ H o i v ov iv u Q I ro ri rv q
  rcases q with q | q
  · exact h pins s σ H o i v ov iv u Q I ro ri rv q
  · exact h' pins s σ H o i v ov iv u Q I ro ri rv q
def stSubK : Ms → Option Ms := fun m => match m.s with
  | .tr (.a y) :: .al p :: .tr t :: s => match getG m.g p, keyOf y with
    | some (.nd (.dct ks) .own ts), some k => if esc t = true ∧ ks.Nodup ∧ ks.length < 100000 then match kix k ks with
        | some j => some ⟨(setG m.g p (.nd (.dct ks) .own (ts.set j t))).map (killJ (p ++ [j])), s.map (killJ (p ++ [j]))⟩
        | none => some ⟨kill p (setG m.g p (.nd (.dct (ks ++ [k])) .own (ts ++ [t]))), kill p s⟩
      else none
    | _, _ => none
  | _ => none
theorem stSubK_ok {m m' : Ms} {x y z : V} {Q : Hp → Prop} (E : EnvOk K c σ H m.g m.s (z :: y :: x :: us)) (h : stSubK m = some m') (hq : ∀ H', EnvOk K c σ H' m'.g m'.s us → Q H') : rSetD y z x H Q := by
  unfold stSubK at h
  split at h
  · rename_i yv p t s hs
    split at h
    · rename_i ks ts k hg hk
      split at h
      · rename_i he
        rw [hs] at E
        have ez := top_a E
        subst ez
        have E1 := E.drop
        have hes := E1.escAt hg (by simp)
        obtain ⟨Z, ws, Φ, Ψ, EE⟩ := id E1
        obtain ⟨Θ, a, vs, Ξ, rfl, ho, hlr, hn⟩ := EE.view (n := 0) (e := .al p) rfl rfl hg
        have ho : ks.length = vs.length ∧ H a = some (.dK (ks.zip vs)) := ho
        have hlen := RepL.len _ hlr
        have hz : (ks.zip vs).length < sizeLine := by
          have : (100000 : Nat) ≤ sizeLine := by decide
          simp
          omega
        rw [keyOf_kV hk]
        refine ⟨a, _, rfl, DPut.k ho.2 hz, ?_⟩
        split at h
        · rename_i j hj
          cases h
          refine hq _ ?_
          rw [putK_set he.2.1 hj ho.1]
          have hjl : j < ts.length := by
            have := getq_lt' (kix_at hj)
            omega
          obtain ⟨a', e, E2⟩ := EnvOk.setIn (j := j) (ob := .dK (ks.zip (vs.set j x))) E1 hg (by simp) hjl he.1 (fun a2 vs2 ho2 e2 => by
            cases e2
            have ho2 : ks.length = vs2.length ∧ H a = some (.dK (ks.zip vs2)) := ho2
            have ev : vs = vs2 := by
              have h3 : ks.zip vs = ks.zip vs2 := by
                have := ho.2.symm.trans ho2.2
                simpa using this
              have h4 := congrArg (List.map Prod.snd) h3
              rwa [List.map_snd_zip (by omega), List.map_snd_zip (by omega)] at h4
            subst ev
            exact ⟨by simpa using ho.1, upd_same⟩)
          cases e
          exact E2
        · rename_i hj
          cases h
          refine hq _ ?_
          rw [putK_app hj ho.1]
          obtain ⟨a', e, E2⟩ := EnvOk.modP (ins := [t]) (us1 := [x]) (outs := []) (vouts := []) (k' := .dct (ks ++ [k])) (ts' := ts ++ [t]) (ob := .dK ((ks ++ [k]).zip (vs ++ [x]))) (τ := s) (us := us) E1 rfl hg (by simp) (by simp) (fun a2 vs2 e2 ho2 l2 => by
            cases e2
            have ho2 : ks.length = vs2.length ∧ H a = some (.dK (ks.zip vs2)) := ho2
            have ev : vs = vs2 := by
              have h3 : ks.zip vs = ks.zip vs2 := by
                have := ho.2.symm.trans ho2.2
                simpa using this
              have h4 := congrArg (List.map Prod.snd) h3
              rwa [List.map_snd_zip (by omega), List.map_snd_zip (by omega)] at h4
            subst ev
            exact ⟨vs ++ [x], by simpa using l2, ⟨by simpa using ho.1, upd_same⟩, fun Z Ψa Ψb r1 r2 d => ⟨_, by simpa using RepL.append _ r1 r2 d, fun b q => q⟩⟩) rfl (by
              rw [escL_all] at hes ⊢
              intro y hy
              rcases List.mem_append.mp hy with z | z
              · exact hes y z
              · rw [List.mem_singleton.mp z]; exact he.1)
          cases e
          simpa using E2
      · cases h
    · cases h
  · cases h
/-- o[i] = v: lists, dicts -/
def stSubA : Ms → Option Ms := fun m => match stSub m with
  | none => stSubK m
  | r => r
def rSetA : TSet := fun o i v H Q => rSetL o i v H Q ∨ rSetD o i v H Q
theorem set_A (hu : X.A.units + 64 < cLine) : PSet X rSetA := PSet.or set_list (set_dict (by omega))
theorem stSubA_ok {m m' : Ms} {x y z : V} {Q : Hp → Prop} (E : EnvOk K c σ H m.g m.s (z :: y :: x :: us)) (h : stSubA m = some m') (hq : ∀ H', EnvOk K c σ H' m'.g m'.s us → Q H') : rSetA y z x H Q := by
  unfold stSubA at h
  split at h
  · exact .inr (stSubK_ok E h hq)
  · rename_i r hr
    exact .inl (stSub_ok E h hq)
def sSubA (gv go gi : GE) : GS := fun m => match gSeq (gSeq gv go) gi m with
  | some (.ok m') => match stSubA m' with
    | some m2 => some (.nx m2)
    | none => none
  | some (.ex C g) => some (.ex C g)
  | none => none
theorem ms_subA {spos tpos : Pos} (hv : ME X T md W e gv) (ho : ME X T md W o go) (hi : ME X T md W ie gi) (h : ∀ {to ti te : TE}, PE X o to → PE X ie ti → PE X e te → PS X (.Assign [.Subscript o ie spos] e tpos) (tAsg te (gSub to ti rSetA))) : MS X T md W (.Assign [.Subscript o ie spos] e tpos) (sSubA gv go gi) := by
  obtain ⟨tv, pv, sv⟩ := hv
  obtain ⟨to, po, so⟩ := ho
  obtain ⟨ti, pi, si⟩ := hi
  refine ⟨_, h po pi pv, fun c σ H m us D oo hc E hg hp => ?_⟩
  simp only [sSubA, gSeq] at hg
  cases e1 : gv m with
  | none => simp [e1] at hg
  | some r1 =>
    cases r1 with
    | ex C g' =>
      simp only [e1] at hg
      cases hg
      exact sv c σ H m us _ _ hc E e1 fun H1 E1 => hp σ H1 E1
    | ok m1 =>
      simp only [e1] at hg
      refine sv c σ H m us _ _ hc E e1 fun x H1 E1 => ?_
      cases e2 : go m1 with
      | none => simp [e2] at hg
      | some r2 =>
        cases r2 with
        | ex C g' =>
          simp only [e2] at hg
          cases hg
          exact so c σ H1 m1 _ _ _ hc E1 e2 fun H2 E2 => hp σ H2 E2
        | ok m2 =>
          simp only [e2] at hg
          refine so c σ H1 m1 _ _ _ hc E1 e2 fun y H2 E2 => ?_
          cases e3 : gi m2 with
          | none => simp [e3] at hg
          | some r3 =>
            cases r3 with
            | ex C g' =>
              simp only [e3] at hg
              cases hg
              exact si c σ H2 m2 _ _ _ hc E2 e3 fun H3 E3 => hp σ H3 E3
            | ok m3 =>
              simp only [e3] at hg
              refine si c σ H2 m2 _ _ _ hc E2 e3 fun z H3 E3 => ?_
              split at hg
              · rename_i m4 h4
                cases hg
                exact stSubA_ok E3 h4 fun H4 E4 => hp σ H4 E4
              · cases hg
end
section
variable {K : KC} {X : Cx} {T : KT} {W : WX} {c : Cz} {σ : St} {H H' : Hp} {a p : Addr} {fs : List Int} {n : Nat} {N : List Str} {t : L2.TS} {g : GS} {m : Ms} {Q : VK} {D : Ends}
/-! the law itself: behind its first row the drawn row is a list of its own -/
abbrev iT (i : Int) : Tr := .a (.int i)
abbrev bT (b : Bool) : Tr := .a (.bl b)
def feedT (fs : List Int) : Tr := .nd .lst .own (fs.map iT)
def feedG (n : Nat) (fs : List Int) : Ms := ⟨.no :: .tr (feedT fs) :: List.replicate n .no, []⟩
abbrev cLaw : Cz := ⟨fun _ => none, fun _ => False, fun _ => False, [false], []⟩
theorem repL_atoms {Z : Zn} : ∀ {us : List V}, RepL K Z H .own (us.map Tr.a) us fun _ => False
  | [] => ⟨rfl, fun _ h => h⟩
  | u :: us => ⟨u, us, fun _ => False, fun _ => False, rfl, ⟨rfl, fun _ h => h⟩, repL_atoms, by simp, by simp⟩
theorem feed_ok (hN : N.length = n + 2) (h : H p = some (.lst (fs.map V.int))) : EnvOk K cLaw ((start N [.ref a]).set 1 (some (.ref p))) H (feedG n fs).g (feedG n fs).s [] := by
  have es : start N [.ref a] = [some (.ref a)] ++ List.replicate (n + 1) none := by
    show [V.ref a].map some ++ List.replicate (N.length - [V.ref a].length) none = _
    simp [hN]
  have ess : (start N [.ref a]).set 1 (some (.ref p)) = some (.ref a) :: some (.ref p) :: List.replicate n none := by
    rw [es]
    rfl
  rw [ess]
  have em : fs.map iT = (fs.map V.int).map Tr.a := by simp
  have rf : Rep K ⟨fun _ => False, fun _ => False⟩ H .own (feedT fs) (.ref p) fun b => b = p := by
    refine ⟨p, fs.map V.int, fun _ => False, rfl, h, by rw [em]; exact repL_atoms, ?_⟩
    refine ⟨by simp, fun q => q, ?_⟩
    rw [escL_all, em]
    intro y hy
    obtain ⟨z, _, rfl⟩ := List.mem_map.mp hy
    rfl
  have tr : trees (feedG n fs).g = .any :: feedT fs :: List.replicate n .any := by
    simp [feedG, trees, Ent.tree]
  refine ⟨⟨fun _ => False, fun _ => False⟩, .ref a :: .ref p :: List.replicate n .non, fun b => b = p, fun _ => False, ⟨?_, ⟨rfl, fun _ h => h⟩, by simp, ?_, ?_, by simp [feedG], fun b _ => ⟨.inr rfl, fun q => q, fun q => q⟩, fun b q => q.elim, fun b q => q, fun b q => (by simp at q), fun b o q => (by cases q), ?_⟩⟩
  · rw [tr]
    exact ⟨_, _, fun _ => False, fun b => b = p, rfl, fun _ h => h, ⟨_, _, fun b => b = p, fun _ => False, rfl, rf, RepL.anys n, by simp, by simp⟩, by simp, by simp⟩
  · intro i e he
    match i with
    | 0 => cases he; trivial
    | 1 => cases he; exact ⟨_, rfl, rfl⟩
    | i + 2 =>
      have he : (List.replicate n Ent.no)[i]? = some e := he
      have := List.mem_of_getElem? he
      simp at this
      rw [this.2]
      trivial
  · intro i q hi
    simp [feedG] at hi
  · intro i hi
    match i with
    | 0 => cases hi
    | i + 1 => simp at hi
theorem law_end (s : SS K [false] WF t g) (hN : N.length = n + 2) (h : H p = some (.lst (fs.map V.int))) (hg : g (feedG n fs) = some (.rt (bT true) m)) (hq : ∀ H', Q (.bl true) H') : t { nx := fun _ H' => Q .non H', rt := Q } ((start N [.ref a]).set 1 (some (.ref p))) H := by
  refine s cLaw _ H (feedG n fs) [] _ _ rfl (feed_ok hN h) hg ?_
  intro σ' v H' E
  have := top_a E
  subst this
  exact hq H'
end
section
variable {T : KT} {P : Program} {Wd : World} {Kf : PySem.W.Frag} {mg : Str → Option Value} {base : Heap} {Fe : List Int → Prop} {n k : Nat} {N : List Str}
def spLaw (K : PySem.W.Frag) : Sp := fun vs H Q _ => ∃ (a : Addr) (ns : List Int), vs = [.ref a] ∧ SqL K H a (ns.map V.int) ∧ ns.length ≤ 63 ∧ ∀ H', Q (.bl true) H'
theorem law_sim {x qual y : Str} {st st0 : Stmt} {rest : List Stmt} {f : Addr} {fd : FuncData} {g : GS} (F : Fun Kf x qual st f fd) (S : FnScope N [y] (defScope st)) (hN : N.length = n + 2) (hb : defBody st = st0 :: rest)
    (body : ∀ (cdv : Value) (A : Around) (outer : List Env) (s : Shared) (H : Hp) (E : XK), Room k (A.deeper (PyProof.Rows.envOfC qual (defScope st) s.heap.objs.size f cdv)) →
      (∃ t0, PS (cxOf CX0 P Wd Kf mg base N qual (defScope st) f cdv A outer s H E).nox st0 t0 ∧ ∀ (a : Addr) (ns : List Int) (H : Hp) (D : Ends), SqL Kf H a (ns.map V.int) → ns.length ≤ 63 →
        (∀ H' p fs, H' p = some (.lst (fs.map V.int)) → Fe fs → D.nx ((start N [.ref a]).set 1 (some (.ref p))) H') → t0 D (start N [.ref a]) H) ∧
      MSs (cxOf CX0 P Wd Kf mg base N qual (defScope st) f cdv A outer s H E).nox T [false] WF rest g)
    (pl : ∀ fs, Fe fs → ∃ m, g (feedG n fs) = some (.rt (bT true) m)) : FnOk P Wd Kf mg base CX0 (k + 1) f fd [y] (spLaw Kf) := by
  refine F.ok S (fun vs H Q E h => ?_) (fun cdv A outer s H vs Q E hr h => ?_)
  · obtain ⟨a, ns, rfl, _⟩ := h
    rfl
  · obtain ⟨a, ns, rfl, hS, hl, kk⟩ := h
    obtain ⟨⟨t0, p0, s0⟩, t, pt, st⟩ := body cdv A outer s H E hr
    rw [hb]
    refine ⟨_, pss_cons p0 pt, ?_⟩
    refine s0 a ns H _ hS hl fun H' p fs h1 hf => ?_
    obtain ⟨m, hm⟩ := pl fs hf
    exact law_end st hN h1 hm kk
end
/-! frames: what a call leaves as it was -/
abbrev tl (x : Str) : List Nat := x.cps.toList
def Fr (S : List Addr) (H H' : Hp) : Prop := ∀ b o, H b = some o → ∃ o', H' b = some o' ∧ (b ∉ S → o' = o)
section
variable {S : List Addr} {H H0 H1 H2 H' : Hp} {a b p : Addr} {o o' : HO} {K : PySem.W.Frag} {xs : List V}
theorem Fr.trans (f : Fr S H0 H1) (g : Fr S H1 H2) : Fr S H0 H2 := fun b o h => by
  obtain ⟨o1, h1, e1⟩ := f b o h
  obtain ⟨o2, h2, e2⟩ := g b o1 h1
  exact ⟨o2, h2, fun n => (e2 n).trans (e1 n)⟩
theorem Fr.get (f : Fr S H H') (h : H b = some o) (n : b ∉ S) : H' b = some o := by
  obtain ⟨o1, h1, e1⟩ := f b o h
  rw [h1, e1 n]
theorem Fr.up1 (f : Fr S H0 H1) (g : Fr [a] H1 H2) (ha : a ∈ S ∨ H0 a = none) : Fr S H0 H2 := fun b o h => by
  obtain ⟨o1, h1, e1⟩ := f b o h
  obtain ⟨o2, h2, e2⟩ := g b o1 h1
  refine ⟨o2, h2, fun n => ?_⟩
  by_cases e : b = a
  · subst e
    rcases ha with ha | ha
    · exact absurd ha n
    · rw [ha] at h
      cases h
  · rw [e2 (by simpa using e), e1 n]
theorem Fr.new (np : H p = none) : Fr [] H (upd H p o) := fun b u e => ⟨u, by rw [upd_ne (ne_of_none e np)]; exact e, fun _ => rfl⟩
theorem Fr.mut : Fr [a] H (upd H a o) := fun b u e => by
  by_cases h : b = a
  · subst h
    exact ⟨o, upd_same, fun n => absurd (by simp) n⟩
  · exact ⟨u, by rw [upd_ne h]; exact e, fun _ => rfl⟩
theorem gen_new (np : H p = none) (e : upd H p o = H2) : Fr [] H H2 ∧ H2 p = some o := by
  subst e
  exact ⟨Fr.new np, upd_same⟩
theorem gen_upd (e : upd H a o = H2) : Fr [a] H H2 ∧ H2 a = some o := by
  subst e
  exact ⟨Fr.mut, upd_same⟩
theorem Fr.seq (f : Fr S H H') (h : SqL K H a xs) (n : a ∉ S) : SqL K H' a xs := by
  rcases h with (h | ⟨o, h⟩) | h
  · exact .inl (.inl (f.get h n))
  · exact .inl (.inr ⟨o, f.get h n⟩)
  · exact .inr h
theorem Fr.seq0 (f : Fr [] H H') (h : SqL K H a xs) : SqL K H' a xs := f.seq h (by simp)
theorem sq (h : H a = some (.lst xs)) : SqL K H a xs := .inl (.inl h)
end
theorem sz {n : Nat} (h : n < 100000) : n < sizeLine := Nat.lt_of_lt_of_le h (by decide)
theorem map_get {α β : Type} {f : α → β} {l : List α} {i : Nat} {y : β} (h : (l.map f)[i]? = some y) : ∃ x, l[i]? = some x ∧ y = f x := by
  rw [List.getElem?_map] at h
  cases e : l[i]? with
  | none =>
    rw [e] at h
    cases h
  | some x =>
    rw [e] at h
    exact ⟨x, rfl, (Option.some.inj h).symm⟩
theorem getq_lt {α : Type} {l : List α} {i : Nat} {x : α} (h : l[i]? = some x) : i < l.length := (List.getElem?_eq_some_iff.mp h).1
theorem inV_int {k : Int} : ∀ {ds : List Int}, inV (.int k) (ds.map V.int) = decide (k ∈ ds)
  | [] => rfl
  | d :: ds => by
    have e := inV_int (k := k) (ds := ds)
    unfold inV at e ⊢
    rw [List.map_cons, List.any_cons, e]
    show ((d == k) || _) = _
    by_cases h : d = k
    · rw [decide_eq_true (show k ∈ d :: ds by rw [h]; exact List.mem_cons_self), show (d == k) = true from beq_iff_eq.mpr h, Bool.true_or]
    · have h2 : (d == k) = false := by simpa using h
      rw [h2, Bool.false_or]
      by_cases h3 : k ∈ ds
      · rw [decide_eq_true h3, decide_eq_true (List.mem_cons_of_mem _ h3)]
      · rw [decide_eq_false h3, decide_eq_false (by simp; exact ⟨fun q => h q.symm, h3⟩)]
theorem Fr.sub {S S' : List Addr} {H H' : Hp} (f : Fr S' H H') (h : ∀ a ∈ S', a ∈ S) : Fr S H H' := fun b o e => by
  obtain ⟨o', h1, h2⟩ := f b o e
  exact ⟨o', h1, fun n => h2 fun q => n (h b q)⟩
/-! pure lemmas: trees of plain data, comprehensions that change nothing -/
section
variable {cv : List Nat} {bd : Ms → Option Ms} {gt ge : GE} {lo : Int} {g s : List Ent} {n : Nat} {k : Nk} {o : Ow} {ts : List Tr} {e : Ent} {α : Type}
@[simp] theorem escL_iT (xs : List Int) : escL (xs.map iT) = true := by
  rw [escL_all]
  intro y hy
  obtain ⟨z, _, rfl⟩ := List.mem_map.mp hy
  rfl
@[simp] theorem cpL_iT : ∀ (xs : List Int), cpL (xs.map iT) = true
  | [] => rfl
  | x :: xs => by
    show (cp (iT x) && cpL (xs.map iT)) = true
    rw [cpL_iT xs]
    rfl
theorem escL_map {f : α → Tr} {xs : List α} (h : ∀ x, esc (f x) = true) : escL (xs.map f) = true := by
  rw [escL_all]
  intro y hy
  obtain ⟨z, _, rfl⟩ := List.mem_map.mp hy
  exact h z
/-- [F x for x in range if P x], when a turn changes nothing but the list -/
theorem lcR_go (P : Nat → Bool) (F : Nat → Tr) (turn : ∀ i acc, i < n → acc.length ≤ i → lcTurn cv bd gt ge 0 ⟨g, .tr (.a (.int (lo + i))) :: .tr (.nd .lst .own acc) :: s⟩ = some ⟨g, .tr (.nd .lst .own (if P i = true then acc ++ [F i] else acc)) :: s⟩) :
    ∀ r i acc, i + r = n → acc.length ≤ i → lcR cv bd gt ge lo r i ⟨g, .tr (.nd .lst .own acc) :: s⟩ = some ⟨g, .tr (.nd .lst .own (acc ++ ((List.range' i r).filter P).map F)) :: s⟩
  | 0, i, acc, h, _ => by simp [lcR]
  | r + 1, i, acc, h, hl => by
    simp only [lcR]
    rw [turn i acc (by omega) hl]
    simp only
    rw [lcR_go P F turn r (i + 1) _ (by omega) (by split <;> (try simp) <;> omega)]
    rw [List.range'_succ, List.filter_cons]
    split <;> simp
theorem lcR_is (P : Nat → Bool) (F : Nat → Tr) (turn : ∀ i acc, i < n → acc.length ≤ i → lcTurn cv bd gt ge 0 ⟨g, .tr (.a (.int (lo + i))) :: .tr (.nd .lst .own acc) :: s⟩ = some ⟨g, .tr (.nd .lst .own (if P i = true then acc ++ [F i] else acc)) :: s⟩) :
    lcR cv bd gt ge lo n 0 ⟨g, .tr (.nd .lst .own []) :: s⟩ = some ⟨g, .tr (.nd .lst .own (((List.range n).filter P).map F)) :: s⟩ := by
  rw [lcR_go P F turn n 0 [] (by omega) (by simp), List.range_eq_range']
  simp
/-- [F x for x in a list if P x] -/
theorem lcL_go (P : Nat → Bool) (F : Nat → Tr) (hv : viewE g e = some (.nd k o ts)) (hc : cpE e = true) (turn : ∀ i acc, i < ts.length → acc.length ≤ i → ∃ e', kidX e k o ts i = some e' ∧ lcTurn cv bd gt ge 1 ⟨g, e' :: e :: .tr (.nd .lst .own acc) :: s⟩ = some ⟨g, e :: .tr (.nd .lst .own (if P i = true then acc ++ [F i] else acc)) :: s⟩) :
    ∀ r i acc, i + r = ts.length → acc.length ≤ i → lcL k cv bd gt ge r i ⟨g, e :: .tr (.nd .lst .own acc) :: s⟩ = some ⟨g, e :: .tr (.nd .lst .own (acc ++ ((List.range' i r).filter P).map F)) :: s⟩
  | 0, i, acc, h, _ => by
    simp only [lcL, hv]
    rw [if_pos ⟨trivial, by omega⟩]
    simp
  | r + 1, i, acc, h, hl => by
    obtain ⟨e', h1, h2⟩ := turn i acc (by omega) hl
    simp only [lcL, hv]
    rw [if_pos ⟨trivial, hc, by omega⟩, h1]
    simp only
    rw [h2]
    simp only
    rw [lcL_go P F hv hc turn r (i + 1) _ (by omega) (by split <;> (try simp) <;> omega)]
    rw [List.range'_succ, List.filter_cons]
    split <;> simp
end
/-! the machine's functions as rewriting rules: each step first looks at what stands before it -/
section
variable {a a' : Option Rs} {b g h : GE} {m : Ms} {Γ s : List Ent} {C : Nat} {p : Prop} [Decidable p] {x y : Bool} {t : Tr} {v : V} {md : List Bool} {i : Nat} {gs gs' : GS} {o o' : Option Os}
def bE (a : Option Rs) (b : GE) : Option Rs := match a with
  | some (.ok m) => b m
  | r => r
theorem gSeq_e : gSeq g b m = bE (g m) b := rfl
theorem bE_ok : bE (some (.ok m)) b = b m := rfl
theorem bE_ex : bE (some (.ex C Γ)) b = some (.ex C Γ) := rfl
theorem bE_ite : bE (if p then a else a') b = if p then bE a b else bE a' b := by split <;> rfl
theorem gNil_e : gNil m = some (.ok m) := rfl
theorem gC_e : gC v m = some (.ok ⟨m.g, .tr (.a v) :: m.s⟩) := rfl
/-- two ways that leave two truth values are one -/
theorem ok_ite : (if p then some (Rs.ok ⟨Γ, .tr (.a (.bl x)) :: s⟩) else some (Rs.ok ⟨Γ, .tr (.a (.bl y)) :: s⟩)) = some (Rs.ok ⟨Γ, .tr (.a (.bl (if p then x else y))) :: s⟩) := by split <;> rfl
def varE (e : Option Ent) (i : Nat) (Γ s : List Ent) : Option Rs := match e with
  | some (.tr t) => if cp t = true then some (.ok ⟨Γ, .tr t :: s⟩) else some (.ok ⟨Γ, .al [i] :: s⟩)
  | some (.al p) => some (.ok ⟨Γ, .al p :: s⟩)
  | _ => none
theorem gVar_e : gVar i m = varE m.g[i]? i m.g m.s := rfl
theorem varE_tr : varE (some (.tr t)) i Γ s = some (.ok ⟨Γ, (if cp t = true then .tr t else .al [i]) :: s⟩) := by
  unfold varE
  split
  · split <;> simp_all
  · simp_all
  · simp_all
theorem varE_al {q : List Nat} : varE (some (.al q)) i Γ s = some (.ok ⟨Γ, .al q :: s⟩) := rfl
def nE (a : Option Rs) : Option Rs := match a with
  | some (.ok ⟨g', .tr (.a (.bl b)) :: s'⟩) => some (.ok ⟨g', .tr (.a (.bl (!b))) :: s'⟩)
  | some (.ex C g') => some (.ex C g')
  | _ => none
theorem gNot_e : gNot g m = nE (g m) := rfl
theorem nE_ok : nE (some (.ok ⟨Γ, .tr (.a (.bl x)) :: s⟩)) = some (.ok ⟨Γ, .tr (.a (.bl (!x))) :: s⟩) := rfl
theorem nE_ite : nE (if p then a else a') = if p then nE a else nE a' := by split <;> rfl
def aE (a : Option Rs) (h : GE) : Option Rs := match a with
  | some (.ok ⟨g', .tr (.a (.bl true)) :: s'⟩) => h ⟨g', s'⟩
  | some (.ok ⟨g', .tr (.a (.bl false)) :: s'⟩) => some (.ok ⟨g', .tr (.a (.bl false)) :: s'⟩)
  | some (.ex C g') => some (.ex C g')
  | _ => none
theorem gAnd_e : gAnd g h m = aE (g m) h := rfl
theorem aE_ok : aE (some (.ok ⟨Γ, .tr (.a (.bl x)) :: s⟩)) h = if x = true then h ⟨Γ, s⟩ else some (.ok ⟨Γ, .tr (.a (.bl false)) :: s⟩) := by cases x <;> rfl
theorem aE_ite : aE (if p then a else a') h = if p then aE a h else aE a' h := by split <;> rfl
theorem aE_ex : aE (some (.ex C Γ)) h = some (.ex C Γ) := rfl
def oE (a : Option Rs) (h : GE) : Option Rs := match a with
  | some (.ok ⟨g', .tr (.a (.bl false)) :: s'⟩) => h ⟨g', s'⟩
  | some (.ok ⟨g', .tr (.a (.bl true)) :: s'⟩) => some (.ok ⟨g', .tr (.a (.bl true)) :: s'⟩)
  | some (.ex C g') => some (.ex C g')
  | _ => none
theorem gOrB_e : gOrB g h m = oE (g m) h := rfl
theorem oE_ok : oE (some (.ok ⟨Γ, .tr (.a (.bl x)) :: s⟩)) h = if x = true then some (.ok ⟨Γ, .tr (.a (.bl true)) :: s⟩) else h ⟨Γ, s⟩ := by cases x <;> rfl
theorem oE_ite : oE (if p then a else a') h = if p then oE a h else oE a' h := by split <;> rfl
theorem oE_ex : oE (some (.ex C Γ)) h = some (.ex C Γ) := rfl
def iE (a : Option Rs) (g h : GE) : Option Rs := match a with
  | some (.ok ⟨g', .tr (.a (.bl true)) :: s'⟩) => g ⟨g', s'⟩
  | some (.ok ⟨g', .tr (.a (.bl false)) :: s'⟩) => h ⟨g', s'⟩
  | some (.ex C g') => some (.ex C g')
  | _ => none
theorem gIf_e : gIf b g h m = iE (b m) g h := rfl
theorem iE_ok : iE (some (.ok ⟨Γ, .tr (.a (.bl x)) :: s⟩)) g h = if x = true then g ⟨Γ, s⟩ else h ⟨Γ, s⟩ := by cases x <;> rfl
theorem iE_ite : iE (if p then a else a') g h = if p then iE a g h else iE a' g h := by split <;> rfl
def xE (a : Option Rs) : Option Rs := match a with
  | some (.ok m') => some (.ok m')
  | _ => none
theorem noEx_e : noEx g m = xE (g m) := rfl
theorem xE_ok : xE (some (.ok m)) = some (.ok m) := rfl
/-! statements -/
def bS (o : Option Os) (g : GS) : Option Os := match o with
  | some (.nx m') => g m'
  | r => r
theorem sSeq_e : sSeq gs gs' m = bS (gs m) gs' := rfl
theorem bS_nx : bS (some (.nx m)) gs = gs m := rfl
theorem bS_rt : bS (some (.rt t m)) gs = some (.rt t m) := rfl
theorem bS_bk : bS (some (.bk m)) gs = some (.bk m) := rfl
theorem bS_ct : bS (some (.ct m)) gs = some (.ct m) := rfl
theorem bS_ex : bS (some (.ex C Γ)) gs = some (.ex C Γ) := rfl
theorem bS_ite : bS (if p then o else o') gs = if p then bS o gs else bS o' gs := by split <;> rfl
theorem sNil_e : sNil m = some (.nx m) := rfl
def iS (a : Option Rs) (g h : GS) : Option Os := match a with
  | some (.ok ⟨g', .tr (.a (.bl true)) :: s'⟩) => g ⟨g', s'⟩
  | some (.ok ⟨g', .tr (.a (.bl false)) :: s'⟩) => h ⟨g', s'⟩
  | some (.ex C g') => some (.ex C g')
  | _ => none
theorem sIf_e : sIf g gs gs' m = iS (g m) gs gs' := rfl
theorem iS_ok : iS (some (.ok ⟨Γ, .tr (.a (.bl x)) :: s⟩)) gs gs' = if x = true then gs ⟨Γ, s⟩ else gs' ⟨Γ, s⟩ := by cases x <;> rfl
theorem iS_ex : iS (some (.ex C Γ)) gs gs' = some (.ex C Γ) := rfl
theorem iS_ite : iS (if p then a else a') gs gs' = if p then iS a gs gs' else iS a' gs gs' := by split <;> rfl
def rS (a : Option Rs) : Option Os := match a with
  | some (.ok ⟨g, .tr t :: s⟩) => some (.rt t ⟨g, s⟩)
  | some (.ex C g) => some (.ex C g)
  | _ => none
theorem sRet_e : sRet g m = rS (g m) := rfl
theorem rS_ok : rS (some (.ok ⟨Γ, .tr t :: s⟩)) = some (.rt t ⟨Γ, s⟩) := rfl
theorem rS_ex : rS (some (.ex C Γ)) = some (.ex C Γ) := rfl
theorem rS_ite : rS (if p then a else a') = if p then rS a else rS a' := by split <;> rfl
def eS (a : Option Rs) : Option Os := match a with
  | some (.ok ⟨g, _ :: s⟩) => some (.nx ⟨g, s⟩)
  | some (.ex C g) => some (.ex C g)
  | _ => none
theorem sExpr_e : sExpr g m = eS (g m) := rfl
theorem eS_ok {e : Ent} : eS (some (.ok ⟨Γ, e :: s⟩)) = some (.nx ⟨Γ, s⟩) := rfl
theorem eS_ex : eS (some (.ex C Γ)) = some (.ex C Γ) := rfl
theorem eS_ite : eS (if p then a else a') = if p then eS a else eS a' := by split <;> rfl
def nxO (m : Option Ms) : Option Os := match m with
  | some m' => some (.nx m')
  | none => none
theorem nxO_some : nxO (some m) = some (.nx m) := rfl
/-- an expression, then something with the state -/
def kS (a : Option Rs) (f : Ms → Option Ms) : Option Os := match a with
  | some (.ok m1) => nxO (f m1)
  | some (.ex C g) => some (.ex C g)
  | none => none
theorem kS_ok {f : Ms → Option Ms} : kS (some (.ok m)) f = nxO (f m) := rfl
theorem kS_ex {f : Ms → Option Ms} : kS (some (.ex C Γ)) f = some (.ex C Γ) := rfl
theorem kS_ite {f : Ms → Option Ms} : kS (if p then a else a') f = if p then kS a f else kS a' f := by split <;> rfl
theorem sSet_e : sSet md i g m = kS (g m) (bind md i) := by
  unfold sSet kS nxO
  cases g m with
  | none => rfl
  | some r => cases r <;> rfl
theorem sAsg_e {f : Ms → Option Ms} : sAsg g f m = kS (g m) f := by
  unfold sAsg kS nxO
  cases g m with
  | none => rfl
  | some r => cases r <;> rfl
theorem sSubA_e : sSubA g b h m = kS (gSeq (gSeq g b) h m) stSubA := by
  unfold sSubA kS nxO
  cases gSeq (gSeq g b) h m with
  | none => rfl
  | some r => cases r <;> rfl
theorem sFldS_e {tab : List (Nat × Nat)} : sFldS tab g b m = kS (gSeq g b m) (stFld tab) := by
  unfold sFldS kS nxO
  cases gSeq g b m with
  | none => rfl
  | some r => cases r <;> rfl
theorem bind_tr (h1 : md.getD i false = false) (h2 : i < Γ.length) : bind md i ⟨Γ, .tr t :: s⟩ = some ⟨(Γ.map (killR i)).set i (.tr t), s.map (killR i)⟩ := by
  unfold bind
  rw [if_neg (by rw [h1]; simpa using h2)]
theorem bind_al {q : List Nat} (h1 : md.getD i false = false) (h2 : i < Γ.length) (h3 : q.head? ≠ some i) : bind md i ⟨Γ, .al q :: s⟩ = some ⟨(Γ.map (killR i)).set i (.al q), s.map (killR i)⟩ := by
  unfold bind
  rw [if_neg (by rw [h1]; simpa using h2)]
  simp only
  rw [if_neg h3]
/-! loops -/
theorem sForR1_e {bd : Ms → Option Ms} {n : Int} (e : g m = some (.ok ⟨Γ, .tr (.a (.int n)) :: s⟩)) (h1 : -(2 ^ 62) ≤ n) (h2 : n < 2 ^ 62) : sForR1 g bd gs m = loopR bd gs 0 n.toNat 0 ⟨Γ, s⟩ := by
  unfold sForR1
  rw [e]
  simp only
  rw [if_pos ⟨h1, h2⟩]
/-- a for over a range: an invariant; a turn may leave -/
theorem loopR_go {bd : Ms → Option Ms} {lo : Int} {n : Nat} (I : Nat → Ms → Prop) (Q : Os → Prop) (fin : ∀ m, I n m → Q (.nx m))
    (turn : ∀ i m, i < n → I i m → ∃ m1 o, bd ⟨m.g, .tr (.a (.int (lo + i))) :: m.s⟩ = some m1 ∧ gs m1 = some o ∧ (match o with | .nx m2 => I (i + 1) m2 | .ct m2 => I (i + 1) m2 | .bk m2 => Q (.nx m2) | o => Q o)) :
    ∀ r i m, i + r = n → I i m → ∃ o, loopR bd gs lo r i m = some o ∧ Q o
  | 0, i, m, e, h => ⟨_, rfl, fin m (by rw [← e]; exact h)⟩
  | r + 1, i, m, e, h => by
    obtain ⟨m1, o, h1, h2, h3⟩ := turn i m (by omega) h
    have e1 : loopR bd gs lo (r + 1) i m = (match gs m1 with
      | some (.nx m2) => loopR bd gs lo r (i + 1) m2
      | some (.ct m2) => loopR bd gs lo r (i + 1) m2
      | some (.bk m2) => some (.nx m2)
      | some (.rt t m2) => some (.rt t m2)
      | some (.ex C g) => some (.ex C g)
      | none => none) := by
      show (match bd ⟨m.g, .tr (.a (.int (lo + i))) :: m.s⟩ with | some m1 => _ | none => none) = _
      rw [h1]
      try simp only
      all_goals
        generalize gs m1 = q
        cases q with
        | none => rfl
        | some o => cases o <;> rfl
    rw [e1, h2]
    cases o with
    | nx m2 => exact loopR_go I Q fin turn r (i + 1) m2 (by omega) h3
    | ct m2 => exact loopR_go I Q fin turn r (i + 1) m2 (by omega) h3
    | bk m2 => exact ⟨_, rfl, h3⟩
    | rt t m2 => exact ⟨_, rfl, h3⟩
    | ex C g => exact ⟨_, rfl, h3⟩
theorem loopR_inv {bd : Ms → Option Ms} {lo : Int} {n : Nat} (I : Nat → Ms → Prop) (Q : Os → Prop) (h0 : I 0 m) (fin : ∀ m, I n m → Q (.nx m))
    (turn : ∀ i m, i < n → I i m → ∃ m1 o, bd ⟨m.g, .tr (.a (.int (lo + i))) :: m.s⟩ = some m1 ∧ gs m1 = some o ∧ (match o with | .nx m2 => I (i + 1) m2 | .ct m2 => I (i + 1) m2 | .bk m2 => Q (.nx m2) | o => Q o)) :
    ∃ o, loopR bd gs lo n 0 m = some o ∧ Q o := loopR_go I Q fin turn n 0 m (by omega) h0
/-- a for over a list or tuple that is lent or stands at a place, by an invariant that tells the thing on top -/
theorem loopE_go {k : Nk} {bd : Ms → Option Ms} {n : Nat} (I : Nat → Ms → Prop) (Q : Os → Prop) (fin : ∀ m, I n m → ∃ e s o ts, m.s = e :: s ∧ viewE m.g e = some (.nd k o ts) ∧ ts.length = n ∧ Q (.nx ⟨m.g, s⟩))
    (turn : ∀ i m, i < n → I i m → ∃ e s o ts e' m1 oo, m.s = e :: s ∧ viewE m.g e = some (.nd k o ts) ∧ cpE e = true ∧ ts.length = n ∧ kidX e k o ts i = some e' ∧ bd ⟨m.g, e' :: e :: s⟩ = some m1 ∧ gs m1 = some oo ∧
      (match oo with | .nx m2 => I (i + 1) m2 | .ct m2 => I (i + 1) m2 | .bk m2 => Q (.nx ⟨m2.g, m2.s.tail⟩) | .rt t m2 => Q (.rt t ⟨m2.g, m2.s.tail⟩) | o => Q o)) :
    ∀ r i m, i + r = n → I i m → ∃ o, loopE k bd gs r i m = some o ∧ Q o
  | 0, i, m, e, h => by
    obtain ⟨en, s, o, ts, h1, h2, h3, h4⟩ := fin m (by rw [← e]; exact h)
    refine ⟨_, ?_, h4⟩
    unfold loopE
    rw [h1]
    simp only [h2]
    rw [if_pos ⟨trivial, by omega⟩]
  | r + 1, i, m, e, h => by
    obtain ⟨en, s, o, ts, e', m1, oo, h1, h2, h3, h4, h5, h6, h7, h8⟩ := turn i m (by omega) h
    have e1 : loopE k bd gs (r + 1) i m = (match gs m1 with
      | some (.nx m2) => loopE k bd gs r (i + 1) m2
      | some (.ct m2) => loopE k bd gs r (i + 1) m2
      | some (.bk m2) => some (.nx ⟨m2.g, m2.s.tail⟩)
      | some (.rt t m2) => some (.rt t ⟨m2.g, m2.s.tail⟩)
      | some (.ex C g) => some (.ex C g)
      | none => none) := by
      conv => lhs; unfold loopE
      rw [h1]
      simp only [h2]
      rw [if_pos ⟨trivial, h3, by omega⟩, h5]
      simp only [h6]
      all_goals
        generalize gs m1 = q
        cases q with
        | none => rfl
        | some o => cases o <;> rfl
    rw [e1, h7]
    cases oo with
    | nx m2 => exact loopE_go I Q fin turn r (i + 1) m2 (by omega) h8
    | ct m2 => exact loopE_go I Q fin turn r (i + 1) m2 (by omega) h8
    | bk m2 => exact ⟨_, rfl, h8⟩
    | rt t m2 => exact ⟨_, rfl, h8⟩
    | ex C g => exact ⟨_, rfl, h8⟩
end
/-! calls and comprehensions as rewriting rules -/
section
variable {is : List Nat} {mdc md : List Bool} {G : GF} {n k : Nat} {m m1 : Ms} {Γ s : List Ent} {ts : List Tr} {gs ga gt ge gb gc f f' : GE} {v : V} {p : Prop} [Decidable p] {b : Bool}
def c3 (x : Option Rt) (is : List Nat) (n : Nat) (m1 : Ms) : Option Rs := match x with
  | some (.rt r ts') => match resAll 1 n is.reverse ⟨m1.g, .tr r :: (ts'.map .tr ++ m1.s.drop n)⟩ with
    | some m2 => some (.ok ⟨m2.g, m2.s.take 1 ++ m2.s.drop (1 + (n - is.length))⟩)
    | none => none
  | some (.ex C ts') => match resAll 0 n is.reverse ⟨m1.g, ts'.map .tr ++ m1.s.drop n⟩ with
    | some m2 => some (.ex C m2.g)
    | none => none
  | none => none
theorem c3_ite {x x' : Option Rt} : c3 (if p then x else x') is n m1 = if p then c3 x is n m1 else c3 x' is n m1 := by split <;> rfl
theorem c3_rt {r : Tr} : c3 (some (.rt r ts)) is n m1 = match resAll 1 n is.reverse ⟨m1.g, .tr r :: (ts.map .tr ++ m1.s.drop n)⟩ with
    | some m2 => some (.ok ⟨m2.g, m2.s.take 1 ++ m2.s.drop (1 + (n - is.length))⟩)
    | none => none := by
  rfl
theorem c3_ex {C : Nat} : c3 (some (.ex C ts)) is n m1 = match resAll 0 n is.reverse ⟨m1.g, ts.map .tr ++ m1.s.drop n⟩ with
    | some m2 => some (.ex C m2.g)
    | none => none := by
  rfl
def c2 (x : Option (List Tr)) (is : List Nat) (G : GF) (n : Nat) (m1 : Ms) : Option Rs := match x with
  | none => none
  | some ts => c3 (G ts) is n m1
theorem c2_some : c2 (some ts) is G n m1 = c3 (G ts) is n m1 := rfl
def c1 (x : Option Ms) (is : List Nat) (mdc : List Bool) (G : GF) (n : Nat) : Option Rs := match x with
  | none => none
  | some m1 => c2 (argT m1.g mdc (m1.s.take n).reverse) is G n m1
theorem c1_some : c1 (some m1) is mdc G n = c2 (argT m1.g mdc (m1.s.take n).reverse) is G n m1 := rfl
theorem gCall_e : gCall is mdc G n m = c1 (extAll n is m) is mdc G n := by
  unfold gCall c1
  cases extAll n is m with
  | none => rfl
  | some m1 =>
    simp only
    unfold c2
    cases argT m1.g mdc (m1.s.take n).reverse with
    | none => rfl
    | some ts =>
      simp only
      unfold c3
      cases G ts with
      | none => rfl
      | some r =>
        cases r with
        | rt r ts' => first | rfl | (simp only; done) | (simp only; split <;> simp_all)
        | ex C ts' => first | rfl | (simp only; done) | (simp only; split <;> simp_all)
def k2 (x : Option Rt) (l : Nat) (m : Ms) : Option Rs := match x with
  | some (.rt (.a .non) (t :: _)) => some (.ok ⟨m.g, .tr t :: m.s.drop l⟩)
  | some (.ex C _) => some (.ex C m.g)
  | _ => none
theorem k2_rt {t : Tr} {l : Nat} : k2 (some (.rt (.a .non) (t :: ts))) l m = some (.ok ⟨m.g, .tr t :: m.s.drop l⟩) := rfl
theorem k2_ex {C : Nat} {l : Nat} : k2 (some (.ex C ts)) l m = some (.ex C m.g) := rfl
theorem k2_ite {x x' : Option Rt} {l : Nat} : k2 (if p then x else x') l m = if p then k2 x l m else k2 x' l m := by split <;> rfl
def k1 (x : Option (List Tr)) (G : GF) (l : Nat) (m : Ms) : Option Rs := match x with
  | none => none
  | some ts => k2 (G ts) l m
theorem k1_some {l : Nat} : k1 (some ts) G l m = k2 (G ts) l m := rfl
theorem gMake_e {l : Nat} : gMake n mdc G l m = k1 (argT m.g (true :: mdc) (.tr (.nd (.ins n 0) .own []) :: (m.s.take l).reverse)) G l m := by
  unfold gMake k1
  generalize argT m.g (true :: mdc) (.tr (.nd (.ins n 0) .own []) :: (m.s.take l).reverse) = q
  cases q with
  | none => rfl
  | some ts => first | rfl | (simp only; unfold k2; rfl)
/-! chains of comparisons of plain values -/
def h2 (x : Option Rs) (v : V) (gc f' : GE) : Option Rs := match x with
  | some (.ok ⟨g2, .tr (.a (.bl true)) :: s2⟩) => match gc ⟨g2, .tr (.a v) :: s2⟩ with
    | some (.ok m3) => f' m3
    | some (.ex C g) => some (.ex C g)
    | none => none
  | some (.ok ⟨g2, .tr (.a (.bl false)) :: s2⟩) => some (.ok ⟨g2, .tr (.a (.bl false)) :: s2⟩)
  | _ => none
theorem h2_ok : h2 (some (.ok ⟨Γ, .tr (.a (.bl b)) :: s⟩)) v gc f' = if b = true then bE (gc ⟨Γ, .tr (.a v) :: s⟩) f' else some (.ok ⟨Γ, .tr (.a (.bl false)) :: s⟩) := by
  cases b
  · rfl
  · simp only [h2, bE, if_true]
    cases gc ⟨Γ, .tr (.a v) :: s⟩ with
    | none => rfl
    | some r => cases r <;> rfl
def h1 (x : Option Rs) (f gc f' : GE) : Option Rs := match x with
  | some (.ok ⟨g1, .tr (.a v) :: s1⟩) => h2 (f ⟨g1, .tr (.a v) :: s1⟩) v gc f'
  | some (.ex C g) => some (.ex C g)
  | _ => none
theorem h1_ok : h1 (some (.ok ⟨Γ, .tr (.a v) :: s⟩)) f gc f' = h2 (f ⟨Γ, .tr (.a v) :: s⟩) v gc f' := rfl
theorem gChain_e : gChain ga gb f gc f' m = h1 (bE (ga m) gb) f gc f' := by
  unfold gChain h1
  rw [gSeq_e]
  rfl
/-! comprehensions that change nothing but the new list -/
theorem clr_set (h1 : Γ[k]? = some .no) (h2 : Γ.map (killR k) = Γ) {e : Ent} : ((Γ.set k e).map (killR k)).set k .no = Γ := by
  rw [List.map_set, h2, List.set_set]
  exact set_same h1
/-- one turn: the name k gets e -/
theorem lcTurn_is {e : Ent} {d : Nat} {acc : List Tr} {y : Tr} (hmd : md.getD k false = false) (hk : Γ[k]? = some .no) (hΓ : Γ.map (killR k) = Γ) (hs : s.map (killR k) = s) (hne : (∃ t, e = .tr t) ∨ ∃ q, e = .al q ∧ q.head? ≠ some k)
    (hd : s[d]? = some (.tr (.nd .lst .own acc))) (hl : acc.length < sizeLine) (ht : gt ⟨Γ.set k e, s⟩ = some (.ok ⟨Γ.set k e, .tr (.a (.bl b)) :: s⟩)) (he : b = true → ge ⟨Γ.set k e, s⟩ = some (.ok ⟨Γ.set k e, .tr y :: s⟩) ∧ esc y = true) :
    lcTurn [k] (bind md k) gt ge d ⟨Γ, e :: s⟩ = some ⟨Γ, if b = true then s.set d (.tr (.nd .lst .own (acc ++ [y]))) else s⟩ := by
  have hlt := getq_lt' hk
  have hb : bind md k ⟨Γ, e :: s⟩ = some ⟨Γ.set k e, s⟩ := by
    rcases hne with ⟨t, rfl⟩ | ⟨q, rfl, hq⟩
    · rw [bind_tr hmd hlt, hΓ, hs]
    · rw [bind_al hmd hlt hq, hΓ, hs]
  unfold lcTurn
  rw [hb]
  simp only
  rw [ht]
  cases b with
  | false =>
    simp only
    rw [if_pos (by intro i hi; rw [List.mem_singleton.mp hi, List.length_set]; exact hlt)]
    simp only [clrs, clr]
    rw [clr_set hk hΓ, hs]
    simp
  | true =>
    obtain ⟨h1, h2⟩ := he rfl
    simp only
    rw [h1]
    simp only
    rw [hd]
    simp only
    rw [if_pos ⟨h2, hl, by intro i hi; rw [List.mem_singleton.mp hi, List.length_set]; exact hlt⟩]
    simp only [clrs, clr]
    rw [clr_set hk hΓ, List.map_set, hs]
    simp [killR]
theorem allNo1 (hk : Γ[k]? = some .no) : allNo Γ [k] = true := by simp [allNo, hk]
/-- the items that a range has -/
def rng (lo : Int) (n : Nat) : List Int := (List.range n).map fun (i : Nat) => lo + (i : Int)
theorem lcR_pure {lo : Int} (hmd : md.getD k false = false) (hk : Γ[k]? = some .no) (hΓ : Γ.map (killR k) = Γ) (hs : s.map (killR k) = s) (hn : n ≤ 100000) (P : Int → Bool) (F : Int → Tr)
    (ht : ∀ x s', lo ≤ x → x < lo + n → gt ⟨Γ.set k (.tr (.a (.int x))), s'⟩ = some (.ok ⟨Γ.set k (.tr (.a (.int x))), .tr (.a (.bl (P x))) :: s'⟩))
    (he : ∀ x s', lo ≤ x → x < lo + n → P x = true → ge ⟨Γ.set k (.tr (.a (.int x))), s'⟩ = some (.ok ⟨Γ.set k (.tr (.a (.int x))), .tr (F x) :: s'⟩) ∧ esc (F x) = true) :
    lcR [k] (bind md k) gt ge lo n 0 ⟨Γ, .tr (.nd .lst .own []) :: s⟩ = some ⟨Γ, .tr (.nd .lst .own (((rng lo n).filter P).map F)) :: s⟩ := by
  have key := lcR_is (cv := [k]) (bd := bind md k) (gt := gt) (ge := ge) (lo := lo) (g := Γ) (s := s) (n := n) (fun i => P (lo + (i : Int))) (fun i => F (lo + (i : Int))) (fun i acc hi hl => by
    have hx1 : lo ≤ lo + (i : Int) := by omega
    have hx2 : lo + (i : Int) < lo + n := by omega
    rw [lcTurn_is (y := F (lo + (i : Int))) (b := P (lo + (i : Int))) (acc := acc) hmd hk hΓ (by simp [hs, killR]) (.inl ⟨_, rfl⟩) rfl (Nat.lt_of_lt_of_le (by omega : acc.length < 100000) (by decide)) (ht _ _ hx1 hx2) (fun q => he _ _ hx1 hx2 q)]
    split <;> rfl)
  rw [key]
  congr 4
  unfold rng
  rw [List.filter_map, List.map_map]
  rfl
theorem gLcR1_is {j : Int} (e : ga m = some (.ok ⟨Γ, .tr (.a (.int j)) :: s⟩)) (hj : j ≤ 100000) (hj0 : -100000 ≤ j) (hmd : md.getD k false = false) (hk : Γ[k]? = some .no) (hΓ : Γ.map (killR k) = Γ) (hs : s.map (killR k) = s) (P : Int → Bool) (F : Int → Tr)
    (ht : ∀ x s', 0 ≤ x → x < j → gt ⟨Γ.set k (.tr (.a (.int x))), s'⟩ = some (.ok ⟨Γ.set k (.tr (.a (.int x))), .tr (.a (.bl (P x))) :: s'⟩))
    (he : ∀ x s', 0 ≤ x → x < j → P x = true → ge ⟨Γ.set k (.tr (.a (.int x))), s'⟩ = some (.ok ⟨Γ.set k (.tr (.a (.int x))), .tr (F x) :: s'⟩) ∧ esc (F x) = true) :
    gLcR1 [k] ga (bind md k) gt ge m = some (.ok ⟨Γ, .tr (.nd .lst .own (((rng 0 j.toNat).filter P).map F)) :: s⟩) := by
  unfold gLcR1
  rw [e]
  simp only
  rw [if_pos ⟨by omega, by omega, allNo1 hk⟩, lcR_pure hmd hk hΓ hs (by omega) P F (fun x s' h1 h2 => ht x s' h1 (by omega)) (fun x s' h1 h2 => he x s' h1 (by omega))]
  simp only
  rw [if_pos (allNo1 hk)]
theorem gLcR2_is {i j : Int} (e : ga m = some (.ok ⟨Γ, .tr (.a (.int j)) :: .tr (.a (.int i)) :: s⟩)) (hi : -100000 ≤ i) (hi2 : i ≤ 100000) (hj : j ≤ 100000) (hj0 : -100000 ≤ j) (hij : j - i ≤ 100000) (hmd : md.getD k false = false) (hk : Γ[k]? = some .no) (hΓ : Γ.map (killR k) = Γ) (hs : s.map (killR k) = s) (P : Int → Bool) (F : Int → Tr)
    (ht : ∀ x s', i ≤ x → x < j → gt ⟨Γ.set k (.tr (.a (.int x))), s'⟩ = some (.ok ⟨Γ.set k (.tr (.a (.int x))), .tr (.a (.bl (P x))) :: s'⟩))
    (he : ∀ x s', i ≤ x → x < j → P x = true → ge ⟨Γ.set k (.tr (.a (.int x))), s'⟩ = some (.ok ⟨Γ.set k (.tr (.a (.int x))), .tr (F x) :: s'⟩) ∧ esc (F x) = true) :
    gLcR2 [k] ga (bind md k) gt ge m = some (.ok ⟨Γ, .tr (.nd .lst .own (((rng i (j - i).toNat).filter P).map F)) :: s⟩) := by
  unfold gLcR2
  rw [e]
  simp only
  rw [if_pos ⟨by omega, by omega, by omega, by omega, allNo1 hk⟩, lcR_pure hmd hk hΓ hs (by omega) P F (fun x s' h1 h2 => ht x s' h1 (by omega)) (fun x s' h1 h2 => he x s' h1 (by omega))]
  simp only
  rw [if_pos (allNo1 hk)]
/-- over a list or tuple; X j: how its j-th item comes -/
theorem gLcW_is {e : Ent} {kd : Nk} {o : Ow} {s1 : List Ent} (hg : gs m = some (.ok m1)) (hr : ready m1 = some (⟨Γ, e :: s⟩, kd, ts.length)) (hv : viewE Γ e = some (.nd kd o ts)) (hc : cpE e = true) (hl : ts.length ≤ 100000)
    (hmd : md.getD k false = false) (hk : Γ[k]? = some .no) (hΓ : Γ.map (killR k) = Γ) (hs : s.map (killR k) = s) (hke : killR k e = e) (X : Nat → Ent) (P : Nat → Bool) (F : Nat → Tr)
    (hX : ∀ j, j < ts.length → kidX e kd o ts j = some (X j) ∧ ((∃ t, X j = .tr t) ∨ ∃ q, X j = .al q ∧ q.head? ≠ some k))
    (R : List Ent → Prop) (hR : ∀ acc, R (e :: .tr (.nd .lst .own acc) :: s))
    (ht : ∀ j s', R s' → j < ts.length → gt ⟨Γ.set k (X j), s'⟩ = some (.ok ⟨Γ.set k (X j), .tr (.a (.bl (P j))) :: s'⟩))
    (he : ∀ j s', R s' → j < ts.length → P j = true → ge ⟨Γ.set k (X j), s'⟩ = some (.ok ⟨Γ.set k (X j), .tr (F j) :: s'⟩) ∧ esc (F j) = true) :
    gLc [k] gs (bind md k) gt ge m = some (.ok ⟨Γ, .tr (.nd .lst .own (((List.range ts.length).filter P).map F)) :: s⟩) := by
  unfold gLc
  rw [hg]
  simp only
  rw [hr]
  simp only
  rw [if_pos (allNo1 hk)]
  have key := lcL_go (cv := [k]) (bd := bind md k) (gt := gt) (ge := ge) (g := Γ) (s := s) (k := kd) (o := o) (ts := ts) (e := e) P F hv hc (fun j acc hj hacc => by
    obtain ⟨h1, h2⟩ := hX j hj
    refine ⟨X j, h1, ?_⟩
    rw [lcTurn_is (y := F j) (b := P j) (acc := acc) hmd hk hΓ (by rw [List.map_cons, List.map_cons, hs, hke]; rfl) h2 rfl (Nat.lt_of_lt_of_le (by omega : acc.length < 100000) (by decide)) (ht j _ (hR acc) hj) (fun q => he j _ (hR acc) hj q)]
    split <;> rfl) ts.length 0 [] (by omega) (by simp)
  rw [key]
  simp only
  rw [if_pos (allNo1 hk), List.nil_append, List.tail_cons, ← List.range_eq_range']
end
/-! a def's end -/
def fR (md : List Bool) (o : Option Os) : Option Rt := match o with
  | some (.nx m) => if escL (outP md m.g) = true then some (.rt (.a .non) (outP md m.g)) else none
  | some (.rt t m) => if esc t = true ∧ escL (outP md m.g) = true then some (.rt t (outP md m.g)) else none
  | some (.ex C g') => if escL (outP md g') = true then some (.ex C (outP md g')) else none
  | _ => none
section
variable {md : List Bool} {o o' : Option Os} {p : Prop} [Decidable p] {m : Ms} {t : Tr} {C N : Nat} {g : List Ent} {gs : GS} {ts : List Tr}
def nos : Nat → List Ent
  | 0 => []
  | n + 1 => .no :: nos n
theorem nos_e : ∀ n, nos n = List.replicate n .no
  | 0 => rfl
  | n + 1 => by
    rw [nos, nos_e n]
    rfl
theorem runF_e : runF md N gs ts = fR md (gs ⟨ts.map Ent.tr ++ nos (N - ts.length), []⟩) := by
  rw [nos_e]
  unfold runF fR
  rfl
theorem fR_ite : fR md (if p then o else o') = if p then fR md o else fR md o' := by split <;> rfl
theorem fR_nx : fR md (some (.nx m)) = if escL (outP md m.g) = true then some (.rt (.a .non) (outP md m.g)) else none := rfl
theorem fR_rt : fR md (some (.rt t m)) = if esc t = true ∧ escL (outP md m.g) = true then some (.rt t (outP md m.g)) else none := rfl
theorem fR_ex : fR md (some (.ex C g)) = if escL (outP md g) = true then some (.ex C (outP md g)) else none := rfl
theorem rt_ite {x y : V} : (if p then some (Rt.rt (.a x) ts) else some (Rt.rt (.a y) ts)) = some (Rt.rt (.a (if p then x else y)) ts) := by split <;> rfl
theorem int_ite {x y : Int} : (if p then V.int x else V.int y) = V.int (if p then x else y) := by split <;> rfl
theorem bl_ite {x y : Bool} : (if p then V.bl x else V.bl y) = V.bl (if p then x else y) := by split <;> rfl
end
/-! an argument that is handed on after all of them have been read -/
section
variable {K : KC} {X : Cx} {T : KT} {md : List Bool} {W : WX} {g : GE} {es : List Expr} {d : Nat}
def fMvD (md : List Bool) (d : Nat) : GE := fun m => match m.s[d]? with
  | some (.tr _) => some (.ok m)
  | some e => match fMv md ⟨m.g, e :: m.s.eraseIdx d⟩ with
    | some (.ok ⟨g', e' :: s'⟩) => some (.ok ⟨g', s'.take d ++ e' :: s'.drop d⟩)
    | _ => none
  | none => none
theorem fMvD_ok {c : Cz} {σ : St} {H : Hp} {m m' : Ms} {us : List V} (E : EnvOk K c σ H m.g m.s us) (hf : fMvD md d m = some (.ok m')) : EnvOk K c σ H m'.g m'.s us := by
  have hl := tail_len E
  unfold fMvD at hf
  split at hf
  · cases hf
    exact E
  · rename_i e hn he
    split at hf
    · rename_i g' e' s' h1
      cases hf
      have hlt := getq_lt' he
      have hdu : d < us.length := by omega
      have es := split_at he
      have eu := split_at (List.getElem?_eq_getElem hdu)
      rw [es, eu] at E
      have E1 := EnvOk.permA (A := m.s.take d) (B := [e]) (va := us.take d) (vb := [us[d]]) (by simp; omega) rfl E
      have E2 : EnvOk K c σ H m.g (e :: m.s.eraseIdx d) (us[d] :: us.eraseIdx d) := by
        rw [erase_split, erase_split]
        exact E1
      have E3 : EnvOk K c σ H g' (e' :: s') (us[d] :: us.eraseIdx d) := fMv_ok (m := ⟨m.g, e :: m.s.eraseIdx d⟩) E2 h1
      have hl2 := tail_len E3
      have hle : (us.eraseIdx d).length = us.length - 1 := by rw [List.length_eraseIdx]; simp; omega
      simp only [List.length_cons] at hl2
      have E4 : EnvOk K c σ H g' ([e'] ++ (s'.take d ++ s'.drop d)) ([us[d]] ++ ((us.eraseIdx d).take d ++ (us.eraseIdx d).drop d)) := by
        rw [List.take_append_drop, List.take_append_drop]
        exact E3
      have E5 := EnvOk.permA (A := [e']) (B := s'.take d) (va := [us[d]]) (vb := (us.eraseIdx d).take d) rfl (by simp; omega) E4
      have e1 : (us.eraseIdx d).take d = us.take d := by rw [erase_split, List.take_append_of_le_length (by simp; omega), List.take_take]; congr 1; omega
      have e2 : (us.eraseIdx d).drop d = us.drop (d + 1) := by
        rw [erase_split, List.drop_append]
        have : (us.take d).length = d := by simp; omega
        rw [this]
        simp
      rw [e1, e2] at E5
      rw [eu]
      exact E5
    · cases hf
  · cases hf
theorem ma_mvd (h : MA X T md W es g) : MA X T md W es (gSeq g (fMvD md d)) := by
  obtain ⟨t, p, s⟩ := h
  refine ⟨t, p, fun c σ H m us Q rr hc E hg hp => ?_⟩
  simp only [gSeq] at hg
  split at hg
  · rename_i m1 h1
    refine s c σ H m us _ _ hc E h1 fun vs H1 hl E1 => ?_
    cases rr with
    | ex C g' =>
      exfalso
      unfold fMvD at hg
      split at hg
      · cases hg
      · split at hg <;> cases hg
      · cases hg
    | ok m2 => exact hp vs H1 hl (fMvD_ok E1 hg)
  · rename_i h1
    refine s c σ H m us _ _ hc E hg ?_
    cases rr with
    | ex C g' => exact hp
    | ok m2 => exact absurd hg (h1 m2)
end
/-! comprehensions over a list of encoded things, steps of statements -/
section
variable {md : List Bool} {k n : Nat} {m m1 : Ms} {Γ s : List Ent} {gs gt ge : GE} {e : Ent} {kd : Nk} {o : Ow} {α : Type}
def atO (xs : List α) (f : α → β) (d : β) (j : Nat) : β := match xs[j]? with
  | some x => f x
  | none => d
theorem atO_map {β : Type} (xs : List α) (p : α → Bool) (F : α → β) (d : β) : ((List.range xs.length).filter (atO xs p false)).map (atO xs F d) = (xs.filter p).map F := by
  have key : ∀ (ys pre : List α), xs = pre ++ ys → ((List.range' pre.length ys.length).filter (atO xs p false)).map (atO xs F d) = (ys.filter p).map F := by
    intro ys
    induction ys with
    | nil => intro pre _; simp
    | cons y ys ih =>
      intro pre hx
      have h1 : ∀ {γ : Type} (f : α → γ) (d : γ), atO xs f d pre.length = f y := fun {γ} f d => by
        unfold atO
        rw [hx]
        simp
      have h2 := ih (pre ++ [y]) (by simp [hx])
      rw [List.length_append, List.length_singleton] at h2
      rw [List.length_cons, List.range'_succ, List.filter_cons, List.filter_cons, h1]
      split
      · rw [List.map_cons, List.map_cons, h1, h2]
      · exact h2
  have := key xs [] rfl
  rw [List.range_eq_range']
  exact this
theorem gLcAW_is {xs : List α} {enc : α → Tr} (hg : gs m = some (.ok m1)) (hr : ready m1 = some (⟨Γ, e :: s⟩, kd, xs.length)) (hv : viewE Γ e = some (.nd kd o (xs.map enc))) (hc : cpE e = true) (hl : xs.length ≤ 100000)
    (hmd : md.getD k false = false) (hk : Γ[k]? = some .no) (hΓ : Γ.map (killR k) = Γ) (hs : s.map (killR k) = s) (hke : killR k e = e) (hcp : ∀ x ∈ xs, cp (kid o (enc x)) = true) (p : α → Bool) (F : α → Tr)
    (R : List Ent → Prop) (hR : ∀ acc, R (e :: .tr (.nd .lst .own acc) :: s))
    (ht : ∀ x ∈ xs, ∀ s', R s' → gt ⟨Γ.set k (.tr (kid o (enc x))), s'⟩ = some (.ok ⟨Γ.set k (.tr (kid o (enc x))), .tr (.a (.bl (p x))) :: s'⟩))
    (he : ∀ x ∈ xs, ∀ s', R s' → p x = true → ge ⟨Γ.set k (.tr (kid o (enc x))), s'⟩ = some (.ok ⟨Γ.set k (.tr (kid o (enc x))), .tr (F x) :: s'⟩) ∧ esc (F x) = true) :
    gLc [k] gs (bind md k) gt ge m = some (.ok ⟨Γ, .tr (.nd .lst .own ((xs.filter p).map F)) :: s⟩) := by
  have at_ : ∀ {γ : Type} (f : α → γ) (d : γ) {j : Nat} {x : α}, xs[j]? = some x → atO xs f d j = f x := fun {γ} f d {j x} h => by unfold atO; rw [h]
  have hx : ∀ j, j < (xs.map enc).length → ∃ x ∈ xs, xs[j]? = some x := fun j hj => by
    have hj' : j < xs.length := by simpa using hj
    exact ⟨xs[j], List.getElem_mem hj', List.getElem?_eq_getElem hj'⟩
  rw [gLcW_is (s1 := []) (s := s) (Γ := Γ) (e := e) (kd := kd) (ts := xs.map enc) hg (by rw [List.length_map]; exact hr) hv hc (by simpa using hl) hmd hk hΓ hs hke (fun j => .tr (atO xs (fun x => kid o (enc x)) .any j)) (atO xs p false) (atO xs F .any)
    (fun j hj => by
      obtain ⟨x, hm, hx⟩ := hx j hj
      refine ⟨?_, .inl ⟨_, rfl⟩⟩
      rw [at_ _ _ hx]
      unfold kidX
      rw [List.getElem?_map, hx]
      simp only [Option.map_some]
      rw [if_pos (hcp x hm)])
    R hR (fun j s' hr hj => by
      obtain ⟨x, hm, hx⟩ := hx j hj
      rw [at_ _ _ hx, at_ _ _ hx]
      exact ht x hm s' hr)
    (fun j s' hr hj hp => by
      obtain ⟨x, hm, hx⟩ := hx j hj
      rw [at_ _ _ hx] at hp ⊢
      rw [at_ _ _ hx]
      exact he x hm s' hr hp)]
  rw [List.length_map, atO_map]
theorem gLcA_is {xs : List α} {enc : α → Tr} (hg : gs m = some (.ok m1)) (hr : ready m1 = some (⟨Γ, e :: s⟩, kd, xs.length)) (hv : viewE Γ e = some (.nd kd o (xs.map enc))) (hc : cpE e = true) (hl : xs.length ≤ 100000)
    (hmd : md.getD k false = false) (hk : Γ[k]? = some .no) (hΓ : Γ.map (killR k) = Γ) (hs : s.map (killR k) = s) (hke : killR k e = e) (hcp : ∀ x ∈ xs, cp (kid o (enc x)) = true) (p : α → Bool) (F : α → Tr)
    (ht : ∀ x ∈ xs, ∀ s', gt ⟨Γ.set k (.tr (kid o (enc x))), s'⟩ = some (.ok ⟨Γ.set k (.tr (kid o (enc x))), .tr (.a (.bl (p x))) :: s'⟩))
    (he : ∀ x ∈ xs, ∀ s', p x = true → ge ⟨Γ.set k (.tr (kid o (enc x))), s'⟩ = some (.ok ⟨Γ.set k (.tr (kid o (enc x))), .tr (F x) :: s'⟩) ∧ esc (F x) = true) :
    gLc [k] gs (bind md k) gt ge m = some (.ok ⟨Γ, .tr (.nd .lst .own ((xs.filter p).map F)) :: s⟩) := gLcAW_is hg hr hv hc hl hmd hk hΓ hs hke hcp p F (fun _ => True) (fun _ => trivial) (fun x h s' _ => ht x h s') (fun x h s' _ => he x h s')
/-- the same where the source changes nothing -/
theorem gLcP_is {xs : List α} {enc : α → Tr} (e0 e : Ent) (kd : Nk) (o : Ow) (hg : gs ⟨Γ, s⟩ = some (.ok ⟨Γ, e0 :: s⟩)) (hr : ready ⟨Γ, e0 :: s⟩ = some (⟨Γ, e :: s⟩, kd, xs.length)) (hv : viewE Γ e = some (.nd kd o (xs.map enc))) (hc : cpE e = true) (hl : xs.length ≤ 100000)
    (hmd : md.getD k false = false) (hk : Γ[k]? = some .no) (hΓ : Γ.map (killR k) = Γ) (hs : s.map (killR k) = s) (hke : killR k e = e) (hcp : ∀ x ∈ xs, cp (kid o (enc x)) = true) (p : α → Bool) (F : α → Tr)
    (ht : ∀ x ∈ xs, ∀ s', gt ⟨Γ.set k (.tr (kid o (enc x))), s'⟩ = some (.ok ⟨Γ.set k (.tr (kid o (enc x))), .tr (.a (.bl (p x))) :: s'⟩))
    (he : ∀ x ∈ xs, ∀ s', p x = true → ge ⟨Γ.set k (.tr (kid o (enc x))), s'⟩ = some (.ok ⟨Γ.set k (.tr (kid o (enc x))), .tr (F x) :: s'⟩) ∧ esc (F x) = true) :
    gLc [k] gs (bind md k) gt ge ⟨Γ, s⟩ = some (.ok ⟨Γ, .tr (.nd .lst .own ((xs.filter p).map F)) :: s⟩) := gLcA_is hg hr hv hc hl hmd hk hΓ hs hke hcp p F ht he
theorem gLcR1P {ga : GE} {j : Int} (e : ga ⟨Γ, s⟩ = some (.ok ⟨Γ, .tr (.a (.int j)) :: s⟩)) (hj : j ≤ 100000) (hj0 : -100000 ≤ j) (hmd : md.getD k false = false) (hk : Γ[k]? = some .no) (hΓ : Γ.map (killR k) = Γ) (hs : s.map (killR k) = s) (P : Int → Bool) (F : Int → Tr)
    (ht : ∀ x s', 0 ≤ x → x < j → gt ⟨Γ.set k (.tr (.a (.int x))), s'⟩ = some (.ok ⟨Γ.set k (.tr (.a (.int x))), .tr (.a (.bl (P x))) :: s'⟩))
    (he : ∀ x s', 0 ≤ x → x < j → P x = true → ge ⟨Γ.set k (.tr (.a (.int x))), s'⟩ = some (.ok ⟨Γ.set k (.tr (.a (.int x))), .tr (F x) :: s'⟩) ∧ esc (F x) = true) :
    gLcR1 [k] ga (bind md k) gt ge ⟨Γ, s⟩ = some (.ok ⟨Γ, .tr (.nd .lst .own (((rng 0 j.toNat).filter P).map F)) :: s⟩) := gLcR1_is e hj hj0 hmd hk hΓ hs P F ht he
theorem gLcR2P {ga : GE} {i j : Int} (e : ga ⟨Γ, s⟩ = some (.ok ⟨Γ, .tr (.a (.int j)) :: .tr (.a (.int i)) :: s⟩)) (hi : -100000 ≤ i) (hi2 : i ≤ 100000) (hj : j ≤ 100000) (hj0 : -100000 ≤ j) (hij : j - i ≤ 100000) (hmd : md.getD k false = false) (hk : Γ[k]? = some .no) (hΓ : Γ.map (killR k) = Γ) (hs : s.map (killR k) = s) (P : Int → Bool) (F : Int → Tr)
    (ht : ∀ x s', i ≤ x → x < j → gt ⟨Γ.set k (.tr (.a (.int x))), s'⟩ = some (.ok ⟨Γ.set k (.tr (.a (.int x))), .tr (.a (.bl (P x))) :: s'⟩))
    (he : ∀ x s', i ≤ x → x < j → P x = true → ge ⟨Γ.set k (.tr (.a (.int x))), s'⟩ = some (.ok ⟨Γ.set k (.tr (.a (.int x))), .tr (F x) :: s'⟩) ∧ esc (F x) = true) :
    gLcR2 [k] ga (bind md k) gt ge ⟨Γ, s⟩ = some (.ok ⟨Γ, .tr (.nd .lst .own (((rng i (j - i).toNat).filter P).map F)) :: s⟩) := gLcR2_is e hi hi2 hj hj0 hij hmd hk hΓ hs P F ht he
end
/-! lists of ints as trees -/
abbrev rowT (r : List Int) : Tr := .nd .lst .own (r.map iT)
theorem ixN_len {n : Nat} {i : Int} (h0 : 0 ≤ i) (h : i < n) : ixN n i = some i.toNat := by
  unfold ixN
  rw [if_pos h0, if_pos (by omega)]
theorem set_iT (xs : List Int) (i : Nat) (v : Int) : (xs.map iT).set i (.a (.int v)) = (xs.set i v).map iT := by simp
theorem mapk_iT (o : Ow) (xs : List Int) : (xs.map iT).map (kid o) = xs.map iT := by
  rw [List.map_map]
  rfl
theorem kidc_iT (o : Ow) : (kid o ∘ iT) = iT := rfl
theorem set_rowT (M : List (List Int)) (i : Nat) (r : List Int) : (M.map rowT).set i (.nd .lst .own (r.map iT)) = (M.set i r).map rowT := by simp
@[simp] theorem escL_row (M : List (List Int)) : escL (M.map rowT) = true := escL_map fun _ => rfl
theorem app_iT (xs : List Int) (x : Int) : xs.map iT ++ [.a (.int x)] = (xs ++ [x]).map iT := by simp
theorem app_map (xs ys : List Int) : xs.map iT ++ ys.map iT = (xs ++ ys).map iT := by simp
theorem kidL_iT (o : Ow) : ∀ xs : List Int, kidL o (xs.map iT) = xs.map iT
  | [] => rfl
  | x :: xs => by
    show kid o (iT x) :: kidL o (xs.map iT) = _
    rw [kidL_iT o xs]
    rfl
section
variable {Γ s : List Ent} {m : Ms} {x y z : Int} {n : Nat} {xs : List Int} {o : Ow}
theorem fMul_int (h : cMul x y = true) : fMul ⟨Γ, .tr (.a (.int y)) :: .tr (.a (.int x)) :: s⟩ = some (.ok ⟨Γ, .tr (.a (.int (x * y))) :: s⟩) := by
  simp [fMul, gOr, fP2, viewE, FI, h]
theorem rng_len (lo : Int) (n : Nat) : (rng lo n).length = n := by simp [rng]
end
/-! data that may be compared -/
def Sh (n : Nat) (d : PyData) : Prop := d.canLay0 = true ∧ d.depth ≤ n
def ShAll (n : Nat) (ds : List PyData) : Prop := ∀ d ∈ ds, Sh n d
theorem canLayAll_of : ∀ (ds : List PyData), (∀ d ∈ ds, d.canLay0 = true) → PyData.canLayAll0 ds = true
  | [], _ => by simp only [PyData.canLayAll0]
  | d :: ds, h => by
    rw [PyData.canLayAll0, h d List.mem_cons_self, canLayAll_of ds fun x hx => h x (List.mem_cons_of_mem _ hx)]
    rfl
theorem depthAll_le {n : Nat} : ∀ (ds : List PyData), (∀ d ∈ ds, d.depth ≤ n) → PyData.depthAll ds ≤ n
  | [], _ => by simp only [PyData.depthAll]; exact Nat.zero_le _
  | d :: ds, h => by
    rw [PyData.depthAll]
    have h1 := h d List.mem_cons_self
    have h2 := depthAll_le ds fun x hx => h x (List.mem_cons_of_mem _ hx)
    omega
theorem Sh.tup {n : Nat} {ds : List PyData} (h : ShAll n ds) : Sh (n + 1) (.tuple ds) := by
  refine ⟨by rw [PyData.canLay0]; exact canLayAll_of ds fun d hd => (h d hd).1, ?_⟩
  rw [PyData.depth]
  have := depthAll_le ds fun d hd => (h d hd).2
  omega
theorem Sh.lst {n : Nat} {ds : List PyData} (h : ShAll n ds) : Sh (n + 1) (.list ds) := by
  refine ⟨by rw [PyData.canLay0]; exact canLayAll_of ds fun d hd => (h d hd).1, ?_⟩
  rw [PyData.depth]
  have := depthAll_le ds fun d hd => (h d hd).2
  omega
theorem Sh.int {n : Nat} (i : Int) : Sh n (.int i) := ⟨by simp only [PyData.canLay0], by simp only [PyData.depth]; exact Nat.zero_le _⟩
theorem Sh.bool {n : Nat} (b : Bool) : Sh n (.bool b) := ⟨by simp only [PyData.canLay0], by simp only [PyData.depth]; exact Nat.zero_le _⟩
theorem Sh.non {n : Nat} : Sh n .none := ⟨by simp only [PyData.canLay0], by simp only [PyData.depth]; exact Nat.zero_le _⟩
theorem Sh.str {n : Nat} {x : Str} (h : PyData.strOk x = true) : Sh n (.str x) := ⟨by simp only [PyData.canLay0]; exact h, by simp only [PyData.depth]; exact Nat.zero_le _⟩
theorem Sh.mono {n m : Nat} {d : PyData} (h : Sh n d) (l : n ≤ m) : Sh m d := ⟨h.1, Nat.le_trans h.2 l⟩
theorem ShAll.nil {n : Nat} : ShAll n [] := fun _ h => absurd h (by simp)
theorem ShAll.cons {n : Nat} {d : PyData} {ds : List PyData} (h : Sh n d) (k : ShAll n ds) : ShAll n (d :: ds) := fun x hx => by
  rcases List.mem_cons.mp hx with q | q
  · rw [q]
    exact h
  · exact k x q
theorem ShAll.map {α : Type} {n : Nat} {f : α → PyData} {l : List α} (h : ∀ x, Sh n (f x)) : ShAll n (l.map f) := fun d hd => by
  obtain ⟨x, _, rfl⟩ := List.mem_map.mp hd
  exact h x
theorem Sh.shaped {d : PyData} (h : Sh 64 d) : SeqAt.shaped d = true := by
  unfold SeqAt.shaped
  rw [h.1, decide_eq_true h.2]
  rfl
/-! comparing plain data -/
structure DD {α : Type} [DecidableEq α] (n : Nat) (dd : α → PyData) : Prop where
  sh : ∀ x, Sh n (dd x)
  eq : ∀ x y, PyData.eqv (dd x) (dd y) = decide (x = y)
theorem dd_int : DD 0 PyData.int := ⟨fun i => .int i, fun x y => by
  simp only [PyData.eqv]
  by_cases h : x = y <;> simp [h]⟩
section
variable {α : Type} [DecidableEq α] {n : Nat} {dd : α → PyData} {neg : Bool} {o o' : Ow}
theorem dd_all (h : DD n dd) : ∀ xs ys : List α, PyData.eqvAll (xs.map dd) (ys.map dd) = decide (xs = ys)
  | [], [] => by simp [PyData.eqvAll]
  | [], _ :: _ => by simp [PyData.eqvAll]
  | _ :: _, [] => by simp [PyData.eqvAll]
  | a :: r, b :: t => by
    simp only [List.map_cons, PyData.eqvAll, h.eq, dd_all h r t]
    by_cases h1 : a = b <;> by_cases h2 : r = t <;> simp [h1, h2]
theorem dd_list (h : DD n dd) : DD (n + 1) (fun xs : List α => .list (xs.map dd)) := ⟨fun _ => .lst (.map h.sh), fun x y => by
  simp only [PyData.eqv]
  exact dd_all h x y⟩
theorem dd_tup (h : DD n dd) : DD (n + 1) (fun xs : List α => .tuple (xs.map dd)) := ⟨fun _ => .tup (.map h.sh), fun x y => by
  simp only [PyData.eqv]
  exact dd_all h x y⟩
theorem toDL_map {enc : α → Tr} (h : ∀ x, toD (enc x) = some (dd x)) : ∀ xs : List α, toDL (xs.map enc) = some (xs.map dd)
  | [] => rfl
  | x :: xs => by
    rw [List.map_cons, toDL, h x, toDL_map h xs]
    rfl
theorem toD_iT (x : Int) : toD (iT x) = some (.int x) := rfl
theorem toD_row (r : List Int) : toD (.nd .lst o (r.map iT)) = some (.list (r.map .int)) := by
  rw [toD, toDL_map toD_iT]
theorem toD_tup (r : List Int) : toD (.nd .tup o (r.map iT)) = some (.tuple (r.map .int)) := by
  rw [toD, toDL_map toD_iT]
theorem toD_mat (M : List (List Int)) : toD (.nd .lst o (M.map rowT)) = some (.list (M.map fun r => .list (r.map .int))) := by
  rw [toD, toDL_map (dd := fun r => .list (r.map .int)) fun r => toD_row r]
theorem feq_of {k k' : Nk} {ts us : List Tr} {x y : α} (h : DD n dd) (hn : n ≤ 64) (h1 : toD (.nd k o ts) = some (dd x)) (h2 : toD (.nd k' o' us) = some (dd y)) : FEq neg (.nd k o ts) (.nd k' o' us) = some (.bl (if neg then !decide (x = y) else decide (x = y))) := by
  unfold FEq
  simp only [h1, h2, ((h.sh x).mono hn).shaped, ((h.sh y).mono hn).shaped, h.eq, true_and, if_true]
end
section
variable {neg : Bool} {o o' : Ow} {Γ s : List Ent} {e : Ent}
theorem FEq_row (r q : List Int) : FEq neg (.nd .lst o (r.map iT)) (.nd .lst o' (q.map iT)) = some (.bl (if neg then !decide (r = q) else decide (r = q))) := feq_of (dd_list dd_int) (by decide) (toD_row r) (toD_row q)
theorem FEq_tup (r q : List Int) : FEq neg (.nd .tup o (r.map iT)) (.nd .tup o' (q.map iT)) = some (.bl (if neg then !decide (r = q) else decide (r = q))) := feq_of (dd_tup dd_int) (by decide) (toD_tup r) (toD_tup q)
theorem FEq_mat (r q : List (List Int)) : FEq neg (.nd .lst o (r.map rowT)) (.nd .lst o' (q.map rowT)) = some (.bl (if neg then !decide (r = q) else decide (r = q))) := feq_of (dd_list (dd_list dd_int)) (by decide) (toD_mat r) (toD_mat q)
theorem FEq_pair (a b c d : Int) : FEq neg (.nd .tup o [.a (.int a), .a (.int b)]) (.nd .tup o' [.a (.int c), .a (.int d)]) = some (.bl (if neg then !decide (a = c ∧ b = d) else decide (a = c ∧ b = d))) := by
  have := FEq_tup (neg := neg) (o := o) (o' := o') [a, b] [c, d]
  simpa using this
theorem FEq_int (a b : Int) : FEq neg (.a (.int a)) (.a (.int b)) = some (.bl (if neg then !decide (a = b) else decide (a = b))) := by
  unfold FEq
  simp [scal]
theorem FEq_str (a b : Str) : FEq neg (.a (.str a)) (.a (.str b)) = some (.bl (if neg then !decide (a = b) else decide (a = b))) := by
  unfold FEq
  simp [scal]
theorem FEq_bl (a b : Bool) : FEq neg (.a (.bl a)) (.a (.bl b)) = some (.bl (if neg then !decide (a = b) else decide (a = b))) := by
  unfold FEq
  simp [scal]
theorem atoms_map {α : Type} {f : α → V} : ∀ xs : List α, atoms (xs.map fun x => Tr.a (f x)) = some (xs.map f)
  | [] => rfl
  | x :: xs => by
    rw [List.map_cons, atoms, atoms_map xs]
    rfl
theorem FIn_int (x : Int) (xs : List Int) (k : Nk) (hk : k = .lst ∨ k = .tup) : FIn neg (.a (.int x)) (.nd k o (xs.map iT)) = some (.bl (if neg then !decide (x ∈ xs) else decide (x ∈ xs))) := by
  have h1 : atoms (xs.map iT) = some (xs.map V.int) := atoms_map (f := V.int) xs
  have h2 : (xs.map V.int).all flatV = true := by simp [flatV]
  rcases hk with rfl | rfl
  all_goals
    unfold FIn
    simp only [h1]
    rw [if_pos ⟨rfl, h2⟩, inV_int]
theorem FIn_l (x : Int) (xs : List Int) : FIn neg (.a (.int x)) (.nd .lst o (xs.map iT)) = some (.bl (if neg then !decide (x ∈ xs) else decide (x ∈ xs))) := FIn_int x xs _ (.inl rfl)
theorem FIn_t (x : Int) (xs : List Int) : FIn neg (.a (.int x)) (.nd .tup o (xs.map iT)) = some (.bl (if neg then !decide (x ∈ xs) else decide (x ∈ xs))) := FIn_int x xs _ (.inr rfl)
end
/-! loops that look through things and may leave with an answer -/
section
variable {md : List Bool} {k n : Nat} {Γ s : List Ent} {gs : GS} {lo : Int} {t : Tr} {α : Type}
theorem bind_set {e : Ent} {u : Tr} (hmd : md.getD k false = false) (hk : k < Γ.length) (hΓ : Γ.map (killR k) = Γ) (hs : s.map (killR k) = s) : bind md k ⟨Γ.set k e, .tr u :: s⟩ = some ⟨Γ.set k (.tr u), s⟩ := by
  rw [bind_tr hmd (by rw [List.length_set]; exact hk), hs, List.map_set, hΓ, List.set_set]
theorem rng_succ (lo : Int) (n : Nat) : rng lo (n + 1) = lo :: rng (lo + 1) n := by
  unfold rng
  rw [List.range_succ_eq_map, List.map_cons, List.map_map]
  congr 1
  · simp
  · apply List.map_congr_left
    intro i _
    simp only [Function.comp, Nat.succ_eq_add_one]
    omega
theorem loopR_allT (hmd : md.getD k false = false) (hk : k < Γ.length) (hΓ : Γ.map (killR k) = Γ) (hs : s.map (killR k) = s) (p : Int → Bool)
    (hb : ∀ x, lo ≤ x → x < lo + n → gs ⟨Γ.set k (.tr (iT x)), s⟩ = some (if p x = true then .nx ⟨Γ.set k (.tr (iT x)), s⟩ else .rt t ⟨Γ.set k (.tr (iT x)), s⟩)) :
    ∃ e, (Γ[k]? = some e ∨ ∃ t, e = .tr t) ∧ loopR (bind md k) gs lo n 0 ⟨Γ, s⟩ = some (if (rng lo n).all p = true then .nx ⟨Γ.set k e, s⟩ else .rt t ⟨Γ.set k e, s⟩) := by
  have key : ∀ r i e, i + r = n → ∃ e', (e' = e ∨ ∃ t, e' = .tr t) ∧ loopR (bind md k) gs lo r i ⟨Γ.set k e, s⟩ = some (if (rng (lo + i) r).all p = true then .nx ⟨Γ.set k e', s⟩ else .rt t ⟨Γ.set k e', s⟩) := by
    intro r
    induction r with
    | zero =>
      intro i e hi
      exact ⟨e, .inl rfl, rfl⟩
    | succ r ih =>
      intro i e hi
      obtain ⟨e2, q2, h2⟩ := ih (i + 1) (.tr (iT (lo + i))) (by omega)
      unfold loopR
      simp only [bind_set hmd hk hΓ hs]
      have hb1 := hb (lo + i) (by omega) (by omega)
      rw [show lo + ((i + 1 : Nat) : Int) = lo + i + 1 by omega] at h2
      rw [rng_succ]
      by_cases hp : p (lo + i) = true
      · rw [if_pos hp] at hb1
        refine ⟨e2, .inr (q2.elim (fun z => ⟨_, z⟩) id), ?_⟩
        rw [hb1]
        simp only
        rw [h2]
        simp [hp]
      · rw [if_neg hp] at hb1
        refine ⟨.tr (iT (lo + i)), .inr ⟨_, rfl⟩, ?_⟩
        rw [hb1]
        simp [hp]
  have he : Γ = Γ.set k Γ[k] := by rw [List.set_getElem_self]
  obtain ⟨e', q, h⟩ := key n 0 Γ[k] (by omega)
  rw [← he] at h
  refine ⟨e', q.imp (fun z => by rw [z]; exact List.getElem?_eq_getElem hk) id, h.trans ?_⟩
  simp
theorem loopR_all (hmd : md.getD k false = false) (hk : k < Γ.length) (hΓ : Γ.map (killR k) = Γ) (hs : s.map (killR k) = s) (p : Int → Bool)
    (hb : ∀ x, lo ≤ x → x < lo + n → gs ⟨Γ.set k (.tr (iT x)), s⟩ = some (if p x = true then .nx ⟨Γ.set k (.tr (iT x)), s⟩ else .rt t ⟨Γ.set k (.tr (iT x)), s⟩)) :
    ∃ e, loopR (bind md k) gs lo n 0 ⟨Γ, s⟩ = some (if (rng lo n).all p = true then .nx ⟨Γ.set k e, s⟩ else .rt t ⟨Γ.set k e, s⟩) := by
  obtain ⟨e, _, h⟩ := loopR_allT (lo := lo) (n := n) (gs := gs) (t := t) hmd hk hΓ hs p hb
  exact ⟨e, h⟩
theorem loopR_nx {bd : Ms → Option Ms} {m : Ms} (I : Nat → Ms → Prop) (h0 : I 0 m) (turn : ∀ i m, i < n → I i m → ∃ m1 m2, bd ⟨m.g, .tr (.a (.int (lo + i))) :: m.s⟩ = some m1 ∧ gs m1 = some (.nx m2) ∧ I (i + 1) m2) : ∃ m', loopR bd gs lo n 0 m = some (.nx m') ∧ I n m' := by
  obtain ⟨o, h1, m', rfl, h2⟩ := loopR_inv (bd := bd) (gs := gs) (lo := lo) (n := n) I (fun o => ∃ m', o = .nx m' ∧ I n m') h0 (fun m h => ⟨m, rfl, h⟩) (fun i m hi h => by
    obtain ⟨m1, m2, h1, h2, h3⟩ := turn i m hi h
    exact ⟨m1, _, h1, h2, h3⟩)
  exact ⟨m', h1, h2⟩
/-- a comprehension over a range whose turns change the state -/
theorem lcR_inv {cv : List Nat} {bd : Ms → Option Ms} {gt ge : GE} (I : Nat → List Ent → List Tr → Prop)
    (turn : ∀ i Γ acc, i < n → I i Γ acc → ∃ Γ' acc', lcTurn cv bd gt ge 0 ⟨Γ, .tr (.a (.int (lo + i))) :: .tr (.nd .lst .own acc) :: s⟩ = some ⟨Γ', .tr (.nd .lst .own acc') :: s⟩ ∧ I (i + 1) Γ' acc') :
    ∀ r i Γ acc, i + r = n → I i Γ acc → ∃ Γ' acc', lcR cv bd gt ge lo r i ⟨Γ, .tr (.nd .lst .own acc) :: s⟩ = some ⟨Γ', .tr (.nd .lst .own acc') :: s⟩ ∧ I n Γ' acc'
  | 0, i, Γ, acc, h, q => ⟨Γ, acc, rfl, by rw [← h]; exact q⟩
  | r + 1, i, Γ, acc, h, q => by
    obtain ⟨Γ1, acc1, h1, h2⟩ := turn i Γ acc (by omega) q
    obtain ⟨Γ2, acc2, h3, h4⟩ := lcR_inv I turn r (i + 1) Γ1 acc1 (by omega) h2
    refine ⟨Γ2, acc2, ?_, h4⟩
    simp only [lcR, h1]
    exact h3
end
/-! isinstance of plain things -/
theorem kit_int_int : kitB "int" "int" = some true := by decide +kernel
theorem kit_int_bool : kitB "int" "bool" = some false := by decide +kernel
theorem kit_int_str : kitB "int" "str" = some false := by decide +kernel
theorem kit_int_list : kitB "int" "list" = some false := by decide +kernel
theorem kit_int_tuple : kitB "int" "tuple" = some false := by decide +kernel
theorem kit_int_dict : kitB "int" "dict" = some false := by decide +kernel
theorem kit_bool_int : kitB "bool" "int" = some true := by decide +kernel
theorem kit_bool_bool : kitB "bool" "bool" = some true := by decide +kernel
theorem kit_bool_str : kitB "bool" "str" = some false := by decide +kernel
theorem kit_bool_list : kitB "bool" "list" = some false := by decide +kernel
theorem kit_bool_tuple : kitB "bool" "tuple" = some false := by decide +kernel
theorem kit_bool_dict : kitB "bool" "dict" = some false := by decide +kernel
theorem kit_str_int : kitB "str" "int" = some false := by decide +kernel
theorem kit_str_bool : kitB "str" "bool" = some false := by decide +kernel
theorem kit_str_str : kitB "str" "str" = some true := by decide +kernel
theorem kit_str_list : kitB "str" "list" = some false := by decide +kernel
theorem kit_str_tuple : kitB "str" "tuple" = some false := by decide +kernel
theorem kit_str_dict : kitB "str" "dict" = some false := by decide +kernel
theorem kit_list_int : kitB "list" "int" = some false := by decide +kernel
theorem kit_list_bool : kitB "list" "bool" = some false := by decide +kernel
theorem kit_list_str : kitB "list" "str" = some false := by decide +kernel
theorem kit_list_list : kitB "list" "list" = some true := by decide +kernel
theorem kit_list_tuple : kitB "list" "tuple" = some false := by decide +kernel
theorem kit_list_dict : kitB "list" "dict" = some false := by decide +kernel
theorem kit_tuple_int : kitB "tuple" "int" = some false := by decide +kernel
theorem kit_tuple_bool : kitB "tuple" "bool" = some false := by decide +kernel
theorem kit_tuple_str : kitB "tuple" "str" = some false := by decide +kernel
theorem kit_tuple_list : kitB "tuple" "list" = some false := by decide +kernel
theorem kit_tuple_tuple : kitB "tuple" "tuple" = some true := by decide +kernel
theorem kit_tuple_dict : kitB "tuple" "dict" = some false := by decide +kernel
theorem kit_dict_int : kitB "dict" "int" = some false := by decide +kernel
theorem kit_dict_bool : kitB "dict" "bool" = some false := by decide +kernel
theorem kit_dict_str : kitB "dict" "str" = some false := by decide +kernel
theorem kit_dict_list : kitB "dict" "list" = some false := by decide +kernel
theorem kit_dict_tuple : kitB "dict" "tuple" = some false := by decide +kernel
theorem kit_dict_dict : kitB "dict" "dict" = some true := by decide +kernel
theorem kit_NoneType_int : kitB "NoneType" "int" = some false := by decide +kernel
theorem kit_NoneType_bool : kitB "NoneType" "bool" = some false := by decide +kernel
theorem kit_NoneType_str : kitB "NoneType" "str" = some false := by decide +kernel
theorem kit_NoneType_list : kitB "NoneType" "list" = some false := by decide +kernel
theorem kit_NoneType_tuple : kitB "NoneType" "tuple" = some false := by decide +kernel
theorem kit_NoneType_dict : kitB "NoneType" "dict" = some false := by decide +kernel
/-! places in short lists -/
theorem ixL_1_0 : ixN 1 0 = some 0 := rfl
theorem ixL_2_0 : ixN 2 0 = some 0 := rfl
theorem ixL_2_1 : ixN 2 1 = some 1 := rfl
theorem ixL_3_0 : ixN 3 0 = some 0 := rfl
theorem ixL_3_1 : ixN 3 1 = some 1 := rfl
theorem ixL_3_2 : ixN 3 2 = some 2 := rfl
theorem ixL_4_0 : ixN 4 0 = some 0 := rfl
theorem ixL_4_1 : ixN 4 1 = some 1 := rfl
theorem ixL_4_2 : ixN 4 2 = some 2 := rfl
theorem ixL_4_3 : ixN 4 3 = some 3 := rfl
theorem ixL_5_0 : ixN 5 0 = some 0 := rfl
theorem ixL_5_1 : ixN 5 1 = some 1 := rfl
theorem ixL_5_2 : ixN 5 2 = some 2 := rfl
theorem ixL_5_3 : ixN 5 3 = some 3 := rfl
theorem ixL_5_4 : ixN 5 4 = some 4 := rfl
theorem ixL_6_0 : ixN 6 0 = some 0 := rfl
theorem ixL_6_1 : ixN 6 1 = some 1 := rfl
theorem ixL_6_2 : ixN 6 2 = some 2 := rfl
theorem ixL_6_3 : ixN 6 3 = some 3 := rfl
theorem ixL_6_4 : ixN 6 4 = some 4 := rfl
theorem ixL_6_5 : ixN 6 5 = some 5 := rfl
theorem ixL_7_0 : ixN 7 0 = some 0 := rfl
theorem ixL_7_1 : ixN 7 1 = some 1 := rfl
theorem ixL_7_2 : ixN 7 2 = some 2 := rfl
theorem ixL_7_3 : ixN 7 3 = some 3 := rfl
theorem ixL_7_4 : ixN 7 4 = some 4 := rfl
theorem ixL_7_5 : ixN 7 5 = some 5 := rfl
theorem ixL_7_6 : ixN 7 6 = some 6 := rfl
theorem ixL_8_0 : ixN 8 0 = some 0 := rfl
theorem ixL_8_1 : ixN 8 1 = some 1 := rfl
theorem ixL_8_2 : ixN 8 2 = some 2 := rfl
theorem ixL_8_3 : ixN 8 3 = some 3 := rfl
theorem ixL_8_4 : ixN 8 4 = some 4 := rfl
theorem ixL_8_5 : ixN 8 5 = some 5 := rfl
theorem ixL_8_6 : ixN 8 6 = some 6 := rfl
theorem ixL_8_7 : ixN 8 7 = some 7 := rfl
theorem ixL_9_0 : ixN 9 0 = some 0 := rfl
theorem ixL_9_1 : ixN 9 1 = some 1 := rfl
theorem ixL_9_2 : ixN 9 2 = some 2 := rfl
theorem ixL_9_3 : ixN 9 3 = some 3 := rfl
theorem ixL_9_4 : ixN 9 4 = some 4 := rfl
theorem ixL_9_5 : ixN 9 5 = some 5 := rfl
theorem ixL_9_6 : ixN 9 6 = some 6 := rfl
theorem ixL_9_7 : ixN 9 7 = some 7 := rfl
theorem ixL_9_8 : ixN 9 8 = some 8 := rfl
theorem ixL_10_0 : ixN 10 0 = some 0 := rfl
theorem ixL_10_1 : ixN 10 1 = some 1 := rfl
theorem ixL_10_2 : ixN 10 2 = some 2 := rfl
theorem ixL_10_3 : ixN 10 3 = some 3 := rfl
theorem ixL_10_4 : ixN 10 4 = some 4 := rfl
theorem ixL_10_5 : ixN 10 5 = some 5 := rfl
theorem ixL_10_6 : ixN 10 6 = some 6 := rfl
theorem ixL_10_7 : ixN 10 7 = some 7 := rfl
theorem ixL_10_8 : ixN 10 8 = some 8 := rfl
theorem ixL_10_9 : ixN 10 9 = some 9 := rfl
theorem ixL_11_0 : ixN 11 0 = some 0 := rfl
theorem ixL_11_1 : ixN 11 1 = some 1 := rfl
theorem ixL_11_2 : ixN 11 2 = some 2 := rfl
theorem ixL_11_3 : ixN 11 3 = some 3 := rfl
theorem ixL_11_4 : ixN 11 4 = some 4 := rfl
theorem ixL_11_5 : ixN 11 5 = some 5 := rfl
theorem ixL_11_6 : ixN 11 6 = some 6 := rfl
theorem ixL_11_7 : ixN 11 7 = some 7 := rfl
theorem ixL_11_8 : ixN 11 8 = some 8 := rfl
theorem ixL_11_9 : ixN 11 9 = some 9 := rfl
theorem ixL_11_10 : ixN 11 10 = some 10 := rfl
theorem ixL_12_0 : ixN 12 0 = some 0 := rfl
theorem ixL_12_1 : ixN 12 1 = some 1 := rfl
theorem ixL_12_2 : ixN 12 2 = some 2 := rfl
theorem ixL_12_3 : ixN 12 3 = some 3 := rfl
theorem ixL_12_4 : ixN 12 4 = some 4 := rfl
theorem ixL_12_5 : ixN 12 5 = some 5 := rfl
theorem ixL_12_6 : ixN 12 6 = some 6 := rfl
theorem ixL_12_7 : ixN 12 7 = some 7 := rfl
theorem ixL_12_8 : ixN 12 8 = some 8 := rfl
theorem ixL_12_9 : ixN 12 9 = some 9 := rfl
theorem ixL_12_10 : ixN 12 10 = some 10 := rfl
theorem ixL_12_11 : ixN 12 11 = some 11 := rfl
/-! try .. except X as e, and isinstance(e, Y) in its suite -/
section
variable {X : Cx} {T : KT} {md : List Bool} {W Wout : WX} {c : Value} {i : Nat} {x n : Str} {body suite : List Stmt} {b₀ : Stmt} {np pos pos' : Pos} {gb : GS} {tab : List (Nat × Bool)} {gsu : Nat → Addr → GS}
def wpS (K : KC) (md : List Bool) (W : WX) (g : GS) : L2.TS := fun D σ H => ∃ c m us o, c.md = md ∧ EnvOk K c σ H m.g m.s us ∧ g m = some o ∧ PostS K c W us D o
theorem MSs.ps {sts : List Stmt} {g : GS} (h : MSs X T md W sts g) : PSs X sts (wpS (kcm X.K T) md W g) := by
  obtain ⟨t, p, s⟩ := h
  exact ⟨fun pins st σ H D I ⟨c, m, us, o, hc, E, hg, hp⟩ => p.run pins st σ H D I (s c σ H m us D o hc E hg hp)⟩
/-- the suite, run with the error a in slot i; what slot i held is forgotten at its end -/
def suR (md : List Bool) (i : Nat) (g : GS) (a : Addr) (Γ : List Ent) : Option Os := match bind md i ⟨Γ, [.tr (.a (.ref a))]⟩ with
  | some m1 => match g m1 with
    | some (.nx m2) => if i < m2.g.length then some (.nx (clr i m2)) else none
    | some (.rt t m2) => if i < m2.g.length then some (.rt t (clr i m2)) else none
    | _ => none
  | none => none
open Classical in
/-- tab: which errors are caught -/
noncomputable def sTry (md : List Bool) (i : Nat) (tab : List (Nat × Bool)) (gb : GS) (gsu : Nat → Addr → GS) : GS := fun m => match m.s with
  | _ :: _ => none
  | [] => match gb m with
    | some (.ex C g') => match tab.lookup C with
      | some true => if h : ∃ o, ∀ a, suR md i (gsu C a) a g' = some o then some (choose h) else none
      | some false => some (.ex C g')
      | none => none
    | r => r
theorem sTry_ex {m : Ms} {C : Nat} {g' : List Ent} {o : Os} (hs : m.s = []) (h1 : gb m = some (.ex C g')) (h2 : tab.lookup C = some true) (h3 : ∀ a, suR md i (gsu C a) a g' = some o) : sTry md i tab gb gsu m = some o := by
  unfold sTry
  rw [hs]
  simp only [h1, h2]
  have h : ∃ o, ∀ a, suR md i (gsu C a) a g' = some o := ⟨o, h3⟩
  rw [dif_pos h]
  have h4 := Classical.choose_spec h 0
  rw [h3 0] at h4
  exact h4.symm
theorem sTry_no {m : Ms} {o : Os} (hs : m.s = []) (h1 : gb m = some o) (h2 : ∀ C g, o ≠ .ex C g) : sTry md i tab gb gsu m = some o := by
  unfold sTry
  rw [hs]
  simp only [h1]
  try (cases o <;> first | rfl | exact absurd rfl (h2 _ _))
def suN : Nat → Addr → GS := fun _ _ _ => none
def suC (k : Nat) (g : Addr → GS) (r : Nat → Addr → GS) : Nat → Addr → GS := fun C => if C = k then g else r C
structure SuOk (X : Cx) (T : KT) (md : List Bool) (c : Value) (sts : List Stmt) (tab : List (Nat × Bool)) (gsu : Nat → Addr → GS) : Prop where
  ma : ∀ C b, tab.lookup C = some b → PySem.W.exmOne X.K (.ref (T.et C)) c = some b
  su : ∀ C, tab.lookup C = some true → ∀ (a : Addr) (oe : Obj) (pn : List (Addr × Obj)), L2N.Zn (.ref (T.et C)) none oe → (∃ vs, oe.data = .fields vs) → MSs (X.suite a ((a, oe) :: pn)) T md WF sts (gsu C a)
  nf : ∀ C, tab.lookup C = some true → T.ef C = none
theorem su_nil {sts : List Stmt} : SuOk X T md c sts [] suN := ⟨fun C b h => by simp at h, fun C h => by simp at h, fun C h => by simp at h⟩
theorem su_T {sts : List Stmt} {k : Nat} {g : Addr → GS} (h : PySem.W.exmOne X.K (.ref (T.et k)) c = some true) (hs : ∀ (a : Addr) (oe : Obj) (pn : List (Addr × Obj)), L2N.Zn (.ref (T.et k)) none oe → (∃ vs, oe.data = .fields vs) → MSs (X.suite a ((a, oe) :: pn)) T md WF sts (g a)) (r : SuOk X T md c sts tab gsu) (hf : T.ef k = none := by rfl) :
    SuOk X T md c sts ((k, true) :: tab) (suC k g gsu) := by
  refine ⟨fun C b e => ?_, fun C e => ?_, fun C e => ?_⟩
  · by_cases q : C = k
    · subst q
      simp at e
      rw [e]
      exact h
    · rw [List.lookup_cons, beq_false_of_ne q] at e
      exact r.ma C b e
  · by_cases q : C = k
    · subst q
      unfold suC
      rw [if_pos rfl]
      exact hs
    · rw [List.lookup_cons, beq_false_of_ne q] at e
      unfold suC
      rw [if_neg q]
      exact r.su C e
  · by_cases q : C = k
    · rw [q]
      exact hf
    · rw [List.lookup_cons, beq_false_of_ne q] at e
      exact r.nf C e
theorem clr_post {K : KC} {cz : Cz} {σ' : St} {H' : Hp} {m2 : Ms} {us : List V} (E : EnvOk K cz σ' H' m2.g m2.s us) (hi : i < m2.g.length) : EnvOk K cz (σ'.set i none) H' (clr i m2).g (clr i m2).s us := by
  refine (E.clr hi).reσ (by simp) fun j e he => ?_
  by_cases q : j = i
  · subst q
    left
    have he : ((m2.g.map (killR j)).set j .no)[j]? = some e := he
    rw [List.getElem?_set_self (by simpa using hi)] at he
    cases he
    rfl
  · right
    rw [List.getElem?_set_ne (fun z => q z.symm)]
theorem ms_try (hs : X.stack = X.env :: X.outer) (hf : X.env.frame = some X.env.locals) (hN : X.N.Nodup) (hi : X.N[i]? = some n) (hln : X.env.kindOf n = some .local) (hc : Names X x c) (tk : Takes X W)
    (hb : ∀ (W' : WX) (pn : List (Addr × Obj)) (xe : Value → Shared → Prop), Takes (X.tr pn xe) W' → PassesOwn (model X.prog X.w) X.A X.env xe → MSs (X.tr pn xe) T md W' body gb)
    (su : SuOk X T md c (b₀ :: suite) tab gsu) : MS X T md W (.Try body [.ExceptHandler (some (.Name x np)) (some n) (b₀ :: suite) pos'] [] [] pos) (sTry md i tab gb gsu) := by
  refine ⟨_, L2N.ps_try_as (tb := fun W' => wpS (kcm X.K T) md W' gb) (ts := fun a cls d D σ H => ∃ C, tab.lookup C = some true ∧ cls = .ref (T.et C) ∧ d = none ∧ wpS (kcm X.K T) md WF (gsu C a) D σ H) (Wout := W) hs hf hN hi hln hc tk (fun W' pn xe tk' po => (hb W' pn xe tk' po).ps) ?_, ?_⟩
  · intro a oe cls d pn hz hfl
    refine ⟨fun pins s σ H D I h => ?_⟩
    obtain ⟨C, hC, rfl, rfl, h⟩ := h
    exact (su.su C hC a oe pn hz hfl).ps.run pins s σ H D I h
  · intro cz σ H m us D o hmd E hg hp
    have hl := tail_len E
    unfold sTry at hg
    cases hms : m.s with
    | cons e s => rw [hms] at hg; cases hg
    | nil =>
      rw [hms] at hg hl
      simp only at hg
      have hus : us = [] := List.length_eq_zero_iff.mp hl.symm
      subst hus
      cases h1 : gb m with
      | none => rw [h1] at hg; cases hg
      | some o1 =>
        refine ⟨cz, m, [], o1, hmd, E, h1, ?_⟩
        rw [h1] at hg
        cases o1 with
        | nx m1 => cases hg; exact hp
        | rt t m1 => cases hg; exact hp
        | bk m1 => cases hg; exact hp
        | ct m1 => cases hg; exact hp
        | ex C g' =>
          simp only at hg
          cases hq : tab.lookup C with
          | none => rw [hq] at hg; cases hg
          | some b =>
            rw [hq] at hg
            cases b with
            | false =>
              cases hg
              exact fun σ' H' E' => ⟨false, su.ma C false hq, fun (z : false = true) => (Bool.false_ne_true z).elim, fun _ => hp σ' H' E'⟩
            | true =>
              simp only at hg
              split at hg
              · rename_i h
                cases hg
                have h3 := Classical.choose_spec h
                generalize Classical.choose h = o at *
                refine fun σ' H' E' => ⟨true, su.ma C true hq, fun _ a na => ?_, fun (z : true = false) => (Bool.false_ne_true z.symm).elim⟩
                obtain ⟨e0, E'⟩ := EnvX.no (su.nf C hq) E'
                refine ⟨C, hq, rfl, e0, ?_⟩
                have h4 := h3 a
                unfold suR at h4
                split at h4
                · rename_i m1 hb1
                  have E2 : EnvOk (kcm X.K T) cz (σ'.set i (some (.ref a))) H'.1 m1.g m1.s [] := bind_ok (m := ⟨g', [.tr (.a (.ref a))]⟩) hmd (E'.atom (.ref a)) hb1
                  split at h4
                  · rename_i m2 hg2
                    split at h4
                    · rename_i hlt
                      cases h4
                      exact ⟨cz, m1, [], _, hmd, E2, hg2, fun σ3 H3 E3 => hp _ H3 (clr_post E3 hlt)⟩
                    · cases h4
                  · rename_i t m2 hg2
                    split at h4
                    · rename_i hlt
                      cases h4
                      exact ⟨cz, m1, [], _, hmd, E2, hg2, fun σ3 v H3 E3 => hp _ v H3 (clr_post (m2 := ⟨m2.g, .tr t :: m2.s⟩) E3 hlt)⟩
                    · cases h4
                  · cases h4
                · cases h4
              · cases hg
/-- isinstance(e, Y), e the error a in slot i -/
def gIsE (i : Nat) (a : Addr) (b : Bool) : GE := fun m => match m.g[i]? with
  | some (.tr (.a (.ref y))) => if y = a then some (.ok ⟨m.g, .tr (.a (.bl b)) :: m.s⟩) else none
  | _ => none
end
/-! a name that a comprehension takes for its own: what it held is forgotten -/
section
variable {X : Cx} {T : KT} {md : List Bool} {W : WX} {i : Nat} {e : Expr} {st : Stmt} {g : GE} {gs : GS}
def gClr (i : Nat) (g : GE) : GE := fun m => if i < m.g.length then g (clr i m) else none
def sClr (i : Nat) (g : GS) : GS := fun m => if i < m.g.length then g (clr i m) else none
theorem me_clr (h : ME X T md W e g) : ME X T md W e (gClr i g) := by
  obtain ⟨t, p, s⟩ := h
  refine ⟨t, p, fun c σ H m us Q r hc E hg hp => ?_⟩
  unfold gClr at hg
  split at hg
  · rename_i hi
    exact s c σ H (clr i m) us Q r hc (E.clr hi) hg hp
  · cases hg
theorem ms_clr (h : MS X T md W st gs) : MS X T md W st (sClr i gs) := by
  obtain ⟨t, p, s⟩ := h
  refine ⟨t, p, fun c σ H m us D o hc E hg hp => ?_⟩
  unfold sClr at hg
  split at hg
  · rename_i hi
    exact s c σ H (clr i m) us D o hc (E.clr hi) hg hp
  · cases hg
end
/-! two dicts without entries are equal -/
section
variable {K : KC} {md : List Bool} {W : WX}
def FEqE : Tr → Tr → Option V
  | .nd (.dct []) .own [], .nd (.dct []) .own [] => some (.bl true)
  | _, _ => none
def fEqE : GE := fP2 FEqE
end
/-! a loop that leaves at the first that it looks for -/
section
variable {md : List Bool} {k n : Nat} {Γ s : List Ent} {gs : GS} {lo : Int}
end
/-! things that no store can forget -/
theorem killR_tr {i : Nat} {t : Tr} : killR i (.tr t) = .tr t := rfl
theorem killR_no {i : Nat} : killR i .no = .no := rfl
theorem killR_al {i : Nat} {q : List Nat} : killR i (.al q) = if q.head? = some i then .no else .al q := rfl
theorem killE_tr {p : List Nat} {t : Tr} : killE p (.tr t) = .tr t := rfl
theorem killE_no {p : List Nat} : killE p .no = .no := rfl
theorem killE_al {p q : List Nat} : killE p (.al q) = if nbel p q = true then .al q else .no := rfl
theorem killJ_tr {p : List Nat} {t : Tr} : killJ p (.tr t) = .tr t := rfl
theorem killJ_no {p : List Nat} : killJ p .no = .no := rfl
theorem killJ_al {p q : List Nat} : killJ p (.al q) = if pre p q = true then .no else .al q := rfl
structure Nal (x : Ent) : Prop where
  kr : ∀ i, killR i x = x
  ke : ∀ p, killE p x = x
  kj : ∀ p, killJ p x = x
theorem nal_no : Nal .no := ⟨fun _ => rfl, fun _ => rfl, fun _ => rfl⟩
theorem nal_tr {t : Tr} : Nal (.tr t) := ⟨fun _ => rfl, fun _ => rfl, fun _ => rfl⟩
/-! slices -/
def prt : Bool → List Ent → Option (Option Int × List Ent)
  | false, s => some (none, s)
  | true, .tr (.a (.int i)) :: s => some (some i, s)
  | _, _ => none
def cutT {α : Type} (ts : List α) (lo hi : Option Int) : List α := (ts.drop (HT.sIx ts.length 0 lo)).take (HT.sIx ts.length ts.length hi - HT.sIx ts.length 0 lo)
section
variable {K : KC} {X : Cx} {T : KT} {md : List Bool} {W : WX} {g ge : GE} {te t : TE} {e : Expr} {pos p p2 : Pos} {lo hi : Option Expr}
theorem EnvOk.cut {c : Cz} {σ : St} {H : Hp} {Γ τ : List Ent} {us vs : List V} {ts : List Tr} (E : EnvOk K c σ H Γ (ts.reverse.map Ent.tr ++ τ) (vs.reverse ++ us)) (hl : ts.length = vs.length) (i n : Nat) :
    EnvOk K c σ H Γ (((ts.drop i).take n).reverse.map Ent.tr ++ τ) (((vs.drop i).take n).reverse ++ us) := by
  have e1 : ts.reverse.map Ent.tr = ((ts.drop i).drop n).reverse.map Ent.tr ++ (((ts.drop i).take n).reverse.map Ent.tr ++ (ts.take i).reverse.map Ent.tr) := by
    rw [← List.map_append, ← List.reverse_append, ← List.map_append, ← List.reverse_append, List.append_assoc, List.take_append_drop, List.take_append_drop]
  have e2 : vs.reverse = ((vs.drop i).drop n).reverse ++ (((vs.drop i).take n).reverse ++ (vs.take i).reverse) := by
    rw [← List.reverse_append, ← List.reverse_append, List.append_assoc, List.take_append_drop, List.take_append_drop]
  rw [e1, e2, List.append_assoc, List.append_assoc, List.append_assoc, List.append_assoc] at E
  have E1 := EnvOk.dropN (by simp [hl]) E
  exact EnvOk.dropN (by simp [hl]) (EnvOk.permA (by simp [hl]) (by simp [hl]) E1)
theorem cutV_eq {ts : List Tr} {vs : List V} (hl : ts.length = vs.length) (lo hi : Option Int) : cutV vs lo hi = (vs.drop (HT.sIx ts.length 0 lo)).take (HT.sIx ts.length ts.length hi - HT.sIx ts.length 0 lo) := by
  unfold cutV
  rw [hl]
/-- what stands between lo and hi of the thing on top -/
def cutG (lo hi : Option Int) : GE := fun m => match m.s with
  | e :: s => match viewE m.g e with
    | some (.nd .lst o ts) => match itemsE e o ts with
      | some ts' => match mkN .lst (cutT ts' lo hi) with
        | some t => some (.ok ⟨m.g, .tr t :: s⟩)
        | none => none
      | none => none
    | some (.nd .tup o ts) => if HT.sIx ts.length 0 lo = 0 ∧ HT.sIx ts.length ts.length hi = ts.length then some (.ok m) else match itemsE e o ts with
      | some ts' => some (.ok ⟨m.g, .tr (.nd .tup .own (cutT ts' lo hi)) :: s⟩)
      | none => none
    | some (.a (.str z)) => if z.length ≤ sizeLine then some (.ok ⟨m.g, .tr (.a (.str (cutS z lo hi))) :: s⟩) else none
    | _ => none
  | _ => none
def RCut (K : PySem.W.Frag) : V → Option Int → Option Int → Hp → VK → Prop := fun x lo hi H Q => (rSlL K x lo hi H Q ∨ rSlA K x lo hi H Q) ∨ rSlS x lo hi H Q
theorem sl_any {X : Cx} : SlR X (RCut X.K) := (sl_list.or sl_tupA).or sl_str
theorem cutG_ok {c : Cz} {σ : St} {H : Hp} {m : Ms} {us : List V} {x : V} {Q : VK} {rr : Rs} {lo hi : Option Int} (E : EnvOk K c σ H m.g m.s (x :: us)) (hf : cutG lo hi m = some rr) (hp : PostE K c W σ us Q rr) : RCut K.K x lo hi H Q := by
  unfold cutG at hf
  split at hf
  · rename_i ex s hs
    rw [hs] at E
    split at hf
    · rename_i o ts hv
      split at hf
      · rename_i ts' h2
        split at hf
        · rename_i tn hn
          cases hf
          obtain ⟨ad, vs, rfl, ho, hl, e1, E1⟩ := EnvOk.items E hv h2
          have hl' : ts'.length = vs.length := by rw [e1]; simpa using hl
          refine .inl (.inl ⟨ad, vs, rfl, objL ho, fun l nl => hp _ _ ?_⟩)
          rw [cutV_eq hl']
          exact (E1.cut hl' _ _).new (by simp [hl']) nl hn fun o => upd_same
        · cases hf
      · cases hf
    · rename_i o ts hv
      split at hf
      · rename_i hw
        cases hf
        obtain ⟨Z, ws, Φ, Ψ, EE⟩ := id E
        obtain ⟨Θ1, ad, vs, Ξ, rfl, ho, hl, _⟩ := EE.view (n := 0) rfl rfl hv
        have hlen := RepL.len _ hl
        refine .inl (.inr ⟨ad, vs, rfl, objT ho, fun _ => hp _ _ (by rw [hs]; exact E), fun hn => absurd ?_ hn⟩)
        rw [← hlen]
        exact hw
      · rename_i hw
        split at hf
        · rename_i ts' h2
          cases hf
          obtain ⟨ad, vs, rfl, ho, hl, e1, E1⟩ := EnvOk.items E hv h2
          have hl' : ts'.length = vs.length := by rw [e1]; simpa using hl
          refine .inl (.inr ⟨ad, vs, rfl, objT ho, fun hn => absurd (by rw [hl]; exact hn) hw, fun _ l nl => hp _ _ ?_⟩)
          rw [cutV_eq hl']
          exact EnvOk.new (k := .tup) (E1.cut hl' _ _) (by simp [hl']) nl (by simp [mkN, cutT]) fun o => .inl upd_same
        · cases hf
    · rename_i z hv
      split at hf
      · rename_i hz
        cases hf
        obtain ⟨Z, ws, Φ, Ψ, EE⟩ := id E
        obtain ⟨Θ1, r1⟩ := EE.view (n := 0) rfl rfl hv
        exact .inr ⟨z, r1.1, hz, hp _ _ (E.drop.atom _)⟩
      · cases hf
    · cases hf
  · cases hf
def fSl (a b : Bool) : GE := fun m => match prt b m.s with
  | some (hi, s1) => match prt a s1 with
    | some (lo, s2) => cutG lo hi ⟨m.g, s2⟩
    | none => none
  | none => none
def PartV (b : Bool) (o : Option Int) (vs : List V) : Prop := match b with
  | false => o = none ∧ vs = []
  | true => ∃ i, o = some i ∧ vs = [V.int i]
theorem prt_ok {c : Cz} {σ : St} {H : Hp} {Γ s s' : List Ent} {us vs : List V} {b : Bool} {o o' : Option Int} (E : EnvOk K c σ H Γ s (vs ++ us)) (hv : PartV b o vs) (h : prt b s = some (o', s')) : o' = o ∧ EnvOk K c σ H Γ s' us := by
  cases b with
  | false =>
    obtain ⟨rfl, rfl⟩ := hv
    simp only [prt] at h
    cases h
    exact ⟨rfl, E⟩
  | true =>
    obtain ⟨i, rfl, rfl⟩ := hv
    unfold prt at h
    split at h
    · rename_i e; cases e
    · cases h
      have := top_a E
      cases this
      exact ⟨rfl, E.drop⟩
    · cases h
def PostO (K : KC) (c : Cz) (W : WX) (σ : St) (us : List V) (b : Bool) (Q : Option Int → Hp → Prop) : Rs → Prop
  | .ok m' => ∀ o vs H', PartV b o vs → EnvOk K c σ H' m'.g m'.s (vs ++ us) → Q o H'
  | .ex C g' => ∀ H' : HX, EnvX K c C σ H' g' [] [] → W (.ref (K.et C)) H'.2 σ H'.1
def SO (K : KC) (md : List Bool) (W : WX) (b : Bool) (t : TO) (g : GE) : Prop := ∀ (c : Cz) (σ : St) (H : Hp) (m : Ms) (us : List V) (Q : Option Int → Hp → Prop) (r : Rs), c.md = md → EnvOk K c σ H m.g m.s us → g m = some r → PostO K c W σ us b Q r → t σ H Q
/-- a part of a slice, and what the machine does for it -/
def MO (X : Cx) (T : KT) (md : List Bool) (W : WX) (e : Option Expr) (b : Bool) (g : GE) : Prop := ∃ t, PO X e t ∧ SO (kcm X.K T) md W b t g
def gNoP : GE := fun m => some (.ok m)
theorem mo_none : MO X T md W none false gNoP := ⟨_, po_none, fun c σ H m us Q r hc E hg hp => by
  cases hg
  exact hp none [] H ⟨rfl, rfl⟩ E⟩
def chkInt : GE := fun m => match m.s with
  | .tr (.a (.int _)) :: _ => some (.ok m)
  | _ => none
theorem mo_some (he : ME X T md W e g) : MO X T md W (some e) true (gSeq g chkInt) := by
  obtain ⟨t, pe, se⟩ := he
  refine ⟨_, po_some pe, fun c σ H m us Q r hc E hg hp => ?_⟩
  simp only [gSeq] at hg
  split at hg
  · rename_i m1 h1
    refine se c σ H m us _ _ hc E h1 fun x H1 E1 => ?_
    unfold chkInt at hg
    split at hg
    · rename_i i s hs
      cases hg
      have E2 := E1
      rw [hs] at E2
      have := top_a E2
      exact ⟨i, this, hp (some i) [.int i] H1 ⟨i, rfl, rfl⟩ (by rw [← this]; exact E1)⟩
    · cases hg
  · rename_i h1
    refine se c σ H m us _ _ hc E hg ?_
    cases r with
    | ex C g' => exact hp
    | ok m2 => exact absurd hg (h1 m2)
theorem me_sl {a b : Bool} {gl gh : GE} (he : ME X T md W e ge) (hl : MO X T md W lo a gl) (hh : MO X T md W hi b gh) : ME X T md W (.Subscript e (.Slice lo hi none p2) pos) (gSeq (gSeq (gSeq ge gl) gh) (fSl a b)) := by
  obtain ⟨te, pe, se⟩ := he
  obtain ⟨tl, pl, sl⟩ := hl
  obtain ⟨th, ph, sh⟩ := hh
  refine ⟨_, pe_slice sl_any pe pl ph, fun c σ H m us Q r hc E hg hp => ?_⟩
  simp only [gSeq] at hg
  cases e1 : ge m with
  | none => simp [e1] at hg
  | some r1 =>
    cases r1 with
    | ex C g' =>
      simp only [e1] at hg
      cases hg
      exact se c σ H m us _ _ hc E e1 hp
    | ok m1 =>
      simp only [e1] at hg
      refine se c σ H m us _ _ hc E e1 fun x H1 E1 => ?_
      cases e2 : gl m1 with
      | none => simp [e2] at hg
      | some r2 =>
        cases r2 with
        | ex C g' =>
          simp only [e2] at hg
          cases hg
          exact sl c σ H1 m1 _ _ _ hc E1 e2 hp
        | ok m2 =>
          simp only [e2] at hg
          refine sl c σ H1 m1 _ _ _ hc E1 e2 fun o1 v1 H2 p1 E2 => ?_
          cases e3 : gh m2 with
          | none => simp [e3] at hg
          | some r3 =>
            cases r3 with
            | ex C g' =>
              simp only [e3] at hg
              cases hg
              exact sh c σ H2 m2 _ _ _ hc E2 e3 hp
            | ok m3 =>
              simp only [e3] at hg
              refine sh c σ H2 m2 _ _ _ hc E2 e3 fun o2 v2 H3 p2 E3 => ?_
              unfold fSl at hg
              split at hg
              · rename_i hi' s1 h1
                split at hg
                · rename_i lo' s2 h2
                  obtain ⟨rfl, E4⟩ := prt_ok E3 p2 h1
                  obtain ⟨rfl, E5⟩ := prt_ok E4 p1 h2
                  exact cutG_ok (m := ⟨m3.g, s2⟩) E5 hg hp
                · cases hg
              · cases hg
end
section
variable {K : KC} {X : Cx} {T : KT} {md : List Bool} {W : WX} {c : Cz} {σ : St} {H : Hp} {Γ τ : List Ent} {us : List V}
theorem EnvOk.atoms : ∀ (xs : List V), EnvOk K c σ H Γ τ us → EnvOk K c σ H Γ (xs.map (fun v => Ent.tr (.a v)) ++ τ) (xs ++ us)
  | [], E => E
  | x :: xs, E => (EnvOk.atoms xs E).atom x
theorem escL_atoms {α : Type} (f : α → V) (xs : List α) : escL (xs.map fun x => Tr.a (f x)) = true := by
  rw [escL_all]
  intro t ht
  obtain ⟨x, _, rfl⟩ := List.mem_map.mp ht
  rfl
theorem EnvOk.newAtoms {pa : Addr} (E : EnvOk K c σ H Γ τ us) (ns : List Int) (hp : H pa = none) : EnvOk K c σ (upd H pa (.lst (ns.map V.int))) Γ (.tr (.nd .lst .own (ns.map fun i => .a (.int i))) :: τ) (.ref pa :: us) := by
  have E1 := EnvOk.atoms (ns.reverse.map V.int) E
  have e : (fun v => Ent.tr (Tr.a v)) ∘ V.int = Ent.tr ∘ fun i : Int => Tr.a (V.int i) := rfl
  refine EnvOk.new (ts := ns.map fun i => .a (.int i)) (vs := ns.map V.int) (k := .lst) ?_ (by simp) hp (by simp [mkN, escL_atoms V.int]) fun o => upd_same
  simpa [List.map_reverse, e] using E1
end
/-! a dict that is lent or frozen, locked while it is walked -/
/-- the same call, the thing at d being ob all the while -/
def Cz.pin (c : Cz) (d : Addr) (ob : HO) (z : Prop) : Cz := ⟨fun b => if b = d then some ob else c.H0 b, fun b => b ≠ d ∧ c.F0 b, fun b => c.S0 b ∨ (b = d ∧ z), c.md, c.vs⟩
section
variable {K : KC} {Z : Zn} {H : Hp} {d : Addr} {ob ob' : HO} {od : Obj} {kvs : List (Key × V)} {c : Cz} {ws us : List V} {Φ Ψ : Ps} {σ : St} {Γ τ : List Ent}
def LkP (ob ob' : HO) (od : Obj) (kvs : List (Key × V)) : Prop := (ob = .dK kvs ∧ ob' = .frz od (.dK kvs)) ∨ (ob = .frz od (.dK kvs) ∧ ob' = .dK kvs)
theorem LkP.rd {kv : List (Key × V)} (h : LkP ob ob' od kvs) (e : H d = some ob) (r : Rd H d (.dK kv)) : Rd (upd H d ob') d (.dK kv) := by
  have ek : kv = kvs := by
    rcases r with r | ⟨o, r⟩ <;> rw [e] at r <;> rcases h with ⟨rfl, _⟩ | ⟨rfl, _⟩ <;> cases r <;> rfl
  subst ek
  rcases h with ⟨_, rfl⟩ | ⟨_, rfl⟩
  · exact .inr ⟨od, upd_same⟩
  · exact .inl upd_same
theorem Ev.at_ (E : Ev K (c.pin d ob z) Z ws Φ Ψ σ H Γ τ us) : H d = some ob := by
  obtain ⟨o', h1, h2⟩ := E.st d ob (by show (if d = d then some ob else c.H0 d) = some ob; rw [if_pos rfl])
  rw [h1, h2 fun q => q.1 rfl]
end
/-! x in d; for x in d -/
section
variable {K : KC} {X : Cx} {T : KT} {md : List Bool} {W : WX} {c : Cz} {σ : St} {H : Hp} {us : List V} {i : Nat} {bd : Ms → Option Ms} {gb : GS} {gs g : GE} {te : TE} {tg iter : Expr} {body : List Stmt} {pos : Pos} {oo : Os}
theorem valV_zip0 : ∀ {ks : List Key} {vs : List V} {k : Key}, kix k ks = none → valV (ks.zip vs) k = none
  | [], _, _, _ => rfl
  | x :: ks, [], _, _ => rfl
  | x :: ks, y :: vs, k, h => by
    have h0 := kix_none h
    have ne : ¬ x = k := fun e => h0 (by simp [e])
    simp only [kix, if_neg ne, Option.map_eq_none_iff] at h
    rw [List.zip_cons_cons, valV_neg ne, valV_zip0 h]
def FInD (neg : Bool) : Tr → Tr → Option V
  | .a x, .nd (.dct ks) _ _ => match keyOf x with
    | some k => some (.bl (if neg then !(kix k ks).isSome else (kix k ks).isSome))
    | none => none
  | _, _ => none
def rInK (neg : Bool) : R2 := fun x y H Q => ∃ a o, y = .ref a ∧ DGet H a x o ∧ Q (.bl (if neg then !o.isSome else o.isSome)) H
theorem op_inK (hu : X.A.units + 1 < cLine) : OpR X (compareOp .In) (rInK false) := by
  intro pins s σ H x y v u Q I rx ry h
  obtain ⟨a, o, rfl, g, q⟩ := h
  cases ry
  exact d_in hu I g rx fun s' I' => ⟨.bl o.isSome, H, I', rfl, q⟩
theorem op_notInK (hu : X.A.units + 1 < cLine) : OpR X (compareOp .NotIn) (rInK true) := by
  intro pins s σ H x y v u Q I rx ry h
  obtain ⟨a, o, rfl, g, q⟩ := h
  cases ry
  exact d_notIn hu I g rx fun s' I' => ⟨.bl (!o.isSome), H, I', rfl, q⟩
theorem fInD_ok {neg : Bool} : RA2 K md W (rInK neg) (fP2 (FInD neg)) := fP2_ok fun Z H x y tx ty u Φ Ψ Q r1 r2 e q => by
  unfold FInD at e
  split at e
  · rename_i v ks o ts
    split at e
    · rename_i k hk
      cases e
      obtain ⟨rfl, _⟩ := r1
      obtain ⟨ad, vs', Ξ, rfl, ho, hl, _⟩ := r2
      obtain ⟨l, hr⟩ := ObjAt.rd ho
      have e : (valV (ks.zip vs') k).isSome = (kix k ks).isSome := by
        cases hj : kix k ks with
        | none => rw [valV_zip0 hj]; rfl
        | some j =>
          rw [valV_zip hj l]
          have := getq_lt' (kix_at hj)
          rw [List.getElem?_eq_getElem (by omega)]
          rfl
      rw [← e] at q
      exact ⟨ad, _, rfl, .inl ⟨_, k, hr, keyOf_kV hk, rfl⟩, q⟩
    · cases e
  · cases e
def fInA : GE := gOr fIn (fP2 (FInD false))
def fNotInA : GE := gOr fNotIn (fP2 (FInD true))
theorem op_inA (hu : X.A.units + 64 < cLine) : OpR X (compareOp .In) (fun x y H Q => rIn X.K false x y H Q ∨ rInK false x y H Q) := op_in_seq.or (op_inK (by omega))
theorem op_notInA (hu : X.A.units + 64 < cLine) : OpR X (compareOp .NotIn) (fun x y H Q => rIn X.K true x y H Q ∨ rInK true x y H Q) := op_notIn_seq.or (op_notInK (by omega))
theorem fInA_ok : RA2 K md W (fun x y H Q => rIn K.K false x y H Q ∨ rInK false x y H Q) fInA := fIn_ok.or fInD_ok
theorem fNotInA_ok : RA2 K md W (fun x y H Q => rIn K.K true x y H Q ∨ rInK true x y H Q) fNotInA := fIn_ok.or fInD_ok
theorem PS.or {st : Stmt} {t1 t2 : L2.TS} (h1 : PS X st t1) (h2 : PS X st t2) : PS X st (fun D σ H => t1 D σ H ∨ t2 D σ H) := by
  refine ⟨fun pins s σ H D I h => ?_⟩
  rcases h with h | h
  · exact h1.run pins s σ H D I h
  · exact h2.run pins s σ H D I h
end
/-! walks: more general laws; keys that are walked; slices -/
section
variable {bd : Ms → Option Ms} {gs : GS} {lo : Int} {n : Nat} {t : Tr}
end
section
variable {α : Type}
theorem sIx_1 (n : Nat) : HT.sIx n 0 (some 1) = min 1 n := by
  simp [HT.sIx]
theorem cutT_tail (xs : List α) : cutT xs (some 1) none = xs.drop 1 := by
  unfold cutT
  cases xs with
  | nil => simp
  | cons x xs =>
    rw [sIx_1]
    simp [HT.sIx]
end
section
variable {α : Type} {gs : GS} {bd : Ms → Option Ms} {t : Tr} {s : List Ent}
/-- the walk over a list: an invariant, look and maybe leave -/
theorem loopE_allI {xs : List α} {enc : α → Tr} (e : Ent) (kd : Nk) (o : Ow) (I : List Ent → Prop) (hv : ∀ Γ, I Γ → viewE Γ e = some (.nd kd o (xs.map enc))) (hc : cpE e = true) (hcp : ∀ x ∈ xs, cp (kid o (enc x)) = true) (p : α → Bool)
    (turn : ∀ x ∈ xs, ∀ Γ, I Γ → ∃ Γ1 Γ2, bd ⟨Γ, .tr (kid o (enc x)) :: e :: s⟩ = some ⟨Γ1, e :: s⟩ ∧ I Γ2 ∧ gs ⟨Γ1, e :: s⟩ = some (if p x = true then .nx ⟨Γ2, e :: s⟩ else .rt t ⟨Γ2, e :: s⟩)) {Γ : List Ent} (h0 : I Γ) :
    ∃ Γ', I Γ' ∧ loopE kd bd gs xs.length 0 ⟨Γ, e :: s⟩ = some (if xs.all p = true then .nx ⟨Γ', s⟩ else .rt t ⟨Γ', s⟩) := by
  have key : ∀ ys pre Γ, xs = pre ++ ys → I Γ → ∃ Γ', I Γ' ∧ loopE kd bd gs ys.length pre.length ⟨Γ, e :: s⟩ = some (if ys.all p = true then .nx ⟨Γ', s⟩ else .rt t ⟨Γ', s⟩) := by
    intro ys
    induction ys with
    | nil =>
      intro pre Γ hx h
      refine ⟨Γ, h, ?_⟩
      show loopE kd bd gs 0 pre.length ⟨Γ, e :: s⟩ = _
      unfold loopE
      simp only [hv Γ h]
      rw [if_pos ⟨trivial, by rw [hx]; simp⟩]
      rfl
    | cons y ys ih =>
      intro pre Γ hx h
      have hmem : y ∈ xs := by rw [hx]; simp
      obtain ⟨Γ1, Γ2, e1, h2, e2⟩ := turn y hmem Γ h
      show ∃ Γ', I Γ' ∧ loopE kd bd gs (ys.length + 1) pre.length ⟨Γ, e :: s⟩ = _
      have hk1 : kidX e kd o (xs.map enc) pre.length = some (.tr (kid o (enc y))) := by
        unfold kidX
        rw [hx]
        simp [hcp y hmem]
      unfold loopE
      simp only [hv Γ h]
      rw [if_pos ⟨trivial, hc, by rw [hx]; simp⟩, hk1]
      simp only [e1]
      by_cases hp : p y = true
      · rw [if_pos hp] at e2
        obtain ⟨Γ', h3, e3⟩ := ih (pre ++ [y]) Γ2 (by simp [hx]) h2
        rw [List.length_append, List.length_singleton] at e3
        refine ⟨Γ', h3, ?_⟩
        rw [e2]
        simp only
        rw [e3]
        simp [hp]
      · rw [if_neg hp] at e2
        refine ⟨Γ2, h2, ?_⟩
        rw [e2]
        simp [hp]
  exact key xs [] Γ rfl h0
end
/-! try with several clauses, no names; is not True -/
section
variable {X : Cx} {T : KT} {md : List Bool} {W : WX} {body : List Stmt} {pos : Pos} {gb : GS}
end
section
variable {K : KC} {md : List Bool} {W : WX}
def fNotB : GE := fP2 (FIsB true)
end
/-! tuples of the written part; x in o by an own __contains__ -/
section
variable {K : KC} {X : Cx} {T : KT} {md : List Bool} {W : WX} {t : Tr} {ts : List Tr} {v : V} {vs : List V} {a : Addr} {e : Expr} {pos : Pos}
def ConM (K : KC) (t : Tr) (v : V) : Prop := ∀ (m : Ow) (Z : Zn) (H : Hp), Rep K Z H m t v (fun _ => False)
def gCon (t : Tr) : GE := fun m => some (.ok ⟨m.g, .tr t :: m.s⟩)
/-- o.f, a constant of o's class -/
inductive ConTab (K : PySem.W.Frag) (T : KT) (f : Str) : List (Nat × Tr) → Prop
  | nil : ConTab K T f []
  | cons {n : Nat} {t : Tr} {v : V} {u : Value} {l : List (Nat × Tr)} (c : Cls K (T.ct n)) (k : Con K (T.ct n) f v u) (h : ConM (kcm K T) t v) (no : (T.nm n).idxOf? f = none) (r : ConTab K T f l) : ConTab K T f ((n, t) :: l)
def fCon (tab : List (Nat × Tr)) : GE := fun m => match m.s with
  | e :: s => match viewE m.g e with
    | some (.nd (.ins n _) _ _) => match tab.lookup n with
      | some t => some (.ok ⟨m.g, .tr t :: s⟩)
      | none => none
    | _ => none
  | _ => none
theorem ConTab.get {K : PySem.W.Frag} {f : Str} {tab : List (Nat × Tr)} (h : ConTab K T f tab) {n : Nat} {t : Tr} (e : tab.lookup n = some t) : ∃ v u, Cls K (T.ct n) ∧ Con K (T.ct n) f v u ∧ ConM (kcm K T) t v ∧ (T.nm n).idxOf? f = none := by
  induction h with
  | nil => simp at e
  | @cons n' t' v u l c k h no r ih =>
    by_cases q : n = n'
    · subst q
      simp at e
      subst e
      exact ⟨v, u, c, k, h, no⟩
    · rw [List.lookup_cons, beq_false_of_ne q] at e
      exact ih e
end
/-! own __contains__ -/
section
variable {X : Cx} {pins : List (Addr × Obj)} {σ : St} {H : Hp} {s : Shared} {a C dx f : Addr} {fs : List (Str × V)}
end
section
variable {K : KC} {X : Cx} {T : KT} {md mdc : List Bool} {W : WX} {a C dx f : Addr} {fd : FuncData} {ps : List Str} {kk n : Nat} {sp : Sp} {G : GF}
/-- x in o: o of the class n, its __contains__ by its function on trees -/
def fInO (n : Nat) (mdc : List Bool) (G : GF) (neg : Bool) : GE := fun m => match m.s with
  | y :: x :: s => match chkI n ⟨m.g, y :: x :: s⟩ with
    | some _ => match gCall [] mdc G 2 ⟨m.g, x :: y :: s⟩ with
      | some (.ok ⟨g', .tr (.a (.bl b)) :: s'⟩) => some (.ok ⟨g', .tr (.a (.bl (if neg then !b else b))) :: s'⟩)
      | _ => none
    | none => none
  | _ => none
end
/-! defs called in an except suite: the promises of HotCalls by functions on trees -/
section
variable {K : KC} {X : Cx} {T : KT} {md mdc : List Bool} {W : WX} {is : List Nat} {G : GF} {n : Nat}
variable {x me : Str} {pp pos apos : Pos} {e oe : Expr} {es : List Expr} {ga go : GE} {kk : Nat} {f : Addr} {fd : FuncData} {ps : List Str} {pl : Sem Bool}
abbrev RmH := L2H.RoomH
end
section
variable {md : List Bool} {T : KT}
variable {P : Program} {Wd : World} {Kf : PySem.W.Frag} {mg : Str → Option Value} {base : Heap}
end
/-! try: body, except X: one statement; raise -/
section
open PySem.Spec PyProof.Rows
variable {X : Cx} {pins : List (Addr × Obj)} {σ : L2.St} {H : Hp} {s : Shared}
variable {x : Str} {c : Value} {body : List Stmt} {st : Stmt} {np pos pos' rpos : Pos} {tb : WX → L2.TS} {ts : Addr → Value → Option Addr → L2.TS} {Wout : WX}
end
/-! try: body, except X: one statement; raise, by the machine; targets that are tuples alone -/
section
variable {K : KC} {X : Cx} {T : KT} {md : List Bool} {W : WX} {c : Value} {x : Str} {body : List Stmt} {st : Stmt} {np pos pos' rpos : Pos} {gb gs : GS} {tab : List (Nat × Bool)} {k : Nat} {is : List Nat} {tg : Expr}
theorem rmH_mark {A : Around} {v : Value} (h : RmH k A) : RmH k (A.mark (some v)) := ⟨h.dp, h.un⟩
theorem hot_fn {CX : CXT} {P : Program} {w : World} {Kf : PySem.W.Frag} {mg : Str → Option Value} {base : Heap} {N : List Str} {qual : Str} {scope : Scope} {f : Addr} {cd : Value} {A : Around} {outer : List Env} {s : Shared} {H : Hp} {E : XK} {p : Addr × Obj} (h : L2H.Hot1 A p) : L2H.HotC (L2H.cxH CX P w Kf mg base N qual scope f cd A outer s H E p) := ⟨p, h, List.mem_cons_self⟩
def sTryRe (tab : List (Nat × Bool)) (gb gs : GS) : GS := fun m => match m.s with
  | _ :: _ => none
  | [] => match gb m with
    | some (.ex C g') => match tab.lookup C with
      | some true => match gs ⟨g', []⟩ with
        | some (.nx m2) => some (.ex C m2.g)
        | _ => none
      | some false => some (.ex C g')
      | none => none
    | r => r
/-- a, b = a tuple -/
def unpkT (md : List Bool) (is : List Nat) : Ms → Option Ms := fun m => match m.s with
  | .tr (.nd .tup o ts) :: s => if ts.length = is.length then bindAll md is ⟨m.g, (ts.map (kid o)).map Ent.tr ++ s⟩ else none
  | _ => none
theorem sg_unpT : SG K md (gTup K.K is.length (tNames is)) (unpkT md is) := by
  intro c σ H m m' us x Q hc E h hq
  unfold unpkT at h
  split at h
  · rename_i o ts s hs
    split at h
    · rename_i hk
      rw [hs] at E
      obtain ⟨ad, vs, rfl, ho, hl, _, E1⟩ := EnvOk.items (ts' := ts.map (kid o)) E (by rfl) (by rfl)
      have E2 := EnvOk.revs (ts := ts.map (kid o)) (by simpa using hl) E1
      exact ⟨ad, vs, rfl, objT ho, by omega, bindAll_ok (m := ⟨m.g, (ts.map (kid o)).map Ent.tr ++ s⟩) hc (by omega) E2 h fun σ' E3 => hq σ' H E3⟩
    · cases h
  · cases h
theorem mg_unpT (h1 : PG X tg (gTup X.K is.length (tNames is))) : MG X T md tg (unpkT md is) := ⟨_, h1, sg_unpT⟩
end
/-! defs with a star parameter, called without stars -/
section
open PySem.Spec PyProof.Rows
variable {X : Cx} {CX : CXT} {kk : Nat} {f : Addr} {sp : Sp} {E : XK} {x : Str} {pp pos : Pos} {e : Expr} {es : List Expr} {t : TA}
end
section
variable {K : KC} {X : Cx} {T : KT} {md mdc : List Bool} {W : WX} {is : List Nat} {G : GF} {n k : Nat}
variable {x : Str} {pp pos : Pos} {e : Expr} {es : List Expr} {ga : GE} {kk : Nat} {f : Addr}
end
section
variable {md : List Bool} {T : KT}
variable {P : Program} {Wd : World} {Kf : PySem.W.Frag} {mg : Str → Option Value} {base : Heap}
end
/-! xs[a:] = ys -/
section
open PySem.Spec PyProof.Rows PySem.F
section
variable {prog : Program} {w : World} {A : Around} {E : Value → Shared → Prop} {s : Shared}
end
section
variable {X : Cx}
end
end
section
variable {K : KC} {X : Cx} {T : KT} {md : List Bool} {W : WX} {c : Cz} {σ : St} {H : Hp} {Γ τ : List Ent} {us vs : List V} {v w : V} {p : List Nat} {gv go gi : GE} {e o ie : Expr}
theorem RepL.take {Z : Zn} {m : Ow} {ts : List Tr} {vs : List V} {Φ : Ps} (n : Nat) (h : RepL K Z H m ts vs Φ) : ∃ Φ', RepL K Z H m (ts.take n) (vs.take n) Φ' ∧ ∀ b, Φ' b → Φ b := by
  have l := RepL.len _ h
  rw [← List.take_append_drop n ts] at h
  obtain ⟨v1, v2, Φ1, Φ2, e, h1, h2, d, u⟩ := RepL.split _ h
  have l1 := RepL.len _ h1
  have l2 := RepL.len _ h2
  have e1 : vs.take n = v1 := by
    rw [e, List.take_append]
    simp at l1 l2 l
    by_cases q : n ≤ ts.length
    · rw [show v1.length = n by omega, Nat.sub_self, List.take_zero, List.append_nil, List.take_of_length_le (by omega)]
    · have : v2 = [] := List.length_eq_zero_iff.mp (by omega)
      rw [this, List.take_nil, List.append_nil, List.take_of_length_le (by omega)]
  rw [e1]
  exact ⟨Φ1, h1, fun b q => (u b).mpr (.inl q)⟩
end
/-! a, b = a tuple, where an error is handled -/
section
open PySem.Spec PyProof.Rows
section
variable {prog : Program} {w : World} {A : Around} {E : Value → Shared → Prop} {s : Shared}
theorem tuple_over {it t x1 : Addr} {i : Nat} {items : Array Value} {Q : Option Value → Shared → Prop} (hot : HotX.HotAt A x1 s.heap) (hit : IsTupIter s.heap it t i) (ht : IsTup s.heap t items) (hx : items[i]? = none)
    (hQ : ∀ h', Heap.ExtBut it s.heap h' → Q none { s with heap := h' }) : wpAny (model prog w) A (pyNext (.ref it)) Q E s := by
  obtain ⟨oi, gi, ci, di⟩ := id hit
  obtain ⟨ot, gt, _, nt, dt⟩ := ht
  obtain ⟨hh, o1, v1, g1, d1, c1⟩ := hot
  have nex : x1 ≠ it ∨ x1 = it := (Decidable.em _).symm
  unfold pyNext
  refine wpAny_bind (wpAny_attempt (wpAny_callSpecial?_slot (name := Str.ofString "__next__") hit.typeIs slot_tupleiter_next (wpAny_call_entry slot_tupleiter_next hit.typeIs entry_tupleiter_next ?_ (args_tupleiter_next _))))
  show wpAny _ _ (field (.ref it) 0 >>= _) _ _ s
  refine wpAny_bind (wpAny_field gi di (x := .ref t) rfl ?_)
  show wpAny _ _ (if (Value.ref t == Value.none) = true then _ else _) _ _ s
  rw [if_neg (show ¬ ((Value.ref t == Value.none) = true) from Bool.false_ne_true)]
  show wpAny _ _ (field (.ref it) 1 >>= _) _ _ s
  refine wpAny_bind (wpAny_field gi di (x := .int i 0) rfl ?_)
  show wpAny _ _ (seqItems? (.ref t) >>= _) _ _ s
  refine wpAny_bind (wpAny_seqItems gt dt ?_)
  simp only [Int.toNat_natCast, hx]
  refine wpAny_bind (wpAny_rule (wpAny_bind (wpAny_setField gi di (by simp) ?_)))
  show wpAny _ _ (newExc (.type "StopIteration") [] >>= _) _ _ _
  refine wpAny_bind ?_
  simp only [newExc, newTuple]
  refine wpAny_bind (wpAny_newObj_type ?_ (by size_fits))
  refine wpAny_bind (m := firstArgMember _ _) (wpAny_of_eq (a := Value.none) (by first | rfl | (simp only [firstArgMember]; rfl)) ?_)
  refine wpAny_newObj_type ?_ (by size_fits)
  have g2 : ∃ o2 v2, (s.heap.update it (Obj.mapFields (·.setIfInBounds 0 Value.none))).get? x1 = some o2 ∧ o2.data = .fields v2 ∧ v2[2]? = some .none := by
    by_cases q : x1 = it
    · subst q
      rw [gi] at g1
      cases g1
      refine ⟨_, _, Heap.get?_update_self _ gi (Obj.isFreed_of_fields (Obj.data_mapFields di _)), Obj.data_mapFields di _, ?_⟩
      rw [di] at d1
      cases d1
      simpa using c1
    · exact ⟨o1, v1, (Heap.get?_update_other _ _ (Ne.symm q)).trans g1, d1, c1⟩
  obtain ⟨o2, v2, g2, d2, c2⟩ := g2
  have g3 := Heap.get?_push_of_some { cls := .type "tuple", data := .seq #[] 0 } g2
  refine HotX.raiseNew_hot ⟨hh, o2, v2, Heap.get?_push_of_some _ (Heap.get?_push_of_some _ g2), d2, c2⟩ (Nat.ne_of_lt (Heap.lt_size (Heap.get?_push_of_some _ g2))) (Heap.get?_push_size _ rfl) rfl (by first | (simp; done) | (simp; omega) | (simp only [Array.size_append]; simp; omega)) ?_
  refine wpAny_bind (wpAny_isInstance (T := "StopIteration") (b := true) ⟨_, Heap.get?_update_self _ (Heap.get?_push_size _ rfl) rfl, rfl⟩ isSubtype_stop ?_)
  refine wpAny_pure (hQ _ fun b o hb e => ?_)
  have e1 : (s.heap.update it (Obj.mapFields (·.setIfInBounds 0 Value.none))).get? b = some o := (Heap.get?_update_other _ _ (Ne.symm hb)).trans e
  rw [Heap.get?_update_other _ _ (Nat.ne_of_gt (Heap.lt_size (Heap.get?_push_of_some _ e1)))]
  exact Heap.get?_push_of_some _ (Heap.get?_push_of_some _ e1)
theorem unpack_hot {t x1 : Addr} {items : Array Value} {targets : List (Bool × (Value → Sem Unit))} {Q : Unit → Shared → Prop} (hot : HotX.HotAt A x1 s.heap) (ht : IsTup s.heap t items) (hn : targets.length = items.size) (hstar : targets.findIdx? (·.1) = none)
    (h : ∀ h', Heap.ExtBut s.heap.objs.size s.heap h' → wpAny (model prog w) A (assignInOrder (targets.map (·.2)) items.toList) Q E { s with heap := h' }) : wpAny (model prog w) A (unpack (.ref t) targets) Q E s := by
  have old : t ≠ s.heap.objs.size := by obtain ⟨o, ho, _⟩ := ht; exact Nat.ne_of_lt (Heap.lt_size ho)
  obtain ⟨hh, o1, v1, g1, d1, c1⟩ := hot
  have old1 : x1 ≠ s.heap.objs.size := Nat.ne_of_lt (Heap.lt_size g1)
  unfold unpack
  rw [hn, hstar]
  refine wpAny_bind (wpAny_holding ?_)
  unfold unpackItems
  refine wpAny_bind ?_
  unfold notIterableAtAll
  refine wpAny_bind (wpAny_specialOf ht.typeIs slot_tuple_iter.lookup (wpAny_pure ?_))
  simp only [Bool.false_eq_true, if_false]
  refine wpAny_bind (wpAny_holding (iter_tuple ht ?_))
  refine wpAny_bind (wpAny_holding (draw_tuple old items.size 0 _ _ ⟨_, Heap.get?_push_size _ rfl, rfl, rfl⟩ (ht.push _) (by omega) fun h1 it1 same1 => ?_))
  rw [show List.take items.size (List.drop 0 items.toList) = items.toList by rw [List.drop_zero]; exact List.take_of_length_le (by simp), if_neg (by simp)]
  have ht1 : IsTup h1 t items := (ht.push _).extBut same1.extBut old
  have hot1 : HotX.HotAt A x1 h1 := ⟨hh, o1, v1, same1.extBut x1 o1 old1 (Heap.get?_push_of_some _ g1), d1, c1⟩
  refine wpAny_bind (wpAny_holding (tuple_over hot1 it1 ht1 (by simp) fun h2 ext2 => ?_))
  simp only [Option.isSome_none, Bool.false_eq_true, if_false]
  exact wpAny_pure (h h2 fun b o hb e => ext2 b o hb (same1.extBut b o hb (Heap.get?_push_of_some _ e)))
end
variable {X : Cx} {pos : Pos}
theorem pg_tupQ {es : List Expr} {k : Nat} {t : TGs} {n : Nat} (hot : L2H.HotC X) (h : PGs X es t) (hn : (assignEach es X.env).length = n := by rfl) (hst : (assignEach es X.env).findIdx? (·.1) = none := by rfl) : PG X (.Tuple es k pos) (gTup X.K n t) := by
  refine ⟨fun pins s σ H v u Q I r hw => ?_⟩
  obtain ⟨a, xs, rfl, hq, hl, hw⟩ := hw
  obtain rfl : u = .ref a := r
  obtain ⟨its, rv, ht, hz⟩ := I.tuple hq
  obtain ⟨x1, hot1⟩ := hot.at I
  rw [PyProof.Rows.assign_Tuple]
  refine wpAny_bind (wpAny_standAt (unpack_hot hot1 ht (by simp [hn, ← hl, rv.length]) hst fun h' ext => ?_))
  exact h.run pins _ σ H xs _ Q (I.kept (t' := s.toks) fun b o e => ext b o (Nat.ne_of_lt (Heap.lt_size e)) e) (by simpa using rv) hw
end
/-! walks by a supplier of items: enumerate, reversed; range with a step -/
section
variable {K : KC} {X : Cx} {T : KT} {md : List Bool} {W : WX} {c : Cz} {σ : St} {H H' : Hp} {Γ τ : List Ent} {us vs : List V} {v w : V} {n i : Nat} {gb : GS} {gs ga : GE} {tg iter e : Expr} {body : List Stmt} {pos pos' rp : Pos} {bd : Ms → Option Ms} {nx : Nat → Ms → Option Ms} {fin : Nat → Ms → Option Ms}
/-! a range with a step -/
def loopC (bd : Ms → Option Ms) (body : GS) (lo st : Int) : Nat → Nat → Ms → Option Os
  | 0, _, m => some (.nx m)
  | r + 1, i, m => match bd ⟨m.g, .tr (.a (.int (lo + (i : Nat) * st))) :: m.s⟩ with
    | some m1 => match body m1 with
      | some (.nx m2) => loopC bd body lo st r (i + 1) m2
      | some (.ct m2) => loopC bd body lo st r (i + 1) m2
      | some (.bk m2) => some (.nx m2)
      | some (.rt t m2) => some (.rt t m2)
      | some (.ex C g) => some (.ex C g)
      | none => none
    | none => none
theorem loopC_ok {lo sp : Int} {tb : L2.TS} {gT : TG} {D : Ends} {oo : Os} (hm : c.md = md) (hT : SG K md gT bd) (hB : SS K md W tb gb) (hp : PostS K c W us D oo) {m : Ms} (E : EnvOk K c σ H m.g m.s us) (hg : loopC bd gb lo sp n 0 m = some oo) :
    ∃ Wv : Nat → Nat → St → Hp → Prop, (∃ mm, Wv 0 mm σ H) ∧ ∀ i mm σ H, Wv i mm σ H →
      ((Itc lo sp n).stop i H ∧ D.nx σ H) ∨ ((Itc lo sp n).go i H ∧ ∃ N : St → Hp → Prop, (∀ σ' H', N σ' H' → ∃ m', m' < mm ∧ Wv (i + 1) m' σ' H') ∧ ∀ x H', (Itc lo sp n).yld i H x H' → gT x σ H' fun σ2 H2 => tb { D with nx := N, ct := N, bk := D.nx } σ2 H2) := by
  refine ⟨fun i r σ H => i + r = n ∧ ∃ m : Ms, EnvOk K c σ H m.g m.s us ∧ loopC bd gb lo sp r i m = some oo, ⟨n, by omega, m, E, hg⟩, ?_⟩
  rintro i r σ H ⟨hir, m, E, hg⟩
  cases r with
  | zero =>
    simp only [loopC] at hg
    cases hg
    exact .inl ⟨by show n ≤ i; omega, hp σ H E⟩
  | succ r =>
    simp only [loopC] at hg
    split at hg
    · rename_i m1 h1
      refine .inr ⟨by show i < n; omega, fun σ' H' => i + 1 + r = n ∧ ∃ m : Ms, EnvOk K c σ' H' m.g m.s us ∧ loopC bd gb lo sp r (i + 1) m = some oo, fun σ' H' z => ⟨r, by omega, z⟩, fun x H' y => ?_⟩
      obtain ⟨rfl, rfl⟩ := y
      refine hT c σ H' ⟨m.g, _ :: m.s⟩ m1 _ _ _ hm (E.atom _) h1 fun σ2 H2 E2 => ?_
      cases h2 : gb m1 with
      | none => simp [h2] at hg
      | some o2 =>
        refine hB c σ2 H2 m1 _ _ o2 hm E2 h2 ?_
        cases o2 with
        | nx m2 =>
          simp only [h2] at hg
          exact fun σ3 H3 E3 => ⟨by omega, m2, E3, hg⟩
        | ct m2 =>
          simp only [h2] at hg
          exact fun σ3 H3 E3 => ⟨by omega, m2, E3, hg⟩
        | bk m2 =>
          simp only [h2] at hg
          cases hg
          exact hp
        | rt t m2 =>
          simp only [h2] at hg
          cases hg
          exact hp
        | ex C g' =>
          simp only [h2] at hg
          cases hg
          exact hp
    · cases hg
end
/-! a def that keeps the addresses below its first parameter, called -/
section
variable {K : KC} {X : Cx} {T : KT} {md mdc : List Bool} {W : WX} {G : GG} {x : Str} {pp pos : Pos} {e : Expr} {es : List Expr} {ga : GE} {kk : Nat} {f : Addr} {fd : FuncData} {ps : List Str}
end
/-! sum of a list where an error is handled; defs that keep addresses, called there -/
section
open PySem.Spec PyProof.Rows
section
variable {prog : Program} {w : World} {A : Around} {E : Value → Shared → Prop} {s : Shared}
end
variable {X : Cx}
end
section
variable {K : KC} {X : Cx} {T : KT} {md mdc : List Bool} {W : WX} {G : GG} {n : Nat}
variable {me : Str} {pos apos : Pos} {e oe : Expr} {es : List Expr} {ga go : GE} {kk : Nat} {f : Addr} {fd : FuncData} {ps : List Str} {pl : Sem Bool}
end
section
variable {K : KC} {md : List Bool} {T : KT}
variable {P : Program} {Wd : World} {Kf : PySem.W.Frag} {mg : Str → Option Value} {base : Heap}
end
/-! a comprehension over an own list of rows: its item is a place -/
section
variable {md : List Bool} {k n : Nat} {m m1 : Ms} {Γ s : List Ent} {gs gt ge : GE} {α : Type}
end
/-! a def that calls itself: no promise at depth 0 -/
section
variable {P : Program} {Wd : World} {Kf : PySem.W.Frag} {mg : Str → Option Value} {base : Heap} {T : KT} {md : List Bool}
theorem fn_none {x qual : Str} {st : Stmt} {f : Addr} {fd : FuncData} {N ps : List Str} {k : Nat} (F : Fun Kf x qual st f fd) (S : FnScope N ps (defScope st)) :
    FnOk P Wd Kf mg base (L2N.CX P Wd) (k + 1) f fd ps (spOf (kcm Kf T) md fun _ => none) := by
  obtain ⟨oc, od, kV, doc, pm, an, cdv, ct, osl, rfl, inK, cdOk⟩ := F.ex
  refine fn_of inK cdOk S (fun vs H Q E h => ?_) (fun A outer s H vs Q E hr h => ?_)
  all_goals
    obtain ⟨_, _, _, _, _, _, _, _, hG, _⟩ := h
    exact nomatch hG
end
/-! a caught error handed to a def -/
section
variable {K : KC} {X : Cx} {T : KT} {md mdc : List Bool} {W : WX} {is : List Nat}
/-- isinstance(e, c) where the error that is handled is e -/
theorem isE_pin {a D : Addr} {oe : Obj} (hin : (a, oe) ∈ X.pn) (C : ExcC X.K D) (hz : Zc (.ref D) none oe) (hf : ∃ vs, oe.data = .fields vs) : CallR X (.builtin "isinstance") (rIsE X.K D a) := by
  rintro pins s σ H xs us Q I r ⟨cv, tv, b, rfl, hcv, he, q⟩
  match us, r with
  | [_, tu], .cons rx (.cons rt .nil) =>
    cases rx
    have et := hcv _ rt
    cases et
    have P1 := (I.pin (a, oe) (List.mem_append_left _ hin)).1
    obtain ⟨vs, hv⟩ := hf
    have at1 : PySem.W.InstAt s.heap a oe D none := by
      rcases oe with ⟨c0, d0, da, sl⟩
      rcases hz with ⟨z1, z2⟩
      simp only at z1 z2 hv
      cases z1
      cases z2
      cases hv
      exact ⟨P1, rfl, rfl, trivial⟩
    refine PySem.W.kia_one (PySem.W.handS_kitx_exc C.hg C.hk C.hs C.hd C.ha C.hn C.ht C.hm) I.kIn at1 he (fun z => by cases z) fun tk => ?_
    exact ⟨.bl b, H, I.kept (t' := tk) fun _ _ z => z, rfl, q⟩
theorem me_isP {a D : Addr} {oe : Obj} {en : Str} {pe pi ps : Pos} {ce : Expr} {cu : V} {cv : Value} {i : Nat} {b : Bool} (hin : (a, oe) ∈ X.pn) (hex : ExcC X.K D) (hz : L2N.Zn (.ref D) none oe) (hfl : ∃ vs, oe.data = .fields vs) (hcv : ∀ u, RelV cu u → u = cv) (hk : PySem.W.kitOne X.K (.ref D) cv = some b) (hg : Gl X "isinstance") (hm : X.mg "isinstance" = none)
    (hv : bootBuiltins "isinstance" = some (.builtin "isinstance")) (he : PE X (.Name en pe) (tVar i)) (hd : PE X ce (tC cu))
    (hst1 : starEach [.Name en pe, ce] X.env = (false, eval (.Name en pe) X.env) :: starEach [ce] X.env := by rfl)
    (hst2 : starEach [ce] X.env = (false, eval ce X.env) :: starEach [] X.env := by rfl)
    (hpl : (backTo ps (starEach [ce] X.env)).any (·.1) = false := by rfl) :
    ME X T md W (.Call (.Name "isinstance" pi) [.Name en pe, ce] [] ps) (gIsE i a b) := by
  refine ⟨_, pe_callB (isE_pin hin hex hz.zc hfl) hg hm hv (pa_cons he (pa_cons hd pa_nil hst2) hst1) (by decide) (by rfl) hst1 hpl, ?_⟩
  intro cz σ H m us Q r hmd E hg' hp
  unfold gIsE at hg'
  split at hg'
  · rename_i y hy
    split at hg'
    · rename_i hya
      cases hg'
      subst hya
      obtain ⟨v, hv1, E1⟩ := E.var hy rfl
      have hv2 : v = .ref y := top_a E1
      subst hv2
      exact ⟨_, hv1, _, _, b, rfl, hcv, hk, hp _ _ (E.atom (.bl b))⟩
    · cases hg'
  · cases hg'
/-- what a def promises that is handed the error p -/
structure FnE (P : Program) (w : World) (Kf : PySem.W.Frag) (mg : Str → Option Value) (base : Heap) (CX : CXT) (k : Nat) (f : Addr) (fd : FuncData) (ps : List Str) (sp : Addr × Obj → Sp) : Prop where
  le : ∀ p vs H Q E, sp p vs H Q E → vs.length = ps.length
  go : ∀ (A : Around) (st : List Env) (s : Shared) (H : Hp) (ar : Args) (us : List Value) (vs : List V) (Q : VK) (E : XK) (p : Addr × Obj), RmH k A → L2H.Hot1 A p → L2H.PinOk st H s p → Env0 P w Kf mg base A st s H → BindsTo s fd ar (ps.zip us) → Vals vs us → sp p vs H Q E →
    codeAny (model P w) A (.call (.ref f) ar) (CR CX st P w H s Q E) s
end
/-! defs that are handed an error: from the body, and the call -/
section
open PySem.Spec PyProof.Rows HotX
variable {CX : CXT} {P : Program} {w : World} {Kf : PySem.W.Frag} {mg : Str → Option Value} {base : Heap} {k : Nat} {f : Addr} {T : KT} {md mdc : List Bool}
theorem fnE_of {name qual : Str} {pa : Arguments} {body : List Stmt} {sc : Scope} {dV kV doc pm cdv ct oc : Value} {an od : Option Addr} {osl : Array (Option Value)} {N ps : List Str} {sp : Addr × Obj → Sp}
    (lk : Kf.lookup f = some ⟨oc, od, .func (PySem.W.fnOf name qual pa body sc dV kV doc pm an cdv ct), osl⟩) (hcd : PySem.W.codeIn Kf cdv qual = true) (S : FnScope N ps sc) (le : ∀ p vs H Q E, sp p vs H Q E → vs.length = ps.length)
    (hb : ∀ (A : Around) (st : List Env) (s : Shared) (H : Hp) (vs : List V) (Q : VK) (E : XK) (p : Addr × Obj), L2H.Hot1 A p → RmH k (A.deeper (PyProof.Rows.envOfC qual sc s.heap.objs.size f cdv)) → sp p vs H Q E →
      ∃ t, PSs (L2H.cxH CX P w Kf mg base N qual sc f cdv A st s H E p) body t ∧ t { nx := fun _ H' => Q .non H', rt := Q } (start N vs) H) :
    FnE P w Kf mg base CX (k + 1) f (PySem.W.fnOf name qual pa body sc dV kV doc pm an cdv ct) ps sp := by
  constructor
  · exact le
  intro A st s H ar us vs Q E p room hot pin0 env0 binds vals want
  have kept : ∀ b o, base.get? b = some o → s.heap.get? b = some o := fun b o z => (env0.bs b o z).1
  have inK : Kf.In s.heap := env0.mod.kin.keeps kept
  have free : s.heap.NoLimit := env0.mod.nolimit.keeps kept
  have names : ∀ y ∈ ps.zip us, sc.names.lookup y.1 = some .local ∨ (sc.names.lookup y.1 = some .cell ∧ ((cellsFrom (s.heap.objs.size + 1) sc.names []).lookup y.1).isSome = true) := by
    rintro ⟨n, v⟩ hy
    have hn := (List.of_mem_zip hy).1
    cases S.par n hn with
    | inl z => exact Or.inl z
    | inr z => exact Or.inr ⟨z, PySem.W.cellsFrom_some _ _ _ (Or.inl z)⟩
  apply codeAny_call_function room.depth (inK _ _ lk) rfl S.co S.gen rfl (PySem.W.codeRec_of inK hcd)
  apply binds
  apply wpAny_newFunctionEnv_cells S.kind names
  rintro env rfl s1 x
  refine ⟨free.keeps x.toInCall.keep, codeAny_func ?_⟩
  obtain ⟨t, pt, ht⟩ := hb A st s H vs Q E p hot (room.deeper _) want
  have inv := L2H.inv_startH (CX := CX) (E := E) S pin0 env0 (le p _ _ _ _ want) vals x
  refine wpAny_mono (pt.run [] s1 (start N vs) H _ inv ht) ?_ (fun _ _ z => z)
  intro fl s' out
  cases fl with
  | next =>
    rcases out with ⟨σ', H', J, q⟩
    exact ⟨V.non, H', J.os, J.bare, J.base, J.hok, rfl, q⟩
  | ret u =>
    rcases out with ⟨v, σ', H', J, rv, q⟩
    exact ⟨v, H', J.os, J.bare, J.base, J.hok, rv, q⟩
  | brk =>
    rcases out with ⟨_, _, _, z⟩
    cases z
  | cont =>
    rcases out with ⟨_, _, _, z⟩
    cases z
theorem run_sim {K : KC} {N ps : List Str} {vs : List V} {H : Hp} {Q : VK} {E : XK} {g : GS} {t : L2.TS} (hps : ps.length = md.length) (hN : ps.length ≤ N.length) (sim : SS K md (fun cls d _ H => E cls d H) t g) (h : spOf K md (runF md N.length g) vs H Q E) : t { nx := fun _ H' => Q .non H', rt := Q } (start N vs) H := by
  obtain ⟨ts, Z, F, o, r, hm, zo, zs, hG, hp⟩ := h
  have h1 := RepL.len _ r
  have h2 := mdOk_len hm
  have E0 := start_ok (K := K) (N := N) (md := md) r (by omega) h2 zo zs
  simp only [runF] at hG
  cases hg : g ⟨ts.map Ent.tr ++ List.replicate (N.length - ts.length) .no, []⟩ with
  | none => simp [hg] at hG
  | some oo =>
    refine sim ⟨H, F, Z.fz, md, vs⟩ (start N vs) H ⟨ts.map Ent.tr ++ List.replicate (N.length - ts.length) Ent.no, []⟩ [] _ oo rfl E0 hg ?_
    cases oo with
    | nx m =>
      simp only [hg] at hG
      split at hG
      · rename_i he
        cases hG
        intro σ' H' E1
        have hnil : m.s = [] := by have := tail_len E1; simpa using this
        rw [hnil] at E1
        obtain ⟨S', F1, r1, cl⟩ := exit_ok (RepL.isS _ r) (by omega) (E1.atom .non) (by simp [escL, esc, Ent.tree]) he
        exact hp .non H' S' F1 r1 cl
      · cases hG
    | rt tt m =>
      simp only [hg] at hG
      split at hG
      · rename_i he
        cases hG
        intro σ' v H' E1
        have hnil : m.s = [] := by have := tail_len E1; simpa using this
        rw [hnil] at E1
        obtain ⟨S', F1, r1, cl⟩ := exit_ok (RepL.isS _ r) (by omega) E1 (by simp [escL, Ent.tree, he.1]) he.2
        exact hp v H' S' F1 r1 cl
      · cases hG
    | ex C g' =>
      simp only [hg] at hG
      split at hG
      · rename_i he
        cases hG
        intro σ' H' E1
        obtain ⟨S', F1, r1, cl⟩ := exitX_ok (RepL.isS _ r) (by omega) E1 he
        exact hp H' S' F1 r1 cl
      · cases hG
    | bk m => simp [hg] at hG
    | ct m => simp [hg] at hG
def spE (K : KC) (D : Addr) (md : List Bool) (G : Addr → GF) : Addr × Obj → Sp := fun p vs H Q E => L2N.Zn (.ref D) none p.2 ∧ (∃ vs, p.2.data = .fields vs) ∧ spOf K md (G p.1) vs H Q E
theorem fnE_sim {x qual : Str} {stm : Stmt} {fd : FuncData} {N ps : List Str} {g : Addr → GS} {D : Addr} (F : Fun Kf x qual stm f fd) (S : FnScope N ps (defScope stm)) (hps : ps.length = md.length) (hN : ps.length ≤ N.length)
    (body : ∀ (cdv : Value) (A : Around) (st : List Env) (s : Shared) (H : Hp) (E : XK) (p : Addr × Obj), L2H.Hot1 A p → L2N.Zn (.ref D) none p.2 → (∃ vs, p.2.data = .fields vs) → RmH k (A.deeper (PyProof.Rows.envOfC qual (defScope stm) s.heap.objs.size f cdv)) →
      MSs (L2H.cxH (L2N.CX P w) P w Kf mg base N qual (defScope stm) f cdv A st s H E p) T md (fun cls d _ H => E cls d H) (defBody stm) (g p.1)) :
    FnE P w Kf mg base (L2N.CX P w) (k + 1) f fd ps (spE (kcm Kf T) D md fun a => runF md N.length (g a)) := by
  have F0 := F
  obtain ⟨oc, od, kV, doc, pm, an, cdv, ct, osl, rfl, inK, cdOk⟩ := F.ex
  refine fnE_of inK cdOk S (fun p vs H Q E h => ?_) (fun A st s H vs Q E p hot room h => ?_)
  · obtain ⟨_, _, ts, Z, Fz, o, r, hm, _⟩ := h
    have h1 := RepL.len _ r
    have h2 := mdOk_len hm
    omega
  · obtain ⟨hz, hf, h⟩ := h
    obtain ⟨t, pt, sim⟩ := body cdv A st s H E p hot hz hf room
    refine ⟨t, pt, ?_⟩
    exact run_sim hps hN sim h
end
/-! the call of a def that is handed the error -/
section
open PySem.Spec PyProof.Rows HotX
variable {X : Cx} {T : KT} {md mdc : List Bool} {W : WX} {is : List Nat} {p : Addr × Obj} {kk : Nat} {f D : Addr} {fd : FuncData} {ps : List Str} {G : Addr → GF} {x : Str} {pp pos : Pos} {e : Expr} {es : List Expr} {ga : GE}
theorem pe_callE {CX : CXT} {sp : Addr × Obj → Sp} {sp' : Sp} {E : L2.St → XK} {t : TA} (F : FnE X.prog X.w X.K X.mg X.base CX kk f fd ps sp) (hr : RmH kk X.A) (hot : L2H.Hot1 X.A p) (hin : p ∈ X.pn) (hg : Gl X x) (hm : X.mg x = some (.ref f)) (kept : PySem.W.keepIn X.K (.ref f) = true) (hb : Binds X.K fd ps []) (hx : ∀ σ, PassesAt CX X σ (E σ))
    (hsp : ∀ vs H Q E', sp' vs H Q E' → sp p vs H Q E') (ha : PA X (e :: es) t) (notDb : (x == ("__debug__" : Str)) = false := by decide) (he : starEach (e :: es) X.env = (false, eval e X.env) :: starEach es X.env := by rfl) (plain : (backTo pos (starEach es X.env)).any (·.1) = false := by rfl) :
    PE X (.Call (.Name x pp) (e :: es) [] pos) (tCallS sp' E t) := by
  constructor
  intro pins s σ H Q I h
  apply wpAny_Call_Name_kw
  apply ld_glob I hg hm _ notDb
  refine PySem.W.callWith_K (h₀ := X.base) I.ok.mod.kin kept (thn (ha.run pos pins s σ H _ I h) ?_) he plain
  rintro us s1 ⟨vs, H1, I1, r, q⟩
  refine ⟨I1.kIn, ?_⟩
  have two := I1.pin p (List.mem_append_left _ hin)
  have there : L2H.PinOk X.stack H1 s1 p := by
    refine ⟨two.1, two.2.1, fun z => ?_, two.2.2.2.2⟩
    rcases List.mem_cons.mp (I1.stkSub p.1 z) with z | z
    · exact two.2.2.1 z
    · exact two.2.2.2.1 z
  have b := hb s1 us I1.kIn (by rw [List.append_nil, ← r.length]; exact F.le p _ _ _ _ (hsp _ _ _ _ q))
  rw [List.append_nil] at b
  refine wpAny_call (codeAny_mono (F.go X.A X.stack s1 H1 ⟨us, []⟩ us vs Q (E σ) p hr hot there I1.env0 b r (hsp _ _ _ _ q)) ?_)
  rintro (err | fl) s' hq
  · exact hx σ pins H1 s1 err s' I1 hq
  · cases fl with
    | ret u => exact I1.after hq
    | next => cases hq
    | brk => cases hq
    | cont => cases hq
theorem me_callE (F : FnE X.prog X.w X.K X.mg X.base (L2N.CX X.prog X.w) kk f fd ps (spE (kcm X.K T) D mdc G)) (hz : L2N.Zn (.ref D) none p.2) (hf : ∃ vs, p.2.data = .fields vs) (hr : RmH kk X.A) (hot : L2H.Hot1 X.A p) (hin : p ∈ X.pn) (tk : Takes X W) (hg : Gl X x) (hm : X.mg x = some (.ref f)) (kept : PySem.W.keepIn X.K (.ref f) = true) (hb : Binds X.K fd ps [])
    (ha : MA X T md W (e :: es) ga) (hi : ∀ i ∈ is, i < (e :: es).length) (hpw : is.reverse.Pairwise (· > ·)) (notDb : (x == ("__debug__" : Str)) = false := by decide)
    (he : starEach (e :: es) X.env = (false, eval e X.env) :: starEach es X.env := by rfl) (plain : (backTo pos (starEach es X.env)).any (·.1) = false := by rfl) : ME X T md W (.Call (.Name x pp) (e :: es) [] pos) (gSeq ga (gCall is mdc (G p.1) (e :: es).length)) := by
  obtain ⟨t, pa, sa⟩ := ha
  exact ⟨_, pe_callE (sp' := spOf (kcm X.K T) mdc (G p.1)) (E := WE W) F hr hot hin hg hm kept hb (fun σ => passAt tk σ) (fun vs H Q E' h => ⟨hz, hf, h⟩) pa notDb he plain, seqA sa (gCall_ok hi hpw)⟩
theorem hot_here {a : Addr} {oe : Obj} {cls : Value} {d : Option Addr} (hz : L2N.Zn cls d oe) (hf : ∃ vs, oe.data = .fields vs) {pn : List (Addr × Obj)} : L2H.Hot1 (X.suite a ((a, oe) :: pn)).A (a, oe) := by
  obtain ⟨vs, e⟩ := hf
  exact ⟨rfl, vs, e, hz.2.2 vs e⟩
end
/-! list(d): the keys of a dict -/
section
variable {K : KC} {X : Cx} {T : KT} {md : List Bool} {W : WX}
end
/-! x is True, x is False, of anything -/
section
open PySem.Spec PyProof.Rows
variable {K : KC} {X : Cx} {T : KT} {md : List Bool} {W : WX}
theorem same_bl {M : Model} {A : Around} {E : Value → Shared → Prop} {s : Shared} {x : V} {u : Value} {b : Bool} {R : Bool → Shared → Prop} (r : RelV x u) (q : R (decide (x = .bl b)) s) : wpAny M A (isSame u (.bool b)) R E s := by
  have far : ∀ {u : Value}, plainIs u (.bool b) = true → (u == Value.bool b) = false → x ≠ .bl b → wpAny M A (isSame u (.bool b)) R E s := fun h1 h2 h3 => wpAny_isSame_plain h1 (by rw [h2]; rwa [decide_eq_false h3] at q)
  cases x with
  | bl c =>
    cases r
    by_cases e : c = b
    · subst e
      rw [decide_eq_true rfl] at q
      exact wpAny_isSame_plain rfl (by rw [show (Value.bool c == Value.bool c) = true from by cases c <;> rfl]; exact q)
    · have h3 : (V.bl c) ≠ .bl b := fun z => e (by cases z; rfl)
      exact far rfl (by cases c <;> cases b <;> first | rfl | exact absurd rfl e) h3
  | ref a => cases r; exact far rfl rfl (fun z => by cases z)
  | non => cases r; exact far rfl rfl (fun z => by cases z)
  | int i => obtain ⟨t, rfl⟩ := r; exact far rfl rfl (fun z => by cases z)
  | str i => obtain ⟨t, rfl⟩ := r; exact far rfl rfl (fun z => by cases z)
  | byt i => obtain ⟨t, rfl⟩ := r; exact far rfl rfl (fun z => by cases z)
  | flt i => obtain ⟨t, rfl⟩ := r; exact far rfl rfl (fun z => by cases z)
  | ty i => cases r; exact far rfl rfl (fun z => by cases z)
theorem op_isBV : OpR X (compareOp .Is) (fun x y H Q => ∃ b, y = .bl b ∧ Q (.bl (decide (x = .bl b))) H) := by
  rintro pins s σ H x y v u Q I rx ry ⟨b, rfl, q⟩
  cases ry
  show wpAny _ _ ((isSame v (Value.bool b)) >>= fun z => pure (Value.bool z)) _ _ s
  exact wpAny_bind (same_bl rx (wpAny_pure ⟨.bl (decide (x = .bl b)), H, I, rfl, q⟩))
def FIsBV (neg : Bool) : Tr → Tr → Option V
  | .a u, .a (.bl b) => some (.bl (if neg then !decide (u = .bl b) else decide (u = .bl b)))
  | .nd _ _ _, .a (.bl b) => some (.bl neg)
  | _, _ => none
def fIsBV : GE := fP2 (FIsBV false)
def fNotBV : GE := fP2 (FIsBV true)
theorem FIsBV_ok {neg : Bool} {Z : Zn} {H : Hp} {tx ty : Tr} {x y u : V} {Φ Ψ : Ps} (r1 : Rep K Z H .own tx x Φ) (r2 : Rep K Z H .own ty y Ψ) (e : FIsBV neg tx ty = some u) : ∃ b, y = .bl b ∧ u = .bl (if neg then !decide (x = .bl b) else decide (x = .bl b)) := by
  unfold FIsBV at e
  split at e
  · cases e
    obtain ⟨rfl, _⟩ := r1
    exact ⟨_, r2.1, rfl⟩
  · cases e
    obtain ⟨ad, vs, Ξ, rfl, _⟩ := r1
    refine ⟨_, r2.1, ?_⟩
    cases neg <;> rfl
  · cases e
theorem fIsBV_ok : RA2 K md W (fun x y H Q => ∃ b, y = .bl b ∧ Q (.bl (decide (x = .bl b))) H) fIsBV := fP2_ok fun Z H x y tx ty u Φ Ψ Q r1 r2 e q => by
  obtain ⟨b, h1, rfl⟩ := FIsBV_ok r1 r2 e
  exact ⟨b, h1, q⟩
end
/-! a walk over a list where an error is handled -/
section
open PySem.Spec PyProof.Rows HotX
section
variable {prog : Program} {w : World} {A : Around} {E : Value → Shared → Prop} {s : Shared}
theorem list_done_hot {it l x1 : Addr} {i : Nat} {ys : Array Value} {Q : Option Value → Shared → Prop} (hot : HotAt A x1 s.heap) (hi : s.heap.IsListIter it l i) (hl : s.heap.IsList l ys) (hn : ys[i]? = none) (h0 : x1 ≠ it)
    (k : ∀ h', (∀ b o, b ≠ it → s.heap.get? b = some o → h'.get? b = some o) → Q none { s with heap := h' }) : wpAny (model prog w) A (pyNext (.ref it)) Q E s := by
  obtain ⟨oi, gi, ci, di⟩ := id hi
  obtain ⟨oL, gL, _, tL, dL⟩ := hl
  obtain ⟨hh, o1, vs1, g1, d1, c1⟩ := hot
  unfold pyNext
  apply wpAny_bind
  apply wpAny_attempt
  apply wpAny_callSpecial?_slot (name := Str.ofString "__next__") hi.typeIs slot_listiter_next
  apply wpAny_call_entry slot_listiter_next hi.typeIs entry_listiter_next _ (args_listiter_next _)
  show wpAny _ _ (do let x ← field (.ref it) 0; _) _ _ s
  apply wpAny_bind
  apply wpAny_field gi di (x := .ref l) rfl
  show wpAny _ _ (if (Value.ref l == Value.none) = true then _ else _) _ _ s
  rw [if_neg (by show ¬ (false = true); exact Bool.false_ne_true)]
  show wpAny _ _ (do let x ← field (.ref it) 1; _) _ _ s
  apply wpAny_bind
  apply wpAny_field gi di (x := .int i 0) rfl
  show wpAny _ _ (do let x ← seqItems? (.ref l); _) _ _ s
  apply wpAny_bind
  apply wpAny_seqItems gL dL
  simp only [Int.toNat_natCast, hn]
  apply wpAny_bind
  apply wpAny_rule
  apply wpAny_bind
  apply wpAny_setField gi di (by simp)
  show wpAny _ _ (do let e ← newExc (.type "StopIteration") []; _) _ _ _
  apply wpAny_bind
  simp only [newExc, newTuple]
  apply wpAny_bind
  refine wpAny_newObj_type ?_ (by size_fits)
  refine wpAny_bind (m := firstArgMember _ _) (wpAny_of_eq (a := .none) (by first | rfl | (simp only [firstArgMember]; rfl)) ?_)
  refine wpAny_newObj_type ?_ (by size_fits)
  have keep : ∀ {b o}, b ≠ it → s.heap.get? b = some o → (s.heap.update it (Obj.mapFields (·.setIfInBounds 0 Value.none))).get? b = some o := fun hb e => (Heap.get?_update_other _ _ (Ne.symm hb)).trans e
  have g2 := keep h0 g1
  have g3 := fun (o o' : Obj) => Heap.get?_push_of_some o' (Heap.get?_push_of_some o g2)
  refine raiseNew_hot (A := A.in1) (x1 := x1) ⟨hh, o1, vs1, g3 _ _, d1, c1⟩ ?ne (Heap.get?_push_size _ rfl) rfl (by first | (simp; done) | (simp; omega) | (simp only [Array.size_append]; simp; omega)) ?go
  case go =>
    apply wpAny_bind
    refine wpAny_isInstance (T := "StopIteration") (b := true) ?ty isSubtype_stop ?_
    case ty => exact ⟨_, Heap.get?_update_self _ (Heap.get?_push_size _ rfl) rfl, rfl⟩
    apply wpAny_pure
    refine k _ fun b o hb e => ?_
    rw [Heap.get?_update_other _ _ (Nat.ne_of_gt (Heap.lt_size (Heap.get?_push_of_some _ (keep hb e))))]
    exact Heap.get?_push_of_some _ (Heap.get?_push_of_some _ (keep hb e))
  case ne => exact Nat.ne_of_lt (Heap.lt_size (Heap.get?_push_of_some _ g2))
end
theorem turnH_list {P : Program} {w : World} {K : PySem.W.Frag} {tg : Expr} (a it : Addr) : L2H.TurnH P w K tg (Itl K a) [it] it (fun i h => h.IsListIter it a i) := by
  constructor
  case mem => exact List.mem_singleton.mpr rfl
  case obj =>
    rintro i h ⟨o, e, c, d⟩ b hb
    cases List.mem_singleton.mp hb
    exact ⟨o, e, fun v z => by rw [d] at z; cases z⟩
  case keep => exact fun i h h' st k => st.at fun o e => k it (List.mem_singleton.mpr rfl) o e
  case item =>
    rintro X rfl rfl rfl hot i pins s σ H E I hf st ⟨xs, x, hq, hx⟩
    obtain ⟨its, vals, pl, hz⟩ := I.list hq
    obtain ⟨u, hu, ru⟩ := vals.get hx
    have fp := hf it (List.mem_singleton.mpr rfl)
    refine wpAny_pyNext_list_item st pl.isList (x := u) (by simpa using hu) fun h' st' sb => ?_
    have J : Inv X pins σ H { s with heap := h' } := I.turned (t' := s.toks) (fun b o hb e => (sb.2 b hb).trans e) fp.1 fp.2.1 fp.2.2.2.1 fp.2.2.2.2.1 fp.2.2.2.2.2
    obtain ⟨o, e, c, d⟩ := id st'
    refine ⟨u, rfl, go_of (s := { s with heap := h' }) e c d (by decide) ?_⟩
    exact ⟨x, H, J, ru, ⟨rfl, fun ys hy => by rw [I.list_inj hy hq]; exact hx⟩, st', fun b hb => (hf b hb).1⟩
  case done =>
    rintro X rfl rfl rfl hot i pins s σ H E I hf st ⟨xs, hq, hx⟩
    obtain ⟨its, vals, pl, hz⟩ := I.list hq
    have fp := hf it (List.mem_singleton.mpr rfl)
    have hl := vals.length
    obtain ⟨p, ⟨hh, v1, e1, c1⟩, hp⟩ := hot
    have there := (I.pin p (List.mem_append_left _ hp)).1
    refine list_done_hot (x1 := p.1) ⟨hh, p.2, v1, there, e1, c1⟩ st pl.isList (by simp; omega) (fp.2.2.2.2.2 p (List.mem_append_left _ hp)) fun h' k => ⟨rfl, ?_⟩
    exact I.turned (t' := s.toks) (fun b o hb e => k b o hb e) fp.1 fp.2.1 fp.2.2.2.1 fp.2.2.2.2.1 fp.2.2.2.2.2
  case self => exact fun A i s Q E st h => wpAny_pyIter_listiter st h
theorem piH_list {X : Cx} {tg l : Expr} {tl : TE} (hl : PE X l tl) : L2H.PIH X tg l (iList X.K tl) := by
  constructor
  intro pins s σ H R I h
  refine thn (hl.run pins s σ H _ I h) ?_
  rintro v s1 ⟨x, H1, I1, r1, a, rfl, ⟨xs, hq⟩, q⟩
  cases r1
  obtain ⟨its, vals, pl, hz⟩ := I1.list hq
  apply wpAny_pyIter_list pl.isList
  have fresh : ∀ b ∈ [s1.heap.objs.size], FpOk X pins H1 b := fun b hb => by
    cases List.mem_singleton.mp hb
    exact I1.fpOk (Nat.le_refl _) (I1.hok.fresh (Nat.le_refl _))
  exact ⟨s1.heap.objs.size, _, _, _, H1, rfl, I1.kept (t' := s1.toks) fun b o e => Heap.get?_push_of_some _ e, turnH_list a _, ⟨_, Heap.get?_push_size _ rfl, rfl, rfl⟩, fresh, q⟩
end
section
variable {X : Cx} {T : KT} {md : List Bool} {W : WX} {gs : GE} {bd : Ms → Option Ms} {gb : GS} {iter tg : Expr} {body : List Stmt} {pos : Pos}
/-- a walk over a list alone -/
def sForL (gs : GE) (bd : Ms → Option Ms) (body : GS) : GS := fun m => match gs m with
  | some (.ok m1) => match ready m1 with
    | some (m2, .lst, n) => loopE .lst bd body n 0 m2
    | _ => none
  | some (.ex C g) => some (.ex C g)
  | none => none
theorem ms_forQ (hs : ME X T md W iter gs) (hT : MG X T md tg bd) (hB : MSs X T md W body gb) (hp : PassesOwn (model X.prog X.w) X.A X.env X.xe) (hc : L2H.HotC X)
    (hf : ∀ x, foldedSetIterable iter X.env x = pure x := by intro _; rfl) : MS X T md W (.For tg iter body [] pos) (sForL gs bd gb) := by
  obtain ⟨ti, pi, si⟩ := hs
  obtain ⟨tt, pt, st⟩ := hT
  obtain ⟨tb, pb, sb⟩ := hB
  refine ⟨_, L2H.ps_forH hp hc (piH_list pi) pt pb hf, fun c σ H m us D oo hm E hg hpo => ?_⟩
  simp only [sForL] at hg
  split at hg
  · rename_i m1 h1
    split at hg
    · rename_i m2 n h2
      refine si c σ H m us _ _ hm E h1 fun x H1 E1 => ?_
      obtain ⟨E2, e, s, o, ts, hs2, hv, _⟩ := ready_ok E1 h2
      obtain ⟨a, vs, rfl, ho, _⟩ := viewObj (hs2 ▸ E2) hv
      refine ⟨a, rfl, ⟨vs, objL ho⟩, ?_⟩
      refine loop_ok hm st sb (fun i H Γ τ σ us e ts o E hv hl => ?_) (fun i H Γ τ σ us e ts o e' E hcp hv hk hi => ?_) hpo E2 hg
      · obtain ⟨a', vs', e, ho, hl2⟩ := viewObj E hv
        cases e
        exact ⟨vs', objL ho, by omega⟩
      · obtain ⟨a', vs', w', e, ho, hl2, hw, E3⟩ := EnvOk.kidX E (cpE_tr hcp) hv hk
        cases e
        refine ⟨⟨vs', w', objL ho, hw⟩, fun x H' y => ?_⟩
        obtain ⟨rfl, y⟩ := y
        have := y vs' (objL ho)
        rw [hw] at this
        cases this
        exact ⟨rfl, E3⟩
    · cases hg
  · rename_i C g h1
    cases hg
    exact si c σ H m us _ _ hm E h1 fun H1 E1 => hpo σ H1 E1
  · cases hg
end
section
open PySem.Spec
variable {X : Cx} {T : KT} {md : List Bool} {W : WX} {ga : GE} {bd : Ms → Option Ms} {gb : GS} {tg : Expr} {body : List Stmt} {pos pos' rp : Pos}
/-- range(i, j, c) with any step -/
def sForR3 (ga : GE) (bd : Ms → Option Ms) (body : GS) : GS := fun m => match ga m with
  | some (.ok ⟨g', .tr (.a (.int c)) :: .tr (.a (.int j)) :: .tr (.a (.int i)) :: s⟩) => if c ≠ 0 ∧ c.natAbs < 1073741824 ∧ Builtin.Range.small i j c = true ∧ Builtin.Range.rangeSize i j c = ((Builtin.Range.rangeSize i j c).toNat : Int) then loopC bd body i c (Builtin.Range.rangeSize i j c).toNat 0 ⟨g', s⟩ else none
  | some (.ex C g) => some (.ex C g)
  | _ => none
theorem ms_forR3 {a b d : Expr} (ha : MA X T md W [a, b, d] ga) (hT : MG X T md tg bd) (hB : MSs X T md W body gb) (hgl : Gl X "range") (hmg : X.mg "range" = none) (hp : PassesOwn (model X.prog X.w) X.A X.env X.xe) (hc : X.calm = true)
    (hs : starEach [a, b, d] X.env = (false, eval a X.env) :: starEach [b, d] X.env := by rfl) (plain2 : (backTo pos' (starEach [b, d] X.env)).any (·.1) = false := by rfl)
    (hf : ∀ x, foldedSetIterable (.Call (.Name "range" rp) [a, b, d] [] pos') X.env x = pure x := by intro _; rfl) : MS X T md W (.For tg (.Call (.Name "range" rp) [a, b, d] [] pos') body [] pos) (sForR3 ga bd gb) := by
  obtain ⟨ta, pa, sa⟩ := ha
  obtain ⟨tt, pt, st⟩ := hT
  obtain ⟨tb, pb, sb⟩ := hB
  refine ⟨_, ps_for hp hc (pi_range3 hgl hmg pa hs plain2) pt pb hf, fun c σ H m us D oo hm E hg hpo => ?_⟩
  simp only [sForR3] at hg
  split at hg
  · rename_i g' sp j i s h1
    split at hg
    · rename_i hb
      refine sa c σ H m us _ _ hm E h1 fun vs H1 hl E1 => ?_
      match vs, hl with
      | [x, y, z], _ =>
        have E1 : EnvOk (kcm X.K T) c σ H1 g' (.tr (.a (.int sp)) :: .tr (.a (.int j)) :: .tr (.a (.int i)) :: s) (z :: y :: x :: us) := E1
        cases top_a E1
        cases top_a E1.drop
        cases top_a E1.drop.drop
        exact ⟨i, j, sp, _, rfl, hb, loopC_ok hm st sb hpo (m := ⟨g', s⟩) E1.drop.drop.drop hg⟩
    · cases hg
  · rename_i h1
    cases hg
    exact sa c σ H m us _ _ hm E h1 fun H1 E1 => hpo σ H1 E1
  · cases hg
end
/-! enumerate of a tuple -/
section
open PySem.Spec PyProof.Rows
open PySem.Sem (wp)
section
variable {prog : Program} {w : World} {A : Around} {E : Value → Shared → Prop} {s : Shared}
end
end
section
variable {K : KC} {X : Cx} {T : KT} {md : List Bool} {W : WX} {c : Cz} {σ : St} {H : Hp} {us : List V} {w : V} {i : Nat} {ga : GE} {bd : Ms → Option Ms} {gb : GS} {e : Expr} {body : List Stmt} {pos pos' rp : Pos}
end
/-! a look at things that are all lent for its time; a def that returns a new list of what it was lent -/
section
variable {K : KC} {X : Cx} {T : KT} {md : List Bool} {W : WX} {c : Cz} {σ : St} {H H' : Hp} {Γ τ : List Ent} {us ws : List V} {Z : Zn} {Φ Ψ : Ps} {t : TE} {g : GE}
end
section
variable {K : KC} {X : Cx} {T : KT} {md : List Bool} {W : WX} {ga : GE} {f : Addr} {fd : FuncData} {ps : List Str} {kk : Nat} {x : Str} {pp pos : Pos} {e : Expr}
end
section
variable {K : KC} {X : Cx} {T : KT} {md : List Bool} {W : WX} {ge : GE} {e : Expr}
end
section
variable {K : KC} {X : Cx} {T : KT} {md : List Bool} {W : WX} {i j d : Nat} {e : Expr} {es : List Expr} {ga g : GE} {pos pos' lp : Pos}
end
/-! a call of a def that keeps addresses, where aliases at the place itself and aliases at the bottom of the stack live on, too -/
section
variable {K : KC} {X : Cx} {T : KT} {md mdc : List Bool} {W : WX} {c : Cz} {σ : St} {H H' : Hp} {Γ τ : List Ent} {us vs ws wq : List V} {v w wp : V} {p q r : List Nat} {t : Tr} {ts : List Tr} {i j n k : Nat} {Z : Zn} {Φ Ψ : Ps} {qs : List (List Nat)} {G : GG}
end
section
variable {K : KC} {X : Cx} {T : KT} {md mdc : List Bool} {W : WX} {G : GG} {x : Str} {pp pos : Pos} {e : Expr} {es : List Expr} {ga : GE} {kk : Nat} {f : Addr} {fd : FuncData} {ps : List Str}
end
/-! xs.remove(x), deep -/
section
variable {X : Cx}
end
section
variable {K : KC} {X : Cx} {T : KT} {md : List Bool} {W : WX} {c : Cz} {σ : St} {H : Hp} {Γ s : List Ent} {L : List Tr} {ts : List Tr} {t x : Tr} {j : Nat} {p : List Nat}
end
/-! xs.count(k) -/
section
variable {K : KC} {X : Cx} {T : KT} {md : List Bool} {W : WX}
end
/-! a value of which nothing is known any more -/
section
variable {K : KC} {X : Cx} {T : KT} {md : List Bool} {W : WX} {e : Expr} {g : GE}
def fHid : GE := fun m => match m.s with
  | _ :: s => some (.ok ⟨m.g, .tr .any :: s⟩)
  | _ => none
end
section
variable {K : KC} {X : Cx} {T : KT} {md mdc : List Bool} {W : WX} {c : Cz} {σ : St} {H H' : Hp} {Γ τ : List Ent} {us vs ws wq : List V} {v w wp w0 : V} {p q r q0 : List Nat} {t : Tr} {ts : List Tr} {i j n r0 : Nat} {Z : Zn} {qs : List (List Nat)} {Φ Ψ : Ps} {m m' : Ms} {G : GG}
variable {P : Program} {Wd : World} {Kf : PySem.W.Frag} {mg : Str → Option Value} {base : Heap}

variable {x : Str} {pp pos : Pos} {e : Expr} {es : List Expr} {ga : GE} {kk : Nat} {f : Addr} {fd : FuncData} {ps : List Str}
end
/-! dicts whose keys are tuples of ints and texts (new ones or ones of the written part): in, read, store, a display of one pair -/
section
variable {X : Cx} {pins : List (Addr × Obj)} {σ : St} {H : Hp} {s : Shared} {a b : Addr} {k : NestedKey} {v : V} {r : Value} {l : List (NestedKey × Addr × V)} {A : Around} {E : Value → Shared → Prop}
end
section
variable {K : KC} {X : Cx} {T : KT} {md : List Bool} {W : WX} {c : Cz} {σ : St} {H H' : Hp} {Γ τ : List Ent} {us vs : List V} {v w : V} {p q : List Nat} {t : Tr} {ts ts' : List Tr} {i j : Nat} {ks : List NestedKey} {k : NestedKey}
variable {g : GS} {gi go gv ga gb : GE} {e a b o ie : Expr} {pos pos' : Pos}
/-! on trees -/
mutual
def keyN : Tr → Option NestedKey
  | .a v => match v with
    | .int i => some (.num i)
    | .str x => some (.text x)
    | .non => some .none
    | _ => none
  | .nd .tup _ ts => match keysA ts with
    | some ks => some (.tup ks)
    | none => none
  | _ => none
def keysA : List Tr → Option (List NestedKey)
  | [] => some []
  | t :: ts => match keyN t, keysA ts with
    | some k, some ks => some (k :: ks)
    | _, _ => none
end
def keyT (t : Tr) : Option NestedKey := match keyN t with
  | some (.tup ks) => if (NestedKey.tup ks).depth ≤ 8 then some (.tup ks) else none
  | _ => none
def kixT (k : NestedKey) : List NestedKey → Option Nat
  | [] => none
  | x :: ks => if x = k then some 0 else (kixT k ks).map (· + 1)
def FInT (neg : Bool) : Tr → Tr → Option V
  | tx, .nd (.dcT ks) _ _ => match keyT tx with
    | some k => some (.bl (if neg then !(kixT k ks).isSome else (kixT k ks).isSome))
    | none => none
  | _, _ => none
def fInB : GE := gOr fInA (fP2 (FInT false))
def fNotInB : GE := gOr fNotInA (fP2 (FInT true))
end
/-! dicts with tuple keys: stores, displays of one pair -/
section
variable {K : KC} {X : Cx} {T : KT} {md : List Bool} {W : WX} {c : Cz} {σ : St} {H H' : Hp} {Γ τ : List Ent} {us vs : List V} {v w : V} {p q : List Nat} {t : Tr} {ts ts' : List Tr} {i j : Nat} {ks : List NestedKey} {k : NestedKey}
variable {g : GS} {gi go gv ga gb : GE} {e a b o ie : Expr} {pos pos' : Pos}
def stSubT : Ms → Option Ms := fun m => match m.s with
  | .tr y :: .al p :: .tr t :: s => match getG m.g p, keyT y with
    | some (.nd (.dcT ks) .own ts), some k => if esc t = true ∧ ks.length < 100000 then match kixT k ks with
        | some j => some ⟨(setG m.g p (.nd (.dcT ks) .own (ts.set j t))).map (killJ (p ++ [j])), s.map (killJ (p ++ [j]))⟩
        | none => some ⟨kill p (setG m.g p (.nd (.dcT (ks ++ [k])) .own (ts ++ [t]))), kill p s⟩
      else none
    | _, _ => none
  | _ => none
def stSubB : Ms → Option Ms := fun m => match stSubA m with
  | none => stSubT m
  | r => r
def sSubB (gv go gi : GE) : GS := fun m => match gSeq (gSeq gv go) gi m with
  | some (.ok m') => match stSubB m' with
    | some m2 => some (.nx m2)
    | none => none
  | some (.ex C g) => some (.ex C g)
  | none => none
end
/-! {k: v}, k a tuple -/
section
variable {K : KC} {X : Cx} {T : KT} {md : List Bool} {W : WX} {tk tv : TE} {gk gv : GE} {ke ve : Expr} {dpos : Pos}
end
section
variable {X : Cx} {T : KT} {md : List Bool} {W : WX} {gk gv : GE} {ke ve : Expr} {dpos : Pos}
def gK0 : GE := fun m => some (.ok ⟨m.g, .tr (.nd (.dcT []) .own []) :: m.s⟩)
def fPut1 : GE := fun m => match m.s with
  | .tr t :: .tr y :: .tr (.nd (.dcT []) .own []) :: s => match keyT y with
    | some k => if esc t = true then some (.ok ⟨m.g, .tr (.nd (.dcT [k]) .own [t]) :: s⟩) else none
    | none => none
  | _ => none
end
/-! written dicts of defs by texts; a property; xs[::-1] -/
section
variable {K : KC} {X : Cx} {T : KT} {md mdc : List Bool} {W : WX} {c : Cz} {σ : St} {H H' : Hp} {Γ τ : List Ent} {us vs : List V} {v w : V} {i j n kk : Nat} {m m' : Ms} {ga ge : GE} {a b e oe : Expr} {es : List Expr} {pos p1 p2 p3 p4 p5 p6 p7 p8 : Pos} {x dn z : Str} {G : GF} {d f : Addr}
/-- a def by its promise on trees -/
def DefAt (X : Cx) (T : KT) (kk : Nat) (f : Addr) (mdc : List Bool) (G : GF) : Prop :=
  PySem.W.keepIn X.K (.ref f) = true ∧ ∃ fd ps, FnOk X.prog X.w X.K X.mg X.base (L2N.CX X.prog X.w) kk f fd ps (spOf (kcm X.K T) mdc G) ∧ Binds X.K fd ps []
/-- what stands in a written dict: texts and defs -/
inductive DTab (X : Cx) (T : KT) (kk : Nat) : List DictEntry → List (Str × List Bool × GF) → Prop
  | nil : DTab X T kk [] []
  | cons {h : Int} {z : Str} {t : Tok} {f : Addr} {mdc : List Bool} {G : GF} {es : List DictEntry} {l : List (Str × List Bool × GF)} (D : DefAt X T kk f mdc G) (r : DTab X T kk es l) : DTab X T kk (⟨h, .str z t, .ref f⟩ :: es) ((z, mdc, G) :: l)
theorem DTab.find {es : List DictEntry} {l : List (Str × List Bool × GF)} (h : DTab X T kk es l) (z : Str) : (∀ en ∈ es, en.refKey = false) ∧ match l.lookup z with
    | some (mdc, G) => ∃ en f, es.find? (·.key.isStr z) = some en ∧ en.val = .ref f ∧ DefAt X T kk f mdc G
    | none => es.find? (·.key.isStr z) = none := by
  induction h with
  | nil => exact ⟨by simp, rfl⟩
  | @cons h z' t f mdc G es l D r ih =>
    obtain ⟨ih1, ih2⟩ := ih
    refine ⟨fun en hen => ?_, ?_⟩
    · rcases List.mem_cons.mp hen with q | q
      · subst q; rfl
      · exact ih1 en q
    · rw [List.lookup_cons, List.find?_cons]
      by_cases q : z = z'
      · subst q
        have e1 : (z == z) = true := beq_self_eq_true z
        rw [e1]
        have e2 : (⟨h, .str z t, .ref f⟩ : DictEntry).key.isStr z = true := beq_self_eq_true z
        rw [e2]
        exact ⟨_, f, rfl, rfl, D⟩
      · rw [beq_false_of_ne q]
        have e2 : (⟨h, .str z' t, .ref f⟩ : DictEntry).key.isStr z = false := beq_false_of_ne (Ne.symm q)
        rw [e2]
        exact ih2
def fKD (neg : Bool) (keys : List Str) : GE := fun m => match m.s with
  | .tr (.a (.str z)) :: s => some (.ok ⟨m.g, .tr (.a (.bl (if neg then !decide (z ∈ keys) else decide (z ∈ keys)))) :: s⟩)
  | _ => none
end
/-! a property read; xs[::-1] of a list of plain values -/
section
variable {K : KC} {X : Cx} {T : KT} {md mdc : List Bool} {W : WX} {c : Cz} {σ : St} {H H' : Hp} {Γ τ : List Ent} {us vs : List V} {v w : V} {i j n kk : Nat} {m m' : Ms} {ga ge : GE} {a b e oe : Expr} {pos p1 p2 p3 : Pos} {f : Str} {G : GF} {g p : Addr} {fd : FuncData} {ps : List Str}
def fRevL : GE := fun m => match m.s with
  | e :: s => match viewE m.g e with
    | some (.nd .lst o ts) => match atoms ts with
      | some us => some (.ok ⟨m.g, .tr (.nd .lst .own (us.reverse.map .a)) :: s⟩)
      | none => none
    | _ => none
  | _ => none
/-! a, b, c = x, y, z -/
def sPar3 (md : List Bool) (i j l : Nat) (ga : GE) : GS := fun m => match ga m with
  | some (.ok ⟨g', ez :: ey :: ex :: s⟩) => match bindAll md [i, j, l] ⟨g', ex :: ey :: ez :: s⟩ with
    | some m2 => some (.nx m2)
    | none => none
  | some (.ex C g') => some (.ex C g')
  | _ => none
end
/-! rules for pure proofs: several names at once, dicts with tuple keys, tables of defs -/
section
variable {md : List Bool} {i j l : Nat} {ga g b h : GE} {m m' : Ms} {Γ s : List Ent} {ex ey ez : Ent} {C : Nat}
def pS2 (a : Option Rs) (md : List Bool) (i j : Nat) : Option Os := match a with
  | some (.ok ⟨g', ey :: ex :: s⟩) => nxO (bindAll md [i, j] ⟨g', ex :: ey :: s⟩)
  | some (.ex C g') => some (.ex C g')
  | _ => none
theorem sPar_e : sPar md i j ga m = pS2 (ga m) md i j := by
  unfold sPar pS2 nxO
  rcases ga m with _ | (⟨g', _ | ⟨a, _ | ⟨b, s⟩⟩⟩ | _) <;> rfl
theorem pS2_ok : pS2 (some (.ok ⟨Γ, ey :: ex :: s⟩)) md i j = nxO (bindAll md [i, j] ⟨Γ, ex :: ey :: s⟩) := rfl
def pS3 (a : Option Rs) (md : List Bool) (i j l : Nat) : Option Os := match a with
  | some (.ok ⟨g', ez :: ey :: ex :: s⟩) => nxO (bindAll md [i, j, l] ⟨g', ex :: ey :: ez :: s⟩)
  | some (.ex C g') => some (.ex C g')
  | _ => none
theorem sPar3_e : sPar3 md i j l ga m = pS3 (ga m) md i j l := by
  unfold sPar3 pS3 nxO
  rcases ga m with _ | (⟨g', _ | ⟨a, _ | ⟨b, _ | ⟨d, s⟩⟩⟩⟩ | _) <;> rfl
theorem pS3_ok : pS3 (some (.ok ⟨Γ, ez :: ey :: ex :: s⟩)) md i j l = nxO (bindAll md [i, j, l] ⟨Γ, ex :: ey :: ez :: s⟩) := rfl
theorem sSubB_e : sSubB g b h m = kS (gSeq (gSeq g b) h m) stSubB := by
  unfold sSubB kS nxO
  split <;> first | rfl | (split <;> simp_all) | simp_all
theorem gCon_e {t : Tr} : gCon t m = some (.ok ⟨m.g, .tr t :: m.s⟩) := rfl
theorem gK0_e : gK0 m = some (.ok ⟨m.g, .tr (.nd (.dcT []) .own []) :: m.s⟩) := rfl
theorem fKD_e {neg : Bool} {keys : List Str} {z : Str} : fKD neg keys ⟨Γ, .tr (.a (.str z)) :: s⟩ = some (.ok ⟨Γ, .tr (.a (.bl (if neg then !decide (z ∈ keys) else decide (z ∈ keys)))) :: s⟩) := rfl
end
/-! the walk over a list: an invariant that speaks of what has been walked -/
section
variable {α : Type} {gs : GS} {bd : Ms → Option Ms} {s : List Ent}
end
/-! own operators between two things of one class; isinstance of an own class -/
section
variable {K : KC} {X : Cx} {T : KT} {md mdc : List Bool} {W : WX} {a C dx f : Addr} {fd : FuncData} {ps : List Str} {kk n : Nat} {sp : Sp} {G : GF}
theorem chkI_at {c : Cz} {σ : St} {H : Hp} {m : Ms} {us : List V} {x : V} {m' : Rs} (E : EnvOk K c σ H m.g m.s (x :: us)) (h : chkI n m = some m') : ∃ a dx fs, x = .ref a ∧ H a = some (.ins (K.ct n) dx fs) := by
  unfold chkI at h
  split at h
  · rename_i e s hs
    rw [hs] at E
    split at h
    · rename_i n' kf o ts hv
      split at h
      · rename_i hn
        subst hn
        obtain ⟨a, vs, rfl, ⟨l, dx, ho⟩, _⟩ := viewObj E hv
        exact ⟨a, dx, _, rfl, ho⟩
      · cases h
    · cases h
  · cases h
/-- isinstance(e, C) for a thing of the class C -/
def fIsO (n : Nat) : GE := fun m => match chkI n m with
  | some _ => match m.s with
    | _ :: s => some (.ok ⟨m.g, .tr (.a (.bl true)) :: s⟩)
    | _ => none
  | none => none
theorem me_isO {dn : Str} {e : Expr} {ga : GE} {pd pi ps : Pos} (hC : C8.InsC X.K ((kcm X.K T).ct n)) (hg : Gl X "isinstance") (hm : X.mg "isinstance" = none) (hv : bootBuiltins "isinstance" = some (.builtin "isinstance")) (ha : ME X T md W e ga) (hd : PE X (.Name dn pd) (tC (.ref ((kcm X.K T).ct n))))
    (hst1 : starEach [e, .Name dn pd] X.env = (false, eval e X.env) :: starEach [.Name dn pd] X.env := by rfl)
    (hst2 : starEach [.Name dn pd] X.env = (false, eval (.Name dn pd) X.env) :: starEach [] X.env := by rfl)
    (hpl : (backTo ps (starEach [.Name dn pd] X.env)).any (·.1) = false := by rfl) : ME X T md W (.Call (.Name "isinstance" pi) [e, .Name dn pd] [] ps) (gSeq ga (fIsO n)) := by
  obtain ⟨ta, pa, sa⟩ := ha
  refine ⟨_, pe_callB (C8.call_isC hC) hg hm hv (pa_cons pa (pa_cons hd pa_nil hst2) hst1) (by decide) (by rfl) hst1 hpl, ?_⟩
  intro c σ H m us Q r hmd E hg' hp
  simp only [gSeq] at hg'
  split at hg'
  · rename_i m1 h1
    refine sa c σ H m us _ _ hmd E h1 ?_
    intro v H1 E1
    unfold fIsO at hg'
    split at hg'
    · rename_i r2 h2
      obtain ⟨a, dx, fs, rfl, ho⟩ := chkI_at E1 h2
      split at hg'
      · rename_i e2 s2 hs2
        cases hg'
        rw [hs2] at E1
        exact ⟨a, dx, fs, rfl, ho, hp _ _ (E1.drop.atom (.bl true))⟩
      · cases hg'
    · cases hg'
  · rename_i h1
    refine sa c σ H m us _ _ hmd E hg' ?_
    cases r with
    | ex C g' => exact hp
    | ok m2 => exact absurd hg' (h1 m2)
end
/-! things that are walked by their own __iter__, which hands out the iterator of a field -/
section
section
variable {X : Cx}
end
section
variable {X : Cx} {tg e : Expr} {te : TE} {C f : Addr} {fd : FuncData} {j : Str} {kk : Nat} {pins : List (Addr × Obj)} {σ : St} {H : Hp} {s : Shared}
end
section
variable {K : KC} {X : Cx} {T : KT} {md mdc : List Bool} {W : WX} {c : Cz} {σ σ' σ2 : St} {H H' : Hp} {Γ τ : List Ent} {us vs : List V} {v w : V} {i n k : Nat} {m m' : Ms} {g ge gt gs ga gk : GE} {e tg iter elt cnd : Expr} {es : List Expr} {pos : Pos} {scope : Scope} {x : Str} {kk : Nat} {f : Addr} {fd : FuncData}
end
end
/-! methods of texts: join, split, find, startswith ..; texts in texts; a letter of a text -/
def strsT : List Tr → Option (List Str)
  | [] => some []
  | .a (.str i) :: ts => match strsT ts with
    | some ns => some (i :: ns)
    | none => none
  | _ => none
section
variable {K : KC} {X : Cx} {T : KT} {md : List Bool} {W : WX} {c : Cz} {σ : St} {H : Hp} {Γ τ : List Ent} {us : List V} {m : Ms} {x y : V} {go ge f : GE} {o e cl : Expr} {rr : Rs}
theorem strsT_ok {Z : Zn} {H : Hp} {m : Ow} : ∀ {ts : List Tr} {vs : List V} {ns : List Str} {Φ : Ps}, RepL K Z H m ts vs Φ → strsT ts = some ns → vs = ns.map V.str
  | [], _, _, _, h, e => by
    obtain ⟨rfl, _⟩ := h
    cases e
    rfl
  | t :: ts, vs, ns, _, h, e => by
    obtain ⟨v, vs', Φ1, Φ2, rfl, h1, h2, _, _⟩ := h
    unfold strsT at e
    split at e
    · rename_i hq; cases hq
    · rename_i i ts' heq
      cases heq
      split at e
      · rename_i ns' hn
        cases e
        rw [h1.1, strsT_ok h2 hn]
        rfl
      · cases e
    · cases e
theorem strsT_map : ∀ (xs : List Str), strsT (xs.map fun i => .a (.str i)) = some xs
  | [] => rfl
  | x :: xs => by
    rw [List.map_cons]
    unfold strsT
    rw [strsT_map xs]
def FStrs (f : List Str → Option V) : Tr → Option V
  | .nd .lst _ ts => match strsT ts with
    | some ns => f ns
    | none => none
  | .nd .tup _ ts => match strsT ts with
    | some ns => f ns
    | none => none
  | _ => none
theorem FStrs_ok {f : List Str → Option V} {Z : Zn} {t : Tr} {x u : V} {Φ : Ps} (r : Rep K Z H .own t x Φ) (e : FStrs f t = some u) : ∃ a ns, x = .ref a ∧ (SqL K.K H a (ns.map V.str) ∨ SqT K.K H a (ns.map V.str)) ∧ f ns = some u := by
  unfold FStrs at e
  split at e
  · split at e
    · rename_i ns hn
      obtain ⟨ad, vs, Ξ, rfl, ho, hl, _⟩ := r
      have := strsT_ok hl hn
      subst this
      exact ⟨ad, ns, rfl, .inl (objL ho), e⟩
    · cases e
  · split at e
    · rename_i ns hn
      obtain ⟨ad, vs, Ξ, rfl, ho, hl, _⟩ := r
      have := strsT_ok hl hn
      subst this
      exact ⟨ad, ns, rfl, .inr (objT ho), e⟩
    · cases e
  · cases e
def chkS : GE := fun m => match m.s with
  | .tr (.a (.str _)) :: _ => some (.ok m)
  | _ => none
theorem chkS_ok (E : EnvOk K c σ H m.g m.s (x :: us)) (h : chkS m = some rr) : rr = .ok m ∧ ∃ a, x = .str a := by
  unfold chkS at h
  split at h
  · rename_i a s hs
    cases h
    rw [hs] at E
    obtain ⟨Z, ws, Φ, Ψ, EE⟩ := id E
    obtain ⟨Θ, h1, h2⟩ := EE.view (n := 0) rfl rfl (show viewE m.g (.tr (.a (.str a))) = some _ from rfl)
    exact ⟨rfl, a, h1⟩
  · cases h
/-- o.method(e), o a text -/
theorem me_m1 {r : V → List V → Hp → VK → Prop} (ho : ME X T md W o go) (he : ME X T md W e ge) (ok : RA2 (kcm X.K T) md W (fun x y H Q => r x [y] H Q) f) (h : ∀ {to te : TE}, PE X o to → PE X e te → PE X cl (tM1 r to te)) :
    ME X T md W cl (gSeq (gSeq go (gSeq chkS ge)) f) := by
  obtain ⟨to, po, so⟩ := ho
  obtain ⟨te, pe, se⟩ := he
  refine ⟨_, h po pe, ?_⟩
  have hs : SE (kcm X.K T) md W (fun σ H Q => to σ H fun x H1 => (∃ a, x = .str a) ∧ Q x H1) (gSeq go chkS) := by
    intro c σ H m us Q rr hc E hg hp
    simp only [gSeq] at hg
    split at hg
    · rename_i m1 h1
      refine so c σ H m us _ _ hc E h1 fun x H1 E1 => ?_
      obtain ⟨e1, ha⟩ := chkS_ok E1 hg
      cases e1
      exact ⟨ha, hp _ _ E1⟩
    · rename_i h1
      refine so c σ H m us _ _ hc E hg ?_
      cases rr with
      | ex C g' => exact hp
      | ok m2 => exact absurd hg (h1 m2)
  have hq := se_op ok hs se
  intro c σ H m us Q rr hc E hg hp
  have hg2 : gSeq (gSeq (gSeq go chkS) ge) f m = some rr := by
    rw [← hg]
    unfold gSeq
    cases h1 : go m with
    | none => rfl
    | some r1 => cases r1 <;> rfl
  exact hq c σ H m us Q rr hc E hg2 hp
/-! sep.join(texts) -/
def rJoin (K : PySem.W.Frag) : V → List V → Hp → VK → Prop := fun x xs H Q => ∃ a p, ∃ ys : List Str, x = .str a ∧ xs = [.ref p] ∧ (SqL K H p (ys.map V.str) ∨ SqT K H p (ys.map V.str)) ∧
    (ys.map (·.length)).sum + ys.length * a.length ≤ 16777216 ∧ Q (.str (Txt.join a ys)) H
def FJoin : Tr → Tr → Option V
  | .a (.str a), t => FStrs (fun ys => if (ys.map (·.length)).sum + ys.length * a.length ≤ 16777216 then some (.str (Txt.join a ys)) else none) t
  | _, _ => none
def fJoin : GE := fP2 FJoin
theorem fJoin_ok : RA2 K md W (fun x y H Q => rJoin K.K x [y] H Q) fJoin := fP2_ok fun Z H x y tx ty u Φ Ψ Q r1 r2 e q => by
  unfold FJoin at e
  split at e
  · rename_i a
    obtain ⟨p, ys, rfl, h, e⟩ := FStrs_ok r2 e
    split at e
    · rename_i hz
      cases e
      obtain ⟨rfl, _⟩ := r1
      exact ⟨a, p, ys, rfl, rfl, h, hz, q⟩
    · cases e
  · cases e
theorem FJoin_l (a : Str) (o : Ow) (ys : List Str) (h : (ys.map (·.length)).sum + ys.length * a.length ≤ 16777216) : FJoin (.a (.str a)) (.nd .lst o (ys.map fun i => .a (.str i))) = some (.str (Txt.join a ys)) := by
  simp only [FJoin, FStrs, strsT_map]
  rw [if_pos h]
/-! two texts and a value -/
def FSS (g : Str → Str → V) : Tr → Tr → Option V
  | .a (.str a), .a (.str b) => some (g a b)
  | _, _ => none
theorem FSS_ok {g : Str → Str → V} {r : V → List V → Hp → VK → Prop} (h : ∀ a b H Q, Q (g a b) H → r (.str a) [.str b] H Q) : RA2 K md W (fun x y H Q => r x [y] H Q) (fP2 (FSS g)) := fP2_ok fun Z H x y tx ty u Φ Ψ Q r1 r2 e q => by
  unfold FSS at e
  split at e
  · rename_i a b
    cases e
    obtain ⟨rfl, _⟩ := r1
    obtain ⟨rfl, _⟩ := r2
    exact h a b H Q q
  · cases e
def fFind : GE := fP2 (FSS fun a b => .int (Txt.find a b))
def rSS (g : Str → Str → V) : V → List V → Hp → VK → Prop := fun x xs H Q => ∃ a b, x = .str a ∧ xs = [.str b] ∧ Q (g a b) H
theorem fFind_ok : RA2 K md W (fun x y H Q => rSS (fun a b => .int (Txt.find a b)) x [y] H Q) fFind := FSS_ok (r := rSS (fun a b => .int (Txt.find a b))) fun a b H Q q => ⟨a, b, rfl, rfl, q⟩
/-! x.split(sep) -/
def rSplit : V → List V → Hp → VK → Prop := fun x xs H Q => ∃ a b, x = .str a ∧ xs = [.str b] ∧ (b.length == 0) = false ∧ a.length + 2 ≤ sizeLine ∧ rNewStrs (Txt.split a b) H Q
def fSplit : GE := fun m => match m.s with
  | .tr (.a (.str b)) :: .tr (.a (.str a)) :: s => if (b.length == 0) = false ∧ a.length ≤ 100000 then some (.ok ⟨m.g, .tr (.nd .lst .own ((Txt.split a b).map fun i => .a (.str i))) :: s⟩) else none
  | _ => none
theorem EnvOk.newStrs {pa : Addr} (E : EnvOk K c σ H Γ τ us) (ns : List Str) (hp : H pa = none) : EnvOk K c σ (upd H pa (.lst (ns.map V.str))) Γ (.tr (.nd .lst .own (ns.map fun i => .a (.str i))) :: τ) (.ref pa :: us) := by
  have E1 := EnvOk.atoms (ns.reverse.map V.str) E
  have e : (fun v => Ent.tr (Tr.a v)) ∘ V.str = Ent.tr ∘ fun i : Str => Tr.a (V.str i) := rfl
  refine EnvOk.new (ts := ns.map fun i => .a (.str i)) (vs := ns.map V.str) (k := .lst) ?_ (by simp) hp (by simp [mkN, escL_atoms V.str]) fun o => upd_same
  simpa [List.map_reverse, e] using E1
theorem fSplit_ok : RA2 K md W (fun x y H Q => rSplit x [y] H Q) fSplit := by
  refine .mk fun c σ H m us x y Q rr hc E hf hp => ?_
  unfold fSplit at hf
  split at hf
  · rename_i b a s hs
    split at hf
    · rename_i hz
      cases hf
      rw [hs] at E
      obtain ⟨Z, ws, Φ, Ψ, EE⟩ := id E
      obtain ⟨Θ1, h1, _⟩ := EE.view (n := 0) rfl rfl (show viewE m.g (.tr (.a (.str b))) = some _ from rfl)
      obtain ⟨Θ2, h2, _⟩ := EE.view (n := 1) rfl rfl (show viewE m.g (.tr (.a (.str a))) = some _ from rfl)
      subst h1 h2
      refine ⟨a, b, rfl, rfl, hz.1, Nat.le_trans (Nat.add_le_add_right hz.2 2) (by decide), fun p hn => hp _ _ ?_⟩
      exact EnvOk.newStrs (E.drop.drop) _ hn
    · cases hf
  · cases hf
end
/-! isinstance of a class above -/
section
variable {K : KC} {X : Cx} {T : KT} {md mdc : List Bool} {W : WX} {n : Nat}
end
/-! list(reversed(xs)) -/
section
open PySem.Spec PyProof.Rows
end
section
open PySem.Spec PyProof.Rows
variable {X : Cx}
end
section
variable {K : KC} {X : Cx} {T : KT} {md : List Bool} {W : WX} {g : GE}
end
/-! t + u, tuples of plain values -/
section
variable {K : KC} {X : Cx} {T : KT} {md : List Bool} {W : WX} {c : Cz} {σ : St} {H : Hp} {Γ τ : List Ent} {us : List V} {ga gb : GE}
end
/-! static methods and new things that may raise -/
section
variable {K : KC} {X : Cx} {T : KT} {md mdc : List Bool} {W : WX} {g ga : GE} {e oe : Expr} {es : List Expr} {pos pp apos : Pos} {x me : Str} {G : GF} {kk n : Nat} {f C : Addr} {fd : FuncData} {ps : List Str} {is : List Nat} {sp : Sp} {ta : TE} {tA : TA} {pl : Sem Bool} {CXk : CXT} {Ew : St → XK}
def tSMethS (C : Addr) (sp : Sp) (Ew : St → XK) (ta : TE) (t : TA) : TE := fun σ H Q => ta σ H fun x H1 => x = .ref C ∧ t σ H1 fun vs H2 => sp vs H2 Q (Ew σ)
theorem pe_smethS (po : PE X oe ta) (cm : SMet X.K C me f) (F : FnOk X.prog X.w X.K X.mg X.base CXk kk f fd ps sp) (hr : Room kk X.A) (hb : Binds X.K fd ps []) (hx : ∀ σ, PassesAt CXk X σ (Ew σ)) (pa : PA X (e :: es) tA)
    (hst : starEach (e :: es) X.env = (false, eval e X.env) :: starEach es X.env := by rfl) (hpl : (backTo pos (starEach es X.env)).any (·.1) = false := by rfl)
    (ht : eval (.Call (.Attribute oe me apos) (e :: es) [] pos) X.env = (do let ov ← eval oe X.env; standAt apos.atName; let (f, first) ← holding [ov] (getMethod ov me pl); callWith pos f first (backTo pos (starEach (e :: es) X.env)) (backToKw pos (keywordEach [] X.env))) := by rfl) :
    PE X (.Call (.Attribute oe me apos) (e :: es) [] pos) (tSMethS C sp Ew ta tA) := by
  constructor
  intro pins s σ H Q I hh
  refine PySem.W.methodCall_KW (pl := pl) (he := ht) (thn (po.run pins s σ H _ I hh) ?_)
  rintro u s1 ⟨xv, H1, I1, rx, rfl, q1⟩
  cases (show u = Value.ref C from rx)
  obtain ⟨p, rest, a1, a2⟩ := cm.at_
  refine PySem.W.method_cls I1.kIn cm.rd.ga (PySem.W.cls_bind I1.kIn cm.rd.rd a1 (wpAny_call (PySem.W.sm_get (s := { s1 with toks := s1.toks + 1 }) I1.kIn a2 (PySem.W.handed_on rfl ?_))))
  have I2 := I1.tok (s1.toks + 1)
  refine PySem.W.callWith_K (h₀ := X.base) I2.ok.mod.kin cm.kp (thn (pa.run pos pins _ σ H1 _ I2 q1) ?_) hst hpl
  rintro us s2 ⟨vs, H2, I3, rr, q2⟩
  exact ⟨I3.kIn, run_fnS F hr hb (hx σ) I3 rr q2⟩
theorem me_smethS (he : PE X oe (tC (.ref C))) (cm : SMet X.K C me f) (F : FnOk X.prog X.w X.K X.mg X.base (L2N.CX X.prog X.w) kk f fd ps (spOf (kcm X.K T) mdc G)) (hr : Room kk X.A) (tk : Takes X W) (hb : Binds X.K fd ps []) (ha : MA X T md W (e :: es) ga) (hin : ∀ i ∈ is, i < (e :: es).length) (hpw : is.reverse.Pairwise (· > ·))
    (hst : starEach (e :: es) X.env = (false, eval e X.env) :: starEach es X.env := by rfl) (hpl : (backTo pos (starEach es X.env)).any (·.1) = false := by rfl)
    (ht : eval (.Call (.Attribute oe me apos) (e :: es) [] pos) X.env = (do let ov ← eval oe X.env; standAt apos.atName; let (f, first) ← holding [ov] (getMethod ov me pl); callWith pos f first (backTo pos (starEach (e :: es) X.env)) (backToKw pos (keywordEach [] X.env))) := by rfl) :
    ME X T md W (.Call (.Attribute oe me apos) (e :: es) [] pos) (gSeq ga (gCall is mdc G (e :: es).length)) := by
  obtain ⟨t, pa, sa⟩ := ha
  refine ⟨_, pe_smethS (Ew := WE W) he cm F hr hb (fun σ => passAt tk σ) pa hst hpl ht, fun c σ H m us Q rr hc E hg hp => ⟨rfl, ?_⟩⟩
  simp only [gSeq] at hg
  split at hg
  · rename_i m3 h3
    exact sa c σ H m us _ _ hc E h3 fun vs H2 hl E2 => gCall_ok hin hpw c σ H2 m3 us vs Q rr hc hl E2 hg hp
  · rename_i h3
    refine sa c σ H m us _ _ hc E hg ?_
    cases rr with
    | ex C g' => exact hp
    | ok m2 => exact absurd hg (h3 m2)
end
/-! isinstance(e, T), isinstance(e, (A, B)): e the error of a suite -/
section
variable {X : Cx} {T : KT} {md : List Bool} {W : WX} {i : Nat} {a D : Addr} {oe : Obj} {pn : List (Addr × Obj)}
end
section
variable {K : KC} {X : Cx} {T : KT} {md mdc : List Bool} {W : WX} {oe : Expr} {pos apos : Pos} {me : Str} {G : GF} {kk : Nat} {f C : Addr} {fd : FuncData} {ps : List Str} {sp : Sp} {ta : TE} {pl : Sem Bool} {CXk : CXT} {Ew : St → XK}
end
/-! sorted(xs): items that are data (tuples) -/
section
variable {X : Cx}
end
section
variable {K : KC} {X : Cx} {T : KT} {md : List Bool} {W : WX} {g : GE}
end
/-! list(range(i, j)) -/
section
variable {X : Cx} {T : KT} {md : List Bool} {W : WX} {ga gb : GE}
def fLstG : GE := fun m => match m.s with
  | .tr (.a (.int j)) :: .tr (.a (.int i)) :: s => if -100000 ≤ i ∧ i ≤ 100000 ∧ -100000 ≤ j ∧ j ≤ 100000 then some (.ok ⟨m.g, .tr (.nd .lst .own ((rng i (j - i).toNat).map fun n => .a (.int n))) :: s⟩) else none
  | _ => none
theorem rgV_rng (i j : Int) : rgV i j = (rng i (j - i).toNat).map V.int := by
  unfold rgV rng
  rw [List.map_map]
  rfl
theorem me_lstRg2 {a b : Expr} {p p2 pos pos2 : Pos} (ha : ME X T md W a ga) (hb : ME X T md W b gb) (calm : X.calm = true) (g1 : Gl X "list") (m1 : X.mg "list" = none) (g2 : Gl X "range") (m2 : X.mg "range" = none)
    (na : starEach [a, b] X.env = (false, eval a X.env) :: starEach [b] X.env := by rfl)
    (nb : starEach [b] X.env = (false, eval b X.env) :: starEach [] X.env := by rfl) (hp : (backTo pos2 (starEach [b] X.env)).any (·.1) = false := by rfl)
    (nl : starEach [.Call (.Name "range" p2) [a, b] [] pos2] X.env = (false, eval (.Call (.Name "range" p2) [a, b] [] pos2) X.env) :: starEach [] X.env := by rfl) :
    ME X T md W (.Call (.Name "list" p) [.Call (.Name "range" p2) [a, b] [] pos2] [] pos) (gSeq (gSeq ga gb) fLstG) := by
  obtain ⟨ta, pa, sa⟩ := ha
  obtain ⟨tb, pb, sb⟩ := hb
  refine ⟨_, pe_listRg calm g1 m1 (prg_2 g2 m2 pa pb na nb hp) nl, fun c σ H m us Q rr hc E hg hq => ?_⟩
  simp only [gSeq] at hg
  cases e1 : ga m with
  | none => simp [e1] at hg
  | some r1 =>
    rw [e1] at hg
    cases r1 with
    | ok m1 =>
      simp only at hg
      cases e2 : gb m1 with
      | none => simp [e2] at hg
      | some r2 =>
        rw [e2] at hg
        cases r2 with
        | ok m2 =>
          simp only at hg
          refine sa c σ H m us _ _ hc E e1 fun x H1 E1 => ?_
          refine sb c σ H1 m1 (x :: us) _ _ hc E1 e2 fun y H2 E2 => ?_
          unfold fLstG at hg
          split at hg
          · rename_i j i s hs
            split at hg
            · rename_i hb
              cases hg
              rw [hs] at E2
              have hy := top_a E2
              have hx := top_a E2.drop
              subst hx hy
              refine ⟨i, j, rfl, rfl, ⟨by omega, by omega, by omega, by omega, by omega⟩, fun q hn => hq _ _ ?_⟩
              rw [rgV_rng]
              exact EnvOk.newAtoms (E2.drop.drop) _ hn
            · cases hg
          · cases hg
        | ex C g => 
          simp only at hg
          cases hg
          refine sa c σ H m us _ _ hc E e1 fun x H1 E1 => ?_
          exact sb c σ H1 m1 (x :: us) _ _ hc E1 e2 hq
    | ex C g =>
      simp only at hg
      cases hg
      exact sa c σ H m us _ _ hc E e1 hq
end
/-! sorted(set(xs)) of a list of ints -/
section
open PySem.Spec PyProof.Rows
variable {P : Program} {w : World} {A : Around} {E : Value → Shared → Prop} {s : Shared}
end
section
variable {X : Cx}
variable {T : KT} {md : List Bool} {W : WX} {ga gs : GE} {te : TE} {i j : Nat}
end
/-! x < y of data; xs.index(text) -/
section
variable {X : Cx}
variable {K : KC} {T : KT} {md : List Bool} {W : WX}
end
/-! {} whose keys will be tuples -/
section
variable {X : Cx} {T : KT} {md : List Bool} {W : WX}
end
/-! text[i] -/
section
variable {K : KC} {X : Cx} {T : KT} {md : List Bool} {W : WX} {ga gb : GE} {a b : Expr} {pos : Pos}
def FIxS : Tr → Tr → Option V
  | .a (.str z), .a (.int i) => if 0 ≤ i ∧ i < 2 ^ 63 ∧ i < z.length then match z.cps[i.toNat]? with
    | some c => some (.str ⟨#[c]⟩)
    | none => none
    else none
  | _, _ => none
def fIxS : GE := fP2 FIxS
theorem fIxS_ok : RA2 K md W (fun x y H Q => ∃ z i c, x = .str z ∧ y = .int i ∧ 0 ≤ i ∧ i < 2 ^ 63 ∧ i < z.length ∧ z.cps[i.toNat]? = some c ∧ Q (.str ⟨#[c]⟩) H) fIxS := fP2_ok fun Z H x y tx ty u Φ Ψ Q r1 r2 e q => by
  unfold FIxS at e
  split at e
  · rename_i z i
    split at e
    · rename_i hb
      split at e
      · rename_i c hc
        cases e
        obtain ⟨rfl, _⟩ := r1
        obtain ⟨rfl, _⟩ := r2
        exact ⟨z, i, c, rfl, rfl, hb.1, hb.2.1, hb.2.2, hc, q⟩
      · cases e
    · cases e
  · cases e
theorem me_ixS (ha : ME X T md W a ga) (hb : ME X T md W b gb) (hs : PlainIxT b) : ME X T md W (.Subscript a b pos) (gSeq (gSeq ga gb) fIxS) := by
  obtain ⟨ta, pa, sa⟩ := ha
  obtain ⟨tb, pb, sb⟩ := hb
  exact ⟨_, pe_item_str pa pb hs, se_op fIxS_ok sa sb⟩
end
/-! for and if in a generator's body -/
section
open PySem.Spec PyProof.Rows GenW
section
variable {M : Model} {A : Around} {R : GenEnd} {Y : Protocol} {n : Nat} {s₀ : Shared} {c : Code} {fs : List Frame} {s : Shared} {env : Env} {K : Flow → Sem PySem.Fin} {J : Value → Sem PySem.Fin} {gd : Bool → Bool} {lv : List Value → List Value}
end
section
variable {prog : Program} {w : World} {A : Around} {R : GenEnd} {Y : Protocol} {n : Nat} {s₀ : Shared} {fs : List Frame} {s : Shared} {env : Env}
end
section
variable {X : Cx} {tg iter test : Expr} {body orelse : List Stmt} {pos : Pos} {wi : TI} {g : TG} {tb tc : TGn} {tt : TT}
end
end
/-! a generator's body: what it hands out stays on the stack, the rows that it walks lie below -/
section
variable {K : KC} {X : Cx} {T : KT} {md mdc : List Bool} {W : WX} {c : Cz} {σ : St} {H H' : Hp} {Γ τ : List Ent} {us bs ys vs : List V} {e b : Expr} {st : Stmt} {rest sts sts' : List Stmt} {g g' gb : GS} {ge gt gs ga : GE} {pos pos' : Pos} {n : Nat} {k : Nk} {tg iter : Expr} {bd : Ms → Option Ms} {body : List Stmt} {ts : List Tr}
end
/-! a generator def, and list(f(..)) of it -/
section
variable {K : KC} {X : Cx} {T : KT} {md mdc : List Bool} {W : WX} {c : Cz} {σ : St} {H H' : Hp} {Γ τ : List Ent} {us vs ws : List V} {n : Nat} {ts : List Tr}
variable {P : Program} {Wd : World} {Kf : PySem.W.Frag} {mg : Str → Option Value} {base : Heap}
variable {x nm : Str} {pp p0 pos pos0 : Pos} {e : Expr} {es : List Expr} {ga : GE} {kk : Nat} {f : Addr} {fd : FuncData} {ps : List Str} {G : GF} {is : List Nat}
end
/-! match over tuples: texts, names and _ -/
section
inductive Pit | tx (z : Str) | nm (i : Nat) | wl
variable {X : Cx}
inductive PtsR (X : Cx) : List Pattern → List Pit → Prop
  | nil : PtsR X [] []
  | tx {z : Str} {i : Nat} {p pos : Pos} {ps : List Pattern} {qs : List Pit} : PtsR X ps qs → PtsR X (.MatchValue (.Constant (.str z) i p) pos :: ps) (.tx z :: qs)
  | nm {x : Str} {i : Nat} {pos : Pos} {ps : List Pattern} {qs : List Pit} : X.N[i]? = some x → Loc X.env.scope x → (X.fn x = true ∨ X.env.scope.names.lookup x = some .local) → PtsR X ps qs → PtsR X (.MatchAs none (some x) pos :: ps) (.nm i :: qs)
  | wl {pos : Pos} {ps : List Pattern} {qs : List Pit} : PtsR X ps qs → PtsR X (.MatchAs none none pos :: ps) (.wl :: qs)
theorem PtsR.len {ps : List Pattern} {qs : List Pit} (h : PtsR X ps qs) : ps.length = qs.length := by
  induction h with
  | nil => rfl
  | tx _ ih => simp [ih]
  | nm _ _ _ _ ih => simp [ih]
  | wl _ ih => simp [ih]
/-! in the machine -/
variable {T : KT} {K : KC} {md : List Bool} {W : WX} {c : Cz} {σ : St} {H H' : Hp} {Γ τ : List Ent} {us vs : List V} {ts : List Tr}
end
/-! t * n, a tuple of plain values, once or more often -/
section
open PySem.Spec PyProof.Rows
variable {X : Cx}
end
section
variable {K : KC} {X : Cx} {T : KT} {md : List Bool} {W : WX} {c : Cz} {σ : St} {H : Hp} {Γ τ : List Ent} {us : List V} {ga gb : GE}
end
/-! list.clear, list.insert -/
section
variable {K : KC} {md : List Bool} {W : WX} {c : Cz} {σ : St} {H : Hp} {ts : List Tr} {t : Tr}
def fIns : GE := fun m => match m.s with
  | .tr t :: .tr (.a (.int x)) :: .al p :: s => match getG m.g p with
    | some (.nd .lst .own ts) => if esc t = true ∧ ts.length < sizeLine ∧ 0 ≤ x ∧ x < 2 ^ 63 then some (.ok ⟨kill p (setG m.g p (.nd .lst .own (ts.take x.toNat ++ [t] ++ ts.drop x.toNat))), .tr (.a .non) :: kill p s⟩) else none
    | _ => none
  | _ => none
theorem escL_ins {n : Nat} (h : escL ts = true) (he : esc t = true) : escL (ts.take n ++ [t] ++ ts.drop n) = true := by
  rw [escL_all] at h ⊢
  intro y hy
  rcases List.mem_append.mp hy with z | z
  · rcases List.mem_append.mp z with z | z
    · exact h y (List.mem_of_mem_take z)
    · rw [List.mem_singleton.mp z]; exact he
  · exact h y (List.mem_of_mem_drop z)
abbrev rIns : V → List V → Hp → VK → Prop := fun x vs H Q => ∃ (l : Addr) (xs : List V) (i : Int) (y : V), x = .ref l ∧ vs = [.int i, y] ∧ H l = some (.lst xs) ∧ xs.length < sizeLine ∧ 0 ≤ i ∧ i < 2 ^ 63 ∧
    Q .non (upd H l (.lst (xs.take i.toNat ++ [y] ++ xs.drop i.toNat)))
theorem fIns_ok : RM K md W 2 rIns fIns := by
  intro c σ H m us vs x Q rr hc hl E hf hp
  match vs, hl with
  | [z, y], _ =>
    unfold fIns at hf
    split at hf
    · rename_i t xi p s hs
      split at hf
      · rename_i ts hg
        split at hf
        · rename_i he
          cases hf
          rw [hs] at E
          have E0 : EnvOk K c σ H m.g (.tr t :: .tr (.a (.int xi)) :: .al p :: s) (y :: z :: x :: us) := E
          have E1 : EnvOk K c σ H m.g (.tr (.a (.int xi)) :: .tr t :: .al p :: s) (z :: y :: x :: us) := EnvOk.swap2 E0
          have ey := top_a E1
          subst ey
          have E3 : EnvOk K c σ H m.g (.al p :: .tr t :: s) (x :: y :: us) := EnvOk.swap2 E1.drop
          have hes := E3.escAt hg (by simp)
          obtain ⟨Z, ws, Φ, Ψ, EE⟩ := id E3
          obtain ⟨Θ, a, vs, Ξ, rfl, ho, hlr, hn⟩ := EE.view (n := 0) (e := .al p) rfl rfl hg
          have ho : H a = some (.lst vs) := ho
          have hlen := RepL.len _ hlr
          refine ⟨a, vs, xi, y, rfl, rfl, ho, by rw [← hlen]; exact he.2.1, he.2.2.1, he.2.2.2, hp _ _ ?_⟩
          obtain ⟨a', e, E2⟩ := EnvOk.modP (ins := [t]) (us1 := [y]) (outs := []) (vouts := []) (k' := .lst) (ts' := ts.take xi.toNat ++ [t] ++ ts.drop xi.toNat) (ob := .lst (vs.take xi.toNat ++ [y] ++ vs.drop xi.toNat)) (τ := s) (us := us) E3 rfl hg (by simp) (by simp) (fun a2 vs2 e2 ho2 l2 => by
            cases e2
            have ho2 : H a = some (.lst vs2) := ho2
            rw [ho] at ho2
            cases ho2
            refine ⟨vs.take xi.toNat ++ [y] ++ vs.drop xi.toNat, by simp [l2], upd_same, fun Z Ψa Ψb r1 r2 d => ?_⟩
            have e1 : ts = ts.take xi.toNat ++ ts.drop xi.toNat := (List.take_append_drop _ _).symm
            rw [e1] at r1
            obtain ⟨v1, v2, Φ1, Φ2, ev, q1, q2, dd, uu⟩ := RepL.split _ r1
            have l1 : (ts.take xi.toNat).length = v1.length := RepL.len _ q1
            have ev1 : vs.take xi.toNat = v1 := by
              have : vs.take v1.length = v1 := by rw [ev]; simp
              by_cases hlt : xi.toNat ≤ ts.length
              · rw [← this, ← l1, List.length_take, Nat.min_eq_left hlt]
              · have h3 : v1.length = vs.length := by rw [← l1, List.length_take, Nat.min_eq_right (by omega), l2]
                rw [List.take_of_length_le (by omega), ← this, h3, List.take_of_length_le (Nat.le_refl _)]
            have ev2 : vs.drop xi.toNat = v2 := by
              have h4 : vs.take xi.toNat ++ vs.drop xi.toNat = v1 ++ v2 := by rw [List.take_append_drop, ev]
              rw [ev1] at h4
              exact List.append_cancel_left h4
            rw [ev1, ev2]
            have q3 := RepL.append _ q1 r2 (fun b q => d b ⟨(uu b).mpr (.inl q.1), q.2⟩)
            have q4 := RepL.append _ q3 q2 (fun b q => by
              rcases q.1 with z | z
              · exact dd b ⟨z, q.2⟩
              · exact d b ⟨(uu b).mpr (.inr q.2), z⟩)
            exact ⟨_, by simpa using q4, fun b q => by
              rcases q with (z | z) | z
              · exact .inl ((uu b).mpr (.inl z))
              · exact .inr z
              · exact .inl ((uu b).mpr (.inr z))⟩) rfl (escL_ins hes he.1)
          cases e
          exact EnvOk.atom (by simpa using E2) .non
        · cases hf
      · cases hf
    · cases hf
end
/-! f(e, ..) where one keyword-only parameter lacks: its default is a plain value -/
section
variable {K : KC} {X : Cx} {T : KT} {md mdc : List Bool} {W : WX} {is : List Nat} {G : GF} {n : Nat} {d : V}
variable {x : Str} {pp pos : Pos} {e : Expr} {es : List Expr} {ga : GE} {kk : Nat} {f : Addr} {fd : FuncData} {ps : List Str}
end
/-! calls with keywords that may raise; isinstance(e, (A, B)) of an error that was handed on -/
section
variable {K : KC} {X : Cx} {T : KT} {md mdc : List Bool} {W : WX} {is : List Nat} {G : GF} {n : Nat}
variable {x : Str} {pp pos : Pos} {e : Expr} {es : List Expr} {ga gk : GE} {kk : Nat} {f : Addr} {fd : FuncData} {ps ks : List Str} {kws : List Keyword} {sp : Sp} {CX : CXT}
end
/-! [a for a, b in xs]; sorted(set(xs)), any ints; [w[0] for w in d.values()] -/
section
variable {X : Cx} {T : KT} {md : List Bool} {W : WX} {ga gs : GE} {te : TE} {i j : Nat}
end
/-! sorted(set(xs)) of any whole numbers -/
section
variable {X : Cx}
variable {T : KT} {md : List Bool} {W : WX} {ga : GE}
end
/-! [w[0] for w in d.values()]: the values are tuples -/
section
variable {K : KC} {X : Cx} {T : KT} {md : List Bool} {W : WX} {gs : GE} {te : TE} {i : Nat} {c : Cz} {σ : St} {H : Hp} {Γ τ : List Ent} {us : List V}
end
/-! x in a list, both plain data (tuples of ints and texts at any depth) -/
section
variable {K : KC} {X : Cx} {md : List Bool} {W : WX}
end
/-! d.pop(k): d an own dict with int or text keys, k is there -/
section
variable {K : KC} {X : Cx} {T : KT} {md : List Bool} {W : WX} {c : Cz} {σ : St} {H : Hp} {Γ τ : List Ent} {us : List V} {go ga : GE} {oe e : Expr} {p : List Nat} {ks : List Key} {ts : List Tr} {vs : List V} {j : Nat} {t : Tr} {v : V}
end
/-! y = [a for a, b in xs] -/
section
variable {K : KC} {X : Cx} {T : KT} {md : List Bool} {W : WX} {gs : GE} {i j : Nat}
end
/-! targets that are tuples, as a machine; [e for k, v in d.items()], d lent or frozen -/
section
variable {K : KC} {X : Cx} {T : KT} {md : List Bool} {W : WX} {c : Cz} {σ : St} {H : Hp} {Γ τ : List Ent} {us : List V} {cv cv1 cv2 : List Nat} {i n : Nat} {t : TG} {u : TGs} {b b1 b2 bd : Ms → Option Ms} {gs gt ge : GE} {te : TE} {tt : TT}
end
/-! f-strings of texts and whole numbers; len(set(xs)) of whole numbers -/
section
variable {K : KC} {X : Cx} {T : KT} {md : List Bool} {W : WX} {ga g : GE} {e : Expr} {pos : Pos}
def fFmt : GE := fun m => match m.s with
  | .tr (.a (.int i)) :: s => if i.natAbs.log2 < 1920 then some (.ok ⟨m.g, .tr (.a (.str (toString i))) :: s⟩) else none
  | .tr (.a (.str y)) :: s => if y.length ≤ sizeLine then some (.ok ⟨m.g, .tr (.a (.str y)) :: s⟩) else none
  | _ => none
theorem me_fmt (he : ME X T md W e g) : ME X T md W (.FormattedValue e (-1) none pos) (gSeq g fFmt) := by
  obtain ⟨te, pe, se⟩ := he
  refine ⟨_, pe_fmt pe, fun c σ H m us Q rr hc E hg hp => ?_⟩
  simp only [gSeq] at hg
  cases e1 : g m with
  | none => simp [e1] at hg
  | some r1 =>
    rw [e1] at hg
    cases r1 with
    | ex C g =>
      simp only at hg
      cases hg
      exact se c σ H m us _ _ hc E e1 hp
    | ok m1 =>
      simp only at hg
      refine se c σ H m us _ _ hc E e1 fun x H1 E1 => ?_
      unfold fFmt at hg
      split at hg
      · rename_i i s hs
        split at hg
        · rename_i hb
          cases hg
          rw [hs] at E1
          cases top_a E1
          exact .inr ⟨i, rfl, hb, hp _ _ ((E1.drop).atom _)⟩
        · cases hg
      · rename_i y s hs
        split at hg
        · rename_i hb
          cases hg
          rw [hs] at E1
          cases top_a E1
          exact .inl ⟨y, rfl, hb, hp _ _ ((E1.drop).atom _)⟩
        · cases hg
      · cases hg
def gJs : List GE → Str → GE
  | [], acc => fun m => some (.ok ⟨m.g, .tr (.a (.str acc)) :: m.s⟩)
  | g :: gs, acc => fun m => match g m with
    | some (.ok ⟨g1, .tr (.a (.str y)) :: s1⟩) => if (acc ++ y).length ≤ sizeLine then gJs gs (acc ++ y) ⟨g1, s1⟩ else none
    | some (.ex C g1) => some (.ex C g1)
    | _ => none
inductive MJ (X : Cx) (T : KT) (md : List Bool) (W : WX) : List Expr → List GE → Prop where
  | nil : MJ X T md W [] []
  | cons {e : Expr} {g : GE} {es : List Expr} {gs : List GE} (h : ME X T md W e g) (r : MJ X T md W es gs) : MJ X T md W (e :: es) (g :: gs)
theorem MJ.run {es : List Expr} {gs : List GE} (h : MJ X T md W es gs) : ∃ ts, PJ X es ts ∧ ∀ (acc : Str) (c : Cz) (σ : St) (H : Hp) (m : Ms) (us : List V) (Q : Str → Hp → Prop) (rr : Rs), c.md = md → EnvOk (kcm X.K T) c σ H m.g m.s us → gJs gs acc m = some rr →
    PostE (kcm X.K T) c W σ us (fun v H1 => ∃ y, v = .str y ∧ Q y H1) rr → tJs ts acc σ H Q := by
  induction h with
  | nil =>
    refine ⟨[], .nil, fun acc c σ H m us Q rr hc E hg hp => ?_⟩
    simp only [gJs] at hg
    cases hg
    obtain ⟨y, e, q⟩ := hp _ _ (E.atom (.str acc))
    cases e
    exact q
  | @cons e g es gs he r ih =>
    obtain ⟨te, pe, se⟩ := he
    obtain ⟨ts, pj, ih⟩ := ih
    refine ⟨te :: ts, .cons pe pj, fun acc c σ H m us Q rr hc E hg hp => ?_⟩
    simp only [gJs] at hg
    split at hg
    · rename_i g1 y s1 h1
      split at hg
      · rename_i hb
        refine se c σ H m us _ _ hc E h1 fun x H1 E1 => ?_
        cases top_a E1
        exact ⟨y, rfl, hb, ih (acc ++ y) c σ H1 ⟨g1, s1⟩ us Q rr hc (E1.drop) hg hp⟩
      · cases hg
    · rename_i C g1 h1
      cases hg
      exact se c σ H m us _ _ hc E h1 hp
    · cases hg
theorem me_joined {v1 v2 : Expr} {rest : List Expr} {gs : List GE} (h : MJ X T md W (v1 :: v2 :: rest) gs) : ME X T md W (.JoinedStr (v1 :: v2 :: rest) pos) (gJs gs Str.empty) := by
  obtain ⟨ts, pj, run⟩ := h.run
  refine ⟨_, pe_joined pj, fun c σ H m us Q rr hc E hg hp => run _ c σ H m us _ rr hc E hg ?_⟩
  cases rr with
  | ok m' =>
      intro v H1 E1
      have hq := hp v H1 E1
      have key : ∀ {gs : List GE} {acc : Str} {m m' : Ms}, gJs gs acc m = some (.ok m') → ∃ y s, m'.s = .tr (.a (.str y)) :: s := by
        intro gs
        induction gs with
        | nil =>
          intro acc m m' q
          simp only [gJs] at q
          cases q
          exact ⟨_, _, rfl⟩
        | cons g gs ih =>
          intro acc m m' q
          simp only [gJs] at q
          split at q
          · split at q
            · exact ih q
            · cases q
          · cases q
          · cases q
      obtain ⟨y, s, e⟩ := key hg
      rw [e] at E1
      cases top_a E1
      exact ⟨y, rfl, hq⟩
  | ex C g' => exact hp
end
section
variable {X : Cx} {T : KT} {md : List Bool} {W : WX} {ga : GE}
end
/-! defs with positional defaults -/
section
variable {K : KC} {X : Cx} {T : KT} {md mdc : List Bool} {W : WX} {c : Cz} {σ : St} {H H' : Hp} {Γ τ τ1 : List Ent} {us us1 vs vs' : List V} {v w : V} {p q : List Nat} {t : Tr} {ts ts' : List Tr} {k k' : Nk} {i j n d : Nat} {a : Addr} {en en' : Ent} {o : Ow}
variable {P : Program} {Wd : World} {Kf : PySem.W.Frag} {mg : Str → Option Value} {base : Heap}
end
section
variable {K : KC} {X : Cx} {T : KT} {md mdc : List Bool} {W : WX} {is : List Nat} {G : GF} {n : Nat} {d : V} {t : Tr}
variable {me : Str} {pos apos : Pos} {oe : Expr} {go : GE} {kk : Nat} {f C : Addr} {fd : FuncData} {ps : List Str} {CXk : CXT} {sp : Sp} {ta : TE} {Ew : St → XK} {pl : Sem Bool}
end
/-! x not in a list, both plain data at any depth -/
section
variable {K : KC} {X : Cx} {md : List Bool} {W : WX}
end
/-! list(reversed(xs)), any things that nobody owns -/
section
variable {K : KC} {X : Cx} {T : KT} {md : List Bool} {W : WX} {g : GE}
end
/-! classmethods: the class is a value, handed to the def as its first argument -/
section
variable {K : KC} {X : Cx} {CX : CXT} {T : KT} {md mdc : List Bool} {W : WX} {c : Cz} {σ : St} {H : Hp} {us : List V} {v : V} {i n kk : Nat} {g ga : GE} {e oe : Expr} {es : List Expr} {pos p apos : Pos} {x me : Str} {G : GF} {f C q : Addr} {mc : Value} {fd : FuncData} {ps : List Str} {is : List Nat} {t : TA} {E : XK} {sp : Sp} {dvs : List V} {ds : List Value} {pl : Sem Bool} {Γ τ : List Ent}
end
/-! list.reverse -/
section
variable {K : KC} {md : List Bool} {W : WX}
end
/-! {k: d[k] for k in d}, d a field, of things that may be copied -/
section
variable {K : KC} {X : Cx} {T : KT} {md mdc : List Bool} {W : WX} {c : Cz} {σ : St} {H : Hp} {us : List V} {i n j : Nat} {m : Ms} {g1 : List Ent} {en : Ent} {s1 : List Ent} {g : GE} {e : Expr} {fl : Str} {tab : List (Nat × Nat)}
end
/-! targets o[i], and tuples of any targets; del d[k] -/
section
variable {K : KC} {X : Cx} {T : KT} {md : List Bool} {W : WX} {c : Cz} {σ : St} {H : Hp} {us : List V} {i n : Nat} {t : TG} {u : TGs} {b b1 b2 : Ms → Option Ms} {go gi : GE} {to ti : TE} {o ie : Expr} {es : List Expr} {e : Expr} {pos : Pos}
end
/-! del d[k]: d an own dict, k is there -/
section
variable {K : KC} {X : Cx} {T : KT} {md : List Bool} {W : WX} {c : Cz} {σ : St} {H : Hp} {us : List V} {go gi : GE} {o ie : Expr} {pos tpos : Pos}
end
/-! errors with a field of their own: made, caught by clauses with and without names, their field read -/
section
open PySem.Spec PyProof.Rows L2N
variable {X : Cx} {pins : List (Addr × Obj)} {σ : L2.St} {H : Hp} {s : Shared}
variable {body : List Stmt} {h1 : ExceptHandler} {hr : List ExceptHandler} {pos : Pos} {tb : WX → L2.TS} {Wo : WX}
end
/-! the same by the machine -/
section
variable {X : Cx} {T : KT} {md : List Bool} {W : WX} {c : Value} {gb : GS} {body : List Stmt} {pos : Pos}
/-- an error's own dict on the stack -/
def exS (ef : Nat → Option (Str × Str)) (C : Nat) (d : Addr) : List Ent := match ef C with
  | none => []
  | some (f, x) => [.tr (xdT d f x)]
def exU (ef : Nat → Option (Str × Str)) (C : Nat) (d : Addr) : List V := match ef C with
  | none => []
  | some _ => [.ref d]
def exD (ef : Nat → Option (Str × Str)) (C : Nat) (d : Addr) : Option Addr := match ef C with
  | none => none
  | some _ => some d
theorem EnvX.put {K : KC} {cz : Cz} {C : Nat} {σ : St} {H : HX} {Γ : List Ent} (E : EnvX K cz C σ H Γ [] []) : ∃ d, H.2 = exD K.ef C d ∧ EnvOk K cz σ H.1 Γ (exS K.ef C d) (exU K.ef C d) := by
  unfold EnvX at E
  unfold exD exS exU
  cases e : K.ef C with
  | none =>
    rw [e] at E
    exact ⟨0, E⟩
  | some p =>
    rw [e] at E
    obtain ⟨d, h1, h2⟩ := E
    exact ⟨d, h1, h2⟩
structure SxOk (X : Cx) (T : KT) (md : List Bool) (c : Value) (sts : List Stmt) (tab : List (Nat × Bool)) (gsu : Nat → Addr → Addr → GS) : Prop where
  ma : ∀ C b, tab.lookup C = some b → PySem.W.exmOne X.K (.ref (T.et C)) c = some b
  su : ∀ C, tab.lookup C = some true → ∀ (a d : Addr) (oe : Obj) (pn : List (Addr × Obj)), L2N.Zn (.ref (T.et C)) (exD T.ef C d) oe → (∃ vs, oe.data = .fields vs) → MSs (X.suite a ((a, oe) :: pn)) T md WF sts (gsu C a d)
/-- what a suite does, as the wish of a clause -/
def tsX (X : Cx) (T : KT) (md : List Bool) (tab : List (Nat × Bool)) (gsu : Nat → Addr → Addr → GS) : Addr → Value → Option Addr → L2.TS := fun a cls d D σ H => ∃ C da, tab.lookup C = some true ∧ cls = .ref (T.et C) ∧ d = exD T.ef C da ∧ wpS (kcm X.K T) md WF (gsu C a da) D σ H
inductive ClX (X : Cx) (T : KT) (md : List Bool) : List ExceptHandler → List (Value × Option Nat × (Addr → Value → Option Addr → L2.TS)) → List (List (Nat × Bool) × Option Nat × (Nat → Addr → Addr → GS)) → Prop
  | nil : ClX X T md [] [] []
  | no {x : Str} {c : Value} {tab : List (Nat × Bool)} {gsu : Nat → Addr → Addr → GS} {b0 : Stmt} {bs : List Stmt} {p1 p2 : Pos} {hs : List ExceptHandler} {l : List (Value × Option Nat × (Addr → Value → Option Addr → L2.TS))} {cl : List (List (Nat × Bool) × Option Nat × (Nat → Addr → Addr → GS))} (hc : Names X x c)
      (su : SxOk X T md c (b0 :: bs) tab gsu) (r : ClX X T md hs l cl) : ClX X T md (.ExceptHandler (some (.Name x p1)) none (b0 :: bs) p2 :: hs) ((c, none, tsX X T md tab gsu) :: l) ((tab, none, gsu) :: cl)
  | as {x n : Str} {i : Nat} {c : Value} {tab : List (Nat × Bool)} {gsu : Nat → Addr → Addr → GS} {b0 : Stmt} {bs : List Stmt} {p1 p2 : Pos} {hs : List ExceptHandler} {l : List (Value × Option Nat × (Addr → Value → Option Addr → L2.TS))} {cl : List (List (Nat × Bool) × Option Nat × (Nat → Addr → Addr → GS))} (hc : Names X x c)
      (hN : X.N.Nodup) (hi : X.N[i]? = some n) (hln : X.env.kindOf n = some .local)
      (su : SxOk X T md c (b0 :: bs) tab gsu) (r : ClX X T md hs l cl) : ClX X T md (.ExceptHandler (some (.Name x p1)) (some n) (b0 :: bs) p2 :: hs) ((c, some i, tsX X T md tab gsu) :: l) ((tab, some i, gsu) :: cl)
end
/-! an error with a field is made and raised; its field is read in a suite -/
section
open PySem.Spec PyProof.Rows L2N
variable {X : Cx} {pins : List (Addr × Obj)} {σ : L2.St} {H : Hp} {s : Shared}
variable {P : Program} {Wd : World} {Kf : PySem.W.Frag} {mg : Str → Option Value} {base : Heap}
end
section
variable {K : KC} {X : Cx} {T : KT} {md : List Bool} {W : WX} {c : Cz} {σ : St} {H : Hp} {Γ τ : List Ent} {us : List V} {e : Expr} {pos : Pos}
end
/-! methods called with keywords, and methods whose one keyword-only parameter lacks -/
section
variable {K : KC} {X : Cx} {T : KT} {md mdc : List Bool} {W : WX} {is : List Nat} {G : GF} {n : Nat} {d : V}
variable {me : Str} {pos apos : Pos} {oe e : Expr} {es : List Expr} {go ga gk : GE} {kk : Nat} {f C : Addr} {fd : FuncData} {ps ks : List Str} {kws : List Keyword} {CXk : CXT} {sp : Sp} {ta : TE} {tA tK : TA} {Ew : St → XK} {pl : Sem Bool}
end
/-! a method with ghosts, aliases on the stack live on too -/
section
variable {K : KC} {X : Cx} {T : KT} {md mdc : List Bool} {W : WX} {G : GG} {n : Nat}
variable {me : Str} {pos apos : Pos} {oe e : Expr} {es : List Expr} {go ga : GE} {kk : Nat} {f : Addr} {fd : FuncData} {ps : List Str} {pl : Sem Bool}
end
/-! for c in a text -/
section
variable {X : Cx} {T : KT} {md : List Bool} {W : WX} {ga : GE} {bd : Ms → Option Ms} {gb : GS} {tg e : Expr} {body : List Stmt} {pos : Pos} {K : KC} {c : Cz} {us : List V} {σ : St} {H : Hp}
/-- the signs of a text, each a text -/
def signsT (x : Str) : List Str := x.cps.toList.map fun c => ⟨#[c]⟩
def loopT (bd : Ms → Option Ms) (body : GS) : List Str → Ms → Option Os
  | [], m => some (.nx m)
  | k :: ks, m => match bd ⟨m.g, .tr (.a (.str k)) :: m.s⟩ with
    | some m1 => match body m1 with
      | some (.nx m2) => loopT bd body ks m2
      | some (.ct m2) => loopT bd body ks m2
      | some (.bk m2) => some (.nx m2)
      | some (.rt t m2) => some (.rt t m2)
      | some (.ex C g) => some (.ex C g)
      | none => none
    | none => none
theorem loopT_ok {x : Str} {tb : L2.TS} {gT : TG} {D : Ends} {oo : Os} (hm : c.md = md) (hT : SG K md gT bd) (hB : SS K md W tb gb) (hp : PostS K c W us D oo) {m : Ms} (E : EnvOk K c σ H m.g m.s us) (hg : loopT bd gb (signsT x) m = some oo) :
    ∃ Wv : Nat → Nat → St → Hp → Prop, (∃ mm, Wv 0 mm σ H) ∧ ∀ i mm σ H, Wv i mm σ H →
      ((Its x).stop i H ∧ D.nx σ H) ∨ ((Its x).go i H ∧ ∃ N : St → Hp → Prop, (∀ σ' H', N σ' H' → ∃ m', m' < mm ∧ Wv (i + 1) m' σ' H') ∧ ∀ y H', (Its x).yld i H y H' → gT y σ H' fun σ2 H2 => tb { D with nx := N, ct := N, bk := D.nx } σ2 H2) := by
  have hlen : (signsT x).length = x.cps.size := by unfold signsT; rw [List.length_map, Array.length_toList]
  refine ⟨fun i r σ H => i + r = x.cps.size ∧ ∃ m : Ms, EnvOk K c σ H m.g m.s us ∧ loopT bd gb ((signsT x).drop i) m = some oo, ⟨x.cps.size, by omega, m, E, by simpa using hg⟩, ?_⟩
  rintro i r σ H ⟨hir, m, E, hg⟩
  cases r with
  | zero =>
    rw [List.drop_eq_nil_of_le (by omega)] at hg
    cases hg
    exact .inl ⟨by show x.cps.size ≤ i; omega, hp σ H E⟩
  | succ r =>
    have hi : i < (signsT x).length := by omega
    rw [List.drop_eq_getElem_cons hi] at hg
    simp only [loopT] at hg
    split at hg
    · rename_i m1 h1
      refine .inr ⟨by show i < x.cps.size; omega, fun σ' H' => i + 1 + r = x.cps.size ∧ ∃ m : Ms, EnvOk K c σ' H' m.g m.s us ∧ loopT bd gb ((signsT x).drop (i + 1)) m = some oo, fun σ' H' q => ⟨r, by omega, q⟩, fun y H' hy => ?_⟩
      obtain ⟨rfl, cp, hcp, rfl⟩ := hy
      have ek : (signsT x)[i] = ⟨#[cp]⟩ := by
        have h3 : (signsT x)[i]? = some ⟨#[cp]⟩ := by
          unfold signsT
          rw [List.getElem?_map, Array.getElem?_toList, hcp]
          rfl
        rw [List.getElem?_eq_getElem hi] at h3
        exact Option.some.inj h3
      rw [ek] at h1
      refine hT c σ H' ⟨m.g, _ :: m.s⟩ m1 _ _ _ hm (E.atom _) h1 fun σ2 H2 E2 => ?_
      cases h2 : gb m1 with
      | none => simp [h2] at hg
      | some o2 =>
        refine hB c σ2 H2 m1 _ _ o2 hm E2 h2 ?_
        cases o2 with
        | nx m2 =>
          simp only [h2] at hg
          exact fun σ3 H3 E3 => ⟨by omega, m2, E3, hg⟩
        | ct m2 =>
          simp only [h2] at hg
          exact fun σ3 H3 E3 => ⟨by omega, m2, E3, hg⟩
        | bk m2 =>
          simp only [h2] at hg
          cases hg
          exact hp
        | rt t m2 =>
          simp only [h2] at hg
          cases hg
          exact hp
        | ex C g' =>
          simp only [h2] at hg
          cases hg
          exact hp
    · cases hg
def sForT (ga : GE) (bd : Ms → Option Ms) (body : GS) : GS := fun m => match ga m with
  | some (.ok ⟨g', .tr (.a (.str x)) :: s⟩) => loopT bd body (signsT x) ⟨g', s⟩
  | some (.ex C g) => some (.ex C g)
  | _ => none
theorem ms_forT (ha : ME X T md W e ga) (hT : MG X T md tg bd) (hB : MSs X T md W body gb) (hp : PassesOwn (model X.prog X.w) X.A X.env X.xe) (hc : X.calm = true)
    (hf : ∀ x, foldedSetIterable e X.env x = pure x := by intro _; rfl) : MS X T md W (.For tg e body [] pos) (sForT ga bd gb) := by
  obtain ⟨ta, pa, sa⟩ := ha
  obtain ⟨tt, pt, st⟩ := hT
  obtain ⟨tb, pb, sb⟩ := hB
  refine ⟨_, ps_for hp hc (pi_str pa) pt pb hf, fun c σ H m us D oo hm E hg hpo => ?_⟩
  unfold sForT at hg
  split at hg
  · rename_i g' x s h1
    refine sa c σ H m us _ _ hm E h1 fun v H1 E1 => ?_
    have E1 : EnvOk (kcm X.K T) c σ H1 g' (.tr (.a (.str x)) :: s) (v :: us) := E1
    cases top_a E1
    exact ⟨x, rfl, loopT_ok hm st sb hpo (m := ⟨g', s⟩) E1.drop hg⟩
  · rename_i h1
    cases hg
    exact sa c σ H m us _ _ hm E h1 fun H1 E1 => hpo σ H1 E1
  · cases hg
theorem sForT_e {ga : GE} {bd : Ms → Option Ms} {gb : GS} {m : Ms} {g s : List Ent} {x : Str} (e : ga m = some (.ok ⟨g, .tr (.a (.str x)) :: s⟩)) : sForT ga bd gb m = loopT bd gb (signsT x) ⟨g, s⟩ := by
  unfold sForT
  rw [e]
end
/-! equal dicts of plain values, whatever the order of their keys -/
section
open PySem.Spec PyProof.Rows
variable {X : Cx} {K : KC} {md : List Bool} {W : WX}
end
/-! what is not looked into: the value on top is forgotten, its place stays -/
section
variable {K : KC} {X : Cx} {T : KT} {md : List Bool} {W : WX} {e : Expr} {g : GE} {c : Cz} {σ : St} {H : Hp} {Γ τ : List Ent} {us : List V}
end
/-! powers of whole numbers -/
section
variable {X : Cx} {T : KT} {md : List Bool} {W : WX} {a b : Expr} {ga gb : GE} {pos : Pos}
def cPow : Int → Int → Bool := fun i j => decide (0 ≤ j ∧ j ≤ 1000000 ∧ i.natAbs < 2 ^ 64)
def fPow : GE := fP2 (FI cPow fun i j => .int (i ^ j.toNat))
theorem me_pow (ha : ME X T md W a ga) (hb : ME X T md W b gb) : ME X T md W (.BinOp a .Pow b pos) (gSeq (gSeq ga gb) fPow) := me_bin op_pow (fI_ok (C := cPow) fun _ _ h => (of_decide_eq_true h : _ ∧ _ ∧ _)) ha hb
end
/-! str(i), i a whole number -/
section
variable {K : KC} {md : List Bool} {W : WX}
def FStrI : Tr → Option V
  | .a (.int i) => if i.natAbs.log2 < 1920 then some (.str (toString i)) else none
  | _ => none
def fStrI : GE := fP1 FStrI
theorem fStrI_ok : RA K md W 1 (fun _ xs H Q => ∃ i, xs = [.int i] ∧ i.natAbs.log2 < 1920 ∧ Q (.str (toString i)) H) fStrI := fP1_ok fun σ Z H x tx u Φ Q r e q => by
  unfold FStrI at e
  split at e
  · split at e
    · rename_i hb
      cases e
      exact ⟨_, by rw [r.1], hb, q⟩
    · cases e
  · cases e
end
/-! C(e, .., k = v, ..) whose __init__ may raise -/
section
variable {K : KC} {X : Cx} {T : KT} {md mdc : List Bool} {W : WX} {g ga gk : GE} {e oe : Expr} {es : List Expr} {kws : List Keyword} {pos pp p : Pos} {x : Str} {G : GF} {kk n : Nat} {f C : Addr} {fd : FuncData} {ps ks : List Str} {sp : Sp} {t tk : TA} {CXk : CXT} {Ew : St → XK} {gg : List Value → List Value → List Value} {gV : List V → List V → List V}
theorem run_makeKS {pins : List (Addr × Obj)} {σ : St} {H : Hp} {s : Shared} {Q : VK} {us ws : List Value} {vs zs : List V} {Ex : XK} (M : Mk X.K C f) (F : FnOk X.prog X.w X.K X.mg X.base CXk kk f fd ps sp) (hr : Room (kk + 1) X.A) (hb : KBn X.K fd ps (n + 1) ks gg gV) (hx : PassesAt CXk X σ Ex)
    (I : Inv X pins σ H s) (r : Vals vs us) (rz : Vals zs ws) (l1 : vs.length = n) (l2 : zs.length = ks.length)
    (h : ∀ x dx, H x = none → H dx = none → dx ≠ x → sp (gV (.ref x :: vs) zs) (upd (upd H dx (.own x)) x (.ins C dx [])) (fun v H2 => v = .non ∧ Q (.ref x) H2) Ex) :
    wpAny (model X.prog X.w) X.A (call (.ref C) us (ks.zip ws)) (EP X pins σ Q) X.xe s := by
  have hq := h (s.heap.objs.size + 1) s.heap.objs.size (I.hok.fresh (Nat.le_succ _)) (I.hok.fresh (Nat.le_refl _)) (Nat.ne_of_lt (Nat.lt_succ_self _))
  have I2 := Inv.made (C := C) I
  have r1 : Vals (V.ref (s.heap.objs.size + 1) :: vs) (Value.ref (s.heap.objs.size + 1) :: us) := .cons rfl r
  have r2 := hb.rel r1 rz
  have n1 : (Value.ref (s.heap.objs.size + 1) :: us).length = n + 1 := by
    rw [List.length_cons, ← r.length, l1]
  refine wpAny_call (make_map (f := f) I.kIn M.makes M.init (beq_iff_eq.mp M.fn) (codeAny_mono (F.run _ X.stack _ _ ⟨Value.ref (s.heap.objs.size + 1) :: us, ks.zip ws⟩ (gg (Value.ref (s.heap.objs.size + 1) :: us) ws) _ _ Ex (hr.make C us (ks.zip ws))
    (I2.env0.make C us (ks.zip ws)) (hb.to _ (Value.ref (s.heap.objs.size + 1) :: us) ws I2.kIn n1 (rz.length.symm.trans l2)) r2 hq) fun r s' hq' => ?_))
  match r, hq' with
  | .error e, hq' => exact hx pins _ _ e s' I2 hq'
  | .ok (.ret u), hq' =>
    obtain ⟨v, H', I3, rv, ev, q3⟩ := I2.after hq'
    subst ev
    exact ⟨rv, ⟨V.ref (s.heap.objs.size + 1), H', I3, rfl, q3⟩⟩
def tMakeKS (C : Addr) (n m : Nat) (sp : Sp) (gV : List V → List V → List V) (Ew : St → XK) (t tk : TA) : TE := fun σ H Q => t σ H fun vs H1 => tk σ H1 fun zs H2 => vs.length = n ∧ zs.length = m ∧ ∀ x dx, H2 x = none → H2 dx = none → dx ≠ x →
  sp (gV (.ref x :: vs) zs) (upd (upd H2 dx (.own x)) x (.ins C dx [])) (fun v H3 => v = .non ∧ Q (.ref x) H3) (Ew σ)
theorem pe_makeKS (M : Mk X.K C f) (F : FnOk X.prog X.w X.K X.mg X.base CXk kk f fd ps sp) (hr : Room (kk + 1) X.A) (hg : Gl X x) (hm : X.mg x = some (.ref C)) (hb : KBn X.K fd ps (n + 1) ks gg gV) (hx : ∀ σ, PassesAt CXk X σ (Ew σ)) (ha : PA X (e :: es) t) (hkw : PK X kws tk)
    (hall : (backToKw pos (keywordEach kws X.env)).all (·.1.isSome) = true := by rfl) (hks : (backToKw pos (keywordEach kws X.env)).filterMap (·.1) = ks := by rfl) (hdb : (x == ("__debug__" : Str)) = false := by decide)
    (he : starEach (e :: es) X.env = (false, eval e X.env) :: starEach es X.env := by rfl) (hpl : ((backTo pos (starEach (e :: es) X.env)).any (·.1) || (backToKw pos (keywordEach kws X.env)).any (·.1.isNone)) = false := by rfl) :
    PE X (.Call (.Name x p) (e :: es) kws pos) (tMakeKS C n ks.length sp gV Ew t tk) := by
  refine ⟨fun pins s σ H Q I h => ?_⟩
  refine wpAny_Call_Name_kw (ld_glob I hg hm ?_ hdb)
  refine PySem.W.callWith_KW (h₀ := X.base) I.ok.mod.kin M.kp hall (thn (ha.run pos pins s σ H _ I h) fun us s1 ⟨vs, H1, I1, r, q⟩ => ?_) hpl he
  refine thn (hkw.run pos pins s1 σ H1 _ I1 q) fun ws s2 ⟨zs, H2, I2, rz, l1, l2, q2⟩ => ⟨I2.kIn, ?_⟩
  rw [hks]
  exact run_makeKS M F hr hb (hx σ) I2 r rz l1 l2 q2
theorem seqAKS {tA tK : TA} {R : St → List V → Hp → VK → Prop} {fg : GE} {n n2 : Nat} (sa : SA K md W n tA ga) (sk : SA K md W n2 tK gk) (hf : RA K md W (n + n2) R fg) : SE K md W (fun σ H Q => tA σ H fun vs H1 => tK σ H1 fun zs H2 => vs.length = n ∧ zs.length = n2 ∧ R σ (vs ++ zs) H2 Q) (gSeq ga (gSeq gk fg)) := by
  intro c σ H m us Q rr hc E hg hp
  simp only [gSeq] at hg
  split at hg
  · rename_i m1 h1
    refine sa c σ H m us _ _ hc E h1 fun vs H1 hl E1 => ?_
    split at hg
    · rename_i m2 h2
      refine sk c σ H1 m1 _ _ _ hc E1 h2 fun zs H2 hz E2 => ⟨hl, hz, ?_⟩
      exact hf c σ H2 m2 us (vs ++ zs) Q rr hc (by simp [hl, hz]) (by simpa using E2) hg hp
    · rename_i h2
      refine sk c σ H1 m1 _ _ _ hc E1 hg ?_
      cases rr with
      | ex C g' => exact hp
      | ok m2 => exact absurd hg (h2 m2)
  · rename_i h1
    refine sa c σ H m us _ _ hc E hg ?_
    cases rr with
    | ex C g' => exact hp
    | ok m2 => exact absurd hg (h1 m2)
theorem me_makeKS (M : Mk X.K (T.ct n) f) (F : FnOk X.prog X.w X.K X.mg X.base (L2N.CX X.prog X.w) kk f fd ps (spOf (kcm X.K T) (true :: mdc) G)) (hr : Room (kk + 1) X.A) (tkx : Takes X W) (hg : Gl X x) (hm : X.mg x = some (.ref (T.ct n))) (hb : KBn X.K fd ps ((e :: es).length + 1) ks gg (fun vs zs => vs ++ zs)) (ha : MA X T md W (e :: es) ga) (hkw : MKw X T md W kws gk) (hlk : ks.length = kws.length)
    (hall : (backToKw pos (keywordEach kws X.env)).all (·.1.isSome) = true := by rfl) (hks : (backToKw pos (keywordEach kws X.env)).filterMap (·.1) = ks := by rfl) (hdb : (x == ("__debug__" : Str)) = false := by decide)
    (he : starEach (e :: es) X.env = (false, eval e X.env) :: starEach es X.env := by rfl) (hpl : ((backTo pos (starEach (e :: es) X.env)).any (·.1) || (backToKw pos (keywordEach kws X.env)).any (·.1.isNone)) = false := by rfl) :
    ME X T md W (.Call (.Name x pp) (e :: es) kws pos) (gSeq ga (gSeq gk (gMake n mdc G ((e :: es).length + kws.length)))) := by
  obtain ⟨t, pa, sa⟩ := ha
  obtain ⟨tk, pk, sk⟩ := hkw
  refine ⟨_, pe_makeKS (Ew := WE W) M F hr hg hm hb (fun σ => passAt tkx σ) pa pk hall hks hdb he hpl, ?_⟩
  rw [hlk]
  have key : RA (kcm X.K T) md W ((e :: es).length + kws.length) (fun σ ws H1 Q => ∀ x dx, H1 x = none → H1 dx = none → dx ≠ x → spOf (kcm X.K T) (true :: mdc) G (.ref x :: ws) (upd (upd H1 dx (.own x)) x (.ins (T.ct n) dx [])) (fun v H2 => v = .non ∧ Q (.ref x) H2) (WE W σ)) (gMake n mdc G ((e :: es).length + kws.length)) := fun c σ H m us vs Q rr hc hl E hf hp xa dx h1 h2 h3 => gMake_ok E hl hf hp (fun _ _ h => h) h1 h2 h3
  exact seqAKS sa sk key
end
/-! one sign in a text -/
section
variable {K : KC} {md : List Bool} {W : WX}
def rSgn (neg : Bool) : R2 := fun x y H Q => ∃ (c : Nat) (z : Str), x = .str ⟨#[c]⟩ ∧ y = .str z ∧ Q (.bl (if neg then !decide (c ∈ z.cps.toList) else decide (c ∈ z.cps.toList))) H
def FInSg (neg : Bool) : Tr → Tr → Option V
  | .a (.str ⟨⟨[c]⟩⟩), .a (.str z) => some (.bl (if neg then !decide (c ∈ z.cps.toList) else decide (c ∈ z.cps.toList)))
  | _, _ => none
def fNotInSg : GE := fP2 (FInSg true)
theorem fInSg_ok {neg : Bool} : RA2 K md W (rSgn neg) (fP2 (FInSg neg)) := fP2_ok fun Z H x y tx ty u Φ Ψ Q r1 r2 e q => by
  unfold FInSg at e
  split at e
  · rename_i c z
    cases e
    exact ⟨c, z, r1.1, r2.1, q⟩
  · cases e
theorem op_notinsg {X : Cx} : OpR X (compareOp .NotIn) (rSgn true) := op_notIn_sign
end
/-! int(text) -/
section
variable {K : KC} {md : List Bool} {W : WX}
def FIntS : Tr → Option V
  | .a (.str a) => if a.length ≤ 640 then (PySem.intText? a).map V.int else none
  | _ => none
def fIntS : GE := fP1 FIntS
theorem fIntS_ok : RA K md W 1 (fun _ xs H Q => ∃ a n, xs = [.str a] ∧ PySem.intText? a = some n ∧ a.length ≤ 640 ∧ Q (.int n) H) fIntS := fP1_ok fun σ Z H x tx u Φ Q r e q => by
  unfold FIntS at e
  split at e
  · rename_i a
    split at e
    · rename_i hb
      cases h : PySem.intText? a with
      | none => rw [h] at e; cases e
      | some n =>
        rw [h] at e
        cases e
        exact ⟨a, n, by rw [r.1], h, hb, q⟩
    · cases e
  · cases e
end
/-! a tuple that is not looked into -/
section
variable {K : KC} {X : Cx} {T : KT} {md : List Bool} {W : WX} {e : Expr} {g : GE}
end
/-! a text times a whole number -/
section
variable {K : KC} {X : Cx} {T : KT} {md : List Bool} {W : WX} {a b : Expr} {ga gb : GE} {pos : Pos}
def repS (a : Str) (k : Int) : Str := if k < 1 then Str.empty else if (k == 1 || a.length == 0) = true then a else ⟨(List.replicate k.toNat a.cps).foldl (· ++ ·) #[]⟩
def rRepS : R2 := fun x y H Q => ∃ (a : Str) (k : Int), x = .str a ∧ y = .int k ∧ -1000 ≤ k ∧ k ≤ 1000 ∧ a.length ≤ 1000 ∧ Q (.str (repS a k)) H
theorem fold_size (c : Array Nat) : ∀ (n : Nat) (acc : Array Nat), (List.foldl (fun x1 x2 => x1 ++ x2) acc (List.replicate n c)).size = acc.size + n * c.size
  | 0, acc => by simp
  | n + 1, acc => by
    rw [List.replicate_succ, List.foldl_cons, fold_size c n, Array.size_append, Nat.succ_mul]
    omega
theorem op_repS : OpR X (binaryOp .Mult) rRepS := by
  intro pins s σ H x y v u Q I rx ry h
  obtain ⟨a, k, rfl, rfl, h1, h2, h3, q⟩ := h
  obtain ⟨t, rfl⟩ := rx
  obtain ⟨t', rfl⟩ := ry
  refine PySem.P.mul_str (by rw [decide_eq_false (by omega), decide_eq_false (by omega)]; rfl) (fun n1 _ z => ?_) (fun n1 _ => ?_) ?_
  · have e1 := Int.lt_ediv_add_one_mul_self (2 ^ 63 - 1) (show 0 < k by omega)
    have e2 : ((2 ^ 63 - 1) / k + 1) * k ≤ 1000 * 1000 := Int.mul_le_mul (by omega) h2 (by omega) (by decide)
    omega
  · have e2 : a.length * k.toNat ≤ 1000 * 1000 := Nat.mul_le_mul h3 (by omega)
    unfold Builtin.Str.tooLong
    have e3 : 1000 * 1000 ≤ sizeLine := by decide
    exact decide_eq_false (by omega)
  · unfold repS at q
    split
    · rename_i c
      rw [if_pos c] at q
      exact ⟨by decide, .str _, H, I.tok _, ⟨_, rfl⟩, q⟩
    · rename_i c
      rw [if_neg c] at q
      split
      · rename_i c2
        rw [if_pos c2] at q
        exact ⟨.str _, H, I, ⟨_, rfl⟩, q⟩
      · rename_i c2
        rw [if_neg c2] at q
        refine ⟨?_, .str _, H, I.tok _, ⟨_, rfl⟩, q⟩
        have e2 : k.toNat * a.cps.size ≤ 1000 * 1000 := Nat.mul_le_mul (by omega) h3
        have e3 : 1000 * 1000 ≤ sizeLine := by decide
        show (List.foldl (fun x1 x2 => x1 ++ x2) #[] (List.replicate k.toNat a.cps)).size ≤ sizeLine
        rw [fold_size]
        show 0 + _ ≤ _
        omega
def FRepS : Tr → Tr → Option V
  | .a (.str a), .a (.int k) => if -1000 ≤ k ∧ k ≤ 1000 ∧ a.length ≤ 1000 then some (.str (repS a k)) else none
  | _, _ => none
def fRepS : GE := fP2 FRepS
theorem fRepS_ok : RA2 K md W rRepS (fP2 FRepS) := fP2_ok fun Z H x y tx ty u Φ Ψ Q r1 r2 e q => by
  unfold FRepS at e
  split at e
  · rename_i a k
    split at e
    · rename_i h
      cases e
      exact ⟨a, k, r1.1, r2.1, h.1, h.2.1, h.2.2, q⟩
    · cases e
  · cases e
theorem me_repS (ha : ME X T md W a ga) (hb : ME X T md W b gb) : ME X T md W (.BinOp a .Mult b pos) (gSeq (gSeq ga gb) fRepS) := me_bin op_repS fRepS_ok ha hb
end
def top (i : Nat) : Stmt := PySem.Challenge.pw_lotsandties_k75_numbers_words_and_plans.main.body.getD i (.Pass ⟨0, 0, 0, 0⟩)
abbrev s_read_number : Stmt := top 9
theorem sc_read_number : FnScope ["word", "most", "sign", "number"] ["word", "most"] (defScope s_read_number) := ⟨rfl, rfl, rfl, by decide +kernel, rfl, by decide +kernel, by decide +kernel⟩
abbrev s_split_words : Stmt := top 10
theorem sc_split_words : FnScope ["line", "words", "word"] ["line"] (defScope s_split_words) := ⟨rfl, rfl, rfl, by decide +kernel, rfl, by decide +kernel, by decide +kernel⟩
abbrev s_law_feed : Stmt := top 14
theorem sc_law_feed : FnScope ["_law_script", "_law_feed_here", "_law_cell", "_law_rest", "_law_k"] ["_law_script"] (defScope s_law_feed) := ⟨rfl, rfl, rfl, by decide +kernel, rfl, by decide +kernel, by decide +kernel⟩
abbrev s_law_pick : Stmt := top 15
theorem sc_law_pick : FnScope ["_law_feed_here", "_law_limit"] ["_law_feed_here", "_law_limit"] (defScope s_law_pick) := ⟨rfl, rfl, rfl, by decide +kernel, rfl, by decide +kernel, by decide +kernel⟩
abbrev s_law_same : Stmt := top 16
theorem sc_law_same : FnScope ["_law_actual", "_law_due", "_law_k"] ["_law_actual", "_law_due"] (defScope s_law_same) := ⟨rfl, rfl, rfl, by decide +kernel, rfl, by decide +kernel, by decide +kernel⟩
abbrev s_law_error : Stmt := top 17
theorem sc_law_error : FnScope ["_law_e", "_law_told", "_law_name", "_law_holds"] ["_law_e"] (defScope s_law_error) := ⟨rfl, rfl, rfl, by decide +kernel, rfl, by decide +kernel, by decide +kernel⟩
abbrev s_law_read_number : Stmt := top 18
theorem sc_law_read_number : FnScope ["_law_word_here", "_law_most", "_law_e"] ["_law_word_here", "_law_most"] (defScope s_law_read_number) := ⟨rfl, rfl, rfl, by decide +kernel, rfl, by decide +kernel, by decide +kernel⟩
abbrev s_law_split : Stmt := top 19
theorem sc_law_split : FnScope ["_law_line_here", "_law_e"] ["_law_line_here"] (defScope s_law_split) := ⟨rfl, rfl, rfl, by decide +kernel, rfl, by decide +kernel, by decide +kernel⟩
abbrev s_law_make : Stmt := top 20
theorem sc_law_make : FnScope ["_law_blocks", "_law_many", "_law_places", "_law_e"] ["_law_blocks", "_law_many", "_law_places"] (defScope s_law_make) := ⟨rfl, rfl, rfl, by decide +kernel, rfl, by decide +kernel, by decide +kernel⟩
abbrev s_law_read_plan : Stmt := top 21
theorem sc_law_read_plan : FnScope ["_law_line_here", "_law_e"] ["_law_line_here"] (defScope s_law_read_plan) := ⟨rfl, rfl, rfl, by decide +kernel, rfl, by decide +kernel, by decide +kernel⟩
abbrev s_law_sign : Stmt := top 22
theorem sc_law_sign : FnScope ["_law_feed_here", "_law_signs", "_law_choice"] ["_law_feed_here"] (defScope s_law_sign) := ⟨rfl, rfl, rfl, by decide +kernel, rfl, by decide +kernel, by decide +kernel⟩
abbrev s_law_changed : Stmt := top 23
theorem sc_law_changed : FnScope ["_law_feed_here", "_law_text", "_law_choice", "_law_at"] ["_law_feed_here", "_law_text"] (defScope s_law_changed) := ⟨rfl, rfl, rfl, by decide +kernel, rfl, by decide +kernel, by decide +kernel⟩
abbrev s_law_spoilt : Stmt := top 24
theorem sc_law_spoilt : FnScope ["_law_feed_here", "_law_word_here", "_law_choice"] ["_law_feed_here", "_law_word_here"] (defScope s_law_spoilt) := ⟨rfl, rfl, rfl, by decide +kernel, rfl, by decide +kernel, by decide +kernel⟩
abbrev s_law_word : Stmt := top 25
theorem sc_law_word : FnScope ["_law_feed_here", "_law_choice", "_law_number_here"] ["_law_feed_here"] (defScope s_law_word) := ⟨rfl, rfl, rfl, by decide +kernel, rfl, by decide +kernel, by decide +kernel⟩
abbrev s_law_any : Stmt := top 26
theorem sc_law_any : FnScope ["_law_feed_here", "_law_choice"] ["_law_feed_here"] (defScope s_law_any) := ⟨rfl, rfl, rfl, by decide +kernel, rfl, by decide +kernel, by decide +kernel⟩
abbrev s_law_line : Stmt := top 27
theorem sc_law_line : FnScope ["_law_feed_here", "_law_line_here", "_law_words_here", "_law_choice", "_law_at"] ["_law_feed_here", "_law_line_here"] (defScope s_law_line) := ⟨rfl, rfl, rfl, by decide +kernel, rfl, by decide +kernel, by decide +kernel⟩
abbrev s_law_number : Stmt := top 28
theorem sc_law_number : FnScope ["_law_word_here", "_law_number_here", "_law_sign_here"] ["_law_word_here"] (defScope s_law_number) := ⟨rfl, rfl, rfl, by decide +kernel, rfl, by decide +kernel, by decide +kernel⟩
abbrev s_law_words : Stmt := top 29
theorem sc_law_words : FnScope ["_law_line_here", "_law_words_here", "_law_word_here", "_law_sign_here"] ["_law_line_here"] (defScope s_law_words) := ⟨rfl, rfl, rfl, by decide +kernel, rfl, by decide +kernel, by decide +kernel⟩
abbrev s_law_good_plan : Stmt := top 30
theorem sc_law_good_plan : FnScope ["_law_blocks", "_law_many", "_law_places", "_law_maps", "_law_x"] ["_law_blocks", "_law_many", "_law_places"] (defScope s_law_good_plan) := ⟨rfl, rfl, rfl, by decide +kernel, rfl, by decide +kernel, by decide +kernel⟩
abbrev s_law_is_plan : Stmt := top 31
abbrev N_law_is_plan : List Str := ["_law_plan", "_law_blocks", "_law_many", "_law_places", "_law_maps", "_law_x", "_law_told", "_law_map_places", "_law_n", "_law_due", "_law_data"]
theorem sc_law_is_plan : FnScope ["_law_plan", "_law_blocks", "_law_many", "_law_places", "_law_maps", "_law_x", "_law_told", "_law_map_places", "_law_n", "_law_due", "_law_data"] ["_law_plan", "_law_blocks", "_law_many", "_law_places"] (defScope s_law_is_plan) := ⟨rfl, rfl, rfl, by decide +kernel, rfl, by decide +kernel, by decide +kernel⟩
abbrev s_law_near : Stmt := top 32
theorem sc_law_near : FnScope ["_law_feed_here", "_law_edges", "_law_most", "_law_at", "_law_edge"] ["_law_feed_here", "_law_edges", "_law_most"] (defScope s_law_near) := ⟨rfl, rfl, rfl, by decide +kernel, rfl, by decide +kernel, by decide +kernel⟩
abbrev s_law_plan_read : Stmt := top 33
abbrev N_law_plan_read : List Str := ["_law_plan", "_law_line_here", "_law_words_here", "_law_numbers_here", "_law_word_here"]
theorem sc_law_plan_read : FnScope ["_law_plan", "_law_line_here", "_law_words_here", "_law_numbers_here", "_law_word_here"] ["_law_plan", "_law_line_here"] (defScope s_law_plan_read) := ⟨rfl, rfl, rfl, by decide +kernel, rfl, by decide +kernel, by decide +kernel⟩
abbrev s_law_plans : Stmt := top 34
theorem sc_law_plans : FnScope ["_law_feed_here", "_law_made", "_law_k", "_law_blocks", "_law_maps", "_law_many", "_law_places", "_law_plan", "_law_good", "_law_line_here", "_law_spoilt_here"] ["_law_feed_here"] (defScope s_law_plans) := ⟨rfl, rfl, rfl, by decide +kernel, rfl, by decide +kernel, by decide +kernel⟩
abbrev s_law_numbers : Stmt := top 35
theorem sc_law_numbers : FnScope ["_law_feed_here", "_law_k", "_law_word_here", "_law_number_here", "_law_most", "_law_due"] ["_law_feed_here"] (defScope s_law_numbers) := ⟨rfl, rfl, rfl, by decide +kernel, rfl, by decide +kernel, by decide +kernel⟩
abbrev s_law_lines : Stmt := top 36
abbrev N_law_lines : List Str := ["_law_feed_here", "_law_k", "_law_words_here", "_law_j", "_law_line_here", "_law_due", "_law_first"]
theorem sc_law_lines : FnScope ["_law_feed_here", "_law_k", "_law_words_here", "_law_j", "_law_line_here", "_law_due", "_law_first"] ["_law_feed_here"] (defScope s_law_lines) := ⟨rfl, rfl, rfl, by decide +kernel, rfl, by decide +kernel, by decide +kernel⟩
abbrev s_law : Stmt := top 37
theorem sc_law : FnScope ["_law_script", "_law_feed_here", "_law_told"] ["_law_script"] (defScope s_law) := ⟨rfl, rfl, rfl, by decide +kernel, rfl, by decide +kernel, by decide +kernel⟩
abbrev s_Plan_init : Stmt := inClass (top 12) 6
theorem sc_Plan_init : FnScope ["self", "blocks", "nodes", "slots", "maps"] ["self", "blocks", "nodes", "slots"] (defScope s_Plan_init) := ⟨rfl, rfl, rfl, by decide +kernel, rfl, by decide +kernel, by decide +kernel⟩
abbrev s_Plan_text : Stmt := inClass (top 12) 8
theorem sc_Plan_text : FnScope ["self"] ["self"] (defScope s_Plan_text) := ⟨rfl, rfl, rfl, by decide +kernel, rfl, by decide +kernel, by decide +kernel⟩
abbrev s_Plan_map_place : Stmt := inClass (top 12) 9
theorem sc_Plan_map_place : FnScope ["self", "x"] ["self", "x"] (defScope s_Plan_map_place) := ⟨rfl, rfl, rfl, by decide +kernel, rfl, by decide +kernel, by decide +kernel⟩
abbrev s_Plan_node_block : Stmt := inClass (top 12) 10
theorem sc_Plan_node_block : FnScope ["self", "n"] ["self", "n"] (defScope s_Plan_node_block) := ⟨rfl, rfl, rfl, by decide +kernel, rfl, by decide +kernel, by decide +kernel⟩
abbrev s_Plan_data_blocks : Stmt := inClass (top 12) 11
theorem sc_Plan_data_blocks : FnScope ["self"] ["self"] (defScope s_Plan_data_blocks) := ⟨rfl, rfl, rfl, by decide +kernel, rfl, by decide +kernel, by decide +kernel⟩
abbrev s_Plan_read : Stmt := inClass (top 12) 7
theorem sc_Plan_read : FnScope ["line", "words", "blocks", "nodes", "slots"] ["line"] (defScope s_Plan_read) := ⟨rfl, rfl, rfl, by decide +kernel, rfl, by decide +kernel, by decide +kernel⟩
/-- what the top has left -/
structure Txt (K : PySem.W.Frag) (mg : Str → Option Value) where
  c_Plan : Addr
  C_Plan : Cls K c_Plan
  g_Plan : mg "Plan" = some (.ref c_Plan)
  kp_Plan : PySem.W.keepIn K (.ref c_Plan) = true
  mk_Plan : PySem.W.makesIn K c_Plan = true
  n_Plan_blocks : NoAttr K c_Plan "blocks"
  n_Plan_nodes : NoAttr K c_Plan "nodes"
  n_Plan_slots : NoAttr K c_Plan "slots"
  n_Plan_maps : NoAttr K c_Plan "maps"
  n_Plan_first_node : NoAttr K c_Plan "first_node"
  n_Plan_first_data : NoAttr K c_Plan "first_data"
  in_Plan : C8.InsC K c_Plan
  r_Plan : ClX.CRead K c_Plan (.type "type")
  t_Plan_WIDTH : Tok
  k_Plan_WIDTH : ClX.CVal K c_Plan (.type "type") "WIDTH" (.int 8) (.int 8 t_Plan_WIDTH)
  t_Plan_OWNERS : Tok
  k_Plan_OWNERS : ClX.CVal K c_Plan (.type "type") "OWNERS" (.int 4) (.int 4 t_Plan_OWNERS)
  t_Plan_LONGEST : Tok
  k_Plan_LONGEST : ClX.CVal K c_Plan (.type "type") "LONGEST" (.int 80) (.int 80 t_Plan_LONGEST)
  t_Plan_FREE : Tok
  k_Plan_FREE : ClX.CVal K c_Plan (.type "type") "FREE" (.int 0) (.int 0 t_Plan_FREE)
  t_Plan_LOGGED : Tok
  k_Plan_LOGGED : ClX.CVal K c_Plan (.type "type") "LOGGED" (.int 1) (.int 1 t_Plan_LOGGED)
  t_Plan_PLAIN : Tok
  k_Plan_PLAIN : ClX.CVal K c_Plan (.type "type") "PLAIN" (.int 2) (.int 2 t_Plan_PLAIN)
  a_read_number : Addr
  fd_read_number : FuncData
  F_read_number : Fun K "read_number" "read_number" s_read_number a_read_number fd_read_number
  b_read_number : Binds K fd_read_number ["word", "most"] []
  m_read_number : mg "read_number" = some (.ref a_read_number)
  a_split_words : Addr
  fd_split_words : FuncData
  F_split_words : Fun K "split_words" "split_words" s_split_words a_split_words fd_split_words
  b_split_words : Binds K fd_split_words ["line"] []
  m_split_words : mg "split_words" = some (.ref a_split_words)
  a_law_feed : Addr
  fd_law_feed : FuncData
  F_law_feed : Fun K "_law_feed" "_law_feed" s_law_feed a_law_feed fd_law_feed
  b_law_feed : Binds K fd_law_feed ["_law_script"] []
  m_law_feed : mg "_law_feed" = some (.ref a_law_feed)
  a_law_pick : Addr
  fd_law_pick : FuncData
  F_law_pick : Fun K "_law_pick" "_law_pick" s_law_pick a_law_pick fd_law_pick
  b_law_pick : Binds K fd_law_pick ["_law_feed_here", "_law_limit"] []
  m_law_pick : mg "_law_pick" = some (.ref a_law_pick)
  a_law_same : Addr
  fd_law_same : FuncData
  F_law_same : Fun K "_law_same" "_law_same" s_law_same a_law_same fd_law_same
  b_law_same : Binds K fd_law_same ["_law_actual", "_law_due"] []
  m_law_same : mg "_law_same" = some (.ref a_law_same)
  a_law_error : Addr
  fd_law_error : FuncData
  F_law_error : Fun K "_law_error" "_law_error" s_law_error a_law_error fd_law_error
  b_law_error : Binds K fd_law_error ["_law_e"] []
  m_law_error : mg "_law_error" = some (.ref a_law_error)
  a_law_read_number : Addr
  fd_law_read_number : FuncData
  F_law_read_number : Fun K "_law_read_number" "_law_read_number" s_law_read_number a_law_read_number fd_law_read_number
  b_law_read_number : Binds K fd_law_read_number ["_law_word_here", "_law_most"] []
  m_law_read_number : mg "_law_read_number" = some (.ref a_law_read_number)
  a_law_split : Addr
  fd_law_split : FuncData
  F_law_split : Fun K "_law_split" "_law_split" s_law_split a_law_split fd_law_split
  b_law_split : Binds K fd_law_split ["_law_line_here"] []
  m_law_split : mg "_law_split" = some (.ref a_law_split)
  a_law_make : Addr
  fd_law_make : FuncData
  F_law_make : Fun K "_law_make" "_law_make" s_law_make a_law_make fd_law_make
  b_law_make : Binds K fd_law_make ["_law_blocks", "_law_many", "_law_places"] []
  m_law_make : mg "_law_make" = some (.ref a_law_make)
  a_law_read_plan : Addr
  fd_law_read_plan : FuncData
  F_law_read_plan : Fun K "_law_read_plan" "_law_read_plan" s_law_read_plan a_law_read_plan fd_law_read_plan
  b_law_read_plan : Binds K fd_law_read_plan ["_law_line_here"] []
  m_law_read_plan : mg "_law_read_plan" = some (.ref a_law_read_plan)
  a_law_sign : Addr
  fd_law_sign : FuncData
  F_law_sign : Fun K "_law_sign" "_law_sign" s_law_sign a_law_sign fd_law_sign
  b_law_sign : Binds K fd_law_sign ["_law_feed_here"] []
  m_law_sign : mg "_law_sign" = some (.ref a_law_sign)
  a_law_changed : Addr
  fd_law_changed : FuncData
  F_law_changed : Fun K "_law_changed" "_law_changed" s_law_changed a_law_changed fd_law_changed
  b_law_changed : Binds K fd_law_changed ["_law_feed_here", "_law_text"] []
  m_law_changed : mg "_law_changed" = some (.ref a_law_changed)
  a_law_spoilt : Addr
  fd_law_spoilt : FuncData
  F_law_spoilt : Fun K "_law_spoilt" "_law_spoilt" s_law_spoilt a_law_spoilt fd_law_spoilt
  b_law_spoilt : Binds K fd_law_spoilt ["_law_feed_here", "_law_word_here"] []
  m_law_spoilt : mg "_law_spoilt" = some (.ref a_law_spoilt)
  a_law_word : Addr
  fd_law_word : FuncData
  F_law_word : Fun K "_law_word" "_law_word" s_law_word a_law_word fd_law_word
  b_law_word : Binds K fd_law_word ["_law_feed_here"] []
  m_law_word : mg "_law_word" = some (.ref a_law_word)
  a_law_any : Addr
  fd_law_any : FuncData
  F_law_any : Fun K "_law_any" "_law_any" s_law_any a_law_any fd_law_any
  b_law_any : Binds K fd_law_any ["_law_feed_here"] []
  m_law_any : mg "_law_any" = some (.ref a_law_any)
  a_law_line : Addr
  fd_law_line : FuncData
  F_law_line : Fun K "_law_line" "_law_line" s_law_line a_law_line fd_law_line
  b_law_line : Binds K fd_law_line ["_law_feed_here", "_law_line_here"] []
  m_law_line : mg "_law_line" = some (.ref a_law_line)
  a_law_number : Addr
  fd_law_number : FuncData
  F_law_number : Fun K "_law_number" "_law_number" s_law_number a_law_number fd_law_number
  b_law_number : Binds K fd_law_number ["_law_word_here"] []
  m_law_number : mg "_law_number" = some (.ref a_law_number)
  a_law_words : Addr
  fd_law_words : FuncData
  F_law_words : Fun K "_law_words" "_law_words" s_law_words a_law_words fd_law_words
  b_law_words : Binds K fd_law_words ["_law_line_here"] []
  m_law_words : mg "_law_words" = some (.ref a_law_words)
  a_law_good_plan : Addr
  fd_law_good_plan : FuncData
  F_law_good_plan : Fun K "_law_good_plan" "_law_good_plan" s_law_good_plan a_law_good_plan fd_law_good_plan
  b_law_good_plan : Binds K fd_law_good_plan ["_law_blocks", "_law_many", "_law_places"] []
  m_law_good_plan : mg "_law_good_plan" = some (.ref a_law_good_plan)
  a_law_is_plan : Addr
  fd_law_is_plan : FuncData
  F_law_is_plan : Fun K "_law_is_plan" "_law_is_plan" s_law_is_plan a_law_is_plan fd_law_is_plan
  b_law_is_plan : Binds K fd_law_is_plan ["_law_plan", "_law_blocks", "_law_many", "_law_places"] []
  m_law_is_plan : mg "_law_is_plan" = some (.ref a_law_is_plan)
  a_law_near : Addr
  fd_law_near : FuncData
  F_law_near : Fun K "_law_near" "_law_near" s_law_near a_law_near fd_law_near
  b_law_near : Binds K fd_law_near ["_law_feed_here", "_law_edges", "_law_most"] []
  m_law_near : mg "_law_near" = some (.ref a_law_near)
  a_law_plan_read : Addr
  fd_law_plan_read : FuncData
  F_law_plan_read : Fun K "_law_plan_read" "_law_plan_read" s_law_plan_read a_law_plan_read fd_law_plan_read
  b_law_plan_read : Binds K fd_law_plan_read ["_law_plan", "_law_line_here"] []
  m_law_plan_read : mg "_law_plan_read" = some (.ref a_law_plan_read)
  a_law_plans : Addr
  fd_law_plans : FuncData
  F_law_plans : Fun K "_law_plans" "_law_plans" s_law_plans a_law_plans fd_law_plans
  b_law_plans : Binds K fd_law_plans ["_law_feed_here"] []
  m_law_plans : mg "_law_plans" = some (.ref a_law_plans)
  a_law_numbers : Addr
  fd_law_numbers : FuncData
  F_law_numbers : Fun K "_law_numbers" "_law_numbers" s_law_numbers a_law_numbers fd_law_numbers
  b_law_numbers : Binds K fd_law_numbers ["_law_feed_here"] []
  m_law_numbers : mg "_law_numbers" = some (.ref a_law_numbers)
  a_law_lines : Addr
  fd_law_lines : FuncData
  F_law_lines : Fun K "_law_lines" "_law_lines" s_law_lines a_law_lines fd_law_lines
  b_law_lines : Binds K fd_law_lines ["_law_feed_here"] []
  m_law_lines : mg "_law_lines" = some (.ref a_law_lines)
  a_law : Addr
  fd_law : FuncData
  F_law : Fun K "law" "law" s_law a_law fd_law
  b_law : Binds K fd_law ["_law_script"] []
  m_law : mg "law" = some (.ref a_law)
  a_Plan_init : Addr
  fd_Plan_init : FuncData
  F_Plan_init : Fun K "__init__" "Plan.__init__" s_Plan_init a_Plan_init fd_Plan_init
  b_Plan_init : KBn K fd_Plan_init ["self", "blocks", "nodes", "slots"] 2 ["nodes", "slots"] (fun us ws => us ++ ws) (fun vs zs => vs ++ zs)
  m_Plan_init : Mk K c_Plan a_Plan_init
  a_Plan_text : Addr
  fd_Plan_text : FuncData
  F_Plan_text : Fun K "text" "Plan.text" s_Plan_text a_Plan_text fd_Plan_text
  b_Plan_text : Binds K fd_Plan_text ["self"] []
  m_Plan_text : Meth K c_Plan "text" a_Plan_text
  a_Plan_map_place : Addr
  fd_Plan_map_place : FuncData
  F_Plan_map_place : Fun K "map_place" "Plan.map_place" s_Plan_map_place a_Plan_map_place fd_Plan_map_place
  b_Plan_map_place : Binds K fd_Plan_map_place ["self", "x"] []
  m_Plan_map_place : Meth K c_Plan "map_place" a_Plan_map_place
  a_Plan_node_block : Addr
  fd_Plan_node_block : FuncData
  F_Plan_node_block : Fun K "node_block" "Plan.node_block" s_Plan_node_block a_Plan_node_block fd_Plan_node_block
  b_Plan_node_block : Binds K fd_Plan_node_block ["self", "n"] []
  m_Plan_node_block : Meth K c_Plan "node_block" a_Plan_node_block
  a_Plan_data_blocks : Addr
  fd_Plan_data_blocks : FuncData
  F_Plan_data_blocks : Fun K "data_blocks" "Plan.data_blocks" s_Plan_data_blocks a_Plan_data_blocks fd_Plan_data_blocks
  b_Plan_data_blocks : Binds K fd_Plan_data_blocks ["self"] []
  m_Plan_data_blocks : Meth K c_Plan "data_blocks" a_Plan_data_blocks
  a_Plan_read : Addr
  fd_Plan_read : FuncData
  F_Plan_read : Fun K "read" "Plan.read" s_Plan_read a_Plan_read fd_Plan_read
  b_Plan_read : Binds K fd_Plan_read ["line"] []
  m_Plan_read : SMet K c_Plan "read" a_Plan_read
  n_ValueError : mg "ValueError" = none
  n_abs : mg "abs" = none
  n_bool : mg "bool" = none
  n_int : mg "int" = none
  n_isinstance : mg "isinstance" = none
  n_len : mg "len" = none
  n_list : mg "list" = none
  n_max : mg "max" = none
  n_range : mg "range" = none
  n_staticmethod : mg "staticmethod" = none
  n_str : mg "str" = none
  n_tuple : mg "tuple" = none
  t_DIGITS : Tok
  g_DIGITS : mg "DIGITS" = some (.str "0123456789" t_DIGITS)
  e_BadValue : Addr
  g_BadValue : mg "BadValue" = some (.ref e_BadValue)
  x_BadValue : PySem.W.excIn K e_BadValue [.type "ValueError", .type "Exception", .type "BaseException", .type "object"] "ValueError.__new__" = true
  k_BadValue : PySem.W.keepIn K (.ref e_BadValue) = true
  sb_BadValue : PySem.W.subIn K (.ref e_BadValue) (.type "BaseException") = some true
  ty_BadValue : PySem.W.typeIn K (.ref e_BadValue) = some (.type "type")
  is_BadValue : ExcC K e_BadValue
  e_BadText : Addr
  g_BadText : mg "BadText" = some (.ref e_BadText)
  x_BadText : PySem.W.excIn K e_BadText [.type "ValueError", .type "Exception", .type "BaseException", .type "object"] "ValueError.__new__" = true
  k_BadText : PySem.W.keepIn K (.ref e_BadText) = true
  sb_BadText : PySem.W.subIn K (.ref e_BadText) (.type "BaseException") = some true
  ty_BadText : PySem.W.typeIn K (.ref e_BadText) = some (.type "type")
  is_BadText : ExcC K e_BadText
  e_StoreError : Addr
  g_StoreError : mg "StoreError" = some (.ref e_StoreError)
  x_StoreError : PySem.W.excIn K e_StoreError [.type "ValueError", .type "Exception", .type "BaseException", .type "object"] "ValueError.__new__" = true
  k_StoreError : PySem.W.keepIn K (.ref e_StoreError) = true
  sb_StoreError : PySem.W.subIn K (.ref e_StoreError) (.type "BaseException") = some true
  ty_StoreError : PySem.W.typeIn K (.ref e_StoreError) = some (.type "type")
  is_StoreError : ExcC K e_StoreError
  e_Refused : Addr
  g_Refused : mg "Refused" = some (.ref e_Refused)
  k_Refused : PySem.W.keepIn K (.ref e_Refused) = true
  sb_Refused : PySem.W.subIn K (.ref e_Refused) (.type "BaseException") = some true
  ty_Refused : PySem.W.typeIn K (.ref e_Refused) = some (.type "type")
  is_Refused : ExcC K e_Refused
  e_NotNow : Addr
  g_NotNow : mg "NotNow" = some (.ref e_NotNow)
  k_NotNow : PySem.W.keepIn K (.ref e_NotNow) = true
  sb_NotNow : PySem.W.subIn K (.ref e_NotNow) (.type "BaseException") = some true
  ty_NotNow : PySem.W.typeIn K (.ref e_NotNow) = some (.type "type")
  is_NotNow : ExcC K e_NotNow
  e_NotLet : Addr
  g_NotLet : mg "NotLet" = some (.ref e_NotLet)
  k_NotLet : PySem.W.keepIn K (.ref e_NotLet) = true
  sb_NotLet : PySem.W.subIn K (.ref e_NotLet) (.type "BaseException") = some true
  ty_NotLet : PySem.W.typeIn K (.ref e_NotLet) = some (.type "type")
  is_NotLet : ExcC K e_NotLet
  m_BadValue_StoreError : PySem.W.exmOne K (.ref e_BadValue) (.ref e_StoreError) = some true
  m_BadText_StoreError : PySem.W.exmOne K (.ref e_BadText) (.ref e_StoreError) = some true
  i_BadValue_BadText : PySem.W.kitOne K (.ref e_BadValue) (.ref e_BadText) = some false
  i_BadValue_BadValue : PySem.W.kitOne K (.ref e_BadValue) (.ref e_BadValue) = some true
  i_BadValue_Refused : PySem.W.kitOne K (.ref e_BadValue) (.ref e_Refused) = some false
  i_BadValue_NotNow : PySem.W.kitOne K (.ref e_BadValue) (.ref e_NotNow) = some false
  i_BadValue_NotLet : PySem.W.kitOne K (.ref e_BadValue) (.ref e_NotLet) = some false
  i_BadValue_ValueError : PySem.W.kitOne K (.ref e_BadValue) (.type "ValueError") = some true
  i_BadText_BadText : PySem.W.kitOne K (.ref e_BadText) (.ref e_BadText) = some true
  i_BadText_BadValue : PySem.W.kitOne K (.ref e_BadText) (.ref e_BadValue) = some false
  i_BadText_Refused : PySem.W.kitOne K (.ref e_BadText) (.ref e_Refused) = some false
  i_BadText_NotNow : PySem.W.kitOne K (.ref e_BadText) (.ref e_NotNow) = some false
  i_BadText_NotLet : PySem.W.kitOne K (.ref e_BadText) (.ref e_NotLet) = some false
  i_BadText_ValueError : PySem.W.kitOne K (.ref e_BadText) (.type "ValueError") = some true
-- excs BadValue BadText StoreError Refused NotNow NotLet
-- classes Plan
def cnm : Nat → List Str
  | 0 => ["blocks", "nodes", "slots", "maps", "first_node", "first_data"]
  | _ => []
noncomputable section
variable {P : Program} {w : World} {K : PySem.W.Frag} {mg : Str → Option Value} {base : Heap}
def kct (T : Txt K mg) : Nat → Addr
  | 0 => T.c_Plan
  | _ => 0
def ket (T : Txt K mg) : Nat → Addr
  | 0 => T.e_BadValue
  | 1 => T.e_BadText
  | 2 => T.e_StoreError
  | 3 => T.e_Refused
  | 4 => T.e_NotNow
  | 5 => T.e_NotLet
  | _ => 0
def efs : Nat → Option (Str × Str)
  | _ => none
abbrev kt (P : Program) (w : World) (T : Txt K mg) : KT := ⟨P, w, kct T, cnm, ket T, efs⟩
abbrev tab_blocks : List (Nat × Nat) := [(0, 0)]
theorem fo_blocks (T : Txt K mg) : FldOk K (kt P w T) "blocks" tab_blocks := (.cons T.C_Plan T.n_Plan_blocks (show (cnm 0).idxOf? ("blocks" : Str) = some 0 by decide +kernel) .nil)
abbrev tab_nodes : List (Nat × Nat) := [(0, 1)]
theorem fo_nodes (T : Txt K mg) : FldOk K (kt P w T) "nodes" tab_nodes := (.cons T.C_Plan T.n_Plan_nodes (show (cnm 0).idxOf? ("nodes" : Str) = some 1 by decide +kernel) .nil)
abbrev tab_slots : List (Nat × Nat) := [(0, 2)]
theorem fo_slots (T : Txt K mg) : FldOk K (kt P w T) "slots" tab_slots := (.cons T.C_Plan T.n_Plan_slots (show (cnm 0).idxOf? ("slots" : Str) = some 2 by decide +kernel) .nil)
abbrev tab_maps : List (Nat × Nat) := [(0, 3)]
theorem fo_maps (T : Txt K mg) : FldOk K (kt P w T) "maps" tab_maps := (.cons T.C_Plan T.n_Plan_maps (show (cnm 0).idxOf? ("maps" : Str) = some 3 by decide +kernel) .nil)
abbrev tab_first_node : List (Nat × Nat) := [(0, 4)]
theorem fo_first_node (T : Txt K mg) : FldOk K (kt P w T) "first_node" tab_first_node := (.cons T.C_Plan T.n_Plan_first_node (show (cnm 0).idxOf? ("first_node" : Str) = some 4 by decide +kernel) .nil)
abbrev tab_first_data : List (Nat × Nat) := [(0, 5)]
theorem fo_first_data (T : Txt K mg) : FldOk K (kt P w T) "first_data" tab_first_data := (.cons T.C_Plan T.n_Plan_first_data (show (cnm 0).idxOf? ("first_data" : Str) = some 5 by decide +kernel) .nil)
abbrev md_read_number : List Bool := [false, false]
def b_read_number_1 : GS := (sIf (gSeq (gSeq (gVar 2) (gC (.str "0123456789"))) fNotInSg) (sRaise 1) sNil)
def g_read_number : GS := (sSeq (sIf (gOrB (gSeq (gSeq (gVar 0) (gC (.str ""))) fEq) (gSeq (gSeq (gSeq (gSeq (gVar 0) gNil) fLen) (gC (.int 12))) fGt)) (sRaise 1) sNil)
    (sSeq (sForT (gVar 0) (bind md_read_number 2) b_read_number_1)
    (sSeq (sIf (gAnd (gSeq (gSeq (gSeq (gSeq (gVar 0) gNil) fLen) (gC (.int 1))) fGt) (gSeq (gSeq (gSeq (gSeq (gVar 0) (gC (.int 0))) fIxS) (gC (.str "0"))) fEq)) (sRaise 1) sNil)
    (sSeq (sSet md_read_number 3 (gSeq (gSeq (gVar 0) gNil) fIntS))
    (sSeq (sIf (gSeq (gSeq (gVar 3) (gVar 1)) fGt) (sRaise 1) sNil)
    (sRet (gSeq (gVar 3) (fMv md_read_number))))))))
def G_read_number : GF := runF md_read_number 4 g_read_number
theorem sim_read_number (T : Txt K mg) : FnOk P w K mg base (L2N.CX P w) 1 T.a_read_number T.fd_read_number ["word", "most"] (spOf (kcm K (kt P w T)) md_read_number G_read_number) :=
  fn_sim T.F_read_number sc_read_number rfl (by decide) fun cdv A outer s H E hr =>
  (mss_cons (ms_if (mw_pt (mw_or (mt_cmp (OpR.or op_eq (op_eqD hr.units)) fEq_ok (me_var (pv 0)) (me_c pe_str) (nomark _)) (mw_or1 (mt_cmp op_gt fI_ok0 (me_callB (CallR.or call_len call_lenR) fLen_ok (by rfl) T.n_len (by decide +kernel) (ma_cons (me_var (pv 0)) ma_nil)) (me_c pe_int) (nomark _))))) (mss_one (ms_raise (n := 1) rfl (takes_of rfl rfl rfl rfl) (pmk_own PySem.F.excBase_ValueError T.x_BadText T.g_BadText T.k_BadText (raises_own T.sb_BadText T.ty_BadText) rfl)))
    mss_nil)
    (mss_cons (ms_forT (me_var (pv 0)) (mg_name (i := 2) sc_read_number.nd rfl (Or.inl rfl))
    (mss_one (ms_if (mt_cmp op_notinsg fInSg_ok (me_var (pv 2)) (me_c (pe_glob (x := ("DIGITS" : Str)) (v := .str "0123456789") rfl T.g_DIGITS ⟨_, rfl⟩)) rfl) (mss_one (ms_raise (n := 1) rfl (takes_of rfl rfl rfl rfl) (pmk_own PySem.F.excBase_ValueError T.x_BadText T.g_BadText T.k_BadText (raises_own T.sb_BadText T.ty_BadText) rfl)))
    mss_nil)) (passes_of rfl) rfl)
    (mss_cons (ms_if (mw_pt (mw_and (mt_cmp op_gt fI_ok0 (me_callB (CallR.or call_len call_lenR) fLen_ok (by rfl) T.n_len (by decide +kernel) (ma_cons (me_var (pv 0)) ma_nil)) (me_c pe_int) (nomark _)) (mw_and1 (mt_cmp (OpR.or op_eq (op_eqD hr.units)) fEq_ok (me_ixS (me_var (pv 0)) (me_c pe_int) (fun _ _ => rfl)) (me_c pe_str) (nomark _))))) (mss_one (ms_raise (n := 1) rfl (takes_of rfl rfl rfl rfl) (pmk_own PySem.F.excBase_ValueError T.x_BadText T.g_BadText T.k_BadText (raises_own T.sb_BadText T.ty_BadText) rfl)))
    mss_nil)
    (mss_cons (ms_set (i := 3) sc_read_number.nd rfl (Or.inl rfl) (me_callTy call_int_str fIntS_ok (by rfl) T.n_int (by decide +kernel) (ma_cons (me_var (pv 0)) ma_nil)))
    (mss_cons (ms_if (mt_cmp op_gt fI_ok0 (me_var (pv 3)) (me_var (pv 1)) (nomark _)) (mss_one (ms_raise (n := 1) rfl (takes_of rfl rfl rfl rfl) (pmk_own PySem.F.excBase_ValueError T.x_BadText T.g_BadText T.k_BadText (raises_own T.sb_BadText T.ty_BadText) rfl)))
    mss_nil)
    (mss_one (ms_ret (me_mv (me_var (pv 3))))))))))
abbrev md_split_words : List Bool := [false]
def b_split_words_1 : GS := (sIf (gSeq (gSeq (gVar 2) (gC (.str ""))) fEq) (sRaise 1) sNil)
def g_split_words : GS := (sSeq (sIf (gSeq (gSeq (gVar 0) (gC (.str ""))) fEq) (sRet (gSeq gNil (fNew .lst 0))) sNil)
    (sSeq (sSet md_split_words 1 (gSeq (gSeq (gVar 0) (gSeq chkS (gC (.str " ")))) fSplit))
    (sSeq (sFor (gVar 1) (bind md_split_words 2) b_split_words_1)
    (sRet (gSeq (gVar 1) (fMv md_split_words))))))
def G_split_words : GF := runF md_split_words 3 g_split_words
theorem sim_split_words (T : Txt K mg) : FnOk P w K mg base (L2N.CX P w) 1 T.a_split_words T.fd_split_words ["line"] (spOf (kcm K (kt P w T)) md_split_words G_split_words) :=
  fn_sim T.F_split_words sc_split_words rfl (by decide) fun cdv A outer s H E hr =>
  (mss_cons (ms_if (mt_cmp (OpR.or op_eq (op_eqD hr.units)) fEq_ok (me_var (pv 0)) (me_c pe_str) (nomark _)) (mss_one (ms_ret (me_lst ma_nil (by show 0 ≤ sizeLine; decide))))
    mss_nil)
    (mss_cons (ms_set (i := 1) sc_split_words.nd rfl (Or.inl rfl) (me_m1 (me_var (pv 0)) (me_c pe_str) fSplit_ok (fun a b => pe_split a b)))
    (mss_cons (ms_for (me_var (pv 1)) (mg_name (i := 2) sc_split_words.nd rfl (Or.inl rfl))
    (mss_one (ms_if (mt_cmp (OpR.or op_eq (op_eqD hr.units)) fEq_ok (me_var (pv 2)) (me_c pe_str) (nomark _)) (mss_one (ms_raise (n := 1) rfl (takes_of rfl rfl rfl rfl) (pmk_own PySem.F.excBase_ValueError T.x_BadText T.g_BadText T.k_BadText (raises_own T.sb_BadText T.ty_BadText) rfl)))
    mss_nil)) (passes_of rfl) rfl)
    (mss_one (ms_ret (me_mv (me_var (pv 1))))))))
abbrev md_law_pick : List Bool := [true, false]
def g_law_pick : GS := (sSeq (sIf (gSeq (gSeq (gSeq (gSeq (gVar 0) gNil) fLen) (gC (.int 0))) fEq) (sRet (gC (.int 0))) sNil)
    (sRet (gSeq (gSeq (gSeq (gSeq (gSeq (gVar 0) (gSeq chkL (gSeq (gSeq (gC (.int 0)) gNil) fPopA))) gNil) fInt) (gVar 1)) fMod)))
def G_law_pick : GF := runF md_law_pick 2 g_law_pick
theorem sim_law_pick (T : Txt K mg) : FnOk P w K mg base (L2N.CX P w) 1 T.a_law_pick T.fd_law_pick ["_law_feed_here", "_law_limit"] (spOf (kcm K (kt P w T)) md_law_pick G_law_pick) :=
  fn_sim T.F_law_pick sc_law_pick rfl (by decide) fun cdv A outer s H E hr =>
  (mss_cons (ms_if (mt_cmp (OpR.or op_eq (op_eqD hr.units)) fEq_ok (me_callB (CallR.or call_len call_lenR) fLen_ok (by rfl) T.n_len (by decide +kernel) (ma_cons (me_var (pv 0)) ma_nil)) (me_c pe_int) (nomark _)) (mss_one (ms_ret (me_c pe_int)))
    mss_nil)
    (mss_one (ms_ret (me_mod (me_callTy call_int1 fInt_ok (by rfl) T.n_int (by decide +kernel) (ma_cons (me_bm (me_var (pv 0)) (ma_cons (me_c pe_int) ma_nil) fPopA_ok (fun a b => pe_bm PySem.F.plainAttrs_list PySem.F.slot_list_pop PySem.F.type_list_pop mt_popAt a b)) ma_nil)) (me_var (pv 1))))))
abbrev md_law_same : List Bool := [false, false]
def b_law_same_1 (R : GF) : GS := (sIf (gNot (gSeq (gSeq (gSeq (gSeq (gVar 0) (gVar 2)) fIxA) (gSeq (gSeq (gSeq (gVar 1) (gVar 2)) fIxA) gNil)) (gCall [] md_law_same R 2))) (sRet (gC (.bl false))) sNil)
def g_law_same (R : GF) : GS := (sSeq (sIf (gOrB (gSeq (gSeq (gVar 1) (gC .non)) fIsN) (gOrB (gSeq (gSeq (gVar 1) (gC (.bl true))) fIsBV) (gSeq (gSeq (gVar 1) (gC (.bl false))) fIsBV))) (sRet (gOrB (gAnd (gSeq (gSeq (gVar 0) (gC .non)) fIsN) (gSeq (gSeq (gVar 1) (gC .non)) fIsN)) (gOrB (gAnd (gSeq (gSeq (gVar 0) (gC (.bl true))) fIsBV) (gSeq (gSeq (gVar 1) (gC (.bl true))) fIsBV)) (gAnd (gSeq (gSeq (gVar 0) (gC (.bl false))) fIsBV) (gSeq (gSeq (gVar 1) (gC (.bl false))) fIsBV))))) sNil)
    (sSeq (sIf (gSeq (gSeq (gVar 1) (gSeq (gC (.ty "int")) gNil)) fIsi) (sRet (gAnd (gSeq (gSeq (gVar 0) (gSeq (gC (.ty "int")) gNil)) fIsi) (gAnd (gNot (gSeq (gSeq (gVar 0) (gSeq (gC (.ty "bool")) gNil)) fIsi)) (gSeq (gSeq (gVar 0) (gVar 1)) fEq)))) sNil)
    (sSeq (sIf (gSeq (gSeq (gVar 1) (gSeq (gC (.ty "str")) gNil)) fIsi) (sRet (gAnd (gSeq (gSeq (gVar 0) (gSeq (gC (.ty "str")) gNil)) fIsi) (gSeq (gSeq (gVar 0) (gVar 1)) fEq))) sNil)
    (sSeq (sIf (gAnd (gSeq (gSeq (gVar 1) (gSeq (gC (.ty "tuple")) gNil)) fIsi) (gNot (gSeq (gSeq (gVar 0) (gSeq (gC (.ty "tuple")) gNil)) fIsi))) (sRet (gC (.bl false))) sNil)
    (sSeq (sIf (gAnd (gSeq (gSeq (gVar 1) (gSeq (gC (.ty "list")) gNil)) fIsi) (gNot (gSeq (gSeq (gVar 0) (gSeq (gC (.ty "list")) gNil)) fIsi))) (sRet (gC (.bl false))) sNil)
    (sSeq (sIf (gOrB (gNot (gSeq (gSeq (gVar 0) (gSeq (gSeq (gSeq (gC (.ty "tuple")) (gSeq (gC (.ty "list")) gNil)) (fNew .tup 2)) gNil)) fIsi)) (gSeq (gSeq (gSeq (gSeq (gVar 0) gNil) fLen) (gSeq (gSeq (gVar 1) gNil) fLen)) fNe)) (sRet (gC (.bl false))) sNil)
    (sSeq (sForR1 (gSeq (gSeq (gSeq (gVar 1) gNil) fLen) gNil) (bind md_law_same 2) (b_law_same_1 R))
    (sRet (gC (.bl true))))))))))
def GN_law_same : Nat → GF
  | 0 => fun _ => none
  | n + 1 => runF md_law_same 3 (g_law_same (GN_law_same n))
def G_law_same : GF := GN_law_same 8
theorem simR_law_same (T : Txt K mg) {n : Nat} {R : GF} (hn : 1 ≤ n) (ih : FnOk P w K mg base (L2N.CX P w) n T.a_law_same T.fd_law_same ["_law_actual", "_law_due"] (spOf (kcm K (kt P w T)) md_law_same R)) : FnOk P w K mg base (L2N.CX P w) (n + 1) T.a_law_same T.fd_law_same ["_law_actual", "_law_due"] (spOf (kcm K (kt P w T)) md_law_same (runF md_law_same 3 (g_law_same R))) :=
  fn_sim T.F_law_same sc_law_same rfl (by decide) fun cdv A outer s H E hr =>
  (mss_cons (ms_if (mw_pt (mw_or (mt_cmp op_isN fIsN_ok (me_var (pv 1)) (me_c pe_non) (nomark _)) (mw_or (mt_cmp op_isBV fIsBV_ok (me_var (pv 1)) (me_c pe_bl) (nomark _)) (mw_or1 (mt_cmp op_isBV fIsBV_ok (me_var (pv 1)) (me_c pe_bl) (nomark _)))))) (mss_one (ms_ret (me_or (me_and (me_cmp op_isN fIsN_ok (me_var (pv 0)) (me_c pe_non) (nomark _)) (me_one (me_cmp op_isN fIsN_ok (me_var (pv 1)) (me_c pe_non) (nomark _)))) (me_or (me_and (me_cmp op_isBV fIsBV_ok (me_var (pv 0)) (me_c pe_bl) (nomark _)) (me_one (me_cmp op_isBV fIsBV_ok (me_var (pv 1)) (me_c pe_bl) (nomark _)))) (me_one (me_and (me_cmp op_isBV fIsBV_ok (me_var (pv 0)) (me_c pe_bl) (nomark _)) (me_one (me_cmp op_isBV fIsBV_ok (me_var (pv 1)) (me_c pe_bl) (nomark _)))))))))
    mss_nil)
    (mss_cons (ms_if (mt_val (me_callB (CallR.or call_isi (CallR.or call_isiT call_isiK)) fIsi_ok (by rfl) T.n_isinstance (by decide +kernel) (ma_cons (me_var (pv 1)) (ma_cons (me_c (pe_bltn (v := .ty "int") (u := .type "int") (by rfl) T.n_int (by decide +kernel) rfl)) ma_nil)))) (mss_one (ms_ret (me_and (me_callB (CallR.or call_isi (CallR.or call_isiT call_isiK)) fIsi_ok (by rfl) T.n_isinstance (by decide +kernel) (ma_cons (me_var (pv 0)) (ma_cons (me_c (pe_bltn (v := .ty "int") (u := .type "int") (by rfl) T.n_int (by decide +kernel) rfl)) ma_nil))) (me_and (me_not (me_callB (CallR.or call_isi (CallR.or call_isiT call_isiK)) fIsi_ok (by rfl) T.n_isinstance (by decide +kernel) (ma_cons (me_var (pv 0)) (ma_cons (me_c (pe_bltn (v := .ty "bool") (u := .type "bool") (by rfl) T.n_bool (by decide +kernel) rfl)) ma_nil)))) (me_one (me_cmp (OpR.or op_eq (op_eqD hr.units)) fEq_ok (me_var (pv 0)) (me_var (pv 1)) (nomark _)))))))
    mss_nil)
    (mss_cons (ms_if (mt_val (me_callB (CallR.or call_isi (CallR.or call_isiT call_isiK)) fIsi_ok (by rfl) T.n_isinstance (by decide +kernel) (ma_cons (me_var (pv 1)) (ma_cons (me_c (pe_bltn (v := .ty "str") (u := .type "str") (by rfl) T.n_str (by decide +kernel) rfl)) ma_nil)))) (mss_one (ms_ret (me_and (me_callB (CallR.or call_isi (CallR.or call_isiT call_isiK)) fIsi_ok (by rfl) T.n_isinstance (by decide +kernel) (ma_cons (me_var (pv 0)) (ma_cons (me_c (pe_bltn (v := .ty "str") (u := .type "str") (by rfl) T.n_str (by decide +kernel) rfl)) ma_nil))) (me_one (me_cmp (OpR.or op_eq (op_eqD hr.units)) fEq_ok (me_var (pv 0)) (me_var (pv 1)) (nomark _))))))
    mss_nil)
    (mss_cons (ms_if (mw_pt (mw_and (mt_val (me_callB (CallR.or call_isi (CallR.or call_isiT call_isiK)) fIsi_ok (by rfl) T.n_isinstance (by decide +kernel) (ma_cons (me_var (pv 1)) (ma_cons (me_c (pe_bltn (v := .ty "tuple") (u := .type "tuple") (by rfl) T.n_tuple (by decide +kernel) rfl)) ma_nil)))) (mw_and1 (mt_not (mt_val (me_callB (CallR.or call_isi (CallR.or call_isiT call_isiK)) fIsi_ok (by rfl) T.n_isinstance (by decide +kernel) (ma_cons (me_var (pv 0)) (ma_cons (me_c (pe_bltn (v := .ty "tuple") (u := .type "tuple") (by rfl) T.n_tuple (by decide +kernel) rfl)) ma_nil)))))))) (mss_one (ms_ret (me_c pe_bl)))
    mss_nil)
    (mss_cons (ms_if (mw_pt (mw_and (mt_val (me_callB (CallR.or call_isi (CallR.or call_isiT call_isiK)) fIsi_ok (by rfl) T.n_isinstance (by decide +kernel) (ma_cons (me_var (pv 1)) (ma_cons (me_c (pe_bltn (v := .ty "list") (u := .type "list") (by rfl) T.n_list (by decide +kernel) rfl)) ma_nil)))) (mw_and1 (mt_not (mt_val (me_callB (CallR.or call_isi (CallR.or call_isiT call_isiK)) fIsi_ok (by rfl) T.n_isinstance (by decide +kernel) (ma_cons (me_var (pv 0)) (ma_cons (me_c (pe_bltn (v := .ty "list") (u := .type "list") (by rfl) T.n_list (by decide +kernel) rfl)) ma_nil)))))))) (mss_one (ms_ret (me_c pe_bl)))
    mss_nil)
    (mss_cons (ms_if (mw_pt (mw_or (mt_not (mt_val (me_callB (CallR.or call_isi (CallR.or call_isiT call_isiK)) fIsi_ok (by rfl) T.n_isinstance (by decide +kernel) (ma_cons (me_var (pv 0)) (ma_cons (me_tup (ma_cons (me_c (pe_bltn (v := .ty "tuple") (u := .type "tuple") (by rfl) T.n_tuple (by decide +kernel) rfl)) (ma_cons (me_c (pe_bltn (v := .ty "list") (u := .type "list") (by rfl) T.n_list (by decide +kernel) rfl)) ma_nil)) (by show 2 ≤ sizeLine; decide)) ma_nil))))) (mw_or1 (mt_cmp (OpR.or op_ne (op_neD hr.units)) fNe_ok (me_callB (CallR.or call_len call_lenR) fLen_ok (by rfl) T.n_len (by decide +kernel) (ma_cons (me_var (pv 0)) ma_nil)) (me_callB (CallR.or call_len call_lenR) fLen_ok (by rfl) T.n_len (by decide +kernel) (ma_cons (me_var (pv 1)) ma_nil)) (nomark _))))) (mss_one (ms_ret (me_c pe_bl)))
    mss_nil)
    (mss_cons (ms_forR1 (ma_cons (me_callB (CallR.or call_len call_lenR) fLen_ok (by rfl) T.n_len (by decide +kernel) (ma_cons (me_var (pv 1)) ma_nil)) ma_nil) (mg_name (i := 2) sc_law_same.nd rfl (Or.inl rfl))
    (mss_one (ms_if (mt_not (mt_val (me_call (is := []) ih (hr.mono (by omega)) (takes_of rfl rfl rfl rfl) rfl T.m_law_same T.F_law_same.kp T.b_law_same (ma_cons (me_ixA hr.units (me_var (pv 0)) (me_var (pv 2)) (fun _ _ => rfl)) (ma_cons (me_ixA hr.units (me_var (pv 1)) (me_var (pv 2)) (fun _ _ => rfl)) ma_nil)) (by decide) (by decide)))) (mss_one (ms_ret (me_c pe_bl)))
    mss_nil)) rfl T.n_range (passes_of rfl) rfl)
    (mss_one (ms_ret (me_c pe_bl))))))))))
theorem simN_law_same (T : Txt K mg) : ∀ n, FnOk P w K mg base (L2N.CX P w) (2 + n) T.a_law_same T.fd_law_same ["_law_actual", "_law_due"] (spOf (kcm K (kt P w T)) md_law_same (GN_law_same n))
  | 0 => fn_none T.F_law_same sc_law_same
  | n + 1 => simR_law_same T (n := 2 + n) (by omega) (simN_law_same T n)
theorem sim_law_same (T : Txt K mg) : FnOk P w K mg base (L2N.CX P w) 10 T.a_law_same T.fd_law_same ["_law_actual", "_law_due"] (spOf (kcm K (kt P w T)) md_law_same G_law_same) := simN_law_same T 8
abbrev md_law_error : List Bool := [false]
def b_law_error__BadValue_1 (a : Addr) : GS := (sIf (gVar 3) (sExpr (gSeq (gVar 1) (gSeq chkL (gSeq (gSeq (gVar 2) gNil) fApp)))) sNil)
def g_law_error__BadValue (a : Addr) : GS := (sSeq (sSet md_law_error 1 (gSeq gNil (fNew .lst 0)))
    (sSeq (sForL (gSeq (gSeq (gSeq (gSeq (gC (.str "BadText")) (gSeq (gIsE 0 a false) gNil)) (fNew .tup 2)) (gSeq (gSeq (gSeq (gC (.str "BadValue")) (gSeq (gIsE 0 a true) gNil)) (fNew .tup 2)) (gSeq (gSeq (gSeq (gC (.str "Refused")) (gSeq (gIsE 0 a false) gNil)) (fNew .tup 2)) (gSeq (gSeq (gSeq (gC (.str "NotNow")) (gSeq (gIsE 0 a false) gNil)) (fNew .tup 2)) (gSeq (gSeq (gSeq (gC (.str "NotLet")) (gSeq (gIsE 0 a false) gNil)) (fNew .tup 2)) (gSeq (gSeq (gSeq (gC (.str "no ValueError")) (gSeq (gNot (gIsE 0 a true)) gNil)) (fNew .tup 2)) gNil)))))) (fNew .lst 6)) (unpkT md_law_error [2, 3]) (b_law_error__BadValue_1 a))
    (sRet (gSeq (gSeq (gC (.str "refused")) (gSeq (gSeq (gVar 1) (fMv md_law_error)) gNil)) (fNew .tup 2)))))
def G_law_error__BadValue (a : Addr) : GF := runF md_law_error 4 (g_law_error__BadValue a)
theorem simE_law_error__BadValue (T : Txt K mg) : FnE P w K mg base (L2N.CX P w) 1 T.a_law_error T.fd_law_error ["_law_e"] (spE (kcm K (kt P w T)) T.e_BadValue md_law_error G_law_error__BadValue) :=
  fnE_sim (g := g_law_error__BadValue) T.F_law_error sc_law_error rfl (by decide) fun cdv A st s H E p hot hz hf hr =>
  (mss_cons (ms_set (i := 1) sc_law_error.nd rfl (Or.inl rfl) (me_lst ma_nil (by show 0 ≤ sizeLine; decide)))
    (mss_cons (ms_forQ (me_lst (ma_cons (me_tup (ma_cons (me_c pe_str) (ma_cons (me_isP (a := p.1) (oe := p.2) List.mem_cons_self T.is_BadValue hz hf (fun u hu => by cases hu; rfl) T.i_BadValue_BadText (by rfl) T.n_isinstance (by decide +kernel) (pv 0) (pe_glob (v := .ref T.e_BadText) rfl T.g_BadText rfl)) ma_nil)) (by show 2 ≤ sizeLine; decide)) (ma_cons (me_tup (ma_cons (me_c pe_str) (ma_cons (me_isP (a := p.1) (oe := p.2) List.mem_cons_self T.is_BadValue hz hf (fun u hu => by cases hu; rfl) T.i_BadValue_BadValue (by rfl) T.n_isinstance (by decide +kernel) (pv 0) (pe_glob (v := .ref T.e_BadValue) rfl T.g_BadValue rfl)) ma_nil)) (by show 2 ≤ sizeLine; decide)) (ma_cons (me_tup (ma_cons (me_c pe_str) (ma_cons (me_isP (a := p.1) (oe := p.2) List.mem_cons_self T.is_BadValue hz hf (fun u hu => by cases hu; rfl) T.i_BadValue_Refused (by rfl) T.n_isinstance (by decide +kernel) (pv 0) (pe_glob (v := .ref T.e_Refused) rfl T.g_Refused rfl)) ma_nil)) (by show 2 ≤ sizeLine; decide)) (ma_cons (me_tup (ma_cons (me_c pe_str) (ma_cons (me_isP (a := p.1) (oe := p.2) List.mem_cons_self T.is_BadValue hz hf (fun u hu => by cases hu; rfl) T.i_BadValue_NotNow (by rfl) T.n_isinstance (by decide +kernel) (pv 0) (pe_glob (v := .ref T.e_NotNow) rfl T.g_NotNow rfl)) ma_nil)) (by show 2 ≤ sizeLine; decide)) (ma_cons (me_tup (ma_cons (me_c pe_str) (ma_cons (me_isP (a := p.1) (oe := p.2) List.mem_cons_self T.is_BadValue hz hf (fun u hu => by cases hu; rfl) T.i_BadValue_NotLet (by rfl) T.n_isinstance (by decide +kernel) (pv 0) (pe_glob (v := .ref T.e_NotLet) rfl T.g_NotLet rfl)) ma_nil)) (by show 2 ≤ sizeLine; decide)) (ma_cons (me_tup (ma_cons (me_c pe_str) (ma_cons (me_not (me_isP (a := p.1) (oe := p.2) List.mem_cons_self T.is_BadValue hz hf (fun u hu => by cases hu; rfl) T.i_BadValue_ValueError (by rfl) T.n_isinstance (by decide +kernel) (pv 0) (pe_bltn (v := .ty "ValueError") (u := .type "ValueError") (by rfl) T.n_ValueError (by decide +kernel) rfl))) ma_nil)) (by show 2 ≤ sizeLine; decide)) ma_nil)))))) (by show 6 ≤ sizeLine; decide)) (mg_unpT (is := [2, 3]) (pg_tupQ (hot_fn hot) (pgs_cons (pg_name (i := 2) sc_law_error.nd rfl (Or.inl rfl)) (pgs_cons (pg_name (i := 3) sc_law_error.nd rfl (Or.inl rfl)) pgs_nil))))
    (mss_one (ms_if (mt_val (me_var (pv 3))) (mss_one (ms_expr (me_bm (me_var (pv 1)) (ma_cons (me_var (pv 2)) ma_nil) fApp_ok (fun a b => pe_bm PySem.F.plainAttrs_list PySem.F.slot_list_append PySem.F.type_list_append mt_append a b))))
    mss_nil)) (passes_of rfl) (hot_fn hot))
    (mss_one (ms_ret (me_tup (ma_cons (me_c pe_str) (ma_cons (me_mv (me_var (pv 1))) ma_nil)) (by show 2 ≤ sizeLine; decide))))))
def b_law_error__BadText_1 (a : Addr) : GS := (sIf (gVar 3) (sExpr (gSeq (gVar 1) (gSeq chkL (gSeq (gSeq (gVar 2) gNil) fApp)))) sNil)
def g_law_error__BadText (a : Addr) : GS := (sSeq (sSet md_law_error 1 (gSeq gNil (fNew .lst 0)))
    (sSeq (sForL (gSeq (gSeq (gSeq (gSeq (gC (.str "BadText")) (gSeq (gIsE 0 a true) gNil)) (fNew .tup 2)) (gSeq (gSeq (gSeq (gC (.str "BadValue")) (gSeq (gIsE 0 a false) gNil)) (fNew .tup 2)) (gSeq (gSeq (gSeq (gC (.str "Refused")) (gSeq (gIsE 0 a false) gNil)) (fNew .tup 2)) (gSeq (gSeq (gSeq (gC (.str "NotNow")) (gSeq (gIsE 0 a false) gNil)) (fNew .tup 2)) (gSeq (gSeq (gSeq (gC (.str "NotLet")) (gSeq (gIsE 0 a false) gNil)) (fNew .tup 2)) (gSeq (gSeq (gSeq (gC (.str "no ValueError")) (gSeq (gNot (gIsE 0 a true)) gNil)) (fNew .tup 2)) gNil)))))) (fNew .lst 6)) (unpkT md_law_error [2, 3]) (b_law_error__BadText_1 a))
    (sRet (gSeq (gSeq (gC (.str "refused")) (gSeq (gSeq (gVar 1) (fMv md_law_error)) gNil)) (fNew .tup 2)))))
def G_law_error__BadText (a : Addr) : GF := runF md_law_error 4 (g_law_error__BadText a)
theorem simE_law_error__BadText (T : Txt K mg) : FnE P w K mg base (L2N.CX P w) 1 T.a_law_error T.fd_law_error ["_law_e"] (spE (kcm K (kt P w T)) T.e_BadText md_law_error G_law_error__BadText) :=
  fnE_sim (g := g_law_error__BadText) T.F_law_error sc_law_error rfl (by decide) fun cdv A st s H E p hot hz hf hr =>
  (mss_cons (ms_set (i := 1) sc_law_error.nd rfl (Or.inl rfl) (me_lst ma_nil (by show 0 ≤ sizeLine; decide)))
    (mss_cons (ms_forQ (me_lst (ma_cons (me_tup (ma_cons (me_c pe_str) (ma_cons (me_isP (a := p.1) (oe := p.2) List.mem_cons_self T.is_BadText hz hf (fun u hu => by cases hu; rfl) T.i_BadText_BadText (by rfl) T.n_isinstance (by decide +kernel) (pv 0) (pe_glob (v := .ref T.e_BadText) rfl T.g_BadText rfl)) ma_nil)) (by show 2 ≤ sizeLine; decide)) (ma_cons (me_tup (ma_cons (me_c pe_str) (ma_cons (me_isP (a := p.1) (oe := p.2) List.mem_cons_self T.is_BadText hz hf (fun u hu => by cases hu; rfl) T.i_BadText_BadValue (by rfl) T.n_isinstance (by decide +kernel) (pv 0) (pe_glob (v := .ref T.e_BadValue) rfl T.g_BadValue rfl)) ma_nil)) (by show 2 ≤ sizeLine; decide)) (ma_cons (me_tup (ma_cons (me_c pe_str) (ma_cons (me_isP (a := p.1) (oe := p.2) List.mem_cons_self T.is_BadText hz hf (fun u hu => by cases hu; rfl) T.i_BadText_Refused (by rfl) T.n_isinstance (by decide +kernel) (pv 0) (pe_glob (v := .ref T.e_Refused) rfl T.g_Refused rfl)) ma_nil)) (by show 2 ≤ sizeLine; decide)) (ma_cons (me_tup (ma_cons (me_c pe_str) (ma_cons (me_isP (a := p.1) (oe := p.2) List.mem_cons_self T.is_BadText hz hf (fun u hu => by cases hu; rfl) T.i_BadText_NotNow (by rfl) T.n_isinstance (by decide +kernel) (pv 0) (pe_glob (v := .ref T.e_NotNow) rfl T.g_NotNow rfl)) ma_nil)) (by show 2 ≤ sizeLine; decide)) (ma_cons (me_tup (ma_cons (me_c pe_str) (ma_cons (me_isP (a := p.1) (oe := p.2) List.mem_cons_self T.is_BadText hz hf (fun u hu => by cases hu; rfl) T.i_BadText_NotLet (by rfl) T.n_isinstance (by decide +kernel) (pv 0) (pe_glob (v := .ref T.e_NotLet) rfl T.g_NotLet rfl)) ma_nil)) (by show 2 ≤ sizeLine; decide)) (ma_cons (me_tup (ma_cons (me_c pe_str) (ma_cons (me_not (me_isP (a := p.1) (oe := p.2) List.mem_cons_self T.is_BadText hz hf (fun u hu => by cases hu; rfl) T.i_BadText_ValueError (by rfl) T.n_isinstance (by decide +kernel) (pv 0) (pe_bltn (v := .ty "ValueError") (u := .type "ValueError") (by rfl) T.n_ValueError (by decide +kernel) rfl))) ma_nil)) (by show 2 ≤ sizeLine; decide)) ma_nil)))))) (by show 6 ≤ sizeLine; decide)) (mg_unpT (is := [2, 3]) (pg_tupQ (hot_fn hot) (pgs_cons (pg_name (i := 2) sc_law_error.nd rfl (Or.inl rfl)) (pgs_cons (pg_name (i := 3) sc_law_error.nd rfl (Or.inl rfl)) pgs_nil))))
    (mss_one (ms_if (mt_val (me_var (pv 3))) (mss_one (ms_expr (me_bm (me_var (pv 1)) (ma_cons (me_var (pv 2)) ma_nil) fApp_ok (fun a b => pe_bm PySem.F.plainAttrs_list PySem.F.slot_list_append PySem.F.type_list_append mt_append a b))))
    mss_nil)) (passes_of rfl) (hot_fn hot))
    (mss_one (ms_ret (me_tup (ma_cons (me_c pe_str) (ma_cons (me_mv (me_var (pv 1))) ma_nil)) (by show 2 ≤ sizeLine; decide))))))
abbrev md_law_read_number : List Bool := [false, false]
def g_law_read_number : GS := (sTry md_law_read_number 2 [(1, true)] (sRet (gSeq (gSeq (gVar 0) (gSeq (gVar 1) gNil)) (gCall [] md_read_number G_read_number 2))) (suC 1 (fun a => (sRet (gSeq (gSeq (gVar 2) gNil) (gCall [] md_law_error (G_law_error__BadText a) 1)))) suN))
def G_law_read_number : GF := runF md_law_read_number 3 g_law_read_number
theorem sim_law_read_number (T : Txt K mg) : FnOk P w K mg base (L2N.CX P w) 2 T.a_law_read_number T.fd_law_read_number ["_law_word_here", "_law_most"] (spOf (kcm K (kt P w T)) md_law_read_number G_law_read_number) :=
  fn_sim T.F_law_read_number sc_law_read_number rfl (by decide) fun cdv A outer s H E hr =>
  (mss_one (ms_try (i := 2) rfl rfl sc_law_read_number.nd rfl rfl ⟨rfl, by decide, .inl T.g_StoreError⟩ (takes_of rfl rfl rfl rfl) (fun W pn xe tk po => (mss_one (ms_ret (me_call (is := []) (sim_read_number T) (hr.mono (by decide)) tk rfl T.m_read_number T.F_read_number.kp T.b_read_number (ma_cons (me_var (pv 0)) (ma_cons (me_var (pv 1)) ma_nil)) (by decide) (by decide))))) (su_T (k := 1) T.m_BadText_StoreError (fun a oe pn hz hf => (mss_one (ms_ret (me_callE (is := []) (simE_law_error__BadText T) hz hf (rmH_mark ((L2H.roomH_of hr).mono (by decide))) (hot_here hz hf) List.mem_cons_self takes0 rfl T.m_law_error T.F_law_error.kp T.b_law_error (ma_cons (me_var (pv 2)) ma_nil) (by decide) (by decide))))) su_nil)))
abbrev md_law_split : List Bool := [false]
def g_law_split : GS := (sTry md_law_split 1 [(1, true)] (sRet (gSeq (gSeq (gVar 0) gNil) (gCall [] md_split_words G_split_words 1))) (suC 1 (fun a => (sRet (gSeq (gSeq (gVar 1) gNil) (gCall [] md_law_error (G_law_error__BadText a) 1)))) suN))
def G_law_split : GF := runF md_law_split 2 g_law_split
theorem sim_law_split (T : Txt K mg) : FnOk P w K mg base (L2N.CX P w) 2 T.a_law_split T.fd_law_split ["_law_line_here"] (spOf (kcm K (kt P w T)) md_law_split G_law_split) :=
  fn_sim T.F_law_split sc_law_split rfl (by decide) fun cdv A outer s H E hr =>
  (mss_one (ms_try (i := 1) rfl rfl sc_law_split.nd rfl rfl ⟨rfl, by decide, .inl T.g_StoreError⟩ (takes_of rfl rfl rfl rfl) (fun W pn xe tk po => (mss_one (ms_ret (me_call (is := []) (sim_split_words T) (hr.mono (by decide)) tk rfl T.m_split_words T.F_split_words.kp T.b_split_words (ma_cons (me_var (pv 0)) ma_nil) (by decide) (by decide))))) (su_T (k := 1) T.m_BadText_StoreError (fun a oe pn hz hf => (mss_one (ms_ret (me_callE (is := []) (simE_law_error__BadText T) hz hf (rmH_mark ((L2H.roomH_of hr).mono (by decide))) (hot_here hz hf) List.mem_cons_self takes0 rfl T.m_law_error T.F_law_error.kp T.b_law_error (ma_cons (me_var (pv 1)) ma_nil) (by decide) (by decide))))) su_nil)))
abbrev md_Plan_init : List Bool := [true, false, false, false]
def g_Plan_init : GS := (sSeq (sIf (gNot (gChain (gC (.int 8)) (gVar 1) fLe (gC (.int 64)) fLe)) (sRaise 0) sNil)
    (sSeq (sIf (gNot (gChain (gC (.int 2)) (gVar 2) fLe (gC (.int 16)) fLe)) (sRaise 0) sNil)
    (sSeq (sIf (gNot (gChain (gVar 1) (gVar 3) fLt (gC (.int 200)) fLe)) (sRaise 0) sNil)
    (sSeq (sSet md_Plan_init 4 (gSeq (gSeq (gSeq (gSeq (gVar 1) (gC (.int 7))) fAdd) (gC (.int 8))) fDiv))
    (sSeq (sIf (gSeq (gSeq (gSeq (gSeq (gSeq (gSeq (gSeq (gSeq (gC (.int 2)) (gVar 4)) fAdd) (gVar 2)) fAdd) (gC (.int 2))) fAdd) (gVar 1)) fGt) (sRaise 0) sNil)
    (sSeq (sFldS tab_blocks (gVar 1) (gVar 0))
    (sSeq (sFldS tab_nodes (gVar 2) (gVar 0))
    (sSeq (sFldS tab_slots (gVar 3) (gVar 0))
    (sSeq (sFldS tab_maps (gSeq (gVar 4) (fMv md_Plan_init)) (gVar 0))
    (sSeq (sFldS tab_first_node (gSeq (gSeq (gC (.int 2)) (gVar 4)) fAdd) (gVar 0))
    (sFldS tab_first_data (gSeq (gSeq (gSeq (gSeq (gC (.int 2)) (gVar 4)) fAdd) (gVar 2)) fAdd) (gVar 0))))))))))))
def G_Plan_init : GF := runF md_Plan_init 5 g_Plan_init
theorem sim_Plan_init (T : Txt K mg) : FnOk P w K mg base (L2N.CX P w) 1 T.a_Plan_init T.fd_Plan_init ["self", "blocks", "nodes", "slots"] (spOf (kcm K (kt P w T)) md_Plan_init G_Plan_init) :=
  fn_sim T.F_Plan_init sc_Plan_init rfl (by decide) fun cdv A outer s H E hr =>
  (mss_cons (ms_if (mt_not (mt_chain (me_c pe_int) (me_var (pv 1)) fI_ok0 (me_c pe_int) fI_ok0 (fun a b c => pt_chain op_le op_le a b c))) (mss_one (ms_raise (n := 0) rfl (takes_of rfl rfl rfl rfl) (pmk_own PySem.F.excBase_ValueError T.x_BadValue T.g_BadValue T.k_BadValue (raises_own T.sb_BadValue T.ty_BadValue) rfl)))
    mss_nil)
    (mss_cons (ms_if (mt_not (mt_chain (me_c pe_int) (me_var (pv 2)) fI_ok0 (me_c pe_int) fI_ok0 (fun a b c => pt_chain op_le op_le a b c))) (mss_one (ms_raise (n := 0) rfl (takes_of rfl rfl rfl rfl) (pmk_own PySem.F.excBase_ValueError T.x_BadValue T.g_BadValue T.k_BadValue (raises_own T.sb_BadValue T.ty_BadValue) rfl)))
    mss_nil)
    (mss_cons (ms_if (mt_not (mt_chain (me_var (pv 1)) (me_var (pv 3)) fI_ok0 (me_c pe_int) fI_ok0 (fun a b c => pt_chain op_lt op_le a b c))) (mss_one (ms_raise (n := 0) rfl (takes_of rfl rfl rfl rfl) (pmk_own PySem.F.excBase_ValueError T.x_BadValue T.g_BadValue T.k_BadValue (raises_own T.sb_BadValue T.ty_BadValue) rfl)))
    mss_nil)
    (mss_cons (ms_set (i := 4) sc_Plan_init.nd rfl (Or.inl rfl) (me_div (me_add (me_var (pv 1)) (me_c pe_int)) (me_c pe_int)))
    (mss_cons (ms_if (mt_cmp op_gt fI_ok0 (me_add (me_add (me_add (me_c pe_int) (me_var (pv 4))) (me_var (pv 2))) (me_c pe_int)) (me_var (pv 1)) (nomark _)) (mss_one (ms_raise (n := 0) rfl (takes_of rfl rfl rfl rfl) (pmk_own PySem.F.excBase_ValueError T.x_BadValue T.g_BadValue T.k_BadValue (raises_own T.sb_BadValue T.ty_BadValue) rfl)))
    mss_nil)
    (mss_cons (ms_fld (me_var (pv 1)) (me_var (pv 0)) (fo_blocks T))
    (mss_cons (ms_fld (me_var (pv 2)) (me_var (pv 0)) (fo_nodes T))
    (mss_cons (ms_fld (me_var (pv 3)) (me_var (pv 0)) (fo_slots T))
    (mss_cons (ms_fld (me_mv (me_var (pv 4))) (me_var (pv 0)) (fo_maps T))
    (mss_cons (ms_fld (me_add (me_c pe_int) (me_var (pv 4))) (me_var (pv 0)) (fo_first_node T))
    (mss_one (ms_fld (me_add (me_add (me_c pe_int) (me_var (pv 4))) (me_var (pv 2))) (me_var (pv 0)) (fo_first_data T)))))))))))))
abbrev md_law_make : List Bool := [false, false, false]
def g_law_make : GS := (sTry md_law_make 3 [(0, true)] (sRet (gSeq (gSeq (gSeq (gVar 0) gNil) (gSeq (gSeq (gVar 1) (gSeq (gVar 2) gNil)) (gMake 0 (md_Plan_init).tail G_Plan_init 3))) fFrz)) (suC 0 (fun a => (sRet (gSeq (gSeq (gVar 3) gNil) (gCall [] md_law_error (G_law_error__BadValue a) 1)))) suN))
def G_law_make : GF := runF md_law_make 4 g_law_make
theorem sim_law_make (T : Txt K mg) : FnOk P w K mg base (L2N.CX P w) 3 T.a_law_make T.fd_law_make ["_law_blocks", "_law_many", "_law_places"] (spOf (kcm K (kt P w T)) md_law_make G_law_make) :=
  fn_sim T.F_law_make sc_law_make rfl (by decide) fun cdv A outer s H E hr =>
  (mss_one (ms_try (i := 3) rfl rfl sc_law_make.nd rfl rfl ⟨rfl, by decide, .inl T.g_StoreError⟩ (takes_of rfl rfl rfl rfl) (fun W pn xe tk po => (mss_one (ms_ret (me_frz (me_makeKS (n := 0) T.m_Plan_init (sim_Plan_init T) (hr.mono (by decide)) tk (by rfl) T.g_Plan T.b_Plan_init (ma_cons (me_var (pv 0)) ma_nil) (mk_cons (me_var (pv 1)) (mk_cons (me_var (pv 2)) mk_nil)) rfl))))) (su_T (k := 0) T.m_BadValue_StoreError (fun a oe pn hz hf => (mss_one (ms_ret (me_callE (is := []) (simE_law_error__BadValue T) hz hf (rmH_mark ((L2H.roomH_of hr).mono (by decide))) (hot_here hz hf) List.mem_cons_self takes0 rfl T.m_law_error T.F_law_error.kp T.b_law_error (ma_cons (me_var (pv 3)) ma_nil) (by decide) (by decide))))) su_nil)))
abbrev md_Plan_read : List Bool := [false]
def g_Plan_read : GS := (sSeq (sSet md_Plan_read 1 (gSeq (gSeq (gVar 0) gNil) (gCall [] md_split_words G_split_words 1)))
    (sSeq (sIf (gOrB (gSeq (gSeq (gSeq (gSeq (gVar 1) gNil) fLen) (gC (.int 4))) fNe) (gSeq (gSeq (gSeq (gSeq (gVar 1) (gC (.int 0))) fIxA) (gC (.str "plan"))) fNe)) (sRaise 1) sNil)
    (sSeq (sSet md_Plan_read 2 (gSeq (gSeq (gSeq (gSeq (gVar 1) (gC (.int 1))) fIxA) (gSeq (gC (.int 999999999999)) gNil)) (gCall [] md_read_number G_read_number 2)))
    (sSeq (sSet md_Plan_read 3 (gSeq (gSeq (gSeq (gSeq (gVar 1) (gC (.int 2))) fIxA) (gSeq (gC (.int 999999999999)) gNil)) (gCall [] md_read_number G_read_number 2)))
    (sSeq (sSet md_Plan_read 4 (gSeq (gSeq (gSeq (gSeq (gVar 1) (gC (.int 3))) fIxA) (gSeq (gC (.int 999999999999)) gNil)) (gCall [] md_read_number G_read_number 2)))
    (sRet (gSeq (gSeq (gSeq (gVar 2) gNil) (gSeq (gSeq (gVar 3) (gSeq (gVar 4) gNil)) (gMake 0 (md_Plan_init).tail G_Plan_init 3))) fFrz)))))))
def G_Plan_read : GF := runF md_Plan_read 5 g_Plan_read
theorem sim_Plan_read (T : Txt K mg) : FnOk P w K mg base (L2N.CX P w) 3 T.a_Plan_read T.fd_Plan_read ["line"] (spOf (kcm K (kt P w T)) md_Plan_read G_Plan_read) :=
  fn_sim T.F_Plan_read sc_Plan_read rfl (by decide) fun cdv A outer s H E hr =>
  (mss_cons (ms_set (i := 1) sc_Plan_read.nd rfl (Or.inl rfl) (me_call (is := []) (sim_split_words T) (hr.mono (by decide)) (takes_of rfl rfl rfl rfl) rfl T.m_split_words T.F_split_words.kp T.b_split_words (ma_cons (me_var (pv 0)) ma_nil) (by decide) (by decide)))
    (mss_cons (ms_if (mw_pt (mw_or (mt_cmp (OpR.or op_ne (op_neD hr.units)) fNe_ok (me_callB (CallR.or call_len call_lenR) fLen_ok (by rfl) T.n_len (by decide +kernel) (ma_cons (me_var (pv 1)) ma_nil)) (me_c pe_int) (nomark _)) (mw_or1 (mt_cmp (OpR.or op_ne (op_neD hr.units)) fNe_ok (me_ixA hr.units (me_var (pv 1)) (me_c pe_int) (fun _ _ => rfl)) (me_c pe_str) (nomark _))))) (mss_one (ms_raise (n := 1) rfl (takes_of rfl rfl rfl rfl) (pmk_own PySem.F.excBase_ValueError T.x_BadText T.g_BadText T.k_BadText (raises_own T.sb_BadText T.ty_BadText) rfl)))
    mss_nil)
    (mss_cons (ms_set (i := 2) sc_Plan_read.nd rfl (Or.inl rfl) (me_call (is := []) (sim_read_number T) (hr.mono (by decide)) (takes_of rfl rfl rfl rfl) rfl T.m_read_number T.F_read_number.kp T.b_read_number (ma_cons (me_ixA hr.units (me_var (pv 1)) (me_c pe_int) (fun _ _ => rfl)) (ma_cons (me_c pe_int) ma_nil)) (by decide) (by decide)))
    (mss_cons (ms_set (i := 3) sc_Plan_read.nd rfl (Or.inl rfl) (me_call (is := []) (sim_read_number T) (hr.mono (by decide)) (takes_of rfl rfl rfl rfl) rfl T.m_read_number T.F_read_number.kp T.b_read_number (ma_cons (me_ixA hr.units (me_var (pv 1)) (me_c pe_int) (fun _ _ => rfl)) (ma_cons (me_c pe_int) ma_nil)) (by decide) (by decide)))
    (mss_cons (ms_set (i := 4) sc_Plan_read.nd rfl (Or.inl rfl) (me_call (is := []) (sim_read_number T) (hr.mono (by decide)) (takes_of rfl rfl rfl rfl) rfl T.m_read_number T.F_read_number.kp T.b_read_number (ma_cons (me_ixA hr.units (me_var (pv 1)) (me_c pe_int) (fun _ _ => rfl)) (ma_cons (me_c pe_int) ma_nil)) (by decide) (by decide)))
    (mss_one (ms_ret (me_frz (me_makeKS (n := 0) T.m_Plan_init (sim_Plan_init T) (hr.mono (by decide)) (takes_of rfl rfl rfl rfl) (by rfl) T.g_Plan T.b_Plan_init (ma_cons (me_var (pv 2)) ma_nil) (mk_cons (me_var (pv 3)) (mk_cons (me_var (pv 4)) mk_nil)) rfl)))))))))
abbrev md_law_read_plan : List Bool := [false]
def g_law_read_plan : GS := (sTry md_law_read_plan 1 [(0, true), (1, true)] (sRet (gSeq (gSeq (gVar 0) gNil) (gCall [] md_Plan_read G_Plan_read 1))) (suC 0 (fun a => (sRet (gSeq (gSeq (gVar 1) gNil) (gCall [] md_law_error (G_law_error__BadValue a) 1)))) (suC 1 (fun a => (sRet (gSeq (gSeq (gVar 1) gNil) (gCall [] md_law_error (G_law_error__BadText a) 1)))) suN)))
def G_law_read_plan : GF := runF md_law_read_plan 2 g_law_read_plan
theorem sim_law_read_plan (T : Txt K mg) : FnOk P w K mg base (L2N.CX P w) 4 T.a_law_read_plan T.fd_law_read_plan ["_law_line_here"] (spOf (kcm K (kt P w T)) md_law_read_plan G_law_read_plan) :=
  fn_sim T.F_law_read_plan sc_law_read_plan rfl (by decide) fun cdv A outer s H E hr =>
  (mss_one (ms_try (i := 1) rfl rfl sc_law_read_plan.nd rfl rfl ⟨rfl, by decide, .inl T.g_StoreError⟩ (takes_of rfl rfl rfl rfl) (fun W pn xe tk po => (mss_one (ms_ret (me_smethS (is := []) (pe_glob (v := .ref T.c_Plan) rfl T.g_Plan rfl) T.m_Plan_read (sim_Plan_read T) (hr.mono (by decide)) tk T.b_Plan_read (ma_cons (me_var (pv 0)) ma_nil) (by decide) (by decide))))) (su_T (k := 0) T.m_BadValue_StoreError (fun a oe pn hz hf => (mss_one (ms_ret (me_callE (is := []) (simE_law_error__BadValue T) hz hf (rmH_mark ((L2H.roomH_of hr).mono (by decide))) (hot_here hz hf) List.mem_cons_self takes0 rfl T.m_law_error T.F_law_error.kp T.b_law_error (ma_cons (me_var (pv 1)) ma_nil) (by decide) (by decide))))) (su_T (k := 1) T.m_BadText_StoreError (fun a oe pn hz hf => (mss_one (ms_ret (me_callE (is := []) (simE_law_error__BadText T) hz hf (rmH_mark ((L2H.roomH_of hr).mono (by decide))) (hot_here hz hf) List.mem_cons_self takes0 rfl T.m_law_error T.F_law_error.kp T.b_law_error (ma_cons (me_var (pv 1)) ma_nil) (by decide) (by decide))))) su_nil))))
abbrev md_law_sign : List Bool := [true]
def g_law_sign : GS := (sSeq (sSet md_law_sign 1 (gC (.str " 0123456789_+-.,abcdefghijklmnopqrstuvwxyzABCDEFGHIJKLMNOPQRSTUVWXYZ!\"#$&'()*/:;<=>?\x40[\\]^`{|}~")))
    (sSeq (sSet md_law_sign 2 (gSeq (gSeq (gVar 0) (gSeq (gC (.int 400)) gNil)) (gCall [0] md_law_pick G_law_pick 2)))
    (sSeq (sIf (gSeq (gSeq (gVar 2) (gC (.int 200))) fLt) (sRet (gSeq (gSeq (gVar 1) (gSeq (gSeq (gSeq (gSeq (gVar 2) gNil) fInt) (gC (.int 16))) fMod)) fIxS)) sNil)
    (sRet (gSeq (gSeq (gVar 1) (gSeq (gSeq (gSeq (gSeq (gVar 2) gNil) fInt) (gSeq (gSeq (gVar 1) gNil) fLen)) fMod)) fIxS)))))
def G_law_sign : GF := runF md_law_sign 3 g_law_sign
theorem sim_law_sign (T : Txt K mg) : FnOk P w K mg base (L2N.CX P w) 2 T.a_law_sign T.fd_law_sign ["_law_feed_here"] (spOf (kcm K (kt P w T)) md_law_sign G_law_sign) :=
  fn_sim T.F_law_sign sc_law_sign rfl (by decide) fun cdv A outer s H E hr =>
  (mss_cons (ms_set (i := 1) sc_law_sign.nd rfl (Or.inl rfl) (me_c pe_str))
    (mss_cons (ms_set (i := 2) sc_law_sign.nd rfl (Or.inl rfl) (me_call (is := [0]) (sim_law_pick T) (hr.mono (by decide)) (takes_of rfl rfl rfl rfl) rfl T.m_law_pick T.F_law_pick.kp T.b_law_pick (ma_cons (me_var (pv 0)) (ma_cons (me_c pe_int) ma_nil)) (by decide) (by decide)))
    (mss_cons (ms_if (mt_cmp op_lt fI_ok0 (me_var (pv 2)) (me_c pe_int) (nomark _)) (mss_one (ms_ret (me_ixS (me_var (pv 1)) (me_mod (me_callTy call_int1 fInt_ok (by rfl) T.n_int (by decide +kernel) (ma_cons (me_var (pv 2)) ma_nil)) (me_c pe_int)) (fun _ _ => rfl))))
    mss_nil)
    (mss_one (ms_ret (me_ixS (me_var (pv 1)) (me_mod (me_callTy call_int1 fInt_ok (by rfl) T.n_int (by decide +kernel) (ma_cons (me_var (pv 2)) ma_nil)) (me_callB (CallR.or call_len call_lenR) fLen_ok (by rfl) T.n_len (by decide +kernel) (ma_cons (me_var (pv 1)) ma_nil))) (fun _ _ => rfl)))))))
abbrev md_law_changed : List Bool := [true, false]
def g_law_changed : GS := (sSeq (sSet md_law_changed 2 (gSeq (gSeq (gVar 0) (gSeq (gC (.int 8)) gNil)) (gCall [0] md_law_pick G_law_pick 2)))
    (sSeq (sSet md_law_changed 3 (gSeq (gSeq (gSeq (gSeq (gSeq (gSeq (gVar 0) (gSeq (gC (.int 1000)) gNil)) (gCall [0] md_law_pick G_law_pick 2)) gNil) fInt) (gSeq (gSeq (gSeq (gSeq (gVar 1) gNil) fLen) (gC (.int 1))) fAdd)) fMod))
    (sSeq (sIf (gSeq (gSeq (gVar 2) (gC (.int 3))) fLt) (sRet (gVar 1)) sNil)
    (sSeq (sIf (gSeq (gSeq (gVar 2) (gC (.int 3))) fEq) (sRet (gSeq (gSeq (gSeq (gSeq (gSeq (gVar 1) gNoP) (gSeq (gVar 3) chkInt)) (fSl false true)) (gSeq (gSeq (gSeq (gVar 1) (gSeq (gSeq (gSeq (gVar 3) (gC (.int 1))) fAdd) chkInt)) gNoP) (fSl true false))) fAdd)) sNil)
    (sSeq (sIf (gSeq (gSeq (gVar 2) (gC (.int 4))) fEq) (sRet (gSeq (gSeq (gSeq (gSeq (gSeq (gSeq (gSeq (gVar 1) gNoP) (gSeq (gVar 3) chkInt)) (fSl false true)) (gC (.str " "))) fAdd) (gSeq (gSeq (gSeq (gVar 1) (gSeq (gVar 3) chkInt)) gNoP) (fSl true false))) fAdd)) sNil)
    (sRet (gSeq (gSeq (gSeq (gSeq (gSeq (gSeq (gSeq (gVar 1) gNoP) (gSeq (gVar 3) chkInt)) (fSl false true)) (gSeq (gSeq (gVar 0) gNil) (gCall [0] md_law_sign G_law_sign 1))) fAdd) (gSeq (gSeq (gSeq (gVar 1) (gSeq (gVar 3) chkInt)) gNoP) (fSl true false))) fAdd)))))))
def G_law_changed : GF := runF md_law_changed 4 g_law_changed
theorem sim_law_changed (T : Txt K mg) : FnOk P w K mg base (L2N.CX P w) 3 T.a_law_changed T.fd_law_changed ["_law_feed_here", "_law_text"] (spOf (kcm K (kt P w T)) md_law_changed G_law_changed) :=
  fn_sim T.F_law_changed sc_law_changed rfl (by decide) fun cdv A outer s H E hr =>
  (mss_cons (ms_set (i := 2) sc_law_changed.nd rfl (Or.inl rfl) (me_call (is := [0]) (sim_law_pick T) (hr.mono (by decide)) (takes_of rfl rfl rfl rfl) rfl T.m_law_pick T.F_law_pick.kp T.b_law_pick (ma_cons (me_var (pv 0)) (ma_cons (me_c pe_int) ma_nil)) (by decide) (by decide)))
    (mss_cons (ms_set (i := 3) sc_law_changed.nd rfl (Or.inl rfl) (me_mod (me_callTy call_int1 fInt_ok (by rfl) T.n_int (by decide +kernel) (ma_cons (me_call (is := [0]) (sim_law_pick T) (hr.mono (by decide)) (takes_of rfl rfl rfl rfl) rfl T.m_law_pick T.F_law_pick.kp T.b_law_pick (ma_cons (me_var (pv 0)) (ma_cons (me_c pe_int) ma_nil)) (by decide) (by decide)) ma_nil)) (me_add (me_callB (CallR.or call_len call_lenR) fLen_ok (by rfl) T.n_len (by decide +kernel) (ma_cons (me_var (pv 1)) ma_nil)) (me_c pe_int))))
    (mss_cons (ms_if (mt_cmp op_lt fI_ok0 (me_var (pv 2)) (me_c pe_int) (nomark _)) (mss_one (ms_ret (me_var (pv 1))))
    mss_nil)
    (mss_cons (ms_if (mt_cmp (OpR.or op_eq (op_eqD hr.units)) fEq_ok (me_var (pv 2)) (me_c pe_int) (nomark _)) (mss_one (ms_ret (me_add (me_sl (me_var (pv 1)) mo_none (mo_some (me_var (pv 3)))) (me_sl (me_var (pv 1)) (mo_some (me_add (me_var (pv 3)) (me_c pe_int))) mo_none))))
    mss_nil)
    (mss_cons (ms_if (mt_cmp (OpR.or op_eq (op_eqD hr.units)) fEq_ok (me_var (pv 2)) (me_c pe_int) (nomark _)) (mss_one (ms_ret (me_add (me_add (me_sl (me_var (pv 1)) mo_none (mo_some (me_var (pv 3)))) (me_c pe_str)) (me_sl (me_var (pv 1)) (mo_some (me_var (pv 3))) mo_none))))
    mss_nil)
    (mss_one (ms_ret (me_add (me_add (me_sl (me_var (pv 1)) mo_none (mo_some (me_var (pv 3)))) (me_call (is := [0]) (sim_law_sign T) (hr.mono (by decide)) (takes_of rfl rfl rfl rfl) rfl T.m_law_sign T.F_law_sign.kp T.b_law_sign (ma_cons (me_var (pv 0)) ma_nil) (by decide) (by decide))) (me_sl (me_var (pv 1)) (mo_some (me_var (pv 3))) mo_none)))))))))
abbrev md_law_spoilt : List Bool := [true, false]
def g_law_spoilt : GS := (sSeq (sSet md_law_spoilt 2 (gSeq (gSeq (gVar 0) (gSeq (gC (.int 8)) gNil)) (gCall [0] md_law_pick G_law_pick 2)))
    (sSeq (sIf (gSeq (gSeq (gVar 2) (gC (.int 0))) fEq) (sRet (gVar 1)) sNil)
    (sSeq (sIf (gSeq (gSeq (gVar 2) (gC (.int 1))) fEq) (sRet (gSeq (gSeq (gVar 1) (gSeq (gSeq (gC (.str "0")) (gSeq (gSeq (gC (.int 0)) (gSeq (gSeq (gSeq (gC (.int 12)) (gSeq (gSeq (gVar 1) gNil) fLen)) fSub) gNil)) fMax)) fRepS)) fAdd)) sNil)
    (sSeq (sIf (gSeq (gSeq (gVar 2) (gC (.int 2))) fEq) (sRet (gSeq (gSeq (gVar 1) (gSeq (gSeq (gC (.str "0")) (gSeq (gSeq (gC (.int 1)) (gSeq (gSeq (gSeq (gC (.int 13)) (gSeq (gSeq (gVar 1) gNil) fLen)) fSub) gNil)) fMax)) fRepS)) fAdd)) sNil)
    (sSeq (sIf (gOrB (gSeq (gSeq (gVar 2) (gC (.int 3))) fEq) (gSeq (gSeq (gVar 2) (gC (.int 4))) fEq)) (sRet (gSeq (gSeq (gC (.str "0")) (gVar 1)) fAdd)) sNil)
    (sSeq (sIf (gSeq (gSeq (gVar 2) (gC (.int 5))) fEq) (sRet (gSeq (gSeq (gVar 1) (gC (.str "\n"))) fAdd)) sNil)
    (sRet (gSeq (gSeq (gVar 0) (gSeq (gVar 1) gNil)) (gCall [0] md_law_changed G_law_changed 2)))))))))
def G_law_spoilt : GF := runF md_law_spoilt 3 g_law_spoilt
theorem sim_law_spoilt (T : Txt K mg) : FnOk P w K mg base (L2N.CX P w) 4 T.a_law_spoilt T.fd_law_spoilt ["_law_feed_here", "_law_word_here"] (spOf (kcm K (kt P w T)) md_law_spoilt G_law_spoilt) :=
  fn_sim T.F_law_spoilt sc_law_spoilt rfl (by decide) fun cdv A outer s H E hr =>
  (mss_cons (ms_set (i := 2) sc_law_spoilt.nd rfl (Or.inl rfl) (me_call (is := [0]) (sim_law_pick T) (hr.mono (by decide)) (takes_of rfl rfl rfl rfl) rfl T.m_law_pick T.F_law_pick.kp T.b_law_pick (ma_cons (me_var (pv 0)) (ma_cons (me_c pe_int) ma_nil)) (by decide) (by decide)))
    (mss_cons (ms_if (mt_cmp (OpR.or op_eq (op_eqD hr.units)) fEq_ok (me_var (pv 2)) (me_c pe_int) (nomark _)) (mss_one (ms_ret (me_var (pv 1))))
    mss_nil)
    (mss_cons (ms_if (mt_cmp (OpR.or op_eq (op_eqD hr.units)) fEq_ok (me_var (pv 2)) (me_c pe_int) (nomark _)) (mss_one (ms_ret (me_add (me_var (pv 1)) (me_repS (me_c pe_str) (me_callB (call_max2 rfl) fII_ok (by rfl) T.n_max (by decide +kernel) (ma_cons (me_c pe_int) (ma_cons (me_sub (me_c pe_int) (me_callB (CallR.or call_len call_lenR) fLen_ok (by rfl) T.n_len (by decide +kernel) (ma_cons (me_var (pv 1)) ma_nil))) ma_nil)))))))
    mss_nil)
    (mss_cons (ms_if (mt_cmp (OpR.or op_eq (op_eqD hr.units)) fEq_ok (me_var (pv 2)) (me_c pe_int) (nomark _)) (mss_one (ms_ret (me_add (me_var (pv 1)) (me_repS (me_c pe_str) (me_callB (call_max2 rfl) fII_ok (by rfl) T.n_max (by decide +kernel) (ma_cons (me_c pe_int) (ma_cons (me_sub (me_c pe_int) (me_callB (CallR.or call_len call_lenR) fLen_ok (by rfl) T.n_len (by decide +kernel) (ma_cons (me_var (pv 1)) ma_nil))) ma_nil)))))))
    mss_nil)
    (mss_cons (ms_if (mw_pt (mw_or (mt_cmp (OpR.or op_eq (op_eqD hr.units)) fEq_ok (me_var (pv 2)) (me_c pe_int) (nomark _)) (mw_or1 (mt_cmp (OpR.or op_eq (op_eqD hr.units)) fEq_ok (me_var (pv 2)) (me_c pe_int) (nomark _))))) (mss_one (ms_ret (me_add (me_c pe_str) (me_var (pv 1)))))
    mss_nil)
    (mss_cons (ms_if (mt_cmp (OpR.or op_eq (op_eqD hr.units)) fEq_ok (me_var (pv 2)) (me_c pe_int) (nomark _)) (mss_one (ms_ret (me_add (me_var (pv 1)) (me_c pe_str))))
    mss_nil)
    (mss_one (ms_ret (me_call (is := [0]) (sim_law_changed T) (hr.mono (by decide)) (takes_of rfl rfl rfl rfl) rfl T.m_law_changed T.F_law_changed.kp T.b_law_changed (ma_cons (me_var (pv 0)) (ma_cons (me_var (pv 1)) ma_nil)) (by decide) (by decide))))))))))
abbrev md_law_word : List Bool := [true]
def g_law_word : GS := (sSeq (sSet md_law_word 1 (gSeq (gSeq (gVar 0) (gSeq (gC (.int 8)) gNil)) (gCall [0] md_law_pick G_law_pick 2)))
    (sSeq (sSet md_law_word 2 (gSeq (gSeq (gVar 0) (gSeq (gC (.int 1000)) gNil)) (gCall [0] md_law_pick G_law_pick 2)))
    (sSeq (sIf (gSeq (gSeq (gVar 1) (gC (.int 2))) fGt) (sSet md_law_word 2 (gSeq (gSeq (gVar 2) (gSeq (gSeq (gC (.int 1000)) (gSeq (gSeq (gVar 0) (gSeq (gC (.int 1000)) gNil)) (gCall [0] md_law_pick G_law_pick 2))) fMul)) fAdd)) sNil)
    (sSeq (sIf (gSeq (gSeq (gVar 1) (gC (.int 4))) fGt) (sSet md_law_word 2 (gSeq (gSeq (gSeq (gSeq (gVar 2) (gSeq (gSeq (gC (.int 1000000)) (gSeq (gSeq (gVar 0) (gSeq (gC (.int 1000)) gNil)) (gCall [0] md_law_pick G_law_pick 2))) fMul)) fAdd) (gSeq (gSeq (gC (.int 1000000000)) (gSeq (gSeq (gVar 0) (gSeq (gC (.int 1000)) gNil)) (gCall [0] md_law_pick G_law_pick 2))) fMul)) fAdd)) sNil)
    (sSeq (sIf (gSeq (gSeq (gVar 1) (gC (.int 7))) fEq) (sSet md_law_word 2 (gSeq (gSeq (gSeq (gSeq (gSeq (gSeq (gC (.int 10)) (gC (.int 12))) fPow) (gC (.int 1))) fSub) (gVar 2)) fSub)) sNil)
    (sRet (gSeq (gSeq (gVar 2) gNil) fStrI)))))))
def G_law_word : GF := runF md_law_word 3 g_law_word
theorem sim_law_word (T : Txt K mg) : FnOk P w K mg base (L2N.CX P w) 2 T.a_law_word T.fd_law_word ["_law_feed_here"] (spOf (kcm K (kt P w T)) md_law_word G_law_word) :=
  fn_sim T.F_law_word sc_law_word rfl (by decide) fun cdv A outer s H E hr =>
  (mss_cons (ms_set (i := 1) sc_law_word.nd rfl (Or.inl rfl) (me_call (is := [0]) (sim_law_pick T) (hr.mono (by decide)) (takes_of rfl rfl rfl rfl) rfl T.m_law_pick T.F_law_pick.kp T.b_law_pick (ma_cons (me_var (pv 0)) (ma_cons (me_c pe_int) ma_nil)) (by decide) (by decide)))
    (mss_cons (ms_set (i := 2) sc_law_word.nd rfl (Or.inl rfl) (me_call (is := [0]) (sim_law_pick T) (hr.mono (by decide)) (takes_of rfl rfl rfl rfl) rfl T.m_law_pick T.F_law_pick.kp T.b_law_pick (ma_cons (me_var (pv 0)) (ma_cons (me_c pe_int) ma_nil)) (by decide) (by decide)))
    (mss_cons (ms_if (mt_cmp op_gt fI_ok0 (me_var (pv 1)) (me_c pe_int) (nomark _)) (mss_one (ms_set (i := 2) sc_law_word.nd rfl (Or.inl rfl) (me_add (me_var (pv 2)) (me_mul (me_c pe_int) (me_call (is := [0]) (sim_law_pick T) (hr.mono (by decide)) (takes_of rfl rfl rfl rfl) rfl T.m_law_pick T.F_law_pick.kp T.b_law_pick (ma_cons (me_var (pv 0)) (ma_cons (me_c pe_int) ma_nil)) (by decide) (by decide))))))
    mss_nil)
    (mss_cons (ms_if (mt_cmp op_gt fI_ok0 (me_var (pv 1)) (me_c pe_int) (nomark _)) (mss_one (ms_set (i := 2) sc_law_word.nd rfl (Or.inl rfl) (me_add (me_add (me_var (pv 2)) (me_mul (me_c pe_int) (me_call (is := [0]) (sim_law_pick T) (hr.mono (by decide)) (takes_of rfl rfl rfl rfl) rfl T.m_law_pick T.F_law_pick.kp T.b_law_pick (ma_cons (me_var (pv 0)) (ma_cons (me_c pe_int) ma_nil)) (by decide) (by decide)))) (me_mul (me_c pe_int) (me_call (is := [0]) (sim_law_pick T) (hr.mono (by decide)) (takes_of rfl rfl rfl rfl) rfl T.m_law_pick T.F_law_pick.kp T.b_law_pick (ma_cons (me_var (pv 0)) (ma_cons (me_c pe_int) ma_nil)) (by decide) (by decide))))))
    mss_nil)
    (mss_cons (ms_if (mt_cmp (OpR.or op_eq (op_eqD hr.units)) fEq_ok (me_var (pv 1)) (me_c pe_int) (nomark _)) (mss_one (ms_set (i := 2) sc_law_word.nd rfl (Or.inl rfl) (me_sub (me_sub (me_pow (me_c pe_int) (me_c pe_int)) (me_c pe_int)) (me_var (pv 2)))))
    mss_nil)
    (mss_one (ms_ret (me_callTy call_str_int fStrI_ok (by rfl) T.n_str (by decide +kernel) (ma_cons (me_var (pv 2)) ma_nil)))))))))
abbrev md_law_any : List Bool := [true]
def g_law_any : GS := (sSeq (sSet md_law_any 1 (gSeq (gSeq (gVar 0) (gSeq (gC (.int 3)) gNil)) (gCall [0] md_law_pick G_law_pick 2)))
    (sSeq (sIf (gSeq (gSeq (gVar 1) (gC (.int 0))) fEq) (sRet (gSeq (gSeq (gVar 0) gNil) (gCall [0] md_law_word G_law_word 1))) sNil)
    (sSeq (sIf (gSeq (gSeq (gVar 1) (gC (.int 1))) fEq) (sRet (gSeq (gSeq (gVar 0) gNil) (gCall [0] md_law_sign G_law_sign 1))) sNil)
    (sRet (gSeq (gSeq (gSeq (gSeq (gVar 0) gNil) (gCall [0] md_law_sign G_law_sign 1)) (gSeq (gSeq (gVar 0) gNil) (gCall [0] md_law_word G_law_word 1))) fAdd)))))
def G_law_any : GF := runF md_law_any 2 g_law_any
theorem sim_law_any (T : Txt K mg) : FnOk P w K mg base (L2N.CX P w) 3 T.a_law_any T.fd_law_any ["_law_feed_here"] (spOf (kcm K (kt P w T)) md_law_any G_law_any) :=
  fn_sim T.F_law_any sc_law_any rfl (by decide) fun cdv A outer s H E hr =>
  (mss_cons (ms_set (i := 1) sc_law_any.nd rfl (Or.inl rfl) (me_call (is := [0]) (sim_law_pick T) (hr.mono (by decide)) (takes_of rfl rfl rfl rfl) rfl T.m_law_pick T.F_law_pick.kp T.b_law_pick (ma_cons (me_var (pv 0)) (ma_cons (me_c pe_int) ma_nil)) (by decide) (by decide)))
    (mss_cons (ms_if (mt_cmp (OpR.or op_eq (op_eqD hr.units)) fEq_ok (me_var (pv 1)) (me_c pe_int) (nomark _)) (mss_one (ms_ret (me_call (is := [0]) (sim_law_word T) (hr.mono (by decide)) (takes_of rfl rfl rfl rfl) rfl T.m_law_word T.F_law_word.kp T.b_law_word (ma_cons (me_var (pv 0)) ma_nil) (by decide) (by decide))))
    mss_nil)
    (mss_cons (ms_if (mt_cmp (OpR.or op_eq (op_eqD hr.units)) fEq_ok (me_var (pv 1)) (me_c pe_int) (nomark _)) (mss_one (ms_ret (me_call (is := [0]) (sim_law_sign T) (hr.mono (by decide)) (takes_of rfl rfl rfl rfl) rfl T.m_law_sign T.F_law_sign.kp T.b_law_sign (ma_cons (me_var (pv 0)) ma_nil) (by decide) (by decide))))
    mss_nil)
    (mss_one (ms_ret (me_add (me_call (is := [0]) (sim_law_sign T) (hr.mono (by decide)) (takes_of rfl rfl rfl rfl) rfl T.m_law_sign T.F_law_sign.kp T.b_law_sign (ma_cons (me_var (pv 0)) ma_nil) (by decide) (by decide)) (me_call (is := [0]) (sim_law_word T) (hr.mono (by decide)) (takes_of rfl rfl rfl rfl) rfl T.m_law_word T.F_law_word.kp T.b_law_word (ma_cons (me_var (pv 0)) ma_nil) (by decide) (by decide))))))))
abbrev md_law_line : List Bool := [true, false]
def g_law_line : GS := (sSeq (sSet md_law_line 2 (gSeq (gSeq (gVar 1) (gSeq chkS (gC (.str " ")))) fSplit))
    (sSeq (sSet md_law_line 3 (gSeq (gSeq (gVar 0) (gSeq (gC (.int 6)) gNil)) (gCall [0] md_law_pick G_law_pick 2)))
    (sSeq (sSet md_law_line 4 (gSeq (gSeq (gVar 0) (gSeq (gC (.int 4)) gNil)) (gCall [0] md_law_pick G_law_pick 2)))
    (sSeq (sIf (gSeq (gSeq (gVar 3) (gC (.int 0))) fEq) (sExpr (gSeq (gVar 2) (gSeq chkL (gSeq (gSeq (gSeq (gVar 4) (fMv md_law_line)) gNil) fPopA)))) (sIf (gSeq (gSeq (gVar 3) (gC (.int 1))) fEq) (sExpr (gSeq (gVar 2) (gSeq chkL (gSeq (gSeq (gSeq (gVar 4) (gSeq (gSeq (gSeq (gVar 2) (gVar 4)) fIxA) gNil)) (fMvD md_law_line 1)) fIns)))) (sIf (gSeq (gSeq (gVar 3) (gC (.int 5))) fLt) (sSubA (gSeq (gSeq (gVar 0) (gSeq (gSeq (gSeq (gVar 2) (gVar 4)) fIxA) gNil)) (gCall [0] md_law_spoilt G_law_spoilt 2)) (gVar 2) (gVar 4)) (sRet (gSeq (gSeq (gVar 0) (gSeq (gVar 1) gNil)) (gCall [0] md_law_changed G_law_changed 2))))))
    (sRet (gSeq (gSeq (gC (.str " ")) (gSeq chkS (gVar 2))) fJoin))))))
def G_law_line : GF := runF md_law_line 5 g_law_line
theorem sim_law_line (T : Txt K mg) : FnOk P w K mg base (L2N.CX P w) 5 T.a_law_line T.fd_law_line ["_law_feed_here", "_law_line_here"] (spOf (kcm K (kt P w T)) md_law_line G_law_line) :=
  fn_sim T.F_law_line sc_law_line rfl (by decide) fun cdv A outer s H E hr =>
  (mss_cons (ms_set (i := 2) sc_law_line.nd rfl (Or.inl rfl) (me_m1 (me_var (pv 1)) (me_c pe_str) fSplit_ok (fun a b => pe_split a b)))
    (mss_cons (ms_set (i := 3) sc_law_line.nd rfl (Or.inl rfl) (me_call (is := [0]) (sim_law_pick T) (hr.mono (by decide)) (takes_of rfl rfl rfl rfl) rfl T.m_law_pick T.F_law_pick.kp T.b_law_pick (ma_cons (me_var (pv 0)) (ma_cons (me_c pe_int) ma_nil)) (by decide) (by decide)))
    (mss_cons (ms_set (i := 4) sc_law_line.nd rfl (Or.inl rfl) (me_call (is := [0]) (sim_law_pick T) (hr.mono (by decide)) (takes_of rfl rfl rfl rfl) rfl T.m_law_pick T.F_law_pick.kp T.b_law_pick (ma_cons (me_var (pv 0)) (ma_cons (me_c pe_int) ma_nil)) (by decide) (by decide)))
    (mss_cons (ms_if (mt_cmp (OpR.or op_eq (op_eqD hr.units)) fEq_ok (me_var (pv 3)) (me_c pe_int) (nomark _)) (mss_one (ms_expr (me_bm (me_var (pv 2)) (ma_cons (me_mv (me_var (pv 4))) ma_nil) fPopA_ok (fun a b => pe_bm PySem.F.plainAttrs_list PySem.F.slot_list_pop PySem.F.type_list_pop mt_popAt a b))))
    (mss_one (ms_if (mt_cmp (OpR.or op_eq (op_eqD hr.units)) fEq_ok (me_var (pv 3)) (me_c pe_int) (nomark _)) (mss_one (ms_expr (me_bm (me_var (pv 2)) (ma_mvd (d := 1) (ma_cons (me_var (pv 4)) (ma_cons (me_ixA hr.units (me_var (pv 2)) (me_var (pv 4)) (fun _ _ => rfl)) ma_nil))) fIns_ok (fun a b => pe_bm PySem.F.plainAttrs_list PySem.F.slot_list_insert PySem.F.type_list_insert mt_insert a b))))
    (mss_one (ms_if (mt_cmp op_lt fI_ok0 (me_var (pv 3)) (me_c pe_int) (nomark _)) (mss_one (ms_subA (me_call (is := [0]) (sim_law_spoilt T) (hr.mono (by decide)) (takes_of rfl rfl rfl rfl) rfl T.m_law_spoilt T.F_law_spoilt.kp T.b_law_spoilt (ma_cons (me_var (pv 0)) (ma_cons (me_ixA hr.units (me_var (pv 2)) (me_var (pv 4)) (fun _ _ => rfl)) ma_nil)) (by decide) (by decide)) (me_var (pv 2)) (me_var (pv 4)) (fun a b c => ps_asg c (pg_sub a b (set_A hr.units)))))
    (mss_one (ms_ret (me_call (is := [0]) (sim_law_changed T) (hr.mono (by decide)) (takes_of rfl rfl rfl rfl) rfl T.m_law_changed T.F_law_changed.kp T.b_law_changed (ma_cons (me_var (pv 0)) (ma_cons (me_var (pv 1)) ma_nil)) (by decide) (by decide)))))))))
    (mss_one (ms_ret (me_m1 (me_c pe_str) (me_var (pv 2)) fJoin_ok (fun a b => pe_join a b))))))))
abbrev md_law_number : List Bool := [false]
def b_law_number_1 : GS := (sSeq (sIf (gSeq (gSeq (gVar 2) (gSeq (gSeq (gC (.str "0")) (gSeq (gC (.str "1")) (gSeq (gC (.str "2")) (gSeq (gC (.str "3")) (gSeq (gC (.str "4")) (gSeq (gC (.str "5")) (gSeq (gC (.str "6")) (gSeq (gC (.str "7")) (gSeq (gC (.str "8")) (gSeq (gC (.str "9")) gNil)))))))))) (fNew .lst 10))) fNotInA) (sRet (gSeq (gC (.int 1)) fNeg)) sNil)
    (sSet md_law_number 1 (gSeq (gSeq (gSeq (gSeq (gVar 1) (gC (.int 10))) fMul) (gSeq (gSeq (gC (.str "0123456789")) (gSeq chkS (gVar 2))) fFind)) fAdd)))
def g_law_number : GS := (sSeq (sIf (gOrB (gSeq (gSeq (gVar 0) (gC (.str ""))) fEq) (gOrB (gSeq (gSeq (gSeq (gSeq (gVar 0) gNil) fLen) (gC (.int 12))) fGt) (gAnd (gSeq (gSeq (gSeq (gSeq (gVar 0) (gC (.int 0))) fIxS) (gC (.str "0"))) fEq) (gSeq (gSeq (gVar 0) (gC (.str "0"))) fNe)))) (sRet (gSeq (gC (.int 1)) fNeg)) sNil)
    (sSeq (sSet md_law_number 1 (gC (.int 0)))
    (sSeq (sForT (gVar 0) (bind md_law_number 2) b_law_number_1)
    (sRet (gSeq (gVar 1) (fMv md_law_number))))))
def G_law_number : GF := runF md_law_number 3 g_law_number
theorem sim_law_number (T : Txt K mg) : FnOk P w K mg base (L2N.CX P w) 1 T.a_law_number T.fd_law_number ["_law_word_here"] (spOf (kcm K (kt P w T)) md_law_number G_law_number) :=
  fn_sim T.F_law_number sc_law_number rfl (by decide) fun cdv A outer s H E hr =>
  (mss_cons (ms_if (mw_pt (mw_or (mt_cmp (OpR.or op_eq (op_eqD hr.units)) fEq_ok (me_var (pv 0)) (me_c pe_str) (nomark _)) (mw_or (mt_cmp op_gt fI_ok0 (me_callB (CallR.or call_len call_lenR) fLen_ok (by rfl) T.n_len (by decide +kernel) (ma_cons (me_var (pv 0)) ma_nil)) (me_c pe_int) (nomark _)) (mw_or1 (mw_pt (mw_and (mt_cmp (OpR.or op_eq (op_eqD hr.units)) fEq_ok (me_ixS (me_var (pv 0)) (me_c pe_int) (fun _ _ => rfl)) (me_c pe_str) (nomark _)) (mw_and1 (mt_cmp (OpR.or op_ne (op_neD hr.units)) fNe_ok (me_var (pv 0)) (me_c pe_str) (nomark _))))))))) (mss_one (ms_ret (me_neg (me_c pe_int))))
    mss_nil)
    (mss_cons (ms_set (i := 1) sc_law_number.nd rfl (Or.inl rfl) (me_c pe_int))
    (mss_cons (ms_forT (me_var (pv 0)) (mg_name (i := 2) sc_law_number.nd rfl (Or.inl rfl))
    (mss_cons (ms_if (mt_cmp (op_notInA hr.units) fNotInA_ok (me_var (pv 2)) (me_lst (ma_cons (me_c pe_str) (ma_cons (me_c pe_str) (ma_cons (me_c pe_str) (ma_cons (me_c pe_str) (ma_cons (me_c pe_str) (ma_cons (me_c pe_str) (ma_cons (me_c pe_str) (ma_cons (me_c pe_str) (ma_cons (me_c pe_str) (ma_cons (me_c pe_str) ma_nil)))))))))) (by show 10 ≤ sizeLine; decide)) rfl) (mss_one (ms_ret (me_neg (me_c pe_int))))
    mss_nil)
    (mss_one (ms_set (i := 1) sc_law_number.nd rfl (Or.inl rfl) (me_add (me_mul (me_var (pv 1)) (me_c pe_int)) (me_m1 (me_c pe_str) (me_var (pv 2)) fFind_ok (fun a b => pe_m1 PySem.F.slot_str_find PySem.F.type_str_find mt_find a b)))))) (passes_of rfl) rfl)
    (mss_one (ms_ret (me_mv (me_var (pv 1))))))))
abbrev md_law_words : List Bool := [false]
def b_law_words_1 : GS := (sIf (gSeq (gSeq (gVar 3) (gC (.str " "))) fEq) (sSeq (sExpr (gSeq (gVar 1) (gSeq chkL (gSeq (gSeq (gSeq (gVar 2) (fMv md_law_words)) gNil) fApp))))
    (sSet md_law_words 2 (gC (.str "")))) (sSet md_law_words 2 (gSeq (gSeq (gVar 2) (gVar 3)) fAdd)))
def g_law_words : GS := (sSeq (sSet md_law_words 1 (gSeq gNil (fNew .lst 0)))
    (sSeq (sSet md_law_words 2 (gC (.str "")))
    (sSeq (sForT (gVar 0) (bind md_law_words 3) b_law_words_1)
    (sSeq (sExpr (gSeq (gVar 1) (gSeq chkL (gSeq (gSeq (gSeq (gVar 2) (fMv md_law_words)) gNil) fApp))))
    (sSeq (sIf (gSeq (gSeq (gVar 0) (gC (.str ""))) fEq) (sRet (gSeq gNil (fNew .lst 0))) sNil)
    (sSeq (sIf (gSeq (gSeq (gC (.str "")) (gVar 1)) fInA) (sRet (gSeq (gSeq (gC (.str "refused")) (gSeq (gSeq (gSeq (gC (.str "BadText")) gNil) (fNew .lst 1)) gNil)) (fNew .tup 2))) sNil)
    (sRet (gSeq (gVar 1) (fMv md_law_words)))))))))
def G_law_words : GF := runF md_law_words 4 g_law_words
theorem sim_law_words (T : Txt K mg) : FnOk P w K mg base (L2N.CX P w) 1 T.a_law_words T.fd_law_words ["_law_line_here"] (spOf (kcm K (kt P w T)) md_law_words G_law_words) :=
  fn_sim T.F_law_words sc_law_words rfl (by decide) fun cdv A outer s H E hr =>
  (mss_cons (ms_set (i := 1) sc_law_words.nd rfl (Or.inl rfl) (me_lst ma_nil (by show 0 ≤ sizeLine; decide)))
    (mss_cons (ms_set (i := 2) sc_law_words.nd rfl (Or.inl rfl) (me_c pe_str))
    (mss_cons (ms_forT (me_var (pv 0)) (mg_name (i := 3) sc_law_words.nd rfl (Or.inl rfl))
    (mss_one (ms_if (mt_cmp (OpR.or op_eq (op_eqD hr.units)) fEq_ok (me_var (pv 3)) (me_c pe_str) (nomark _)) (mss_cons (ms_expr (me_bm (me_var (pv 1)) (ma_cons (me_mv (me_var (pv 2))) ma_nil) fApp_ok (fun a b => pe_bm PySem.F.plainAttrs_list PySem.F.slot_list_append PySem.F.type_list_append mt_append a b)))
    (mss_one (ms_set (i := 2) sc_law_words.nd rfl (Or.inl rfl) (me_c pe_str))))
    (mss_one (ms_set (i := 2) sc_law_words.nd rfl (Or.inl rfl) (me_add (me_var (pv 2)) (me_var (pv 3))))))) (passes_of rfl) rfl)
    (mss_cons (ms_expr (me_bm (me_var (pv 1)) (ma_cons (me_mv (me_var (pv 2))) ma_nil) fApp_ok (fun a b => pe_bm PySem.F.plainAttrs_list PySem.F.slot_list_append PySem.F.type_list_append mt_append a b)))
    (mss_cons (ms_if (mt_cmp (OpR.or op_eq (op_eqD hr.units)) fEq_ok (me_var (pv 0)) (me_c pe_str) (nomark _)) (mss_one (ms_ret (me_lst ma_nil (by show 0 ≤ sizeLine; decide))))
    mss_nil)
    (mss_cons (ms_if (mt_cmp (op_inA hr.units) fInA_ok (me_c pe_str) (me_var (pv 1)) rfl) (mss_one (ms_ret (me_tup (ma_cons (me_c pe_str) (ma_cons (me_lst (ma_cons (me_c pe_str) ma_nil) (by show 1 ≤ sizeLine; decide)) ma_nil)) (by show 2 ≤ sizeLine; decide))))
    mss_nil)
    (mss_one (ms_ret (me_mv (me_var (pv 1)))))))))))
abbrev md_law_good_plan : List Bool := [false, false, false]
def b_law_good_plan_1 : GS := (sSet md_law_good_plan 3 (gSeq (gSeq (gVar 3) (gC (.int 1))) fAdd))
def g_law_good_plan : GS := (sSeq (sIf (gNot (gAnd (gChain (gC (.int 8)) (gVar 0) fLe (gC (.int 64)) fLe) (gAnd (gChain (gC (.int 2)) (gVar 1) fLe (gC (.int 16)) fLe) (gChain (gSeq (gSeq (gVar 0) (gC (.int 1))) fAdd) (gVar 2) fLe (gC (.int 200)) fLe)))) (sRet (gC (.bl false))) sNil)
    (sSeq (sSet md_law_good_plan 3 (gC (.int 1)))
    (sSeq (sForR3 (gSeq (gC (.int 8)) (gSeq (gVar 0) (gSeq (gC (.int 8)) gNil))) (bind md_law_good_plan 4) b_law_good_plan_1)
    (sRet (gSeq (gSeq (gSeq (gSeq (gSeq (gSeq (gSeq (gSeq (gVar 0) (gC (.int 2))) fSub) (gVar 3)) fSub) (gVar 1)) fSub) (gC (.int 2))) fGe)))))
def G_law_good_plan : GF := runF md_law_good_plan 5 g_law_good_plan
theorem sim_law_good_plan (T : Txt K mg) : FnOk P w K mg base (L2N.CX P w) 1 T.a_law_good_plan T.fd_law_good_plan ["_law_blocks", "_law_many", "_law_places"] (spOf (kcm K (kt P w T)) md_law_good_plan G_law_good_plan) :=
  fn_sim T.F_law_good_plan sc_law_good_plan rfl (by decide) fun cdv A outer s H E hr =>
  (mss_cons (ms_if (mt_not (mw_pt (mw_and (mt_chain (me_c pe_int) (me_var (pv 0)) fI_ok0 (me_c pe_int) fI_ok0 (fun a b c => pt_chain op_le op_le a b c)) (mw_and (mt_chain (me_c pe_int) (me_var (pv 1)) fI_ok0 (me_c pe_int) fI_ok0 (fun a b c => pt_chain op_le op_le a b c)) (mw_and1 (mt_chain (me_add (me_var (pv 0)) (me_c pe_int)) (me_var (pv 2)) fI_ok0 (me_c pe_int) fI_ok0 (fun a b c => pt_chain op_le op_le a b c))))))) (mss_one (ms_ret (me_c pe_bl)))
    mss_nil)
    (mss_cons (ms_set (i := 3) sc_law_good_plan.nd rfl (Or.inl rfl) (me_c pe_int))
    (mss_cons (ms_forR3 (ma_cons (me_c pe_int) (ma_cons (me_var (pv 0)) (ma_cons (me_c pe_int) ma_nil))) (mg_name (i := 4) sc_law_good_plan.nd rfl (Or.inl rfl))
    (mss_one (ms_set (i := 3) sc_law_good_plan.nd rfl (Or.inl rfl) (me_add (me_var (pv 3)) (me_c pe_int)))) rfl T.n_range (passes_of rfl) rfl)
    (mss_one (ms_ret (me_cmp op_ge fI_ok0 (me_sub (me_sub (me_sub (me_var (pv 0)) (me_c pe_int)) (me_var (pv 3))) (me_var (pv 1))) (me_c pe_int) (nomark _)))))))
abbrev md_Plan_data_blocks : List Bool := [false]
def g_Plan_data_blocks : GS := (sRet (gSeq (gSeq (gSeq (gVar 0) (fFld tab_first_data)) (gSeq (gVar 0) (fFld tab_blocks))) fLstG))
def G_Plan_data_blocks : GF := runF md_Plan_data_blocks 1 g_Plan_data_blocks
theorem sim_Plan_data_blocks (T : Txt K mg) : FnOk P w K mg base (L2N.CX P w) 1 T.a_Plan_data_blocks T.fd_Plan_data_blocks ["self"] (spOf (kcm K (kt P w T)) md_Plan_data_blocks G_Plan_data_blocks) :=
  fn_sim T.F_Plan_data_blocks sc_Plan_data_blocks rfl (by decide) fun cdv A outer s H E hr =>
  (mss_one (ms_ret (me_lstRg2 (me_fld (me_var (pv 0)) (fo_first_data T)) (me_fld (me_var (pv 0)) (fo_blocks T)) rfl (by rfl) T.n_list (by rfl) T.n_range)))
abbrev md_Plan_text : List Bool := [false]
def g_Plan_text : GS := (sRet (gJs [(gC (.str "plan ")), (gSeq (gSeq (gVar 0) (fFld tab_blocks)) fFmt), (gC (.str " ")), (gSeq (gSeq (gVar 0) (fFld tab_nodes)) fFmt), (gC (.str " ")), (gSeq (gSeq (gVar 0) (fFld tab_slots)) fFmt)] Str.empty))
def G_Plan_text : GF := runF md_Plan_text 1 g_Plan_text
theorem sim_Plan_text (T : Txt K mg) : FnOk P w K mg base (L2N.CX P w) 1 T.a_Plan_text T.fd_Plan_text ["self"] (spOf (kcm K (kt P w T)) md_Plan_text G_Plan_text) :=
  fn_sim T.F_Plan_text sc_Plan_text rfl (by decide) fun cdv A outer s H E hr =>
  (mss_one (ms_ret (me_joined (MJ.cons (me_c pe_str) (MJ.cons (me_fmt (me_fld (me_var (pv 0)) (fo_blocks T))) (MJ.cons (me_c pe_str) (MJ.cons (me_fmt (me_fld (me_var (pv 0)) (fo_nodes T))) (MJ.cons (me_c pe_str) (MJ.cons (me_fmt (me_fld (me_var (pv 0)) (fo_slots T))) MJ.nil)))))))))
abbrev md_Plan_map_place : List Bool := [false, false]
def g_Plan_map_place : GS := (sRet (gSeq (gSeq (gSeq (gSeq (gC (.int 2)) (gSeq (gSeq (gVar 1) (gC (.int 8))) fDiv)) fAdd) (gSeq (gSeq (gSeq (gVar 1) (gC (.int 8))) fMod) gNil)) (fNew .tup 2)))
def G_Plan_map_place : GF := runF md_Plan_map_place 2 g_Plan_map_place
theorem sim_Plan_map_place (T : Txt K mg) : FnOk P w K mg base (L2N.CX P w) 1 T.a_Plan_map_place T.fd_Plan_map_place ["self", "x"] (spOf (kcm K (kt P w T)) md_Plan_map_place G_Plan_map_place) :=
  fn_sim T.F_Plan_map_place sc_Plan_map_place rfl (by decide) fun cdv A outer s H E hr =>
  (mss_one (ms_ret (me_tup (ma_cons (me_add (me_c pe_int) (me_div (me_var (pv 1)) (me_c pe_int))) (ma_cons (me_mod (me_var (pv 1)) (me_c pe_int)) ma_nil)) (by show 2 ≤ sizeLine; decide))))
abbrev md_Plan_node_block : List Bool := [false, false]
def g_Plan_node_block : GS := (sRet (gSeq (gSeq (gSeq (gSeq (gSeq (gVar 0) (fFld tab_first_node)) (gVar 1)) fAdd) (gC (.int 1))) fSub))
def G_Plan_node_block : GF := runF md_Plan_node_block 2 g_Plan_node_block
theorem sim_Plan_node_block (T : Txt K mg) : FnOk P w K mg base (L2N.CX P w) 1 T.a_Plan_node_block T.fd_Plan_node_block ["self", "n"] (spOf (kcm K (kt P w T)) md_Plan_node_block G_Plan_node_block) :=
  fn_sim T.F_Plan_node_block sc_Plan_node_block rfl (by decide) fun cdv A outer s H E hr =>
  (mss_one (ms_ret (me_sub (me_add (me_fld (me_var (pv 0)) (fo_first_node T)) (me_var (pv 1))) (me_c pe_int))))
abbrev md_law_is_plan : List Bool := [false, false, false, false]
def b_law_is_plan_1 : GS := (sSet md_law_is_plan 4 (gSeq (gSeq (gVar 4) (gC (.int 1))) fAdd))
def e_law_is_plan_1 : GE := (gSeq (gSeq (gSeq (gSeq (gC (.int 2)) (gSeq (gSeq (gVar 5) (gC (.int 8))) fDiv)) fAdd) (gSeq (gSeq (gSeq (gSeq (gSeq (gVar 5) gNil) fInt) (gC (.int 8))) fMod) gNil)) (fNew .tup 2))
def e_law_is_plan_2 : GE := (gSeq (gVar 0) (gSeq (chkI 0) (gSeq (gSeq (gVar 5) gNil) (gCall [] md_Plan_map_place G_Plan_map_place 2))))
def e_law_is_plan_3 : GE := (gSeq (gVar 0) (gSeq (chkI 0) (gSeq (gSeq (gVar 8) gNil) (gCall [] md_Plan_node_block G_Plan_node_block 2))))
def e_law_is_plan_4 : GE := (gSeq (gSeq (gSeq (gSeq (gC (.int 1)) (gVar 4)) fAdd) (gVar 8)) fAdd)
def g_law_is_plan : GS := (sSeq (sIf (gNot (gSeq (gVar 0) (fIsO 0))) (sRet (gC (.bl false))) sNil)
    (sSeq (sSet md_law_is_plan 4 (gC (.int 1)))
    (sSeq (sForR3 (gSeq (gC (.int 8)) (gSeq (gVar 1) (gSeq (gC (.int 8)) gNil))) (bind md_law_is_plan 5) b_law_is_plan_1)
    (sSeq (sSet md_law_is_plan 6 (gSeq (gSeq (gSeq (gVar 0) (fFld tab_blocks)) (gSeq (gSeq (gVar 0) (fFld tab_nodes)) (gSeq (gSeq (gVar 0) (fFld tab_slots)) (gSeq (gSeq (gVar 0) (fFld tab_maps)) (gSeq (gSeq (gVar 0) (fFld tab_first_node)) (gSeq (gSeq (gVar 0) (fFld tab_first_data)) gNil)))))) (fNew .lst 6)))
    (sSeq (sIf (gNot (gSeq (gSeq (gVar 6) (gSeq (gSeq (gSeq (gSeq (gVar 1) (gSeq (gVar 2) (gSeq (gVar 3) (gSeq (gVar 4) (gSeq (gSeq (gSeq (gC (.int 2)) (gVar 4)) fAdd) (gSeq (gSeq (gSeq (gSeq (gSeq (gC (.int 2)) (gVar 4)) fAdd) (gVar 2)) fAdd) gNil)))))) (fMvD md_law_is_plan 2)) (fNew .lst 6)) gNil)) (gCall [] md_law_same G_law_same 2))) (sRet (gC (.bl false))) sNil)
    (sSeq (sClr 5 (sSet md_law_is_plan 7 (gLcR1 [5] (gSeq (gVar 1) gNil) (bind md_law_is_plan 5) (gC (.bl true)) e_law_is_plan_1)))
    (sSeq (sIf (gNot (gSeq (gSeq (gClr 5 (gLcR1 [5] (gSeq (gVar 1) gNil) (bind md_law_is_plan 5) (gC (.bl true)) e_law_is_plan_2)) (gSeq (gVar 7) gNil)) (gCall [] md_law_same G_law_same 2))) (sRet (gC (.bl false))) sNil)
    (sSeq (sIf (gNot (gSeq (gSeq (gLcR2 [8] (gSeq (gC (.int 1)) (gSeq (gSeq (gSeq (gVar 2) (gC (.int 1))) fAdd) gNil)) (bind md_law_is_plan 8) (gC (.bl true)) e_law_is_plan_3) (gSeq (gLcR2 [8] (gSeq (gC (.int 1)) (gSeq (gSeq (gSeq (gVar 2) (gC (.int 1))) fAdd) gNil)) (bind md_law_is_plan 8) (gC (.bl true)) e_law_is_plan_4) gNil)) (gCall [] md_law_same G_law_same 2))) (sRet (gC (.bl false))) sNil)
    (sSeq (sSet md_law_is_plan 9 (gSeq (gSeq (gSeq (gSeq (gSeq (gSeq (gC (.int 2)) (gVar 4)) fAdd) (gVar 2)) fAdd) (gVar 1)) fLstG))
    (sSeq (sSet md_law_is_plan 10 (gSeq (gVar 0) (gSeq (chkI 0) (gCall [] md_Plan_data_blocks G_Plan_data_blocks 1))))
    (sSeq (sIf (gNot (gSeq (gSeq (gVar 10) (gSeq (gVar 9) gNil)) (gCall [] md_law_same G_law_same 2))) (sRet (gC (.bl false))) sNil)
    (sSeq (sExpr (gSeq (gVar 10) (gSeq chkL (gSeq (gSeq (gC (.int 0)) gNil) fApp))))
    (sRet (gAnd (gSeq (gSeq (gSeq (gVar 0) (gSeq (chkI 0) (gCall [] md_Plan_data_blocks G_Plan_data_blocks 1))) (gSeq (gVar 9) gNil)) (gCall [] md_law_same G_law_same 2)) (gSeq (gSeq (gSeq (gVar 0) (gSeq (chkI 0) (gCall [] md_Plan_text G_Plan_text 1))) (gSeq (gJs [(gC (.str "plan ")), (gSeq (gVar 1) fFmt), (gC (.str " ")), (gSeq (gVar 2) fFmt), (gC (.str " ")), (gSeq (gVar 3) fFmt)] Str.empty) gNil)) (gCall [] md_law_same G_law_same 2))))))))))))))))
def G_law_is_plan : GF := runF md_law_is_plan 11 g_law_is_plan
theorem sim_law_is_plan (T : Txt K mg) : FnOk P w K mg base (L2N.CX P w) 11 T.a_law_is_plan T.fd_law_is_plan ["_law_plan", "_law_blocks", "_law_many", "_law_places"] (spOf (kcm K (kt P w T)) md_law_is_plan G_law_is_plan) :=
  fn_sim T.F_law_is_plan sc_law_is_plan rfl (by decide) fun cdv A outer s H E hr =>
  (mss_cons (ms_if (mt_not (mt_val (me_isO T.in_Plan (by rfl) T.n_isinstance (by decide +kernel) (me_var (pv 0)) (pe_glob (v := .ref T.c_Plan) rfl T.g_Plan rfl)))) (mss_one (ms_ret (me_c pe_bl)))
    mss_nil)
    (mss_cons (ms_set (i := 4) sc_law_is_plan.nd rfl (Or.inr rfl) (me_c pe_int))
    (mss_cons (ms_forR3 (ma_cons (me_c pe_int) (ma_cons (me_var (pv 1)) (ma_cons (me_c pe_int) ma_nil))) (mg_name (i := 5) sc_law_is_plan.nd rfl (Or.inl rfl))
    (mss_one (ms_set (i := 4) sc_law_is_plan.nd rfl (Or.inr rfl) (me_add (me_var (pv 4)) (me_c pe_int)))) rfl T.n_range (passes_of rfl) rfl)
    (mss_cons (ms_set (i := 6) sc_law_is_plan.nd rfl (Or.inl rfl) (me_lst (ma_cons (me_fld (me_var (pv 0)) (fo_blocks T)) (ma_cons (me_fld (me_var (pv 0)) (fo_nodes T)) (ma_cons (me_fld (me_var (pv 0)) (fo_slots T)) (ma_cons (me_fld (me_var (pv 0)) (fo_maps T)) (ma_cons (me_fld (me_var (pv 0)) (fo_first_node T)) (ma_cons (me_fld (me_var (pv 0)) (fo_first_data T)) ma_nil)))))) (by show 6 ≤ sizeLine; decide)))
    (mss_cons (ms_if (mt_not (mt_val (me_call (is := []) (sim_law_same T) (hr.mono (by decide)) (takes_of rfl rfl rfl rfl) rfl T.m_law_same T.F_law_same.kp T.b_law_same (ma_cons (me_var (pv 6)) (ma_cons (me_lst (ma_mvd (d := 2) (ma_cons (me_var (pv 1)) (ma_cons (me_var (pv 2)) (ma_cons (me_var (pv 3)) (ma_cons (me_var (pv 4)) (ma_cons (me_add (me_c pe_int) (me_var (pv 4))) (ma_cons (me_add (me_add (me_c pe_int) (me_var (pv 4))) (me_var (pv 2))) ma_nil))))))) (by show 6 ≤ sizeLine; decide)) ma_nil)) (by decide) (by decide)))) (mss_one (ms_ret (me_c pe_bl)))
    mss_nil)
    (mss_cons (ms_clr (i := 5) (ms_lcR10 (ma_cons (me_var (pv 1)) ma_nil) (blkOk_by (own := [("_law_x", 5)]) (N := N_law_is_plan) (sc := defScope s_law_is_plan) (by decide +kernel)) (fun _ _ _ _ _ => pg_name (i := 5) sc_law_is_plan.nd rfl (Or.inl rfl)) (fun _ _ _ _ _ => (me_tup (ma_cons (me_add (me_c pe_int) (me_div (me_var (pv 5)) (me_c pe_int))) (ma_cons (me_mod (me_callTy call_int1 fInt_ok (by rfl) T.n_int (by decide +kernel) (ma_cons (me_var (pv 5)) ma_nil)) (me_c pe_int)) ma_nil)) (by show 2 ≤ sizeLine; decide))) rfl T.n_range rfl sc_law_is_plan.nd rfl rfl (sw_true rfl rfl rfl (by decide +kernel))))
    (mss_cons (ms_if (mt_not (mt_val (me_call (is := []) (sim_law_same T) (hr.mono (by decide)) (takes_of rfl rfl rfl rfl) rfl T.m_law_same T.F_law_same.kp T.b_law_same (ma_cons (me_clr (i := 5) (me_lcR10 (ma_cons (me_var (pv 1)) ma_nil) (blkOk_by (own := [("_law_x", 5)]) (N := N_law_is_plan) (sc := defScope s_law_is_plan) (by decide +kernel)) (fun _ _ _ _ _ => pg_name (i := 5) sc_law_is_plan.nd rfl (Or.inl rfl)) (fun _ _ _ _ _ => (me_meth (is := []) (n := 0) (me_var (pv 0)) T.C_Plan T.m_Plan_map_place (show (cnm 0).idxOf? ("map_place" : Str) = none by decide +kernel) (sim_Plan_map_place T) (hr.mono (by decide)) takes0 T.b_Plan_map_place (ma_cons (me_var (pv 5)) ma_nil) (by decide) (by decide))) rfl T.n_range rfl sc_law_is_plan.nd)) (ma_cons (me_var (pv 7)) ma_nil)) (by decide) (by decide)))) (mss_one (ms_ret (me_c pe_bl)))
    mss_nil)
    (mss_cons (ms_if (mt_not (mt_val (me_call (is := []) (sim_law_same T) (hr.mono (by decide)) (takes_of rfl rfl rfl rfl) rfl T.m_law_same T.F_law_same.kp T.b_law_same (ma_cons (me_lcR20 (ma_cons (me_c pe_int) (ma_cons (me_add (me_var (pv 2)) (me_c pe_int)) ma_nil)) (blkOk_by (own := [("_law_n", 8)]) (N := N_law_is_plan) (sc := defScope s_law_is_plan) (by decide +kernel)) (fun _ _ _ _ _ => pg_name (i := 8) sc_law_is_plan.nd rfl (Or.inl rfl)) (fun _ _ _ _ _ => (me_meth (is := []) (n := 0) (me_var (pv 0)) T.C_Plan T.m_Plan_node_block (show (cnm 0).idxOf? ("node_block" : Str) = none by decide +kernel) (sim_Plan_node_block T) (hr.mono (by decide)) takes0 T.b_Plan_node_block (ma_cons (me_var (pv 8)) ma_nil) (by decide) (by decide))) rfl T.n_range rfl sc_law_is_plan.nd) (ma_cons (me_lcR20 (ma_cons (me_c pe_int) (ma_cons (me_add (me_var (pv 2)) (me_c pe_int)) ma_nil)) (blkOk_by (own := [("_law_n", 8)]) (N := N_law_is_plan) (sc := defScope s_law_is_plan) (by decide +kernel)) (fun _ _ _ _ _ => pg_name (i := 8) sc_law_is_plan.nd rfl (Or.inl rfl)) (fun _ _ _ _ _ => (me_add (me_add (me_c pe_int) (me_var (pv 4))) (me_var (pv 8)))) rfl T.n_range rfl sc_law_is_plan.nd) ma_nil)) (by decide) (by decide)))) (mss_one (ms_ret (me_c pe_bl)))
    mss_nil)
    (mss_cons (ms_set (i := 9) sc_law_is_plan.nd rfl (Or.inl rfl) (me_lstRg2 (me_add (me_add (me_c pe_int) (me_var (pv 4))) (me_var (pv 2))) (me_var (pv 1)) rfl (by rfl) T.n_list (by rfl) T.n_range))
    (mss_cons (ms_set (i := 10) sc_law_is_plan.nd rfl (Or.inl rfl) (me_meth0 (is := []) (n := 0) (me_var (pv 0)) T.C_Plan T.m_Plan_data_blocks (show (cnm 0).idxOf? ("data_blocks" : Str) = none by decide +kernel) (sim_Plan_data_blocks T) (hr.mono (by decide)) (takes_of rfl rfl rfl rfl) T.b_Plan_data_blocks (by decide) (by decide)))
    (mss_cons (ms_if (mt_not (mt_val (me_call (is := []) (sim_law_same T) (hr.mono (by decide)) (takes_of rfl rfl rfl rfl) rfl T.m_law_same T.F_law_same.kp T.b_law_same (ma_cons (me_var (pv 10)) (ma_cons (me_var (pv 9)) ma_nil)) (by decide) (by decide)))) (mss_one (ms_ret (me_c pe_bl)))
    mss_nil)
    (mss_cons (ms_expr (me_bm (me_var (pv 10)) (ma_cons (me_c pe_int) ma_nil) fApp_ok (fun a b => pe_bm PySem.F.plainAttrs_list PySem.F.slot_list_append PySem.F.type_list_append mt_append a b)))
    (mss_one (ms_ret (me_and (me_call (is := []) (sim_law_same T) (hr.mono (by decide)) (takes_of rfl rfl rfl rfl) rfl T.m_law_same T.F_law_same.kp T.b_law_same (ma_cons (me_meth0 (is := []) (n := 0) (me_var (pv 0)) T.C_Plan T.m_Plan_data_blocks (show (cnm 0).idxOf? ("data_blocks" : Str) = none by decide +kernel) (sim_Plan_data_blocks T) (hr.mono (by decide)) (takes_of rfl rfl rfl rfl) T.b_Plan_data_blocks (by decide) (by decide)) (ma_cons (me_var (pv 9)) ma_nil)) (by decide) (by decide)) (me_one (me_call (is := []) (sim_law_same T) (hr.mono (by decide)) (takes_of rfl rfl rfl rfl) rfl T.m_law_same T.F_law_same.kp T.b_law_same (ma_cons (me_meth0 (is := []) (n := 0) (me_var (pv 0)) T.C_Plan T.m_Plan_text (show (cnm 0).idxOf? ("text" : Str) = none by decide +kernel) (sim_Plan_text T) (hr.mono (by decide)) (takes_of rfl rfl rfl rfl) T.b_Plan_text (by decide) (by decide)) (ma_cons (me_joined (MJ.cons (me_c pe_str) (MJ.cons (me_fmt (me_var (pv 1))) (MJ.cons (me_c pe_str) (MJ.cons (me_fmt (me_var (pv 2))) (MJ.cons (me_c pe_str) (MJ.cons (me_fmt (me_var (pv 3))) MJ.nil))))))) ma_nil)) (by decide) (by decide))))))))))))))))))
abbrev md_law_near : List Bool := [true, false, false]
def g_law_near : GS := (sSeq (sSet md_law_near 3 (gSeq (gSeq (gVar 0) (gSeq (gC (.int 100)) gNil)) (gCall [0] md_law_pick G_law_pick 2)))
    (sSeq (sIf (gSeq (gSeq (gVar 3) (gC (.int 40))) fLt) (sRet (gSeq (gSeq (gVar 0) (gSeq (gVar 2) gNil)) (gCall [0] md_law_pick G_law_pick 2))) sNil)
    (sSeq (sIf (gSeq (gSeq (gVar 3) (gC (.int 99))) fEq) (sRet (gSeq (gSeq (gC (.int 999999999990)) (gSeq (gSeq (gVar 0) (gSeq (gC (.int 12)) gNil)) (gCall [0] md_law_pick G_law_pick 2))) fAdd)) sNil)
    (sSeq (sSet md_law_near 4 (gSeq (gSeq (gSeq (gSeq (gSeq (gSeq (gVar 1) (gSeq (gSeq (gSeq (gSeq (gVar 3) gNil) fInt) (gSeq (gSeq (gVar 1) gNil) fLen)) fMod)) fIxA) (gSeq (gSeq (gSeq (gSeq (gSeq (gSeq (gVar 3) (gC (.int 10))) fDiv) gNil) fInt) (gC (.int 3))) fMod)) fAdd) (gC (.int 1))) fSub))
    (sRet (gSeq (gSeq (gC (.int 0)) (gSeq (gVar 4) gNil)) fMax))))))
def G_law_near : GF := runF md_law_near 5 g_law_near
theorem sim_law_near (T : Txt K mg) : FnOk P w K mg base (L2N.CX P w) 2 T.a_law_near T.fd_law_near ["_law_feed_here", "_law_edges", "_law_most"] (spOf (kcm K (kt P w T)) md_law_near G_law_near) :=
  fn_sim T.F_law_near sc_law_near rfl (by decide) fun cdv A outer s H E hr =>
  (mss_cons (ms_set (i := 3) sc_law_near.nd rfl (Or.inl rfl) (me_call (is := [0]) (sim_law_pick T) (hr.mono (by decide)) (takes_of rfl rfl rfl rfl) rfl T.m_law_pick T.F_law_pick.kp T.b_law_pick (ma_cons (me_var (pv 0)) (ma_cons (me_c pe_int) ma_nil)) (by decide) (by decide)))
    (mss_cons (ms_if (mt_cmp op_lt fI_ok0 (me_var (pv 3)) (me_c pe_int) (nomark _)) (mss_one (ms_ret (me_call (is := [0]) (sim_law_pick T) (hr.mono (by decide)) (takes_of rfl rfl rfl rfl) rfl T.m_law_pick T.F_law_pick.kp T.b_law_pick (ma_cons (me_var (pv 0)) (ma_cons (me_var (pv 2)) ma_nil)) (by decide) (by decide))))
    mss_nil)
    (mss_cons (ms_if (mt_cmp (OpR.or op_eq (op_eqD hr.units)) fEq_ok (me_var (pv 3)) (me_c pe_int) (nomark _)) (mss_one (ms_ret (me_add (me_c pe_int) (me_call (is := [0]) (sim_law_pick T) (hr.mono (by decide)) (takes_of rfl rfl rfl rfl) rfl T.m_law_pick T.F_law_pick.kp T.b_law_pick (ma_cons (me_var (pv 0)) (ma_cons (me_c pe_int) ma_nil)) (by decide) (by decide)))))
    mss_nil)
    (mss_cons (ms_set (i := 4) sc_law_near.nd rfl (Or.inl rfl) (me_sub (me_add (me_ixA hr.units (me_var (pv 1)) (me_mod (me_callTy call_int1 fInt_ok (by rfl) T.n_int (by decide +kernel) (ma_cons (me_var (pv 3)) ma_nil)) (me_callB (CallR.or call_len call_lenR) fLen_ok (by rfl) T.n_len (by decide +kernel) (ma_cons (me_var (pv 1)) ma_nil))) (fun _ _ => rfl)) (me_mod (me_callTy call_int1 fInt_ok (by rfl) T.n_int (by decide +kernel) (ma_cons (me_div (me_var (pv 3)) (me_c pe_int)) ma_nil)) (me_c pe_int))) (me_c pe_int)))
    (mss_one (ms_ret (me_callB (call_max2 rfl) fII_ok (by rfl) T.n_max (by decide +kernel) (ma_cons (me_c pe_int) (ma_cons (me_var (pv 4)) ma_nil)))))))))
abbrev md_law_plan_read : List Bool := [false, false]
def e_law_plan_read_1 : GE := (gSeq (gSeq (gVar 4) gNil) (gCall [] md_law_number G_law_number 1))
def g_law_plan_read : GS := (sSeq (sSet md_law_plan_read 2 (gSeq (gSeq (gVar 1) gNil) (gCall [] md_law_words G_law_words 1)))
    (sSeq (sIf (gOrB (gSeq (gSeq (gVar 2) (gSeq (gC (.ty "tuple")) gNil)) fIsi) (gOrB (gSeq (gSeq (gSeq (gSeq (gVar 2) gNil) fLen) (gC (.int 4))) fNe) (gSeq (gSeq (gSeq (gSeq (gVar 2) (gC (.int 0))) fIxA) (gC (.str "plan"))) fNe))) (sRet (gSeq (gSeq (gVar 0) (gSeq (gSeq (gSeq (gC (.str "refused")) (gSeq (gSeq (gSeq (gC (.str "BadText")) gNil) (fNew .lst 1)) gNil)) (fNew .tup 2)) gNil)) (gCall [] md_law_same G_law_same 2))) sNil)
    (sSeq (sSet md_law_plan_read 3 (gLc [4] (gSeq (gSeq (gSeq (gVar 2) (gSeq (gC (.int 1)) chkInt)) gNoP) (fSl true false)) (bind md_law_plan_read 4) (gC (.bl true)) e_law_plan_read_1))
    (sSeq (sIf (gSeq (gSeq (gSeq (gC (.int 1)) fNeg) (gVar 3)) fInA) (sRet (gSeq (gSeq (gVar 0) (gSeq (gSeq (gSeq (gC (.str "refused")) (gSeq (gSeq (gSeq (gC (.str "BadText")) gNil) (fNew .lst 1)) gNil)) (fNew .tup 2)) gNil)) (gCall [] md_law_same G_law_same 2))) sNil)
    (sSeq (sIf (gNot (gSeq (gSeq (gSeq (gSeq (gVar 3) (gC (.int 0))) fIxA) (gSeq (gSeq (gSeq (gVar 3) (gC (.int 1))) fIxA) (gSeq (gSeq (gSeq (gVar 3) (gC (.int 2))) fIxA) gNil))) (gCall [] md_law_good_plan G_law_good_plan 3))) (sRet (gSeq (gSeq (gVar 0) (gSeq (gSeq (gSeq (gC (.str "refused")) (gSeq (gSeq (gSeq (gC (.str "BadValue")) gNil) (fNew .lst 1)) gNil)) (fNew .tup 2)) gNil)) (gCall [] md_law_same G_law_same 2))) sNil)
    (sRet (gSeq (gSeq (gVar 0) (gSeq (gSeq (gSeq (gVar 3) (gC (.int 0))) fIxA) (gSeq (gSeq (gSeq (gVar 3) (gC (.int 1))) fIxA) (gSeq (gSeq (gSeq (gVar 3) (gC (.int 2))) fIxA) gNil)))) (gCall [] md_law_is_plan G_law_is_plan 4))))))))
def G_law_plan_read : GF := runF md_law_plan_read 5 g_law_plan_read
theorem sim_law_plan_read (T : Txt K mg) : FnOk P w K mg base (L2N.CX P w) 12 T.a_law_plan_read T.fd_law_plan_read ["_law_plan", "_law_line_here"] (spOf (kcm K (kt P w T)) md_law_plan_read G_law_plan_read) :=
  fn_sim T.F_law_plan_read sc_law_plan_read rfl (by decide) fun cdv A outer s H E hr =>
  (mss_cons (ms_set (i := 2) sc_law_plan_read.nd rfl (Or.inl rfl) (me_call (is := []) (sim_law_words T) (hr.mono (by decide)) (takes_of rfl rfl rfl rfl) rfl T.m_law_words T.F_law_words.kp T.b_law_words (ma_cons (me_var (pv 1)) ma_nil) (by decide) (by decide)))
    (mss_cons (ms_if (mw_pt (mw_or (mt_val (me_callB (CallR.or call_isi (CallR.or call_isiT call_isiK)) fIsi_ok (by rfl) T.n_isinstance (by decide +kernel) (ma_cons (me_var (pv 2)) (ma_cons (me_c (pe_bltn (v := .ty "tuple") (u := .type "tuple") (by rfl) T.n_tuple (by decide +kernel) rfl)) ma_nil)))) (mw_or (mt_cmp (OpR.or op_ne (op_neD hr.units)) fNe_ok (me_callB (CallR.or call_len call_lenR) fLen_ok (by rfl) T.n_len (by decide +kernel) (ma_cons (me_var (pv 2)) ma_nil)) (me_c pe_int) (nomark _)) (mw_or1 (mt_cmp (OpR.or op_ne (op_neD hr.units)) fNe_ok (me_ixA hr.units (me_var (pv 2)) (me_c pe_int) (fun _ _ => rfl)) (me_c pe_str) (nomark _)))))) (mss_one (ms_ret (me_call (is := []) (sim_law_same T) (hr.mono (by decide)) (takes_of rfl rfl rfl rfl) rfl T.m_law_same T.F_law_same.kp T.b_law_same (ma_cons (me_var (pv 0)) (ma_cons (me_tup (ma_cons (me_c pe_str) (ma_cons (me_lst (ma_cons (me_c pe_str) ma_nil) (by show 1 ≤ sizeLine; decide)) ma_nil)) (by show 2 ≤ sizeLine; decide)) ma_nil)) (by decide) (by decide))))
    mss_nil)
    (mss_cons (ms_lc0 (me_sl (me_var (pv 2)) (mo_some (me_c pe_int)) mo_none) (blkOk_by (own := [("_law_word_here", 4)]) (N := N_law_plan_read) (sc := defScope s_law_plan_read) (by decide +kernel)) (fun _ _ _ _ _ => pg_name (i := 4) sc_law_plan_read.nd rfl (Or.inl rfl)) (fun _ _ _ _ _ => (me_call (is := []) (sim_law_number T) (hr.mono (by decide)) takes0 rfl T.m_law_number T.F_law_number.kp T.b_law_number (ma_cons (me_var (pv 4)) ma_nil) (by decide) (by decide))) rfl sc_law_plan_read.nd rfl rfl (sw_true rfl rfl rfl (by decide +kernel)))
    (mss_cons (ms_if (mt_cmp (op_inA hr.units) fInA_ok (me_neg (me_c pe_int)) (me_var (pv 3)) rfl) (mss_one (ms_ret (me_call (is := []) (sim_law_same T) (hr.mono (by decide)) (takes_of rfl rfl rfl rfl) rfl T.m_law_same T.F_law_same.kp T.b_law_same (ma_cons (me_var (pv 0)) (ma_cons (me_tup (ma_cons (me_c pe_str) (ma_cons (me_lst (ma_cons (me_c pe_str) ma_nil) (by show 1 ≤ sizeLine; decide)) ma_nil)) (by show 2 ≤ sizeLine; decide)) ma_nil)) (by decide) (by decide))))
    mss_nil)
    (mss_cons (ms_if (mt_not (mt_val (me_call (is := []) (sim_law_good_plan T) (hr.mono (by decide)) (takes_of rfl rfl rfl rfl) rfl T.m_law_good_plan T.F_law_good_plan.kp T.b_law_good_plan (ma_cons (me_ixA hr.units (me_var (pv 3)) (me_c pe_int) (fun _ _ => rfl)) (ma_cons (me_ixA hr.units (me_var (pv 3)) (me_c pe_int) (fun _ _ => rfl)) (ma_cons (me_ixA hr.units (me_var (pv 3)) (me_c pe_int) (fun _ _ => rfl)) ma_nil))) (by decide) (by decide)))) (mss_one (ms_ret (me_call (is := []) (sim_law_same T) (hr.mono (by decide)) (takes_of rfl rfl rfl rfl) rfl T.m_law_same T.F_law_same.kp T.b_law_same (ma_cons (me_var (pv 0)) (ma_cons (me_tup (ma_cons (me_c pe_str) (ma_cons (me_lst (ma_cons (me_c pe_str) ma_nil) (by show 1 ≤ sizeLine; decide)) ma_nil)) (by show 2 ≤ sizeLine; decide)) ma_nil)) (by decide) (by decide))))
    mss_nil)
    (mss_one (ms_ret (me_call (is := []) (sim_law_is_plan T) (hr.mono (by decide)) (takes_of rfl rfl rfl rfl) rfl T.m_law_is_plan T.F_law_is_plan.kp T.b_law_is_plan (ma_cons (me_var (pv 0)) (ma_cons (me_ixA hr.units (me_var (pv 3)) (me_c pe_int) (fun _ _ => rfl)) (ma_cons (me_ixA hr.units (me_var (pv 3)) (me_c pe_int) (fun _ _ => rfl)) (ma_cons (me_ixA hr.units (me_var (pv 3)) (me_c pe_int) (fun _ _ => rfl)) ma_nil)))) (by decide) (by decide)))))))))
abbrev md_law_plans : List Bool := [true]
def b_law_plans_1 : GS := (sSeq (sSet md_law_plans 3 (gSeq (gSeq (gVar 0) (gSeq (gSeq (gSeq (gC (.int 8)) (gSeq (gC (.int 64)) (gSeq (gC (.int 24)) (gSeq (gC (.int 10)) (gSeq (gC (.int 9)) gNil))))) (fNew .lst 5)) (gSeq (gC (.int 71)) gNil))) (gCall [0] md_law_near G_law_near 3)))
    (sSeq (sSet md_law_plans 4 (gSeq (gSeq (gSeq (gSeq (gVar 3) (gC (.int 7))) fAdd) (gC (.int 8))) fDiv))
    (sSeq (sSet md_law_plans 5 (gSeq (gSeq (gVar 0) (gSeq (gSeq (gSeq (gC (.int 2)) (gSeq (gC (.int 16)) (gSeq (gSeq (gSeq (gSeq (gSeq (gVar 3) (gVar 4)) fSub) (gC (.int 4))) fSub) gNil))) (fNew .lst 3)) (gSeq (gC (.int 19)) gNil))) (gCall [0] md_law_near G_law_near 3)))
    (sSeq (sSet md_law_plans 6 (gSeq (gSeq (gVar 0) (gSeq (gSeq (gSeq (gSeq (gSeq (gVar 3) (gC (.int 1))) fAdd) (gSeq (gC (.int 200)) gNil)) (fNew .lst 2)) (gSeq (gC (.int 211)) gNil))) (gCall [0] md_law_near G_law_near 3)))
    (sSeq (sSet md_law_plans 7 (gSeq (gSeq (gSeq (gVar 3) (gSeq (gVar 5) (gSeq (gVar 6) gNil))) (gCall [] md_law_make G_law_make 3)) fFrz))
    (sSeq (sSet md_law_plans 8 (gSeq (gSeq (gVar 3) (gSeq (gVar 5) (gSeq (gVar 6) gNil))) (gCall [] md_law_good_plan G_law_good_plan 3)))
    (sSeq (sIf (gAnd (gVar 8) (gNot (gSeq (gSeq (gVar 7) (gSeq (gVar 3) (gSeq (gVar 5) (gSeq (gVar 6) gNil)))) (gCall [] md_law_is_plan G_law_is_plan 4)))) (sRet (gC (.bl false))) sNil)
    (sSeq (sIf (gAnd (gNot (gVar 8)) (gNot (gSeq (gSeq (gVar 7) (gSeq (gSeq (gSeq (gC (.str "refused")) (gSeq (gSeq (gSeq (gC (.str "BadValue")) gNil) (fNew .lst 1)) gNil)) (fNew .tup 2)) gNil)) (gCall [] md_law_same G_law_same 2)))) (sRet (gC (.bl false))) sNil)
    (sSeq (sSet md_law_plans 9 (gJs [(gC (.str "plan ")), (gSeq (gVar 3) fFmt), (gC (.str " ")), (gSeq (gVar 5) fFmt), (gC (.str " ")), (gSeq (gVar 6) fFmt)] Str.empty))
    (sSeq (sSet md_law_plans 10 (gSeq (gSeq (gVar 0) (gSeq (gVar 9) gNil)) (gCall [0] md_law_line G_law_line 2)))
    (sSeq (sIf (gOrB (gNot (gSeq (gSeq (gSeq (gSeq (gVar 9) gNil) (gCall [] md_law_read_plan G_law_read_plan 1)) (gSeq (gVar 9) gNil)) (gCall [] md_law_plan_read G_law_plan_read 2))) (gNot (gSeq (gSeq (gSeq (gSeq (gVar 10) gNil) (gCall [] md_law_read_plan G_law_read_plan 1)) (gSeq (gVar 10) gNil)) (gCall [] md_law_plan_read G_law_plan_read 2)))) (sRet (gC (.bl false))) sNil)
    (sExpr (gSeq (gVar 1) (gSeq chkL (gSeq (gSeq (gSeq (gSeq (gVar 7) (gSeq (gVar 3) (gSeq (gVar 5) (gSeq (gVar 6) (gSeq (gVar 8) gNil))))) (fNew .tup 5)) gNil) fApp)))))))))))))))
def b_law_plans_2 : GS := (sIf (gAnd (gVar 8) (gNot (gSeq (gSeq (gVar 7) (gSeq (gVar 3) (gSeq (gVar 5) (gSeq (gVar 6) gNil)))) (gCall [] md_law_is_plan G_law_is_plan 4)))) (sRet (gC (.bl false))) sNil)
def g_law_plans : GS := (sSeq (sSet md_law_plans 1 (gSeq gNil (fNew .lst 0)))
    (sSeq (sForR1 (gSeq (gC (.int 2)) gNil) (bind md_law_plans 2) b_law_plans_1)
    (sSeq (sFor (gVar 1) (unpk md_law_plans [7, 3, 5, 6, 8]) b_law_plans_2)
    (sRet (gC (.bl true))))))
def G_law_plans : GF := runF md_law_plans 11 g_law_plans
theorem sim_law_plans (T : Txt K mg) : FnOk P w K mg base (L2N.CX P w) 13 T.a_law_plans T.fd_law_plans ["_law_feed_here"] (spOf (kcm K (kt P w T)) md_law_plans G_law_plans) :=
  fn_sim T.F_law_plans sc_law_plans rfl (by decide) fun cdv A outer s H E hr =>
  (mss_cons (ms_set (i := 1) sc_law_plans.nd rfl (Or.inl rfl) (me_lst ma_nil (by show 0 ≤ sizeLine; decide)))
    (mss_cons (ms_forR1 (ma_cons (me_c pe_int) ma_nil) (mg_name (i := 2) sc_law_plans.nd rfl (Or.inl rfl))
    (mss_cons (ms_set (i := 3) sc_law_plans.nd rfl (Or.inl rfl) (me_call (is := [0]) (sim_law_near T) (hr.mono (by decide)) (takes_of rfl rfl rfl rfl) rfl T.m_law_near T.F_law_near.kp T.b_law_near (ma_cons (me_var (pv 0)) (ma_cons (me_lst (ma_cons (me_c pe_int) (ma_cons (me_c pe_int) (ma_cons (me_c pe_int) (ma_cons (me_c pe_int) (ma_cons (me_c pe_int) ma_nil))))) (by show 5 ≤ sizeLine; decide)) (ma_cons (me_c pe_int) ma_nil))) (by decide) (by decide)))
    (mss_cons (ms_set (i := 4) sc_law_plans.nd rfl (Or.inl rfl) (me_div (me_add (me_var (pv 3)) (me_c pe_int)) (me_c pe_int)))
    (mss_cons (ms_set (i := 5) sc_law_plans.nd rfl (Or.inl rfl) (me_call (is := [0]) (sim_law_near T) (hr.mono (by decide)) (takes_of rfl rfl rfl rfl) rfl T.m_law_near T.F_law_near.kp T.b_law_near (ma_cons (me_var (pv 0)) (ma_cons (me_lst (ma_cons (me_c pe_int) (ma_cons (me_c pe_int) (ma_cons (me_sub (me_sub (me_var (pv 3)) (me_var (pv 4))) (me_c pe_int)) ma_nil))) (by show 3 ≤ sizeLine; decide)) (ma_cons (me_c pe_int) ma_nil))) (by decide) (by decide)))
    (mss_cons (ms_set (i := 6) sc_law_plans.nd rfl (Or.inl rfl) (me_call (is := [0]) (sim_law_near T) (hr.mono (by decide)) (takes_of rfl rfl rfl rfl) rfl T.m_law_near T.F_law_near.kp T.b_law_near (ma_cons (me_var (pv 0)) (ma_cons (me_lst (ma_cons (me_add (me_var (pv 3)) (me_c pe_int)) (ma_cons (me_c pe_int) ma_nil)) (by show 2 ≤ sizeLine; decide)) (ma_cons (me_c pe_int) ma_nil))) (by decide) (by decide)))
    (mss_cons (ms_set (i := 7) sc_law_plans.nd rfl (Or.inl rfl) (me_frz (me_call (is := []) (sim_law_make T) (hr.mono (by decide)) (takes_of rfl rfl rfl rfl) rfl T.m_law_make T.F_law_make.kp T.b_law_make (ma_cons (me_var (pv 3)) (ma_cons (me_var (pv 5)) (ma_cons (me_var (pv 6)) ma_nil))) (by decide) (by decide))))
    (mss_cons (ms_set (i := 8) sc_law_plans.nd rfl (Or.inl rfl) (me_call (is := []) (sim_law_good_plan T) (hr.mono (by decide)) (takes_of rfl rfl rfl rfl) rfl T.m_law_good_plan T.F_law_good_plan.kp T.b_law_good_plan (ma_cons (me_var (pv 3)) (ma_cons (me_var (pv 5)) (ma_cons (me_var (pv 6)) ma_nil))) (by decide) (by decide)))
    (mss_cons (ms_if (mw_pt (mw_and (mt_val (me_var (pv 8))) (mw_and1 (mt_not (mt_val (me_call (is := []) (sim_law_is_plan T) (hr.mono (by decide)) (takes_of rfl rfl rfl rfl) rfl T.m_law_is_plan T.F_law_is_plan.kp T.b_law_is_plan (ma_cons (me_var (pv 7)) (ma_cons (me_var (pv 3)) (ma_cons (me_var (pv 5)) (ma_cons (me_var (pv 6)) ma_nil)))) (by decide) (by decide))))))) (mss_one (ms_ret (me_c pe_bl)))
    mss_nil)
    (mss_cons (ms_if (mw_pt (mw_and (mt_not (mt_val (me_var (pv 8)))) (mw_and1 (mt_not (mt_val (me_call (is := []) (sim_law_same T) (hr.mono (by decide)) (takes_of rfl rfl rfl rfl) rfl T.m_law_same T.F_law_same.kp T.b_law_same (ma_cons (me_var (pv 7)) (ma_cons (me_tup (ma_cons (me_c pe_str) (ma_cons (me_lst (ma_cons (me_c pe_str) ma_nil) (by show 1 ≤ sizeLine; decide)) ma_nil)) (by show 2 ≤ sizeLine; decide)) ma_nil)) (by decide) (by decide))))))) (mss_one (ms_ret (me_c pe_bl)))
    mss_nil)
    (mss_cons (ms_set (i := 9) sc_law_plans.nd rfl (Or.inl rfl) (me_joined (MJ.cons (me_c pe_str) (MJ.cons (me_fmt (me_var (pv 3))) (MJ.cons (me_c pe_str) (MJ.cons (me_fmt (me_var (pv 5))) (MJ.cons (me_c pe_str) (MJ.cons (me_fmt (me_var (pv 6))) MJ.nil))))))))
    (mss_cons (ms_set (i := 10) sc_law_plans.nd rfl (Or.inl rfl) (me_call (is := [0]) (sim_law_line T) (hr.mono (by decide)) (takes_of rfl rfl rfl rfl) rfl T.m_law_line T.F_law_line.kp T.b_law_line (ma_cons (me_var (pv 0)) (ma_cons (me_var (pv 9)) ma_nil)) (by decide) (by decide)))
    (mss_cons (ms_if (mw_pt (mw_or (mt_not (mt_val (me_call (is := []) (sim_law_plan_read T) (hr.mono (by decide)) (takes_of rfl rfl rfl rfl) rfl T.m_law_plan_read T.F_law_plan_read.kp T.b_law_plan_read (ma_cons (me_call (is := []) (sim_law_read_plan T) (hr.mono (by decide)) (takes_of rfl rfl rfl rfl) rfl T.m_law_read_plan T.F_law_read_plan.kp T.b_law_read_plan (ma_cons (me_var (pv 9)) ma_nil) (by decide) (by decide)) (ma_cons (me_var (pv 9)) ma_nil)) (by decide) (by decide)))) (mw_or1 (mt_not (mt_val (me_call (is := []) (sim_law_plan_read T) (hr.mono (by decide)) (takes_of rfl rfl rfl rfl) rfl T.m_law_plan_read T.F_law_plan_read.kp T.b_law_plan_read (ma_cons (me_call (is := []) (sim_law_read_plan T) (hr.mono (by decide)) (takes_of rfl rfl rfl rfl) rfl T.m_law_read_plan T.F_law_read_plan.kp T.b_law_read_plan (ma_cons (me_var (pv 10)) ma_nil) (by decide) (by decide)) (ma_cons (me_var (pv 10)) ma_nil)) (by decide) (by decide))))))) (mss_one (ms_ret (me_c pe_bl)))
    mss_nil)
    (mss_one (ms_expr (me_bm (me_var (pv 1)) (ma_cons (me_tup (ma_cons (me_var (pv 7)) (ma_cons (me_var (pv 3)) (ma_cons (me_var (pv 5)) (ma_cons (me_var (pv 6)) (ma_cons (me_var (pv 8)) ma_nil))))) (by show 5 ≤ sizeLine; decide)) ma_nil) fApp_ok (fun a b => pe_bm PySem.F.plainAttrs_list PySem.F.slot_list_append PySem.F.type_list_append mt_append a b))))))))))))))) rfl T.n_range (passes_of rfl) rfl)
    (mss_cons (ms_for (me_var (pv 1)) (mg_unp (is := [7, 3, 5, 6, 8]) (pg_tup (by rfl) (pgs_cons (pg_name (i := 7) sc_law_plans.nd rfl (Or.inl rfl)) (pgs_cons (pg_name (i := 3) sc_law_plans.nd rfl (Or.inl rfl)) (pgs_cons (pg_name (i := 5) sc_law_plans.nd rfl (Or.inl rfl)) (pgs_cons (pg_name (i := 6) sc_law_plans.nd rfl (Or.inl rfl)) (pgs_cons (pg_name (i := 8) sc_law_plans.nd rfl (Or.inl rfl)) pgs_nil)))))) (pg_lst (by rfl) (pgs_cons (pg_name (i := 7) sc_law_plans.nd rfl (Or.inl rfl)) (pgs_cons (pg_name (i := 3) sc_law_plans.nd rfl (Or.inl rfl)) (pgs_cons (pg_name (i := 5) sc_law_plans.nd rfl (Or.inl rfl)) (pgs_cons (pg_name (i := 6) sc_law_plans.nd rfl (Or.inl rfl)) (pgs_cons (pg_name (i := 8) sc_law_plans.nd rfl (Or.inl rfl)) pgs_nil)))))))
    (mss_one (ms_if (mw_pt (mw_and (mt_val (me_var (pv 8))) (mw_and1 (mt_not (mt_val (me_call (is := []) (sim_law_is_plan T) (hr.mono (by decide)) (takes_of rfl rfl rfl rfl) rfl T.m_law_is_plan T.F_law_is_plan.kp T.b_law_is_plan (ma_cons (me_var (pv 7)) (ma_cons (me_var (pv 3)) (ma_cons (me_var (pv 5)) (ma_cons (me_var (pv 6)) ma_nil)))) (by decide) (by decide))))))) (mss_one (ms_ret (me_c pe_bl)))
    mss_nil)) (passes_of rfl) rfl)
    (mss_one (ms_ret (me_c pe_bl))))))
abbrev md_law_numbers : List Bool := [true]
def b_law_numbers_1 : GS := (sSeq (sSet md_law_numbers 2 (gSeq (gSeq (gVar 0) (gSeq (gSeq (gSeq (gVar 0) gNil) (gCall [0] md_law_word G_law_word 1)) gNil)) (gCall [0] md_law_spoilt G_law_spoilt 2)))
    (sSeq (sSet md_law_numbers 3 (gSeq (gSeq (gVar 2) gNil) (gCall [] md_law_number G_law_number 1)))
    (sSeq (sSet md_law_numbers 4 (gSeq (gSeq (gC (.int 0)) (gSeq (gSeq (gSeq (gSeq (gSeq (gVar 3) (gSeq (gSeq (gVar 0) (gSeq (gC (.int 3)) gNil)) (gCall [0] md_law_pick G_law_pick 2))) fAdd) (gC (.int 1))) fSub) gNil)) fMax))
    (sSeq (sIf (gSeq (gSeq (gVar 3) (gSeq (gC (.int 1)) fNeg)) fEq) (sSet md_law_numbers 4 (gC (.int 999999999999))) sNil)
    (sSeq (sSet md_law_numbers 5 (gVar 3))
    (sSeq (sIf (gOrB (gSeq (gSeq (gVar 3) (gSeq (gC (.int 1)) fNeg)) fEq) (gSeq (gSeq (gVar 3) (gVar 4)) fGt)) (sSet md_law_numbers 5 (gSeq (gSeq (gC (.str "refused")) (gSeq (gSeq (gSeq (gC (.str "BadText")) gNil) (fNew .lst 1)) gNil)) (fNew .tup 2))) sNil)
    (sSeq (sIf (gNot (gSeq (gSeq (gSeq (gSeq (gVar 2) (gSeq (gVar 4) gNil)) (gCall [] md_law_read_number G_law_read_number 2)) (gSeq (gVar 5) gNil)) (gCall [] md_law_same G_law_same 2))) (sRet (gC (.bl false))) sNil)
    (sIf (gAnd (gSeq (gSeq (gVar 3) (gC (.int 0))) fGe) (gNot (gSeq (gSeq (gSeq (gSeq (gVar 2) (gSeq (gVar 3) gNil)) (gCall [] md_law_read_number G_law_read_number 2)) (gSeq (gVar 3) gNil)) (gCall [] md_law_same G_law_same 2)))) (sRet (gC (.bl false))) sNil))))))))
def g_law_numbers : GS := (sSeq (sForR1 (gSeq (gC (.int 3)) gNil) (bind md_law_numbers 1) b_law_numbers_1)
    (sRet (gC (.bl true))))
def G_law_numbers : GF := runF md_law_numbers 6 g_law_numbers
theorem sim_law_numbers (T : Txt K mg) : FnOk P w K mg base (L2N.CX P w) 11 T.a_law_numbers T.fd_law_numbers ["_law_feed_here"] (spOf (kcm K (kt P w T)) md_law_numbers G_law_numbers) :=
  fn_sim T.F_law_numbers sc_law_numbers rfl (by decide) fun cdv A outer s H E hr =>
  (mss_cons (ms_forR1 (ma_cons (me_c pe_int) ma_nil) (mg_name (i := 1) sc_law_numbers.nd rfl (Or.inl rfl))
    (mss_cons (ms_set (i := 2) sc_law_numbers.nd rfl (Or.inl rfl) (me_call (is := [0]) (sim_law_spoilt T) (hr.mono (by decide)) (takes_of rfl rfl rfl rfl) rfl T.m_law_spoilt T.F_law_spoilt.kp T.b_law_spoilt (ma_cons (me_var (pv 0)) (ma_cons (me_call (is := [0]) (sim_law_word T) (hr.mono (by decide)) (takes_of rfl rfl rfl rfl) rfl T.m_law_word T.F_law_word.kp T.b_law_word (ma_cons (me_var (pv 0)) ma_nil) (by decide) (by decide)) ma_nil)) (by decide) (by decide)))
    (mss_cons (ms_set (i := 3) sc_law_numbers.nd rfl (Or.inl rfl) (me_call (is := []) (sim_law_number T) (hr.mono (by decide)) (takes_of rfl rfl rfl rfl) rfl T.m_law_number T.F_law_number.kp T.b_law_number (ma_cons (me_var (pv 2)) ma_nil) (by decide) (by decide)))
    (mss_cons (ms_set (i := 4) sc_law_numbers.nd rfl (Or.inl rfl) (me_callB (call_max2 rfl) fII_ok (by rfl) T.n_max (by decide +kernel) (ma_cons (me_c pe_int) (ma_cons (me_sub (me_add (me_var (pv 3)) (me_call (is := [0]) (sim_law_pick T) (hr.mono (by decide)) (takes_of rfl rfl rfl rfl) rfl T.m_law_pick T.F_law_pick.kp T.b_law_pick (ma_cons (me_var (pv 0)) (ma_cons (me_c pe_int) ma_nil)) (by decide) (by decide))) (me_c pe_int)) ma_nil))))
    (mss_cons (ms_if (mt_cmp (OpR.or op_eq (op_eqD hr.units)) fEq_ok (me_var (pv 3)) (me_neg (me_c pe_int)) (nomark _)) (mss_one (ms_set (i := 4) sc_law_numbers.nd rfl (Or.inl rfl) (me_c pe_int)))
    mss_nil)
    (mss_cons (ms_set (i := 5) sc_law_numbers.nd rfl (Or.inl rfl) (me_var (pv 3)))
    (mss_cons (ms_if (mw_pt (mw_or (mt_cmp (OpR.or op_eq (op_eqD hr.units)) fEq_ok (me_var (pv 3)) (me_neg (me_c pe_int)) (nomark _)) (mw_or1 (mt_cmp op_gt fI_ok0 (me_var (pv 3)) (me_var (pv 4)) (nomark _))))) (mss_one (ms_set (i := 5) sc_law_numbers.nd rfl (Or.inl rfl) (me_tup (ma_cons (me_c pe_str) (ma_cons (me_lst (ma_cons (me_c pe_str) ma_nil) (by show 1 ≤ sizeLine; decide)) ma_nil)) (by show 2 ≤ sizeLine; decide))))
    mss_nil)
    (mss_cons (ms_if (mt_not (mt_val (me_call (is := []) (sim_law_same T) (hr.mono (by decide)) (takes_of rfl rfl rfl rfl) rfl T.m_law_same T.F_law_same.kp T.b_law_same (ma_cons (me_call (is := []) (sim_law_read_number T) (hr.mono (by decide)) (takes_of rfl rfl rfl rfl) rfl T.m_law_read_number T.F_law_read_number.kp T.b_law_read_number (ma_cons (me_var (pv 2)) (ma_cons (me_var (pv 4)) ma_nil)) (by decide) (by decide)) (ma_cons (me_var (pv 5)) ma_nil)) (by decide) (by decide)))) (mss_one (ms_ret (me_c pe_bl)))
    mss_nil)
    (mss_one (ms_if (mw_pt (mw_and (mt_cmp op_ge fI_ok0 (me_var (pv 3)) (me_c pe_int) (nomark _)) (mw_and1 (mt_not (mt_val (me_call (is := []) (sim_law_same T) (hr.mono (by decide)) (takes_of rfl rfl rfl rfl) rfl T.m_law_same T.F_law_same.kp T.b_law_same (ma_cons (me_call (is := []) (sim_law_read_number T) (hr.mono (by decide)) (takes_of rfl rfl rfl rfl) rfl T.m_law_read_number T.F_law_read_number.kp T.b_law_read_number (ma_cons (me_var (pv 2)) (ma_cons (me_var (pv 3)) ma_nil)) (by decide) (by decide)) (ma_cons (me_var (pv 3)) ma_nil)) (by decide) (by decide))))))) (mss_one (ms_ret (me_c pe_bl)))
    mss_nil))))))))) rfl T.n_range (passes_of rfl) rfl)
    (mss_one (ms_ret (me_c pe_bl))))
abbrev md_law_lines : List Bool := [true]
def e_law_lines_1 : GE := (gSeq (gSeq (gVar 0) gNil) (gCall [0] md_law_any G_law_any 1))
def b_law_lines_1 : GS := (sSeq (sSet md_law_lines 2 (gLcR1 [3] (gSeq (gSeq (gSeq (gVar 0) (gSeq (gC (.int 7)) gNil)) (gCall [0] md_law_pick G_law_pick 2)) gNil) (bind md_law_lines 3) (gC (.bl true)) e_law_lines_1))
    (sSeq (sSet md_law_lines 4 (gSeq (gSeq (gVar 0) (gSeq (gSeq (gSeq (gC (.str " ")) (gSeq chkS (gVar 2))) fJoin) gNil)) (gCall [0] md_law_changed G_law_changed 2)))
    (sSeq (sSet md_law_lines 5 (gSeq (gSeq (gVar 4) gNil) (gCall [] md_law_words G_law_words 1)))
    (sSeq (sSet md_law_lines 6 (gSeq (gSeq (gVar 4) gNil) (gCall [] md_law_split G_law_split 1)))
    (sSeq (sIf (gNot (gSeq (gSeq (gVar 6) (gSeq (gVar 5) gNil)) (gCall [] md_law_same G_law_same 2))) (sRet (gC (.bl false))) sNil)
    (sSeq (sIf (gSeq (gSeq (gVar 6) (gSeq (gC (.ty "list")) gNil)) fIsi) (sExpr (gSeq (gVar 6) (gSeq chkL (gSeq (gSeq (gC (.str "a")) gNil) fApp)))) sNil)
    (sIf (gNot (gSeq (gSeq (gSeq (gSeq (gVar 4) gNil) (gCall [] md_law_split G_law_split 1)) (gSeq (gVar 5) gNil)) (gCall [] md_law_same G_law_same 2))) (sRet (gC (.bl false))) sNil)))))))
def g_law_lines : GS := (sSeq (sForR1 (gSeq (gC (.int 2)) gNil) (bind md_law_lines 1) b_law_lines_1)
    (sRet (gC (.bl true))))
def G_law_lines : GF := runF md_law_lines 7 g_law_lines
theorem sim_law_lines (T : Txt K mg) : FnOk P w K mg base (L2N.CX P w) 11 T.a_law_lines T.fd_law_lines ["_law_feed_here"] (spOf (kcm K (kt P w T)) md_law_lines G_law_lines) :=
  fn_sim T.F_law_lines sc_law_lines rfl (by decide) fun cdv A outer s H E hr =>
  (mss_cons (ms_forR1 (ma_cons (me_c pe_int) ma_nil) (mg_name (i := 1) sc_law_lines.nd rfl (Or.inl rfl))
    (mss_cons (ms_lcR10 (ma_cons (me_call (is := [0]) (sim_law_pick T) (hr.mono (by decide)) (takes_of rfl rfl rfl rfl) rfl T.m_law_pick T.F_law_pick.kp T.b_law_pick (ma_cons (me_var (pv 0)) (ma_cons (me_c pe_int) ma_nil)) (by decide) (by decide)) ma_nil) (blkOk_by (own := [("_law_j", 3)]) (N := N_law_lines) (sc := defScope s_law_lines) (by decide +kernel)) (fun _ _ _ _ _ => pg_name (i := 3) sc_law_lines.nd rfl (Or.inl rfl)) (fun _ _ _ _ _ => (me_call (is := [0]) (sim_law_any T) (hr.mono (by decide)) takes0 rfl T.m_law_any T.F_law_any.kp T.b_law_any (ma_cons (me_var (pv 0)) ma_nil) (by decide) (by decide))) rfl T.n_range rfl sc_law_lines.nd rfl rfl (sw_true rfl rfl rfl (by decide +kernel)))
    (mss_cons (ms_set (i := 4) sc_law_lines.nd rfl (Or.inl rfl) (me_call (is := [0]) (sim_law_changed T) (hr.mono (by decide)) (takes_of rfl rfl rfl rfl) rfl T.m_law_changed T.F_law_changed.kp T.b_law_changed (ma_cons (me_var (pv 0)) (ma_cons (me_m1 (me_c pe_str) (me_var (pv 2)) fJoin_ok (fun a b => pe_join a b)) ma_nil)) (by decide) (by decide)))
    (mss_cons (ms_set (i := 5) sc_law_lines.nd rfl (Or.inl rfl) (me_call (is := []) (sim_law_words T) (hr.mono (by decide)) (takes_of rfl rfl rfl rfl) rfl T.m_law_words T.F_law_words.kp T.b_law_words (ma_cons (me_var (pv 4)) ma_nil) (by decide) (by decide)))
    (mss_cons (ms_set (i := 6) sc_law_lines.nd rfl (Or.inl rfl) (me_call (is := []) (sim_law_split T) (hr.mono (by decide)) (takes_of rfl rfl rfl rfl) rfl T.m_law_split T.F_law_split.kp T.b_law_split (ma_cons (me_var (pv 4)) ma_nil) (by decide) (by decide)))
    (mss_cons (ms_if (mt_not (mt_val (me_call (is := []) (sim_law_same T) (hr.mono (by decide)) (takes_of rfl rfl rfl rfl) rfl T.m_law_same T.F_law_same.kp T.b_law_same (ma_cons (me_var (pv 6)) (ma_cons (me_var (pv 5)) ma_nil)) (by decide) (by decide)))) (mss_one (ms_ret (me_c pe_bl)))
    mss_nil)
    (mss_cons (ms_if (mt_val (me_callB (CallR.or call_isi (CallR.or call_isiT call_isiK)) fIsi_ok (by rfl) T.n_isinstance (by decide +kernel) (ma_cons (me_var (pv 6)) (ma_cons (me_c (pe_bltn (v := .ty "list") (u := .type "list") (by rfl) T.n_list (by decide +kernel) rfl)) ma_nil)))) (mss_one (ms_expr (me_bm (me_var (pv 6)) (ma_cons (me_c pe_str) ma_nil) fApp_ok (fun a b => pe_bm PySem.F.plainAttrs_list PySem.F.slot_list_append PySem.F.type_list_append mt_append a b))))
    mss_nil)
    (mss_one (ms_if (mt_not (mt_val (me_call (is := []) (sim_law_same T) (hr.mono (by decide)) (takes_of rfl rfl rfl rfl) rfl T.m_law_same T.F_law_same.kp T.b_law_same (ma_cons (me_call (is := []) (sim_law_split T) (hr.mono (by decide)) (takes_of rfl rfl rfl rfl) rfl T.m_law_split T.F_law_split.kp T.b_law_split (ma_cons (me_var (pv 4)) ma_nil) (by decide) (by decide)) (ma_cons (me_var (pv 5)) ma_nil)) (by decide) (by decide)))) (mss_one (ms_ret (me_c pe_bl)))
    mss_nil)))))))) rfl T.n_range (passes_of rfl) rfl)
    (mss_one (ms_ret (me_c pe_bl))))
abbrev md_law : List Bool := [false]
def g_law : GS := (sSeq (sSet md_law 2 (gSeq (gSeq (gC (.int 8)) (gSeq (gC (.int 4)) (gSeq (gC (.int 80)) (gSeq (gC (.int 0)) (gSeq (gC (.int 1)) (gSeq (gC (.int 2)) gNil)))))) (fNew .lst 6)))
    (sSeq (sIf (gNot (gSeq (gSeq (gVar 2) (gSeq (gSeq (gSeq (gC (.int 8)) (gSeq (gC (.int 4)) (gSeq (gC (.int 80)) (gSeq (gC (.int 0)) (gSeq (gC (.int 1)) (gSeq (gC (.int 2)) gNil)))))) (fNew .lst 6)) gNil)) (gCall [] md_law_same G_law_same 2))) (sRet (gC (.bl false))) sNil)
    (sSeq (sIf (gOrB (gNot (gSeq (gSeq (gSeq (gSeq (gC (.str "")) gNil) (gCall [] md_law_split G_law_split 1)) (gSeq (gSeq gNil (fNew .lst 0)) gNil)) (gCall [] md_law_same G_law_same 2))) (gNot (gSeq (gSeq (gSeq (gSeq (gC (.str "")) (gSeq (gC (.int 5)) gNil)) (gCall [] md_law_read_number G_law_read_number 2)) (gSeq (gSeq (gSeq (gC (.str "refused")) (gSeq (gSeq (gSeq (gC (.str "BadText")) gNil) (fNew .lst 1)) gNil)) (fNew .tup 2)) gNil)) (gCall [] md_law_same G_law_same 2)))) (sRet (gC (.bl false))) sNil)
    (sRet (gAnd (gSeq (gSeq (gVar 1) gNil) (gCall [0] md_law_plans G_law_plans 1)) (gAnd (gSeq (gSeq (gVar 1) gNil) (gCall [0] md_law_numbers G_law_numbers 1)) (gSeq (gSeq (gVar 1) gNil) (gCall [0] md_law_lines G_law_lines 1))))))))
/-! the drawn row, and what is drawn of it -/
def Feed (fs : List Int) : Prop := fs.length ≤ 5000 ∧ ∀ x ∈ fs, 0 ≤ x ∧ x < 1000000
theorem Feed.tail {x : Int} {fs : List Int} (h : Feed (x :: fs)) : Feed fs := ⟨by have := h.1; simp at this; omega, fun y hy => h.2 y (List.mem_cons_of_mem _ hy)⟩
def sp_law_feed (K : PySem.W.Frag) : Sp := fun vs H Q _ => ∃ (a : Addr) (ns : List Int), vs = [.ref a] ∧ SqL K H a (ns.map V.int) ∧ ns.length ≤ 63 ∧
  ∀ H' p fs, Fr [] H H' → H p = none → H' p = some (.lst (fs.map V.int)) → Feed fs → Q (.ref p) H'
theorem mem_app1 {P : Int → Prop} {fs : List Int} {y : Int} (h : ∀ x ∈ fs, P x) (hy : P y) : ∀ x ∈ fs ++ [y], P x := fun x hx => by
  rcases List.mem_append.mp hx with q | q
  · exact h x q
  · rw [List.mem_singleton.mp q]
    exact hy
theorem map_app1 {fs : List Int} {y : Int} : fs.map V.int ++ [V.int y] = (fs ++ [y]).map V.int := by simp
theorem ok_law_feed (T : Txt K mg) : FnOk P w K mg base CX0 1 T.a_law_feed T.fd_law_feed ["_law_script"] (sp_law_feed K) := by
  refine T.F_law_feed.ok sc_law_feed (fun vs H Q E h => ?_) (fun cdv A outer s H vs Q E hr h => ?_)
  · obtain ⟨a, ns, rfl, _⟩ := h
    rfl
  · obtain ⟨a, ns, rfl, hS, hl, k⟩ := h
    refine ⟨_, (pss_cons (ps_set (i := 1) sc_law_feed.nd rfl (Or.inl rfl) (pe_lst pa_nil))
        (pss_cons (ps_for PassesOwn.never rfl (pi_list (pv 0)) (pg_name (i := 2) sc_law_feed.nd rfl (Or.inl rfl))
        (pss_cons (ps_set (i := 3) sc_law_feed.nd rfl (Or.inl rfl) (pe_callB call_abs (by rfl) T.n_abs (by decide +kernel) (pa_cons (pv 2) pa_nil)))
        (C8.pss_cut (ps_if (pt_cmpR op_lt (pv 3) (pe_op op_pow pe_int pe_int) (nomark _)) (pss_cons (ps_set (i := 3) sc_law_feed.nd rfl (Or.inl rfl) (pe_op op_mod (pe_callTy call_int1 (by rfl) T.n_int (by decide +kernel) (pa_cons (pe_op op_add (pe_op op_mul (pv 3) pe_int) pe_int) pa_nil)) pe_int))
        (pss_cons (ps_expr (pe_bm PySem.F.plainAttrs_list PySem.F.slot_list_append PySem.F.type_list_append mt_append (pv 1) (pa_cons (pe_op op_mod (pe_callTy call_int1 (by rfl) T.n_int (by decide +kernel) (pa_cons (pe_op op_add (pe_op op_mul (pv 3) pe_int) pe_int) pa_nil)) pe_int) pa_nil)))
        (pss_one (ps_set (i := 3) sc_law_feed.nd rfl (Or.inl rfl) pe_int)))) pss_nil)
        (pss_one (ps_for PassesOwn.never rfl (pi_range1 rfl T.n_range (pa_cons pe_int pa_nil)) (pg_name (i := 4) sc_law_feed.nd rfl (Or.inl rfl))
        (pss_one (ps_if (pt_cmpR op_gt (pv 3) pe_int (nomark _)) (pss_cons (ps_expr (pe_bm PySem.F.plainAttrs_list PySem.F.slot_list_append PySem.F.type_list_append mt_append (pv 1) (pa_cons (pe_op op_mod (pe_callTy call_int1 (by rfl) T.n_int (by decide +kernel) (pa_cons (pv 3) pa_nil)) pe_int) pa_nil)))
        (pss_one (ps_set (i := 3) sc_law_feed.nd rfl (Or.inl rfl) (pe_op op_fdiv (pv 3) pe_int)))) pss_nil)))))))
        (pss_one (ps_ret (pv 1))))), ?_⟩
    refine ⟨by decide, fun p np => ?_⟩
    generalize hH : upd H p _ = H1
    obtain ⟨f1, h1⟩ := gen_new np hH
    refine ⟨_, rfl, a, rfl, ⟨_, f1.seq0 hS⟩, for_list (K := K) (a := a) (xs := ns.map V.int) (fun i σ H2 => ∃ (fs : List Int) (u v x : Option V), σ = [some (.ref a), some (.ref p), u, v, x] ∧ Fr [] H H2 ∧ H2 p = some (.lst (fs.map V.int)) ∧ fs.length ≤ 61 * i ∧ ∀ x ∈ fs, 0 ≤ x ∧ x < 1000000) ?_ ?_ ?_ ?_⟩
    · exact ⟨[], none, none, none, rfl, f1, h1, by simp, by simp⟩
    · rintro i σ H2 _ ⟨fs, u, v, x, rfl, f2, _⟩
      exact f2.seq0 hS
    · rintro i y σ H2 hi ⟨fs, u, v, x, rfl, f2, h2, hf, hb⟩
      obtain ⟨z, hz, rfl⟩ := map_get hi
      have hil := getq_lt hz
      refine ⟨_, rfl, _, rfl, ?_⟩
      have hr0 : 0 ≤ (if z < 0 then -z else z) := by split <;> omega
      generalize (if z < 0 then -z else z) = r at hr0
      refine ⟨fun σ H3 => ∃ (r : Int) (fs : List Int), σ = [some (.ref a), some (.ref p), some (.int z), some (.int r), x] ∧ Fr [] H H3 ∧ H3 p = some (.lst (fs.map V.int)) ∧ 0 ≤ r ∧ fs.length ≤ 61 * i + 1 ∧ ∀ x ∈ fs, 0 ≤ x ∧ x < 1000000, ?_, ?_⟩
      · refine ⟨_, rfl, _, _, rfl, rfl, ⟨by decide, by decide, by decide⟩, _, _, rfl, rfl, _, rfl, ?_⟩
        refine ite2 (fun c => ?_) (fun c => ?_)
        · refine ⟨_, rfl, _, _, rfl, rfl, .inr ⟨by decide, by decide⟩, _, _, rfl, rfl, .inl ⟨_, rfl, _, _, rfl, rfl, (by show (0 : Int) < 2147483647; decide), ?_⟩⟩
          refine ⟨_, rfl, .inl ⟨rfl, _, sq h2⟩, _, rfl, _, _, rfl, rfl, .inr ⟨by decide, by decide⟩, _, _, rfl, rfl, .inl ⟨_, rfl, _, _, rfl, rfl, (by show (0 : Int) < 999983; decide), p, _, _, rfl, rfl, h2, sz (by simp; omega), ?_⟩⟩
          generalize hH3 : upd H2 p _ = H3
          obtain ⟨f3, h3⟩ := gen_upd hH3
          rw [map_app1] at h3
          refine ⟨0, _, rfl, f2.up1 f3 (.inr np), h3, by decide, by simp; omega, mem_app1 hb ?_⟩
          exact ⟨Int.emod_nonneg _ (by decide), Int.lt_trans (Int.emod_lt_of_pos _ (by decide)) (by decide)⟩
        · exact ⟨r, fs, rfl, f2, h2, hr0, by omega, hb⟩
      · rintro σ H3 ⟨r, fs, rfl, f3, h3, hr1, hf1, hb1⟩
        refine ⟨60, rfl, by decide, by decide, for_range (n := 60) (fun j σ H4 => ∃ (r : Int) (fs : List Int) (x : Option V), σ = [some (.ref a), some (.ref p), some (.int z), some (.int r), x] ∧ Fr [] H H4 ∧ H4 p = some (.lst (fs.map V.int)) ∧ 0 ≤ r ∧ fs.length ≤ 61 * i + 1 + j ∧ ∀ x ∈ fs, 0 ≤ x ∧ x < 1000000) ?_ ?_ ?_⟩
        · exact ⟨r, fs, x, rfl, f3, h3, hr1, by omega, hb1⟩
        · rintro j σ H4 hj ⟨r, fs, x, rfl, f4, h4, hr2, hf2, hb2⟩
          refine ⟨_, rfl, _, _, rfl, rfl, _, rfl, ?_⟩
          refine ite2 (fun c => ?_) (fun c => ?_)
          · refine ⟨_, rfl, .inl ⟨rfl, _, sq h4⟩, _, rfl, .inl ⟨_, rfl, _, _, rfl, rfl, (by show (0 : Int) < 1000; decide), p, _, _, rfl, rfl, h4, sz (by simp; omega), ?_⟩⟩
            generalize hH5 : upd H4 p _ = H5
            obtain ⟨f5, h5⟩ := gen_upd hH5
            rw [map_app1] at h5
            refine ⟨_, rfl, _, _, rfl, rfl, ⟨by decide, by decide⟩, _, _, _, rfl, f4.up1 f5 (.inr np), h5, Int.ediv_nonneg hr2 (by decide), by simp; omega, mem_app1 hb2 ?_⟩
            exact ⟨Int.emod_nonneg _ (by decide), Int.lt_trans (Int.emod_lt_of_pos _ (by decide)) (by decide)⟩
          · exact ⟨r, fs, _, rfl, f4, h4, hr2, by omega, hb2⟩
        · rintro σ H4 ⟨r, fs, x, rfl, f4, h4, hr2, hf2, hb2⟩
          exact ⟨fs, _, _, _, rfl, f4, h4, by omega, hb2⟩
    · rintro σ H2 ⟨fs, u, v, x, rfl, f2, h2, hf, hb⟩
      rw [List.length_map] at hf
      exact ⟨_, rfl, k H2 p fs f2 np h2 ⟨by omega, hb⟩⟩

def LawIs : Prop := ∀ fs, Feed fs → ∃ m, g_law (feedG 1 fs) = some (.rt (bT true) m)
theorem ok_law_of (pl : LawIs) (T : Txt K mg) : FnOk P w K mg base CX0 14 T.a_law T.fd_law ["_law_script"] (spLaw K) :=
  law_sim (Fe := Feed) (T := kt P w T) (n := 1) (g := g_law) T.F_law sc_law rfl rfl (fun cdv A outer s H E hr =>
  ⟨⟨_, (ps_set (i := 1) sc_law.nd rfl (Or.inl rfl) (pe_call (ok_law_feed T) (hr.mono (by decide)) rfl T.m_law_feed T.F_law_feed.kp T.b_law_feed .nil pass0 (pa_cons (pv 0) pa_nil))), fun a ns H D hS hl k => ⟨_, rfl, a, ns, rfl, hS, hl, fun H1 p fs1 _ _ h1 hf1 => k H1 p fs1 h1 hf1⟩⟩,
  (mss_cons (ms_set (i := 2) sc_law.nd rfl (Or.inl rfl) (me_lst (ma_cons (me_cval (pe_glob (v := .ref T.c_Plan) rfl T.g_Plan rfl) T.r_Plan T.k_Plan_WIDTH) (ma_cons (me_cval (pe_glob (v := .ref T.c_Plan) rfl T.g_Plan rfl) T.r_Plan T.k_Plan_OWNERS) (ma_cons (me_cval (pe_glob (v := .ref T.c_Plan) rfl T.g_Plan rfl) T.r_Plan T.k_Plan_LONGEST) (ma_cons (me_cval (pe_glob (v := .ref T.c_Plan) rfl T.g_Plan rfl) T.r_Plan T.k_Plan_FREE) (ma_cons (me_cval (pe_glob (v := .ref T.c_Plan) rfl T.g_Plan rfl) T.r_Plan T.k_Plan_LOGGED) (ma_cons (me_cval (pe_glob (v := .ref T.c_Plan) rfl T.g_Plan rfl) T.r_Plan T.k_Plan_PLAIN) ma_nil)))))) (by show 6 ≤ sizeLine; decide)))
    (mss_cons (ms_if (mt_not (mt_val (me_call (is := []) (sim_law_same T) (hr.mono (by decide)) takes0 rfl T.m_law_same T.F_law_same.kp T.b_law_same (ma_cons (me_var (pv 2)) (ma_cons (me_lst (ma_cons (me_c pe_int) (ma_cons (me_c pe_int) (ma_cons (me_c pe_int) (ma_cons (me_c pe_int) (ma_cons (me_c pe_int) (ma_cons (me_c pe_int) ma_nil)))))) (by show 6 ≤ sizeLine; decide)) ma_nil)) (by decide) (by decide)))) (mss_one (ms_ret (me_c pe_bl)))
    mss_nil)
    (mss_cons (ms_if (mw_pt (mw_or (mt_not (mt_val (me_call (is := []) (sim_law_same T) (hr.mono (by decide)) takes0 rfl T.m_law_same T.F_law_same.kp T.b_law_same (ma_cons (me_call (is := []) (sim_law_split T) (hr.mono (by decide)) takes0 rfl T.m_law_split T.F_law_split.kp T.b_law_split (ma_cons (me_c pe_str) ma_nil) (by decide) (by decide)) (ma_cons (me_lst ma_nil (by show 0 ≤ sizeLine; decide)) ma_nil)) (by decide) (by decide)))) (mw_or1 (mt_not (mt_val (me_call (is := []) (sim_law_same T) (hr.mono (by decide)) takes0 rfl T.m_law_same T.F_law_same.kp T.b_law_same (ma_cons (me_call (is := []) (sim_law_read_number T) (hr.mono (by decide)) takes0 rfl T.m_law_read_number T.F_law_read_number.kp T.b_law_read_number (ma_cons (me_c pe_str) (ma_cons (me_c pe_int) ma_nil)) (by decide) (by decide)) (ma_cons (me_tup (ma_cons (me_c pe_str) (ma_cons (me_lst (ma_cons (me_c pe_str) ma_nil) (by show 1 ≤ sizeLine; decide)) ma_nil)) (by show 2 ≤ sizeLine; decide)) ma_nil)) (by decide) (by decide))))))) (mss_one (ms_ret (me_c pe_bl)))
    mss_nil)
    (mss_one (ms_ret (me_and (me_call (is := [0]) (sim_law_plans T) (hr.mono (by decide)) takes0 rfl T.m_law_plans T.F_law_plans.kp T.b_law_plans (ma_cons (me_var (pv 1)) ma_nil) (by decide) (by decide)) (me_and (me_call (is := [0]) (sim_law_numbers T) (hr.mono (by decide)) takes0 rfl T.m_law_numbers T.F_law_numbers.kp T.b_law_numbers (ma_cons (me_var (pv 1)) ma_nil) (by decide) (by decide)) (me_one (me_call (is := [0]) (sim_law_lines T) (hr.mono (by decide)) takes0 rfl T.m_law_lines T.F_law_lines.kp T.b_law_lines (ma_cons (me_var (pv 1)) ma_nil) (by decide) (by decide))))))))))⟩) pl
-- level 14
end
local macro_rules | `(tactic| simp! [$xs,*]) => `(tactic| simp [gSeq_e, bE_ok, bE_ex, bE_ite, gNil_e, gC_e, ok_ite, gVar_e, varE_tr, varE_al, gNot_e, nE_ok, nE_ite, gAnd_e, aE_ok, aE_ite, aE_ex, gOrB_e, oE_ok, oE_ite, oE_ex, gIf_e, iE_ok, iE_ite, noEx_e, xE_ok, sSeq_e, bS_nx, bS_rt, bS_bk, bS_ct, bS_ex, bS_ite, sNil_e, sIf_e, iS_ok, iS_ex, iS_ite, sRet_e, rS_ok, rS_ex, rS_ite, sExpr_e, eS_ok, eS_ex, eS_ite, nxO_some, kS_ok, kS_ex, kS_ite, sSet_e, sAsg_e, sSubA_e, sFldS_e, gCall_e, c1_some, c2_some, c3_rt, c3_ex, c3_ite, gMake_e, k1_some, k2_rt, k2_ex, k2_ite, gChain_e, h1_ok, h2_ok, sPar_e, pS2_ok, sPar3_e, pS3_ok, sSubB_e, gCon_e, gK0_e, fKD_e, runF_e, fR_ite, fR_nx, fR_rt, fR_ex, rt_ite, int_ite, bl_ite, nos, fP1, fP2, FI, cT, viewE, kidE, kidX, kid, eff, cp, cpL, esc, escL, fFld, fIxA, fIx, fIxK, gOr, fNew, popN, mkN, fMv, fFrz, outP, Ent.tree, extAll, extAt, argT, resAll, resAt, getG, getT, getP, setG, setT, kill, killR_tr, killR_no, killR_al, killE_tr, killE_no, killE_al, killJ_tr, killJ_no, killJ_al, pre, nbel, chkI, chkL, List.lookup, fAdd, fSub, fDiv, fMod, fLt, fLe, fGt, fGe, cMul, cPos, cDiv, fEq, fNe, FEq_int, FEq_row, FEq_tup, FEq_pair, FEq_mat, FEq_str, FEq_bl, fIn, fNotIn, fInA, fNotInA, FInD, kit_int_int, kit_int_bool, kit_int_str, kit_int_list, kit_int_tuple, kit_int_dict, kit_bool_int, kit_bool_bool, kit_bool_str, kit_bool_list, kit_bool_tuple, kit_bool_dict, kit_str_int, kit_str_bool, kit_str_str, kit_str_list, kit_str_tuple, kit_str_dict, kit_list_int, kit_list_bool, kit_list_str, kit_list_list, kit_list_tuple, kit_list_dict, kit_tuple_int, kit_tuple_bool, kit_tuple_str, kit_tuple_list, kit_tuple_tuple, kit_tuple_dict, kit_dict_int, kit_dict_bool, kit_dict_str, kit_dict_list, kit_dict_tuple, kit_dict_dict, kit_NoneType_int, kit_NoneType_bool, kit_NoneType_str, kit_NoneType_list, kit_NoneType_tuple, kit_NoneType_dict, FIn_l, FIn_t, ixL_1_0, ixL_2_0, ixL_2_1, ixL_3_0, ixL_3_1, ixL_3_2, ixL_4_0, ixL_4_1, ixL_4_2, ixL_4_3, ixL_5_0, ixL_5_1, ixL_5_2, ixL_5_3, ixL_5_4, ixL_6_0, ixL_6_1, ixL_6_2, ixL_6_3, ixL_6_4, ixL_6_5, ixL_7_0, ixL_7_1, ixL_7_2, ixL_7_3, ixL_7_4, ixL_7_5, ixL_7_6, ixL_8_0, ixL_8_1, ixL_8_2, ixL_8_3, ixL_8_4, ixL_8_5, ixL_8_6, ixL_8_7, ixL_9_0, ixL_9_1, ixL_9_2, ixL_9_3, ixL_9_4, ixL_9_5, ixL_9_6, ixL_9_7, ixL_9_8, ixL_10_0, ixL_10_1, ixL_10_2, ixL_10_3, ixL_10_4, ixL_10_5, ixL_10_6, ixL_10_7, ixL_10_8, ixL_10_9, ixL_11_0, ixL_11_1, ixL_11_2, ixL_11_3, ixL_11_4, ixL_11_5, ixL_11_6, ixL_11_7, ixL_11_8, ixL_11_9, ixL_11_10, ixL_12_0, ixL_12_1, ixL_12_2, ixL_12_3, ixL_12_4, ixL_12_5, ixL_12_6, ixL_12_7, ixL_12_8, ixL_12_9, ixL_12_10, ixL_12_11, fIsN, fNotN, FIs, fIsB, FIsB, fIsBV, FIsBV, fNotBV, fNotB, fLen, FLen, fInt, FInt, fIsi, FIsi, tyN, fApp, fPopA, fPop, stSubA, stSub, stSubK, stFld, unpk, unpkT, sTryRe, bindAll, unpkP, sRaise, sRetN, sFAug, sSAug, sAug, fAddI, fSubI, bind, fNeg, FNeg, fTup, fLst, itemsE, kidL, kidL_iT, gClr, sClr, clr, fEqE, FEqE, mapk_iT, kidc_iT, set_iT, set_rowT, -List.map_set, -List.map_append, app_iT, app_map, FS, fCat, -getElem?_pos, List.getElem?_cons_zero, fMvD, fHid, CMul, gDc0, gD0, ready, cpE, fInB, fNotInB, FInT, keyT, keysA, keyOf, stSubB, stSubT, fPut1, fInO, fCon, fRevL, atoms, $xs,*])
local macro_rules | `(tactic| simp! []) => `(tactic| simp [gSeq_e, bE_ok, bE_ex, bE_ite, gNil_e, gC_e, ok_ite, gVar_e, varE_tr, varE_al, gNot_e, nE_ok, nE_ite, gAnd_e, aE_ok, aE_ite, aE_ex, gOrB_e, oE_ok, oE_ite, oE_ex, gIf_e, iE_ok, iE_ite, noEx_e, xE_ok, sSeq_e, bS_nx, bS_rt, bS_bk, bS_ct, bS_ex, bS_ite, sNil_e, sIf_e, iS_ok, iS_ex, iS_ite, sRet_e, rS_ok, rS_ex, rS_ite, sExpr_e, eS_ok, eS_ex, eS_ite, nxO_some, kS_ok, kS_ex, kS_ite, sSet_e, sAsg_e, sSubA_e, sFldS_e, gCall_e, c1_some, c2_some, c3_rt, c3_ex, c3_ite, gMake_e, k1_some, k2_rt, k2_ex, k2_ite, gChain_e, h1_ok, h2_ok, sPar_e, pS2_ok, sPar3_e, pS3_ok, sSubB_e, gCon_e, gK0_e, fKD_e, runF_e, fR_ite, fR_nx, fR_rt, fR_ex, rt_ite, int_ite, bl_ite, nos, fP1, fP2, FI, cT, viewE, kidE, kidX, kid, eff, cp, cpL, esc, escL, fFld, fIxA, fIx, fIxK, gOr, fNew, popN, mkN, fMv, fFrz, outP, Ent.tree, extAll, extAt, argT, resAll, resAt, getG, getT, getP, setG, setT, kill, killR_tr, killR_no, killR_al, killE_tr, killE_no, killE_al, killJ_tr, killJ_no, killJ_al, pre, nbel, chkI, chkL, List.lookup, fAdd, fSub, fDiv, fMod, fLt, fLe, fGt, fGe, cMul, cPos, cDiv, fEq, fNe, FEq_int, FEq_row, FEq_tup, FEq_pair, FEq_mat, FEq_str, FEq_bl, fIn, fNotIn, fInA, fNotInA, FInD, kit_int_int, kit_int_bool, kit_int_str, kit_int_list, kit_int_tuple, kit_int_dict, kit_bool_int, kit_bool_bool, kit_bool_str, kit_bool_list, kit_bool_tuple, kit_bool_dict, kit_str_int, kit_str_bool, kit_str_str, kit_str_list, kit_str_tuple, kit_str_dict, kit_list_int, kit_list_bool, kit_list_str, kit_list_list, kit_list_tuple, kit_list_dict, kit_tuple_int, kit_tuple_bool, kit_tuple_str, kit_tuple_list, kit_tuple_tuple, kit_tuple_dict, kit_dict_int, kit_dict_bool, kit_dict_str, kit_dict_list, kit_dict_tuple, kit_dict_dict, kit_NoneType_int, kit_NoneType_bool, kit_NoneType_str, kit_NoneType_list, kit_NoneType_tuple, kit_NoneType_dict, FIn_l, FIn_t, ixL_1_0, ixL_2_0, ixL_2_1, ixL_3_0, ixL_3_1, ixL_3_2, ixL_4_0, ixL_4_1, ixL_4_2, ixL_4_3, ixL_5_0, ixL_5_1, ixL_5_2, ixL_5_3, ixL_5_4, ixL_6_0, ixL_6_1, ixL_6_2, ixL_6_3, ixL_6_4, ixL_6_5, ixL_7_0, ixL_7_1, ixL_7_2, ixL_7_3, ixL_7_4, ixL_7_5, ixL_7_6, ixL_8_0, ixL_8_1, ixL_8_2, ixL_8_3, ixL_8_4, ixL_8_5, ixL_8_6, ixL_8_7, ixL_9_0, ixL_9_1, ixL_9_2, ixL_9_3, ixL_9_4, ixL_9_5, ixL_9_6, ixL_9_7, ixL_9_8, ixL_10_0, ixL_10_1, ixL_10_2, ixL_10_3, ixL_10_4, ixL_10_5, ixL_10_6, ixL_10_7, ixL_10_8, ixL_10_9, ixL_11_0, ixL_11_1, ixL_11_2, ixL_11_3, ixL_11_4, ixL_11_5, ixL_11_6, ixL_11_7, ixL_11_8, ixL_11_9, ixL_11_10, ixL_12_0, ixL_12_1, ixL_12_2, ixL_12_3, ixL_12_4, ixL_12_5, ixL_12_6, ixL_12_7, ixL_12_8, ixL_12_9, ixL_12_10, ixL_12_11, fIsN, fNotN, FIs, fIsB, FIsB, fIsBV, FIsBV, fNotBV, fNotB, fLen, FLen, fInt, FInt, fIsi, FIsi, tyN, fApp, fPopA, fPop, stSubA, stSub, stSubK, stFld, unpk, unpkT, sTryRe, bindAll, unpkP, sRaise, sRetN, sFAug, sSAug, sAug, fAddI, fSubI, bind, fNeg, FNeg, fTup, fLst, itemsE, kidL, kidL_iT, gClr, sClr, clr, fEqE, FEqE, mapk_iT, kidc_iT, set_iT, set_rowT, -List.map_set, -List.map_append, app_iT, app_map, FS, fCat, -getElem?_pos, List.getElem?_cons_zero, fMvD, fHid, CMul, gDc0, gD0, ready, cpE, fInB, fNotInB, FInT, keyT, keysA, keyOf, stSubB, stSubT, fPut1, fInO, fCon, fRevL, atoms])
/-! rows of texts -/
section
variable {neg : Bool} {o : Ow}
abbrev aS (x : Str) : Tr := .a (.str x)
theorem kidL_str : ∀ (xs : List Str), kidL o (xs.map aS) = xs.map aS
  | [] => rfl
  | x :: xs => by rw [List.map_cons, kidL, kidL_str xs]; rfl
theorem cpL_str : ∀ (xs : List Str), cpL (xs.map aS) = true
  | [] => rfl
  | x :: xs => by rw [List.map_cons, cpL, cpL_str xs]; rfl
theorem escL_str : ∀ (xs : List Str), escL (xs.map aS) = true
  | [] => rfl
  | x :: xs => by rw [List.map_cons, escL, escL_str xs]; rfl
theorem inV_str : ∀ (x : Str) (xs : List Str), inV (.str x) (xs.map V.str) = decide (x ∈ xs)
  | x, [] => by simp [inV]
  | x, y :: xs => by
    have ih := inV_str x xs
    simp only [inV, List.map_cons, List.any_cons] at ih ⊢
    rw [ih]
    by_cases h : x = y
    · simp [h, eqV]
    · have h2 : y ≠ x := fun q => h q.symm
      simp [h, h2, eqV]
theorem FIn_ls (x : Str) (xs : List Str) : FIn neg (.a (.str x)) (.nd .lst o (xs.map aS)) = some (.bl (if neg then !decide (x ∈ xs) else decide (x ∈ xs))) := by
  have h1 : atoms (xs.map aS) = some (xs.map V.str) := atoms_map (f := V.str) xs
  have h2 : (xs.map V.str).all flatV = true := by simp [flatV]
  unfold FIn
  simp only [h1]
  rw [if_pos ⟨rfl, h2⟩, inV_str]
end
/-! a number drawn -/
section
theorem G_pick {fs : List Int} {n : Int} (hf : Feed fs) (hn : 0 < n) : ∃ c fs', G_law_pick [rowT fs, iT n] = some (.rt (iT c) [rowT fs', .any]) ∧ 0 ≤ c ∧ c < n ∧ Feed fs' := by
  cases fs with
  | nil => exact ⟨0, [], by simp! [G_law_pick, g_law_pick], by omega, hn, hf⟩
  | cons x fs =>
    have h0 := (hf.2 x List.mem_cons_self)
    have hp : seqIndex? 0 (fs.length + 1) = some 0 := by simp [seqIndex?]
    have h1 : ¬ ((fs.length : Int) + 1 = 0) := by omega
    exact ⟨x % n, fs, by simp! [G_law_pick, g_law_pick, hp, hn, h1], Int.emod_nonneg _ (by omega), Int.emod_lt_of_pos _ hn, hf.tail⟩
end
/-! the law's comparison of what is told with what is due -/
def okV : V → Prop
  | .non => True
  | .bl _ => True
  | .int _ => True
  | .str _ => True
  | _ => False
def topOk (k : Nk) (o : Ow) (ts : List Tr) : Prop := (k = .lst ∧ (o = .lnt ∨ o = .frz)) ∨ (k = .tup ∧ o = .own ∧ cpL ts = true)
def Sm : Nat → Tr → Tr → Prop
  | 0, _, _ => False
  | n + 1, t, u => (∃ v, t = .a v ∧ u = .a v ∧ okV v) ∨ ∃ (k : Nk) (o o' : Ow) (ts us : List Tr), topOk k o ts ∧ topOk k o' us ∧ t = .nd k o ts ∧ u = .nd k o' us ∧ ts.length = us.length ∧ us.length ≤ 100000 ∧
      ∀ (j : Nat) (x y : Tr), ts[j]? = some x → us[j]? = some y → cp (kid o x) = true ∧ cp (kid o' y) = true ∧ cp (kid .lnt (kid o x)) = true ∧ cp (kid .lnt (kid o' y)) = true ∧ Sm n (kid .lnt (kid o x)) (kid .lnt (kid o' y))
section
variable {s : List Ent}
theorem varE_top {k : Nk} {o : Ow} {ts : List Tr} {i : Nat} (h : topOk k o ts) : cp (.nd k o ts) = true := by
  rcases h with ⟨rfl, rfl | rfl⟩ | ⟨rfl, rfl, h⟩
  · rfl
  · rfl
  · exact h
theorem same_turn {R : GF} {k : Nk} {o o' : Ow} {ts us : List Tr} {x y : Tr} {i : Int} {j : Nat} (h1 : topOk k o ts) (h2 : topOk k o' us) (a1 : ixN us.length i = some j) (hl : ts.length = us.length) (hx : ts[j]? = some x) (hy : us[j]? = some y) (c1 : cp (kid o x) = true) (c2 : cp (kid o' y) = true) (d1 : cp (kid .lnt (kid o x)) = true) (d2 : cp (kid .lnt (kid o' y)) = true)
    (h : R [kid .lnt (kid o x), kid .lnt (kid o' y)] = some (.rt (bT true) [.any, .any])) : b_law_same_1 R ⟨[.tr (.nd k o ts), .tr (.nd k o' us), .tr (iT i)], []⟩ = some (.nx ⟨[.tr (.nd k o ts), .tr (.nd k o' us), .tr (iT i)], []⟩) := by
  have v1 := varE_top (i := 0) h1
  have v2 := varE_top (i := 0) h2
  have f1 : fIxA ⟨[.tr (.nd k o ts), .tr (.nd k o' us), .tr (iT i)], [.tr (iT i), .tr (.nd k o ts)]⟩ = some (.ok ⟨[.tr (.nd k o ts), .tr (.nd k o' us), .tr (iT i)], [.tr (kid o x)]⟩) := by
    rcases h1 with ⟨rfl, rfl | rfl⟩ | ⟨rfl, rfl, _⟩ <;> simp [fIxA, gOr, fIx, viewE, a1, hl, kidE, hx, c1]
  have f2 : fIxA ⟨[.tr (.nd k o ts), .tr (.nd k o' us), .tr (iT i)], [.tr (iT i), .tr (.nd k o' us), .tr (kid o x)]⟩ = some (.ok ⟨[.tr (.nd k o ts), .tr (.nd k o' us), .tr (iT i)], [.tr (kid o' y), .tr (kid o x)]⟩) := by
    rcases h2 with ⟨rfl, rfl | rfl⟩ | ⟨rfl, rfl, _⟩ <;> simp [fIxA, gOr, fIx, viewE, a1, kidE, hy, c2]
  have g0 : gVar 0 ⟨[.tr (.nd k o ts), .tr (.nd k o' us), .tr (iT i)], []⟩ = some (.ok ⟨[.tr (.nd k o ts), .tr (.nd k o' us), .tr (iT i)], [.tr (.nd k o ts)]⟩) := by simp [gVar, v1]
  have g1 : gVar 1 ⟨[.tr (.nd k o ts), .tr (.nd k o' us), .tr (iT i)], [.tr (kid o x)]⟩ = some (.ok ⟨[.tr (.nd k o ts), .tr (.nd k o' us), .tr (iT i)], [.tr (.nd k o' us), .tr (kid o x)]⟩) := by simp [gVar, v2]
  have g2 : ∀ s, gVar 2 ⟨[.tr (.nd k o ts), .tr (.nd k o' us), .tr (iT i)], s⟩ = some (.ok ⟨[.tr (.nd k o ts), .tr (.nd k o' us), .tr (iT i)], .tr (iT i) :: s⟩) := fun s => rfl
  have gc : gCall [] md_law_same R 2 ⟨[.tr (.nd k o ts), .tr (.nd k o' us), .tr (iT i)], [.tr (kid o' y), .tr (kid o x)]⟩ = some (.ok ⟨[.tr (.nd k o ts), .tr (.nd k o' us), .tr (iT i)], [.tr (bT true)]⟩) := by
    simp [gCall, extAll, argT, viewE, d1, d2, h, resAll]
  simp only [b_law_same_1, sIf, gNot, gSeq, gNil, g0, g1, g2, f1, f2, gc]
  rfl
theorem isi_lst_int {o : Ow} {ts : List Tr} : FIsi (.nd .lst o ts) (.a (.ty "int")) = some (.bl false) := by simp [FIsi, tyN, kit_list_int]
theorem isi_lst_str {o : Ow} {ts : List Tr} : FIsi (.nd .lst o ts) (.a (.ty "str")) = some (.bl false) := by simp [FIsi, tyN, kit_list_str]
theorem isi_lst_tuple {o : Ow} {ts : List Tr} : FIsi (.nd .lst o ts) (.a (.ty "tuple")) = some (.bl false) := by simp [FIsi, tyN, kit_list_tuple]
theorem isi_lst_list {o : Ow} {ts : List Tr} : FIsi (.nd .lst o ts) (.a (.ty "list")) = some (.bl true) := by simp [FIsi, tyN, kit_list_list]
theorem isi_tup_int {o : Ow} {ts : List Tr} : FIsi (.nd .tup o ts) (.a (.ty "int")) = some (.bl false) := by simp [FIsi, tyN, kit_tuple_int]
theorem isi_tup_str {o : Ow} {ts : List Tr} : FIsi (.nd .tup o ts) (.a (.ty "str")) = some (.bl false) := by simp [FIsi, tyN, kit_tuple_str]
theorem isi_tup_tuple {o : Ow} {ts : List Tr} : FIsi (.nd .tup o ts) (.a (.ty "tuple")) = some (.bl true) := by simp [FIsi, tyN, kit_tuple_tuple]
theorem isi_tup_list {o : Ow} {ts : List Tr} : FIsi (.nd .tup o ts) (.a (.ty "list")) = some (.bl false) := by simp [FIsi, tyN, kit_tuple_list]
theorem isi_lst {o : Ow} {ts : List Tr} : FIsi (.nd .lst o ts) (.nd .tup .own [.a (.ty "tuple"), .a (.ty "list")]) = some (.bl true) := by
  simp only [FIsi, tyN, tyNames, kitAnyB, kit_list_tuple, kit_list_list]
theorem isi_tup {o : Ow} {ts : List Tr} : FIsi (.nd .tup o ts) (.nd .tup .own [.a (.ty "tuple"), .a (.ty "list")]) = some (.bl true) := by
  simp only [FIsi, tyN, tyNames, kitAnyB, kit_tuple_tuple]
theorem sc_l0 {o o' : Ow} {ts us : List Tr} (ho : o = .lnt ∨ o = .frz) (ho' : o' = .lnt ∨ o' = .frz) (hl : ts.length = us.length) : (gOrB (gSeq (gSeq (gVar 1) (gC .non)) fIsN) (gOrB (gSeq (gSeq (gVar 1) (gC (.bl true))) fIsBV) (gSeq (gSeq (gVar 1) (gC (.bl false))) fIsBV))) ⟨[.tr (.nd .lst o ts), .tr (.nd .lst o' us), .no], []⟩ = some (.ok ⟨[.tr (.nd .lst o ts), .tr (.nd .lst o' us), .no], [.tr (bT false)]⟩) := by
  rcases ho with rfl | rfl <;> rcases ho' with rfl | rfl <;> simp! [hl, -FIsi, isi_lst, isi_lst_int, isi_lst_str, isi_lst_tuple, isi_lst_list]
theorem sc_l1 {o o' : Ow} {ts us : List Tr} (ho : o = .lnt ∨ o = .frz) (ho' : o' = .lnt ∨ o' = .frz) (hl : ts.length = us.length) : ((gSeq (gSeq (gVar 1) (gSeq (gC (.ty "int")) gNil)) fIsi)) ⟨[.tr (.nd .lst o ts), .tr (.nd .lst o' us), .no], []⟩ = some (.ok ⟨[.tr (.nd .lst o ts), .tr (.nd .lst o' us), .no], [.tr (bT false)]⟩) := by
  rcases ho with rfl | rfl <;> rcases ho' with rfl | rfl <;> simp! [hl, -FIsi, isi_lst, isi_lst_int, isi_lst_str, isi_lst_tuple, isi_lst_list]
theorem sc_l2 {o o' : Ow} {ts us : List Tr} (ho : o = .lnt ∨ o = .frz) (ho' : o' = .lnt ∨ o' = .frz) (hl : ts.length = us.length) : ((gSeq (gSeq (gVar 1) (gSeq (gC (.ty "str")) gNil)) fIsi)) ⟨[.tr (.nd .lst o ts), .tr (.nd .lst o' us), .no], []⟩ = some (.ok ⟨[.tr (.nd .lst o ts), .tr (.nd .lst o' us), .no], [.tr (bT false)]⟩) := by
  rcases ho with rfl | rfl <;> rcases ho' with rfl | rfl <;> simp! [hl, -FIsi, isi_lst, isi_lst_int, isi_lst_str, isi_lst_tuple, isi_lst_list]
theorem sc_l3 {o o' : Ow} {ts us : List Tr} (ho : o = .lnt ∨ o = .frz) (ho' : o' = .lnt ∨ o' = .frz) (hl : ts.length = us.length) : ((gAnd (gSeq (gSeq (gVar 1) (gSeq (gC (.ty "tuple")) gNil)) fIsi) (gNot (gSeq (gSeq (gVar 0) (gSeq (gC (.ty "tuple")) gNil)) fIsi)))) ⟨[.tr (.nd .lst o ts), .tr (.nd .lst o' us), .no], []⟩ = some (.ok ⟨[.tr (.nd .lst o ts), .tr (.nd .lst o' us), .no], [.tr (bT false)]⟩) := by
  rcases ho with rfl | rfl <;> rcases ho' with rfl | rfl <;> simp! [hl, -FIsi, isi_lst, isi_lst_int, isi_lst_str, isi_lst_tuple, isi_lst_list]
theorem sc_l4 {o o' : Ow} {ts us : List Tr} (ho : o = .lnt ∨ o = .frz) (ho' : o' = .lnt ∨ o' = .frz) (hl : ts.length = us.length) : ((gAnd (gSeq (gSeq (gVar 1) (gSeq (gC (.ty "list")) gNil)) fIsi) (gNot (gSeq (gSeq (gVar 0) (gSeq (gC (.ty "list")) gNil)) fIsi)))) ⟨[.tr (.nd .lst o ts), .tr (.nd .lst o' us), .no], []⟩ = some (.ok ⟨[.tr (.nd .lst o ts), .tr (.nd .lst o' us), .no], [.tr (bT false)]⟩) := by
  rcases ho with rfl | rfl <;> rcases ho' with rfl | rfl <;> simp! [hl, -FIsi, isi_lst, isi_lst_int, isi_lst_str, isi_lst_tuple, isi_lst_list]
theorem sc_l5 {o o' : Ow} {ts us : List Tr} (ho : o = .lnt ∨ o = .frz) (ho' : o' = .lnt ∨ o' = .frz) (hl : ts.length = us.length) : ((gOrB (gNot (gSeq (gSeq (gVar 0) (gSeq (gSeq (gSeq (gC (.ty "tuple")) (gSeq (gC (.ty "list")) gNil)) (fNew .tup 2)) gNil)) fIsi)) (gSeq (gSeq (gSeq (gSeq (gVar 0) gNil) fLen) (gSeq (gSeq (gVar 1) gNil) fLen)) fNe))) ⟨[.tr (.nd .lst o ts), .tr (.nd .lst o' us), .no], []⟩ = some (.ok ⟨[.tr (.nd .lst o ts), .tr (.nd .lst o' us), .no], [.tr (bT false)]⟩) := by
  rcases ho with rfl | rfl <;> rcases ho' with rfl | rfl <;> simp! [hl, -FIsi, isi_lst, isi_lst_int, isi_lst_str, isi_lst_tuple, isi_lst_list]
theorem sc_t0 {ts us : List Tr} (q : cpL ts = true) (q' : cpL us = true) (hl : ts.length = us.length) : (gOrB (gSeq (gSeq (gVar 1) (gC .non)) fIsN) (gOrB (gSeq (gSeq (gVar 1) (gC (.bl true))) fIsBV) (gSeq (gSeq (gVar 1) (gC (.bl false))) fIsBV))) ⟨[.tr (.nd .tup .own ts), .tr (.nd .tup .own us), .no], []⟩ = some (.ok ⟨[.tr (.nd .tup .own ts), .tr (.nd .tup .own us), .no], [.tr (bT false)]⟩) := by
  simp! [hl, q, q', -FIsi, isi_tup, isi_tup_int, isi_tup_str, isi_tup_tuple, isi_tup_list]
theorem sc_t1 {ts us : List Tr} (q : cpL ts = true) (q' : cpL us = true) (hl : ts.length = us.length) : ((gSeq (gSeq (gVar 1) (gSeq (gC (.ty "int")) gNil)) fIsi)) ⟨[.tr (.nd .tup .own ts), .tr (.nd .tup .own us), .no], []⟩ = some (.ok ⟨[.tr (.nd .tup .own ts), .tr (.nd .tup .own us), .no], [.tr (bT false)]⟩) := by
  simp! [hl, q, q', -FIsi, isi_tup, isi_tup_int, isi_tup_str, isi_tup_tuple, isi_tup_list]
theorem sc_t2 {ts us : List Tr} (q : cpL ts = true) (q' : cpL us = true) (hl : ts.length = us.length) : ((gSeq (gSeq (gVar 1) (gSeq (gC (.ty "str")) gNil)) fIsi)) ⟨[.tr (.nd .tup .own ts), .tr (.nd .tup .own us), .no], []⟩ = some (.ok ⟨[.tr (.nd .tup .own ts), .tr (.nd .tup .own us), .no], [.tr (bT false)]⟩) := by
  simp! [hl, q, q', -FIsi, isi_tup, isi_tup_int, isi_tup_str, isi_tup_tuple, isi_tup_list]
theorem sc_t3 {ts us : List Tr} (q : cpL ts = true) (q' : cpL us = true) (hl : ts.length = us.length) : ((gAnd (gSeq (gSeq (gVar 1) (gSeq (gC (.ty "tuple")) gNil)) fIsi) (gNot (gSeq (gSeq (gVar 0) (gSeq (gC (.ty "tuple")) gNil)) fIsi)))) ⟨[.tr (.nd .tup .own ts), .tr (.nd .tup .own us), .no], []⟩ = some (.ok ⟨[.tr (.nd .tup .own ts), .tr (.nd .tup .own us), .no], [.tr (bT false)]⟩) := by
  simp! [hl, q, q', -FIsi, isi_tup, isi_tup_int, isi_tup_str, isi_tup_tuple, isi_tup_list]
theorem sc_t4 {ts us : List Tr} (q : cpL ts = true) (q' : cpL us = true) (hl : ts.length = us.length) : ((gAnd (gSeq (gSeq (gVar 1) (gSeq (gC (.ty "list")) gNil)) fIsi) (gNot (gSeq (gSeq (gVar 0) (gSeq (gC (.ty "list")) gNil)) fIsi)))) ⟨[.tr (.nd .tup .own ts), .tr (.nd .tup .own us), .no], []⟩ = some (.ok ⟨[.tr (.nd .tup .own ts), .tr (.nd .tup .own us), .no], [.tr (bT false)]⟩) := by
  simp! [hl, q, q', -FIsi, isi_tup, isi_tup_int, isi_tup_str, isi_tup_tuple, isi_tup_list]
theorem sc_t5 {ts us : List Tr} (q : cpL ts = true) (q' : cpL us = true) (hl : ts.length = us.length) : ((gOrB (gNot (gSeq (gSeq (gVar 0) (gSeq (gSeq (gSeq (gC (.ty "tuple")) (gSeq (gC (.ty "list")) gNil)) (fNew .tup 2)) gNil)) fIsi)) (gSeq (gSeq (gSeq (gSeq (gVar 0) gNil) fLen) (gSeq (gSeq (gVar 1) gNil) fLen)) fNe))) ⟨[.tr (.nd .tup .own ts), .tr (.nd .tup .own us), .no], []⟩ = some (.ok ⟨[.tr (.nd .tup .own ts), .tr (.nd .tup .own us), .no], [.tr (bT false)]⟩) := by
  simp! [hl, q, q', -FIsi, isi_tup, isi_tup_int, isi_tup_str, isi_tup_tuple, isi_tup_list]
theorem same_nd {R : GF} {k : Nk} {o o' : Ow} {ts us : List Tr} (h1 : topOk k o ts) (h2 : topOk k o' us) (hl : ts.length = us.length) (hu : us.length ≤ 100000)
    (h : ∀ (j : Nat) (x y : Tr), ts[j]? = some x → us[j]? = some y → cp (kid o x) = true ∧ cp (kid o' y) = true ∧ cp (kid .lnt (kid o x)) = true ∧ cp (kid .lnt (kid o' y)) = true ∧ R [kid .lnt (kid o x), kid .lnt (kid o' y)] = some (.rt (bT true) [.any, .any])) :
    runF md_law_same 3 (g_law_same R) [.nd k o ts, .nd k o' us] = some (.rt (bT true) [.any, .any]) := by
  have v1 := varE_top (i := 0) h1
  have v2 := varE_top (i := 0) h2
  obtain ⟨e', he⟩ := loopR_all (md := md_law_same) (k := 2) (n := us.length) (lo := 0) (Γ := [.tr (.nd k o ts), .tr (.nd k o' us), .no]) (s := []) (gs := b_law_same_1 R) (t := bT false) rfl (by simp) rfl rfl (fun _ => true) (fun i i0 i1 => by
    have a1 := ixN_len (n := us.length) (i := i) (by omega) (by omega)
    have hx : ts[i.toNat]? = some ts[i.toNat] := List.getElem?_eq_getElem (by omega)
    have hy : us[i.toNat]? = some us[i.toNat] := List.getElem?_eq_getElem (by omega)
    obtain ⟨c1, c2, d1, d2, r⟩ := h _ _ _ hx hy
    exact same_turn h1 h2 a1 hl hx hy c1 c2 d1 d2 r)
  rw [if_pos (by simp)] at he
  have hn : (us.length : Int) < 4611686018427387904 := by omega
  have hr : sForR1 (gSeq (gSeq (gSeq (gVar 1) gNil) fLen) gNil) (bind md_law_same 2) (b_law_same_1 R) ⟨[.tr (.nd k o ts), .tr (.nd k o' us), .no], []⟩ = some (.nx ⟨[.tr (.nd k o ts), .tr (.nd k o' us), e'], []⟩) := by
    rw [sForR1_e (n := us.length) (Γ := [.tr (.nd k o ts), .tr (.nd k o' us), .no]) (s := []) (by
      rcases h2 with ⟨rfl, rfl | rfl⟩ | ⟨rfl, rfl, q⟩
      · simp! []
      · simp! []
      · simp! [q]) (by omega) (by omega), Int.toNat_natCast, he]
    rfl
  have fin : ∀ m : Ms, g_law_same R ⟨[.tr (.nd k o ts), .tr (.nd k o' us), .no], []⟩ = some (.rt (bT true) ⟨[.tr (.nd k o ts), .tr (.nd k o' us), e'], []⟩) := fun _ => by
    rcases h1 with ⟨rfl, ho⟩ | ⟨rfl, rfl, q⟩
    · rcases h2 with ⟨_, ho'⟩ | ⟨z, _⟩
      · simp only [g_law_same, sSeq, sIf, sc_l0 ho ho' hl, sc_l1 ho ho' hl, sc_l2 ho ho' hl, sc_l3 ho ho' hl, sc_l4 ho ho' hl, sc_l5 ho ho' hl, sNil, hr, sRet, gC, Bool.false_eq_true, if_false]
      · cases z
    · rcases h2 with ⟨z, _⟩ | ⟨_, rfl, q'⟩
      · cases z
      · simp only [g_law_same, sSeq, sIf, sc_t0 q q' hl, sc_t1 q q' hl, sc_t2 q q' hl, sc_t3 q q' hl, sc_t4 q q' hl, sc_t5 q q' hl, sNil, hr, sRet, gC, Bool.false_eq_true, if_false]
  unfold runF
  rw [show (⟨[Tr.nd k o ts, .nd k o' us].map Ent.tr ++ List.replicate (3 - [Tr.nd k o ts, .nd k o' us].length) .no, []⟩ : Ms) = ⟨[.tr (.nd k o ts), .tr (.nd k o' us), .no], []⟩ from rfl, fin ⟨[], []⟩]
  rfl
theorem same_ok : ∀ (n : Nat) (t u : Tr), Sm n t u → GN_law_same n [t, u] = some (.rt (bT true) [.any, .any])
  | 0, _, _, h => h.elim
  | n + 1, t, u, h => by
    rcases h with ⟨v, rfl, rfl, hv⟩ | ⟨k, o, o', ts, us, h1, h2, rfl, rfl, hl, hu, hk⟩
    · cases v with
      | non => simp! [GN_law_same, g_law_same]
      | bl b => cases b <;> simp! [GN_law_same, g_law_same]
      | int i => simp! [GN_law_same, g_law_same]
      | str x => simp! [GN_law_same, g_law_same]
      | _ => exact hv.elim
    · exact same_nd h1 h2 hl hu fun j x y hx hy => by
        obtain ⟨c1, c2, d1, d2, r⟩ := hk j x y hx hy
        exact ⟨c1, c2, d1, d2, same_ok n _ _ r⟩
end
/-! texts, sign by sign; a number's text -/
section
variable {x : Str} {n : Int} {c : Nat} {neg : Bool}
abbrev cs (x : Str) : List Nat := x.cps.toList
abbrev sg (c : Nat) : Str := ⟨#[c]⟩
theorem cs_ext {x y : Str} (h : cs x = cs y) : x = y := TL.ext_tl h
theorem cs_len (x : Str) : x.length = (cs x).length := TL.len_tl x
theorem cs_nil : x = ("" : Str) ↔ cs x = [] := ⟨fun h => by rw [h]; rfl, fun h => cs_ext (h.trans rfl)⟩
theorem cs_zero : x = ("0" : Str) ↔ cs x = [48] := ⟨fun h => by rw [h]; rfl, fun h => cs_ext (h.trans rfl)⟩
theorem cs_eq {y : Str} : x = y ↔ cs x = cs y := ⟨fun h => by rw [h], cs_ext⟩
theorem signs_cs (x : Str) : signsT x = (cs x).map sg := rfl
theorem sg_zero : sg c = ("0" : Str) ↔ c = 48 := by
  rw [cs_zero]
  show [c] = [48] ↔ _
  simp
def dg (c : Nat) : Bool := decide (c ∈ ("0123456789" : Str).cps.toList)
theorem dg_iff : dg c = true ↔ 48 ≤ c ∧ c ≤ 57 := by
  unfold dg
  rw [decide_eq_true_eq, show ("0123456789" : Str).cps.toList = [48, 49, 50, 51, 52, 53, 54, 55, 56, 57] from rfl]
  simp
  omega
theorem dg_all {l : List Nat} (h : l.all dg = true) : NumText.AllDigits l := fun c hc => dg_iff.mp (List.all_eq_true.mp h c hc)
theorem insg_dg : FInSg neg (.a (.str (sg c))) (.a (.str "0123456789")) = some (.bl (if neg then !dg c else dg c)) := rfl
theorem ixs0 {r : List Nat} (h : cs x = c :: r) : FIxS (.a (.str x)) (.a (.int 0)) = some (.str (sg c)) := by
  have h1 : x.cps[0]? = some c := by
    rw [← Array.getElem?_toList]
    show (cs x)[0]? = _
    rw [h]
    rfl
  have h2 : 0 < x.length := by rw [cs_len, h]; simp
  unfold FIxS
  dsimp only
  rw [if_pos ⟨by decide, by decide, by omega⟩]
  rw [show (0 : Int).toNat = 0 from rfl, h1]
def numZ (l : List Nat) : Int := if l = [] ∨ 12 < l.length ∨ (l.head? = some 48 ∧ l ≠ [48]) ∨ l.all dg = false then -1 else (NumText.digitsVal l : Nat)
theorem rn_loop : ∀ (l : List Nat) (e : Ent), Nal e → ∃ e', Nal e' ∧ loopT (bind md_read_number 2) b_read_number_1 (l.map sg) ⟨[.tr (aS x), .tr (iT n), e, .no], []⟩ = if l.all dg = true then some (.nx ⟨[.tr (aS x), .tr (iT n), e', .no], []⟩) else some (.ex 1 [.tr (aS x), .tr (iT n), e', .no])
  | [], e, he => ⟨e, he, rfl⟩
  | c :: l, e, he => by
    obtain ⟨e', ne, ih⟩ := rn_loop l (.tr (aS (sg c))) nal_tr
    rw [List.map_cons, loopT]
    have hb : bind md_read_number 2 ⟨[.tr (aS x), .tr (iT n), e, .no], [.tr (.a (.str (sg c)))]⟩ = some ⟨[.tr (aS x), .tr (iT n), .tr (aS (sg c)), .no], []⟩ := by simp! [he.kr, he.ke, he.kj]
    dsimp only
    rw [hb]
    dsimp only
    cases q : dg c with
    | false =>
      have ht : b_read_number_1 ⟨[.tr (aS x), .tr (iT n), .tr (aS (sg c)), .no], []⟩ = some (.ex 1 [.tr (aS x), .tr (iT n), .tr (aS (sg c)), .no]) := by simp! [b_read_number_1, fNotInSg, insg_dg, q]
      exact ⟨.tr (aS (sg c)), nal_tr, by rw [ht]; simp [q]⟩
    | true =>
      have ht : b_read_number_1 ⟨[.tr (aS x), .tr (iT n), .tr (aS (sg c)), .no], []⟩ = some (.nx ⟨[.tr (aS x), .tr (iT n), .tr (aS (sg c)), .no], []⟩) := by simp! [b_read_number_1, fNotInSg, insg_dg, q]
      exact ⟨e', ne, by rw [ht]; dsimp only; rw [ih]; simp [q]⟩
theorem P_num (hx : x.length ≤ 1000) : G_read_number [aS x, iT n] = if numZ (cs x) = -1 ∨ n < numZ (cs x) then some (.ex 1 [.any, .any]) else some (.rt (iT (numZ (cs x))) [.any, .any]) := by
  have hz : x.length ≤ sizeLine := Nat.le_trans hx (by decide)
  by_cases c0 : x = ""
  · have h0 : numZ (cs x) = -1 := by rw [numZ, if_pos (.inl (cs_nil.mp c0))]
    rw [h0, if_pos (.inl rfl)]
    simp! [G_read_number, g_read_number, c0]
  have c0' := fun h => c0 (cs_nil.mpr h)
  by_cases c1 : 12 < x.length
  · have h0 : numZ (cs x) = -1 := by rw [numZ, if_pos (.inr (.inl (by rw [← cs_len]; exact c1)))]
    rw [h0, if_pos (.inl rfl)]
    have c1' : (12 : Int) < x.length := by omega
    simp! [G_read_number, g_read_number, c0, hz, c1']
  obtain ⟨c, r, hcr⟩ : ∃ c r, cs x = c :: r := List.exists_cons_of_ne_nil c0'
  obtain ⟨e', ne, hl⟩ := rn_loop (x := x) (n := n) (cs x) .no nal_no
  rw [← signs_cs] at hl
  have hc1 : (x.length : Int) ≤ 12 := by omega
  have hF0 := (sForT_e (ga := gVar 0) (bd := bind md_read_number 2) (gb := b_read_number_1) (m := ⟨[.tr (aS x), .tr (iT n), .no, .no], []⟩) (x := x) (g := [.tr (aS x), .tr (iT n), .no, .no]) (s := []) rfl)
  cases c2 : (cs x).all dg with
  | false =>
    have h0 : numZ (cs x) = -1 := by rw [numZ, if_pos (.inr (.inr (.inr c2)))]
    rw [h0, if_pos (.inl rfl)]
    rw [c2, if_neg (by decide)] at hl
    have hF := hF0.trans hl
    simp! [G_read_number, g_read_number, c0, hz, hc1, hF, ne.kr, ne.ke, ne.kj]
  | true =>
    rw [c2, if_pos rfl] at hl
    have hF := hF0.trans hl
    have hi := ixs0 hcr
    have hint : FIntS (.a (.str x)) = some (.int (NumText.digitsVal (cs x) : Nat)) := by
      unfold FIntS
      dsimp only
      rw [if_pos (by omega), intText_digits (dg_all c2) c0' (by omega)]
      rfl
    by_cases c3 : c = 48 ∧ r ≠ []
    · have h0 : numZ (cs x) = -1 := by
        have h7 : (cs x).head? = some 48 ∧ cs x ≠ [48] := by
          rw [hcr, c3.1]
          exact ⟨rfl, fun h => c3.2 (List.cons.inj h).2⟩
        rw [numZ, if_pos (.inr (.inr (.inl h7)))]
      rw [h0, if_pos (.inl rfl)]
      have hlen : (1 : Int) < x.length := by
        rw [cs_len, hcr]
        have : 0 < r.length := List.length_pos_iff.mpr c3.2
        simp
        omega
      have hs : sg c = ("0" : Str) := sg_zero.mpr c3.1
      simp! [G_read_number, g_read_number, c0, hz, hc1, hF, ne.kr, ne.ke, ne.kj, fIxS, hi, hs, hlen]
    · have h0 : numZ (cs x) = (NumText.digitsVal (cs x) : Nat) := by
        rw [numZ, if_neg ?_]
        rintro (h | h | h | h)
        · exact c0' h
        · rw [← cs_len] at h; exact c1 h
        · rw [hcr] at h
          exact c3 ⟨Option.some.inj h.1, fun q => h.2 (by rw [q, Option.some.inj h.1])⟩
        · rw [c2] at h; cases h
      have hcond : ¬ ((1 : Int) < x.length ∧ sg c = ("0" : Str)) := by
        rintro ⟨h1, h2⟩
        refine c3 ⟨sg_zero.mp h2, ?_⟩
        rintro rfl
        rw [cs_len, hcr] at h1
        simp at h1
      have hn0 : ¬ numZ (cs x) = -1 := by omega
      rw [← h0] at hint
      generalize numZ (cs x) = w at *
      by_cases c4 : n < w
      · rw [if_pos (.inr c4)]
        by_cases c5 : (1 : Int) < x.length
        · have hs : ¬ sg c = ("0" : Str) := fun h => hcond ⟨c5, h⟩
          simp! [G_read_number, g_read_number, c0, hz, hc1, hF, ne.kr, ne.ke, ne.kj, fIxS, hi, hs, c5, fIntS, hint, c4]
        · simp! [G_read_number, g_read_number, c0, hz, hc1, hF, ne.kr, ne.ke, ne.kj, fIxS, hi, c5, fIntS, hint, c4]
      · rw [if_neg (by rintro (h | h); exact hn0 h; exact c4 h)]
        by_cases c5 : (1 : Int) < x.length
        · have hs : ¬ sg c = ("0" : Str) := fun h => hcond ⟨c5, h⟩
          simp! [G_read_number, g_read_number, c0, hz, hc1, hF, ne.kr, ne.ke, ne.kj, fIxS, hi, hs, c5, fIntS, hint, c4]
        · simp! [G_read_number, g_read_number, c0, hz, hc1, hF, ne.kr, ne.ke, ne.kj, fIxS, hi, c5, fIntS, hint, c4]
end
/-! the law's number of a text -/
section
variable {x : Str} {n : Int} {c : Nat} {neg : Bool}
abbrev dgs : List Str := ["0", "1", "2", "3", "4", "5", "6", "7", "8", "9"]
theorem dg_cases (h : dg c = true) : c = 48 ∨ c = 49 ∨ c = 50 ∨ c = 51 ∨ c = 52 ∨ c = 53 ∨ c = 54 ∨ c = 55 ∨ c = 56 ∨ c = 57 := by
  have := dg_iff.mp h
  omega
theorem dg_mem : sg c ∈ dgs ↔ dg c = true := by
  constructor
  · intro h
    have h1 : cs (sg c) ∈ dgs.map cs := List.mem_map_of_mem h
    have h2 : [c] ∈ dgs.map cs := h1
    rw [show dgs.map cs = [[48], [49], [50], [51], [52], [53], [54], [55], [56], [57]] from rfl] at h2
    rw [dg_iff]
    simp at h2
    omega
  · intro h
    rcases dg_cases h with rfl | rfl | rfl | rfl | rfl | rfl | rfl | rfl | rfl | rfl <;> decide
theorem in_dgs : FIn neg (.a (.str (sg c))) (.nd .lst .own (dgs.map aS)) = some (.bl (if neg then !dg c else dg c)) := by
  rw [FIn_ls, show decide (sg c ∈ dgs) = dg c from by
    cases q : dg c with
    | true => exact decide_eq_true (dg_mem.mpr q)
    | false => exact decide_eq_false fun h => by rw [dg_mem.mp h] at q; cases q]
theorem find_dg (h : dg c = true) : Txt.find ("0123456789" : Str) (sg c) = ((c - 48 : Nat) : Int) := by
  rcases dg_cases h with rfl | rfl | rfl | rfl | rfl | rfl | rfl | rfl | rfl | rfl <;> decide +kernel
theorem mul10 (v : Int) : cMul v 10 = true := decide_eq_true (by unfold CMul; omega)
def dvl (a : Nat) (l : List Nat) : Nat := l.foldl (fun acc c => acc * 10 + (c - 48)) a
theorem ln_no {A : Int} (q : dg c = false) : b_law_number_1 ⟨[.tr (aS x), .tr (iT A), .tr (aS (sg c))], []⟩ = some (.rt (iT (-1)) ⟨[.tr (aS x), .tr (iT A), .tr (aS (sg c))], []⟩) := by
  have h1 := in_dgs (c := c) (neg := true)
  simp only [List.map_cons, List.map_nil] at h1
  simp! [b_law_number_1, -FIn_l, h1, q]
theorem ln_set {A d : Int} (h2 : Txt.find ("0123456789" : Str) (sg c) = d) : (sSet md_law_number 1 (gSeq (gSeq (gSeq (gSeq (gVar 1) (gC (.int 10))) fMul) (gSeq (gSeq (gC (.str "0123456789")) (gSeq chkS (gVar 2))) fFind)) fAdd)) ⟨[.tr (aS x), .tr (iT A), .tr (aS (sg c))], []⟩ = some (.nx ⟨[.tr (aS x), .tr (iT (A * 10 + d)), .tr (aS (sg c))], []⟩) := by
  have hm := fun {Γ s} => @fMul_int Γ s A 10 (mul10 _)
  simp! [fFind, FSS, h2, chkS, hm]
theorem ln_yes {A d : Int} (q : dg c = true) (h2 : Txt.find ("0123456789" : Str) (sg c) = d) : b_law_number_1 ⟨[.tr (aS x), .tr (iT A), .tr (aS (sg c))], []⟩ = some (.nx ⟨[.tr (aS x), .tr (iT (A * 10 + d)), .tr (aS (sg c))], []⟩) := by
  have h1 := in_dgs (c := c) (neg := true)
  simp only [List.map_cons, List.map_nil] at h1
  have h3 := ln_set (x := x) (A := A) h2
  have h4 : (sIf (gSeq (gSeq (gVar 2) (gSeq (gSeq (gC (.str "0")) (gSeq (gC (.str "1")) (gSeq (gC (.str "2")) (gSeq (gC (.str "3")) (gSeq (gC (.str "4")) (gSeq (gC (.str "5")) (gSeq (gC (.str "6")) (gSeq (gC (.str "7")) (gSeq (gC (.str "8")) (gSeq (gC (.str "9")) gNil)))))))))) (fNew .lst 10))) fNotInA) (sRet (gSeq (gC (.int 1)) fNeg)) sNil) ⟨[.tr (aS x), .tr (iT A), .tr (aS (sg c))], []⟩ = some (.nx ⟨[.tr (aS x), .tr (iT A), .tr (aS (sg c))], []⟩) := by simp! [-FIn_l, h1, q]
  unfold b_law_number_1
  rw [sSeq_e, h4, bS_nx]
  exact h3
theorem ln_turn {a : Nat} {e : Ent} (he : Nal e) : b_law_number_1 ⟨[.tr (aS x), .tr (iT a), .tr (aS (sg c))], []⟩ = if dg c = true then some (.nx ⟨[.tr (aS x), .tr (iT ((a * 10 + (c - 48) : Nat) : Int)), .tr (aS (sg c))], []⟩) else some (.rt (iT (-1)) ⟨[.tr (aS x), .tr (iT a), .tr (aS (sg c))], []⟩) := by
  cases q : dg c with
  | false => rw [if_neg (by decide), ln_no q]
  | true => rw [if_pos rfl, ln_yes q (find_dg q), Int.natCast_add, Int.natCast_mul]; rfl
theorem ln_loop : ∀ (l : List Nat) (a : Nat) (e : Ent), Nal e → ∃ e' a', Nal e' ∧ loopT (bind md_law_number 2) b_law_number_1 (l.map sg) ⟨[.tr (aS x), .tr (iT a), e], []⟩ = if l.all dg = true then some (.nx ⟨[.tr (aS x), .tr (iT (dvl a l : Nat)), e'], []⟩) else some (.rt (iT (-1)) ⟨[.tr (aS x), .tr (iT a'), e'], []⟩)
  | [], a, e, he => ⟨e, a, he, rfl⟩
  | c :: l, a, e, he => by
    obtain ⟨e', a', ne, ih⟩ := ln_loop l (a * 10 + (c - 48)) (.tr (aS (sg c))) nal_tr
    rw [List.map_cons, loopT]
    have hb : bind md_law_number 2 ⟨[.tr (aS x), .tr (iT a), e], [.tr (.a (.str (sg c)))]⟩ = some ⟨[.tr (aS x), .tr (iT a), .tr (aS (sg c))], []⟩ := by simp! [he.kr, he.ke, he.kj]
    dsimp only
    rw [hb]
    dsimp only
    rw [ln_turn he]
    cases q : dg c with
    | false => exact ⟨.tr (aS (sg c)), a, nal_tr, by simp [q]⟩
    | true => exact ⟨e', a', ne, by rw [if_pos rfl]; dsimp only; rw [ih]; simp only [List.all_cons, q, Bool.true_and]; rfl⟩
theorem L_number (hx : x.length ≤ 1000) : G_law_number [aS x] = some (.rt (iT (numZ (cs x))) [.any]) := by
  have hz : x.length ≤ sizeLine := Nat.le_trans hx (by decide)
  by_cases c0 : x = ""
  · have h0 : numZ (cs x) = -1 := by rw [numZ, if_pos (.inl (cs_nil.mp c0))]
    rw [h0]
    simp! [G_law_number, g_law_number, c0]
  have c0' := fun h => c0 (cs_nil.mpr h)
  by_cases c1 : 12 < x.length
  · have h0 : numZ (cs x) = -1 := by rw [numZ, if_pos (.inr (.inl (by rw [← cs_len]; exact c1)))]
    rw [h0]
    have c1' : (12 : Int) < x.length := by omega
    simp! [G_law_number, g_law_number, c0, hz, c1']
  obtain ⟨c, r, hcr⟩ : ∃ c r, cs x = c :: r := List.exists_cons_of_ne_nil c0'
  have hi := ixs0 hcr
  have hc1 : (x.length : Int) ≤ 12 := by omega
  by_cases c3 : c = 48 ∧ r ≠ []
  · have h7 : (cs x).head? = some 48 ∧ cs x ≠ [48] := by
      rw [hcr, c3.1]
      exact ⟨rfl, fun h => c3.2 (List.cons.inj h).2⟩
    have h0 : numZ (cs x) = -1 := by rw [numZ, if_pos (.inr (.inr (.inl h7)))]
    have hs : sg c = ("0" : Str) := sg_zero.mpr c3.1
    have hx0 : ¬ x = ("0" : Str) := fun h => h7.2 (cs_zero.mp h)
    rw [h0]
    simp! [G_law_number, g_law_number, c0, hz, hc1, fIxS, hi, hs, hx0]
  have hcond : ¬ (sg c = ("0" : Str) ∧ ¬ x = ("0" : Str)) := by
    rintro ⟨h1, h2⟩
    refine c3 ⟨sg_zero.mp h1, ?_⟩
    rintro rfl
    exact h2 (cs_zero.mpr (by rw [hcr, sg_zero.mp h1]))
  obtain ⟨e', a', ne, hl⟩ := ln_loop (x := x) (cs x) 0 .no nal_no
  rw [← signs_cs] at hl
  have hF0 := (sForT_e (ga := gVar 0) (bd := bind md_law_number 2) (gb := b_law_number_1) (m := ⟨[.tr (aS x), .tr (iT 0), .no], []⟩) (x := x) (g := [.tr (aS x), .tr (iT 0), .no]) (s := []) rfl)
  have hF := hF0.trans hl
  have h0 : numZ (cs x) = if (cs x).all dg = true then ((dvl 0 (cs x) : Nat) : Int) else -1 := by
    cases c2 : (cs x).all dg with
    | false => rw [numZ, if_pos (.inr (.inr (.inr c2)))]; rfl
    | true =>
      rw [numZ, if_neg ?_]
      · rfl
      rintro (h | h | h | h)
      · exact c0' h
      · rw [← cs_len] at h; exact c1 h
      · rw [hcr] at h
        exact c3 ⟨Option.some.inj h.1, fun q => h.2 (by rw [q, Option.some.inj h.1])⟩
      · rw [c2] at h; cases h
  rw [h0]
  by_cases c5 : sg c = ("0" : Str)
  · have hx0 : x = ("0" : Str) := Classical.byContradiction fun h => hcond ⟨c5, h⟩
    cases c2 : (cs x).all dg with
    | false =>
      rw [c2, if_neg (by decide)] at hF
      subst hx0
      exact absurd c2 (by decide)
    | true =>
      rw [c2, if_pos rfl] at hF
      have hi2 : FIxS (.a (.str x)) (.a (.int 0)) = some (.str ("0" : Str)) := by rw [hi, c5]
      have hx1 : decide (x = ("0" : Str)) = true := decide_eq_true hx0
      clear hx0
      generalize dvl 0 (cs x) = w at *
      simp! [G_law_number, g_law_number, c0, hz, hc1, fIxS, hi2, hF, ne.kr, ne.ke, ne.kj, hx1]
  · cases c2 : (cs x).all dg with
    | false =>
      rw [c2, if_neg (by decide)] at hF
      simp! [G_law_number, g_law_number, c0, hz, hc1, fIxS, hi, c5, hF, ne.kr, ne.ke, ne.kj]
    | true =>
      rw [c2, if_pos rfl] at hF
      simp! [G_law_number, g_law_number, c0, hz, hc1, fIxS, hi, c5, hF, ne.kr, ne.ke, ne.kj]
end
/-! the words of a line -/
section
variable {x : Str} {n : Int} {c : Nat} {neg : Bool}
abbrev tx (l : List Nat) : Str := ⟨l.toArray⟩
def spw : List Nat → List Nat → List Str
  | acc, [] => [tx acc]
  | acc, c :: r => if c = 32 then tx acc :: spw [] r else spw (acc ++ [c]) r
theorem spl_spw : ∀ (l acc : List Nat), (TL.spl [32] 0 acc l).map tx = spw acc l
  | [], acc => by rw [TL.spl_nil]; rfl
  | c :: r, acc => by
    rw [spw]
    by_cases q : c = 32
    · subst q
      rw [if_pos rfl, TL.spl_hit (by rfl), List.map_cons, ← spl_spw r []]
      rfl
    · rw [if_neg q, TL.spl_miss (TL.pre_of_head _ _ q), spl_spw r _]
abbrev wL (x : Str) : List Str := spw [] (cs x)
theorem split_wL (x : Str) : Txt.split x (" " : Str) = wL x := by
  have h := SX.split_S (a := cs x) (b := [32]) (by simp) (by decide)
  rw [SX.S_tl] at h
  rw [show (" " : Str) = tx [32] from rfl]
  exact h.trans (spl_spw _ _)
theorem spw_len : ∀ (l acc : List Nat), (spw acc l).length ≤ l.length + 1
  | [], acc => by simp [spw]
  | c :: r, acc => by
    rw [spw]
    split
    · have := spw_len r []
      simp
      omega
    · have := spw_len r (acc ++ [c])
      simp
      omega
theorem spw_sz : ∀ (l acc : List Nat), ∀ w ∈ spw acc l, w.length ≤ acc.length + l.length
  | [], acc, w, h => by
    rw [spw, List.mem_singleton] at h
    subst h
    rw [cs_len]
    simp
  | c :: r, acc, w, h => by
    rw [spw] at h
    split at h
    · rcases List.mem_cons.mp h with rfl | h
      · rw [cs_len]
        simp
      · have := spw_sz r [] w h
        simp at this ⊢
        omega
    · have := spw_sz r _ w h
      simp at this ⊢
      omega
abbrev lsT (o : Ow) (L : List Str) : Tr := .nd .lst o (L.map aS)
theorem sw_turn {L : List Str} {w : Str} {s : List Ent} (h : w ≠ "") : b_split_words_1 ⟨[.tr (aS x), .tr (lsT .own L), .tr (aS w)], s⟩ = some (.nx ⟨[.tr (aS x), .tr (lsT .own L), .tr (aS w)], s⟩) := by
  simp! [b_split_words_1, h]
theorem sw_bad {L : List Str} {s : List Ent} : b_split_words_1 ⟨[.tr (aS x), .tr (lsT .own L), .tr (aS "")], s⟩ = some (.ex 1 [.tr (aS x), .tr (lsT .own L), .tr (aS "")]) := by
  simp! [b_split_words_1]
theorem sw_loop (L : List Str) : ((("" : Str) ∉ L) → ∃ e2, Nal e2 ∧ loopE .lst (bind md_split_words 2) b_split_words_1 L.length 0 ⟨[.tr (aS x), .tr (lsT .own L), .no], [.al [1]]⟩ = some (.nx ⟨[.tr (aS x), .tr (lsT .own L), e2], []⟩)) ∧
    ((("" : Str) ∈ L) → loopE .lst (bind md_split_words 2) b_split_words_1 L.length 0 ⟨[.tr (aS x), .tr (lsT .own L), .no], [.al [1]]⟩ = some (.ex 1 [.tr (aS x), .tr (lsT .own L), .tr (aS "")])) := by
  obtain ⟨oo, h1, h2⟩ := loopE_go (k := .lst) (bd := bind md_split_words 2) (gs := b_split_words_1) (n := L.length)
    (I := fun j m => (("" : Str) ∉ L.take j) ∧ ∃ e2, Nal e2 ∧ m = ⟨[.tr (aS x), .tr (lsT .own L), e2], [.al [1]]⟩)
    (Q := fun oo => ((("" : Str) ∉ L) ∧ ∃ e2, Nal e2 ∧ oo = .nx ⟨[.tr (aS x), .tr (lsT .own L), e2], []⟩) ∨ ((("" : Str) ∈ L) ∧ oo = .ex 1 [.tr (aS x), .tr (lsT .own L), .tr (aS "")]))
    (by
      rintro m ⟨hR, e2, n2, rfl⟩
      rw [List.take_length] at hR
      exact ⟨.al [1], [], .own, L.map aS, rfl, rfl, by simp, .inl ⟨hR, e2, n2, rfl⟩⟩)
    (by
      rintro j m hj ⟨hR, e2, n2, rfl⟩
      have hk : kidX (.al [1]) .lst .own (L.map aS) j = some (.tr (aS L[j])) := by
        unfold kidX
        simp only [List.getElem?_map, List.getElem?_eq_getElem hj, Option.map_some]
        rfl
      have hb : bind md_split_words 2 ⟨[.tr (aS x), .tr (lsT .own L), e2], .tr (aS L[j]) :: .al [1] :: []⟩ = some ⟨[.tr (aS x), .tr (lsT .own L), .tr (aS L[j])], [.al [1]]⟩ := by
        simp! [n2.kr]
      by_cases z : L[j] = ""
      · have hm : ("" : Str) ∈ L := z ▸ List.getElem_mem hj
        rw [z] at hk hb
        exact ⟨.al [1], [], .own, L.map aS, _, _, .ex 1 [.tr (aS x), .tr (lsT .own L), .tr (aS "")], rfl, rfl, rfl, by simp, hk, hb, sw_bad, .inr ⟨hm, rfl⟩⟩
      · refine ⟨.al [1], [], .own, L.map aS, _, _, .nx ⟨[.tr (aS x), .tr (lsT .own L), .tr (aS L[j])], [.al [1]]⟩, rfl, rfl, rfl, by simp, hk, hb, sw_turn z, ?_, _, nal_tr, rfl⟩
        intro hx
        rw [List.take_succ_eq_append_getElem hj] at hx
        rcases List.mem_append.mp hx with hx | hx
        · exact hR hx
        · exact z (List.mem_singleton.mp hx).symm)
    L.length 0 ⟨[.tr (aS x), .tr (lsT .own L), .no], [.al [1]]⟩ (by omega) ⟨by simp, .no, nal_no, rfl⟩
  rcases h2 with ⟨h2, e2, n2, rfl⟩ | ⟨h2, rfl⟩
  · exact ⟨fun _ => ⟨e2, n2, h1⟩, fun h => absurd h h2⟩
  · exact ⟨fun h => absurd h2 h, fun _ => h1⟩
def wdL (x : Str) : List Str := if x = "" then [] else wL x
def badL (x : Str) : Bool := if x = "" then false else decide (("" : Str) ∈ wL x)
theorem P_split (hx : x.length ≤ 1000) : G_split_words [aS x] = if badL x = true then some (.ex 1 [.any]) else some (.rt (lsT .own (wdL x)) [.any]) := by
  unfold badL wdL
  by_cases c0 : x = ""
  · rw [if_pos c0, if_pos c0, if_neg (by decide)]
    simp! [G_split_words, g_split_words, c0]
  rw [if_neg c0, if_neg c0]
  have hspl : fSplit ⟨[.tr (aS x), .no, .no], [.tr (aS " "), .tr (aS x)]⟩ = some (.ok ⟨[.tr (aS x), .no, .no], [.tr (lsT .own (wL x))]⟩) := by
    unfold fSplit
    simp only
    rw [if_pos ⟨by decide +kernel, by omega⟩, split_wL]
  have hk := kidL_str (o := .frz) (wL x)
  by_cases z : ("" : Str) ∈ wL x
  · rw [decide_eq_true z, if_pos rfl]
    have h1 := (sw_loop (x := x) (wL x)).2 z
    generalize wL x = L at *
    simp! [G_split_words, g_split_words, c0, chkS, hspl, sFor, h1]
  · rw [decide_eq_false z, if_neg (by decide)]
    obtain ⟨e2, n2, h1⟩ := (sw_loop (x := x) (wL x)).1 z
    generalize wL x = L at *
    simp! [G_split_words, g_split_words, c0, chkS, hspl, sFor, h1, n2.kr, n2.ke, cpL_str, escL_str, hk]
end
/-! the law's words of a line -/
section
variable {x : Str} {n : Int} {c : Nat} {neg : Bool}
theorem size3 {n : Nat} (h : n ≤ 5000) : n < sizeLine := by
  have : (5000 : Nat) < sizeLine := by decide
  omega
theorem FS_tx {a b : List Nat} (h : a.length + b.length ≤ 5000) : FS (.a (.str (tx a))) (.a (.str (tx b))) = some (.str (tx (a ++ b))) := by
  unfold FS
  have h1 : (tx a).length = a.length := SX.S_len a
  have h2 : (tx b).length = b.length := SX.S_len b
  dsimp only
  rw [if_pos (by have := size3 h; omega), SX.S_cat]
theorem sg_sp : sg c = (" " : Str) ↔ c = 32 := by
  rw [cs_eq]
  show [c] = [32] ↔ _
  simp
theorem lw_sp {out : List Str} {acc : List Nat} (ho : out.length ≤ 3000) : b_law_words_1 ⟨[.tr (aS x), .tr (lsT .own out), .tr (aS (tx acc)), .tr (aS (sg 32))], []⟩ = some (.nx ⟨[.tr (aS x), .tr (lsT .own (out ++ [tx acc])), .tr (aS (tx [])), .tr (aS (sg 32))], []⟩) := by
  have h1 : sg 32 = (" " : Str) := sg_sp.mpr rfl
  have h2 : (tx [] : Str) = "" := rfl
  have h3 : out.length < sizeLine := size3 (by omega)
  rw [h1, h2]
  generalize tx acc = w
  rw [show lsT .own (out ++ [w]) = .nd .lst .own (out.map aS ++ [aS w]) from by rw [lsT, List.map_append]; rfl]
  simp! [b_law_words_1, h3]
theorem lw_no {out : List Str} {acc : List Nat} (hc : c ≠ 32) (ha : acc.length ≤ 3000) : b_law_words_1 ⟨[.tr (aS x), .tr (lsT .own out), .tr (aS (tx acc)), .tr (aS (sg c))], []⟩ = some (.nx ⟨[.tr (aS x), .tr (lsT .own out), .tr (aS (tx (acc ++ [c]))), .tr (aS (sg c))], []⟩) := by
  have h1 : ¬ sg c = (" " : Str) := fun h => hc (sg_sp.mp h)
  have h2 : FS (.a (.str (tx acc))) (.a (.str (sg c))) = some (.str (tx (acc ++ [c]))) := FS_tx (a := acc) (b := [c]) (by simp; omega)
  generalize tx (acc ++ [c]) = w2 at *
  generalize tx acc = w at *
  generalize sg c = d at *
  simp! [b_law_words_1, -FS, h2, h1, FI]
theorem lw_loop : ∀ (l acc : List Nat) (out : List Str) (e : Ent), Nal e → acc.length + l.length ≤ 2000 → out.length + l.length ≤ 2000 → ∃ pr last e', Nal e' ∧ spw acc l = pr ++ [tx last] ∧ loopT (bind md_law_words 3) b_law_words_1 (l.map sg) ⟨[.tr (aS x), .tr (lsT .own out), .tr (aS (tx acc)), e], []⟩ = some (.nx ⟨[.tr (aS x), .tr (lsT .own (out ++ pr)), .tr (aS (tx last)), e'], []⟩)
  | [], acc, out, e, he, _, _ => ⟨[], acc, e, he, rfl, by rw [List.append_nil]; rfl⟩
  | c :: l, acc, out, e, he, h1, h2 => by
    have hb : bind md_law_words 3 ⟨[.tr (aS x), .tr (lsT .own out), .tr (aS (tx acc)), e], [.tr (.a (.str (sg c)))]⟩ = some ⟨[.tr (aS x), .tr (lsT .own out), .tr (aS (tx acc)), .tr (aS (sg c))], []⟩ := by simp! [he.kr, he.ke, he.kj]
    rw [List.length_cons] at h1 h2
    by_cases q : c = 32
    · subst q
      obtain ⟨pr, last, e', ne, e1, ih⟩ := lw_loop l [] (out ++ [tx acc]) (.tr (aS (sg 32))) nal_tr (by simp; omega) (by simp; omega)
      refine ⟨tx acc :: pr, last, e', ne, by rw [spw, if_pos rfl, e1]; rfl, ?_⟩
      rw [List.map_cons, loopT]
      dsimp only
      rw [hb]
      dsimp only
      rw [lw_sp (by omega)]
      dsimp only
      rw [ih, List.append_assoc]
      rfl
    · obtain ⟨pr, last, e', ne, e1, ih⟩ := lw_loop l (acc ++ [c]) out (.tr (aS (sg c))) nal_tr (by simp; omega) (by omega)
      refine ⟨pr, last, e', ne, by rw [spw, if_neg q, e1], ?_⟩
      rw [List.map_cons, loopT]
      dsimp only
      rw [hb]
      dsimp only
      rw [lw_no q (by omega)]
      dsimp only
      rw [ih]
abbrev refT (e : Str) : Tr := .nd .tup .own [aS "refused", .nd .lst .own [aS e]]
theorem L_words (hx : x.length ≤ 1000) : G_law_words [aS x] = if badL x = true then some (.rt (refT "BadText") [.any]) else some (.rt (lsT .own (wdL x)) [.any]) := by
  obtain ⟨pr, last, e', ne, e1, hl⟩ := lw_loop (x := x) (cs x) [] [] .no nal_no (by rw [← cs_len]; simp; omega) (by rw [← cs_len]; simp; omega)
  rw [← signs_cs] at hl
  have hF := (sForT_e (ga := gVar 0) (bd := bind md_law_words 3) (gb := b_law_words_1) (m := ⟨[.tr (aS x), .tr (.nd .lst .own []), .tr (aS ""), .no], []⟩) (x := x) (g := [.tr (aS x), .tr (.nd .lst .own []), .tr (aS ""), .no]) (s := []) rfl).trans hl
  have hp : pr.length ≤ 1500 := by
    have h1 := spw_len (cs x) []
    rw [e1, ← cs_len] at h1
    simp at h1
    omega
  have h3 : pr.length < sizeLine := size3 (by omega)
  rw [List.nil_append] at hF
  have hin := FIn_ls (neg := false) (o := .own) ("" : Str) (pr ++ [tx last])
  unfold badL wdL
  by_cases c0 : x = ""
  · rw [if_pos c0, if_pos c0, if_neg (by decide)]
    have c0' : decide (x = ("" : Str)) = true := decide_eq_true c0
    clear c0
    simp! [G_law_words, g_law_words, c0', hF, h3, ne.kr, ne.ke, ne.kj]
  · rw [if_neg c0, if_neg c0, wL, e1]
    rw [List.map_append, List.map_cons, List.map_nil] at hin
    rw [show lsT .own (pr ++ [tx last]) = .nd .lst .own (pr.map aS ++ [aS (tx last)]) from by rw [lsT, List.map_append]; rfl]
    have hk := kidL_str (o := .frz) pr
    by_cases z : ("" : Str) ∈ pr ++ [tx last]
    · rw [decide_eq_true z] at hin ⊢
      rw [if_pos rfl]
      generalize tx last = w at *
      simp! [G_law_words, g_law_words, c0, hF, h3, ne.kr, ne.ke, ne.kj, hin, -FIn_l]
    · rw [decide_eq_false z] at hin ⊢
      rw [if_neg (by decide)]
      generalize tx last = w at *
      simp! [G_law_words, g_law_words, c0, hF, h3, ne.kr, ne.ke, ne.kj, hin, -FIn_l, escL_str]
end
/-! what is told is what is due -/
def SmX (n : Nat) (t : Tr) : Prop := (∀ o, kid o t = t) ∧ cp t = true ∧ Sm n t t
section
variable {n : Nat} {o o' : Ow} {ts us : List Tr}
theorem smx_a {v : V} (h : okV v) : SmX (n + 1) (.a v) := ⟨fun _ => rfl, rfl, .inl ⟨v, rfl, rfl, h⟩⟩
theorem smx_cpL : ∀ {ts : List Tr}, (∀ x ∈ ts, SmX n x) → cpL ts = true
  | [], _ => rfl
  | t :: ts, h => by
    simp only [cpL, Bool.and_eq_true]
    exact ⟨(h t List.mem_cons_self).2.1, smx_cpL fun x hx => h x (List.mem_cons_of_mem _ hx)⟩
theorem kl_all {ts : List Tr} {o : Ow} (h : ts.map (kid o) = ts) : kidL o ts = ts := by
  have e : ∀ us : List Tr, kidL o us = us.map (kid o) := by
    intro us
    induction us with
    | nil => rfl
    | cons u us ih => simp only [kidL, List.map_cons, ih]
  rw [e, h]
theorem smx_kidL (h : ∀ x ∈ ts, SmX n x) (o : Ow) : ts.map (kid o) = ts := by
  have e : ts.map (kid o) = ts.map id := List.map_congr_left fun x hx => (h x hx).1 o
  rw [e, List.map_id]
theorem smx_all (h : ∀ x ∈ ts, SmX n x) (j : Nat) (x y : Tr) (hx : ts[j]? = some x) (hy : ts[j]? = some y) : cp (kid o x) = true ∧ cp (kid o' y) = true ∧ cp (kid .lnt (kid o x)) = true ∧ cp (kid .lnt (kid o' y)) = true ∧ Sm n (kid .lnt (kid o x)) (kid .lnt (kid o' y)) := by
  rw [hx] at hy
  cases hy
  obtain ⟨k, c, m⟩ := h x (List.mem_of_getElem? hx)
  rw [k, k, k]
  exact ⟨c, c, c, c, m⟩
theorem smx_tup (hl : ts.length ≤ 100000) (h : ∀ x ∈ ts, SmX n x) : SmX (n + 1) (.nd .tup .own ts) := by
  refine ⟨fun o => ?_, smx_cpL h, .inr ⟨.tup, .own, .own, ts, ts, .inr ⟨rfl, rfl, smx_cpL h⟩, .inr ⟨rfl, rfl, smx_cpL h⟩, rfl, rfl, rfl, hl, fun j x y hx hy => smx_all h j x y hx hy⟩⟩
  simp only [kid]
  rw [kl_all (smx_kidL h _)]
theorem sm_list (ho : o = .lnt ∨ o = .frz) (ho' : o' = .lnt ∨ o' = .frz) (hl : ts.length ≤ 100000) (h : ∀ x ∈ ts, SmX n x) : Sm (n + 1) (.nd .lst o ts) (.nd .lst o' ts) :=
  .inr ⟨.lst, o, o', ts, ts, .inl ⟨rfl, ho⟩, .inl ⟨rfl, ho'⟩, rfl, rfl, rfl, hl, fun j x y hx hy => smx_all h j x y hx hy⟩
theorem same_of {t u : Tr} (h : Sm 8 t u) : G_law_same [t, u] = some (.rt (bT true) [.any, .any]) := same_ok 8 t u h
theorem same_a {v : V} (h : okV v) : G_law_same [.a v, .a v] = some (.rt (bT true) [.any, .any]) := same_of (.inl ⟨v, rfl, rfl, h⟩)
theorem same_ref (s : Str) : G_law_same [.nd .tup .own [.a (.str "refused"), .nd .lst .lnt [.a (.str s)]], .nd .tup .own [.a (.str "refused"), .nd .lst .lnt [.a (.str s)]]] = some (.rt (bT true) [.any, .any]) := by
  refine same_of (.inr ⟨.tup, .own, .own, _, _, .inr ⟨rfl, rfl, rfl⟩, .inr ⟨rfl, rfl, rfl⟩, rfl, rfl, rfl, by simp, fun j x y hx hy => ?_⟩)
  match j with
  | 0 =>
    cases hx; cases hy
    exact ⟨rfl, rfl, rfl, rfl, .inl ⟨_, rfl, rfl, trivial⟩⟩
  | 1 =>
    cases hx; cases hy
    exact ⟨rfl, rfl, rfl, rfl, sm_list (.inl rfl) (.inl rfl) (by simp) fun x hx => by
      rw [List.mem_singleton.mp hx]
      exact smx_a trivial⟩
  | j + 2 => simp at hx
theorem same_strs {L : List Str} (ho : o = .lnt ∨ o = .frz) (ho' : o' = .lnt ∨ o' = .frz) (hl : L.length ≤ 100000) : G_law_same [lsT o L, lsT o' L] = some (.rt (bT true) [.any, .any]) :=
  same_of (sm_list ho ho' (by rw [List.length_map]; exact hl) fun x hx => by
    obtain ⟨y, _, rfl⟩ := List.mem_map.mp hx
    exact smx_a trivial)
theorem same_ints {L : List Int} (ho : o = .lnt ∨ o = .frz) (ho' : o' = .lnt ∨ o' = .frz) (hl : L.length ≤ 100000) : G_law_same [.nd .lst o (L.map iT), .nd .lst o' (L.map iT)] = some (.rt (bT true) [.any, .any]) :=
  same_of (sm_list ho ho' (by rw [List.length_map]; exact hl) fun x hx => by
    obtain ⟨y, _, rfl⟩ := List.mem_map.mp hx
    exact smx_a trivial)
theorem same_i (i : Int) : G_law_same [iT i, iT i] = some (.rt (bT true) [.any, .any]) := same_a trivial
end
section
variable {x : Str} {n : Int}
theorem E_text {a : Addr} : G_law_error__BadText a [.a (.ref a)] = some (.rt (refT "BadText") [.any]) := by
  have s0 : 0 < sizeLine := by decide
  simp! [s0, G_law_error__BadText, g_law_error__BadText, gIsE, sForL, loopE, kidX, b_law_error__BadText_1, ready]
theorem E_value {a : Addr} : G_law_error__BadValue a [.a (.ref a)] = some (.rt (refT "BadValue") [.any]) := by
  have s0 : 0 < sizeLine := by decide
  simp! [s0, G_law_error__BadValue, g_law_error__BadValue, gIsE, sForL, loopE, kidX, b_law_error__BadValue_1, ready]
theorem L_split (hx : x.length ≤ 1000) : G_law_split [aS x] = if badL x = true then some (.rt (refT "BadText") [.any]) else some (.rt (lsT .own (wdL x)) [.any]) := by
  have hp := P_split hx
  have er := fun a => @E_text a
  unfold G_law_split g_law_split
  generalize G_split_words = gi at *
  cases c : badL x with
  | true =>
    rw [c, if_pos rfl] at hp
    rw [if_pos rfl]
    simp! []
    rw [sTry_ex (C := 1) (g' := [.tr (aS x), .no]) (o := .rt (refT "BadText") ⟨[.tr (aS x), .no], []⟩) rfl (by simp! [hp]) rfl (fun a => by simp! [suR, suC, er a])]
    simp! []
  | false =>
    rw [c, if_neg (by decide)] at hp
    rw [if_neg (by decide)]
    generalize wdL x = L at *
    simp! []
    rw [sTry_no (o := .rt (lsT .own L) ⟨[.tr (aS x), .no], []⟩) rfl (by simp! [hp]) (fun C g z => by cases z)]
    simp! [escL_str]
def bdZ (x : Str) (n : Int) : Prop := numZ (cs x) = -1 ∨ n < numZ (cs x)
theorem L_rd_bad (hx : x.length ≤ 1000) (h : bdZ x n) : G_law_read_number [aS x, iT n] = some (.rt (refT "BadText") [.any, .any]) := by
  have hp := P_num (n := n) hx
  have er := fun a => @E_text a
  rw [if_pos (show numZ (cs x) = -1 ∨ n < numZ (cs x) from h)] at hp
  unfold G_law_read_number g_law_read_number
  generalize G_read_number = gi at *
  simp! []
  rw [sTry_ex (C := 1) (g' := [.tr (aS x), .tr (iT n), .no]) (o := .rt (refT "BadText") ⟨[.tr (aS x), .tr (iT n), .no], []⟩) rfl (by simp! [hp]) rfl (fun a => by simp! [suR, suC, er a])]
  simp! []
theorem L_rd_ok (hx : x.length ≤ 1000) (h : ¬ bdZ x n) : G_law_read_number [aS x, iT n] = some (.rt (iT (numZ (cs x))) [.any, .any]) := by
  have hp := P_num (n := n) hx
  rw [if_neg (show ¬ (numZ (cs x) = -1 ∨ n < numZ (cs x)) from h)] at hp
  unfold G_law_read_number g_law_read_number
  generalize G_read_number = gi at *
  generalize numZ (cs x) = w at *
  simp! []
  rw [sTry_no (o := .rt (iT w) ⟨[.tr (aS x), .tr (iT n), .no], []⟩) rfl (by simp! [hp]) (fun C g z => by cases z)]
  simp! []
end
/-! plans: made, and good ones -/
section
theorem loopC_nx {bd : Ms → Option Ms} {gs : GS} {lo st : Int} {n : Nat} (I : Nat → Ms → Prop) (turn : ∀ i m, i < n → I i m → ∃ m1 m2, bd ⟨m.g, .tr (.a (.int (lo + (i : Nat) * st))) :: m.s⟩ = some m1 ∧ gs m1 = some (.nx m2) ∧ I (i + 1) m2) : ∀ r i m, i + r = n → I i m → ∃ m', loopC bd gs lo st r i m = some (.nx m') ∧ I n m' := by
  intro r
  induction r with
  | zero =>
    intro i m e h
    exact ⟨m, rfl, by rw [← e]; exact h⟩
  | succ r ih =>
    intro i m e h
    obtain ⟨m1, m2, h1, h2, h3⟩ := turn i m (by omega) h
    obtain ⟨m', h4, h5⟩ := ih (i + 1) m2 (by omega) h3
    refine ⟨m', ?_, h5⟩
    unfold loopC
    rw [h1]
    simp only [h2]
    exact h4
variable {b m p : Int}
abbrev mpZ (b : Int) : Int := (b + 7) / 8
def goodP (b m p : Int) : Prop := 8 ≤ b ∧ b ≤ 64 ∧ 2 ≤ m ∧ m ≤ 16 ∧ b < p ∧ p ≤ 200 ∧ 2 + mpZ b + m + 2 ≤ b
instance : Decidable (goodP b m p) := by unfold goodP; infer_instance
theorem rs8 (h : 8 ≤ b) (h2 : b ≤ 64) : Builtin.Range.rangeSize 8 b 8 = mpZ b - 1 ∧ Builtin.Range.small 8 b 8 = true := by
  have key : ∀ k : Fin 57, Builtin.Range.rangeSize 8 (8 + (k : Nat) : Int) 8 = mpZ (8 + (k : Nat) : Int) - 1 ∧ Builtin.Range.small 8 (8 + (k : Nat) : Int) 8 = true := by decide +kernel
  have := key ⟨(b - 8).toNat, by omega⟩
  rw [show ((8 : Int) + ((⟨(b - 8).toNat, by omega⟩ : Fin 57) : Nat) : Int) = b from by dsimp only; omega] at this
  exact this
theorem gp_loop (n : Nat) : ∃ e', Nal e' ∧ loopC (bind md_law_good_plan 4) b_law_good_plan_1 8 8 n 0 ⟨[.tr (iT b), .tr (iT m), .tr (iT p), .tr (iT 1), .no], []⟩ = some (.nx ⟨[.tr (iT b), .tr (iT m), .tr (iT p), .tr (iT (1 + (n : Int))), e'], []⟩) := by
  obtain ⟨m', hl, e', ne, rfl⟩ := loopC_nx (bd := bind md_law_good_plan 4) (gs := b_law_good_plan_1) (lo := 8) (st := 8) (n := n)
    (I := fun i mm => ∃ e', Nal e' ∧ mm = ⟨[.tr (iT b), .tr (iT m), .tr (iT p), .tr (iT (1 + (i : Int))), e'], []⟩)
    (by
      rintro i mm hi ⟨e', ne, rfl⟩
      refine ⟨⟨[.tr (iT b), .tr (iT m), .tr (iT p), .tr (iT (1 + (i : Int))), .tr (iT (8 + (i : Nat) * 8))], []⟩, ⟨[.tr (iT b), .tr (iT m), .tr (iT p), .tr (iT (1 + (i : Int) + 1)), .tr (iT (8 + (i : Nat) * 8))], []⟩, by simp! [ne.kr], by simp! [b_law_good_plan_1], .tr (iT (8 + (i : Nat) * 8)), nal_tr, ?_⟩
      rw [show (1 + (i : Int) + 1) = 1 + ((i + 1 : Nat) : Int) from by omega])
    n 0 ⟨[.tr (iT b), .tr (iT m), .tr (iT p), .tr (iT 1), .no], []⟩ (by omega) ⟨.no, nal_no, rfl⟩
  exact ⟨e', ne, hl⟩
theorem sForR3_e {ga : GE} {bd : Ms → Option Ms} {gb : GS} {mm : Ms} {g s : List Ent} (h : 8 ≤ b) (h2 : b ≤ 64) (e : ga mm = some (.ok ⟨g, .tr (.a (.int 8)) :: .tr (.a (.int b)) :: .tr (.a (.int 8)) :: s⟩)) : sForR3 ga bd gb mm = loopC bd gb 8 8 (mpZ b - 1).toNat 0 ⟨g, s⟩ := by
  obtain ⟨r1, r2⟩ := rs8 h h2
  unfold sForR3
  rw [e]
  dsimp only
  rw [r1, r2, if_pos ⟨by decide, by decide, rfl, by simp only [mpZ]; omega⟩]
theorem L_good : G_law_good_plan [iT b, iT m, iT p] = some (.rt (bT (decide (goodP b m p))) [.any, .any, .any]) := by
  by_cases c1 : 8 ≤ b ∧ b ≤ 64
  · by_cases c2 : 2 ≤ m ∧ m ≤ 16
    · by_cases c3 : b + 1 ≤ p ∧ p ≤ 200
      · obtain ⟨e', ne, hl⟩ := gp_loop (b := b) (m := m) (p := p) (mpZ b - 1).toNat
        have hF := (sForR3_e (ga := (gSeq (gC (.int 8)) (gSeq (gVar 0) (gSeq (gC (.int 8)) gNil)))) (bd := bind md_law_good_plan 4) (gb := b_law_good_plan_1) (mm := ⟨[.tr (iT b), .tr (iT m), .tr (iT p), .tr (iT 1), .no], []⟩) (g := [.tr (iT b), .tr (iT m), .tr (iT p), .tr (iT 1), .no]) (s := []) c1.1 c1.2 rfl).trans hl
        have h1 : (1 : Int) + ((mpZ b - 1).toNat : Int) = mpZ b := by simp only [mpZ]; omega
        rw [h1] at hF
        have hg : decide (goodP b m p) = decide (0 ≤ b - 2 - mpZ b - m - 2) := by
          refine decide_eq_decide.mpr ⟨fun h => ?_, fun h => ⟨c1.1, c1.2, c2.1, c2.2, by omega, c3.2, by omega⟩⟩
          have := h.2.2.2.2.2.2
          omega
        rw [hg]
        generalize mpZ b = w at *
        simp! [G_law_good_plan, g_law_good_plan, c1.1, c1.2, c2.1, c2.2, c3.1, c3.2, hF, ne.kr, ne.ke, ne.kj]
      · have hg : decide (goodP b m p) = false := decide_eq_false fun h => c3 ⟨by have := h.2.2.2.2.1; omega, h.2.2.2.2.2.1⟩
        rw [hg]
        by_cases c4 : b + 1 ≤ p
        · have c5 : ¬ p ≤ 200 := fun h => c3 ⟨c4, h⟩
          simp! [G_law_good_plan, g_law_good_plan, c1.1, c1.2, c2.1, c2.2, c4, c5]
        · simp! [G_law_good_plan, g_law_good_plan, c1.1, c1.2, c2.1, c2.2, c4]
    · have hg : decide (goodP b m p) = false := decide_eq_false fun h => c2 ⟨h.2.2.1, h.2.2.2.1⟩
      rw [hg]
      by_cases c4 : 2 ≤ m
      · have c5 : ¬ m ≤ 16 := fun h => c2 ⟨c4, h⟩
        simp! [G_law_good_plan, g_law_good_plan, c1.1, c1.2, c4, c5]
      · simp! [G_law_good_plan, g_law_good_plan, c1.1, c1.2, c4]
  · have hg : decide (goodP b m p) = false := decide_eq_false fun h => c1 ⟨h.1, h.2.1⟩
    rw [hg]
    by_cases c4 : 8 ≤ b
    · have c5 : ¬ b ≤ 64 := fun h => c1 ⟨c4, h⟩
      simp! [G_law_good_plan, g_law_good_plan, c4, c5]
    · simp! [G_law_good_plan, g_law_good_plan, c4]
abbrev planF (o : Ow) (b m p : Int) : Tr := .nd (.ins 0 6) o [iT b, iT m, iT p, iT (mpZ b), iT (2 + mpZ b), iT (2 + mpZ b + m)]
theorem P_init (h : goodP b m p) : G_Plan_init [.nd (.ins 0 0) .own [], iT b, iT m, iT p] = some (.rt (.a .non) [planF .own b m p, .any, .any, .any]) := by
  obtain ⟨h1, h2, h3, h4, h5, h6, h7⟩ := h
  have h7' : ¬ b < 2 + (b + 7) / 8 + m + 2 := by show ¬ b < 2 + mpZ b + m + 2; omega
  simp! [G_Plan_init, g_Plan_init, h1, h2, h3, h4, h5, h6, h7']
theorem P_init_bad (h : ¬ goodP b m p) : ∃ t, G_Plan_init [.nd (.ins 0 0) .own [], iT b, iT m, iT p] = some (.ex 0 [t, .any, .any, .any]) := by
  refine ⟨.nd (.ins 0 0) .own [], ?_⟩
  by_cases c1 : 8 ≤ b
  · by_cases c2 : b ≤ 64
    · by_cases c3 : 2 ≤ m
      · by_cases c4 : m ≤ 16
        · by_cases c5 : b < p
          · by_cases c6 : p ≤ 200
            · have c7 : b < 2 + (b + 7) / 8 + m + 2 := by
                refine Classical.byContradiction fun q => h ⟨c1, c2, c3, c4, c5, c6, ?_⟩
                show 2 + (b + 7) / 8 + m + 2 ≤ b
                omega
              simp! [G_Plan_init, g_Plan_init, c1, c2, c3, c4, c5, c6, c7]
            · simp! [G_Plan_init, g_Plan_init, c1, c2, c3, c4, c5, c6]
          · simp! [G_Plan_init, g_Plan_init, c1, c2, c3, c4, c5]
        · simp! [G_Plan_init, g_Plan_init, c1, c2, c3, c4]
      · simp! [G_Plan_init, g_Plan_init, c1, c2, c3]
    · simp! [G_Plan_init, g_Plan_init, c1, c2]
  · simp! [G_Plan_init, g_Plan_init, c1]
theorem L_make (h : goodP b m p) : G_law_make [iT b, iT m, iT p] = some (.rt (planF .frz b m p) [.any, .any, .any]) := by
  have hp := P_init h
  unfold G_law_make g_law_make
  generalize G_Plan_init = gi at *
  simp! []
  rw [sTry_no (o := .rt (planF .frz b m p) ⟨[.tr (iT b), .tr (iT m), .tr (iT p), .no], []⟩) rfl (by simp! [hp]) (fun C g z => by cases z)]
  simp! []
theorem L_make_bad (h : ¬ goodP b m p) : G_law_make [iT b, iT m, iT p] = some (.rt (refT "BadValue") [.any, .any, .any]) := by
  obtain ⟨t, hp⟩ := P_init_bad h
  have er := fun a => @E_value a
  unfold G_law_make g_law_make
  generalize G_Plan_init = gi at *
  simp! []
  rw [sTry_ex (C := 0) (g' := [.tr (iT b), .tr (iT m), .tr (iT p), .no]) (o := .rt (refT "BadValue") ⟨[.tr (iT b), .tr (iT m), .tr (iT p), .no], []⟩) rfl (by simp! [hp]) rfl (fun a => by simp! [suR, suC, er a])]
  simp! []
end
/-! a plan's line, its places, its blocks -/
section
variable {b m p i : Int} {Γ s : List Ent} {g ga gb gc : GE} {gs : List GE} {acc a : List Nat} {o : Ow}
theorem lt13 {n : Nat} (h : n < 10 ^ 13) : n.log2 < 1920 := by
  by_cases z : n = 0
  · subst z
    decide
  · exact (Nat.log2_lt z).mpr (Nat.lt_of_lt_of_le h (Nat.le_trans (show 10 ^ 13 ≤ 2 ^ 44 by decide) (Nat.pow_le_pow_right (by decide) (by decide))))
theorem str_num (h : 0 ≤ i) : Str.ofString (toString i) = tx (TL.numL i.toNat) := by
  have := SX.num_S i.toNat
  rwa [Int.toNat_of_nonneg h] at this
theorem num_len (h : i < 10 ^ 13) : (TL.numL i.toNat).length ≤ 13 := TL.numL_len (by decide) (by omega)
theorem js_c (h : acc.length + a.length ≤ 5000) : gJs (gC (.str (tx a)) :: gs) (tx acc) ⟨Γ, s⟩ = gJs gs (tx (acc ++ a)) ⟨Γ, s⟩ := by
  have e : tx acc ++ tx a = tx (acc ++ a) := SX.S_cat _ _
  have hl : (tx (acc ++ a)).length ≤ sizeLine := by
    rw [show (tx (acc ++ a)).length = (acc ++ a).length from SX.S_len _, List.length_append]
    exact Nat.le_of_lt (size3 h)
  simp only [gJs, gC]
  rw [e, if_pos hl]
theorem js_v (hg : g ⟨Γ, s⟩ = some (.ok ⟨Γ, .tr (iT i) :: s⟩)) (h0 : 0 ≤ i) (h1 : i < 10 ^ 13) (h : acc.length + 13 ≤ 5000) : gJs (gSeq g fFmt :: gs) (tx acc) ⟨Γ, s⟩ = gJs gs (tx (acc ++ TL.numL i.toNat)) ⟨Γ, s⟩ := by
  have e : tx acc ++ tx (TL.numL i.toNat) = tx (acc ++ TL.numL i.toNat) := SX.S_cat _ _
  have hn := num_len h1
  have hl : (tx (acc ++ TL.numL i.toNat)).length ≤ sizeLine := by
    rw [show (tx (acc ++ TL.numL i.toNat)).length = (acc ++ TL.numL i.toNat).length from SX.S_len _, List.length_append]
    exact Nat.le_of_lt (size3 (by omega))
  have hf : gSeq g fFmt ⟨Γ, s⟩ = some (.ok ⟨Γ, .tr (aS (tx (TL.numL i.toNat))) :: s⟩) := by
    simp only [gSeq, hg, fFmt]
    rw [if_pos (lt13 (by omega)), ← str_num h0]
  simp only [gJs]
  rw [hf]
  simp only
  rw [e, if_pos hl]
def plL (b m p : Int) : List Nat := ((((([] ++ [112, 108, 97, 110, 32]) ++ TL.numL b.toNat) ++ [32]) ++ TL.numL m.toNat) ++ [32]) ++ TL.numL p.toNat
def i13 (i : Int) : Prop := 0 ≤ i ∧ i < 10 ^ 13
theorem plL_len (hb : i13 b) (hm : i13 m) (hp : i13 p) : (plL b m p).length ≤ 46 := by
  have h1 := num_len hb.2
  have h2 := num_len hm.2
  have h3 := num_len hp.2
  unfold plL
  simp only [List.length_append, List.length_cons, List.length_nil]
  omega
theorem js_plan (hb : i13 b) (hm : i13 m) (hp : i13 p) (ha : ga ⟨Γ, s⟩ = some (.ok ⟨Γ, .tr (iT b) :: s⟩)) (hb' : gb ⟨Γ, s⟩ = some (.ok ⟨Γ, .tr (iT m) :: s⟩)) (hc : gc ⟨Γ, s⟩ = some (.ok ⟨Γ, .tr (iT p) :: s⟩)) :
    gJs [(gC (.str "plan ")), (gSeq ga fFmt), (gC (.str " ")), (gSeq gb fFmt), (gC (.str " ")), (gSeq gc fFmt)] Str.empty ⟨Γ, s⟩ = some (.ok ⟨Γ, .tr (aS (tx (plL b m p))) :: s⟩) := by
  have h1 := num_len hb.2
  have h2 := num_len hm.2
  have h3 := num_len hp.2
  rw [show ("plan " : Str) = tx [112, 108, 97, 110, 32] from rfl, show (" " : Str) = tx [32] from rfl, show Str.empty = tx [] from rfl]
  rw [js_c (by simp), js_v ha hb.1 hb.2 (by simp), js_c (by simp; omega), js_v hb' hm.1 hm.2 (by simp; omega), js_c (by simp; omega), js_v hc hp.1 hp.2 (by simp; omega)]
  rfl
theorem i13_good (h : goodP b m p) : i13 b ∧ i13 m ∧ i13 p := by
  obtain ⟨h1, h2, h3, h4, h5, h6, h7⟩ := h
  unfold i13
  refine ⟨⟨?_, ?_⟩, ⟨?_, ?_⟩, ⟨?_, ?_⟩⟩ <;> omega
abbrev plcT (i : Int) : Tr := .nd .tup .own [iT (2 + i / 8), iT (i % 8)]
theorem P_text (h : goodP b m p) : G_Plan_text [planF .frz b m p] = some (.rt (aS (tx (plL b m p))) [.any]) := by
  obtain ⟨q1, q2, q3⟩ := i13_good h
  have hj := js_plan (Γ := [.tr (planF .frz b m p)]) (s := []) (ga := (gSeq (gVar 0) (fFld tab_blocks))) (gb := (gSeq (gVar 0) (fFld tab_nodes))) (gc := (gSeq (gVar 0) (fFld tab_slots))) q1 q2 q3 (by simp! []) (by simp! []) (by simp! [])
  unfold G_Plan_text g_Plan_text
  rw [runF_e, sRet_e]
  show fR _ (rS (gJs _ _ ⟨[.tr (planF .frz b m p)], []⟩)) = _
  rw [hj]
  simp! []
theorem P_data (h : goodP b m p) : G_Plan_data_blocks [planF .frz b m p] = some (.rt (.nd .lst .own ((rng (2 + mpZ b + m) (b - (2 + mpZ b + m)).toNat).map iT)) [.any]) := by
  obtain ⟨h1, h2, h3, h4, h5, h6, h7⟩ := h
  have w0 : 0 ≤ mpZ b := by simp only [mpZ]; omega
  have c1 : -100000 ≤ 2 + mpZ b + m := by omega
  have c2 : 2 + mpZ b + m ≤ 100000 := by omega
  have c3 : -100000 ≤ b := by omega
  have c4 : b ≤ 100000 := by omega
  simp! [G_Plan_data_blocks, g_Plan_data_blocks, fLstG, c1, c2, c3, c4]
theorem P_place : G_Plan_map_place [planF .frz b m p, iT i] = some (.rt (plcT i) [.any, .any]) := by
  simp! [G_Plan_map_place, g_Plan_map_place]
theorem P_node : G_Plan_node_block [planF .frz b m p, iT i] = some (.rt (iT (2 + mpZ b + i - 1)) [.any, .any]) := by
  simp! [G_Plan_node_block, g_Plan_node_block]
end
/-! a plan looked at -/
section
variable {b m p i : Int} {e5 e8 : Ent} {z : GS}
theorem ip_loop {t : Tr} (n : Nat) : ∃ e', Nal e' ∧ loopC (bind md_law_is_plan 5) b_law_is_plan_1 8 8 n 0 ⟨[.tr t, .tr (iT b), .tr (iT m), .tr (iT p), .tr (iT 1), .no, .no, .no, .no, .no, .no], []⟩ = some (.nx ⟨[.tr t, .tr (iT b), .tr (iT m), .tr (iT p), .tr (iT (1 + (n : Int))), e', .no, .no, .no, .no, .no], []⟩) := by
  obtain ⟨m', hl, e', ne, rfl⟩ := loopC_nx (bd := bind md_law_is_plan 5) (gs := b_law_is_plan_1) (lo := 8) (st := 8) (n := n)
    (I := fun i mm => ∃ e', Nal e' ∧ mm = ⟨[.tr t, .tr (iT b), .tr (iT m), .tr (iT p), .tr (iT (1 + (i : Int))), e', .no, .no, .no, .no, .no], []⟩)
    (by
      rintro i mm hi ⟨e', ne, rfl⟩
      refine ⟨⟨[.tr t, .tr (iT b), .tr (iT m), .tr (iT p), .tr (iT (1 + (i : Int))), .tr (iT (8 + (i : Nat) * 8)), .no, .no, .no, .no, .no], []⟩, ⟨[.tr t, .tr (iT b), .tr (iT m), .tr (iT p), .tr (iT (1 + (i : Int) + 1)), .tr (iT (8 + (i : Nat) * 8)), .no, .no, .no, .no, .no], []⟩, by simp! [ne.kr], by simp! [b_law_is_plan_1], .tr (iT (8 + (i : Nat) * 8)), nal_tr, ?_⟩
      rw [show (1 + (i : Int) + 1) = 1 + ((i + 1 : Nat) : Int) from by omega])
    n 0 ⟨[.tr t, .tr (iT b), .tr (iT m), .tr (iT p), .tr (iT 1), .no, .no, .no, .no, .no, .no], []⟩ (by omega) ⟨.no, nal_no, rfl⟩
  exact ⟨e', ne, hl⟩
abbrev sixL (b m p : Int) : List Int := [b, m, p, mpZ b, 2 + mpZ b, 2 + mpZ b + m]
abbrev plcs (b : Int) : List Tr := (rng 0 b.toNat).map plcT
theorem smx_plc {n : Nat} (i : Int) : SmX (n + 2) (plcT i) := smx_tup (ts := [iT (2 + i / 8), iT (i % 8)]) (by simp) fun x hx => by
  simp only [List.mem_cons, List.not_mem_nil, or_false] at hx
  rcases hx with rfl | rfl
  · exact smx_a trivial
  · exact smx_a trivial
theorem same_plcs (hb : b ≤ 64) : G_law_same [.nd .lst .lnt (plcs b), .nd .lst .lnt (plcs b)] = some (.rt (bT true) [.any, .any]) :=
  same_of (sm_list (.inl rfl) (.inl rfl) (by rw [List.length_map, rng_len]; omega) fun x hx => by
    obtain ⟨y, _, rfl⟩ := List.mem_map.mp hx
    exact smx_plc (n := 5) y)
noncomputable def ip1 (z : GS) : GS := (sSeq (sSet md_law_is_plan 6 (gSeq (gSeq (gSeq (gVar 0) (fFld tab_blocks)) (gSeq (gSeq (gVar 0) (fFld tab_nodes)) (gSeq (gSeq (gVar 0) (fFld tab_slots)) (gSeq (gSeq (gVar 0) (fFld tab_maps)) (gSeq (gSeq (gVar 0) (fFld tab_first_node)) (gSeq (gSeq (gVar 0) (fFld tab_first_data)) gNil)))))) (fNew .lst 6)))
    (sSeq (sIf (gNot (gSeq (gSeq (gVar 6) (gSeq (gSeq (gSeq (gSeq (gVar 1) (gSeq (gVar 2) (gSeq (gVar 3) (gSeq (gVar 4) (gSeq (gSeq (gSeq (gC (.int 2)) (gVar 4)) fAdd) (gSeq (gSeq (gSeq (gSeq (gSeq (gC (.int 2)) (gVar 4)) fAdd) (gVar 2)) fAdd) gNil)))))) (fMvD md_law_is_plan 2)) (fNew .lst 6)) gNil)) (gCall [] md_law_same G_law_same 2))) (sRet (gC (.bl false))) sNil)
    z))
theorem e_ip1 (h5 : Nal e5) : ip1 z ⟨[.tr (planF .frz b m p), .tr (iT b), .tr (iT m), .tr (iT p), .tr (iT (mpZ b)), e5, .no, .no, .no, .no, .no], []⟩ = z ⟨[.tr (planF .frz b m p), .tr (iT b), .tr (iT m), .tr (iT p), .tr (iT (mpZ b)), e5, .tr (.nd .lst .own ((sixL b m p).map iT)), .no, .no, .no, .no], []⟩ := by
  have hs := same_ints (o := .lnt) (o' := .lnt) (L := sixL b m p) (.inl rfl) (.inl rfl) (by show (6 : Nat) ≤ 100000; decide)
  simp only [List.map_cons, List.map_nil] at hs
  unfold ip1
  generalize G_law_same = h1 at *
  simp! [h5.kr, h5.ke, h5.kj, hs]
end
/-! a plan looked at: places, nodes, data -/
section
variable {b m p i : Int} {e5 e8 : Ent} {z : GS} {six : Tr} {s : List Ent}
abbrev ipM (b m p : Int) (e6 e7 e9 e10 : Ent) : List Ent := [.tr (planF .frz b m p), .tr (iT b), .tr (iT m), .tr (iT p), .tr (iT (mpZ b)), .no, e6, e7, .no, e9, e10]
theorem filt_tt (l : List Int) : l.filter (fun _ => true) = l := List.filter_eq_self.mpr fun _ _ => rfl
theorem c_plc {ts : List Tr} (h0 : 0 ≤ b) (h1 : b ≤ 64) : gLcR1 [5] (gSeq (gVar 1) gNil) (bind md_law_is_plan 5) (gC (.bl true)) e_law_is_plan_1 ⟨ipM b m p (.tr (.nd .lst .own ts)) .no .no .no, []⟩ = some (.ok ⟨ipM b m p (.tr (.nd .lst .own ts)) .no .no .no, [.tr (.nd .lst .own (plcs b))]⟩) := by
  have h := gLcR1P (ga := gSeq (gVar 1) gNil) (md := md_law_is_plan) (k := 5) (gt := gC (.bl true)) (ge := e_law_is_plan_1) (Γ := ipM b m p (.tr (.nd .lst .own ts)) .no .no .no) (s := []) (j := b) (by simp! []) (by omega) (by omega) rfl rfl (by simp! []) rfl (fun _ => true) plcT (fun x s' _ _ => rfl) (fun x s' _ _ _ => ⟨by simp! [e_law_is_plan_1], rfl⟩)
  rw [filt_tt] at h
  exact h
theorem c_plc2 {ts us : List Tr} (h0 : 0 ≤ b) (h1 : b ≤ 64) : gLcR1 [5] (gSeq (gVar 1) gNil) (bind md_law_is_plan 5) (gC (.bl true)) e_law_is_plan_2 ⟨ipM b m p (.tr (.nd .lst .own ts)) (.tr (.nd .lst .own us)) .no .no, []⟩ = some (.ok ⟨ipM b m p (.tr (.nd .lst .own ts)) (.tr (.nd .lst .own us)) .no .no, [.tr (.nd .lst .own (plcs b))]⟩) := by
  have hp := fun i => P_place (b := b) (m := m) (p := p) (i := i)
  have h := gLcR1P (ga := gSeq (gVar 1) gNil) (md := md_law_is_plan) (k := 5) (gt := gC (.bl true)) (ge := e_law_is_plan_2) (Γ := ipM b m p (.tr (.nd .lst .own ts)) (.tr (.nd .lst .own us)) .no .no) (s := []) (j := b) (by simp! []) (by omega) (by omega) rfl rfl (by simp! []) rfl (fun _ => true) plcT (fun x s' _ _ => rfl) (fun x s' _ _ _ => ⟨by simp! [e_law_is_plan_2, hp], rfl⟩)
  rw [filt_tt] at h
  exact h
abbrev ndsL (b m : Int) : List Int := (rng 1 m.toNat).map fun i => 1 + mpZ b + i
theorem nds_map (f : Int → Tr) (h : ∀ x, f x = iT (1 + mpZ b + x)) (m : Int) : (rng 1 (m + 1 - 1).toNat).map f = (ndsL b m).map iT := by
  rw [List.map_map, show m + 1 - 1 = m from by omega]
  exact List.map_congr_left fun x _ => h x
theorem c_nd {ts us : List Tr} (h0 : 0 ≤ m) (h1 : m ≤ 16) : gLcR2 [8] (gSeq (gC (.int 1)) (gSeq (gSeq (gSeq (gVar 2) (gC (.int 1))) fAdd) gNil)) (bind md_law_is_plan 8) (gC (.bl true)) e_law_is_plan_3 ⟨ipM b m p (.tr (.nd .lst .own ts)) (.tr (.nd .lst .own us)) .no .no, []⟩ = some (.ok ⟨ipM b m p (.tr (.nd .lst .own ts)) (.tr (.nd .lst .own us)) .no .no, [.tr (.nd .lst .own ((ndsL b m).map iT))]⟩) := by
  have hp := fun i => P_node (b := b) (m := m) (p := p) (i := i)
  have h := gLcR2P (ga := (gSeq (gC (.int 1)) (gSeq (gSeq (gSeq (gVar 2) (gC (.int 1))) fAdd) gNil))) (md := md_law_is_plan) (k := 8) (gt := gC (.bl true)) (ge := e_law_is_plan_3) (Γ := ipM b m p (.tr (.nd .lst .own ts)) (.tr (.nd .lst .own us)) .no .no) (s := []) (i := 1) (j := m + 1) (by simp! []) (by decide) (by decide) (by omega) (by omega) (by omega) rfl rfl (by simp! []) rfl (fun _ => true) (fun i => iT (2 + mpZ b + i - 1)) (fun x s' _ _ => rfl) (fun x s' _ _ _ => ⟨by simp! [e_law_is_plan_3, hp], rfl⟩)
  rw [filt_tt, nds_map (b := b) _ (fun x => by rw [show 2 + mpZ b + x - 1 = 1 + mpZ b + x from by omega])] at h
  exact h
theorem c_nd2 {ts us : List Tr} {w : Ent} (h0 : 0 ≤ m) (h1 : m ≤ 16) (hw : killR 8 w = w) : gLcR2 [8] (gSeq (gC (.int 1)) (gSeq (gSeq (gSeq (gVar 2) (gC (.int 1))) fAdd) gNil)) (bind md_law_is_plan 8) (gC (.bl true)) e_law_is_plan_4 ⟨ipM b m p (.tr (.nd .lst .own ts)) (.tr (.nd .lst .own us)) .no .no, [w]⟩ = some (.ok ⟨ipM b m p (.tr (.nd .lst .own ts)) (.tr (.nd .lst .own us)) .no .no, [.tr (.nd .lst .own ((ndsL b m).map iT)), w]⟩) := by
  have h := gLcR2P (ga := (gSeq (gC (.int 1)) (gSeq (gSeq (gSeq (gVar 2) (gC (.int 1))) fAdd) gNil))) (md := md_law_is_plan) (k := 8) (gt := gC (.bl true)) (ge := e_law_is_plan_4) (Γ := ipM b m p (.tr (.nd .lst .own ts)) (.tr (.nd .lst .own us)) .no .no) (s := [w]) (i := 1) (j := m + 1) (by simp! []) (by decide) (by decide) (by omega) (by omega) (by omega) rfl rfl (by simp! []) (by rw [List.map_cons, hw]; rfl) (fun _ => true) (fun i => iT (1 + mpZ b + i)) (fun x s' _ _ => rfl) (fun x s' _ _ _ => ⟨by simp! [e_law_is_plan_4], rfl⟩)
  rw [filt_tt, nds_map (b := b) _ (fun x => rfl)] at h
  exact h
end
/-! a plan looked at, whole -/
section
variable {b m p i : Int} {e5 e8 : Ent} {z : GS} {six : Tr} {s : List Ent}
noncomputable def ip0 (z : GS) : GS := (sSeq (sIf (gNot (gSeq (gVar 0) (fIsO 0))) (sRet (gC (.bl false))) sNil)
    (sSeq (sSet md_law_is_plan 4 (gC (.int 1)))
    (sSeq (sForR3 (gSeq (gC (.int 8)) (gSeq (gVar 1) (gSeq (gC (.int 8)) gNil))) (bind md_law_is_plan 5) b_law_is_plan_1)
    z)))
noncomputable def ip2 (z : GS) : GS := (sSeq (sClr 5 (sSet md_law_is_plan 7 (gLcR1 [5] (gSeq (gVar 1) gNil) (bind md_law_is_plan 5) (gC (.bl true)) e_law_is_plan_1)))
    z)
noncomputable def ip3 (z : GS) : GS := (sSeq (sIf (gNot (gSeq (gSeq (gClr 5 (gLcR1 [5] (gSeq (gVar 1) gNil) (bind md_law_is_plan 5) (gC (.bl true)) e_law_is_plan_2)) (gSeq (gVar 7) gNil)) (gCall [] md_law_same G_law_same 2))) (sRet (gC (.bl false))) sNil)
    z)
noncomputable def ip4 (z : GS) : GS := (sSeq (sIf (gNot (gSeq (gSeq (gLcR2 [8] (gSeq (gC (.int 1)) (gSeq (gSeq (gSeq (gVar 2) (gC (.int 1))) fAdd) gNil)) (bind md_law_is_plan 8) (gC (.bl true)) e_law_is_plan_3) (gSeq (gLcR2 [8] (gSeq (gC (.int 1)) (gSeq (gSeq (gSeq (gVar 2) (gC (.int 1))) fAdd) gNil)) (bind md_law_is_plan 8) (gC (.bl true)) e_law_is_plan_4) gNil)) (gCall [] md_law_same G_law_same 2))) (sRet (gC (.bl false))) sNil)
    z)
noncomputable def ip5 (z : GS) : GS := (sSeq (sSet md_law_is_plan 9 (gSeq (gSeq (gSeq (gSeq (gSeq (gSeq (gC (.int 2)) (gVar 4)) fAdd) (gVar 2)) fAdd) (gVar 1)) fLstG))
    (sSeq (sSet md_law_is_plan 10 (gSeq (gVar 0) (gSeq (chkI 0) (gCall [] md_Plan_data_blocks G_Plan_data_blocks 1))))
    (sSeq (sIf (gNot (gSeq (gSeq (gVar 10) (gSeq (gVar 9) gNil)) (gCall [] md_law_same G_law_same 2))) (sRet (gC (.bl false))) sNil)
    z)))
noncomputable def ip6 (z : GS) : GS := (sSeq (sExpr (gSeq (gVar 10) (gSeq chkL (gSeq (gSeq (gC (.int 0)) gNil) fApp))))
    z)
noncomputable def ip7 : GS := (sRet (gAnd (gSeq (gSeq (gSeq (gVar 0) (gSeq (chkI 0) (gCall [] md_Plan_data_blocks G_Plan_data_blocks 1))) (gSeq (gVar 9) gNil)) (gCall [] md_law_same G_law_same 2)) (gSeq (gSeq (gSeq (gVar 0) (gSeq (chkI 0) (gCall [] md_Plan_text G_Plan_text 1))) (gSeq (gJs [(gC (.str "plan ")), (gSeq (gVar 1) fFmt), (gC (.str " ")), (gSeq (gVar 2) fFmt), (gC (.str " ")), (gSeq (gVar 3) fFmt)] Str.empty) gNil)) (gCall [] md_law_same G_law_same 2))))
theorem e_g_is : g_law_is_plan = ip0 (ip1 (ip2 (ip3 (ip4 (ip5 (ip6 ip7)))))) := rfl
theorem e_ip0 (h : goodP b m p) : ∃ e5, Nal e5 ∧ ip0 z ⟨[.tr (planF .frz b m p), .tr (iT b), .tr (iT m), .tr (iT p), .no, .no, .no, .no, .no, .no, .no], []⟩ = z ⟨[.tr (planF .frz b m p), .tr (iT b), .tr (iT m), .tr (iT p), .tr (iT (mpZ b)), e5, .no, .no, .no, .no, .no], []⟩ := by
  obtain ⟨e', ne, hl⟩ := ip_loop (b := b) (m := m) (p := p) (t := planF .frz b m p) (mpZ b - 1).toNat
  have hF := (sForR3_e (ga := (gSeq (gC (.int 8)) (gSeq (gVar 1) (gSeq (gC (.int 8)) gNil)))) (bd := bind md_law_is_plan 5) (gb := b_law_is_plan_1) (mm := ⟨[.tr (planF .frz b m p), .tr (iT b), .tr (iT m), .tr (iT p), .tr (iT 1), .no, .no, .no, .no, .no, .no], []⟩) (g := [.tr (planF .frz b m p), .tr (iT b), .tr (iT m), .tr (iT p), .tr (iT 1), .no, .no, .no, .no, .no, .no]) (s := []) h.1 h.2.1 rfl).trans hl
  have h1 : (1 : Int) + ((mpZ b - 1).toNat : Int) = mpZ b := by have := h.1; simp only [mpZ]; omega
  rw [h1] at hF
  refine ⟨e', ne, ?_⟩
  unfold ip0
  simp! [fIsO, hF]
theorem e_ip2 {ts : List Tr} (h0 : 0 ≤ b) (h1 : b ≤ 64) (h5 : Nal e5) : ip2 z ⟨[.tr (planF .frz b m p), .tr (iT b), .tr (iT m), .tr (iT p), .tr (iT (mpZ b)), e5, .tr (.nd .lst .own ts), .no, .no, .no, .no], []⟩ = z ⟨ipM b m p (.tr (.nd .lst .own ts)) (.tr (.nd .lst .own (plcs b))) .no .no, []⟩ := by
  have hc := c_plc (m := m) (p := p) (ts := ts) h0 h1
  unfold ip2
  generalize plcs b = P at *
  simp! [h5.kr, h5.ke, h5.kj, hc]
theorem e_ip3 {ts : List Tr} (h0 : 0 ≤ b) (h1 : b ≤ 64) : ip3 z ⟨ipM b m p (.tr (.nd .lst .own ts)) (.tr (.nd .lst .own (plcs b))) .no .no, []⟩ = z ⟨ipM b m p (.tr (.nd .lst .own ts)) (.tr (.nd .lst .own (plcs b))) .no .no, []⟩ := by
  have hc := c_plc2 (m := m) (p := p) (ts := ts) (us := plcs b) h0 h1
  have hs := same_plcs h1
  unfold ip3
  generalize plcs b = P at *
  generalize G_law_same = r1 at *
  simp! [hc, hs]
theorem e_ip4 {ts us : List Tr} (h0 : 0 ≤ m) (h1 : m ≤ 16) : ip4 z ⟨ipM b m p (.tr (.nd .lst .own ts)) (.tr (.nd .lst .own us)) .no .no, []⟩ = z ⟨ipM b m p (.tr (.nd .lst .own ts)) (.tr (.nd .lst .own us)) .no .no, []⟩ := by
  have hc := c_nd (b := b) (p := p) (ts := ts) (us := us) h0 h1
  have hc2 := c_nd2 (b := b) (p := p) (ts := ts) (us := us) (w := .tr (.nd .lst .own ((ndsL b m).map iT))) h0 h1 rfl
  have hs := same_ints (o := .lnt) (o' := .lnt) (L := ndsL b m) (.inl rfl) (.inl rfl) (by rw [List.length_map, rng_len]; omega)
  unfold ip4
  generalize (gSeq (gC (.int 1)) (gSeq (gSeq (gSeq (gVar 2) (gC (.int 1))) fAdd) gNil)) = ga at *
  generalize (ndsL b m).map iT = N at *
  generalize G_law_same = r1 at *
  simp! [hc, hc2, hs]
abbrev datL (b m : Int) : List Int := rng (2 + mpZ b + m) (b - (2 + mpZ b + m)).toNat
theorem e_ip5 {ts us : List Tr} (h : goodP b m p) : ip5 z ⟨ipM b m p (.tr (.nd .lst .own ts)) (.tr (.nd .lst .own us)) .no .no, []⟩ = z ⟨ipM b m p (.tr (.nd .lst .own ts)) (.tr (.nd .lst .own us)) (.tr (.nd .lst .own ((datL b m).map iT))) (.tr (.nd .lst .own ((datL b m).map iT))), []⟩ := by
  have hd := P_data h
  obtain ⟨h1, h2, h3, h4, h5, h6, h7⟩ := h
  have w0 : 0 ≤ mpZ b := by simp only [mpZ]; omega
  have c1 : -100000 ≤ 2 + mpZ b + m := by omega
  have c2 : 2 + mpZ b + m ≤ 100000 := by omega
  have c3 : -100000 ≤ b := by omega
  have c4 : b ≤ 100000 := by omega
  have hs := same_ints (o := .lnt) (o' := .lnt) (L := datL b m) (.inl rfl) (.inl rfl) (by rw [rng_len]; omega)
  have hl : fLstG ⟨ipM b m p (.tr (.nd .lst .own ts)) (.tr (.nd .lst .own us)) .no .no, [.tr (iT b), .tr (iT (2 + mpZ b + m))]⟩ = some (.ok ⟨ipM b m p (.tr (.nd .lst .own ts)) (.tr (.nd .lst .own us)) .no .no, [.tr (.nd .lst .own ((datL b m).map iT))]⟩) := if_pos ⟨c1, c2, c3, c4⟩
  have hx : escL ((datL b m).map iT) = true := escL_iT _
  unfold ip5
  generalize (datL b m).map iT = N at *
  generalize G_law_same = r1 at *
  simp! [hl, hd, hs, hx]
theorem e_ip6 {ts us vs : List Tr} {L : List Int} (hl : L.length ≤ 1000) : ip6 z ⟨ipM b m p (.tr (.nd .lst .own ts)) (.tr (.nd .lst .own us)) (.tr (.nd .lst .own vs)) (.tr (.nd .lst .own (L.map iT))), []⟩ = z ⟨ipM b m p (.tr (.nd .lst .own ts)) (.tr (.nd .lst .own us)) (.tr (.nd .lst .own vs)) (.tr (.nd .lst .own (L.map iT ++ [iT 0]))), []⟩ := by
  have hz : L.length < sizeLine := size3 (by omega)
  unfold ip6
  simp! [hz]
theorem e_ip7 {ts us ws : List Tr} (h : goodP b m p) : ip7 ⟨ipM b m p (.tr (.nd .lst .own ts)) (.tr (.nd .lst .own us)) (.tr (.nd .lst .own ((datL b m).map iT))) (.tr (.nd .lst .own ws)), []⟩ = some (.rt (bT true) ⟨ipM b m p (.tr (.nd .lst .own ts)) (.tr (.nd .lst .own us)) (.tr (.nd .lst .own ((datL b m).map iT))) (.tr (.nd .lst .own ws)), []⟩) := by
  have hd := P_data h
  have ht := P_text h
  obtain ⟨q1, q2, q3⟩ := i13_good h
  have hj := fun w => js_plan (Γ := ipM b m p (.tr (.nd .lst .own ts)) (.tr (.nd .lst .own us)) (.tr (.nd .lst .own ((datL b m).map iT))) (.tr (.nd .lst .own ws))) (s := [w]) (ga := (gVar 1)) (gb := (gVar 2)) (gc := (gVar 3)) q1 q2 q3 (by simp! []) (by simp! []) (by simp! [])
  have hs := same_ints (o := .lnt) (o' := .lnt) (L := datL b m) (.inl rfl) (.inl rfl) (by rw [rng_len]; have := h.2.1; have := h.2.2.1; have : 0 ≤ mpZ b := by { have := h.1; simp only [mpZ]; omega }; omega)
  have hs2 := same_a (v := .str (tx (plL b m p))) trivial
  have hx : escL ((datL b m).map iT) = true := escL_iT _
  unfold ip7
  generalize (datL b m).map iT = N at *
  generalize tx (plL b m p) = T at *
  generalize G_law_same = r1 at *
  simp! [hd, ht, hs, hs2, hj, hx]
theorem L_is (h : goodP b m p) : G_law_is_plan [planF .frz b m p, iT b, iT m, iT p] = some (.rt (bT true) [.any, .any, .any, .any]) := by
  obtain ⟨e5, n5, h0⟩ := e_ip0 (z := ip1 (ip2 (ip3 (ip4 (ip5 (ip6 ip7)))))) h
  have b0 : 0 ≤ b := by have := h.1; omega
  have m0 : 0 ≤ m := by have := h.2.2.1; omega
  unfold G_law_is_plan
  rw [runF_e, e_g_is]
  show fR _ (ip0 _ ⟨[.tr (planF .frz b m p), .tr (iT b), .tr (iT m), .tr (iT p), .no, .no, .no, .no, .no, .no, .no], []⟩) = _
  rw [h0, e_ip1 n5, e_ip2 b0 h.2.1 n5, e_ip3 b0 h.2.1, e_ip4 m0 h.2.2.2.1, e_ip5 h, e_ip6 (by rw [rng_len]; have := h.2.1; have := h.2.2.1; have : 0 ≤ mpZ b := by { have := h.1; simp only [mpZ]; omega }; omega), e_ip7 h]
  rfl
end
/-! a plan read from a line -/
section
variable {b m p i : Int} {x : Str} {w0 w1 w2 w3 : Str}
theorem dvl_lt : ∀ (l : List Nat) (a : Nat), NumText.AllDigits l → dvl a l < (a + 1) * 10 ^ l.length
  | [], a, _ => by simp [dvl]
  | c :: l, a, h => by
    have h1 := h c List.mem_cons_self
    have ih := dvl_lt l (a * 10 + (c - 48)) fun d hd => h d (List.mem_cons_of_mem _ hd)
    have e : dvl a (c :: l) = dvl (a * 10 + (c - 48)) l := rfl
    rw [e, List.length_cons, Nat.pow_succ]
    refine Nat.lt_of_lt_of_le ih ?_
    rw [Nat.mul_comm (10 ^ l.length) 10, ← Nat.mul_assoc]
    exact Nat.mul_le_mul_right _ (by omega)
theorem numZ_le (l : List Nat) : -1 ≤ numZ l ∧ numZ l ≤ 999999999999 := by
  unfold numZ
  split
  · exact ⟨by decide, by decide⟩
  · rename_i h
    have h1 : l.length ≤ 12 := Nat.le_of_not_lt fun q => h (.inr (.inl q))
    have h2 : l.all dg = true := by
      cases q : l.all dg with
      | true => rfl
      | false => exact absurd (.inr (.inr (.inr q))) h
    have h3 := dvl_lt l 0 (dg_all h2)
    have h4 : 10 ^ l.length ≤ 10 ^ 12 := Nat.pow_le_pow_right (by decide) h1
    have h5 : NumText.digitsVal l = dvl 0 l := rfl
    rw [h5]
    have : (10 : Nat) ^ 12 = 1000000000000 := by decide
    omega
abbrev nz (w : Str) : Int := numZ (cs w)
theorem P_n (hw : w1.length ≤ 1000) : (nz w1 = -1 → G_read_number [aS w1, iT 999999999999] = some (.ex 1 [.any, .any])) ∧ (nz w1 ≠ -1 → G_read_number [aS w1, iT 999999999999] = some (.rt (iT (nz w1)) [.any, .any])) := by
  have h := P_num (n := 999999999999) hw
  have h2 := (numZ_le (cs w1)).2
  refine ⟨fun q => by rw [h, if_pos (.inl q)], fun q => by rw [h, if_neg]; rintro (h | h); exact q h; omega⟩
theorem wd_len (hx : x.length ≤ 1000) : ∀ w ∈ wdL x, w.length ≤ 1000 := by
  intro w hw
  unfold wdL at hw
  split at hw
  · cases hw
  · have := spw_sz (cs x) [] w hw
    rw [← cs_len] at this
    simp at this
    omega
theorem R_bad (hx : x.length ≤ 1000) (h : badL x = true) : G_Plan_read [aS x] = some (.ex 1 [.any]) := by
  have hp := P_split hx
  rw [if_pos h] at hp
  unfold G_Plan_read g_Plan_read
  generalize G_split_words = gi at *
  simp! [hp]
theorem R_len {L : List Str} (hx : x.length ≤ 1000) (h : badL x = false) (e : wdL x = L) (hl : L.length ≠ 4) : G_Plan_read [aS x] = some (.ex 1 [.any]) := by
  have hp := P_split hx
  rw [h, if_neg (by decide), e] at hp
  have hl' : ¬ (L.length : Int) = 4 := by omega
  unfold G_Plan_read g_Plan_read
  generalize G_split_words = gi at *
  simp! [hp, hl']
theorem R_w0 (hx : x.length ≤ 1000) (h : badL x = false) (e : wdL x = [w0, w1, w2, w3]) (h0 : w0 ≠ "plan") : G_Plan_read [aS x] = some (.ex 1 [.any]) := by
  have hp := P_split hx
  rw [h, if_neg (by decide), e] at hp
  unfold G_Plan_read g_Plan_read
  generalize G_split_words = gi at *
  simp! [hp, h0]
theorem R_n1 (hx : x.length ≤ 1000) (h : badL x = false) (e : wdL x = [("plan" : Str), w1, w2, w3]) (h1 : nz w1 = -1) : G_Plan_read [aS x] = some (.ex 1 [.any]) := by
  have hp := P_split hx
  rw [h, if_neg (by decide), e] at hp
  have n1 := (P_n (wd_len hx w1 (by rw [e]; simp))).1 h1
  unfold G_Plan_read g_Plan_read
  generalize G_split_words = gi at *
  generalize G_read_number = gr at *
  simp! [hp, n1]
theorem R_n2 (hx : x.length ≤ 1000) (h : badL x = false) (e : wdL x = [("plan" : Str), w1, w2, w3]) (h1 : nz w1 ≠ -1) (h2 : nz w2 = -1) : G_Plan_read [aS x] = some (.ex 1 [.any]) := by
  have hp := P_split hx
  rw [h, if_neg (by decide), e] at hp
  have n1 := (P_n (wd_len hx w1 (by rw [e]; simp))).2 h1
  have n2 := (P_n (wd_len hx w2 (by rw [e]; simp))).1 h2
  generalize nz w1 = b at *
  unfold G_Plan_read g_Plan_read
  generalize G_split_words = gi at *
  generalize G_read_number = gr at *
  simp! [hp, n1, n2]
theorem R_n3 (hx : x.length ≤ 1000) (h : badL x = false) (e : wdL x = [("plan" : Str), w1, w2, w3]) (h1 : nz w1 ≠ -1) (h2 : nz w2 ≠ -1) (h3 : nz w3 = -1) : G_Plan_read [aS x] = some (.ex 1 [.any]) := by
  have hp := P_split hx
  rw [h, if_neg (by decide), e] at hp
  have n1 := (P_n (wd_len hx w1 (by rw [e]; simp))).2 h1
  have n2 := (P_n (wd_len hx w2 (by rw [e]; simp))).2 h2
  have n3 := (P_n (wd_len hx w3 (by rw [e]; simp))).1 h3
  generalize nz w1 = b at *
  generalize nz w2 = m at *
  unfold G_Plan_read g_Plan_read
  generalize G_split_words = gi at *
  generalize G_read_number = gr at *
  simp! [hp, n1, n2, n3]
theorem R_val (hx : x.length ≤ 1000) (h : badL x = false) (e : wdL x = [("plan" : Str), w1, w2, w3]) (h1 : nz w1 ≠ -1) (h2 : nz w2 ≠ -1) (h3 : nz w3 ≠ -1) (hg : ¬ goodP (nz w1) (nz w2) (nz w3)) : G_Plan_read [aS x] = some (.ex 0 [.any]) := by
  have hp := P_split hx
  rw [h, if_neg (by decide), e] at hp
  have n1 := (P_n (wd_len hx w1 (by rw [e]; simp))).2 h1
  have n2 := (P_n (wd_len hx w2 (by rw [e]; simp))).2 h2
  have n3 := (P_n (wd_len hx w3 (by rw [e]; simp))).2 h3
  obtain ⟨t, hi⟩ := P_init_bad hg
  generalize nz w1 = b at *
  generalize nz w2 = m at *
  generalize nz w3 = p at *
  unfold G_Plan_read g_Plan_read
  generalize G_split_words = gi at *
  generalize G_read_number = gr at *
  generalize G_Plan_init = gp at *
  simp! [hp, n1, n2, n3, hi]
theorem R_ok (hx : x.length ≤ 1000) (h : badL x = false) (e : wdL x = [("plan" : Str), w1, w2, w3]) (h1 : nz w1 ≠ -1) (h2 : nz w2 ≠ -1) (h3 : nz w3 ≠ -1) (hg : goodP (nz w1) (nz w2) (nz w3)) : G_Plan_read [aS x] = some (.rt (planF .frz (nz w1) (nz w2) (nz w3)) [.any]) := by
  have hp := P_split hx
  rw [h, if_neg (by decide), e] at hp
  have n1 := (P_n (wd_len hx w1 (by rw [e]; simp))).2 h1
  have n2 := (P_n (wd_len hx w2 (by rw [e]; simp))).2 h2
  have n3 := (P_n (wd_len hx w3 (by rw [e]; simp))).2 h3
  have hi := P_init hg
  generalize nz w1 = b at *
  generalize nz w2 = m at *
  generalize nz w3 = p at *
  unfold G_Plan_read g_Plan_read
  generalize G_split_words = gi at *
  generalize G_read_number = gr at *
  generalize G_Plan_init = gp at *
  simp! [hp, n1, n2, n3, hi]
theorem LR_text (hp : G_Plan_read [aS x] = some (.ex 1 [.any])) : G_law_read_plan [aS x] = some (.rt (refT "BadText") [.any]) := by
  have er := fun a => @E_text a
  unfold G_law_read_plan g_law_read_plan
  generalize G_Plan_read = gi at *
  simp! []
  rw [sTry_ex (C := 1) (g' := [.tr (aS x), .no]) (o := .rt (refT "BadText") ⟨[.tr (aS x), .no], []⟩) rfl (by simp! [hp]) rfl (fun a => by simp! [suR, suC, er a])]
  simp! []
theorem LR_val (hp : G_Plan_read [aS x] = some (.ex 0 [.any])) : G_law_read_plan [aS x] = some (.rt (refT "BadValue") [.any]) := by
  have er := fun a => @E_value a
  unfold G_law_read_plan g_law_read_plan
  generalize G_Plan_read = gi at *
  simp! []
  rw [sTry_ex (C := 0) (g' := [.tr (aS x), .no]) (o := .rt (refT "BadValue") ⟨[.tr (aS x), .no], []⟩) rfl (by simp! [hp]) rfl (fun a => by simp! [suR, suC, er a])]
  simp! []
theorem LR_ok (hp : G_Plan_read [aS x] = some (.rt (planF .frz b m p) [.any])) : G_law_read_plan [aS x] = some (.rt (planF .frz b m p) [.any]) := by
  unfold G_law_read_plan g_law_read_plan
  generalize G_Plan_read = gi at *
  simp! []
  rw [sTry_no (o := .rt (planF .frz b m p) ⟨[.tr (aS x), .no], []⟩) rfl (by simp! [hp]) (fun C g z => by cases z)]
  simp! []
end
/-! what a line's plan is due to be -/
section
variable {b m p i : Int} {x : Str} {w0 w1 w2 w3 : Str} {t : Tr}
abbrev refN (e : Str) : Tr := .nd .tup .own [aS "refused", .nd .lst .lnt [aS e]]
theorem V_bad (hx : x.length ≤ 1000) (h : badL x = true) : G_law_plan_read [refN "BadText", aS x] = some (.rt (bT true) [.any, .any]) := by
  have hp := L_words hx
  rw [if_pos h] at hp
  have hs := same_ref "BadText"
  unfold G_law_plan_read g_law_plan_read
  generalize G_law_words = gi at *
  generalize G_law_same = gr at *
  simp! [hp, hs, -FIsi, isi_tup_tuple]
theorem V_len {L : List Str} (hx : x.length ≤ 1000) (h : badL x = false) (e : wdL x = L) (hl : L.length ≠ 4) : G_law_plan_read [refN "BadText", aS x] = some (.rt (bT true) [.any, .any]) := by
  have hp := L_words hx
  rw [h, if_neg (by decide), e] at hp
  have hs := same_ref "BadText"
  have hl' : ¬ (L.length : Int) = 4 := by omega
  unfold G_law_plan_read g_law_plan_read
  generalize G_law_words = gi at *
  generalize G_law_same = gr at *
  simp! [hp, hs, hl', -FIsi, isi_lst_tuple]
theorem V_w0 (hx : x.length ≤ 1000) (h : badL x = false) (e : wdL x = [w0, w1, w2, w3]) (h0 : w0 ≠ "plan") : G_law_plan_read [refN "BadText", aS x] = some (.rt (bT true) [.any, .any]) := by
  have hp := L_words hx
  rw [h, if_neg (by decide), e] at hp
  have hs := same_ref "BadText"
  unfold G_law_plan_read g_law_plan_read
  generalize G_law_words = gi at *
  generalize G_law_same = gr at *
  simp! [hp, hs, h0, -FIsi, isi_lst_tuple]
theorem c_nums (h1 : w1.length ≤ 1000) (h2 : w2.length ≤ 1000) (h3 : w3.length ≤ 1000) : gLc [4] (gSeq (gSeq (gSeq (gVar 2) (gSeq (gC (.int 1)) chkInt)) gNoP) (fSl true false)) (bind md_law_plan_read 4) (gC (.bl true)) e_law_plan_read_1 ⟨[.tr t, .tr (aS x), .tr (lsT .own [w0, w1, w2, w3]), .no, .no], []⟩ = some (.ok ⟨[.tr t, .tr (aS x), .tr (lsT .own [w0, w1, w2, w3]), .no, .no], [.tr (.nd .lst .own [iT (nz w1), iT (nz w2), iT (nz w3)])]⟩) := by
  have hh := gLcP_is (gs := (gSeq (gSeq (gSeq (gVar 2) (gSeq (gC (.int 1)) chkInt)) gNoP) (fSl true false))) (md := md_law_plan_read) (k := 4) (gt := gC (.bl true)) (ge := e_law_plan_read_1) (Γ := [.tr t, .tr (aS x), .tr (lsT .own [w0, w1, w2, w3]), .no, .no]) (s := []) (xs := [w1, w2, w3]) (enc := aS) (.tr (lsT .own [w1, w2, w3])) (.tr (lsT .lnt [w1, w2, w3])) .lst .lnt (by simp! [chkInt, gNoP, fSl, prt, cutG, cutT_tail]) (by rfl) (by rfl) (by rfl) (by simp) rfl (by rfl) (by simp! []) rfl rfl (fun w hw => by rfl) (fun _ => true) (fun w => iT (nz w)) (fun w hw s' => by rfl) (fun w hw s' _ => ⟨by
    have hn : w.length ≤ 1000 := by
      simp only [List.mem_cons, List.not_mem_nil, or_false] at hw
      rcases hw with rfl | rfl | rfl
      · exact h1
      · exact h2
      · exact h3
    have hl := L_number hn
    simp! [e_law_plan_read_1, hl], rfl⟩)
  exact hh
theorem fin3 (u v w : Int) : FIn false (.a (.int (-1))) (.nd .lst .own [iT u, iT v, iT w]) = some (.bl (decide ((-1 : Int) = u ∨ (-1 : Int) = v ∨ (-1 : Int) = w))) := by
  have h := FIn_l (neg := false) (o := .own) (-1) [u, v, w]
  simp at h
  simpa using h
theorem V_num (hx : x.length ≤ 1000) (h : badL x = false) (e : wdL x = [("plan" : Str), w1, w2, w3]) (h1 : nz w1 = -1 ∨ nz w2 = -1 ∨ nz w3 = -1) : G_law_plan_read [refN "BadText", aS x] = some (.rt (bT true) [.any, .any]) := by
  have hp := L_words hx
  rw [h, if_neg (by decide), e] at hp
  have hs := same_ref "BadText"
  have hc := c_nums (x := x) (w0 := "plan") (w1 := w1) (w2 := w2) (w3 := w3) (t := refN "BadText") (wd_len hx w1 (by rw [e]; simp)) (wd_len hx w2 (by rw [e]; simp)) (wd_len hx w3 (by rw [e]; simp))
  have hin : FIn false (.a (.int (-1))) (.nd .lst .own [iT (nz w1), iT (nz w2), iT (nz w3)]) = some (.bl true) := (fin3 _ _ _).trans (by rw [decide_eq_true (by omega)])
  generalize nz w1 = b at *
  generalize nz w2 = m at *
  generalize nz w3 = p at *
  unfold G_law_plan_read g_law_plan_read
  generalize G_law_words = gi at *
  generalize G_law_same = gr at *
  simp! [hp, hs, hc, hin, -FIn_l, -FIsi, isi_lst_tuple]
theorem V_val (hx : x.length ≤ 1000) (h : badL x = false) (e : wdL x = [("plan" : Str), w1, w2, w3]) (h1 : nz w1 ≠ -1) (h2 : nz w2 ≠ -1) (h3 : nz w3 ≠ -1) (hg : ¬ goodP (nz w1) (nz w2) (nz w3)) : G_law_plan_read [refN "BadValue", aS x] = some (.rt (bT true) [.any, .any]) := by
  have hp := L_words hx
  rw [h, if_neg (by decide), e] at hp
  have hs := same_ref "BadValue"
  have hc := c_nums (x := x) (w0 := "plan") (w1 := w1) (w2 := w2) (w3 := w3) (t := refN "BadValue") (wd_len hx w1 (by rw [e]; simp)) (wd_len hx w2 (by rw [e]; simp)) (wd_len hx w3 (by rw [e]; simp))
  have hin : FIn false (.a (.int (-1))) (.nd .lst .own [iT (nz w1), iT (nz w2), iT (nz w3)]) = some (.bl false) := (fin3 _ _ _).trans (by rw [decide_eq_false (by omega)])
  have hgd := L_good (b := nz w1) (m := nz w2) (p := nz w3)
  rw [decide_eq_false hg] at hgd
  generalize nz w1 = b at *
  generalize nz w2 = m at *
  generalize nz w3 = p at *
  unfold G_law_plan_read g_law_plan_read
  generalize G_law_words = gi at *
  generalize G_law_same = gr at *
  generalize G_law_good_plan = gg at *
  simp! [hp, hs, hc, hin, -FIn_l, hgd, -FIsi, isi_lst_tuple]
theorem V_ok (hx : x.length ≤ 1000) (h : badL x = false) (e : wdL x = [("plan" : Str), w1, w2, w3]) (h1 : nz w1 ≠ -1) (h2 : nz w2 ≠ -1) (h3 : nz w3 ≠ -1) (hg : goodP (nz w1) (nz w2) (nz w3)) : G_law_plan_read [planF .frz (nz w1) (nz w2) (nz w3), aS x] = some (.rt (bT true) [.any, .any]) := by
  have hp := L_words hx
  rw [h, if_neg (by decide), e] at hp
  have hc := c_nums (x := x) (w0 := "plan") (w1 := w1) (w2 := w2) (w3 := w3) (t := planF .frz (nz w1) (nz w2) (nz w3)) (wd_len hx w1 (by rw [e]; simp)) (wd_len hx w2 (by rw [e]; simp)) (wd_len hx w3 (by rw [e]; simp))
  have hin : FIn false (.a (.int (-1))) (.nd .lst .own [iT (nz w1), iT (nz w2), iT (nz w3)]) = some (.bl false) := (fin3 _ _ _).trans (by rw [decide_eq_false (by omega)])
  have hgd := L_good (b := nz w1) (m := nz w2) (p := nz w3)
  rw [decide_eq_true hg] at hgd
  have hi := L_is hg
  generalize nz w1 = b at *
  generalize nz w2 = m at *
  generalize nz w3 = p at *
  unfold G_law_plan_read g_law_plan_read
  generalize G_law_words = gi at *
  generalize G_law_is_plan = gr at *
  generalize G_law_good_plan = gg at *
  simp! [hp, hc, hin, -FIn_l, hgd, hi, -FIsi, isi_lst_tuple]
theorem RP (hx : x.length ≤ 1000) : (∃ e, G_law_read_plan [aS x] = some (.rt (refT e) [.any]) ∧ G_law_plan_read [refN e, aS x] = some (.rt (bT true) [.any, .any])) ∨ (∃ b m p, G_law_read_plan [aS x] = some (.rt (planF .frz b m p) [.any]) ∧ G_law_plan_read [planF .frz b m p, aS x] = some (.rt (bT true) [.any, .any])) := by
  cases h : badL x with
  | true => exact .inl ⟨_, LR_text (R_bad hx h), V_bad hx h⟩
  | false =>
    by_cases hl : (wdL x).length = 4
    · obtain ⟨w0, w1, w2, w3, e⟩ : ∃ w0 w1 w2 w3, wdL x = [w0, w1, w2, w3] := by
        match q : wdL x with
        | [w0, w1, w2, w3] => exact ⟨w0, w1, w2, w3, rfl⟩
        | [] => rw [q] at hl; cases hl
        | [_] => rw [q] at hl; cases hl
        | [_, _] => rw [q] at hl; cases hl
        | [_, _, _] => rw [q] at hl; cases hl
        | _ :: _ :: _ :: _ :: _ :: _ => rw [q] at hl; simp at hl
      by_cases h0 : w0 = "plan"
      · subst h0
        by_cases h1 : nz w1 = -1
        · exact .inl ⟨_, LR_text (R_n1 hx h e h1), V_num hx h e (.inl h1)⟩
        · by_cases h2 : nz w2 = -1
          · exact .inl ⟨_, LR_text (R_n2 hx h e h1 h2), V_num hx h e (.inr (.inl h2))⟩
          · by_cases h3 : nz w3 = -1
            · exact .inl ⟨_, LR_text (R_n3 hx h e h1 h2 h3), V_num hx h e (.inr (.inr h3))⟩
            · by_cases hg : goodP (nz w1) (nz w2) (nz w3)
              · exact .inr ⟨_, _, _, LR_ok (R_ok hx h e h1 h2 h3 hg), V_ok hx h e h1 h2 h3 hg⟩
              · exact .inl ⟨_, LR_val (R_val hx h e h1 h2 h3 hg), V_val hx h e h1 h2 h3 hg⟩
      · exact .inl ⟨_, LR_text (R_w0 hx h e h0), V_w0 hx h e h0⟩
    · exact .inl ⟨_, LR_text (R_len hx h rfl hl), V_len hx h rfl hl⟩
end
/-! signs and texts that are drawn -/
section
variable {fs : List Int} {x T : Str} {i : Int}
theorem ixsN (hx : x.length ≤ 1000) (h0 : 0 ≤ i) (h1 : i < x.length) : ∃ c, FIxS (.a (.str x)) (.a (.int i)) = some (.str (sg c)) := by
  have h2 : i.toNat < x.cps.size := by show i.toNat < x.length; omega
  refine ⟨x.cps[i.toNat], ?_⟩
  unfold FIxS
  dsimp only
  rw [if_pos ⟨h0, by omega, h1⟩, Array.getElem?_eq_getElem h2]
noncomputable def g_sn (T : Str) : GS := (sSeq (sSet md_law_sign 1 (gC (.str T)))
    (sSeq (sSet md_law_sign 2 (gSeq (gSeq (gVar 0) (gSeq (gC (.int 400)) gNil)) (gCall [0] md_law_pick G_law_pick 2)))
    (sSeq (sIf (gSeq (gSeq (gVar 2) (gC (.int 200))) fLt) (sRet (gSeq (gSeq (gVar 1) (gSeq (gSeq (gSeq (gSeq (gVar 2) gNil) fInt) (gC (.int 16))) fMod)) fIxS)) sNil)
    (sRet (gSeq (gSeq (gVar 1) (gSeq (gSeq (gSeq (gSeq (gVar 2) gNil) fInt) (gSeq (gSeq (gVar 1) gNil) fLen)) fMod)) fIxS)))))
abbrev sgT : Str := " 0123456789_+-.,abcdefghijklmnopqrstuvwxyzABCDEFGHIJKLMNOPQRSTUVWXYZ!\"#$&'()*/:;<=>?\x40[\\]^`{|}~"
theorem e_sn : g_law_sign = g_sn sgT := rfl
theorem sgT_len : 16 ≤ sgT.length ∧ sgT.length ≤ 1000 := by decide +kernel
theorem sn_any (hT : T.length ≤ 1000) (hT2 : 16 ≤ T.length) (hf : Feed fs) : ∃ c fs', runF md_law_sign 3 (g_sn T) [rowT fs] = some (.rt (aS (sg c)) [rowT fs']) ∧ Feed fs' := by
  obtain ⟨k, fs', hp, k0, k1, hf'⟩ := G_pick hf (n := 400) (by decide)
  have hz : T.length ≤ sizeLine := Nat.le_of_lt (size3 (by omega))
  have hz1 : (0 : Int) < T.length := by omega
  have hz2 : 0 < T.length := by omega
  obtain ⟨c1, h1⟩ := ixsN (x := T) (i := k % 16) hT (by omega) (by omega)
  obtain ⟨c2, h2⟩ := ixsN (x := T) (i := k % (T.length : Int)) hT (Int.emod_nonneg _ (by omega)) (Int.emod_lt_of_pos _ hz1)
  unfold g_sn
  by_cases c : k < 200
  · exact ⟨c1, fs', by simp! [hp, c, fIxS, h1], hf'⟩
  · exact ⟨c2, fs', by simp! [hp, c, fIxS, h2, hz, hz2], hf'⟩
theorem D_sign (hf : Feed fs) : ∃ c fs', G_law_sign [rowT fs] = some (.rt (aS (sg c)) [rowT fs']) ∧ Feed fs' := by
  unfold G_law_sign
  rw [e_sn]
  exact sn_any sgT_len.2 sgT_len.1 hf
theorem len_cat (a b : Str) : (a ++ b).length = a.length + b.length := by
  rw [cs_len, cs_len a, cs_len b, ← List.length_append, ← TL.tl_append]
theorem D_changed (hx : x.length ≤ 500) (hf : Feed fs) : ∃ y fs', G_law_changed [rowT fs, aS x] = some (.rt (aS y) [rowT fs', .any]) ∧ y.length ≤ 2 * x.length + 1 ∧ Feed fs' := by
  obtain ⟨k, f1, hp, k0, k1, hf1⟩ := G_pick hf (n := 8) (by decide)
  obtain ⟨q, f2, hq, q0, q1, hf2⟩ := G_pick hf1 (n := 1000) (by decide)
  obtain ⟨c, f3, hs, hf3⟩ := D_sign hf2
  have hz : x.length ≤ sizeLine := Nat.le_of_lt (size3 (by omega))
  have hz1 : (0 : Int) < (x.length : Int) + 1 := by omega
  have l1 := cutS_length x none (some (q % ((x.length : Int) + 1)))
  have l2 := cutS_length x (some (q % ((x.length : Int) + 1))) none
  have l3 := cutS_length x (some (q % ((x.length : Int) + 1) + 1)) none
  unfold G_law_changed g_law_changed
  generalize G_law_sign = gs at *
  generalize G_law_pick = gp at *
  generalize hA : cutS x none (some (q % ((x.length : Int) + 1))) = A at *
  generalize hB : cutS x (some (q % ((x.length : Int) + 1))) none = B at *
  generalize hC : cutS x (some (q % ((x.length : Int) + 1) + 1)) none = C at *
  have s1 : A.length + C.length ≤ sizeLine := Nat.le_of_lt (size3 (by omega))
  have s2 : A.length + (" " : Str).length ≤ sizeLine := Nat.le_of_lt (size3 (by have : (" " : Str).length = 1 := rfl; omega))
  have s3 : (A ++ (" " : Str)).length + B.length ≤ sizeLine := Nat.le_of_lt (size3 (by rw [len_cat]; have : (" " : Str).length = 1 := rfl; omega))
  have s4 : A.length + (sg c).length ≤ sizeLine := Nat.le_of_lt (size3 (by have : (sg c).length = 1 := rfl; omega))
  have s5 : (A ++ sg c).length + B.length ≤ sizeLine := Nat.le_of_lt (size3 (by rw [len_cat]; have : (sg c).length = 1 := rfl; omega))
  by_cases c1 : k < 3
  · exact ⟨x, f2, by simp! [hp, hq, hz, hz1, c1], by omega, hf2⟩
  by_cases c2 : k = 3
  · exact ⟨A ++ C, f2, by simp! [hp, hq, hz, hz1, c2, gNoP, chkInt, fSl, prt, cutG, hA, hC, s1], by rw [len_cat]; omega, hf2⟩
  by_cases c3 : k = 4
  · exact ⟨A ++ (" " : Str) ++ B, f2, by simp! [hp, hq, hz, hz1, c3, gNoP, chkInt, fSl, prt, cutG, hA, hB, s2, s3], by rw [len_cat, len_cat]; have : (" " : Str).length = 1 := rfl; omega, hf2⟩
  · exact ⟨A ++ sg c ++ B, f3, by simp! [hp, hq, hs, hz, hz1, c1, c2, c3, gNoP, chkInt, fSl, prt, cutG, hA, hB, s4, s5], by rw [len_cat, len_cat]; have : (sg c).length = 1 := rfl; omega, hf3⟩
end
/-! words that are drawn -/
section
variable {fs : List Int} {x T : Str} {i n : Int}
theorem FStrI_num (h : i13 n) : FStrI (.a (.int n)) = some (.str (tx (TL.numL n.toNat))) := by
  have h1 := h.1
  have h2 := h.2
  unfold FStrI
  dsimp only
  rw [if_pos (lt13 (by omega)), ← str_num h.1]
theorem mulK (v : Int) : cMul 1000 v = true := decide_eq_true (by unfold CMul; omega)
theorem mulM (v : Int) : cMul 1000000 v = true := decide_eq_true (by unfold CMul; omega)
theorem mulG (v : Int) : cMul 1000000000 v = true := decide_eq_true (by unfold CMul; omega)
theorem pow12 : FI cPow (fun i j => .int (i ^ j.toNat)) (.a (.int 10)) (.a (.int 12)) = some (.int 1000000000000) := by rfl
theorem D_word (hf : Feed fs) : ∃ n fs', G_law_word [rowT fs] = some (.rt (aS (tx (TL.numL n.toNat))) [rowT fs']) ∧ i13 n ∧ Feed fs' := by
  obtain ⟨c, f1, p1, c0, c1, hf1⟩ := G_pick hf (n := 8) (by decide)
  obtain ⟨v, f2, p2, v0, v1, hf2⟩ := G_pick hf1 (n := 1000) (by decide)
  obtain ⟨u, f3, p3, u0, u1, hf3⟩ := G_pick hf2 (n := 1000) (by decide)
  obtain ⟨t, f4, p4, t0, t1, hf4⟩ := G_pick hf3 (n := 1000) (by decide)
  obtain ⟨w, f5, p5, w0, w1, hf5⟩ := G_pick hf4 (n := 1000) (by decide)
  have m1 := fun {Γ s} => @fMul_int Γ s 1000 u (mulK _)
  have m2 := fun {Γ s} => @fMul_int Γ s 1000000 t (mulM _)
  have m3 := fun {Γ s} => @fMul_int Γ s 1000000000 w (mulG _)
  have pw : ∀ {Γ s}, fPow ⟨Γ, .tr (.a (.int 12)) :: .tr (.a (.int 10)) :: s⟩ = some (.ok ⟨Γ, .tr (.a (.int 1000000000000)) :: s⟩) := fun {Γ s} => by
    simp only [fPow, fP2, viewE, pow12]
  unfold G_law_word g_law_word
  generalize G_law_pick = gp at *
  by_cases q1 : 2 < c
  · by_cases q2 : 4 < c
    · by_cases q3 : c = 7
      · have hi : i13 (1000000000000 - 1 - (v + 1000 * u + 1000000 * t + 1000000000 * w)) := by unfold i13; omega
        have hS := FStrI_num hi
        refine ⟨_, f5, ?_, hi, hf5⟩
        generalize TL.numL (1000000000000 - 1 - (v + 1000 * u + 1000000 * t + 1000000000 * w)).toNat = N at *
        have hS' : FStrI (.a (.int (999999999999 - (v + 1000 * u + 1000000 * t + 1000000000 * w)))) = some (.str (tx N)) := by
          rw [← hS]
          congr 3
        simp! [p1, p2, p3, p4, p5, m1, m2, m3, pw, q1, q2, q3, fStrI, hS, hS']
      · have hi : i13 (v + 1000 * u + 1000000 * t + 1000000000 * w) := by unfold i13; omega
        have hS := FStrI_num hi
        refine ⟨_, f5, ?_, hi, hf5⟩
        generalize TL.numL (v + 1000 * u + 1000000 * t + 1000000000 * w).toNat = N at *
        simp! [p1, p2, p3, p4, p5, m1, m2, m3, pw, q1, q2, q3, fStrI, hS]
    · have hi : i13 (v + 1000 * u) := by unfold i13; omega
      have hS := FStrI_num hi
      have q3 : ¬ c = 7 := by omega
      refine ⟨_, f3, ?_, hi, hf3⟩
      generalize TL.numL (v + 1000 * u).toNat = N at *
      simp! [p1, p2, p3, m1, q1, q2, q3, fStrI, hS]
  · have hi : i13 v := by unfold i13; omega
    have hS := FStrI_num hi
    have q2 : ¬ 4 < c := by omega
    have q3 : ¬ c = 7 := by omega
    refine ⟨_, f2, ?_, hi, hf2⟩
    generalize TL.numL v.toNat = N at *
    simp! [p1, p2, q1, q2, q3, fStrI, hS]
theorem txn_len (h : i13 n) : (tx (TL.numL n.toNat)).length ≤ 13 := by
  rw [show (tx (TL.numL n.toNat)).length = (TL.numL n.toNat).length from SX.S_len _]
  exact num_len h.2
theorem D_any (hf : Feed fs) : ∃ y fs', G_law_any [rowT fs] = some (.rt (aS y) [rowT fs']) ∧ y.length ≤ 14 ∧ Feed fs' := by
  obtain ⟨c, f1, p1, c0, c1, hf1⟩ := G_pick hf (n := 3) (by decide)
  by_cases q1 : c = 0
  · obtain ⟨n, f2, hw, hn, hf2⟩ := D_word hf1
    have := txn_len hn
    refine ⟨tx (TL.numL n.toNat), f2, ?_, by omega, hf2⟩
    unfold G_law_any g_law_any
    generalize tx (TL.numL n.toNat) = W at *
    generalize G_law_pick = gp at *
    generalize G_law_word = gw at *
    simp! [p1, hw, q1]
  · obtain ⟨d, f2, hs, hf2⟩ := D_sign hf1
    have hl : (sg d).length = 1 := rfl
    by_cases q2 : c = 1
    · refine ⟨sg d, f2, ?_, by omega, hf2⟩
      unfold G_law_any g_law_any
      generalize sg d = D at *
      generalize G_law_pick = gp at *
      generalize G_law_sign = gw at *
      simp! [p1, hs, q2]
    · obtain ⟨n, f3, hw, hn, hf3⟩ := D_word hf2
      have := txn_len hn
      have s1 : (sg d).length + (tx (TL.numL n.toNat)).length ≤ sizeLine := Nat.le_of_lt (size3 (by omega))
      refine ⟨sg d ++ tx (TL.numL n.toNat), f3, ?_, by rw [len_cat]; omega, hf3⟩
      unfold G_law_any g_law_any
      generalize tx (TL.numL n.toNat) = W at *
      generalize sg d = D at *
      generalize G_law_pick = gp at *
      generalize G_law_sign = gs at *
      generalize G_law_word = gw at *
      simp! [p1, hs, hw, q1, q2, s1]
end
/-! words that are spoilt -/
section
variable {fs : List Int} {x T : Str} {i n k : Int}
theorem rep_len (h : k ≤ 13) : (repS ("0" : Str) k).length ≤ 13 := by
  unfold repS
  split
  · exact Nat.zero_le _
  · split
    · decide
    · show (List.foldl (fun x1 x2 => x1 ++ x2) #[] (List.replicate k.toNat ("0" : Str).cps)).size ≤ 13
      rw [fold_size, show ("0" : Str).cps.size = 1 from rfl]
      simp
      omega
theorem FRep_z (h0 : 0 ≤ k) (h : k ≤ 13) : FRepS (.a (.str ("0" : Str))) (.a (.int k)) = some (.str (repS ("0" : Str) k)) := by
  unfold FRepS
  dsimp only
  rw [if_pos ⟨by omega, by omega, by decide⟩]
theorem D_spoilt (hx : x.length ≤ 400) (hf : Feed fs) : ∃ y fs', G_law_spoilt [rowT fs, aS x] = some (.rt (aS y) [rowT fs', .any]) ∧ y.length ≤ 2 * x.length + 14 ∧ Feed fs' := by
  obtain ⟨c, f1, p1, c0, c1, hf1⟩ := G_pick hf (n := 8) (by decide)
  have hz : x.length ≤ sizeLine := Nat.le_of_lt (size3 (by omega))
  obtain ⟨y, f2, hc, hy, hf2⟩ := D_changed (x := x) (by omega) hf1
  have ha : ("0" : Str).length = 1 := rfl
  have hb : ("\n" : Str).length = 1 := rfl
  have s3 : ("0" : Str).length + x.length ≤ sizeLine := Nat.le_of_lt (size3 (by omega))
  have s4 : x.length + ("\n" : Str).length ≤ sizeLine := Nat.le_of_lt (size3 (by omega))
  unfold G_law_spoilt g_law_spoilt
  generalize G_law_pick = gp at *
  generalize G_law_changed = gc at *
  by_cases q0 : c = 0
  · exact ⟨x, f1, by simp! [p1, q0], by omega, hf1⟩
  by_cases q1 : c = 1
  · obtain ⟨K, hK0, hK1, hK⟩ : ∃ K : Int, 0 ≤ K ∧ K ≤ 13 ∧ (if 12 - (x.length : Int) > 0 then 12 - (x.length : Int) else 0) = K := ⟨_, by split <;> omega, by split <;> omega, rfl⟩
    have hr := FRep_z hK0 hK1
    have hl := rep_len hK1
    have hfm : ∀ {Γ s}, fMax ⟨Γ, .tr (.a (.int (12 - (x.length : Int)))) :: .tr (.a (.int 0)) :: s⟩ = some (.ok ⟨Γ, .tr (.a (.int K)) :: s⟩) := fun {Γ s} => by
      rw [← hK]
      rfl
    generalize repS ("0" : Str) K = R at *
    have s1 : x.length + R.length ≤ sizeLine := Nat.le_of_lt (size3 (by omega))
    exact ⟨x ++ R, f1, by simp! [p1, q1, hz, hfm, fRepS, hr, s1], by rw [len_cat]; omega, hf1⟩
  by_cases q2 : c = 2
  · obtain ⟨K, hK0, hK1, hK⟩ : ∃ K : Int, 0 ≤ K ∧ K ≤ 13 ∧ (if 13 - (x.length : Int) > 1 then 13 - (x.length : Int) else 1) = K := ⟨_, by split <;> omega, by split <;> omega, rfl⟩
    have hr := FRep_z hK0 hK1
    have hl := rep_len hK1
    have hfm : ∀ {Γ s}, fMax ⟨Γ, .tr (.a (.int (13 - (x.length : Int)))) :: .tr (.a (.int 1)) :: s⟩ = some (.ok ⟨Γ, .tr (.a (.int K)) :: s⟩) := fun {Γ s} => by
      rw [← hK]
      rfl
    generalize repS ("0" : Str) K = R at *
    have s1 : x.length + R.length ≤ sizeLine := Nat.le_of_lt (size3 (by omega))
    exact ⟨x ++ R, f1, by simp! [p1, q2, hz, hfm, fRepS, hr, s1], by rw [len_cat]; omega, hf1⟩
  by_cases q3 : c = 3
  · exact ⟨("0" : Str) ++ x, f1, by simp! [p1, q3, s3], by rw [len_cat]; omega, hf1⟩
  by_cases q4 : c = 4
  · exact ⟨("0" : Str) ++ x, f1, by simp! [p1, q4, s3], by rw [len_cat]; omega, hf1⟩
  by_cases q5 : c = 5
  · exact ⟨x ++ ("\n" : Str), f1, by simp! [p1, q5, s4], by rw [len_cat]; omega, hf1⟩
  · exact ⟨y, f2, by simp! [p1, hc, q0, q1, q2, q3, q4, q5], by omega, hf2⟩
theorem D_near {xs : List Int} {U : Int} (u0 : 1000000000010 ≤ U) (hx : xs ≠ []) (hl : xs.length ≤ 10) (hb : ∀ y ∈ xs, -1000 ≤ y ∧ y ≤ U) (hn : 0 < n) (hn2 : n ≤ 1000) (hf : Feed fs) : ∃ y fs', G_law_near [rowT fs, .nd .lst .lnt (xs.map iT), iT n] = some (.rt (iT y) [rowT fs', .any, .any]) ∧ (0 ≤ y ∧ y ≤ U + 2) ∧ Feed fs' := by
  obtain ⟨c, f1, p1, c0, c1, hf1⟩ := G_pick hf (n := 100) (by decide)
  have hz1 : 0 < xs.length := List.length_pos_iff.mpr hx
  unfold G_law_near g_law_near
  by_cases q0 : c < 40
  · obtain ⟨d, f2, p2, d0, d1, hf2⟩ := G_pick hf1 hn
    generalize G_law_pick = gp at *
    exact ⟨d, f2, by simp! [p1, p2, q0], by omega, hf2⟩
  by_cases q1 : c = 99
  · obtain ⟨d, f2, p2, d0, d1, hf2⟩ := G_pick hf1 (n := 12) (by decide)
    generalize G_law_pick = gp at *
    exact ⟨999999999990 + d, f2, by simp! [p1, p2, q1], by omega, hf2⟩
  · have m0 : 0 ≤ c % (xs.length : Int) := Int.emod_nonneg _ (by omega)
    have m1 : c % (xs.length : Int) < xs.length := Int.emod_lt_of_pos _ (by omega)
    have a1 : ixN xs.length (c % (xs.length : Int)) = some (c % (xs.length : Int)).toNat := ixN_len m0 m1
    have a2 : xs[(c % (xs.length : Int)).toNat]? = some xs[(c % (xs.length : Int)).toNat] := List.getElem?_eq_getElem (by omega)
    have hv := hb _ (List.getElem_mem (show (c % (xs.length : Int)).toNat < xs.length by omega))
    generalize xs[(c % (xs.length : Int)).toNat] = v at *
    generalize (c % (xs.length : Int)).toNat = J at *
    generalize hM : c % (xs.length : Int) = M at *
    have hi : 0 ≤ (if v + c / 10 % 3 - 1 > 0 then v + c / 10 % 3 - 1 else 0) ∧ (if v + c / 10 % 3 - 1 > 0 then v + c / 10 % 3 - 1 else 0) ≤ U + 2 := by split <;> omega
    have hfm : ∀ {Γ s}, fMax ⟨Γ, .tr (.a (.int (v + c / 10 % 3 - 1))) :: .tr (.a (.int 0)) :: s⟩ = some (.ok ⟨Γ, .tr (.a (.int (if v + c / 10 % 3 - 1 > 0 then v + c / 10 % 3 - 1 else 0))) :: s⟩) := fun {Γ s} => rfl
    refine ⟨_, f1, ?_, hi, hf1⟩
    generalize (if v + c / 10 % 3 - 1 > 0 then v + c / 10 % 3 - 1 else 0) = W at *
    generalize G_law_pick = gp at *
    simp! [p1, q0, q1, hz1, hM, a1, a2, hfm]
end
/-! a plan's line, changed -/
section
variable {fs : List Int} {x T : Str} {b m p : Int} {l r acc : List Nat}
theorem spw_cut : ∀ (l acc : List Nat), 32 ∉ l → spw acc (l ++ 32 :: r) = tx (acc ++ l) :: spw [] r
  | [], acc, _ => by rw [List.nil_append, spw, if_pos rfl, List.append_nil]
  | c :: l, acc, h => by
    rw [List.cons_append, spw, if_neg (fun q => h (by rw [q]; simp)), spw_cut l _ (fun q => h (List.mem_cons_of_mem _ q)), List.append_assoc]
    rfl
theorem spw_end : ∀ (l acc : List Nat), 32 ∉ l → spw acc l = [tx (acc ++ l)]
  | [], acc, _ => by rw [spw, List.append_nil]
  | c :: l, acc, h => by
    rw [spw, if_neg (fun q => h (by rw [q]; simp)), spw_end l _ (fun q => h (List.mem_cons_of_mem _ q)), List.append_assoc]
    rfl
abbrev nT (i : Int) : Str := tx (TL.numL i.toNat)
theorem split_pl : Txt.split (tx (plL b m p)) (" " : Str) = [("plan" : Str), nT b, nT m, nT p] := by
  have f := fun i : Int => TL.numL_free (n := i.toNat) (s := 32) (.inl (by decide))
  rw [split_wL]
  show spw [] (plL b m p) = _
  have e : plL b m p = [112, 108, 97, 110] ++ 32 :: (TL.numL b.toNat ++ 32 :: (TL.numL m.toNat ++ 32 :: TL.numL p.toNat)) := by
    unfold plL
    simp
  rw [e, spw_cut _ _ (by decide), spw_cut _ _ (f b), spw_cut _ _ (f m), spw_end _ _ (f p)]
  rfl
theorem joinL_len : ∀ ys : List (List Nat), (TL.joinL [32] ys).length ≤ (ys.map (·.length)).sum + ys.length
  | [] => by simp [TL.joinL]
  | [y] => by simp [TL.joinL]
  | y :: z :: ys => by
    have ih := joinL_len (z :: ys)
    simp only [TL.joinL, List.length_append, List.map_cons, List.sum_cons, List.length_cons] at ih ⊢
    simp at ih ⊢
    omega
theorem join_len (ys : List Str) : (Txt.join (" " : Str) ys).length ≤ (ys.map (·.length)).sum + ys.length := by
  have h := joinL_len (ys.map cs)
  rw [TL.join_eq, cs_len]
  have e : cs (Str.join (" " : Str) ys) = TL.joinL [32] (ys.map cs) := TL.tl_join _ _
  rw [e]
  refine Nat.le_trans h ?_
  rw [List.length_map, List.map_map]
  have e2 : ys.map ((fun x => x.length) ∘ cs) = ys.map (·.length) := List.map_congr_left fun y _ => (cs_len y).symm
  rw [e2]
  exact Nat.le_refl _
theorem FJ (ys : List Str) (h : (ys.map (·.length)).sum + ys.length ≤ 5000) : FJoin (.a (.str (" " : Str))) (lsT .own ys) = some (.str (Txt.join (" " : Str) ys)) :=
  FJoin_l " " .own ys (by
    have : (" " : Str).length = 1 := rfl
    rw [this]
    omega)
end
/-! a plan's line, changed: whole -/
section
variable {fs : List Int} {x w0 w1 w2 w3 : Str} {b m p : Int}
theorem D_line (hx : x.length ≤ 50) (hsp : Txt.split x (" " : Str) = [w0, w1, w2, w3]) (l0 : w0.length ≤ 13) (l1 : w1.length ≤ 13) (l2 : w2.length ≤ 13) (l3 : w3.length ≤ 13) (hf : Feed fs) : ∃ y fs', G_law_line [rowT fs, aS x] = some (.rt (aS y) [rowT fs', .any]) ∧ y.length ≤ 1000 ∧ Feed fs' := by
  obtain ⟨c, f1, p1, c0, c1, hf1⟩ := G_pick hf (n := 6) (by decide)
  obtain ⟨k, f2, p2, k0, k1, hf2⟩ := G_pick hf1 (n := 4) (by decide)
  have hspl : ∀ {Γ s}, fSplit ⟨Γ, .tr (.a (.str (" " : Str))) :: .tr (.a (.str x)) :: s⟩ = some (.ok ⟨Γ, .tr (lsT .own [w0, w1, w2, w3]) :: s⟩) := fun {Γ s} => by
    unfold fSplit
    simp only
    rw [if_pos ⟨by decide +kernel, by omega⟩, hsp]
  have j4 : (4 : Nat) < sizeLine := by decide
  have jf : ∀ ys : List Str, (ys.map (·.length)).sum + ys.length ≤ 900 → ∃ z : Str, z.length ≤ 900 ∧ FJoin (.a (.str (" " : Str))) (.nd .lst .own (ys.map aS)) = some (.str z) := fun ys h => ⟨_, Nat.le_trans (join_len ys) h, FJ ys (by omega)⟩
  have i0 : seqIndex? 0 4 = some 0 := by decide
  have i1 : seqIndex? 1 4 = some 1 := by decide
  have i2 : seqIndex? 2 4 = some 2 := by decide
  have i3 : seqIndex? 3 4 = some 3 := by decide
  have kk : k = 0 ∨ k = 1 ∨ k = 2 ∨ k = 3 := by omega
  unfold G_law_line g_law_line
  generalize G_law_pick = gp at *
  by_cases q0 : c = 0
  · subst q0
    generalize G_law_spoilt = gs at *
    generalize G_law_changed = gc at *
    rcases kk with rfl | rfl | rfl | rfl
    · obtain ⟨z, a3, a2⟩ := jf [w1, w2, w3] (by simp; omega)
      simp only [List.map_cons, List.map_nil] at a2
      exact ⟨z, f2, by simp! [p1, p2, hspl, chkS, i0, fJoin, a2], by omega, hf2⟩
    · obtain ⟨z, a3, a2⟩ := jf [w0, w2, w3] (by simp; omega)
      simp only [List.map_cons, List.map_nil] at a2
      exact ⟨z, f2, by simp! [p1, p2, hspl, chkS, i1, fJoin, a2], by omega, hf2⟩
    · obtain ⟨z, a3, a2⟩ := jf [w0, w1, w3] (by simp; omega)
      simp only [List.map_cons, List.map_nil] at a2
      exact ⟨z, f2, by simp! [p1, p2, hspl, chkS, i2, fJoin, a2], by omega, hf2⟩
    · obtain ⟨z, a3, a2⟩ := jf [w0, w1, w2] (by simp; omega)
      simp only [List.map_cons, List.map_nil] at a2
      exact ⟨z, f2, by simp! [p1, p2, hspl, chkS, i3, fJoin, a2], by omega, hf2⟩
  by_cases q1 : c = 1
  · subst q1
    generalize G_law_spoilt = gs at *
    generalize G_law_changed = gc at *
    rcases kk with rfl | rfl | rfl | rfl
    · obtain ⟨z, a3, a2⟩ := jf [w0, w0, w1, w2, w3] (by simp; omega)
      simp only [List.map_cons, List.map_nil] at a2
      exact ⟨z, f2, by simp! [p1, p2, hspl, chkS, fIns, j4, fJoin, a2], by omega, hf2⟩
    · obtain ⟨z, a3, a2⟩ := jf [w0, w1, w1, w2, w3] (by simp; omega)
      simp only [List.map_cons, List.map_nil] at a2
      exact ⟨z, f2, by simp! [p1, p2, hspl, chkS, fIns, j4, fJoin, a2], by omega, hf2⟩
    · obtain ⟨z, a3, a2⟩ := jf [w0, w1, w2, w2, w3] (by simp; omega)
      simp only [List.map_cons, List.map_nil] at a2
      exact ⟨z, f2, by simp! [p1, p2, hspl, chkS, fIns, j4, fJoin, a2], by omega, hf2⟩
    · obtain ⟨z, a3, a2⟩ := jf [w0, w1, w2, w3, w3] (by simp; omega)
      simp only [List.map_cons, List.map_nil] at a2
      exact ⟨z, f2, by simp! [p1, p2, hspl, chkS, fIns, j4, fJoin, a2], by omega, hf2⟩
  by_cases q2 : c < 5
  · rcases kk with rfl | rfl | rfl | rfl
    · obtain ⟨y, f3, hs, hy, hf3⟩ := D_spoilt (x := w0) (by omega) hf2
      generalize G_law_spoilt = gs at *
      generalize G_law_changed = gc at *
      obtain ⟨z, a3, a2⟩ := jf [y, w1, w2, w3] (by simp; omega)
      simp only [List.map_cons, List.map_nil] at a2
      exact ⟨z, f3, by simp! [p1, p2, hspl, chkS, hs, q0, q1, q2, fJoin, a2], by omega, hf3⟩
    · obtain ⟨y, f3, hs, hy, hf3⟩ := D_spoilt (x := w1) (by omega) hf2
      generalize G_law_spoilt = gs at *
      generalize G_law_changed = gc at *
      obtain ⟨z, a3, a2⟩ := jf [w0, y, w2, w3] (by simp; omega)
      simp only [List.map_cons, List.map_nil] at a2
      exact ⟨z, f3, by simp! [p1, p2, hspl, chkS, hs, q0, q1, q2, fJoin, a2], by omega, hf3⟩
    · obtain ⟨y, f3, hs, hy, hf3⟩ := D_spoilt (x := w2) (by omega) hf2
      generalize G_law_spoilt = gs at *
      generalize G_law_changed = gc at *
      obtain ⟨z, a3, a2⟩ := jf [w0, w1, y, w3] (by simp; omega)
      simp only [List.map_cons, List.map_nil] at a2
      exact ⟨z, f3, by simp! [p1, p2, hspl, chkS, hs, q0, q1, q2, fJoin, a2], by omega, hf3⟩
    · obtain ⟨y, f3, hs, hy, hf3⟩ := D_spoilt (x := w3) (by omega) hf2
      generalize G_law_spoilt = gs at *
      generalize G_law_changed = gc at *
      obtain ⟨z, a3, a2⟩ := jf [w0, w1, w2, y] (by simp; omega)
      simp only [List.map_cons, List.map_nil] at a2
      exact ⟨z, f3, by simp! [p1, p2, hspl, chkS, hs, q0, q1, q2, fJoin, a2], by omega, hf3⟩
  · obtain ⟨y, f3, hs, hy, hf3⟩ := D_changed (x := x) (by omega) hf2
    generalize G_law_spoilt = gs at *
    generalize G_law_changed = gc at *
    exact ⟨y, f3, by simp! [p1, p2, hspl, chkS, hs, q0, q1, q2], by omega, hf3⟩
end
/-! the law: numbers -/
section
variable {fs : List Int} {x : Str} {n : Int} {e1 e2 e3 e4 e5 : Ent}
theorem nb_turn (h2 : Nal e2) (h3 : Nal e3) (h4 : Nal e4) (h5 : Nal e5) (hf : Feed fs) {i : Int} : ∃ fs' e2' e3' e4' e5', Nal e2' ∧ Nal e3' ∧ Nal e4' ∧ Nal e5' ∧ Feed fs' ∧ b_law_numbers_1 ⟨[.tr (rowT fs), .tr (iT i), e2, e3, e4, e5], []⟩ = some (.nx ⟨[.tr (rowT fs'), .tr (iT i), e2', e3', e4', e5'], []⟩) := by
  obtain ⟨w, f1, hw, hi, hf1⟩ := D_word hf
  have hwl := txn_len hi
  generalize tx (TL.numL w.toNat) = W at *
  obtain ⟨y, f2, hy, hyl, hf2⟩ := D_spoilt (x := W) (by omega) hf1
  obtain ⟨k, f3, hk, k0, k1, hf3⟩ := G_pick hf2 (n := 3) (by decide)
  have hyl2 : y.length ≤ 1000 := by omega
  have hn := L_number hyl2
  have hz := numZ_le (cs y)
  have hb := fun n => L_rd_bad (x := y) (n := n) hyl2
  have ho := fun n => L_rd_ok (x := y) (n := n) hyl2
  have hsr := same_ref "BadText"
  have hsi := fun i => same_i i
  have hg : ∀ n, bdZ y n ↔ (numZ (cs y) = -1 ∨ n < numZ (cs y)) := fun n => Iff.rfl
  simp only [hg] at hb ho
  clear hg
  generalize numZ (cs y) = Z at *
  unfold b_law_numbers_1
  generalize G_law_word = g1 at *
  generalize G_law_spoilt = g2 at *
  generalize G_law_number = g3 at *
  generalize G_law_pick = g4 at *
  generalize G_law_read_number = g5 at *
  generalize G_law_same = g6 at *
  by_cases q : Z = -1
  · subst q
    have hm : ∀ {Γ s}, fMax ⟨Γ, .tr (.a (.int (-1 + k - 1))) :: .tr (.a (.int 0)) :: s⟩ = some (.ok ⟨Γ, .tr (.a (.int (if -1 + k - 1 > 0 then -1 + k - 1 else 0))) :: s⟩) := fun {Γ s} => rfl
    have hb1 := hb 999999999999 (.inl rfl)
    exact ⟨f3, .tr (aS y), .tr (iT (-1)), .tr (iT 999999999999), .tr (refT "BadText"), nal_tr, nal_tr, nal_tr, nal_tr, hf3, by simp! [h2.kr, h2.ke, h2.kj, h3.kr, h3.ke, h3.kj, h4.kr, h4.ke, h4.kj, h5.kr, h5.ke, h5.kj, hw, hy, hn, hk, hm, hb1, hsr]⟩
  · have z0 : 0 ≤ Z := by omega
    obtain ⟨M, hM⟩ : ∃ M, M = (if Z + k - 1 > 0 then Z + k - 1 else 0) := ⟨_, rfl⟩
    have hm : ∀ {Γ s}, fMax ⟨Γ, .tr (.a (.int (Z + k - 1))) :: .tr (.a (.int 0)) :: s⟩ = some (.ok ⟨Γ, .tr (.a (.int M)) :: s⟩) := fun {Γ s} => by
      rw [hM]
      rfl
    have ho2 := ho Z (by omega)
    have hs2 := hsi Z
    by_cases q2 : M < Z
    · have hb1 := hb M (.inr q2)
      exact ⟨f3, .tr (aS y), .tr (iT Z), .tr (iT M), .tr (refT "BadText"), nal_tr, nal_tr, nal_tr, nal_tr, hf3, by simp! [h2.kr, h2.ke, h2.kj, h3.kr, h3.ke, h3.kj, h4.kr, h4.ke, h4.kj, h5.kr, h5.ke, h5.kj, hw, hy, hn, hk, hm, hb1, hsr, q, q2, z0, ho2, hs2]⟩
    · have ho1 := ho M (by omega)
      exact ⟨f3, .tr (aS y), .tr (iT Z), .tr (iT M), .tr (iT Z), nal_tr, nal_tr, nal_tr, nal_tr, hf3, by simp! [h2.kr, h2.ke, h2.kj, h3.kr, h3.ke, h3.kj, h4.kr, h4.ke, h4.kj, h5.kr, h5.ke, h5.kj, hw, hy, hn, hk, hm, ho1, hsr, q, q2, z0, ho2, hs2]⟩
end
/-! the law: numbers and lines, whole -/
section
variable {fs : List Int} {x : Str} {n : Int} {e1 e2 e3 e4 e5 : Ent}
theorem L_numbers (hf : Feed fs) : ∃ fs', Feed fs' ∧ G_law_numbers [rowT fs] = some (.rt (bT true) [rowT fs']) := by
  obtain ⟨m', hl, fs', e1, e2, e3, e4, e5, n1, n2, n3, n4, n5, hf', rfl⟩ := loopR_nx (bd := bind md_law_numbers 1) (gs := b_law_numbers_1) (lo := 0) (n := 3)
    (fun _ m => ∃ fs e1 e2 e3 e4 e5, Nal e1 ∧ Nal e2 ∧ Nal e3 ∧ Nal e4 ∧ Nal e5 ∧ Feed fs ∧ m = ⟨[.tr (rowT fs), e1, e2, e3, e4, e5], []⟩)
    (m := ⟨[.tr (rowT fs), .no, .no, .no, .no, .no], []⟩) ⟨_, _, _, _, _, _, nal_no, nal_no, nal_no, nal_no, nal_no, hf, rfl⟩
    (by
      rintro i m hi ⟨gs, e1, e2, e3, e4, e5, n1, n2, n3, n4, n5, hg, rfl⟩
      obtain ⟨gs', f2, f3, f4, f5, m2, m3, m4, m5, hg', ht⟩ := nb_turn n2 n3 n4 n5 hg (i := 0 + (i : Int))
      exact ⟨⟨[.tr (rowT gs), .tr (iT (0 + (i : Int))), e2, e3, e4, e5], []⟩, _, by simp! [n1.kr, n2.kr, n3.kr, n4.kr, n5.kr], ht, _, _, _, _, _, _, nal_tr, m2, m3, m4, m5, hg', rfl⟩)
  refine ⟨fs', hf', ?_⟩
  have hF := (sForR1_e (g := (gSeq (gC (.int 3)) gNil)) (bd := bind md_law_numbers 1) (gs := b_law_numbers_1) (m := ⟨[.tr (rowT fs), .no, .no, .no, .no, .no], []⟩) (Γ := [.tr (rowT fs), .no, .no, .no, .no, .no]) (s := []) (n := 3) rfl (by decide) (by decide)).trans hl
  unfold G_law_numbers g_law_numbers
  rw [runF_e, sSeq_e]
  show fR _ (bS (sForR1 _ _ _ ⟨[.tr (rowT fs), .no, .no, .no, .no, .no], []⟩) _) = _
  rw [hF]
  simp! []
end
/-! the law: words of a line that is drawn -/
section
variable {fs : List Int} {x : Str} {n i : Int} {e2 e4 e5 e6 : Ent}
theorem anyl_loop (h2 : Nal e2) (h4 : Nal e4) (h5 : Nal e5) (h6 : Nal e6) (n0 : 0 ≤ n) (n1 : n < 7) (hf : Feed fs) : ∃ fs' L, Feed fs' ∧ (L.map (·.length)).sum + L.length ≤ 15 * 7 ∧ lcR [3] (bind md_law_lines 3) (gC (.bl true)) e_law_lines_1 0 n.toNat 0 ⟨[.tr (rowT fs), .tr (iT i), e2, .no, e4, e5, e6], [.tr (.nd .lst .own [])]⟩ = some ⟨[.tr (rowT fs'), .tr (iT i), e2, .no, e4, e5, e6], [.tr (lsT .own L)]⟩ := by
  obtain ⟨Γ', acc', h1, fs', L, rfl, rfl, hf', hl⟩ := lcR_inv (lo := 0) (n := n.toNat) (s := []) (cv := [3]) (bd := bind md_law_lines 3) (gt := gC (.bl true)) (ge := e_law_lines_1)
    (fun j Γ acc => ∃ fs L, Γ = [.tr (rowT fs), .tr (iT i), e2, .no, e4, e5, e6] ∧ acc = L.map aS ∧ Feed fs ∧ (L.map (·.length)).sum + L.length ≤ 15 * j)
    (by
      rintro j Γ acc hj ⟨gs, L, rfl, rfl, hg, hl⟩
      obtain ⟨y, gs', hy, hyl, hg'⟩ := D_any hg
      refine ⟨[.tr (rowT gs'), .tr (iT i), e2, .no, e4, e5, e6], (L ++ [y]).map aS, ?_, gs', L ++ [y], rfl, rfl, hg', ?_⟩
      · rw [List.map_append]
        have hsz : L.length < sizeLine := size3 (by omega)
        simp! [lcTurn, clrs, hsz, e_law_lines_1, hy, h2.kr, h2.ke, h2.kj, h4.kr, h5.kr, h6.kr, h4.ke, h5.ke, h6.ke, h4.kj, h5.kj, h6.kj]
      · simp
        omega)
    n.toNat 0 [.tr (rowT fs), .tr (iT i), e2, .no, e4, e5, e6] [] (by omega) ⟨fs, [], rfl, rfl, hf, by simp⟩
  exact ⟨fs', L, hf', by omega, h1⟩
end
/-! the law: lines -/
section
variable {fs : List Int} {x : Str} {n i : Int} {e2 e4 e5 e6 : Ent}
theorem ll_turn (h2 : Nal e2) (h4 : Nal e4) (h5 : Nal e5) (h6 : Nal e6) (hf : Feed fs) : ∃ fs' e2' e4' e5' e6', Nal e2' ∧ Nal e4' ∧ Nal e5' ∧ Nal e6' ∧ Feed fs' ∧ b_law_lines_1 ⟨[.tr (rowT fs), .tr (iT i), e2, .no, e4, e5, e6], []⟩ = some (.nx ⟨[.tr (rowT fs'), .tr (iT i), e2', .no, e4', e5', e6'], []⟩) := by
  obtain ⟨c, f1, p1, c0, c1, hf1⟩ := G_pick hf (n := 7) (by decide)
  obtain ⟨f2, L, hf2, hL, hlc⟩ := anyl_loop (i := i) h2 h4 h5 h6 c0 c1 hf1
  have hj := FJ L (by omega)
  have hjl := join_len L
  generalize Txt.join (" " : Str) L = J at *
  obtain ⟨y, f3, hy, hyl, hf3⟩ := D_changed (x := J) (by omega) hf2
  have hw := L_words (x := y) (by omega)
  have hs := L_split (x := y) (by omega)
  have hsr := same_ref "BadText"
  have hwl : (wdL y).length ≤ 3000 := by
    unfold wdL
    split
    · simp
    · have h1 := spw_len (cs y) []
      rw [← cs_len] at h1
      show (spw [] (cs y)).length ≤ 3000
      omega
  have hss := same_strs (o := .lnt) (o' := .lnt) (L := wdL y) (.inl rfl) (.inl rfl) (by omega)
  have hsz : (wdL y).length < sizeLine := size3 (by omega)
  have n2 : c < 4611686018427387904 := by omega
  have n3 : (-4611686018427387904 : Int) ≤ c := by omega
  generalize wdL y = W at *
  have hx := escL_str W
  unfold b_law_lines_1
  generalize e_law_lines_1 = el at *
  generalize G_law_pick = g1 at *
  generalize G_law_changed = g2 at *
  generalize G_law_words = g3 at *
  generalize G_law_split = g4 at *
  generalize G_law_same = g6 at *
  cases q : badL y with
  | true =>
    rw [q, if_pos rfl] at hw hs
    exact ⟨f3, .tr (lsT .own L), .tr (aS y), .tr (refT "BadText"), .tr (refT "BadText"), nal_tr, nal_tr, nal_tr, nal_tr, hf3, by simp! [h2.kr, h2.ke, h2.kj, h4.kr, h4.ke, h4.kj, h5.kr, h5.ke, h5.kj, h6.kr, h6.ke, h6.kj, p1, gLcR1, allNo, hlc, n2, n3, chkS, fJoin, hj, hy, hw, hs, hsr, -FIsi, isi_tup_list, escL_str]⟩
  | false =>
    rw [q, if_neg (by decide)] at hw hs
    exact ⟨f3, .tr (lsT .own L), .tr (aS y), .tr (lsT .own W), .tr (.nd .lst .own (W.map aS ++ [aS "a"])), nal_tr, nal_tr, nal_tr, nal_tr, hf3, by simp! [h2.kr, h2.ke, h2.kj, h4.kr, h4.ke, h4.kj, h5.kr, h5.ke, h5.kj, h6.kr, h6.ke, h6.kj, p1, gLcR1, allNo, hlc, n2, n3, chkS, fJoin, hj, hy, hw, hs, hss, hsz, hx, -FIsi, isi_lst_list, escL_str]⟩
end
/-! the law: lines, whole -/
section
variable {fs : List Int} {x : Str} {n : Int} {e1 e2 e3 e4 e5 : Ent}
theorem L_lines (hf : Feed fs) : ∃ fs', Feed fs' ∧ G_law_lines [rowT fs] = some (.rt (bT true) [rowT fs']) := by
  obtain ⟨m', hl, fs', e1, e2, e4, e5, e6, n1, n2, n4, n5, n6, hf', rfl⟩ := loopR_nx (bd := bind md_law_lines 1) (gs := b_law_lines_1) (lo := 0) (n := 2)
    (fun _ m => ∃ fs e1 e2 e4 e5 e6, Nal e1 ∧ Nal e2 ∧ Nal e4 ∧ Nal e5 ∧ Nal e6 ∧ Feed fs ∧ m = ⟨[.tr (rowT fs), e1, e2, .no, e4, e5, e6], []⟩)
    (m := ⟨[.tr (rowT fs), .no, .no, .no, .no, .no, .no], []⟩) ⟨_, _, _, _, _, _, nal_no, nal_no, nal_no, nal_no, nal_no, hf, rfl⟩
    (by
      rintro i m hi ⟨gs, e1, e2, e4, e5, e6, n1, n2, n4, n5, n6, hg, rfl⟩
      obtain ⟨gs', f2, f4, f5, f6, m2, m4, m5, m6, hg', ht⟩ := ll_turn n2 n4 n5 n6 hg (i := 0 + (i : Int))
      exact ⟨⟨[.tr (rowT gs), .tr (iT (0 + (i : Int))), e2, .no, e4, e5, e6], []⟩, _, by simp! [n1.kr, n2.kr, n4.kr, n5.kr, n6.kr], ht, _, _, _, _, _, _, nal_tr, m2, m4, m5, m6, hg', rfl⟩)
  refine ⟨fs', hf', ?_⟩
  have hF := (sForR1_e (g := (gSeq (gC (.int 2)) gNil)) (bd := bind md_law_lines 1) (gs := b_law_lines_1) (m := ⟨[.tr (rowT fs), .no, .no, .no, .no, .no, .no], []⟩) (Γ := [.tr (rowT fs), .no, .no, .no, .no, .no, .no]) (s := []) (n := 2) rfl (by decide) (by decide)).trans hl
  unfold G_law_lines g_law_lines
  rw [runF_e, sSeq_e]
  show fR _ (bS (sForR1 _ _ _ ⟨[.tr (rowT fs), .no, .no, .no, .no, .no, .no], []⟩) _) = _
  rw [hF]
  simp! []
end
/-! the law: plans, a turn -/
section
variable {fs : List Int} {x : Str} {b m p i : Int} {e1 e2 e3 e4 e5 e6 e7 e8 e9 e10 : Ent} {ts : List Tr}
abbrev refF (e : Str) : Tr := .nd .tup .own [aS "refused", .nd .lst .frz [aS e]]
theorem same_refF (s : Str) : G_law_same [refF s, refN s] = some (.rt (bT true) [.any, .any]) := by
  refine same_of (.inr ⟨.tup, .own, .own, _, _, .inr ⟨rfl, rfl, rfl⟩, .inr ⟨rfl, rfl, rfl⟩, rfl, rfl, rfl, by simp, fun j x y hx hy => ?_⟩)
  match j with
  | 0 =>
    cases hx; cases hy
    exact ⟨rfl, rfl, rfl, rfl, .inl ⟨_, rfl, rfl, trivial⟩⟩
  | 1 =>
    cases hx; cases hy
    exact ⟨rfl, rfl, rfl, rfl, sm_list (.inr rfl) (.inl rfl) (by simp) fun x hx => by
      rw [List.mem_singleton.mp hx]
      exact smx_a trivial⟩
  | j + 2 => simp at hx
theorem rp_call {Γ s : List Ent} {k : Nat} (hx : x.length ≤ 1000) (hk : ∀ s, gVar k ⟨Γ, s⟩ = some (.ok ⟨Γ, .tr (aS x) :: s⟩)) (hΓ : True) : (gSeq (gSeq (gSeq (gSeq (gVar k) gNil) (gCall [] md_law_read_plan G_law_read_plan 1)) (gSeq (gVar k) gNil)) (gCall [] md_law_plan_read G_law_plan_read 2)) ⟨Γ, s⟩ = some (.ok ⟨Γ, .tr (bT true) :: s⟩) := by
  rcases RP hx with ⟨e, h1, h2⟩ | ⟨b, m, p, h1, h2⟩
  · generalize G_law_read_plan = g1 at *
    generalize G_law_plan_read = g2 at *
    simp! [-gVar_e, hk, h1, h2]
  · generalize G_law_read_plan = g1 at *
    generalize G_law_plan_read = g2 at *
    simp! [-gVar_e, hk, h1, h2]
end
/-! the law: plans, the first turn's draws -/
section
variable {fs : List Int} {x : Str} {b m p i : Int}
theorem D_three (hf : Feed fs) : ∃ b m p f1 f2 f3, G_law_near [rowT fs, .nd .lst .lnt ([8, 64, 24, 10, 9].map iT), iT 71] = some (.rt (iT b) [rowT f1, .any, .any]) ∧ G_law_near [rowT f1, .nd .lst .lnt ([2, 16, b - mpZ b - 4].map iT), iT 19] = some (.rt (iT m) [rowT f2, .any, .any]) ∧ G_law_near [rowT f2, .nd .lst .lnt ([b + 1, 200].map iT), iT 211] = some (.rt (iT p) [rowT f3, .any, .any]) ∧ i13 b ∧ i13 m ∧ i13 p ∧ Feed f3 := by
  obtain ⟨b, f1, h1, hb, hf1⟩ := D_near (U := 1000000000010) (by decide) (xs := [8, 64, 24, 10, 9]) (n := 71) (by simp) (by simp) (by simp) (by decide) (by decide) hf
  have hw : 0 ≤ mpZ b ∧ mpZ b ≤ b + 1 := by simp only [mpZ]; omega
  obtain ⟨m, f2, h2, hm, hf2⟩ := D_near (U := 2000000000010) (by decide) (xs := [2, 16, b - mpZ b - 4]) (n := 19) (by simp) (by simp) (by
    intro y hy
    simp only [List.mem_cons, List.not_mem_nil, or_false] at hy
    rcases hy with rfl | rfl | rfl <;> omega) (by decide) (by decide) hf1
  obtain ⟨p, f3, h3, hp, hf3⟩ := D_near (U := 2000000000010) (by decide) (xs := [b + 1, 200]) (n := 211) (by simp) (by simp) (by
    intro y hy
    simp only [List.mem_cons, List.not_mem_nil, or_false] at hy
    rcases hy with rfl | rfl <;> omega) (by decide) (by decide) hf2
  exact ⟨b, m, p, f1, f2, f3, h1, h2, h3, by unfold i13; omega, by unfold i13; omega, by unfold i13; omega, hf3⟩
end
/-! the law: plans, a turn -/
section
variable {fs : List Int} {x : Str} {i : Int} {e3 e4 e5 e6 e7 e8 e9 e10 : Ent} {ts : List Tr}
theorem pl_line {b m p : Int} (q1 : i13 b) (q2 : i13 m) (q3 : i13 p) {f3 : List Int} (hf3 : Feed f3) : ∃ y f4, G_law_line [rowT f3, aS (tx (plL b m p))] = some (.rt (aS y) [rowT f4, .any]) ∧ y.length ≤ 1000 ∧ Feed f4 ∧ (tx (plL b m p)).length ≤ 1000 := by
  have hl := plL_len q1 q2 q3
  have hx : (tx (plL b m p)).length ≤ 50 := by
    rw [show (tx (plL b m p)).length = (plL b m p).length from SX.S_len _]
    omega
  have g : ∀ i, i13 i → (nT i).length ≤ 13 := fun i h => txn_len h
  obtain ⟨y, f4, h1, h2, h3⟩ := D_line (x := tx (plL b m p)) hx split_pl (by decide) (g b q1) (g m q2) (g p q3) hf3
  exact ⟨y, f4, h1, h2, h3, by omega⟩
end
/-! the law: plans, a turn in pieces -/
section
variable {fs : List Int} {x y : Str} {i b m p : Int} {e3 e4 e5 e6 e7 e8 e9 e10 : Ent} {ts : List Tr} {z : GS}
noncomputable def pt1 (z : GS) : GS := (sSeq (sSet md_law_plans 3 (gSeq (gSeq (gVar 0) (gSeq (gSeq (gSeq (gC (.int 8)) (gSeq (gC (.int 64)) (gSeq (gC (.int 24)) (gSeq (gC (.int 10)) (gSeq (gC (.int 9)) gNil))))) (fNew .lst 5)) (gSeq (gC (.int 71)) gNil))) (gCall [0] md_law_near G_law_near 3)))
    (sSeq (sSet md_law_plans 4 (gSeq (gSeq (gSeq (gSeq (gVar 3) (gC (.int 7))) fAdd) (gC (.int 8))) fDiv))
    (sSeq (sSet md_law_plans 5 (gSeq (gSeq (gVar 0) (gSeq (gSeq (gSeq (gC (.int 2)) (gSeq (gC (.int 16)) (gSeq (gSeq (gSeq (gSeq (gSeq (gVar 3) (gVar 4)) fSub) (gC (.int 4))) fSub) gNil))) (fNew .lst 3)) (gSeq (gC (.int 19)) gNil))) (gCall [0] md_law_near G_law_near 3)))
    (sSeq (sSet md_law_plans 6 (gSeq (gSeq (gVar 0) (gSeq (gSeq (gSeq (gSeq (gSeq (gVar 3) (gC (.int 1))) fAdd) (gSeq (gC (.int 200)) gNil)) (fNew .lst 2)) (gSeq (gC (.int 211)) gNil))) (gCall [0] md_law_near G_law_near 3)))
    z))))
noncomputable def pt2 (z : GS) : GS := (sSeq (sSet md_law_plans 7 (gSeq (gSeq (gSeq (gVar 3) (gSeq (gVar 5) (gSeq (gVar 6) gNil))) (gCall [] md_law_make G_law_make 3)) fFrz))
    (sSeq (sSet md_law_plans 8 (gSeq (gSeq (gVar 3) (gSeq (gVar 5) (gSeq (gVar 6) gNil))) (gCall [] md_law_good_plan G_law_good_plan 3)))
    (sSeq (sIf (gAnd (gVar 8) (gNot (gSeq (gSeq (gVar 7) (gSeq (gVar 3) (gSeq (gVar 5) (gSeq (gVar 6) gNil)))) (gCall [] md_law_is_plan G_law_is_plan 4)))) (sRet (gC (.bl false))) sNil)
    (sSeq (sIf (gAnd (gNot (gVar 8)) (gNot (gSeq (gSeq (gVar 7) (gSeq (gSeq (gSeq (gC (.str "refused")) (gSeq (gSeq (gSeq (gC (.str "BadValue")) gNil) (fNew .lst 1)) gNil)) (fNew .tup 2)) gNil)) (gCall [] md_law_same G_law_same 2)))) (sRet (gC (.bl false))) sNil)
    z))))
noncomputable def pt3 (z : GS) : GS := (sSeq (sSet md_law_plans 9 (gJs [(gC (.str "plan ")), (gSeq (gVar 3) fFmt), (gC (.str " ")), (gSeq (gVar 5) fFmt), (gC (.str " ")), (gSeq (gVar 6) fFmt)] Str.empty))
    (sSeq (sSet md_law_plans 10 (gSeq (gSeq (gVar 0) (gSeq (gVar 9) gNil)) (gCall [0] md_law_line G_law_line 2)))
    z))
noncomputable def pt4 (z : GS) : GS := (sSeq (sIf (gOrB (gNot (gSeq (gSeq (gSeq (gSeq (gVar 9) gNil) (gCall [] md_law_read_plan G_law_read_plan 1)) (gSeq (gVar 9) gNil)) (gCall [] md_law_plan_read G_law_plan_read 2))) (gNot (gSeq (gSeq (gSeq (gSeq (gVar 10) gNil) (gCall [] md_law_read_plan G_law_read_plan 1)) (gSeq (gVar 10) gNil)) (gCall [] md_law_plan_read G_law_plan_read 2)))) (sRet (gC (.bl false))) sNil)
    z)
noncomputable def pt5 : GS := (sExpr (gSeq (gVar 1) (gSeq chkL (gSeq (gSeq (gSeq (gSeq (gVar 7) (gSeq (gVar 3) (gSeq (gVar 5) (gSeq (gVar 6) (gSeq (gVar 8) gNil))))) (fNew .tup 5)) gNil) fApp))))
theorem e_pt : b_law_plans_1 = pt1 (pt2 (pt3 (pt4 pt5))) := rfl
theorem e_pt1 (h3 : Nal e3) (h4 : Nal e4) (h5 : Nal e5) (h6 : Nal e6) (h7 : Nal e7) (h8 : Nal e8) (h9 : Nal e9) (h10 : Nal e10) (hf : Feed fs) : ∃ b m p f3, i13 b ∧ i13 m ∧ i13 p ∧ Feed f3 ∧ ∀ z, pt1 z ⟨[.tr (rowT fs), .tr (.nd .lst .own ts), .tr (iT i), e3, e4, e5, e6, e7, e8, e9, e10], []⟩ = z ⟨[.tr (rowT f3), .tr (.nd .lst .own ts), .tr (iT i), .tr (iT b), .tr (iT (mpZ b)), .tr (iT m), .tr (iT p), e7, e8, e9, e10], []⟩ := by
  obtain ⟨b, m, p, f1, f2, f3, p1, p2, p3, q1, q2, q3, hf3⟩ := D_three hf
  refine ⟨b, m, p, f3, q1, q2, q3, hf3, fun z => ?_⟩
  simp only [List.map_cons, List.map_nil] at p1 p2 p3
  unfold pt1
  generalize G_law_near = g1 at *
  simp! [p1, p2, p3, h3.kr, h3.ke, h3.kj, h4.kr, h4.ke, h4.kj, h5.kr, h5.ke, h5.kj, h6.kr, h6.ke, h6.kj, h7.kr, h7.ke, h7.kj, h8.kr, h8.ke, h8.kj, h9.kr, h9.ke, h9.kj, h10.kr, h10.ke, h10.kj]
end
/-! the law: plans, the made plan looked at -/
section
variable {fs : List Int} {x y : Str} {i b m p : Int} {e3 e4 e5 e6 e7 e8 e9 e10 : Ent} {ts : List Tr} {z : GS}
def mdK (b m p : Int) (T : Tr) (g : Bool) : Prop := (goodP b m p ∧ T = planF .frz b m p ∧ g = true) ∨ (¬ goodP b m p ∧ T = refF "BadValue" ∧ g = false)
theorem e_pt2 (h7 : Nal e7) (h8 : Nal e8) (h9 : Nal e9) (h10 : Nal e10) : ∃ T g, mdK b m p T g ∧ ∀ z, pt2 z ⟨[.tr (rowT fs), .tr (.nd .lst .own ts), .tr (iT i), .tr (iT b), .tr (iT (mpZ b)), .tr (iT m), .tr (iT p), e7, e8, e9, e10], []⟩ = z ⟨[.tr (rowT fs), .tr (.nd .lst .own ts), .tr (iT i), .tr (iT b), .tr (iT (mpZ b)), .tr (iT m), .tr (iT p), .tr T, .tr (bT g), e9, e10], []⟩ := by
  have hg := L_good (b := b) (m := m) (p := p)
  by_cases h : goodP b m p
  · rw [decide_eq_true h] at hg
    have hm := L_make h
    have hi := L_is h
    refine ⟨planF .frz b m p, true, .inl ⟨h, rfl, rfl⟩, fun z => ?_⟩
    unfold pt2
    generalize G_law_make = g1 at *
    generalize G_law_good_plan = g2 at *
    generalize G_law_is_plan = g3 at *
    simp! [hg, hm, hi, h7.kr, h7.ke, h7.kj, h8.kr, h8.ke, h8.kj, h9.kr, h9.ke, h9.kj, h10.kr, h10.ke, h10.kj]
  · rw [decide_eq_false h] at hg
    have hm := L_make_bad h
    have hs := same_refF "BadValue"
    refine ⟨refF "BadValue", false, .inr ⟨h, rfl, rfl⟩, fun z => ?_⟩
    unfold pt2
    generalize G_law_make = g1 at *
    generalize G_law_good_plan = g2 at *
    generalize G_law_same = g3 at *
    simp! [hg, hm, hs, h7.kr, h7.ke, h7.kj, h8.kr, h8.ke, h8.kj, h9.kr, h9.ke, h9.kj, h10.kr, h10.ke, h10.kj]
end
/-! the law: plans, the line read -/
section
variable {fs : List Int} {x y : Str} {i b m p : Int} {e9 e10 : Ent} {ts : List Tr} {z : GS} {T : Tr} {g : Bool}
theorem e_pt3 (q1 : i13 b) (q2 : i13 m) (q3 : i13 p) (h9 : Nal e9) (h10 : Nal e10) (hf : Feed fs) : ∃ x y f4, x.length ≤ 1000 ∧ y.length ≤ 1000 ∧ Feed f4 ∧ ∀ z, pt3 z ⟨[.tr (rowT fs), .tr (.nd .lst .own ts), .tr (iT i), .tr (iT b), .tr (iT (mpZ b)), .tr (iT m), .tr (iT p), .tr T, .tr (bT g), e9, e10], []⟩ = z ⟨[.tr (rowT f4), .tr (.nd .lst .own ts), .tr (iT i), .tr (iT b), .tr (iT (mpZ b)), .tr (iT m), .tr (iT p), .tr T, .tr (bT g), .tr (aS x), .tr (aS y)], []⟩ := by
  obtain ⟨y, f4, h1, h2, h3, h4⟩ := pl_line q1 q2 q3 hf
  have hj := js_plan (Γ := [.tr (rowT fs), .tr (.nd .lst .own ts), .tr (iT i), .tr (iT b), .tr (iT (mpZ b)), .tr (iT m), .tr (iT p), .tr T, .tr (bT g), e9, e10]) (s := []) (ga := (gVar 3)) (gb := (gVar 5)) (gc := (gVar 6)) q1 q2 q3 rfl rfl rfl
  refine ⟨tx (plL b m p), y, f4, h4, h2, h3, fun z => ?_⟩
  unfold pt3
  generalize G_law_line = g1 at *
  generalize tx (plL b m p) = X at *
  simp! [hj, h1, h9.kr, h9.ke, h9.kj, h10.kr, h10.ke, h10.kj]
theorem e_pt4 (hx : x.length ≤ 1000) (hy : y.length ≤ 1000) : pt4 z ⟨[.tr (rowT fs), .tr (.nd .lst .own ts), .tr (iT i), .tr (iT b), .tr (iT (mpZ b)), .tr (iT m), .tr (iT p), .tr T, .tr (bT g), .tr (aS x), .tr (aS y)], []⟩ = z ⟨[.tr (rowT fs), .tr (.nd .lst .own ts), .tr (iT i), .tr (iT b), .tr (iT (mpZ b)), .tr (iT m), .tr (iT p), .tr T, .tr (bT g), .tr (aS x), .tr (aS y)], []⟩ := by
  have r1 := rp_call (x := x) (k := 9) (Γ := [.tr (rowT fs), .tr (.nd .lst .own ts), .tr (iT i), .tr (iT b), .tr (iT (mpZ b)), .tr (iT m), .tr (iT p), .tr T, .tr (bT g), .tr (aS x), .tr (aS y)]) (s := []) hx (fun s => rfl) trivial
  have r2 := rp_call (x := y) (k := 10) (Γ := [.tr (rowT fs), .tr (.nd .lst .own ts), .tr (iT i), .tr (iT b), .tr (iT (mpZ b)), .tr (iT m), .tr (iT p), .tr T, .tr (bT g), .tr (aS x), .tr (aS y)]) (s := []) hy (fun s => rfl) trivial
  unfold pt4
  generalize (gSeq (gSeq (gSeq (gSeq (gVar 9) gNil) (gCall [] md_law_read_plan G_law_read_plan 1)) (gSeq (gVar 9) gNil)) (gCall [] md_law_plan_read G_law_plan_read 2)) = A at *
  generalize (gSeq (gSeq (gSeq (gSeq (gVar 10) gNil) (gCall [] md_law_read_plan G_law_read_plan 1)) (gSeq (gVar 10) gNil)) (gCall [] md_law_plan_read G_law_plan_read 2)) = B at *
  simp! [r1, r2]
end
/-! the law: plans, the turn's end -/
section
variable {fs : List Int} {x y : Str} {i b m p : Int} {e3 e4 e5 e6 e7 e8 e9 e10 : Ent} {ts : List Tr} {z : GS} {T : Tr} {g : Bool}
abbrev tpT (T : Tr) (b m p : Int) (g : Bool) : Tr := .nd .tup .own [T, iT b, iT m, iT p, bT g]
theorem e_pt5 (hT : mdK b m p T g) (hl : ts.length ≤ 10) : pt5 ⟨[.tr (rowT fs), .tr (.nd .lst .own ts), .tr (iT i), .tr (iT b), .tr (iT (mpZ b)), .tr (iT m), .tr (iT p), .tr T, .tr (bT g), .tr (aS x), .tr (aS y)], []⟩ = some (.nx ⟨[.tr (rowT fs), .tr (.nd .lst .own (ts ++ [tpT T b m p g])), .tr (iT i), .tr (iT b), .tr (iT (mpZ b)), .tr (iT m), .tr (iT p), .tr T, .tr (bT g), .tr (aS x), .tr (aS y)], []⟩) := by
  have hz : ts.length < sizeLine := size3 (by omega)
  unfold pt5
  rcases hT with ⟨_, rfl, rfl⟩ | ⟨_, rfl, rfl⟩
  · simp! [hz]
  · simp! [hz]
end
/-! the law: plans, the first loop -/
section
variable {fs : List Int} {x y : Str} {i b m p : Int} {e3 e4 e5 e6 e7 e8 e9 e10 : Ent} {ts : List Tr}
def tpOk (t : Tr) : Prop := ∃ b m p T g, mdK b m p T g ∧ t = tpT T b m p g
theorem pl_turn (h3 : Nal e3) (h4 : Nal e4) (h5 : Nal e5) (h6 : Nal e6) (h7 : Nal e7) (h8 : Nal e8) (h9 : Nal e9) (h10 : Nal e10) (hl : ts.length ≤ 10) (hf : Feed fs) :
    ∃ fs' t f3 f4 f5 f6 f7 f8 f9 f10, Nal f3 ∧ Nal f4 ∧ Nal f5 ∧ Nal f6 ∧ Nal f7 ∧ Nal f8 ∧ Nal f9 ∧ Nal f10 ∧ tpOk t ∧ Feed fs' ∧ b_law_plans_1 ⟨[.tr (rowT fs), .tr (.nd .lst .own ts), .tr (iT i), e3, e4, e5, e6, e7, e8, e9, e10], []⟩ = some (.nx ⟨[.tr (rowT fs'), .tr (.nd .lst .own (ts ++ [t])), .tr (iT i), f3, f4, f5, f6, f7, f8, f9, f10], []⟩) := by
  obtain ⟨b, m, p, g3, q1, q2, q3, hg3, a1⟩ := e_pt1 (ts := ts) (i := i) h3 h4 h5 h6 h7 h8 h9 h10 hf
  obtain ⟨T, g, hT, a2⟩ := e_pt2 (fs := g3) (ts := ts) (i := i) (b := b) (m := m) (p := p) h7 h8 h9 h10
  obtain ⟨x, y, g4, hx, hy, hg4, a3⟩ := e_pt3 (ts := ts) (i := i) (T := T) (g := g) q1 q2 q3 h9 h10 hg3
  refine ⟨g4, tpT T b m p g, .tr (iT b), .tr (iT (mpZ b)), .tr (iT m), .tr (iT p), .tr T, .tr (bT g), .tr (aS x), .tr (aS y), nal_tr, nal_tr, nal_tr, nal_tr, nal_tr, nal_tr, nal_tr, nal_tr, ⟨b, m, p, T, g, hT, rfl⟩, hg4, ?_⟩
  rw [e_pt, a1, a2, a3, e_pt4 hx hy, e_pt5 hT hl]
end
/-! the law: plans, the first loop -/
section
variable {fs : List Int}
theorem pl_loop (hf : Feed fs) : ∃ fs' ts e2 f3 f4 f5 f6 f7 f8 f9 f10, Nal e2 ∧ Nal f3 ∧ Nal f4 ∧ Nal f5 ∧ Nal f6 ∧ Nal f7 ∧ Nal f8 ∧ Nal f9 ∧ Nal f10 ∧ (∀ t ∈ ts, tpOk t) ∧ ts.length ≤ 2 ∧ Feed fs' ∧ loopR (bind md_law_plans 2) b_law_plans_1 0 2 0 ⟨[.tr (rowT fs), .tr (.nd .lst .own []), .no, .no, .no, .no, .no, .no, .no, .no, .no], []⟩ = some (.nx ⟨[.tr (rowT fs'), .tr (.nd .lst .own ts), e2, f3, f4, f5, f6, f7, f8, f9, f10], []⟩) := by
  obtain ⟨m', hl, fs', ts, e2, f3, f4, f5, f6, f7, f8, f9, f10, n2, n3, n4, n5, n6, n7, n8, n9, n10, ok, hlen, hf', rfl⟩ := loopR_nx (bd := bind md_law_plans 2) (gs := b_law_plans_1) (lo := 0) (n := 2)
    (fun i m => ∃ fs ts e2 f3 f4 f5 f6 f7 f8 f9 f10, Nal e2 ∧ Nal f3 ∧ Nal f4 ∧ Nal f5 ∧ Nal f6 ∧ Nal f7 ∧ Nal f8 ∧ Nal f9 ∧ Nal f10 ∧ (∀ t ∈ ts, tpOk t) ∧ ts.length ≤ i ∧ Feed fs ∧ m = ⟨[.tr (rowT fs), .tr (.nd .lst .own ts), e2, f3, f4, f5, f6, f7, f8, f9, f10], []⟩)
    (m := ⟨[.tr (rowT fs), .tr (.nd .lst .own []), .no, .no, .no, .no, .no, .no, .no, .no, .no], []⟩) ⟨_, [], _, _, _, _, _, _, _, _, _, nal_no, nal_no, nal_no, nal_no, nal_no, nal_no, nal_no, nal_no, nal_no, (fun t ht => by cases ht), by simp, hf, rfl⟩
    (by
      rintro i m hi ⟨gs, ts, e2, f3, f4, f5, f6, f7, f8, f9, f10, n2, n3, n4, n5, n6, n7, n8, n9, n10, ok, hlen, hg, rfl⟩
      obtain ⟨gs', t, g3, g4, g5, g6, g7, g8, g9, g10, m3, m4, m5, m6, m7, m8, m9, m10, ht, hg', he⟩ := pl_turn (ts := ts) (i := 0 + (i : Int)) n3 n4 n5 n6 n7 n8 n9 n10 (by omega) hg
      exact ⟨⟨[.tr (rowT gs), .tr (.nd .lst .own ts), .tr (iT (0 + (i : Int))), f3, f4, f5, f6, f7, f8, f9, f10], []⟩, _, by simp! [n2.kr, n3.kr, n4.kr, n5.kr, n6.kr, n7.kr, n8.kr, n9.kr, n10.kr], he, gs', ts ++ [t], _, g3, g4, g5, g6, g7, g8, g9, g10, nal_tr, m3, m4, m5, m6, m7, m8, m9, m10, (fun u hu => by
        rcases List.mem_append.mp hu with hu | hu
        · exact ok u hu
        · rw [List.mem_singleton.mp hu]; exact ht), by simp; omega, hg', rfl⟩)
  exact ⟨fs', ts, e2, f3, f4, f5, f6, f7, f8, f9, f10, n2, n3, n4, n5, n6, n7, n8, n9, n10, ok, hlen, hf', hl⟩
end
/-! the law: plans, the second loop's turn -/
section
variable {fs : List Int} {b m p : Int} {e2 e3 e4 e5 e6 e7 e8 e9 e10 : Ent} {ts : List Tr} {T : Tr} {g : Bool}
theorem p2_turn (hT : mdK b m p T g) : b_law_plans_2 ⟨[.tr (rowT fs), .tr (.nd .lst .own ts), e2, .tr (iT b), e4, .tr (iT m), .tr (iT p), .tr T, .tr (bT g), e9, e10], [.al [1]]⟩ = some (.nx ⟨[.tr (rowT fs), .tr (.nd .lst .own ts), e2, .tr (iT b), e4, .tr (iT m), .tr (iT p), .tr T, .tr (bT g), e9, e10], [.al [1]]⟩) := by
  unfold b_law_plans_2
  rcases hT with ⟨h, rfl, rfl⟩ | ⟨h, rfl, rfl⟩
  · have hi := L_is h
    generalize G_law_is_plan = g3 at *
    simp! [hi]
  · simp! []
theorem p2_unp (hT : mdK b m p T g) (h2 : Nal e2) (h3 : Nal e3) (h4 : Nal e4) (h5 : Nal e5) (h6 : Nal e6) (h7 : Nal e7) (h8 : Nal e8) (h9 : Nal e9) (h10 : Nal e10) : unpk md_law_plans [7, 3, 5, 6, 8] ⟨[.tr (rowT fs), .tr (.nd .lst .own ts), e2, e3, e4, e5, e6, e7, e8, e9, e10], .tr (kid .own (tpT T b m p g)) :: [.al [1]]⟩ = some ⟨[.tr (rowT fs), .tr (.nd .lst .own ts), e2, .tr (iT b), e4, .tr (iT m), .tr (iT p), .tr T, .tr (bT g), e9, e10], [.al [1]]⟩ := by
  rcases hT with ⟨h, rfl, rfl⟩ | ⟨h, rfl, rfl⟩
  · simp! [h2.kr, h3.kr, h4.kr, h5.kr, h6.kr, h7.kr, h8.kr, h9.kr, h10.kr]
  · simp! [h2.kr, h3.kr, h4.kr, h5.kr, h6.kr, h7.kr, h8.kr, h9.kr, h10.kr]
end
/-! the law: plans, whole -/
section
variable {fs : List Int} {ts : List Tr}
theorem L_plans (hf : Feed fs) : ∃ fs', Feed fs' ∧ G_law_plans [rowT fs] = some (.rt (bT true) [rowT fs']) := by
  obtain ⟨fs', ts, e2, f3, f4, f5, f6, f7, f8, f9, f10, n2, n3, n4, n5, n6, n7, n8, n9, n10, ok, hlen, hf', hl⟩ := pl_loop hf
  refine ⟨fs', hf', ?_⟩
  have hcp : ∀ x ∈ ts, cp (kid .own x) = true := fun x hx => by
    obtain ⟨b, m, p, T, g, hT, rfl⟩ := ok x hx
    rcases hT with ⟨h, rfl, rfl⟩ | ⟨h, rfl, rfl⟩ <;> rfl
  obtain ⟨Γ', hI, h2⟩ := loopE_allI (xs := ts) (enc := id) (.al [1]) .lst .own (s := []) (t := bT true) (bd := unpk md_law_plans [7, 3, 5, 6, 8]) (gs := b_law_plans_2)
    (fun Γ => ∃ e2 e3 e4 e5 e6 e7 e8 e9 e10, Nal e2 ∧ Nal e3 ∧ Nal e4 ∧ Nal e5 ∧ Nal e6 ∧ Nal e7 ∧ Nal e8 ∧ Nal e9 ∧ Nal e10 ∧ Γ = [.tr (rowT fs'), .tr (.nd .lst .own ts), e2, e3, e4, e5, e6, e7, e8, e9, e10])
    (by rintro Γ ⟨_, _, _, _, _, _, _, _, _, _, _, _, _, _, _, _, _, _, rfl⟩; rw [List.map_id]; rfl) rfl hcp (fun _ => true)
    (by
      rintro x hx Γ ⟨e2, e3, e4, e5, e6, e7, e8, e9, e10, n2, n3, n4, n5, n6, n7, n8, n9, n10, rfl⟩
      obtain ⟨b, m, p, T, g, hT, rfl⟩ := ok x hx
      exact ⟨_, _, p2_unp hT n2 n3 n4 n5 n6 n7 n8 n9 n10, ⟨_, _, _, _, _, _, _, _, _, n2, nal_tr, n4, nal_tr, nal_tr, nal_tr, nal_tr, n9, n10, rfl⟩, by rw [if_pos rfl]; exact p2_turn hT⟩)
    (Γ := [.tr (rowT fs'), .tr (.nd .lst .own ts), e2, f3, f4, f5, f6, f7, f8, f9, f10]) ⟨_, _, _, _, _, _, _, _, _, n2, n3, n4, n5, n6, n7, n8, n9, n10, rfl⟩
  obtain ⟨a2, a3, a4, a5, a6, a7, a8, a9, a10, _, _, _, _, _, _, _, _, _, rfl⟩ := hI
  rw [if_pos (by simp)] at h2
  have hF := (sForR1_e (g := (gSeq (gC (.int 2)) gNil)) (bd := bind md_law_plans 2) (gs := b_law_plans_1) (m := ⟨[.tr (rowT fs), .tr (.nd .lst .own []), .no, .no, .no, .no, .no, .no, .no, .no, .no], []⟩) (Γ := [.tr (rowT fs), .tr (.nd .lst .own []), .no, .no, .no, .no, .no, .no, .no, .no, .no]) (s := []) (n := 2) rfl (by decide) (by decide)).trans hl
  unfold G_law_plans g_law_plans
  simp! [hF, sFor, h2]
end
/-! the law -/
section
theorem wd_emp : wdL ("" : Str) = [] := if_pos rfl
theorem bad_emp : badL ("" : Str) = false := if_pos rfl
theorem lawIs : ∀ fs, Feed fs → ∃ m, g_law (feedG 1 fs) = some (.rt (bT true) m) := by
  intro fs hf
  obtain ⟨f1, hf1, h1⟩ := L_plans hf
  obtain ⟨f2, hf2, h2⟩ := L_numbers hf1
  obtain ⟨f3, hf3, h3⟩ := L_lines hf2
  have s0 := same_ints (o := .lnt) (o' := .lnt) (L := [8, 4, 80, 0, 1, 2]) (.inl rfl) (.inl rfl) (by decide)
  simp only [List.map_cons, List.map_nil] at s0
  have s1 := same_ints (o := .lnt) (o' := .lnt) (L := []) (.inl rfl) (.inl rfl) (by decide)
  simp only [List.map_nil] at s1
  have s2 := same_ref "BadText"
  have hs := L_split (x := ("" : Str)) (by decide)
  rw [bad_emp, if_neg (by decide), wd_emp] at hs
  have hr := L_rd_bad (x := ("" : Str)) (n := 5) (by decide) (.inl (by decide))
  unfold g_law
  generalize G_law_plans = a1 at *
  generalize G_law_numbers = a2 at *
  generalize G_law_lines = a3 at *
  generalize G_law_same = a4 at *
  generalize G_law_split = a5 at *
  generalize G_law_read_number = a6 at *
  have e0 : feedG 1 fs = ⟨[.no, .tr (rowT fs), .no], []⟩ := rfl
  rw [e0]
  refine ⟨⟨[.no, .tr (rowT f3), .tr (rowT [8, 4, 80, 0, 1, 2])], []⟩, ?_⟩
  simp! [h1, h2, h3, s0, s1, s2, hs, hr]
end
section
variable {P : Program} {w : World} {K : PySem.W.Frag} {mg : Str → Option Value} {base : Heap}
theorem ok_law (T : Txt K mg) : FnOk P w K mg base CX0 14 T.a_law T.fd_law ["_law_script"] (spLaw K) := ok_law_of lawIs T
end
theorem Vals.app {vs zs : List V} {us ws : List Value} (h : Vals vs us) (k : Vals zs ws) : Vals (vs ++ zs) (us ++ ws) := by
  induction h with
  | nil => exact k
  | cons r _ ih => exact .cons r ih
theorem fun_kbn {K : PySem.W.Frag} {x qual : Str} {st : Stmt} {f : Addr} {fd : FuncData} {ps ks : List Str} {n : Nat} (F : Fun K x qual st f fd)
    (h : ∀ (kV doc pm : Value) (an : Option Addr) (cdv ct : Value) (us ws : List Value), us.length = n → ws.length = ks.length → bindArgs (PySem.W.fnOf x qual (defArgs st) (defBody st) (defScope st) .none kV doc pm an cdv ct) ⟨us, ks.zip ws⟩ = pure (ps.zip (us ++ ws))) :
    KBn K fd ps n ks (fun us ws => us ++ ws) (fun vs zs => vs ++ zs) := by
  obtain ⟨oc, od, kV, doc, pm, an, cdv, ct, osl, rfl, lk, hcd⟩ := F.ex
  exact ⟨fun s us ws _ l1 l2 => .of_eq (h kV doc pm an cdv ct us ws l1 l2), fun r1 r2 => Vals.app r1 r2⟩
theorem txt_mk {K : PySem.W.Frag} {h : Heap} {mg : Str → Option Value} (X : K.In h) (G : h.Ns mainGlobals mg)
    {c_Plan : Addr}
    {tk_Plan_WIDTH : Tok}
    {tk_Plan_OWNERS : Tok}
    {tk_Plan_LONGEST : Tok}
    {tk_Plan_FREE : Tok}
    {tk_Plan_LOGGED : Tok}
    {tk_Plan_PLAIN : Tok}
    {f0 : Addr} {od0 an0 : Option Addr} {sl0 : Array (Option Value)} {oc0 kV0 dc0 pm0 cd0 ct0 : Value}
    {f1 : Addr} {od1 an1 : Option Addr} {sl1 : Array (Option Value)} {oc1 kV1 dc1 pm1 cd1 ct1 : Value}
    {f2 : Addr} {od2 an2 : Option Addr} {sl2 : Array (Option Value)} {oc2 kV2 dc2 pm2 cd2 ct2 : Value}
    {f3 : Addr} {od3 an3 : Option Addr} {sl3 : Array (Option Value)} {oc3 kV3 dc3 pm3 cd3 ct3 : Value}
    {f4 : Addr} {od4 an4 : Option Addr} {sl4 : Array (Option Value)} {oc4 kV4 dc4 pm4 cd4 ct4 : Value}
    {f5 : Addr} {od5 an5 : Option Addr} {sl5 : Array (Option Value)} {oc5 kV5 dc5 pm5 cd5 ct5 : Value}
    {f6 : Addr} {od6 an6 : Option Addr} {sl6 : Array (Option Value)} {oc6 kV6 dc6 pm6 cd6 ct6 : Value}
    {f7 : Addr} {od7 an7 : Option Addr} {sl7 : Array (Option Value)} {oc7 kV7 dc7 pm7 cd7 ct7 : Value}
    {f8 : Addr} {od8 an8 : Option Addr} {sl8 : Array (Option Value)} {oc8 kV8 dc8 pm8 cd8 ct8 : Value}
    {f9 : Addr} {od9 an9 : Option Addr} {sl9 : Array (Option Value)} {oc9 kV9 dc9 pm9 cd9 ct9 : Value}
    {f10 : Addr} {od10 an10 : Option Addr} {sl10 : Array (Option Value)} {oc10 kV10 dc10 pm10 cd10 ct10 : Value}
    {f11 : Addr} {od11 an11 : Option Addr} {sl11 : Array (Option Value)} {oc11 kV11 dc11 pm11 cd11 ct11 : Value}
    {f12 : Addr} {od12 an12 : Option Addr} {sl12 : Array (Option Value)} {oc12 kV12 dc12 pm12 cd12 ct12 : Value}
    {f13 : Addr} {od13 an13 : Option Addr} {sl13 : Array (Option Value)} {oc13 kV13 dc13 pm13 cd13 ct13 : Value}
    {f14 : Addr} {od14 an14 : Option Addr} {sl14 : Array (Option Value)} {oc14 kV14 dc14 pm14 cd14 ct14 : Value}
    {f15 : Addr} {od15 an15 : Option Addr} {sl15 : Array (Option Value)} {oc15 kV15 dc15 pm15 cd15 ct15 : Value}
    {f16 : Addr} {od16 an16 : Option Addr} {sl16 : Array (Option Value)} {oc16 kV16 dc16 pm16 cd16 ct16 : Value}
    {f17 : Addr} {od17 an17 : Option Addr} {sl17 : Array (Option Value)} {oc17 kV17 dc17 pm17 cd17 ct17 : Value}
    {f18 : Addr} {od18 an18 : Option Addr} {sl18 : Array (Option Value)} {oc18 kV18 dc18 pm18 cd18 ct18 : Value}
    {f19 : Addr} {od19 an19 : Option Addr} {sl19 : Array (Option Value)} {oc19 kV19 dc19 pm19 cd19 ct19 : Value}
    {f20 : Addr} {od20 an20 : Option Addr} {sl20 : Array (Option Value)} {oc20 kV20 dc20 pm20 cd20 ct20 : Value}
    {f21 : Addr} {od21 an21 : Option Addr} {sl21 : Array (Option Value)} {oc21 kV21 dc21 pm21 cd21 ct21 : Value}
    {f22 : Addr} {od22 an22 : Option Addr} {sl22 : Array (Option Value)} {oc22 kV22 dc22 pm22 cd22 ct22 : Value}
    {f23 : Addr} {od23 an23 : Option Addr} {sl23 : Array (Option Value)} {oc23 kV23 dc23 pm23 cd23 ct23 : Value}
    {f24 : Addr} {od24 an24 : Option Addr} {sl24 : Array (Option Value)} {oc24 kV24 dc24 pm24 cd24 ct24 : Value}
    {f25 : Addr} {od25 an25 : Option Addr} {sl25 : Array (Option Value)} {oc25 kV25 dc25 pm25 cd25 ct25 : Value}
    {f26 : Addr} {od26 an26 : Option Addr} {sl26 : Array (Option Value)} {oc26 kV26 dc26 pm26 cd26 ct26 : Value}
    {f27 : Addr} {od27 an27 : Option Addr} {sl27 : Array (Option Value)} {oc27 kV27 dc27 pm27 cd27 ct27 : Value}
    {f28 : Addr} {od28 an28 : Option Addr} {sl28 : Array (Option Value)} {oc28 kV28 dc28 pm28 cd28 ct28 : Value}
    {f29 : Addr} {od29 an29 : Option Addr} {sl29 : Array (Option Value)} {oc29 kV29 dc29 pm29 cd29 ct29 : Value}
    {f30 : Addr} {od30 an30 : Option Addr} {sl30 : Array (Option Value)} {oc30 kV30 dc30 pm30 cd30 ct30 : Value}
    {f31 : Addr} {od31 an31 : Option Addr} {sl31 : Array (Option Value)} {oc31 kV31 dc31 pm31 cd31 ct31 : Value}
    {ps31 : Addr} {rs31 : List Value}
    {t_DIGITS : Tok}
    {e_BadValue : Addr}
    {e_BadText : Addr}
    {e_StoreError : Addr}
    {e_Refused : Addr}
    {e_NotNow : Addr}
    {e_NotLet : Addr}
    (aC_Plan : PySem.W.nsIn K mainGlobals "Plan" = some (some (.ref c_Plan)))
    (pg_Plan : PySem.W.plainGet K c_Plan Str.empty = true)
    (hd_Plan : PySem.W.hasDictIn K c_Plan = true)
    (po_Plan : PySem.W.plainOver K c_Plan = true)
    (sa_Plan : PySem.W.findIn K (.ref c_Plan) "__setattr__" = some (some (.builtin "object.__setattr__")))
    (mk_Plan : PySem.W.makesIn K c_Plan = true)
    (kc_Plan : PySem.W.keepIn K (.ref c_Plan) = true)
    (nf_Plan_blocks : PySem.W.findIn K (.ref c_Plan) "blocks" = some none)
    (nf_Plan_nodes : PySem.W.findIn K (.ref c_Plan) "nodes" = some none)
    (nf_Plan_slots : PySem.W.findIn K (.ref c_Plan) "slots" = some none)
    (nf_Plan_maps : PySem.W.findIn K (.ref c_Plan) "maps" = some none)
    (nf_Plan_first_node : PySem.W.findIn K (.ref c_Plan) "first_node" = some none)
    (nf_Plan_first_data : PySem.W.findIn K (.ref c_Plan) "first_data" = some none)
    (iha_Plan : PySem.W.findIn K (.ref c_Plan) "__class__" = some (some (.builtin "object.__class__")))
    (ihn_Plan : PySem.W.specialIn K (.builtin "object.__class__") "__get__" = some (some (.builtin "getset_descriptor.__get__")))
    (iht_Plan : PySem.W.takesIn K (.builtin "object.__class__") = some true)
    (ihm_Plan : PySem.W.mroIn K c_Plan (.type "object") = some true)
    (rd_Plan : PySem.W.readsIn K c_Plan (.type "type") = true)
    (ga_Plan : PySem.W.specialIn K (.ref c_Plan) "__getattribute__" = some (some (.builtin "type.__getattribute__")))
    (cv_Plan_WIDTH : PySem.W.findCls K (.ref c_Plan) (.type "type") "WIDTH" = some (.val (.int 8 tk_Plan_WIDTH)))
    (cv_Plan_OWNERS : PySem.W.findCls K (.ref c_Plan) (.type "type") "OWNERS" = some (.val (.int 4 tk_Plan_OWNERS)))
    (cv_Plan_LONGEST : PySem.W.findCls K (.ref c_Plan) (.type "type") "LONGEST" = some (.val (.int 80 tk_Plan_LONGEST)))
    (cv_Plan_FREE : PySem.W.findCls K (.ref c_Plan) (.type "type") "FREE" = some (.val (.int 0 tk_Plan_FREE)))
    (cv_Plan_LOGGED : PySem.W.findCls K (.ref c_Plan) (.type "type") "LOGGED" = some (.val (.int 1 tk_Plan_LOGGED)))
    (cv_Plan_PLAIN : PySem.W.findCls K (.ref c_Plan) (.type "type") "PLAIN" = some (.val (.int 2 tk_Plan_PLAIN)))
    (a0 : PySem.W.nsIn K mainGlobals "read_number" = some (some (.ref f0)))
    (l0 : K.lookup f0 = some ⟨oc0, od0, .func (PySem.W.fnOf "read_number" "read_number" (defArgs s_read_number) (defBody s_read_number) (defScope s_read_number) .none kV0 dc0 pm0 an0 cd0 ct0), sl0⟩)
    (c0 : PySem.W.codeIn K cd0 "read_number" = true)
    (k0 : PySem.W.keepIn K (.ref f0) = true)
    (a1 : PySem.W.nsIn K mainGlobals "split_words" = some (some (.ref f1)))
    (l1 : K.lookup f1 = some ⟨oc1, od1, .func (PySem.W.fnOf "split_words" "split_words" (defArgs s_split_words) (defBody s_split_words) (defScope s_split_words) .none kV1 dc1 pm1 an1 cd1 ct1), sl1⟩)
    (c1 : PySem.W.codeIn K cd1 "split_words" = true)
    (k1 : PySem.W.keepIn K (.ref f1) = true)
    (a2 : PySem.W.nsIn K mainGlobals "_law_feed" = some (some (.ref f2)))
    (l2 : K.lookup f2 = some ⟨oc2, od2, .func (PySem.W.fnOf "_law_feed" "_law_feed" (defArgs s_law_feed) (defBody s_law_feed) (defScope s_law_feed) .none kV2 dc2 pm2 an2 cd2 ct2), sl2⟩)
    (c2 : PySem.W.codeIn K cd2 "_law_feed" = true)
    (k2 : PySem.W.keepIn K (.ref f2) = true)
    (a3 : PySem.W.nsIn K mainGlobals "_law_pick" = some (some (.ref f3)))
    (l3 : K.lookup f3 = some ⟨oc3, od3, .func (PySem.W.fnOf "_law_pick" "_law_pick" (defArgs s_law_pick) (defBody s_law_pick) (defScope s_law_pick) .none kV3 dc3 pm3 an3 cd3 ct3), sl3⟩)
    (c3 : PySem.W.codeIn K cd3 "_law_pick" = true)
    (k3 : PySem.W.keepIn K (.ref f3) = true)
    (a4 : PySem.W.nsIn K mainGlobals "_law_same" = some (some (.ref f4)))
    (l4 : K.lookup f4 = some ⟨oc4, od4, .func (PySem.W.fnOf "_law_same" "_law_same" (defArgs s_law_same) (defBody s_law_same) (defScope s_law_same) .none kV4 dc4 pm4 an4 cd4 ct4), sl4⟩)
    (c4 : PySem.W.codeIn K cd4 "_law_same" = true)
    (k4 : PySem.W.keepIn K (.ref f4) = true)
    (a5 : PySem.W.nsIn K mainGlobals "_law_error" = some (some (.ref f5)))
    (l5 : K.lookup f5 = some ⟨oc5, od5, .func (PySem.W.fnOf "_law_error" "_law_error" (defArgs s_law_error) (defBody s_law_error) (defScope s_law_error) .none kV5 dc5 pm5 an5 cd5 ct5), sl5⟩)
    (c5 : PySem.W.codeIn K cd5 "_law_error" = true)
    (k5 : PySem.W.keepIn K (.ref f5) = true)
    (a6 : PySem.W.nsIn K mainGlobals "_law_read_number" = some (some (.ref f6)))
    (l6 : K.lookup f6 = some ⟨oc6, od6, .func (PySem.W.fnOf "_law_read_number" "_law_read_number" (defArgs s_law_read_number) (defBody s_law_read_number) (defScope s_law_read_number) .none kV6 dc6 pm6 an6 cd6 ct6), sl6⟩)
    (c6 : PySem.W.codeIn K cd6 "_law_read_number" = true)
    (k6 : PySem.W.keepIn K (.ref f6) = true)
    (a7 : PySem.W.nsIn K mainGlobals "_law_split" = some (some (.ref f7)))
    (l7 : K.lookup f7 = some ⟨oc7, od7, .func (PySem.W.fnOf "_law_split" "_law_split" (defArgs s_law_split) (defBody s_law_split) (defScope s_law_split) .none kV7 dc7 pm7 an7 cd7 ct7), sl7⟩)
    (c7 : PySem.W.codeIn K cd7 "_law_split" = true)
    (k7 : PySem.W.keepIn K (.ref f7) = true)
    (a8 : PySem.W.nsIn K mainGlobals "_law_make" = some (some (.ref f8)))
    (l8 : K.lookup f8 = some ⟨oc8, od8, .func (PySem.W.fnOf "_law_make" "_law_make" (defArgs s_law_make) (defBody s_law_make) (defScope s_law_make) .none kV8 dc8 pm8 an8 cd8 ct8), sl8⟩)
    (c8 : PySem.W.codeIn K cd8 "_law_make" = true)
    (k8 : PySem.W.keepIn K (.ref f8) = true)
    (a9 : PySem.W.nsIn K mainGlobals "_law_read_plan" = some (some (.ref f9)))
    (l9 : K.lookup f9 = some ⟨oc9, od9, .func (PySem.W.fnOf "_law_read_plan" "_law_read_plan" (defArgs s_law_read_plan) (defBody s_law_read_plan) (defScope s_law_read_plan) .none kV9 dc9 pm9 an9 cd9 ct9), sl9⟩)
    (c9 : PySem.W.codeIn K cd9 "_law_read_plan" = true)
    (k9 : PySem.W.keepIn K (.ref f9) = true)
    (a10 : PySem.W.nsIn K mainGlobals "_law_sign" = some (some (.ref f10)))
    (l10 : K.lookup f10 = some ⟨oc10, od10, .func (PySem.W.fnOf "_law_sign" "_law_sign" (defArgs s_law_sign) (defBody s_law_sign) (defScope s_law_sign) .none kV10 dc10 pm10 an10 cd10 ct10), sl10⟩)
    (c10 : PySem.W.codeIn K cd10 "_law_sign" = true)
    (k10 : PySem.W.keepIn K (.ref f10) = true)
    (a11 : PySem.W.nsIn K mainGlobals "_law_changed" = some (some (.ref f11)))
    (l11 : K.lookup f11 = some ⟨oc11, od11, .func (PySem.W.fnOf "_law_changed" "_law_changed" (defArgs s_law_changed) (defBody s_law_changed) (defScope s_law_changed) .none kV11 dc11 pm11 an11 cd11 ct11), sl11⟩)
    (c11 : PySem.W.codeIn K cd11 "_law_changed" = true)
    (k11 : PySem.W.keepIn K (.ref f11) = true)
    (a12 : PySem.W.nsIn K mainGlobals "_law_spoilt" = some (some (.ref f12)))
    (l12 : K.lookup f12 = some ⟨oc12, od12, .func (PySem.W.fnOf "_law_spoilt" "_law_spoilt" (defArgs s_law_spoilt) (defBody s_law_spoilt) (defScope s_law_spoilt) .none kV12 dc12 pm12 an12 cd12 ct12), sl12⟩)
    (c12 : PySem.W.codeIn K cd12 "_law_spoilt" = true)
    (k12 : PySem.W.keepIn K (.ref f12) = true)
    (a13 : PySem.W.nsIn K mainGlobals "_law_word" = some (some (.ref f13)))
    (l13 : K.lookup f13 = some ⟨oc13, od13, .func (PySem.W.fnOf "_law_word" "_law_word" (defArgs s_law_word) (defBody s_law_word) (defScope s_law_word) .none kV13 dc13 pm13 an13 cd13 ct13), sl13⟩)
    (c13 : PySem.W.codeIn K cd13 "_law_word" = true)
    (k13 : PySem.W.keepIn K (.ref f13) = true)
    (a14 : PySem.W.nsIn K mainGlobals "_law_any" = some (some (.ref f14)))
    (l14 : K.lookup f14 = some ⟨oc14, od14, .func (PySem.W.fnOf "_law_any" "_law_any" (defArgs s_law_any) (defBody s_law_any) (defScope s_law_any) .none kV14 dc14 pm14 an14 cd14 ct14), sl14⟩)
    (c14 : PySem.W.codeIn K cd14 "_law_any" = true)
    (k14 : PySem.W.keepIn K (.ref f14) = true)
    (a15 : PySem.W.nsIn K mainGlobals "_law_line" = some (some (.ref f15)))
    (l15 : K.lookup f15 = some ⟨oc15, od15, .func (PySem.W.fnOf "_law_line" "_law_line" (defArgs s_law_line) (defBody s_law_line) (defScope s_law_line) .none kV15 dc15 pm15 an15 cd15 ct15), sl15⟩)
    (c15 : PySem.W.codeIn K cd15 "_law_line" = true)
    (k15 : PySem.W.keepIn K (.ref f15) = true)
    (a16 : PySem.W.nsIn K mainGlobals "_law_number" = some (some (.ref f16)))
    (l16 : K.lookup f16 = some ⟨oc16, od16, .func (PySem.W.fnOf "_law_number" "_law_number" (defArgs s_law_number) (defBody s_law_number) (defScope s_law_number) .none kV16 dc16 pm16 an16 cd16 ct16), sl16⟩)
    (c16 : PySem.W.codeIn K cd16 "_law_number" = true)
    (k16 : PySem.W.keepIn K (.ref f16) = true)
    (a17 : PySem.W.nsIn K mainGlobals "_law_words" = some (some (.ref f17)))
    (l17 : K.lookup f17 = some ⟨oc17, od17, .func (PySem.W.fnOf "_law_words" "_law_words" (defArgs s_law_words) (defBody s_law_words) (defScope s_law_words) .none kV17 dc17 pm17 an17 cd17 ct17), sl17⟩)
    (c17 : PySem.W.codeIn K cd17 "_law_words" = true)
    (k17 : PySem.W.keepIn K (.ref f17) = true)
    (a18 : PySem.W.nsIn K mainGlobals "_law_good_plan" = some (some (.ref f18)))
    (l18 : K.lookup f18 = some ⟨oc18, od18, .func (PySem.W.fnOf "_law_good_plan" "_law_good_plan" (defArgs s_law_good_plan) (defBody s_law_good_plan) (defScope s_law_good_plan) .none kV18 dc18 pm18 an18 cd18 ct18), sl18⟩)
    (c18 : PySem.W.codeIn K cd18 "_law_good_plan" = true)
    (k18 : PySem.W.keepIn K (.ref f18) = true)
    (a19 : PySem.W.nsIn K mainGlobals "_law_is_plan" = some (some (.ref f19)))
    (l19 : K.lookup f19 = some ⟨oc19, od19, .func (PySem.W.fnOf "_law_is_plan" "_law_is_plan" (defArgs s_law_is_plan) (defBody s_law_is_plan) (defScope s_law_is_plan) .none kV19 dc19 pm19 an19 cd19 ct19), sl19⟩)
    (c19 : PySem.W.codeIn K cd19 "_law_is_plan" = true)
    (k19 : PySem.W.keepIn K (.ref f19) = true)
    (a20 : PySem.W.nsIn K mainGlobals "_law_near" = some (some (.ref f20)))
    (l20 : K.lookup f20 = some ⟨oc20, od20, .func (PySem.W.fnOf "_law_near" "_law_near" (defArgs s_law_near) (defBody s_law_near) (defScope s_law_near) .none kV20 dc20 pm20 an20 cd20 ct20), sl20⟩)
    (c20 : PySem.W.codeIn K cd20 "_law_near" = true)
    (k20 : PySem.W.keepIn K (.ref f20) = true)
    (a21 : PySem.W.nsIn K mainGlobals "_law_plan_read" = some (some (.ref f21)))
    (l21 : K.lookup f21 = some ⟨oc21, od21, .func (PySem.W.fnOf "_law_plan_read" "_law_plan_read" (defArgs s_law_plan_read) (defBody s_law_plan_read) (defScope s_law_plan_read) .none kV21 dc21 pm21 an21 cd21 ct21), sl21⟩)
    (c21 : PySem.W.codeIn K cd21 "_law_plan_read" = true)
    (k21 : PySem.W.keepIn K (.ref f21) = true)
    (a22 : PySem.W.nsIn K mainGlobals "_law_plans" = some (some (.ref f22)))
    (l22 : K.lookup f22 = some ⟨oc22, od22, .func (PySem.W.fnOf "_law_plans" "_law_plans" (defArgs s_law_plans) (defBody s_law_plans) (defScope s_law_plans) .none kV22 dc22 pm22 an22 cd22 ct22), sl22⟩)
    (c22 : PySem.W.codeIn K cd22 "_law_plans" = true)
    (k22 : PySem.W.keepIn K (.ref f22) = true)
    (a23 : PySem.W.nsIn K mainGlobals "_law_numbers" = some (some (.ref f23)))
    (l23 : K.lookup f23 = some ⟨oc23, od23, .func (PySem.W.fnOf "_law_numbers" "_law_numbers" (defArgs s_law_numbers) (defBody s_law_numbers) (defScope s_law_numbers) .none kV23 dc23 pm23 an23 cd23 ct23), sl23⟩)
    (c23 : PySem.W.codeIn K cd23 "_law_numbers" = true)
    (k23 : PySem.W.keepIn K (.ref f23) = true)
    (a24 : PySem.W.nsIn K mainGlobals "_law_lines" = some (some (.ref f24)))
    (l24 : K.lookup f24 = some ⟨oc24, od24, .func (PySem.W.fnOf "_law_lines" "_law_lines" (defArgs s_law_lines) (defBody s_law_lines) (defScope s_law_lines) .none kV24 dc24 pm24 an24 cd24 ct24), sl24⟩)
    (c24 : PySem.W.codeIn K cd24 "_law_lines" = true)
    (k24 : PySem.W.keepIn K (.ref f24) = true)
    (a25 : PySem.W.nsIn K mainGlobals "law" = some (some (.ref f25)))
    (l25 : K.lookup f25 = some ⟨oc25, od25, .func (PySem.W.fnOf "law" "law" (defArgs s_law) (defBody s_law) (defScope s_law) .none kV25 dc25 pm25 an25 cd25 ct25), sl25⟩)
    (c25 : PySem.W.codeIn K cd25 "law" = true)
    (k25 : PySem.W.keepIn K (.ref f25) = true)
    (a26 : PySem.W.findIn K (.ref c_Plan) "__init__" = some (some (.ref f26)))
    (i26 : PySem.W.isFn K (.ref f26) = true)
    (l26 : K.lookup f26 = some ⟨oc26, od26, .func (PySem.W.fnOf "__init__" "Plan.__init__" (defArgs s_Plan_init) (defBody s_Plan_init) (defScope s_Plan_init) .none kV26 dc26 pm26 an26 cd26 ct26), sl26⟩)
    (c26 : PySem.W.codeIn K cd26 "Plan.__init__" = true)
    (k26 : PySem.W.keepIn K (.ref f26) = true)
    (a27 : PySem.W.findIn K (.ref c_Plan) "text" = some (some (.ref f27)))
    (i27 : PySem.W.isFn K (.ref f27) = true)
    (l27 : K.lookup f27 = some ⟨oc27, od27, .func (PySem.W.fnOf "text" "Plan.text" (defArgs s_Plan_text) (defBody s_Plan_text) (defScope s_Plan_text) .none kV27 dc27 pm27 an27 cd27 ct27), sl27⟩)
    (c27 : PySem.W.codeIn K cd27 "Plan.text" = true)
    (k27 : PySem.W.keepIn K (.ref f27) = true)
    (a28 : PySem.W.findIn K (.ref c_Plan) "map_place" = some (some (.ref f28)))
    (i28 : PySem.W.isFn K (.ref f28) = true)
    (l28 : K.lookup f28 = some ⟨oc28, od28, .func (PySem.W.fnOf "map_place" "Plan.map_place" (defArgs s_Plan_map_place) (defBody s_Plan_map_place) (defScope s_Plan_map_place) .none kV28 dc28 pm28 an28 cd28 ct28), sl28⟩)
    (c28 : PySem.W.codeIn K cd28 "Plan.map_place" = true)
    (k28 : PySem.W.keepIn K (.ref f28) = true)
    (a29 : PySem.W.findIn K (.ref c_Plan) "node_block" = some (some (.ref f29)))
    (i29 : PySem.W.isFn K (.ref f29) = true)
    (l29 : K.lookup f29 = some ⟨oc29, od29, .func (PySem.W.fnOf "node_block" "Plan.node_block" (defArgs s_Plan_node_block) (defBody s_Plan_node_block) (defScope s_Plan_node_block) .none kV29 dc29 pm29 an29 cd29 ct29), sl29⟩)
    (c29 : PySem.W.codeIn K cd29 "Plan.node_block" = true)
    (k29 : PySem.W.keepIn K (.ref f29) = true)
    (a30 : PySem.W.findIn K (.ref c_Plan) "data_blocks" = some (some (.ref f30)))
    (i30 : PySem.W.isFn K (.ref f30) = true)
    (l30 : K.lookup f30 = some ⟨oc30, od30, .func (PySem.W.fnOf "data_blocks" "Plan.data_blocks" (defArgs s_Plan_data_blocks) (defBody s_Plan_data_blocks) (defScope s_Plan_data_blocks) .none kV30 dc30 pm30 an30 cd30 ct30), sl30⟩)
    (c30 : PySem.W.codeIn K cd30 "Plan.data_blocks" = true)
    (k30 : PySem.W.keepIn K (.ref f30) = true)
    (a31 : PySem.W.findCls K (.ref c_Plan) (.type "type") "read" = some (.get (.builtin "staticmethod.__get__") (.ref ps31) .none (.ref c_Plan)))
    (i31 : PySem.W.recIn K ps31 "staticmethod" = some (.ref f31 :: rs31))
    (l31 : K.lookup f31 = some ⟨oc31, od31, .func (PySem.W.fnOf "read" "Plan.read" (defArgs s_Plan_read) (defBody s_Plan_read) (defScope s_Plan_read) .none kV31 dc31 pm31 an31 cd31 ct31), sl31⟩)
    (c31 : PySem.W.codeIn K cd31 "Plan.read" = true)
    (k31 : PySem.W.keepIn K (.ref f31) = true)
    (z_ValueError : PySem.W.nsIn K mainGlobals "ValueError" = some none)
    (z_abs : PySem.W.nsIn K mainGlobals "abs" = some none)
    (z_bool : PySem.W.nsIn K mainGlobals "bool" = some none)
    (z_int : PySem.W.nsIn K mainGlobals "int" = some none)
    (z_isinstance : PySem.W.nsIn K mainGlobals "isinstance" = some none)
    (z_len : PySem.W.nsIn K mainGlobals "len" = some none)
    (z_list : PySem.W.nsIn K mainGlobals "list" = some none)
    (z_max : PySem.W.nsIn K mainGlobals "max" = some none)
    (z_range : PySem.W.nsIn K mainGlobals "range" = some none)
    (z_staticmethod : PySem.W.nsIn K mainGlobals "staticmethod" = some none)
    (z_str : PySem.W.nsIn K mainGlobals "str" = some none)
    (z_tuple : PySem.W.nsIn K mainGlobals "tuple" = some none)
    (q_DIGITS : PySem.W.nsIn K mainGlobals "DIGITS" = some (some (.str "0123456789" t_DIGITS)))
    (gx_BadValue : PySem.W.nsIn K mainGlobals "BadValue" = some (some (.ref e_BadValue)))
    (xx_BadValue : PySem.W.excIn K e_BadValue [.type "ValueError", .type "Exception", .type "BaseException", .type "object"] "ValueError.__new__" = true)
    (kx_BadValue : PySem.W.keepIn K (.ref e_BadValue) = true)
    (bx_BadValue : PySem.W.subIn K (.ref e_BadValue) (.type "BaseException") = some true)
    (tx_BadValue : PySem.W.typeIn K (.ref e_BadValue) = some (.type "type"))
    (hg_BadValue : PySem.W.findIn K (.ref e_BadValue) "__getattribute__" = some (some (.builtin "BaseException.__getattribute__")))
    (hk_BadValue : PySem.W.findIn K (.ref e_BadValue) "__getattr__" = some none)
    (hh_BadValue : PySem.W.hasDictIn K e_BadValue = true)
    (ha_BadValue : PySem.W.findIn K (.ref e_BadValue) "__class__" = some (some (.builtin "object.__class__")))
    (hn_BadValue : PySem.W.specialIn K (.builtin "object.__class__") "__get__" = some (some (.builtin "getset_descriptor.__get__")))
    (ht_BadValue : PySem.W.takesIn K (.builtin "object.__class__") = some true)
    (hm_BadValue : PySem.W.mroIn K e_BadValue (.type "object") = some true)
    (gx_BadText : PySem.W.nsIn K mainGlobals "BadText" = some (some (.ref e_BadText)))
    (xx_BadText : PySem.W.excIn K e_BadText [.type "ValueError", .type "Exception", .type "BaseException", .type "object"] "ValueError.__new__" = true)
    (kx_BadText : PySem.W.keepIn K (.ref e_BadText) = true)
    (bx_BadText : PySem.W.subIn K (.ref e_BadText) (.type "BaseException") = some true)
    (tx_BadText : PySem.W.typeIn K (.ref e_BadText) = some (.type "type"))
    (hg_BadText : PySem.W.findIn K (.ref e_BadText) "__getattribute__" = some (some (.builtin "BaseException.__getattribute__")))
    (hk_BadText : PySem.W.findIn K (.ref e_BadText) "__getattr__" = some none)
    (hh_BadText : PySem.W.hasDictIn K e_BadText = true)
    (ha_BadText : PySem.W.findIn K (.ref e_BadText) "__class__" = some (some (.builtin "object.__class__")))
    (hn_BadText : PySem.W.specialIn K (.builtin "object.__class__") "__get__" = some (some (.builtin "getset_descriptor.__get__")))
    (ht_BadText : PySem.W.takesIn K (.builtin "object.__class__") = some true)
    (hm_BadText : PySem.W.mroIn K e_BadText (.type "object") = some true)
    (gx_StoreError : PySem.W.nsIn K mainGlobals "StoreError" = some (some (.ref e_StoreError)))
    (xx_StoreError : PySem.W.excIn K e_StoreError [.type "ValueError", .type "Exception", .type "BaseException", .type "object"] "ValueError.__new__" = true)
    (kx_StoreError : PySem.W.keepIn K (.ref e_StoreError) = true)
    (bx_StoreError : PySem.W.subIn K (.ref e_StoreError) (.type "BaseException") = some true)
    (tx_StoreError : PySem.W.typeIn K (.ref e_StoreError) = some (.type "type"))
    (hg_StoreError : PySem.W.findIn K (.ref e_StoreError) "__getattribute__" = some (some (.builtin "BaseException.__getattribute__")))
    (hk_StoreError : PySem.W.findIn K (.ref e_StoreError) "__getattr__" = some none)
    (hh_StoreError : PySem.W.hasDictIn K e_StoreError = true)
    (ha_StoreError : PySem.W.findIn K (.ref e_StoreError) "__class__" = some (some (.builtin "object.__class__")))
    (hn_StoreError : PySem.W.specialIn K (.builtin "object.__class__") "__get__" = some (some (.builtin "getset_descriptor.__get__")))
    (ht_StoreError : PySem.W.takesIn K (.builtin "object.__class__") = some true)
    (hm_StoreError : PySem.W.mroIn K e_StoreError (.type "object") = some true)
    (gx_Refused : PySem.W.nsIn K mainGlobals "Refused" = some (some (.ref e_Refused)))
    (kx_Refused : PySem.W.keepIn K (.ref e_Refused) = true)
    (bx_Refused : PySem.W.subIn K (.ref e_Refused) (.type "BaseException") = some true)
    (tx_Refused : PySem.W.typeIn K (.ref e_Refused) = some (.type "type"))
    (hg_Refused : PySem.W.findIn K (.ref e_Refused) "__getattribute__" = some (some (.builtin "BaseException.__getattribute__")))
    (hk_Refused : PySem.W.findIn K (.ref e_Refused) "__getattr__" = some none)
    (hh_Refused : PySem.W.hasDictIn K e_Refused = true)
    (ha_Refused : PySem.W.findIn K (.ref e_Refused) "__class__" = some (some (.builtin "object.__class__")))
    (hn_Refused : PySem.W.specialIn K (.builtin "object.__class__") "__get__" = some (some (.builtin "getset_descriptor.__get__")))
    (ht_Refused : PySem.W.takesIn K (.builtin "object.__class__") = some true)
    (hm_Refused : PySem.W.mroIn K e_Refused (.type "object") = some true)
    (gx_NotNow : PySem.W.nsIn K mainGlobals "NotNow" = some (some (.ref e_NotNow)))
    (kx_NotNow : PySem.W.keepIn K (.ref e_NotNow) = true)
    (bx_NotNow : PySem.W.subIn K (.ref e_NotNow) (.type "BaseException") = some true)
    (tx_NotNow : PySem.W.typeIn K (.ref e_NotNow) = some (.type "type"))
    (hg_NotNow : PySem.W.findIn K (.ref e_NotNow) "__getattribute__" = some (some (.builtin "BaseException.__getattribute__")))
    (hk_NotNow : PySem.W.findIn K (.ref e_NotNow) "__getattr__" = some none)
    (hh_NotNow : PySem.W.hasDictIn K e_NotNow = true)
    (ha_NotNow : PySem.W.findIn K (.ref e_NotNow) "__class__" = some (some (.builtin "object.__class__")))
    (hn_NotNow : PySem.W.specialIn K (.builtin "object.__class__") "__get__" = some (some (.builtin "getset_descriptor.__get__")))
    (ht_NotNow : PySem.W.takesIn K (.builtin "object.__class__") = some true)
    (hm_NotNow : PySem.W.mroIn K e_NotNow (.type "object") = some true)
    (gx_NotLet : PySem.W.nsIn K mainGlobals "NotLet" = some (some (.ref e_NotLet)))
    (kx_NotLet : PySem.W.keepIn K (.ref e_NotLet) = true)
    (bx_NotLet : PySem.W.subIn K (.ref e_NotLet) (.type "BaseException") = some true)
    (tx_NotLet : PySem.W.typeIn K (.ref e_NotLet) = some (.type "type"))
    (hg_NotLet : PySem.W.findIn K (.ref e_NotLet) "__getattribute__" = some (some (.builtin "BaseException.__getattribute__")))
    (hk_NotLet : PySem.W.findIn K (.ref e_NotLet) "__getattr__" = some none)
    (hh_NotLet : PySem.W.hasDictIn K e_NotLet = true)
    (ha_NotLet : PySem.W.findIn K (.ref e_NotLet) "__class__" = some (some (.builtin "object.__class__")))
    (hn_NotLet : PySem.W.specialIn K (.builtin "object.__class__") "__get__" = some (some (.builtin "getset_descriptor.__get__")))
    (ht_NotLet : PySem.W.takesIn K (.builtin "object.__class__") = some true)
    (hm_NotLet : PySem.W.mroIn K e_NotLet (.type "object") = some true)
    (mx_BadValue_StoreError : PySem.W.subIn K (.ref e_BadValue) (.ref e_StoreError) = some true)
    (mx_BadText_StoreError : PySem.W.subIn K (.ref e_BadText) (.ref e_StoreError) = some true)
    (ix_BadValue_BadText : PySem.W.subIn K (.ref e_BadValue) (.ref e_BadText) = some false)
    (is_BadValue_BadText : PySem.W.subIn K (.ref e_BadValue) (.ref e_BadValue) = some true)
    (ix_BadValue_BadValue : PySem.W.subIn K (.ref e_BadValue) (.ref e_BadValue) = some true)
    (ix_BadValue_Refused : PySem.W.subIn K (.ref e_BadValue) (.ref e_Refused) = some false)
    (is_BadValue_Refused : PySem.W.subIn K (.ref e_BadValue) (.ref e_BadValue) = some true)
    (ix_BadValue_NotNow : PySem.W.subIn K (.ref e_BadValue) (.ref e_NotNow) = some false)
    (is_BadValue_NotNow : PySem.W.subIn K (.ref e_BadValue) (.ref e_BadValue) = some true)
    (ix_BadValue_NotLet : PySem.W.subIn K (.ref e_BadValue) (.ref e_NotLet) = some false)
    (is_BadValue_NotLet : PySem.W.subIn K (.ref e_BadValue) (.ref e_BadValue) = some true)
    (ix_BadValue_ValueError : PySem.W.subIn K (.ref e_BadValue) (.type "ValueError") = some true)
    (ix_BadText_BadText : PySem.W.subIn K (.ref e_BadText) (.ref e_BadText) = some true)
    (ix_BadText_BadValue : PySem.W.subIn K (.ref e_BadText) (.ref e_BadValue) = some false)
    (is_BadText_BadValue : PySem.W.subIn K (.ref e_BadText) (.ref e_BadText) = some true)
    (ix_BadText_Refused : PySem.W.subIn K (.ref e_BadText) (.ref e_Refused) = some false)
    (is_BadText_Refused : PySem.W.subIn K (.ref e_BadText) (.ref e_BadText) = some true)
    (ix_BadText_NotNow : PySem.W.subIn K (.ref e_BadText) (.ref e_NotNow) = some false)
    (is_BadText_NotNow : PySem.W.subIn K (.ref e_BadText) (.ref e_BadText) = some true)
    (ix_BadText_NotLet : PySem.W.subIn K (.ref e_BadText) (.ref e_NotLet) = some false)
    (is_BadText_NotLet : PySem.W.subIn K (.ref e_BadText) (.ref e_BadText) = some true)
    (ix_BadText_ValueError : PySem.W.subIn K (.ref e_BadText) (.type "ValueError") = some true)
    : ∃ T : Txt K mg, mg "law" = some (.ref T.a_law) ∧ (∀ (s : Shared) (v : Value), BindsTo s T.fd_law ⟨[v], []⟩ [("_law_script", v)]) := by
  have F0 := fun_mk (st := s_read_number) l0 c0 k0
  have b0 := F0.binds (ps := ["word", "most"]) fun _ _ _ _ _ _ us hl => match us, hl with | [_, _], _ => rfl
  have F1 := fun_mk (st := s_split_words) l1 c1 k1
  have b1 := F1.binds (ps := ["line"]) fun _ _ _ _ _ _ us hl => match us, hl with | [_], _ => rfl
  have F2 := fun_mk (st := s_law_feed) l2 c2 k2
  have b2 := F2.binds (ps := ["_law_script"]) fun _ _ _ _ _ _ us hl => match us, hl with | [_], _ => rfl
  have F3 := fun_mk (st := s_law_pick) l3 c3 k3
  have b3 := F3.binds (ps := ["_law_feed_here", "_law_limit"]) fun _ _ _ _ _ _ us hl => match us, hl with | [_, _], _ => rfl
  have F4 := fun_mk (st := s_law_same) l4 c4 k4
  have b4 := F4.binds (ps := ["_law_actual", "_law_due"]) fun _ _ _ _ _ _ us hl => match us, hl with | [_, _], _ => rfl
  have F5 := fun_mk (st := s_law_error) l5 c5 k5
  have b5 := F5.binds (ps := ["_law_e"]) fun _ _ _ _ _ _ us hl => match us, hl with | [_], _ => rfl
  have F6 := fun_mk (st := s_law_read_number) l6 c6 k6
  have b6 := F6.binds (ps := ["_law_word_here", "_law_most"]) fun _ _ _ _ _ _ us hl => match us, hl with | [_, _], _ => rfl
  have F7 := fun_mk (st := s_law_split) l7 c7 k7
  have b7 := F7.binds (ps := ["_law_line_here"]) fun _ _ _ _ _ _ us hl => match us, hl with | [_], _ => rfl
  have F8 := fun_mk (st := s_law_make) l8 c8 k8
  have b8 := F8.binds (ps := ["_law_blocks", "_law_many", "_law_places"]) fun _ _ _ _ _ _ us hl => match us, hl with | [_, _, _], _ => rfl
  have F9 := fun_mk (st := s_law_read_plan) l9 c9 k9
  have b9 := F9.binds (ps := ["_law_line_here"]) fun _ _ _ _ _ _ us hl => match us, hl with | [_], _ => rfl
  have F10 := fun_mk (st := s_law_sign) l10 c10 k10
  have b10 := F10.binds (ps := ["_law_feed_here"]) fun _ _ _ _ _ _ us hl => match us, hl with | [_], _ => rfl
  have F11 := fun_mk (st := s_law_changed) l11 c11 k11
  have b11 := F11.binds (ps := ["_law_feed_here", "_law_text"]) fun _ _ _ _ _ _ us hl => match us, hl with | [_, _], _ => rfl
  have F12 := fun_mk (st := s_law_spoilt) l12 c12 k12
  have b12 := F12.binds (ps := ["_law_feed_here", "_law_word_here"]) fun _ _ _ _ _ _ us hl => match us, hl with | [_, _], _ => rfl
  have F13 := fun_mk (st := s_law_word) l13 c13 k13
  have b13 := F13.binds (ps := ["_law_feed_here"]) fun _ _ _ _ _ _ us hl => match us, hl with | [_], _ => rfl
  have F14 := fun_mk (st := s_law_any) l14 c14 k14
  have b14 := F14.binds (ps := ["_law_feed_here"]) fun _ _ _ _ _ _ us hl => match us, hl with | [_], _ => rfl
  have F15 := fun_mk (st := s_law_line) l15 c15 k15
  have b15 := F15.binds (ps := ["_law_feed_here", "_law_line_here"]) fun _ _ _ _ _ _ us hl => match us, hl with | [_, _], _ => rfl
  have F16 := fun_mk (st := s_law_number) l16 c16 k16
  have b16 := F16.binds (ps := ["_law_word_here"]) fun _ _ _ _ _ _ us hl => match us, hl with | [_], _ => rfl
  have F17 := fun_mk (st := s_law_words) l17 c17 k17
  have b17 := F17.binds (ps := ["_law_line_here"]) fun _ _ _ _ _ _ us hl => match us, hl with | [_], _ => rfl
  have F18 := fun_mk (st := s_law_good_plan) l18 c18 k18
  have b18 := F18.binds (ps := ["_law_blocks", "_law_many", "_law_places"]) fun _ _ _ _ _ _ us hl => match us, hl with | [_, _, _], _ => rfl
  have F19 := fun_mk (st := s_law_is_plan) l19 c19 k19
  have b19 := F19.binds (ps := ["_law_plan", "_law_blocks", "_law_many", "_law_places"]) fun _ _ _ _ _ _ us hl => match us, hl with | [_, _, _, _], _ => rfl
  have F20 := fun_mk (st := s_law_near) l20 c20 k20
  have b20 := F20.binds (ps := ["_law_feed_here", "_law_edges", "_law_most"]) fun _ _ _ _ _ _ us hl => match us, hl with | [_, _, _], _ => rfl
  have F21 := fun_mk (st := s_law_plan_read) l21 c21 k21
  have b21 := F21.binds (ps := ["_law_plan", "_law_line_here"]) fun _ _ _ _ _ _ us hl => match us, hl with | [_, _], _ => rfl
  have F22 := fun_mk (st := s_law_plans) l22 c22 k22
  have b22 := F22.binds (ps := ["_law_feed_here"]) fun _ _ _ _ _ _ us hl => match us, hl with | [_], _ => rfl
  have F23 := fun_mk (st := s_law_numbers) l23 c23 k23
  have b23 := F23.binds (ps := ["_law_feed_here"]) fun _ _ _ _ _ _ us hl => match us, hl with | [_], _ => rfl
  have F24 := fun_mk (st := s_law_lines) l24 c24 k24
  have b24 := F24.binds (ps := ["_law_feed_here"]) fun _ _ _ _ _ _ us hl => match us, hl with | [_], _ => rfl
  have F25 := fun_mk (st := s_law) l25 c25 k25
  have b25 := F25.binds (ps := ["_law_script"]) fun _ _ _ _ _ _ us hl => match us, hl with | [_], _ => rfl
  have F26 := fun_mk (st := s_Plan_init) l26 c26 k26
  have b26 := fun_kbn (ps := ["self", "blocks", "nodes", "slots"]) (n := 2) (ks := ["nodes", "slots"]) F26 fun _ _ _ _ _ _ us ws h1 h2 => match us, ws, h1, h2 with | [_, _], [_, _], _, _ => rfl
  have F27 := fun_mk (st := s_Plan_text) l27 c27 k27
  have b27 := F27.binds (ps := ["self"]) fun _ _ _ _ _ _ us hl => match us, hl with | [_], _ => rfl
  have F28 := fun_mk (st := s_Plan_map_place) l28 c28 k28
  have b28 := F28.binds (ps := ["self", "x"]) fun _ _ _ _ _ _ us hl => match us, hl with | [_, _], _ => rfl
  have F29 := fun_mk (st := s_Plan_node_block) l29 c29 k29
  have b29 := F29.binds (ps := ["self", "n"]) fun _ _ _ _ _ _ us hl => match us, hl with | [_, _], _ => rfl
  have F30 := fun_mk (st := s_Plan_data_blocks) l30 c30 k30
  have b30 := F30.binds (ps := ["self"]) fun _ _ _ _ _ _ us hl => match us, hl with | [_], _ => rfl
  have F31 := fun_mk (st := s_Plan_read) l31 c31 k31
  have b31 := F31.binds (ps := ["line"]) fun _ _ _ _ _ _ us hl => match us, hl with | [_], _ => rfl
  exact ⟨{
    c_Plan := _
    C_Plan := ⟨pg_Plan, hd_Plan, po_Plan, sa_Plan⟩
    g_Plan := PySem.W.mg_of X G aC_Plan
    kp_Plan := kc_Plan
    mk_Plan := mk_Plan
    n_Plan_blocks := nf_Plan_blocks
    n_Plan_nodes := nf_Plan_nodes
    n_Plan_slots := nf_Plan_slots
    n_Plan_maps := nf_Plan_maps
    n_Plan_first_node := nf_Plan_first_node
    n_Plan_first_data := nf_Plan_first_data
    in_Plan := ⟨⟨pg_Plan, hd_Plan, po_Plan, sa_Plan⟩, iha_Plan, ihn_Plan, iht_Plan, ihm_Plan, by show (if _ then _ else _) = _; rw [if_pos (beq_self_eq_true _)]⟩
    r_Plan := ⟨rd_Plan, ga_Plan⟩
    t_Plan_WIDTH := tk_Plan_WIDTH
    k_Plan_WIDTH := ⟨cv_Plan_WIDTH, ⟨_, rfl⟩⟩
    t_Plan_OWNERS := tk_Plan_OWNERS
    k_Plan_OWNERS := ⟨cv_Plan_OWNERS, ⟨_, rfl⟩⟩
    t_Plan_LONGEST := tk_Plan_LONGEST
    k_Plan_LONGEST := ⟨cv_Plan_LONGEST, ⟨_, rfl⟩⟩
    t_Plan_FREE := tk_Plan_FREE
    k_Plan_FREE := ⟨cv_Plan_FREE, ⟨_, rfl⟩⟩
    t_Plan_LOGGED := tk_Plan_LOGGED
    k_Plan_LOGGED := ⟨cv_Plan_LOGGED, ⟨_, rfl⟩⟩
    t_Plan_PLAIN := tk_Plan_PLAIN
    k_Plan_PLAIN := ⟨cv_Plan_PLAIN, ⟨_, rfl⟩⟩
    a_read_number := _
    fd_read_number := _
    F_read_number := F0
    b_read_number := b0
    m_read_number := PySem.W.mg_of X G a0
    a_split_words := _
    fd_split_words := _
    F_split_words := F1
    b_split_words := b1
    m_split_words := PySem.W.mg_of X G a1
    a_law_feed := _
    fd_law_feed := _
    F_law_feed := F2
    b_law_feed := b2
    m_law_feed := PySem.W.mg_of X G a2
    a_law_pick := _
    fd_law_pick := _
    F_law_pick := F3
    b_law_pick := b3
    m_law_pick := PySem.W.mg_of X G a3
    a_law_same := _
    fd_law_same := _
    F_law_same := F4
    b_law_same := b4
    m_law_same := PySem.W.mg_of X G a4
    a_law_error := _
    fd_law_error := _
    F_law_error := F5
    b_law_error := b5
    m_law_error := PySem.W.mg_of X G a5
    a_law_read_number := _
    fd_law_read_number := _
    F_law_read_number := F6
    b_law_read_number := b6
    m_law_read_number := PySem.W.mg_of X G a6
    a_law_split := _
    fd_law_split := _
    F_law_split := F7
    b_law_split := b7
    m_law_split := PySem.W.mg_of X G a7
    a_law_make := _
    fd_law_make := _
    F_law_make := F8
    b_law_make := b8
    m_law_make := PySem.W.mg_of X G a8
    a_law_read_plan := _
    fd_law_read_plan := _
    F_law_read_plan := F9
    b_law_read_plan := b9
    m_law_read_plan := PySem.W.mg_of X G a9
    a_law_sign := _
    fd_law_sign := _
    F_law_sign := F10
    b_law_sign := b10
    m_law_sign := PySem.W.mg_of X G a10
    a_law_changed := _
    fd_law_changed := _
    F_law_changed := F11
    b_law_changed := b11
    m_law_changed := PySem.W.mg_of X G a11
    a_law_spoilt := _
    fd_law_spoilt := _
    F_law_spoilt := F12
    b_law_spoilt := b12
    m_law_spoilt := PySem.W.mg_of X G a12
    a_law_word := _
    fd_law_word := _
    F_law_word := F13
    b_law_word := b13
    m_law_word := PySem.W.mg_of X G a13
    a_law_any := _
    fd_law_any := _
    F_law_any := F14
    b_law_any := b14
    m_law_any := PySem.W.mg_of X G a14
    a_law_line := _
    fd_law_line := _
    F_law_line := F15
    b_law_line := b15
    m_law_line := PySem.W.mg_of X G a15
    a_law_number := _
    fd_law_number := _
    F_law_number := F16
    b_law_number := b16
    m_law_number := PySem.W.mg_of X G a16
    a_law_words := _
    fd_law_words := _
    F_law_words := F17
    b_law_words := b17
    m_law_words := PySem.W.mg_of X G a17
    a_law_good_plan := _
    fd_law_good_plan := _
    F_law_good_plan := F18
    b_law_good_plan := b18
    m_law_good_plan := PySem.W.mg_of X G a18
    a_law_is_plan := _
    fd_law_is_plan := _
    F_law_is_plan := F19
    b_law_is_plan := b19
    m_law_is_plan := PySem.W.mg_of X G a19
    a_law_near := _
    fd_law_near := _
    F_law_near := F20
    b_law_near := b20
    m_law_near := PySem.W.mg_of X G a20
    a_law_plan_read := _
    fd_law_plan_read := _
    F_law_plan_read := F21
    b_law_plan_read := b21
    m_law_plan_read := PySem.W.mg_of X G a21
    a_law_plans := _
    fd_law_plans := _
    F_law_plans := F22
    b_law_plans := b22
    m_law_plans := PySem.W.mg_of X G a22
    a_law_numbers := _
    fd_law_numbers := _
    F_law_numbers := F23
    b_law_numbers := b23
    m_law_numbers := PySem.W.mg_of X G a23
    a_law_lines := _
    fd_law_lines := _
    F_law_lines := F24
    b_law_lines := b24
    m_law_lines := PySem.W.mg_of X G a24
    a_law := _
    fd_law := _
    F_law := F25
    b_law := b25
    m_law := PySem.W.mg_of X G a25
    a_Plan_init := _
    fd_Plan_init := _
    F_Plan_init := F26
    b_Plan_init := b26
    m_Plan_init := ⟨mk_Plan, a26, i26, kc_Plan⟩
    a_Plan_text := _
    fd_Plan_text := _
    F_Plan_text := F27
    b_Plan_text := b27
    m_Plan_text := ⟨a27, i27, k27⟩
    a_Plan_map_place := _
    fd_Plan_map_place := _
    F_Plan_map_place := F28
    b_Plan_map_place := b28
    m_Plan_map_place := ⟨a28, i28, k28⟩
    a_Plan_node_block := _
    fd_Plan_node_block := _
    F_Plan_node_block := F29
    b_Plan_node_block := b29
    m_Plan_node_block := ⟨a29, i29, k29⟩
    a_Plan_data_blocks := _
    fd_Plan_data_blocks := _
    F_Plan_data_blocks := F30
    b_Plan_data_blocks := b30
    m_Plan_data_blocks := ⟨a30, i30, k30⟩
    a_Plan_read := _
    fd_Plan_read := _
    F_Plan_read := F31
    b_Plan_read := b31
    m_Plan_read := ⟨⟨rd_Plan, ga_Plan⟩, ⟨_, _, a31, i31⟩, k31⟩
    n_ValueError := PySem.W.mg_none_of X G z_ValueError
    n_abs := PySem.W.mg_none_of X G z_abs
    n_bool := PySem.W.mg_none_of X G z_bool
    n_int := PySem.W.mg_none_of X G z_int
    n_isinstance := PySem.W.mg_none_of X G z_isinstance
    n_len := PySem.W.mg_none_of X G z_len
    n_list := PySem.W.mg_none_of X G z_list
    n_max := PySem.W.mg_none_of X G z_max
    n_range := PySem.W.mg_none_of X G z_range
    n_staticmethod := PySem.W.mg_none_of X G z_staticmethod
    n_str := PySem.W.mg_none_of X G z_str
    n_tuple := PySem.W.mg_none_of X G z_tuple
    t_DIGITS := _
    g_DIGITS := PySem.W.mg_of X G q_DIGITS
    e_BadValue := e_BadValue
    g_BadValue := PySem.W.mg_of X G gx_BadValue
    x_BadValue := xx_BadValue
    k_BadValue := kx_BadValue
    sb_BadValue := bx_BadValue
    ty_BadValue := tx_BadValue
    is_BadValue := ⟨hg_BadValue, hk_BadValue, bx_BadValue, hh_BadValue, ha_BadValue, hn_BadValue, ht_BadValue, hm_BadValue⟩
    e_BadText := e_BadText
    g_BadText := PySem.W.mg_of X G gx_BadText
    x_BadText := xx_BadText
    k_BadText := kx_BadText
    sb_BadText := bx_BadText
    ty_BadText := tx_BadText
    is_BadText := ⟨hg_BadText, hk_BadText, bx_BadText, hh_BadText, ha_BadText, hn_BadText, ht_BadText, hm_BadText⟩
    e_StoreError := e_StoreError
    g_StoreError := PySem.W.mg_of X G gx_StoreError
    x_StoreError := xx_StoreError
    k_StoreError := kx_StoreError
    sb_StoreError := bx_StoreError
    ty_StoreError := tx_StoreError
    is_StoreError := ⟨hg_StoreError, hk_StoreError, bx_StoreError, hh_StoreError, ha_StoreError, hn_StoreError, ht_StoreError, hm_StoreError⟩
    e_Refused := e_Refused
    g_Refused := PySem.W.mg_of X G gx_Refused
    k_Refused := kx_Refused
    sb_Refused := bx_Refused
    ty_Refused := tx_Refused
    is_Refused := ⟨hg_Refused, hk_Refused, bx_Refused, hh_Refused, ha_Refused, hn_Refused, ht_Refused, hm_Refused⟩
    e_NotNow := e_NotNow
    g_NotNow := PySem.W.mg_of X G gx_NotNow
    k_NotNow := kx_NotNow
    sb_NotNow := bx_NotNow
    ty_NotNow := tx_NotNow
    is_NotNow := ⟨hg_NotNow, hk_NotNow, bx_NotNow, hh_NotNow, ha_NotNow, hn_NotNow, ht_NotNow, hm_NotNow⟩
    e_NotLet := e_NotLet
    g_NotLet := PySem.W.mg_of X G gx_NotLet
    k_NotLet := kx_NotLet
    sb_NotLet := bx_NotLet
    ty_NotLet := tx_NotLet
    is_NotLet := ⟨hg_NotLet, hk_NotLet, bx_NotLet, hh_NotLet, ha_NotLet, hn_NotLet, ht_NotLet, hm_NotLet⟩
    m_BadValue_StoreError := PySem.W.exm_ref bx_StoreError hh_StoreError tx_StoreError mx_BadValue_StoreError
    m_BadText_StoreError := PySem.W.exm_ref bx_StoreError hh_StoreError tx_StoreError mx_BadText_StoreError
    i_BadValue_BadText := kit_false hh_BadText tx_BadText ix_BadValue_BadText is_BadValue_BadText
    i_BadValue_BadValue := kit_true hh_BadValue tx_BadValue ix_BadValue_BadValue
    i_BadValue_Refused := kit_false hh_Refused tx_Refused ix_BadValue_Refused is_BadValue_Refused
    i_BadValue_NotNow := kit_false hh_NotNow tx_NotNow ix_BadValue_NotNow is_BadValue_NotNow
    i_BadValue_NotLet := kit_false hh_NotLet tx_NotLet ix_BadValue_NotLet is_BadValue_NotLet
    i_BadValue_ValueError := kit_type (by decide +kernel) ix_BadValue_ValueError
    i_BadText_BadText := kit_true hh_BadText tx_BadText ix_BadText_BadText
    i_BadText_BadValue := kit_false hh_BadValue tx_BadValue ix_BadText_BadValue is_BadText_BadValue
    i_BadText_Refused := kit_false hh_Refused tx_Refused ix_BadText_Refused is_BadText_Refused
    i_BadText_NotNow := kit_false hh_NotNow tx_NotNow ix_BadText_NotNow is_BadText_NotNow
    i_BadText_NotLet := kit_false hh_NotLet tx_NotLet ix_BadText_NotLet is_BadText_NotLet
    i_BadText_ValueError := kit_type (by decide +kernel) ix_BadText_ValueError }, PySem.W.mg_of X G a25, fun s v => .of_eq rfl⟩
theorem walk {l : PySem.W.OpenLaw} {q : Program} {loose : List Str} {XP : (Str → Option Value) → Heap → Prop} {YP : World → Heap → Prop} {d : DefRec} {K : Params → PySem.W.Frag} (hn : l.most = some 63) (hdf : d.params.defaults = [])
    (hY : ∀ (w : World) (h : Heap), YP w h → (K w.params).In h)
    (F : ∀ (w : World) (mg : Str → Option Value) (fa : Addr) (h : Heap), (K w.params).In h → h.Ns mainGlobals mg → mg d.name = some (.ref fa) →
      ∃ fd : FuncData, (∀ (s : Shared) (u : Value), BindsTo s fd ⟨[u], []⟩ [("_law_script", u)]) ∧ ∀ base : Heap, (K w.params).In base → base.Ns mainGlobals mg → FnOk l.prog w (K w.params) mg base CX0 14 fa fd ["_law_script"] (spLaw (K w.params))) :
    PySem.W.WalkO q loose XP YP l.row.toRowW d [] (fun f vs => PySem.call f vs) :=
  L2.walk_of (n := 63) (k := 14) (x := "_law_script") (CX := fun _ => CX0) (sp := fun w => spLaw (K w.params)) hn (by decide) hdf ⟨rfl, by decide, by decide⟩ hY F (fun _ _ a ns hl _ hS => ⟨a, ns, rfl, hS, hl, fun _ => rfl⟩) fun _ _ _ _ _ z => z
end Mine
open PySem PySem.W PyProof.Rows
set_option maxRecDepth 100000 in
set_option maxHeartbeats 0 in
theorem PySem.Challenge.cw_lotsandties_k75_numbers_words_and_plans_holds : PySem.Challenge.rw_lotsandties_k75_numbers_words_and_plans.Holds := by
  w_on; o_law; k_head; (case hw => w_witness2)
  k_fill
  refine Mine.walk (l := PySem.Challenge.rw_lotsandties_k75_numbers_words_and_plans) rfl rfl (fun w h Y => PySem.W.kIn_of Y) ?F
  case F =>
    intro w mg fa h KX G hmg
    obtain ⟨T, e1, e2⟩ : ∃ T : Mine.Txt _ mg, mg "law" = some (.ref T.a_law) ∧ (∀ (s : Shared) (v : Value), BindsTo s T.fd_law ⟨[v], []⟩ [("_law_script", v)]) := by
      refine' Mine.txt_mk KX G ?aC_Plan ?pg_Plan ?hd_Plan ?po_Plan ?sa_Plan ?mk_Plan ?kc_Plan ?nf_Plan_blocks ?nf_Plan_nodes ?nf_Plan_slots ?nf_Plan_maps ?nf_Plan_first_node ?nf_Plan_first_data ?iha_Plan ?ihn_Plan ?iht_Plan ?ihm_Plan ?rd_Plan ?ga_Plan ?cv_Plan_WIDTH ?cv_Plan_OWNERS ?cv_Plan_LONGEST ?cv_Plan_FREE ?cv_Plan_LOGGED ?cv_Plan_PLAIN ?a0 ?l0 ?c0 ?k0 ?a1 ?l1 ?c1 ?k1 ?a2 ?l2 ?c2 ?k2 ?a3 ?l3 ?c3 ?k3 ?a4 ?l4 ?c4 ?k4 ?a5 ?l5 ?c5 ?k5 ?a6 ?l6 ?c6 ?k6 ?a7 ?l7 ?c7 ?k7 ?a8 ?l8 ?c8 ?k8 ?a9 ?l9 ?c9 ?k9 ?a10 ?l10 ?c10 ?k10 ?a11 ?l11 ?c11 ?k11 ?a12 ?l12 ?c12 ?k12 ?a13 ?l13 ?c13 ?k13 ?a14 ?l14 ?c14 ?k14 ?a15 ?l15 ?c15 ?k15 ?a16 ?l16 ?c16 ?k16 ?a17 ?l17 ?c17 ?k17 ?a18 ?l18 ?c18 ?k18 ?a19 ?l19 ?c19 ?k19 ?a20 ?l20 ?c20 ?k20 ?a21 ?l21 ?c21 ?k21 ?a22 ?l22 ?c22 ?k22 ?a23 ?l23 ?c23 ?k23 ?a24 ?l24 ?c24 ?k24 ?a25 ?l25 ?c25 ?k25 ?a26 ?i26 ?l26 ?c26 ?k26 ?a27 ?i27 ?l27 ?c27 ?k27 ?a28 ?i28 ?l28 ?c28 ?k28 ?a29 ?i29 ?l29 ?c29 ?k29 ?a30 ?i30 ?l30 ?c30 ?k30 ?a31 ?i31 ?l31 ?c31 ?k31 ?z_ValueError ?z_abs ?z_bool ?z_int ?z_isinstance ?z_len ?z_list ?z_max ?z_range ?z_staticmethod ?z_str ?z_tuple ?q_DIGITS ?gx_BadValue ?xx_BadValue ?kx_BadValue ?bx_BadValue ?tx_BadValue ?hg_BadValue ?hk_BadValue ?hh_BadValue ?ha_BadValue ?hn_BadValue ?ht_BadValue ?hm_BadValue ?gx_BadText ?xx_BadText ?kx_BadText ?bx_BadText ?tx_BadText ?hg_BadText ?hk_BadText ?hh_BadText ?ha_BadText ?hn_BadText ?ht_BadText ?hm_BadText ?gx_StoreError ?xx_StoreError ?kx_StoreError ?bx_StoreError ?tx_StoreError ?hg_StoreError ?hk_StoreError ?hh_StoreError ?ha_StoreError ?hn_StoreError ?ht_StoreError ?hm_StoreError ?gx_Refused ?kx_Refused ?bx_Refused ?tx_Refused ?hg_Refused ?hk_Refused ?hh_Refused ?ha_Refused ?hn_Refused ?ht_Refused ?hm_Refused ?gx_NotNow ?kx_NotNow ?bx_NotNow ?tx_NotNow ?hg_NotNow ?hk_NotNow ?hh_NotNow ?ha_NotNow ?hn_NotNow ?ht_NotNow ?hm_NotNow ?gx_NotLet ?kx_NotLet ?bx_NotLet ?tx_NotLet ?hg_NotLet ?hk_NotLet ?hh_NotLet ?ha_NotLet ?hn_NotLet ?ht_NotLet ?hm_NotLet ?mx_BadValue_StoreError ?mx_BadText_StoreError ?ix_BadValue_BadText ?is_BadValue_BadText ?ix_BadValue_BadValue ?ix_BadValue_Refused ?is_BadValue_Refused ?ix_BadValue_NotNow ?is_BadValue_NotNow ?ix_BadValue_NotLet ?is_BadValue_NotLet ?ix_BadValue_ValueError ?ix_BadText_BadText ?ix_BadText_BadValue ?is_BadText_BadValue ?ix_BadText_Refused ?is_BadText_Refused ?ix_BadText_NotNow ?is_BadText_NotNow ?ix_BadText_NotLet ?is_BadText_NotLet ?ix_BadText_ValueError
      (case aC_Plan => k_is); (case pg_Plan => k_is); (case hd_Plan => k_is); (case po_Plan => k_is); (case sa_Plan => k_is); (case mk_Plan => k_is)
      (case kc_Plan => k_is); (case nf_Plan_blocks => k_is); (case nf_Plan_nodes => k_is); (case nf_Plan_slots => k_is); (case nf_Plan_maps => k_is); (case nf_Plan_first_node => k_is)
      (case nf_Plan_first_data => k_is); (case iha_Plan => k_is); (case ihn_Plan => k_is); (case iht_Plan => k_is); (case ihm_Plan => k_is); (case rd_Plan => k_is)
      (case ga_Plan => k_is); (case cv_Plan_WIDTH => k_is); (case cv_Plan_OWNERS => k_is); (case cv_Plan_LONGEST => k_is); (case cv_Plan_FREE => k_is); (case cv_Plan_LOGGED => k_is)
      (case cv_Plan_PLAIN => k_is); (case a0 => k_is); (case l0 => k_is); (case c0 => k_is); (case k0 => k_is); (case a1 => k_is)
      (case l1 => k_is); (case c1 => k_is); (case k1 => k_is); (case a2 => k_is); (case l2 => k_is); (case c2 => k_is)
      (case k2 => k_is); (case a3 => k_is); (case l3 => k_is); (case c3 => k_is); (case k3 => k_is); (case a4 => k_is)
      (case l4 => k_is); (case c4 => k_is); (case k4 => k_is); (case a5 => k_is); (case l5 => k_is); (case c5 => k_is)
      (case k5 => k_is); (case a6 => k_is); (case l6 => k_is); (case c6 => k_is); (case k6 => k_is); (case a7 => k_is)
      (case l7 => k_is); (case c7 => k_is); (case k7 => k_is); (case a8 => k_is); (case l8 => k_is); (case c8 => k_is)
      (case k8 => k_is); (case a9 => k_is); (case l9 => k_is); (case c9 => k_is); (case k9 => k_is); (case a10 => k_is)
      (case l10 => k_is); (case c10 => k_is); (case k10 => k_is); (case a11 => k_is); (case l11 => k_is); (case c11 => k_is)
      (case k11 => k_is); (case a12 => k_is); (case l12 => k_is); (case c12 => k_is); (case k12 => k_is); (case a13 => k_is)
      (case l13 => k_is); (case c13 => k_is); (case k13 => k_is); (case a14 => k_is); (case l14 => k_is); (case c14 => k_is)
      (case k14 => k_is); (case a15 => k_is); (case l15 => k_is); (case c15 => k_is); (case k15 => k_is); (case a16 => k_is)
      (case l16 => k_is); (case c16 => k_is); (case k16 => k_is); (case a17 => k_is); (case l17 => k_is); (case c17 => k_is)
      (case k17 => k_is); (case a18 => k_is); (case l18 => k_is); (case c18 => k_is); (case k18 => k_is); (case a19 => k_is)
      (case l19 => k_is); (case c19 => k_is); (case k19 => k_is); (case a20 => k_is); (case l20 => k_is); (case c20 => k_is)
      (case k20 => k_is); (case a21 => k_is); (case l21 => k_is); (case c21 => k_is); (case k21 => k_is); (case a22 => k_is)
      (case l22 => k_is); (case c22 => k_is); (case k22 => k_is); (case a23 => k_is); (case l23 => k_is); (case c23 => k_is)
      (case k23 => k_is); (case a24 => k_is); (case l24 => k_is); (case c24 => k_is); (case k24 => k_is); (case a25 => k_is)
      (case l25 => k_is); (case c25 => k_is); (case k25 => k_is); (case a26 => k_is); (case i26 => k_is); (case l26 => k_is)
      (case c26 => k_is); (case k26 => k_is); (case a27 => k_is); (case i27 => k_is); (case l27 => k_is); (case c27 => k_is)
      (case k27 => k_is); (case a28 => k_is); (case i28 => k_is); (case l28 => k_is); (case c28 => k_is); (case k28 => k_is)
      (case a29 => k_is); (case i29 => k_is); (case l29 => k_is); (case c29 => k_is); (case k29 => k_is); (case a30 => k_is)
      (case i30 => k_is); (case l30 => k_is); (case c30 => k_is); (case k30 => k_is); (case a31 => k_is); (case i31 => k_is)
      (case l31 => k_is); (case c31 => k_is); (case k31 => k_is); (case z_ValueError => k_is); (case z_abs => k_is); (case z_bool => k_is)
      (case z_int => k_is); (case z_isinstance => k_is); (case z_len => k_is); (case z_list => k_is); (case z_max => k_is); (case z_range => k_is)
      (case z_staticmethod => k_is); (case z_str => k_is); (case z_tuple => k_is); (case q_DIGITS => k_is); (case gx_BadValue => k_is); (case xx_BadValue => k_exc)
      (case kx_BadValue => k_is); (case bx_BadValue => k_is); (case tx_BadValue => k_is); (case hg_BadValue => k_is); (case hk_BadValue => k_is); (case hh_BadValue => k_is)
      (case ha_BadValue => k_is); (case hn_BadValue => k_is); (case ht_BadValue => k_is); (case hm_BadValue => k_is); (case gx_BadText => k_is); (case xx_BadText => k_exc)
      (case kx_BadText => k_is); (case bx_BadText => k_is); (case tx_BadText => k_is); (case hg_BadText => k_is); (case hk_BadText => k_is); (case hh_BadText => k_is)
      (case ha_BadText => k_is); (case hn_BadText => k_is); (case ht_BadText => k_is); (case hm_BadText => k_is); (case gx_StoreError => k_is); (case xx_StoreError => k_exc)
      (case kx_StoreError => k_is); (case bx_StoreError => k_is); (case tx_StoreError => k_is); (case hg_StoreError => k_is); (case hk_StoreError => k_is); (case hh_StoreError => k_is)
      (case ha_StoreError => k_is); (case hn_StoreError => k_is); (case ht_StoreError => k_is); (case hm_StoreError => k_is); (case gx_Refused => k_is); (case kx_Refused => k_is)
      (case bx_Refused => k_is); (case tx_Refused => k_is); (case hg_Refused => k_is); (case hk_Refused => k_is); (case hh_Refused => k_is); (case ha_Refused => k_is)
      (case hn_Refused => k_is); (case ht_Refused => k_is); (case hm_Refused => k_is); (case gx_NotNow => k_is); (case kx_NotNow => k_is); (case bx_NotNow => k_is)
      (case tx_NotNow => k_is); (case hg_NotNow => k_is); (case hk_NotNow => k_is); (case hh_NotNow => k_is); (case ha_NotNow => k_is); (case hn_NotNow => k_is)
      (case ht_NotNow => k_is); (case hm_NotNow => k_is); (case gx_NotLet => k_is); (case kx_NotLet => k_is); (case bx_NotLet => k_is); (case tx_NotLet => k_is)
      (case hg_NotLet => k_is); (case hk_NotLet => k_is); (case hh_NotLet => k_is); (case ha_NotLet => k_is); (case hn_NotLet => k_is); (case ht_NotLet => k_is)
      (case hm_NotLet => k_is); (case mx_BadValue_StoreError => k_is); (case mx_BadText_StoreError => k_is); (case ix_BadValue_BadText => k_is); (case is_BadValue_BadText => k_is); (case ix_BadValue_BadValue => k_is)
      (case ix_BadValue_Refused => k_is); (case is_BadValue_Refused => k_is); (case ix_BadValue_NotNow => k_is); (case is_BadValue_NotNow => k_is); (case ix_BadValue_NotLet => k_is); (case is_BadValue_NotLet => k_is)
      (case ix_BadValue_ValueError => k_is); (case ix_BadText_BadText => k_is); (case ix_BadText_BadValue => k_is); (case is_BadText_BadValue => k_is); (case ix_BadText_Refused => k_is); (case is_BadText_Refused => k_is)
      (case ix_BadText_NotNow => k_is); (case is_BadText_NotNow => k_is); (case ix_BadText_NotLet => k_is); (case is_BadText_NotLet => k_is); (case ix_BadText_ValueError => k_is)
    have e := hmg.symm.trans e1
    cases e
    exact ⟨T.fd_law, e2, fun base _ _ => Mine.ok_law T⟩

