import PyProof.Rows.All
import Wide.All
import OpenK.AllK
import Wide.FinOn
import HandS.Deep
import HandS.ForMost
import HandS.HeadEnd
import HandS.IsInst
import HandS.More
import HandS.SortInts
import HandS.Strs
import HandS.Style
import HandS.TupAny
import HandS.Wide
import HandS.Zip
import KE.DataEq
import KE.KTupSum
import KE.SortData
import HandS.TupSets
import KE.GoesMore
import HandS.SetKeys
import PyProof.DictMoreH
import PySem.Challenge.RW_toldwhensure_k33_offsets_that_are_left
set_option Elab.async false
set_option linter.all false
set_option maxRecDepth 100000
set_option maxHeartbeats 4000000
/-! values without addresses: frozen data (PyData), objects that one slot owns -/
namespace DL
open PySem PySem.Spec PyProof.Rows L2
open Classical (propDecidable)

abbrev D := PyData
inductive Ob where
  | lst (xs : List D)
  | dct (t : Bool) (kvs : List (D × D))
inductive Sv where
  | dat (d : D)
  | own (o : Ob)
  | fro (o : Ob)
abbrev Ev := List (Option Sv)
/-- who owns what: a slot its objects, an outer frame Z -/
structure AS where
  f : Nat → List Addr
  Z : Addr → Prop

noncomputable def wo (H : Hp) (P : Addr → Prop) : Hp := fun a => @ite _ (P a) (propDecidable _) none (H a)
theorem wo_of {H : Hp} {P : Addr → Prop} {a : Addr} {o : HO} (n : ¬ P a) (h : H a = some o) : wo H P a = some o := by
  unfold wo; rw [if_neg n]; exact h
theorem of_wo {H : Hp} {P : Addr → Prop} {a : Addr} {o : HO} (h : wo H P a = some o) : ¬ P a ∧ H a = some o := by
  unfold wo at h
  by_cases n : P a
  · rw [if_pos n] at h; cases h
  · rw [if_neg n] at h; exact ⟨n, h⟩
theorem wo_same {H : Hp} {P : Addr → Prop} : Same (wo H P) H := fun _ _ h => (of_wo h).2
theorem wo_less {H : Hp} {P P' : Addr → Prop} (h : ∀ a, P' a → P a) : Same (wo H P) (wo H P') := fun a o e =>
  let ⟨n, e'⟩ := of_wo e; wo_of (fun z => n (h a z)) e'

theorem Same.rd {H H' : Hp} {a : Addr} {u : HO} (e : Same H H') (h : Rd H a u) : Rd H' a u :=
  h.elim (fun h => .inl (e _ _ h)) fun ⟨o, h⟩ => .inr ⟨o, e _ _ h⟩
theorem Same.sqt {K : PySem.W.Frag} {H H' : Hp} {a : Addr} {xs : List V} (e : Same H H') (h : SqT K H a xs) : SqT K H' a xs :=
  h.elim (fun h => .inl (Same.rd e h)) .inr

mutual
theorem Dp.mono {K : PySem.W.Frag} {H H' : Hp} (e : Same H H') : ∀ {d : D} {v : V}, Dp K H v d → Dp K H' v d
  | .none, _, h => by cases h; exact .non
  | .bool b, _, h => by cases h; exact .bl b
  | .int i, _, h => by cases h; exact .int i
  | .str x, _, h => by cases h; exact .str x
  | .list ds, _, h => by
    cases h with
    | lst hs ha => exact .lst (e.seq hs) (DpAll.mono e ha)
  | .tuple ds, _, h => by
    cases h with
    | tup hs ha => exact .tup (Same.sqt e hs) (DpAll.mono e ha)
  | .dict _, _, h => by cases h
theorem DpAll.mono {K : PySem.W.Frag} {H H' : Hp} (e : Same H H') : ∀ {ds : List D} {vs : List V}, DpAll K H vs ds → DpAll K H' vs ds
  | [], _, h => by cases h; exact .nil
  | _ :: _, _, h => by
    cases h with
    | cons h1 h2 => exact .cons (Dp.mono e h1) (DpAll.mono e h2)
end
theorem DpAll.length {K : PySem.W.Frag} {H : Hp} : ∀ {ds : List D} {vs : List V}, DpAll K H vs ds → vs.length = ds.length
  | [], _, h => by cases h; rfl
  | _ :: _, _, h => by
    cases h with
    | cons h1 h2 => simp [DpAll.length h2]
theorem DpAll.get {K : PySem.W.Frag} {H : Hp} : ∀ {ds : List D} {vs : List V} {i : Nat} {d : D}, DpAll K H vs ds → ds[i]? = some d → ∃ v, vs[i]? = some v ∧ Dp K H v d
  | [], _, i, d, h, e => by simp at e
  | _ :: _, _, 0, d, h, e => by
    cases h with
    | cons h1 h2 => simp at e; subst e; exact ⟨_, rfl, h1⟩
  | _ :: _, _, i + 1, d, h, e => by
    cases h with
    | cons h1 h2 =>
      obtain ⟨v, e1, h3⟩ := DpAll.get (i := i) h2 (by simpa using e)
      exact ⟨v, by simpa using e1, h3⟩
theorem DpAll.append {K : PySem.W.Frag} {H : Hp} : ∀ {ds es : List D} {vs ws : List V}, DpAll K H vs ds → DpAll K H ws es → DpAll K H (vs ++ ws) (ds ++ es)
  | [], _, _, _, h, h' => by cases h; exact h'
  | _ :: _, _, _, _, h, h' => by
    cases h with
    | cons h1 h2 => exact .cons h1 (DpAll.append h2 h')
theorem DpAll.take {K : PySem.W.Frag} {H : Hp} : ∀ {ds : List D} {vs : List V} (n : Nat), DpAll K H vs ds → DpAll K H (vs.take n) (ds.take n)
  | _, _, 0, _ => .nil
  | [], _, n + 1, h => by cases h; exact .nil
  | _ :: _, _, n + 1, h => by
    cases h with
    | cons h1 h2 => exact .cons h1 (DpAll.take n h2)
theorem DpAll.drop {K : PySem.W.Frag} {H : Hp} : ∀ {ds : List D} {vs : List V} (n : Nat), DpAll K H vs ds → DpAll K H (vs.drop n) (ds.drop n)
  | _, _, 0, h => h
  | [], _, n + 1, h => by cases h; exact .nil
  | _ :: _, _, n + 1, h => by
    cases h with
    | cons h1 h2 => exact DpAll.drop n h2
theorem DpAll.reverse {K : PySem.W.Frag} {H : Hp} : ∀ {ds : List D} {vs : List V}, DpAll K H vs ds → DpAll K H vs.reverse ds.reverse
  | [], _, h => by cases h; exact .nil
  | d :: ds, _, h => by
    cases h with
    | cons h1 h2 => simp only [List.reverse_cons]; exact DpAll.append (DpAll.reverse h2) (.cons h1 .nil)
theorem DpAll.set {K : PySem.W.Frag} {H : Hp} {v : V} {d : D} (hd : Dp K H v d) : ∀ {ds : List D} {vs : List V} (i : Nat), DpAll K H vs ds → DpAll K H (vs.set i v) (ds.set i d)
  | [], _, _, h => by cases h; exact .nil
  | _ :: _, _, 0, h => by
    cases h with
    | cons h1 h2 => exact .cons hd h2
  | _ :: _, _, i + 1, h => by
    cases h with
    | cons h1 h2 => exact .cons h1 (DpAll.set hd i h2)
theorem DpAll.erase {K : PySem.W.Frag} {H : Hp} : ∀ {ds : List D} {vs : List V} (i : Nat), DpAll K H vs ds → DpAll K H (vs.eraseIdx i) (ds.eraseIdx i)
  | [], _, _, h => by cases h; exact .nil
  | _ :: _, _, 0, h => by
    cases h with
    | cons h1 h2 => exact h2
  | _ :: _, _, i + 1, h => by
    cases h with
    | cons h1 h2 => exact .cons h1 (DpAll.erase i h2)
theorem DpAll.dropLast {K : PySem.W.Frag} {H : Hp} {ds : List D} {vs : List V} (h : DpAll K H vs ds) : DpAll K H vs.dropLast ds.dropLast := by
  rw [List.dropLast_eq_take, List.dropLast_eq_take, DpAll.length h]; exact DpAll.take _ h

/-- a dict's key -/
def keyD : Key → D
  | .inl i => .int i
  | .inr x => .str x
inductive KvR (K : PySem.W.Frag) (R : Hp) : List (Key × V) → List (D × D) → Prop
  | nil : KvR K R [] []
  | cons {k : Key} {v : V} {d : D} {r qs} : Dp K R v d → KvR K R r qs → KvR K R ((k, v) :: r) ((keyD k, d) :: qs)
inductive KvT (K : PySem.W.Frag) (R : Hp) : List (List Key × V) → List (D × D) → Prop
  | nil : KvT K R [] []
  | cons {k : List Key} {v : V} {d : D} {r qs} : Dp K R v d → KvT K R r qs → KvT K R ((k, v) :: r) ((.tuple (k.map keyD), d) :: qs)
theorem KvR.mono {K : PySem.W.Frag} {R R' : Hp} (e : Same R R') : ∀ {a b}, KvR K R a b → KvR K R' a b
  | _, _, .nil => .nil
  | _, _, .cons h1 h2 => .cons (Dp.mono e h1) (KvR.mono e h2)
theorem KvT.mono {K : PySem.W.Frag} {R R' : Hp} (e : Same R R') : ∀ {a b}, KvT K R a b → KvT K R' a b
  | _, _, .nil => .nil
  | _, _, .cons h1 h2 => .cons (Dp.mono e h1) (KvT.mono e h2)

/-- a lent or owned object: its top at a in H, what is in it in R -/
inductive ROb (K : PySem.W.Frag) (R H : Hp) (a : Addr) : Ob → Prop
  | lst {vs : List V} {xs : List D} : SqL K H a vs → DpAll K R vs xs → ROb K R H a (.lst xs)
  | dK {kvs : List (Key × V)} {qs} : H a = some (.dK kvs) → KvR K R kvs qs → ROb K R H a (.dct false qs)
  | dT {kvs : List (List Key × V)} {qs} : H a = some (.dT kvs) → KvT K R kvs qs → ROb K R H a (.dct true qs)
/-- owned: tracked and writable -/
def Wr (K : PySem.W.Frag) (R H : Hp) (a : Addr) : Ob → Prop
  | .lst xs => ∃ vs, H a = some (.lst vs) ∧ DpAll K R vs xs
  | .dct t kvs => ROb K R H a (.dct t kvs)
theorem Wr.rob {K : PySem.W.Frag} {R H : Hp} {a : Addr} {o : Ob} (w : Wr K R H a o) : ROb K R H a o := by
  cases o with
  | lst xs => obtain ⟨vs, e, h⟩ := w; exact .lst (SqL.of e) h
  | dct t kvs => exact w
inductive RSv (K : PySem.W.Frag) (R H : Hp) : V → Sv → List Addr → Prop
  | dat {v : V} {d : D} : Dp K R v d → RSv K R H v (.dat d) []
  | own {a : Addr} {o : Ob} : Wr K R H a o → RSv K R H (.ref a) (.own o) [a]
  | fro {a : Addr} {o : Ob} : ROb K R R a o → RSv K R H (.ref a) (.fro o) []
theorem ROb.mono {K : PySem.W.Frag} {R R' H H' : Hp} {a : Addr} {o : Ob} (e : Same R R') (k : ∀ u, H a = some u → H' a = some u) (h : ROb K R H a o) : ROb K R' H' a o := by
  cases h with
  | lst h1 h2 =>
    refine .lst ?_ (DpAll.mono e h2)
    rcases h1 with (h | ⟨o, h⟩) | h
    · exact .inl (.inl (k _ h))
    · exact .inl (.inr ⟨o, k _ h⟩)
    · exact .inr h
  | dK h1 h2 => exact .dK (k _ h1) (h2.mono e)
  | dT h1 h2 => exact .dT (k _ h1) (h2.mono e)
theorem Wr.mono {K : PySem.W.Frag} {R R' H H' : Hp} {a : Addr} {o : Ob} (e : Same R R') (k : ∀ u, H a = some u → H' a = some u) (h : Wr K R H a o) : Wr K R' H' a o := by
  cases o with
  | lst xs => obtain ⟨vs, q, h⟩ := h; exact ⟨vs, k _ q, DpAll.mono e h⟩
  | dct => exact ROb.mono e k h
theorem RSv.mono {K : PySem.W.Frag} {R R' H H' : Hp} {v : V} {s : Sv} {B : List Addr} (e : Same R R') (k : ∀ a ∈ B, ∀ u, H a = some u → H' a = some u) (h : RSv K R H v s B) : RSv K R' H' v s B := by
  cases h with
  | dat h => exact .dat (Dp.mono e h)
  | own w => exact .own (Wr.mono e (k _ (by simp)) w)
  | fro h => exact .fro (h.mono e (fun u z => e _ _ z))
theorem Wr.live {K : PySem.W.Frag} {R H : Hp} {a : Addr} {o : Ob} (w : Wr K R H a o) : ∃ u, H a = some u := by
  cases o with
  | lst xs => obtain ⟨vs, q, h⟩ := w; exact ⟨_, q⟩
  | dct => cases w with
    | dK h1 h2 => exact ⟨_, h1⟩
    | dT h1 h2 => exact ⟨_, h1⟩
theorem RSv.live {K : PySem.W.Frag} {R H : Hp} {v : V} {s : Sv} {B : List Addr} (h : RSv K R H v s B) : ∀ a ∈ B, ∃ u, H a = some u := by
  intro a ha
  cases h with
  | dat h => cases ha
  | fro h => cases ha
  | own w => simp at ha; subst ha; exact w.live

def Ow (A : AS) (a : Addr) : Prop := ∃ i, a ∈ A.f i
/-- what may change or is not to be leant on -/
def OwB (B : List Addr) (A : AS) (a : Addr) : Prop := A.Z a ∨ a ∈ B ∨ Ow A a
abbrev Got (ρ : Ev) (i : Nat) (s : Sv) : Prop := ρ[i]? = some (some s)

structure Stt (K : PySem.W.Frag) (H : Hp) (B : List Addr) (σ : L2.St) (ρ : Ev) (A : AS) : Prop where
  len : ρ.length = σ.length
  got : ∀ i s, Got ρ i s → ∃ v, σ[i]? = some (some v) ∧ RSv K (wo H (OwB B A)) H v s (A.f i)
  emp : ∀ i, (∀ s, ¬ Got ρ i s) → A.f i = []
  dj : ∀ i j a, a ∈ A.f i → a ∈ A.f j → i = j
  zd : ∀ a, A.Z a → ¬ Ow A a ∧ a ∉ B
  zl : ∀ a, A.Z a → ∃ u, H a = some u
  fr : ∀ a ∈ B, ¬ Ow A a
/-- from one state to a later one -/
structure Gr (H : Hp) (A : AS) (H' : Hp) (B : List Addr) (A' : AS) : Prop where
  s : Same (wo H (OwB [] A)) (wo H' (OwB B A'))
  z : A'.Z = A.Z
  k : ∀ a, A.Z a → ∀ u, H a = some u → H' a = some u
theorem Gr.refl {H : Hp} {A : AS} : Gr H A H [] A := ⟨Same.refl _, rfl, fun _ _ _ e => e⟩
theorem Gr.trans {H H1 H' : Hp} {A A1 A' : AS} {B : List Addr} (a : Gr H A H1 [] A1) (b : Gr H1 A1 H' B A') : Gr H A H' B A' :=
  ⟨fun c o z => b.s c o (a.s c o z), b.z.trans a.z, fun c z u e => b.k c (by rw [a.z]; exact z) u (a.k c z u e)⟩
section
variable {K : PySem.W.Frag} {H H' : Hp} {P P' : Addr → Prop} {σ : L2.St} {ρ ρ' : Ev} {A A' : AS} {B B' : List Addr}
theorem Stt.live (S : Stt K H B σ ρ A) : ∀ a, Ow A a → ∃ u, H a = some u := fun a ⟨i, ha⟩ => by
  by_cases h : ∃ s, Got ρ i s
  · obtain ⟨s, e⟩ := h
    obtain ⟨v, _, r⟩ := S.got i s e
    exact r.live a ha
  · rw [S.emp i (fun s e => h ⟨s, e⟩)] at ha; cases ha
theorem Stt.liveP (S : Stt K H [] σ ρ A) : ∀ a, OwB [] A a → ∃ u, H a = some u := fun a h => by
  rcases h with h | h | h
  · exact S.zl a h
  · cases h
  · exact S.live a h
/-- a step that keeps what is owned -/
theorem Stt.mono (S : Stt K H B σ ρ A) (e : Same (wo H (OwB B A)) (wo H' (OwB B' A))) (k : ∀ a, A.Z a ∨ Ow A a → ∀ u, H a = some u → H' a = some u) (hs : ∀ a ∈ B', ¬ Ow A a ∧ ¬ A.Z a) : Stt K H' B' σ ρ A :=
  ⟨S.len, fun i s g => let ⟨v, e1, r⟩ := S.got i s g; ⟨v, e1, r.mono e fun a ha => k a (.inr ⟨i, ha⟩)⟩, S.emp, S.dj, fun a z => ⟨(S.zd a z).1, fun h => (hs a h).2 z⟩, fun a z => let ⟨u, e⟩ := S.zl a z; ⟨u, k a (.inl z) u e⟩, fun a h => (hs a h).1⟩
theorem Same.wo2 (e : Same H H') (hs : ∀ a, P' a → P a ∨ H a = none) : Same (wo H P) (wo H' P') := fun a o h => by
  obtain ⟨n, h1⟩ := of_wo h
  refine wo_of (fun z => ?_) (e a o h1)
  rcases hs a z with z | z
  · exact n z
  · rw [h1] at z; cases z
end

/-! ### expressions -/
structure PostE (K : PySem.W.Frag) (H : Hp) (A : AS) (σ : L2.St) (ρ' : Ev) (s : Sv) (v : V) (H' : Hp) (A' : AS) (B : List Addr) : Prop where
  st : Stt K H' B σ ρ' A'
  rs : RSv K (wo H' (OwB B A')) H' v s B
  gr : Gr H A H' B A'
/-- e is f, what it gives may be owned -/
def SEt (K : PySem.W.Frag) (t : TE) (f : Ev → Option (Sv × Ev)) : Prop :=
  ∀ (σ : L2.St) (ρ : Ev) (A : AS) (H : Hp) (Q : VK) (s : Sv) (ρ' : Ev), Stt K H [] σ ρ A → f ρ = some (s, ρ') →
    (∀ v H' A' B, PostE K H A σ ρ' s v H' A' B → Q v H') → t σ H Q
def SE (X : Cx) (e : Expr) (f : Ev → Option (Sv × Ev)) : Prop := ∃ t : TE, PE X e t ∧ SEt X.K t f
abbrev PostF (K : PySem.W.Frag) (H : Hp) (A : AS) (σ : L2.St) (ρ' : Ev) (s : Sv) (v : V) (H' : Hp) (A' : AS) : Prop := PostE K H A σ ρ' s v H' A' []
/-- e is f, nothing of what it gives is owned -/
def SF (X : Cx) (e : Expr) (f : Ev → Option (Sv × Ev)) : Prop :=
  ∃ t : TE, PE X e t ∧ ∀ (σ : L2.St) (ρ : Ev) (A : AS) (H : Hp) (Q : VK) (s : Sv) (ρ' : Ev), Stt X.K H [] σ ρ A → f ρ = some (s, ρ') →
    (∀ v H' A', PostF X.K H A σ ρ' s v H' A' → Q v H') → t σ H Q
def frz : Sv → Sv
  | .own (.lst xs) => .dat (.list xs)
  | .own o => .fro o
  | s => s
def fFrz (f : Ev → Option (Sv × Ev)) : Ev → Option (Sv × Ev) := fun ρ => (f ρ).map fun p => (frz p.1, p.2)
theorem RSv.frz {K : PySem.W.Frag} {R R' H : Hp} {v : V} {s : Sv} {B : List Addr} (r : RSv K R H v s B) (e : Same R R') (k : ∀ a ∈ B, ∀ u, H a = some u → R' a = some u) : RSv K R' H v (frz s) [] := by
  cases r with
  | dat h => exact .dat (Dp.mono e h)
  | fro h => exact .fro (h.mono e (fun u z => e _ _ z))
  | own w =>
    have h' := w.rob.mono e (H' := R') (k _ (by simp))
    cases h' with
    | lst h1 h2 => exact .dat (.lst h1 h2)
    | dK h1 h2 => exact .fro (.dK h1 h2)
    | dT h1 h2 => exact .fro (.dT h1 h2)
theorem owB_less {A : AS} {B : List Addr} : ∀ a, OwB [] A a → OwB B A a := fun a z => z.imp id fun z => z.elim (fun z => nomatch z) .inr
/-- what is owned for the moment is let go -/
theorem PostE.frz {K : PySem.W.Frag} {H : Hp} {A : AS} {σ : L2.St} {ρ' : Ev} {s : Sv} {v : V} {H' : Hp} {A' : AS} {B : List Addr} (p : PostE K H A σ ρ' s v H' A' B) : PostF K H A σ ρ' (frz s) v H' A' := by
  have le : Same (wo H' (OwB B A')) (wo H' (OwB [] A')) := wo_less owB_less
  refine ⟨p.st.mono le (fun _ _ _ z => z) (fun a z => nomatch z), p.rs.frz le fun a ha u hu => wo_of (fun z => ?_) hu, fun a o z => le a o (p.gr.s a o z), p.gr.z, p.gr.k⟩
  rcases z with z | z | z
  · exact (p.st.zd a z).2 ha
  · cases z
  · exact p.st.fr a ha z
theorem SE.frz {X : Cx} {e : Expr} {f : Ev → Option (Sv × Ev)} (h : SE X e f) : SF X e (fFrz f) := by
  obtain ⟨t, ht, hs⟩ := h
  refine ⟨t, ht, fun σ ρ A H Q s ρ' S he hq => ?_⟩
  unfold fFrz at he
  obtain ⟨⟨s0, ρ0⟩, e1, e2⟩ := Option.map_eq_some_iff.mp he
  cases e2
  exact hs σ ρ A H Q s0 ρ0 S e1 fun v H' A' B p => hq v H' A' p.frz
theorem SF.e {X : Cx} {e : Expr} {f : Ev → Option (Sv × Ev)} (h : SF X e f) : SE X e f := by
  obtain ⟨t, ht, hs⟩ := h
  exact ⟨t, ht, fun σ ρ A H Q s ρ' S he hq => hs σ ρ A H Q s ρ' S he fun v H' A' p => hq v H' A' [] p⟩

/-- an operand: a value, or a name that is read when all operands are there -/
inductive Pend where
  | now (s : Sv)
  | late (j : Nat)
def res : Pend → Ev → Option Sv
  | .now s, _ => some s
  | .late j, ρ => (ρ[j]?).join
def PendOk (K : PySem.W.Frag) (H : Hp) (A : AS) (σ : L2.St) (v : V) : Pend → Prop
  | .now s => RSv K (wo H (OwB [] A)) H v s []
  | .late j => σ[j]? = some (some v)
structure PostO (K : PySem.W.Frag) (H : Hp) (A : AS) (σ : L2.St) (ρ' : Ev) (p : Pend) (v : V) (H' : Hp) (A' : AS) : Prop where
  st : Stt K H' [] σ ρ' A'
  rs : PendOk K H' A' σ v p
  gr : Gr H A H' [] A'
def SO (X : Cx) (e : Expr) (f : Ev → Option (Pend × Ev)) : Prop :=
  ∃ t : TE, PE X e t ∧ ∀ (σ : L2.St) (ρ : Ev) (A : AS) (H : Hp) (Q : VK) (s : Pend) (ρ' : Ev), Stt X.K H [] σ ρ A → f ρ = some (s, ρ') →
    (∀ v H' A', PostO X.K H A σ ρ' s v H' A' → Q v H') → t σ H Q
theorem PendOk.mono {K : PySem.W.Frag} {H H' : Hp} {A A' : AS} {σ : L2.St} {v : V} {p : Pend} (h : PendOk K H A σ v p) (e : Gr H A H' [] A') : PendOk K H' A' σ v p := by
  cases p with
  | now s => exact RSv.mono e.s (fun a z => nomatch z) h
  | late j => exact h
theorem got_of_join {ρ : Ev} {j : Nat} {s : Sv} (e : (ρ[j]?).join = some s) : Got ρ j s := by
  unfold Got
  cases q : ρ[j]? with
  | none => rw [q] at e; cases e
  | some z => rw [q] at e; cases z with
    | none => cases e
    | some z => cases e; rfl
theorem res_ok {K : PySem.W.Frag} {H : Hp} {A : AS} {σ : L2.St} {ρ : Ev} {v : V} {p : Pend} {s : Sv} (S : Stt K H [] σ ρ A) (h : PendOk K H A σ v p) (e : res p ρ = some s) : ∃ B, RSv K (wo H (OwB [] A)) H v s B := by
  cases p with
  | now s' => cases e; exact ⟨[], h⟩
  | late j =>
    obtain ⟨v', e1, r⟩ := S.got j s (got_of_join e)
    have h' : σ[j]? = some (some v) := h
    rw [e1] at h'; cases h'
    exact ⟨_, r⟩
def oNow (f : Ev → Option (Sv × Ev)) : Ev → Option (Pend × Ev) := fun ρ => (f ρ).map fun p => (.now (frz p.1), p.2)
theorem SE.o {X : Cx} {e : Expr} {f : Ev → Option (Sv × Ev)} (h : SE X e f) : SO X e (oNow f) := by
  obtain ⟨t, ht, hs⟩ := h
  refine ⟨t, ht, fun σ ρ A H Q s ρ' S he hq => ?_⟩
  unfold oNow at he
  obtain ⟨⟨s0, ρ0⟩, e1, e2⟩ := Option.map_eq_some_iff.mp he
  cases e2
  exact hs σ ρ A H Q s0 ρ0 S e1 fun v H' A' B p => hq v H' A' ⟨p.frz.st, p.frz.rs, p.frz.gr⟩
/-- a name -/
def oVar (j : Nat) : Ev → Option (Pend × Ev) := fun ρ => match ρ[j]? with
  | some (some _) => some (.late j, ρ)
  | _ => none
theorem so_var {X : Cx} {j : Nat} {x : Str} {pos : Pos} (hN : X.N[j]? = some x) (hv : Vis X.env.scope x) (hd : (x == ("__debug__" : Str)) = false := by decide +kernel) (hcd : (x == ("__classdict__" : Str)) = false := by decide +kernel) : SO X (.Name x pos) (oVar j) := by
  refine ⟨_, pe_var hN hv hd hcd, fun σ ρ A H Q s ρ' S he hq => ?_⟩
  unfold oVar at he
  split at he
  · rename_i s0 e0
    cases he
    obtain ⟨v, e1, r⟩ := S.got j s0 e0
    exact ⟨v, e1, hq v H A ⟨S, e1, .refl⟩⟩
  · cases he

/-! ### constants -/
def eC (d : D) : Ev → Option (Sv × Ev) := fun ρ => some (.dat d, ρ)
theorem sf_c {X : Cx} {e : Expr} {v : V} {d : D} (h : PE X e (tC v)) (hd : ∀ K H, Dp K H v d) : SE X e (eC d) :=
  ⟨_, h, fun σ ρ A H Q s ρ' S he hq => by cases he; exact hq v H A [] ⟨S, .dat (hd _ _), .refl⟩⟩
theorem sf_int {X : Cx} {i j pos} : SE X (.Constant (.int i) j pos) (eC (.int i)) := sf_c pe_int fun _ _ => .int i
theorem sf_bl {X : Cx} {i j pos} : SE X (.Constant (.bool i) j pos) (eC (.bool i)) := sf_c pe_bl fun _ _ => .bl i
theorem sf_str {X : Cx} {i j pos} : SE X (.Constant (.str i) j pos) (eC (.str i)) := sf_c pe_str fun _ _ => .str i
theorem sf_non {X : Cx} {j pos} : SE X (.Constant .none j pos) (eC .none) := sf_c pe_non fun _ _ => .non

/-! ### what an operation gives: something new, or something that is there -/
/-- behind an operation that changes nothing: a value over a heap with new things -/
structure New (K : PySem.W.Frag) (H : Hp) (P : Addr → Prop) (s : Sv) (u : V) (H' : Hp) (B : List Addr) : Prop where
  same : Same H H'
  new : ∀ a ∈ B, H a = none
  rs : RSv K (wo H' fun a => a ∈ B ∨ P a) H' u s B
theorem New.post {K : PySem.W.Frag} {H0 H H' : Hp} {A0 A : AS} {σ : L2.St} {ρ : Ev} {s : Sv} {u : V} {B : List Addr} (S : Stt K H [] σ ρ A) (g : Gr H0 A0 H [] A) (n : New K H (OwB [] A) s u H' B) : PostE K H0 A0 σ ρ s u H' A B := by
  have nn : ∀ a ∈ B, ¬ (∃ u, H a = some u) := fun a ha ⟨u, e⟩ => by
    rw [n.new a ha] at e; cases e
  have nA : ∀ a ∈ B, ¬ Ow A a ∧ ¬ A.Z a := fun a ha => ⟨fun z => nn a ha (S.live a z), fun z => nn a ha (S.zl a z)⟩
  have e : Same (wo H (OwB [] A)) (wo H' (OwB B A)) := Same.wo2 n.same fun a z => by
    rcases z with z | z | z
    · exact .inl (.inl z)
    · exact .inr (n.new a z)
    · exact .inl (.inr (.inr z))
  refine ⟨S.mono e (fun a _ u z => n.same a u z) nA, n.rs.mono (wo_less fun a z => ?_) (fun a _ u e => e), fun a o z => e a o (g.s a o z), g.z, fun a z u e => n.same a u (g.k a z u e)⟩
  rcases z with z | z | z
  · exact .inr (.inl z)
  · exact .inl z
  · exact .inr (.inr (.inr z))
/-- nothing new -/
theorem New.old {K : PySem.W.Frag} {H : Hp} {P : Addr → Prop} {d : D} {u : V} (h : Dp K (wo H P) u d) : New K H P (.dat d) u H [] :=
  ⟨Same.refl _, (fun a z => nomatch z), .dat (Dp.mono (wo_less fun a z => z.elim (fun z => nomatch z) id) h)⟩
/-- a new list, a new tuple -/
theorem New.lst {K : PySem.W.Frag} {H : Hp} {P : Addr → Prop} {vs : List V} {xs : List D} {p : Addr} (n : H p = none) (h : DpAll K (wo H P) vs xs) : New K H P (.own (.lst xs)) (.ref p) (upd H p (.lst vs)) [p] := by
  have sm : Same H (upd H p (.lst vs)) := fun b o e => by rw [upd_ne (ne_of_none e n)]; exact e
  have e : Same (wo H P) (wo (upd H p (.lst vs)) fun a => a ∈ [p] ∨ P a) := Same.wo2 sm fun a z => z.elim (fun z => .inr (by simp at z; subst z; exact n)) .inl
  exact ⟨sm, fun a z => by simp at z; subst z; exact n, .own ⟨vs, upd_same, DpAll.mono e h⟩⟩
theorem New.tup {K : PySem.W.Frag} {H : Hp} {P : Addr → Prop} (hP : ∀ a, P a → ∃ u, H a = some u) {vs : List V} {xs : List D} {p : Addr} (n : H p = none) (h : DpAll K (wo H P) vs xs) : New K H P (.dat (.tuple xs)) (.ref p) (upd H p (.tup vs)) [] := by
  have sm : Same H (upd H p (.tup vs)) := fun b o e => by rw [upd_ne (ne_of_none e n)]; exact e
  have e : Same (wo H P) (wo (upd H p (.tup vs)) fun a => a ∈ [] ∨ P a) := Same.wo2 sm fun a z => z.elim (fun z => nomatch z) .inl
  refine ⟨sm, (fun a z => nomatch z), .dat (.tup (.inl (.inl (wo_of (fun z => ?_) upd_same))) (DpAll.mono e h))⟩
  rcases z with z | z
  · cases z
  · obtain ⟨u, q⟩ := hP p z; rw [n] at q; cases q

/-- an operation on two operands -/
def R2Ok (K : PySem.W.Frag) (r : R2) (op : Sv → Sv → Option Sv) : Prop :=
  ∀ (H : Hp) (P : Addr → Prop) (v w : V) (x y s : Sv) (Q : VK) (B1 B2 : List Addr), (∀ a, P a → ∃ u, H a = some u) → RSv K (wo H P) H v x B1 → RSv K (wo H P) H w y B2 → op x y = some s →
    (∀ u H' B, New K H P s u H' B → Q u H') → r v w H Q
def eOp2 (op : Sv → Sv → Option Sv) (fa fb : Ev → Option (Pend × Ev)) : Ev → Option (Sv × Ev) := fun ρ =>
  (fa ρ).bind fun p => (fb p.2).bind fun q => (res p.1 q.2).bind fun x => (res q.1 q.2).bind fun y => (op x y).map fun s => (s, q.2)
theorem se_tOp {X : Cx} {a b : Expr} {r : R2} {op : Sv → Sv → Option Sv} {fa fb : Ev → Option (Pend × Ev)} (ha : SO X a fa) (hb : SO X b fb) (hr : R2Ok X.K r op) :
    ∃ ta tb, PE X a ta ∧ PE X b tb ∧ SEt X.K (tOp r ta tb) (eOp2 op fa fb) := by
  obtain ⟨ta, pa, sa⟩ := ha
  obtain ⟨tb, pb, sb⟩ := hb
  refine ⟨ta, tb, pa, pb, fun σ ρ A H Q s ρ' S hf hq => ?_⟩
  unfold eOp2 at hf
  obtain ⟨⟨p, ρ1⟩, e1, hf⟩ := Option.bind_eq_some_iff.mp hf
  obtain ⟨⟨q, ρ2⟩, e2, hf⟩ := Option.bind_eq_some_iff.mp hf
  obtain ⟨x, e3, hf⟩ := Option.bind_eq_some_iff.mp hf
  obtain ⟨y, e4, hf⟩ := Option.bind_eq_some_iff.mp hf
  obtain ⟨s0, e5, hf⟩ := Option.map_eq_some_iff.mp hf
  cases hf
  refine sa σ ρ A H _ p ρ1 S e1 fun v H1 A1 p1 => ?_
  refine sb σ ρ1 A1 H1 _ q _ p1.st e2 fun w H2 A2 p2 => ?_
  obtain ⟨B1, r1⟩ := res_ok p2.st (p1.rs.mono p2.gr) e3
  obtain ⟨B2, r2⟩ := res_ok p2.st p2.rs e4
  exact hr H2 (OwB [] A2) v w x y _ Q B1 B2 p2.st.liveP r1 r2 e5 fun u H' B n => hq u H' A2 B (n.post p2.st (p1.gr.trans p2.gr))
theorem se_op {X : Cx} {a b : Expr} {o : Operator} {pos : Pos} {r : R2} {op : Sv → Sv → Option Sv} {fa fb : Ev → Option (Pend × Ev)} (ho : OpR X (binaryOp o) r) (hr : R2Ok X.K r op) (ha : SO X a fa) (hb : SO X b fb) : SE X (.BinOp a o b pos) (eOp2 op fa fb) :=
  let ⟨_, _, pa, pb, h⟩ := se_tOp ha hb hr
  ⟨_, pe_op ho pa pb, h⟩
theorem se_cmp {X : Cx} {a b : Expr} {o : CmpOp} {pos : Pos} {r : R2} {op : Sv → Sv → Option Sv} {fa fb : Ev → Option (Pend × Ev)} (ho : OpR X (compareOp o) r) (hr : R2Ok X.K r op) (ha : SO X a fa) (hb : SO X b fb) (hm : behindInMarks o b = false := by first | exact nomark _ | rfl) : SE X (.Compare a [o] [b] pos) (eOp2 op fa fb) :=
  let ⟨_, _, pa, pb, h⟩ := se_tOp ha hb hr
  ⟨_, pe_cmpR ho pa pb hm, h⟩

/-- an operation on one operand -/
def R1Ok (K : PySem.W.Frag) (r : V → Hp → VK → Prop) (op : Sv → Option Sv) : Prop :=
  ∀ (H : Hp) (P : Addr → Prop) (v : V) (x s : Sv) (Q : VK) (B1 : List Addr), (∀ a, P a → ∃ u, H a = some u) → RSv K (wo H P) H v x B1 → op x = some s → (∀ u H' B, New K H P s u H' B → Q u H') → r v H Q
def eOp1 (op : Sv → Option Sv) (fa : Ev → Option (Pend × Ev)) : Ev → Option (Sv × Ev) := fun ρ =>
  (fa ρ).bind fun p => (res p.1 p.2).bind fun x => (op x).map fun s => (s, p.2)
theorem se_tUn {X : Cx} {a : Expr} {r : V → Hp → VK → Prop} {op : Sv → Option Sv} {fa : Ev → Option (Pend × Ev)} (ha : SO X a fa) (hr : R1Ok X.K r op) :
    ∃ ta, PE X a ta ∧ SEt X.K (tUn r ta) (eOp1 op fa) := by
  obtain ⟨ta, pa, sa⟩ := ha
  refine ⟨_, pa, fun σ ρ A H Q s ρ' S hf hq => ?_⟩
  unfold eOp1 at hf
  obtain ⟨⟨p, ρ1⟩, e1, hf⟩ := Option.bind_eq_some_iff.mp hf
  obtain ⟨x, e3, hf⟩ := Option.bind_eq_some_iff.mp hf
  obtain ⟨s0, e5, hf⟩ := Option.map_eq_some_iff.mp hf
  cases hf
  refine sa σ ρ A H _ p _ S e1 fun v H1 A1 p1 => ?_
  obtain ⟨B1, r1⟩ := res_ok p1.st p1.rs e3
  exact hr H1 (OwB [] A1) v x _ Q B1 p1.st.liveP r1 e5 fun u H' B n => hq u H' A1 B (n.post p1.st p1.gr)
theorem se_un {X : Cx} {a : Expr} {o : UnaryOp} {pos : Pos} {r : V → Hp → VK → Prop} {op : Sv → Option Sv} {fa : Ev → Option (Pend × Ev)} (ho : UnR X (unaryOp o) r) (hr : R1Ok X.K r op) (ha : SO X a fa) : SE X (.UnaryOp o a pos) (eOp1 op fa) :=
  let ⟨_, pa, h⟩ := se_tUn ha hr
  ⟨_, pe_un ho pa, h⟩
end DL
namespace DL
open PySem PySem.Spec PyProof.Rows L2
open Classical (propDecidable)

/-! ### tests -/
def ST (X : Cx) (e : Expr) (f : Ev → Option (Bool × Ev)) : Prop :=
  ∃ t : TT, PT X e t ∧ ∀ (σ : L2.St) (ρ : Ev) (A : AS) (H : Hp) (Q : Bool → Hp → Prop) (b : Bool) (ρ' : Ev), Stt X.K H [] σ ρ A → f ρ = some (b, ρ') →
    (∀ H' A', Stt X.K H' [] σ ρ' A' → Gr H A H' [] A' → Q b H') → t σ H Q
def SW (X : Cx) (e : Expr) (f : Ev → Option (Bool × Ev)) : Prop :=
  ∃ t : TT, PW X e t ∧ ∀ (σ : L2.St) (ρ : Ev) (A : AS) (H : Hp) (Q : Bool → Hp → Prop) (b : Bool) (ρ' : Ev), Stt X.K H [] σ ρ A → f ρ = some (b, ρ') →
    (∀ H' A', Stt X.K H' [] σ ρ' A' → Gr H A H' [] A' → Q b H') → t σ H Q
theorem SW.t {X : Cx} {e : Expr} {f} (h : SW X e f) : ST X e f := let ⟨t, p, q⟩ := h; ⟨t, p.pt, q⟩
def tB (f : Ev → Option (Sv × Ev)) : Ev → Option (Bool × Ev) := fun ρ => (f ρ).bind fun p => match p.1 with
  | .dat (.bool b) => some (b, p.2)
  | _ => none
theorem tB_run {K : PySem.W.Frag} {t : TE} {f : Ev → Option (Sv × Ev)} (h : SEt K t f) (σ : L2.St) (ρ : Ev) (A : AS) (H : Hp) (Q : Bool → Hp → Prop) (b : Bool) (ρ' : Ev) (S : Stt K H [] σ ρ A) (hf : tB f ρ = some (b, ρ'))
    (hq : ∀ H' A', Stt K H' [] σ ρ' A' → Gr H A H' [] A' → Q b H') : t σ H fun x H1 => ∃ c, x = .bl c ∧ Q c H1 := by
  unfold tB at hf
  obtain ⟨⟨s, ρ1⟩, e1, hf⟩ := Option.bind_eq_some_iff.mp hf
  dsimp only at hf
  split at hf
  · rename_i c
    cases hf
    refine h σ ρ A H _ _ _ S e1 fun v H' A' B p => ?_
    obtain ⟨p1, p2, p3⟩ := p
    cases p2 with
    | dat h => cases h; exact ⟨_, rfl, hq H' A' p1 p3⟩
  · cases hf
theorem st_val {X : Cx} {e : Expr} {f : Ev → Option (Sv × Ev)} (h : SE X e f) (he : ∀ whole, isTrue e X.env whole = (do let v ← whole; standAt e.pos; holding [v] (truthy v)) := by intro _; rfl) : ST X e (tB f) := by
  obtain ⟨t, pt, hs⟩ := h
  exact ⟨_, pt_val pt he, fun σ ρ A H Q b ρ' S hf hq => tB_run hs σ ρ A H Q b ρ' S hf hq⟩
theorem st_cmp {X : Cx} {a b : Expr} {o : CmpOp} {pos : Pos} {r : R2} {op : Sv → Sv → Option Sv} {fa fb : Ev → Option (Pend × Ev)} (ho : OpR X (compareOp o) r) (hr : R2Ok X.K r op) (ha : SO X a fa) (hb : SO X b fb) (hm : behindInMarks o b = false := by first | exact nomark _ | rfl) : ST X (.Compare a [o] [b] pos) (tB (eOp2 op fa fb)) := by
  obtain ⟨ta, tb, pa, pb, h⟩ := se_tOp ha hb hr
  exact ⟨_, pt_cmpR ho pa pb hm, fun σ ρ A H Q b ρ' S hf hq => tB_run h σ ρ A H Q b ρ' S hf hq⟩
def tNt (f : Ev → Option (Bool × Ev)) : Ev → Option (Bool × Ev) := fun ρ => (f ρ).map fun p => (!p.1, p.2)
theorem st_not {X : Cx} {a : Expr} {pos : Pos} {f} (h : ST X a f) : ST X (.UnaryOp .Not a pos) (tNt f) := by
  obtain ⟨t, pt, hs⟩ := h
  refine ⟨_, pt_not pt, fun σ ρ A H Q b ρ' S hf hq => ?_⟩
  unfold tNt at hf
  obtain ⟨⟨c, ρ1⟩, e1, e2⟩ := Option.map_eq_some_iff.mp hf
  cases e2
  exact hs σ ρ A H _ c _ S e1 hq
def tAn (f g : Ev → Option (Bool × Ev)) : Ev → Option (Bool × Ev) := fun ρ => (f ρ).bind fun p => if p.1 = true then g p.2 else some (false, p.2)
def tOr' (f g : Ev → Option (Bool × Ev)) : Ev → Option (Bool × Ev) := fun ρ => (f ρ).bind fun p => if p.1 = true then some (true, p.2) else g p.2
section
variable {X : Cx} {a b : Expr} {rest : List Expr} {pos : Pos} {f g : Ev → Option (Bool × Ev)}
theorem sw_and1 (h : ST X a f) : SW X (.BoolOp .And [a] pos) f := let ⟨t, p, q⟩ := h; ⟨t, pw_and1 p, q⟩
theorem sw_or1 (h : ST X a f) : SW X (.BoolOp .Or [a] pos) f := let ⟨t, p, q⟩ := h; ⟨t, pw_or1 p, q⟩
theorem sw_and (ha : ST X a f) (hb : SW X (.BoolOp .And (b :: rest) pos) g) : SW X (.BoolOp .And (a :: b :: rest) pos) (tAn f g) := by
  obtain ⟨t, p, hs⟩ := ha
  obtain ⟨u, q, hu⟩ := hb
  refine ⟨_, pw_and p q, fun σ ρ A H Q b ρ' S hf hq => ?_⟩
  unfold tAn at hf
  obtain ⟨⟨c, ρ1⟩, e1, hf⟩ := Option.bind_eq_some_iff.mp hf
  refine hs σ ρ A H _ c _ S e1 fun H1 A1 S1 g1 => ?_
  cases c with
  | true => exact iteT (hu σ ρ1 A1 H1 Q b ρ' S1 hf fun H2 A2 S2 g2 => hq H2 A2 S2 (g1.trans g2))
  | false => cases hf; exact iteF (hq H1 A1 S1 g1)
theorem sw_or (ha : ST X a f) (hb : SW X (.BoolOp .Or (b :: rest) pos) g) : SW X (.BoolOp .Or (a :: b :: rest) pos) (tOr' f g) := by
  obtain ⟨t, p, hs⟩ := ha
  obtain ⟨u, q, hu⟩ := hb
  refine ⟨_, pw_or p q, fun σ ρ A H Q b ρ' S hf hq => ?_⟩
  unfold tOr' at hf
  obtain ⟨⟨c, ρ1⟩, e1, hf⟩ := Option.bind_eq_some_iff.mp hf
  refine hs σ ρ A H _ c _ S e1 fun H1 A1 S1 g1 => ?_
  cases c with
  | false => exact iteF (hu σ ρ1 A1 H1 Q b ρ' S1 hf fun H2 A2 S2 g2 => hq H2 A2 S2 (g1.trans g2))
  | true => cases hf; exact iteT (hq H1 A1 S1 g1)
/-- as values -/
def eAn (f g : Ev → Option (Sv × Ev)) : Ev → Option (Sv × Ev) := fun ρ => (tB f ρ).bind fun p => if p.1 = true then g p.2 else some (.dat (.bool false), p.2)
def eOr (f g : Ev → Option (Sv × Ev)) : Ev → Option (Sv × Ev) := fun ρ => (tB f ρ).bind fun p => if p.1 = true then some (.dat (.bool true), p.2) else g p.2
def eNt (f : Ev → Option (Sv × Ev)) : Ev → Option (Sv × Ev) := fun ρ => (tB f ρ).map fun p => (.dat (.bool (!p.1)), p.2)
variable {f g : Ev → Option (Sv × Ev)}
theorem PostE.bl {K : PySem.W.Frag} {H H' : Hp} {A A' : AS} {σ : L2.St} {ρ' : Ev} {c : Bool} (S1 : Stt K H' [] σ ρ' A') (g1 : Gr H A H' [] A') : PostE K H A σ ρ' (.dat (.bool c)) (.bl c) H' A' [] := ⟨S1, .dat (.bl c), g1⟩
theorem PostE.trans {K : PySem.W.Frag} {H H1 H' : Hp} {A A1 A' : AS} {σ : L2.St} {ρ' : Ev} {s : Sv} {v : V} {B : List Addr} (g1 : Gr H A H1 [] A1) (p : PostE K H1 A1 σ ρ' s v H' A' B) : PostE K H A σ ρ' s v H' A' B :=
  ⟨p.st, p.rs, g1.trans p.gr⟩
theorem se_one {op} (h : SE X a f) : SE X (.BoolOp op [a] pos) f := let ⟨t, p, q⟩ := h; ⟨t, pe_one p, q⟩
theorem se_and (ha : SE X a f) (hb : SE X (.BoolOp .And (b :: rest) pos) g) : SE X (.BoolOp .And (a :: b :: rest) pos) (eAn f g) := by
  obtain ⟨t, p, hs⟩ := ha
  obtain ⟨u, q, hu⟩ := hb
  refine ⟨_, pe_and p q, fun σ ρ A H Q s ρ' S hf hq => ?_⟩
  unfold eAn at hf
  obtain ⟨⟨c, ρ1⟩, e1, hf⟩ := Option.bind_eq_some_iff.mp hf
  refine tB_run hs σ ρ A H _ c ρ1 S e1 fun H1 A1 S1 g1 => ?_
  cases c with
  | true => exact iteT (hu σ ρ1 A1 H1 Q s ρ' S1 hf fun v H2 A2 B p => hq v H2 A2 B (p.trans g1))
  | false => cases hf; exact iteF (hq _ H1 A1 [] (.bl S1 g1))
theorem se_or (ha : SE X a f) (hb : SE X (.BoolOp .Or (b :: rest) pos) g) : SE X (.BoolOp .Or (a :: b :: rest) pos) (eOr f g) := by
  obtain ⟨t, p, hs⟩ := ha
  obtain ⟨u, q, hu⟩ := hb
  refine ⟨_, pe_or p q, fun σ ρ A H Q s ρ' S hf hq => ?_⟩
  unfold eOr at hf
  obtain ⟨⟨c, ρ1⟩, e1, hf⟩ := Option.bind_eq_some_iff.mp hf
  refine tB_run hs σ ρ A H _ c ρ1 S e1 fun H1 A1 S1 g1 => ?_
  cases c with
  | false => exact iteF (hu σ ρ1 A1 H1 Q s ρ' S1 hf fun v H2 A2 B p => hq v H2 A2 B (p.trans g1))
  | true => cases hf; exact iteT (hq _ H1 A1 [] (.bl S1 g1))
theorem se_not (ha : SE X a f) : SE X (.UnaryOp .Not a pos) (eNt f) := by
  obtain ⟨t, p, hs⟩ := ha
  refine ⟨_, pe_not p, fun σ ρ A H Q s ρ' S hf hq => ?_⟩
  unfold eNt at hf
  obtain ⟨⟨c, ρ1⟩, e1, e2⟩ := Option.map_eq_some_iff.mp hf
  cases e2
  exact tB_run hs σ ρ A H _ c _ S e1 fun H1 A1 S1 g1 => hq _ H1 A1 [] (.bl S1 g1)
def eIf (c : Ev → Option (Bool × Ev)) (f g : Ev → Option (Sv × Ev)) : Ev → Option (Sv × Ev) := fun ρ => (c ρ).bind fun p => if p.1 = true then f p.2 else g p.2
theorem se_if {c : Expr} {fc : Ev → Option (Bool × Ev)} (hc : ST X c fc) (ha : SE X a f) (hb : SE X b g) : SE X (.IfExp c a b pos) (eIf fc f g) := by
  obtain ⟨tc, pc, hcs⟩ := hc
  obtain ⟨t, p, hs⟩ := ha
  obtain ⟨u, q, hu⟩ := hb
  refine ⟨_, pe_ifExp pc p q, fun σ ρ A H Q s ρ' S hf hq => ?_⟩
  unfold eIf at hf
  obtain ⟨⟨d, ρ1⟩, e1, hf⟩ := Option.bind_eq_some_iff.mp hf
  refine hcs σ ρ A H _ d ρ1 S e1 fun H1 A1 S1 g1 => ?_
  cases d with
  | true => exact iteT (hs σ ρ1 A1 H1 Q s ρ' S1 hf fun v H2 A2 B p => hq v H2 A2 B (p.trans g1))
  | false => exact iteF (hu σ ρ1 A1 H1 Q s ρ' S1 hf fun v H2 A2 B p => hq v H2 A2 B (p.trans g1))
end

/-! ### a name as a value: an owned object is frozen -/
def eVar (j : Nat) : Ev → Option (Sv × Ev) := fun ρ => match ρ[j]? with
  | some (some (.own o)) => some (frz (.own o), ρ.set j (some (frz (.own o))))
  | some (some s) => some (s, ρ)
  | _ => none
def updA (A : AS) (j : Nat) (B : List Addr) : AS := ⟨fun i => if i = j then B else A.f i, A.Z⟩
theorem updA_same {A : AS} {j : Nat} {B : List Addr} : (updA A j B).f j = B := if_pos rfl
theorem updA_ne {A : AS} {i j : Nat} {B : List Addr} (h : i ≠ j) : (updA A j B).f i = A.f i := if_neg h
theorem got_set_ne {ρ : Ev} {i j : Nat} {s : Sv} {y : Option Sv} (h : i ≠ j) : Got (ρ.set j y) i s ↔ Got ρ i s := by
  unfold Got; rw [List.getElem?_set_ne (Ne.symm h)]
theorem ow_upd {A : AS} {j : Nat} {B : List Addr} : ∀ a, Ow (updA A j B) a → a ∈ B ∨ Ow A a := fun a ⟨i, z⟩ => by
  by_cases h : i = j
  · subst h; rw [updA_same] at z; exact .inl z
  · rw [updA_ne h] at z; exact .inr ⟨i, z⟩
theorem owB_upd {A : AS} {j : Nat} {B : List Addr} : ∀ a, OwB [] (updA A j B) a → OwB B A a := fun a z => by
  rcases z with z | z | z
  · exact .inl z
  · cases z
  · exact .inr (ow_upd a z)
/-- a slot is set -/
theorem Stt.set {K : PySem.W.Frag} {H : Hp} {σ : L2.St} {ρ : Ev} {A : AS} {v : V} {s : Sv} {B : List Addr} {j : Nat} (S : Stt K H B σ ρ A) (r : RSv K (wo H (OwB B A)) H v s B) (hj : j < ρ.length) :
    Stt K H [] (σ.set j (some v)) (ρ.set j (some s)) (updA A j B) := by
  have e := wo_less (H := H) (owB_upd (A := A) (j := j) (B := B))
  refine ⟨by simpa using S.len, fun i s' g => ?_, fun i g => ?_, fun i k a h1 h2 => ?_, fun a z => ⟨fun h => ?_, fun z => nomatch z⟩, S.zl, fun a z => nomatch z⟩
  · by_cases h : i = j
    · subst h
      unfold Got at g
      rw [List.getElem?_set_self hj] at g
      cases g
      rw [updA_same]
      exact ⟨v, by rw [List.getElem?_set_self (by rw [← S.len]; exact hj)], r.mono e fun a _ u z => z⟩
    · rw [got_set_ne h] at g
      obtain ⟨w, e1, r1⟩ := S.got i s' g
      rw [updA_ne h, List.getElem?_set_ne (Ne.symm h)]
      exact ⟨w, e1, r1.mono e fun a _ u z => z⟩
  · by_cases h : i = j
    · subst h
      exact absurd (show Got (ρ.set i (some s)) i s by unfold Got; rw [List.getElem?_set_self hj]) (g s)
    · rw [updA_ne h]
      exact S.emp i fun s' z => g s' ((got_set_ne h).mpr z)
  · by_cases h : i = j
    · subst h
      rw [updA_same] at h1
      by_cases h' : k = i
      · exact h'.symm
      · rw [updA_ne h'] at h2; exact absurd ⟨k, h2⟩ (S.fr a h1)
    · rw [updA_ne h] at h1
      by_cases h' : k = j
      · subst h'; rw [updA_same] at h2; exact absurd ⟨i, h1⟩ (S.fr a h2)
      · rw [updA_ne h'] at h2; exact S.dj i k a h1 h2
  · rcases ow_upd a h with h | h
    · exact (S.zd a z).2 h
    · exact (S.zd a z).1 h
theorem Gr.set {H H1 : Hp} {A A1 : AS} {B : List Addr} {j : Nat} (g : Gr H A H1 B A1) : Gr H A H1 [] (updA A1 j B) :=
  ⟨fun a o z => wo_less owB_upd a o (g.s a o z), g.z, g.k⟩
theorem set_self {α : Type} {l : List α} {j : Nat} {x : α} (h : l[j]? = some x) : l.set j x = l := by
  obtain ⟨hj, e⟩ := List.getElem?_eq_some_iff.mp h
  subst e; exact List.set_getElem_self hj
/-- a slot is emptied, its object is in hand -/
theorem Stt.drop {K : PySem.W.Frag} {H : Hp} {σ : L2.St} {ρ : Ev} {A : AS} {j : Nat} (S : Stt K H [] σ ρ A) : Stt K H (A.f j) σ (ρ.set j none) (updA A j []) := by
  have le : ∀ a, OwB (A.f j) (updA A j []) a → OwB [] A a := fun a z => by
    rcases z with z | z | z
    · exact .inl z
    · exact .inr (.inr ⟨j, z⟩)
    · exact (ow_upd a z).elim (fun z => nomatch z) fun z => .inr (.inr z)
  refine ⟨by simpa using S.len, fun i s' g' => ?_, fun i g' => ?_, fun i k a h1 h2 => ?_, fun a z => ⟨fun h => ?_, fun h => (S.zd a z).1 ⟨j, h⟩⟩, S.zl, fun a h ⟨i, z⟩ => ?_⟩
  · by_cases h : i = j
    · subst h; unfold Got at g'
      rw [List.getElem?_set] at g'
      split at g'
      · split at g' <;> cases g'
      · rename_i h; exact absurd rfl h
    · rw [got_set_ne h] at g'; rw [updA_ne h]
      obtain ⟨v, e1, r⟩ := S.got i s' g'
      exact ⟨v, e1, r.mono (wo_less le) fun _ _ _ z => z⟩
  · by_cases h : i = j
    · subst h; exact updA_same
    · rw [updA_ne h]; exact S.emp i fun s' z => g' s' ((got_set_ne h).mpr z)
  · by_cases h : i = j
    · subst h; rw [updA_same] at h1; cases h1
    · rw [updA_ne h] at h1
      by_cases h' : k = j
      · subst h'; rw [updA_same] at h2; cases h2
      · rw [updA_ne h'] at h2; exact S.dj i k a h1 h2
  · exact (ow_upd a h).elim (fun z => nomatch z) (S.zd a z).1
  · by_cases h' : i = j
    · subst h'; rw [updA_same] at z; cases z
    · rw [updA_ne h'] at z; exact h' (S.dj i j a z h)
theorem owB_drop {A : AS} {j : Nat} : ∀ a, OwB (A.f j) (updA A j []) a → OwB [] A a := fun a z => by
  rcases z with z | z | z
  · exact .inl z
  · exact .inr (.inr ⟨j, z⟩)
  · exact (ow_upd a z).elim (fun z => nomatch z) fun z => .inr (.inr z)
/-- the name's value in hand -/
theorem Stt.take {K : PySem.W.Frag} {H : Hp} {σ : L2.St} {ρ : Ev} {A : AS} {j : Nat} {s : Sv} (S : Stt K H [] σ ρ A) (g : Got ρ j s) :
    ∃ v, σ[j]? = some (some v) ∧ PostE K H A σ (ρ.set j none) s v H (updA A j []) (A.f j) := by
  obtain ⟨v, e1, r⟩ := S.got j _ g
  exact ⟨v, e1, S.drop, r.mono (wo_less owB_drop) (fun _ _ _ z => z), wo_less owB_drop, rfl, fun _ _ _ z => z⟩
/-- a name whose value is taken: the slot is empty behind it -/
def eMov (j : Nat) : Ev → Option (Sv × Ev) := fun ρ => match ρ[j]? with
  | some (some s) => some (s, ρ.set j none)
  | _ => none
theorem se_mov {X : Cx} {j : Nat} {x : Str} {pos : Pos} (hN : X.N[j]? = some x) (hv : Vis X.env.scope x) (hd : (x == ("__debug__" : Str)) = false := by decide +kernel) (hcd : (x == ("__classdict__" : Str)) = false := by decide +kernel) : SE X (.Name x pos) (eMov j) := by
  refine ⟨_, pe_var hN hv hd hcd, fun σ ρ A H Q s ρ' S he hq => ?_⟩
  unfold eMov at he
  split at he
  · rename_i s0 g
    cases he
    obtain ⟨v, e1, p⟩ := S.take g
    exact ⟨v, e1, hq v H _ _ p⟩
  · cases he
theorem se_var {X : Cx} {j : Nat} {x : Str} {pos : Pos} (hN : X.N[j]? = some x) (hv : Vis X.env.scope x) (hd : (x == ("__debug__" : Str)) = false := by decide +kernel) (hcd : (x == ("__classdict__" : Str)) = false := by decide +kernel) : SE X (.Name x pos) (eVar j) := by
  refine ⟨_, pe_var hN hv hd hcd, fun σ ρ A H Q s ρ' S he hq => ?_⟩
  unfold eVar at he
  split at he
  · rename_i o g
    cases he
    obtain ⟨v, e1, p⟩ := S.take g
    have p := p.frz
    have hj : j < (ρ.set j none).length := by rw [List.length_set]; exact (List.getElem?_eq_some_iff.mp g).1
    have S2 := p.st.set p.rs hj
    have ea : updA (updA A j []) j [] = updA A j [] := by
      unfold updA; congr 1; funext i; dsimp only; split <;> rfl
    rw [ea, List.set_set, set_self e1] at S2
    exact ⟨v, e1, hq v H _ [] ⟨S2, p.rs, p.gr⟩⟩
  · rename_i s0 hno g
    cases he
    obtain ⟨v, e1, r⟩ := S.got j _ g
    have ea : A.f j = [] := by
      generalize A.f j = B at r
      cases r with
      | dat h => rfl
      | fro h => rfl
      | own w => exact absurd rfl (hno _)
    rw [ea] at r
    exact ⟨v, e1, hq v H A [] ⟨S, r, .refl⟩⟩
  · cases he
end DL
namespace DL
open PySem PySem.Spec PyProof.Rows L2
open Classical (propDecidable)

/-! ### statements -/
inductive Out where
  | nx (ρ : Ev)
  | rt (s : Sv) (ρ : Ev)
  | bk (ρ : Ev)
  | ct (ρ : Ev)
structure Stp (K : PySem.W.Frag) (io : List Nat) (H : Hp) (A : AS) (σ σ' : L2.St) (ρ' : Ev) (H' : Hp) (A' : AS) : Prop where
  st : Stt K H' [] σ' ρ' A'
  gr : Gr H A H' [] A'
  io : ∀ i ∈ io, σ'[i]? = σ[i]?
  ln : σ'.length = σ.length
structure Ret (K : PySem.W.Frag) (io : List Nat) (H : Hp) (A : AS) (σ σ' : L2.St) (ρ' : Ev) (s : Sv) (v : V) (H' : Hp) (A' : AS) (B : List Addr) : Prop where
  p : PostE K H A σ' ρ' s v H' A' B
  io : ∀ i ∈ io, σ'[i]? = σ[i]?
def Fits (K : PySem.W.Frag) (io : List Nat) (H : Hp) (A : AS) (σ : L2.St) (D : Ends) : Out → Prop
  | .nx ρ' => ∀ σ' H' A', Stp K io H A σ σ' ρ' H' A' → D.nx σ' H'
  | .bk ρ' => ∀ σ' H' A', Stp K io H A σ σ' ρ' H' A' → D.bk σ' H'
  | .ct ρ' => ∀ σ' H' A', Stp K io H A σ σ' ρ' H' A' → D.ct σ' H'
  | .rt s ρ' => ∀ v σ' H' A' B, Ret K io H A σ σ' ρ' s v H' A' B → D.rt v H'
def SSt (K : PySem.W.Frag) (io : List Nat) (t : TS) (f : Ev → Option Out) : Prop :=
  ∀ (σ : L2.St) (ρ : Ev) (A : AS) (H : Hp) (D : Ends) (o : Out), Stt K H [] σ ρ A → f ρ = some o → Fits K io H A σ D o → t D σ H
def SS (io : List Nat) (X : Cx) (st : Stmt) (f : Ev → Option Out) : Prop := ∃ t : TS, PS X st t ∧ SSt X.K io t f
def SSs (io : List Nat) (X : Cx) (st : List Stmt) (f : Ev → Option Out) : Prop := ∃ t : TS, PSs X st t ∧ SSt X.K io t f
section
variable {K : PySem.W.Frag} {io : List Nat} {H H1 H' : Hp} {A A1 A' : AS} {σ σ1 σ' : L2.St} {ρ' ρ1 : Ev} {D : Ends} {o : Out}
theorem Stp.trans (a : Stp K io H A σ σ1 ρ1 H1 A1) (b : Stp K io H1 A1 σ1 σ' ρ' H' A') : Stp K io H A σ σ' ρ' H' A' :=
  ⟨b.st, a.gr.trans b.gr, fun i h => (b.io i h).trans (a.io i h), b.ln.trans a.ln⟩
theorem Stp.ret {s : Sv} {v : V} {B : List Addr} (a : Stp K io H A σ σ1 ρ1 H1 A1) (b : Ret K io H1 A1 σ1 σ' ρ' s v H' A' B) : Ret K io H A σ σ' ρ' s v H' A' B :=
  ⟨b.p.trans a.gr, fun i h => (b.io i h).trans (a.io i h)⟩
theorem Fits.step (a : Stp K io H A σ σ1 ρ1 H1 A1) (h : Fits K io H A σ D o) : Fits K io H1 A1 σ1 D o := by
  cases o with
  | nx ρ' => exact fun σ' H' A' b => h σ' H' A' (a.trans b)
  | bk ρ' => exact fun σ' H' A' b => h σ' H' A' (a.trans b)
  | ct ρ' => exact fun σ' H' A' b => h σ' H' A' (a.trans b)
  | rt s ρ' => exact fun v σ' H' A' B b => h v σ' H' A' B (a.ret b)
/-- a test, an expression dropped: no slot is set -/
theorem Stp.same (S : Stt K H' [] σ ρ' A') (g : Gr H A H' [] A') : Stp K io H A σ σ ρ' H' A' := ⟨S, g, fun _ _ => rfl, rfl⟩
end
section
variable {X : Cx} {io : List Nat} {st : Stmt} {rest : List Stmt} {pos : Pos} {e : Expr}
def sNil : Ev → Option Out := fun ρ => some (.nx ρ)
def sSeq (f g : Ev → Option Out) : Ev → Option Out := fun ρ => (f ρ).bind fun o => match o with
  | .nx ρ1 => g ρ1
  | o => some o
theorem ss_nil : SSs io X [] sNil := ⟨_, pss_nil, fun σ ρ A H D o S hf hq => by cases hf; exact hq σ H A (.same S .refl)⟩
theorem ss_cons {f g} (h1 : SS io X st f) (h2 : SSs io X rest g) : SSs io X (st :: rest) (sSeq f g) := by
  obtain ⟨t, p, hs⟩ := h1
  obtain ⟨u, q, hu⟩ := h2
  refine ⟨_, pss_cons p q, fun σ ρ A H D o S hf hq => ?_⟩
  unfold sSeq at hf
  obtain ⟨o1, e1, hf⟩ := Option.bind_eq_some_iff.mp hf
  refine hs σ ρ A H { D with nx := u D } o1 S e1 ?_
  cases o1 with
  | nx ρ1 => exact fun σ1 H1 A1 a => hu σ1 ρ1 A1 H1 D o a.st hf (hq.step a)
  | bk ρ1 => cases hf; exact hq
  | ct ρ1 => cases hf; exact hq
  | rt s ρ1 => cases hf; exact hq
theorem ss_one {f} (h1 : SS io X st f) : SSs io X [st] f := let ⟨t, p, q⟩ := h1; ⟨t, pss_one p, q⟩
def sBrk : Ev → Option Out := fun ρ => some (.bk ρ)
def sCnt : Ev → Option Out := fun ρ => some (.ct ρ)
theorem ss_break : SS io X (.Break pos) sBrk := ⟨_, ps_break, fun σ ρ A H D o S hf hq => by cases hf; exact hq σ H A (.same S .refl)⟩
theorem ss_continue : SS io X (.Continue pos) sCnt := ⟨_, ps_continue, fun σ ρ A H D o S hf hq => by cases hf; exact hq σ H A (.same S .refl)⟩
theorem ss_pass : SS io X (.Pass pos) sNil := ⟨_, ps_pass, fun σ ρ A H D o S hf hq => by cases hf; exact hq σ H A (.same S .refl)⟩
theorem ss_doc {x j pos'} : SS io X (.Expr (.Constant (.str x) j pos) pos') sNil := ⟨_, ps_doc, fun σ ρ A H D o S hf hq => by cases hf; exact hq σ H A (.same S .refl)⟩
def sNo : Ev → Option Out := fun _ => none
theorem ss_never : SS io X st sNo := ⟨_, ps_never, fun σ ρ A H D o S hf hq => by cases hf⟩
def sExpr (f : Ev → Option (Sv × Ev)) : Ev → Option Out := fun ρ => (f ρ).map fun p => .nx p.2
theorem ss_expr {f} (he : SE X e f) (hs : swapsWith e none pos.line X.env = pure false := by rfl) : SS io X (.Expr e pos) (sExpr f) := by
  obtain ⟨t, p, hs'⟩ := he.frz
  refine ⟨_, ps_expr p hs, fun σ ρ A H D o S hf hq => ?_⟩
  unfold sExpr at hf
  obtain ⟨⟨s, ρ1⟩, e1, e2⟩ := Option.map_eq_some_iff.mp hf
  cases e2
  exact hs' σ ρ A H _ (frz s) ρ1 S (by unfold fFrz; rw [e1]; rfl) fun v H' A' q => hq σ H' A' (.same q.st q.gr)
def sRet (f : Ev → Option (Sv × Ev)) : Ev → Option Out := fun ρ => (f ρ).map fun p => .rt p.1 p.2
theorem ss_ret {f} (he : SE X e f) : SS io X (.Return (some e) pos) (sRet f) := by
  obtain ⟨t, p, hs'⟩ := he
  refine ⟨_, ps_ret p, fun σ ρ A H D o S hf hq => ?_⟩
  unfold sRet at hf
  obtain ⟨⟨s, ρ1⟩, e1, e2⟩ := Option.map_eq_some_iff.mp hf
  cases e2
  exact hs' σ ρ A H _ s ρ1 S e1 fun v H' A' B q => hq v σ H' A' B ⟨q, fun _ _ => rfl⟩
def sIf (c : Ev → Option (Bool × Ev)) (f g : Ev → Option Out) : Ev → Option Out := fun ρ => (c ρ).bind fun p => if p.1 = true then f p.2 else g p.2
theorem ss_if {c : Expr} {a b : List Stmt} {fc f g} (hc : ST X c fc) (ha : SSs io X a f) (hb : SSs io X b g) : SS io X (.If c a b pos) (sIf fc f g) := by
  obtain ⟨tc, pc, hcs⟩ := hc
  obtain ⟨t, p, hs⟩ := ha
  obtain ⟨u, q, hu⟩ := hb
  refine ⟨_, ps_if pc p q, fun σ ρ A H D o S hf hq => ?_⟩
  unfold sIf at hf
  obtain ⟨⟨d, ρ1⟩, e1, hf⟩ := Option.bind_eq_some_iff.mp hf
  refine hcs σ ρ A H _ d ρ1 S e1 fun H1 A1 S1 g1 => ?_
  cases d with
  | true => exact iteT (hs σ ρ1 A1 H1 D o S1 hf (hq.step (.same S1 g1)))
  | false => exact iteF (hu σ ρ1 A1 H1 D o S1 hf (hq.step (.same S1 g1)))
end

/-! ### targets -/
def SG (io : List Nat) (X : Cx) (tg : Expr) (g : D → Ev → Option Ev) : Prop :=
  ∃ t : TG, PG X tg t ∧ ∀ (σ : L2.St) (ρ : Ev) (A : AS) (H : Hp) (x : V) (d : D) (Q : L2.St → Hp → Prop) (ρ' : Ev), Stt X.K H [] σ ρ A → Dp X.K (wo H (OwB [] A)) x d → g d ρ = some ρ' →
    (∀ σ' H' A', Stp X.K io H A σ σ' ρ' H' A' → Q σ' H') → t x σ H Q
def SGs (io : List Nat) (X : Cx) (tg : List Expr) (g : List D → Ev → Option Ev) : Prop :=
  ∃ t : TGs, PGs X tg t ∧ ∀ (σ : L2.St) (ρ : Ev) (A : AS) (H : Hp) (xs : List V) (ds : List D) (Q : L2.St → Hp → Prop) (ρ' : Ev), Stt X.K H [] σ ρ A → DpAll X.K (wo H (OwB [] A)) xs ds → g ds ρ = some ρ' →
    (∀ σ' H' A', Stp X.K io H A σ σ' ρ' H' A' → Q σ' H') → t xs σ H Q
section
variable {X : Cx} {io : List Nat} {pos : Pos}
def gN (j : Nat) : D → Ev → Option Ev := fun d ρ => if j < ρ.length then some (ρ.set j (some (.dat d))) else none
theorem sg_name {j : Nat} {x : Str} (hN : X.N.Nodup) (hi : X.N[j]? = some x) (hx : Loc X.env.scope x) (hio : io.contains j = false) (hf : X.fn x = true ∨ X.env.scope.names.lookup x = some .local) : SG io X (.Name x pos) (gN j) := by
  refine ⟨_, pg_name hN hi hx hf, fun σ ρ A H x d Q ρ' S hd hg hq => ?_⟩
  unfold gN at hg
  split at hg
  · rename_i hj
    cases hg
    have g0 : Gr H A H [] (updA A j []) := Gr.set (B := []) .refl
    refine hq _ H (updA A j []) ⟨S.set (v := x) (s := .dat d) (B := []) (.dat hd) hj, g0, fun i hi' => ?_, List.length_set⟩
    have ne : i ≠ j := fun z => by
      subst z
      rw [List.contains_iff_mem.mpr hi'] at hio; cases hio
    exact List.getElem?_set_ne (Ne.symm ne)
  · cases hg
def gsNil : List D → Ev → Option Ev := fun ds ρ => match ds with
  | [] => some ρ
  | _ => none
def gsCons (g : D → Ev → Option Ev) (gs : List D → Ev → Option Ev) : List D → Ev → Option Ev := fun ds ρ => match ds with
  | d :: ds => (g d ρ).bind fun ρ1 => gs ds ρ1
  | [] => none
theorem sgs_nil : SGs io X [] gsNil := ⟨_, pgs_nil, fun σ ρ A H xs ds Q ρ' S hd hg hq => by
  cases ds with
  | nil => cases hd; cases hg; exact ⟨rfl, hq σ H A (.same S .refl)⟩
  | cons d ds => cases hg⟩
theorem sgs_cons {e : Expr} {es : List Expr} {g gs} (h1 : SG io X e g) (h2 : SGs io X es gs) (hs : (assignEach (e :: es) X.env).map (·.2) = assign e X.env :: (assignEach es X.env).map (·.2) := by rfl) : SGs io X (e :: es) (gsCons g gs) := by
  obtain ⟨t, p, h1⟩ := h1
  obtain ⟨u, q, h2⟩ := h2
  refine ⟨_, pgs_cons p q hs, fun σ ρ A H xs ds Q ρ' S hd hg hq => ?_⟩
  cases ds with
  | nil => cases hg
  | cons d ds =>
    cases hd with
    | cons hd hds =>
      unfold gsCons at hg
      obtain ⟨ρ1, e1, hg⟩ := Option.bind_eq_some_iff.mp hg
      exact ⟨_, _, rfl, h1 σ ρ A H _ d _ ρ1 S hd e1 fun σ1 H1 A1 a => h2 σ1 ρ1 A1 H1 _ ds Q ρ' a.st (DpAll.mono a.gr.s hds) hg fun σ' H' A' b => hq σ' H' A' (a.trans b)⟩
def gTp (n : Nat) (gs : List D → Ev → Option Ev) : D → Ev → Option Ev := fun d ρ => match d with
  | .tuple ds => if ds.length = n then gs ds ρ else none
  | _ => none
theorem sg_tup {es : List Expr} {k n : Nat} {gs} (hc : X.calm = true) (h : SGs io X es gs) (hn : (assignEach es X.env).length = n := by rfl) (hst : (assignEach es X.env).findIdx? (·.1) = none := by rfl) : SG io X (.Tuple es k pos) (gTp n gs) := by
  obtain ⟨t, p, h⟩ := h
  refine ⟨_, pg_tup hc p hn hst, fun σ ρ A H x d Q ρ' S hd hg hq => ?_⟩
  unfold gTp at hg
  split at hg
  · rename_i ds
    split at hg
    · rename_i hl
      cases hd with
      | tup hs ha => exact ⟨_, _, rfl, Same.sqt wo_same hs, by rw [DpAll.length ha]; exact hl, h σ ρ A H _ ds Q ρ' S ha hg hq⟩
    · cases hg
  · cases hg
/-- target = e -/
def sAsg (f : Ev → Option (Sv × Ev)) (g : D → Ev → Option Ev) : Ev → Option Out := fun ρ => (f ρ).bind fun p => match frz p.1 with
  | .dat d => (g d p.2).map .nx
  | _ => none
theorem ss_asg {tg e : Expr} {f g} (he : SE X e f) (hg : SG io X tg g) (hs : swapsWithSole [tg] e pos.line X.env = pure false := by rfl) (hw : swappedStores [tg] e X.env = pure none := by rfl)
    (h1 : (assignEach [tg] X.env).map (·.2) = [assign tg X.env] := by rfl) : SS io X (.Assign [tg] e pos) (sAsg f g) := by
  obtain ⟨t, p, he⟩ := he.frz
  obtain ⟨u, q, hg⟩ := hg
  refine ⟨_, ps_asg p q hs hw h1, fun σ ρ A H D o S hf hq => ?_⟩
  unfold sAsg at hf
  obtain ⟨⟨s, ρ1⟩, e1, hf⟩ := Option.bind_eq_some_iff.mp hf
  dsimp only at hf
  refine he σ ρ A H _ (frz s) ρ1 S (by unfold fFrz; rw [e1]; rfl) fun v H1 A1 b => ?_
  split at hf
  · rename_i d ed
    rw [ed] at b
    obtain ⟨ρ2, e2, e3⟩ := Option.map_eq_some_iff.mp hf
    subst e3
    obtain ⟨b1, b2, b3⟩ := b
    cases b2 with
    | dat hd => exact hg σ ρ1 A1 H1 v d _ ρ2 b1 hd e2 fun σ' H' A' c => hq σ' H' A' ((Stp.same b1 b3).trans c)
  · cases hf
/-- name = e: the name owns what e gives -/
def sSet (j : Nat) (f : Ev → Option (Sv × Ev)) : Ev → Option Out := fun ρ => (f ρ).bind fun p => if j < p.2.length then some (.nx (p.2.set j (some p.1))) else none
theorem set_run {K : PySem.W.Frag} {te : TE} {j : Nat} {f : Ev → Option (Sv × Ev)} (hio : io.contains j = false) (he : SEt K te f) : SSt K io (tAsg te (gName j)) (sSet j f) := by
  intro σ ρ A H D o S hf hq
  unfold sSet at hf
  obtain ⟨⟨s, ρ1⟩, e1, hf⟩ := Option.bind_eq_some_iff.mp hf
  dsimp only at hf
  split at hf
  · rename_i hj
    cases hf
    refine he σ ρ A H _ s ρ1 S e1 fun v H1 A1 B b => ?_
    refine hq _ H1 (updA A1 j B) ⟨b.st.set b.rs hj, b.gr.set, fun i hi' => ?_, List.length_set⟩
    have ne : i ≠ j := fun z => by
      subst z
      rw [List.contains_iff_mem.mpr hi'] at hio; cases hio
    exact List.getElem?_set_ne (Ne.symm ne)
  · cases hf
theorem ss_set {j : Nat} {x : Str} {e : Expr} {f} {pos' : Pos} (hN : X.N.Nodup) (hi : X.N[j]? = some x) (hx : Loc X.env.scope x) (hio : io.contains j = false) (hf : X.fn x = true ∨ X.env.scope.names.lookup x = some .local) (he : SE X e f)
    (hs : swapsWith e (some (.Name x pos')) pos.line X.env = pure false := by rfl) : SS io X (.Assign [.Name x pos'] e pos) (sSet j f) := by
  obtain ⟨t, p, he⟩ := he
  exact ⟨_, ps_set hN hi hx p hs hf, set_run hio he⟩
end

/-! ### what a for walks -/
/-- the iterator J yields the data xs, over every later heap -/
def ItOk (K : PySem.W.Frag) (J : It) (R : Hp) (xs : List D) : Prop :=
  ∀ (H : Hp) (P : Addr → Prop), (∀ a, P a → ∃ u, H a = some u) → Same R (wo H P) → ∀ i, (∀ d, xs[i]? = some d → J.go i H ∧ ∀ x H', J.yld i H x H' → Same H H' ∧ Dp K (wo H' P) x d) ∧ (xs.length ≤ i → J.stop i H)
def SI (X : Cx) (tg it : Expr) (f : Ev → Option (List D × Ev)) : Prop :=
  ∃ wi : TI, PI X tg it wi ∧ ∀ (σ : L2.St) (ρ : Ev) (A : AS) (H : Hp) (R : It → Hp → Prop) (xs : List D) (ρ' : Ev), Stt X.K H [] σ ρ A → f ρ = some (xs, ρ') →
    (∀ J H' A', Stt X.K H' [] σ ρ' A' → Gr H A H' [] A' → ItOk X.K J (wo H' (OwB [] A')) xs → R J H') → wi σ H R
theorem PI.or {X : Cx} {tg it : Expr} {w1 w2 : TI} (h1 : PI X tg it w1) (h2 : PI X tg it w2) : PI X tg it (fun σ H R => w1 σ H R ∨ w2 σ H R) :=
  ⟨fun pins s σ H R I h => h.elim (h1.run pins s σ H R I) (h2.run pins s σ H R I)⟩
theorem sqL_inj {K : PySem.W.Frag} {H : Hp} {a : Addr} {xs ys : List V} (h : SqL K H a xs) (h' : SqL K H a ys) (t : ∃ u, H a = some u) (hk : K.lookup a = none) : xs = ys := by
  rcases h with (h | ⟨o, h⟩) | ⟨o, its, n, h, _⟩
  · rcases h' with (h' | ⟨o', h'⟩) | ⟨o', its', n', h', _⟩
    · rw [h] at h'; cases h'; rfl
    · rw [h] at h'; cases h'
    · rw [hk] at h'; cases h'
  · rcases h' with (h' | ⟨o', h'⟩) | ⟨o', its', n', h', _⟩
    · rw [h] at h'; cases h'
    · rw [h] at h'; cases h'; rfl
    · rw [hk] at h'; cases h'
  · rw [hk] at h; cases h
def iSeq (f : Ev → Option (Sv × Ev)) : Ev → Option (List D × Ev) := fun ρ => (f ρ).bind fun p => match frz p.1 with
  | .dat (.list xs) => some (xs, p.2)
  | .dat (.tuple xs) => some (xs, p.2)
  | _ => none
theorem itOk_list {K : PySem.W.Frag} {R : Hp} {a : Addr} {vs : List V} {xs : List D} (hs : SqL K R a vs) (ha : DpAll K R vs xs) : ItOk K (Itl K a) R xs := by
  intro H P hl e i
  have hs' : SqL K H a vs := Same.seq wo_same (Same.seq e hs)
  refine ⟨fun d hd => ?_, fun hi => ⟨vs, hs', by rw [DpAll.length ha]; exact hi⟩⟩
  obtain ⟨v, e1, r⟩ := DpAll.get ha hd
  refine ⟨⟨vs, v, hs', e1⟩, fun x H' ⟨e2, e3⟩ => ?_⟩
  subst e2
  have := e3 vs hs'
  rw [e1] at this; cases this
  exact ⟨Same.refl _, Dp.mono e r⟩
theorem itOk_tup {K : PySem.W.Frag} {R : Hp} {a : Addr} {vs : List V} {xs : List D} (hs : SqT K R a vs) (ha : DpAll K R vs xs) : ItOk K (Itt K a) R xs := by
  intro H P hl e i
  have hs' : SqT K H a vs := Same.sqt wo_same (Same.sqt e hs)
  refine ⟨fun d hd => ?_, fun hi => ⟨vs, hs', by rw [DpAll.length ha]; exact hi⟩⟩
  obtain ⟨v, e1, r⟩ := DpAll.get ha hd
  refine ⟨⟨vs, v, hs', e1⟩, fun x H' ⟨e2, e3⟩ => ?_⟩
  subst e2
  have := e3 vs hs'
  rw [e1] at this; cases this
  exact ⟨Same.refl _, Dp.mono e r⟩
theorem si_seq {X : Cx} {tg e : Expr} {f} (he : SE X e f) : SI X tg e (iSeq f) := by
  obtain ⟨t, p, he⟩ := he.frz
  refine ⟨_, PI.or (pi_list p) (pi_tup p), fun σ ρ A H R xs ρ' S hf hq => ?_⟩
  unfold iSeq at hf
  obtain ⟨⟨s, ρ1⟩, e1, hf⟩ := Option.bind_eq_some_iff.mp hf
  dsimp only at hf
  have e2 : fFrz f ρ = some (frz s, ρ1) := by unfold fFrz; rw [e1]; rfl
  split at hf
  · rename_i ys ey
    rw [ey] at e2
    cases hf
    refine .inl (he σ ρ A H _ _ _ S e2 fun v H1 A1 b => ?_)
    obtain ⟨b1, b2, b3⟩ := b
    cases b2 with
    | dat hd =>
      cases hd with
      | lst hs ha => exact ⟨_, rfl, ⟨_, Same.seq wo_same hs⟩, hq _ H1 A1 b1 b3 (itOk_list hs ha)⟩
  · rename_i ys ey
    rw [ey] at e2
    cases hf
    refine .inr (he σ ρ A H _ _ _ S e2 fun v H1 A1 b => ?_)
    obtain ⟨b1, b2, b3⟩ := b
    cases b2 with
    | dat hd =>
      cases hd with
      | tup hs ha => exact ⟨_, rfl, ⟨_, Same.sqt wo_same hs⟩, hq _ H1 A1 b1 b3 (itOk_tup hs ha)⟩
  · cases hf

/-! ### for -/
def forL (g : D → Ev → Option Ev) (body : Ev → Option Out) : List D → Ev → Option Out
  | [], ρ => some (.nx ρ)
  | x :: xs, ρ => (g x ρ).bind fun ρ1 => (body ρ1).bind fun o => match o with
    | .nx ρ2 => forL g body xs ρ2
    | .ct ρ2 => forL g body xs ρ2
    | .bk ρ2 => some (.nx ρ2)
    | .rt s ρ2 => some (.rt s ρ2)
def sFor (it : Ev → Option (List D × Ev)) (g : D → Ev → Option Ev) (body : Ev → Option Out) : Ev → Option Out := fun ρ => (it ρ).bind fun p => forL g body p.1 p.2
theorem ss_for {X : Cx} {io : List Nat} {pos : Pos} {tg it : Expr} {body : List Stmt} {fi g fb} (hp : PassesOwn (model X.prog X.w) X.A X.env X.xe) (hc : X.calm = true) (hi : SI X tg it fi) (hg : SG io X tg g) (hb : SSs io X body fb)
    (hset : ∀ x, foldedSetIterable it X.env x = pure x := by intro _; rfl) : SS io X (.For tg it body [] pos) (sFor fi g fb) := by
  obtain ⟨wi, pi, hi⟩ := hi
  obtain ⟨tg', pg, hg⟩ := hg
  obtain ⟨tb, pb, hb⟩ := hb
  refine ⟨_, ps_for hp hc pi pg pb hset, fun σ0 ρ0 A0 H0 D o S hf hq => ?_⟩
  unfold sFor at hf
  obtain ⟨⟨xs, ρ1⟩, e1, hf⟩ := Option.bind_eq_some_iff.mp hf
  refine hi σ0 ρ0 A0 H0 _ xs ρ1 S e1 fun J H1 A1 S1 g1 hJ => ?_
  refine ⟨fun i m σ H => m = xs.length - i ∧ ∃ ρ A, Stp X.K io H1 A1 σ0 σ ρ H A ∧ forL g fb (xs.drop i) ρ = some o, ⟨_, rfl, ρ1, A1, .same S1 .refl, hf⟩, ?_⟩
  rintro i m σ H ⟨rfl, ρ, A, a, hl⟩
  obtain ⟨hgo, hstop⟩ := hJ H (OwB [] A) a.st.liveP a.gr.s i
  have a0 : Stp X.K io H0 A0 σ0 σ ρ H A := (Stp.same S1 g1).trans a
  cases ed : xs[i]? with
  | none =>
    have hlen : xs.length ≤ i := List.getElem?_eq_none_iff.mp ed
    refine .inl ⟨hstop hlen, ?_⟩
    rw [List.drop_eq_nil_of_le hlen] at hl
    cases hl
    exact hq σ H A a0
  | some d =>
    obtain ⟨go, hy⟩ := hgo d ed
    have hlt : i < xs.length := (List.getElem?_eq_some_iff.mp ed).1
    have hdrop : xs.drop i = d :: xs.drop (i + 1) := by
      rw [List.drop_eq_getElem_cons hlt]
      congr 1
      exact Option.some.inj ((List.getElem?_eq_getElem hlt).symm.trans ed)
    rw [hdrop] at hl
    unfold forL at hl
    obtain ⟨ρ2, e2, hl⟩ := Option.bind_eq_some_iff.mp hl
    obtain ⟨o1, e3, hl⟩ := Option.bind_eq_some_iff.mp hl
    refine .inr ⟨go, fun σ' H' => ∃ ρ' A', Stp X.K io H1 A1 σ0 σ' ρ' H' A' ∧ forL g fb (xs.drop (i + 1)) ρ' = some o, fun σ' H' ⟨ρ', A', b, hl'⟩ => ⟨xs.length - (i + 1), by omega, rfl, ρ', A', b, hl'⟩, fun x H' yl => ?_⟩
    obtain ⟨sm, dx⟩ := hy x H' yl
    have sm2 : Same (wo H (OwB [] A)) (wo H' (OwB [] A)) := Same.wo2 sm fun a z => .inl z
    have S2 : Stt X.K H' [] σ ρ A := a.st.mono sm2 (fun a _ u z => sm a u z) fun a z => nomatch z
    have b0 : Stp X.K io H A σ σ ρ H' A := .same S2 ⟨sm2, rfl, fun a _ u z => sm a u z⟩
    refine hg σ ρ A H' x d _ ρ2 S2 dx e2 fun σ3 H3 A3 c => ?_
    refine hb σ3 ρ2 A3 H3 _ o1 c.st e3 ?_
    have b1 : Stp X.K io H1 A1 σ0 σ3 ρ2 H3 A3 := (a.trans b0).trans c
    have b2 : Stp X.K io H0 A0 σ0 σ3 ρ2 H3 A3 := (a0.trans b0).trans c
    cases o1 with
    | nx ρ4 => exact fun σ4 H4 A4 e => ⟨ρ4, A4, b1.trans e, hl⟩
    | ct ρ4 => exact fun σ4 H4 A4 e => ⟨ρ4, A4, b1.trans e, hl⟩
    | bk ρ4 => cases hl; exact fun σ4 H4 A4 e => hq σ4 H4 A4 (b2.trans e)
    | rt s ρ4 => cases hl; exact fun v σ4 H4 A4 B e => hq v σ4 H4 A4 B (b2.ret e)
end DL
namespace DL
open PySem PySem.Spec PyProof.Rows L2
open Classical (propDecidable)

/-! ### arguments -/
inductive PendsOk (K : PySem.W.Frag) (H : Hp) (A : AS) (σ : L2.St) : List V → List Pend → Prop
  | nil : PendsOk K H A σ [] []
  | cons {v p vs ps} : PendOk K H A σ v p → PendsOk K H A σ vs ps → PendsOk K H A σ (v :: vs) (p :: ps)
theorem PendsOk.mono {K : PySem.W.Frag} {H H' : Hp} {A A' : AS} {σ : L2.St} (e : Gr H A H' [] A') : ∀ {vs ps}, PendsOk K H A σ vs ps → PendsOk K H' A' σ vs ps
  | _, _, .nil => .nil
  | _, _, .cons h t => .cons (h.mono e) (t.mono e)
theorem PendsOk.length {K : PySem.W.Frag} {H : Hp} {A : AS} {σ : L2.St} : ∀ {vs ps}, PendsOk K H A σ vs ps → vs.length = ps.length
  | _, _, .nil => rfl
  | _, _, .cons h t => by simp [t.length]
theorem PendsOk.get {K : PySem.W.Frag} {H : Hp} {A : AS} {σ : L2.St} : ∀ {vs ps} {i : Nat} {p : Pend}, PendsOk K H A σ vs ps → ps[i]? = some p → ∃ v, vs[i]? = some v ∧ PendOk K H A σ v p
  | _, _, i, p, .nil, e => by simp at e
  | _, _, 0, p, .cons h t, e => by simp at e; subst e; exact ⟨_, rfl, h⟩
  | _, _, i + 1, p, .cons h t, e => by simpa using t.get (i := i) (by simpa using e)
def SAs (X : Cx) (es : List Expr) (f : Ev → Option (List Pend × Ev)) : Prop :=
  ∃ t : TA, PA X es t ∧ ∀ (σ : L2.St) (ρ : Ev) (A : AS) (H : Hp) (Q : List V → Hp → Prop) (ps : List Pend) (ρ' : Ev), Stt X.K H [] σ ρ A → f ρ = some (ps, ρ') →
    (∀ vs H' A', Stt X.K H' [] σ ρ' A' → Gr H A H' [] A' → PendsOk X.K H' A' σ vs ps → Q vs H') → t σ H Q
def aNil : Ev → Option (List Pend × Ev) := fun ρ => some ([], ρ)
def aCons (f : Ev → Option (Pend × Ev)) (g : Ev → Option (List Pend × Ev)) : Ev → Option (List Pend × Ev) := fun ρ => (f ρ).bind fun p => (g p.2).map fun q => (p.1 :: q.1, q.2)
section
variable {X : Cx} {e : Expr} {es : List Expr} {pos : Pos}
theorem sa_nil : SAs X [] aNil := ⟨_, pa_nil, fun σ ρ A H Q ps ρ' S hf hq => by cases hf; exact hq [] H A S .refl .nil⟩
theorem sa_cons {f g} (h : SO X e f) (hr : SAs X es g) (hs : starEach (e :: es) X.env = (false, eval e X.env) :: starEach es X.env := by rfl) : SAs X (e :: es) (aCons f g) := by
  obtain ⟨t, p, h⟩ := h
  obtain ⟨u, q, hr⟩ := hr
  refine ⟨_, pa_cons p q hs, fun σ ρ A H Q ps ρ' S hf hq => ?_⟩
  unfold aCons at hf
  obtain ⟨⟨x, ρ1⟩, e1, hf⟩ := Option.bind_eq_some_iff.mp hf
  obtain ⟨⟨xs, ρ2⟩, e2, e3⟩ := Option.map_eq_some_iff.mp hf
  cases e3
  refine h σ ρ A H _ x ρ1 S e1 fun v H1 A1 b => ?_
  exact hr σ ρ1 A1 H1 _ xs ρ2 b.st e2 fun vs H2 A2 S2 g2 c => hq (v :: vs) H2 A2 S2 (b.gr.trans g2) (.cons (b.rs.mono g2) c)
/-- the frozen data of the arguments -/
def datL : List Pend → Option (List D)
  | [] => some []
  | .now (.dat d) :: r => (datL r).map (d :: ·)
  | _ => none
theorem datL_ok {K : PySem.W.Frag} {H : Hp} {A : AS} {σ : L2.St} : ∀ {ps : List Pend} {vs : List V} {ds : List D}, PendsOk K H A σ vs ps → datL ps = some ds → DpAll K (wo H (OwB [] A)) vs ds
  | [], _, _, h, e => by cases h; cases e; exact .nil
  | .now (.dat d) :: r, _, _, h, e => by
    cases h with
    | cons h t =>
      obtain ⟨ds', e1, e2⟩ := Option.map_eq_some_iff.mp e
      cases e2
      cases h with
      | dat h => exact .cons h (datL_ok t e1)
  | .now (.own o) :: r, _, _, h, e => by cases e
  | .now (.fro o) :: r, _, _, h, e => by cases e
  | .late j :: r, _, _, h, e => by cases e
def eTup (f : Ev → Option (List Pend × Ev)) : Ev → Option (Sv × Ev) := fun ρ => (f ρ).bind fun p => (datL p.1).bind fun ds => if ds.length ≤ 1000 then some (.dat (.tuple ds), p.2) else none
def eLst (f : Ev → Option (List Pend × Ev)) : Ev → Option (Sv × Ev) := fun ρ => (f ρ).bind fun p => (datL p.1).bind fun ds => if ds.length ≤ 1000 then some (.own (.lst ds), p.2) else none
theorem se_tup {x1 : Nat} {f} (h : SAs X es f) : SE X (.Tuple es x1 pos) (eTup f) := by
  obtain ⟨t, p, h⟩ := h
  refine ⟨_, pe_tup p, fun σ ρ A H Q s ρ' S hf hq => ?_⟩
  unfold eTup at hf
  obtain ⟨⟨ps, ρ1⟩, e1, hf⟩ := Option.bind_eq_some_iff.mp hf
  obtain ⟨ds, e2, hf⟩ := Option.bind_eq_some_iff.mp hf
  split at hf
  · rename_i hl
    cases hf
    refine h σ ρ A H _ ps _ S e1 fun vs H1 A1 S1 g1 c => ?_
    have hd := datL_ok c e2
    refine ⟨?_, fun a n => ?_⟩
    · rw [DpAll.length hd]; exact Nat.le_of_lt (small1000 hl)
    · exact hq _ _ A1 [] ((New.tup S1.liveP n hd).post S1 g1)
  · cases hf
theorem se_lst {f} (h : SAs X es f) : SE X (.List es pos) (eLst f) := by
  obtain ⟨t, p, h⟩ := h
  refine ⟨_, pe_lst p, fun σ ρ A H Q s ρ' S hf hq => ?_⟩
  unfold eLst at hf
  obtain ⟨⟨ps, ρ1⟩, e1, hf⟩ := Option.bind_eq_some_iff.mp hf
  obtain ⟨ds, e2, hf⟩ := Option.bind_eq_some_iff.mp hf
  split at hf
  · rename_i hl
    cases hf
    refine h σ ρ A H _ ps _ S e1 fun vs H1 A1 S1 g1 c => ?_
    have hd := datL_ok c e2
    refine ⟨?_, fun a n => ?_⟩
    · rw [DpAll.length hd]; exact Nat.le_of_lt (small1000 hl)
    · exact hq _ _ A1 [a] ((New.lst n hd).post S1 g1)
  · cases hf
end

/-- what the arguments are, when all are there -/
def resL : List Pend → Ev → Option (List Sv)
  | [], _ => some []
  | p :: r, ρ => (res p ρ).bind fun x => (resL r ρ).map (x :: ·)
inductive RSvs (K : PySem.W.Frag) (R H : Hp) : List V → List Sv → Prop
  | nil : RSvs K R H [] []
  | cons {v s B vs ss} : RSv K R H v s B → RSvs K R H vs ss → RSvs K R H (v :: vs) (s :: ss)
theorem resL_ok {K : PySem.W.Frag} {H : Hp} {A : AS} {σ : L2.St} {ρ : Ev} (S : Stt K H [] σ ρ A) : ∀ {ps : List Pend} {vs : List V} {xs : List Sv}, PendsOk K H A σ vs ps → resL ps ρ = some xs → RSvs K (wo H (OwB [] A)) H vs xs
  | [], _, _, h, e => by cases h; cases e; exact .nil
  | p :: r, _, _, h, e => by
    cases h with
    | cons h t =>
      obtain ⟨x, e1, e⟩ := Option.bind_eq_some_iff.mp e
      obtain ⟨xs, e2, e3⟩ := Option.map_eq_some_iff.mp e
      cases e3
      obtain ⟨B, r⟩ := res_ok S h e1
      exact .cons r (resL_ok S t e2)
/-- an operation on arguments -/
def RNOk (K : PySem.W.Frag) (r : List V → Hp → VK → Prop) (op : List Sv → Option Sv) : Prop :=
  ∀ (H : Hp) (P : Addr → Prop) (vs : List V) (xs : List Sv) (s : Sv) (Q : VK), (∀ a, P a → ∃ u, H a = some u) → RSvs K (wo H P) H vs xs → op xs = some s → (∀ u H' B, New K H P s u H' B → Q u H') → r vs H Q
def eOpN (op : List Sv → Option Sv) (fa : Ev → Option (List Pend × Ev)) : Ev → Option (Sv × Ev) := fun ρ =>
  (fa ρ).bind fun p => (resL p.1 p.2).bind fun xs => (op xs).map fun s => (s, p.2)
section
variable {X : Cx} {e : Expr} {es : List Expr} {x : Str} {p pos : Pos}
theorem se_tCB {r : List V → Hp → VK → Prop} {op : List Sv → Option Sv} {fa} (ha : SAs X es fa) (hr : RNOk X.K r op) : ∃ t, PA X es t ∧ SEt X.K (tCB r t) (eOpN op fa) := by
  obtain ⟨t, pa, sa⟩ := ha
  refine ⟨t, pa, fun σ ρ A H Q s ρ' S hf hq => ?_⟩
  unfold eOpN at hf
  obtain ⟨⟨ps, ρ1⟩, e1, hf⟩ := Option.bind_eq_some_iff.mp hf
  obtain ⟨xs, e2, hf⟩ := Option.bind_eq_some_iff.mp hf
  obtain ⟨s0, e3, e4⟩ := Option.map_eq_some_iff.mp hf
  cases e4
  refine sa σ ρ A H _ ps ρ1 S e1 fun vs H1 A1 S1 g1 c => ?_
  exact hr H1 (OwB [] A1) vs xs _ Q S1.liveP (resL_ok S1 c e2) e3 fun u H' B n => hq u H' A1 B (n.post S1 g1)
theorem se_callB {id : String} {r : List V → Hp → VK → Prop} {op : List Sv → Option Sv} {fa} (hc : CallR X (.builtin id) r) (hr : RNOk X.K r op) (hg : Gl X x) (hm : X.mg x = none) (hv : bootBuiltins x = some (.builtin id)) (ha : SAs X (e :: es) fa) (hn : x ≠ "__name__" := by decide +kernel) (hdb : (x == ("__debug__" : Str)) = false := by decide +kernel)
    (he : starEach (e :: es) X.env = (false, eval e X.env) :: starEach es X.env := by rfl) (hpl : (backTo pos (starEach es X.env)).any (·.1) = false := by rfl) : SE X (.Call (.Name x p) (e :: es) [] pos) (eOpN op fa) :=
  let ⟨_, pa, h⟩ := se_tCB ha hr
  ⟨_, pe_callB hc hg hm hv pa hn hdb he hpl, h⟩
theorem se_callTy {T : String} {r : List V → Hp → VK → Prop} {op : List Sv → Option Sv} {fa} (hc : CallR X (.type T) r) (hr : RNOk X.K r op) (hg : Gl X x) (hm : X.mg x = none) (hv : bootBuiltins x = some (.type T)) (ha : SAs X (e :: es) fa) (hn : x ≠ "__name__" := by decide +kernel) (hdb : (x == ("__debug__" : Str)) = false := by decide +kernel)
    (he : starEach (e :: es) X.env = (false, eval e X.env) :: starEach es X.env := by rfl) (hpl : (backTo pos (starEach es X.env)).any (·.1) = false := by rfl) : SE X (.Call (.Name x p) (e :: es) [] pos) (eOpN op fa) :=
  let ⟨_, pa, h⟩ := se_tCB ha hr
  ⟨_, pe_callTy hc hg hm hv pa hn hdb he hpl, h⟩
end

/-! ### defs -/
/-- a def: how many parameters it has, which of them it changes, what it gives -/
structure Fn where
  np : Nat
  io : List Nat
  run : List Sv → Option (Sv × Ev)
def spF (K : PySem.W.Frag) (F : Fn) : Sp := fun vs H Q _ => vs.length = F.np ∧ ∃ (args : List Sv) (A : AS) (s : Sv) (outs : Ev), F.run args = some (s, outs) ∧ Stt K H [] (vs.map some) (args.map some) A ∧
  ∀ v H' A' B, PostE K H A (vs.map some) outs s v H' A' B → Q v H'
def outsOf (io : List Nat) (np : Nat) (ρ : Ev) : Ev := (List.range np).map fun i => if io.contains i then (ρ[i]?).join else none
def startE (np n : Nat) (args : List Sv) : Ev := args.map some ++ List.replicate (n - np) none
def mkFn (np n : Nat) (io : List Nat) (body : Ev → Option Out) : Fn := ⟨np, io, fun args => if args.length = np then (match body (startE np n args) with
  | some (.rt s ρ) => some (s, outsOf io np ρ)
  | some (.nx ρ) => some (.dat .none, outsOf io np ρ)
  | _ => none) else none⟩
theorem outs_get {io : List Nat} {np : Nat} {ρ : Ev} {i : Nat} {s : Sv} (g : Got (outsOf io np ρ) i s) : i < np ∧ i ∈ io ∧ Got ρ i s := by
  unfold Got outsOf at g
  rw [List.getElem?_map] at g
  obtain ⟨k, e1, e2⟩ := Option.map_eq_some_iff.mp g
  obtain ⟨h1, e3⟩ := List.getElem?_eq_some_iff.mp e1
  rw [List.length_range] at h1
  rw [List.getElem_range] at e3
  subst e3
  split at e2
  · rename_i h; exact ⟨h1, List.contains_iff_mem.mp h, got_of_join e2⟩
  · cases e2
theorem outs_post {K : PySem.W.Frag} {io : List Nat} {np : Nat} {vs : List V} {H : Hp} {A : AS} {σ' : L2.St} {ρ' : Ev} {s : Sv} {v : V} {H' : Hp} {A' : AS} {B : List Addr} (hl : vs.length = np)
    (hio : ∀ i ∈ io, i < np → σ'[i]? = (vs.map some)[i]?) (p : PostE K H A σ' ρ' s v H' A' B) :
    PostE K H A (vs.map some) (outsOf io np ρ') s v H' ⟨fun i => @ite _ (∃ s, Got (outsOf io np ρ') i s) (propDecidable _) (A'.f i) [], A'.Z⟩ B := by
  have sub : ∀ i a, a ∈ (@ite _ (∃ s, Got (outsOf io np ρ') i s) (propDecidable _) (A'.f i) []) → a ∈ A'.f i := fun i a h => by
    split at h
    · exact h
    · cases h
  have le : ∀ a, OwB B ⟨fun i => @ite _ (∃ s, Got (outsOf io np ρ') i s) (propDecidable _) (A'.f i) [], A'.Z⟩ a → OwB B A' a := fun a z => z.imp id fun z => z.imp id fun ⟨i, z⟩ => ⟨i, sub i a z⟩
  have sm := wo_less (H := H') le
  refine ⟨⟨?_, fun i s g => ?_, fun i h => ?_, fun i j a h1 h2 => p.st.dj i j a (sub i a h1) (sub j a h2), fun a z => ⟨fun ⟨i, h⟩ => (p.st.zd a z).1 ⟨i, sub i a h⟩, (p.st.zd a z).2⟩, p.st.zl, fun a h ⟨i, z⟩ => p.st.fr a h ⟨i, sub i a z⟩⟩, p.rs.mono sm (fun _ _ _ z => z), fun a o z => sm a o (p.gr.s a o z), p.gr.z, p.gr.k⟩
  · unfold outsOf; simp [hl]
  · obtain ⟨h1, h2, g'⟩ := outs_get g
    obtain ⟨w, e1, r⟩ := p.st.got i s g'
    rw [hio i h2 h1] at e1
    refine ⟨w, e1, ?_⟩
    show RSv K _ H' w s (@ite _ (∃ s, Got (outsOf io np ρ') i s) (propDecidable _) (A'.f i) [])
    rw [if_pos ⟨s, g⟩]
    exact r.mono sm fun _ _ _ z => z
  · exact if_neg fun ⟨s, g⟩ => h s g
theorem start_ok {K : PySem.W.Frag} {H : Hp} {vs : List V} {args : List Sv} {A : AS} {N : List Str} {np : Nat} (hl : vs.length = np) (S : Stt K H [] (vs.map some) (args.map some) A) : Stt K H [] (L2.start N vs) (startE np N.length args) A := by
  have hl2 : args.length = vs.length := by have := S.len; simpa using this
  unfold L2.start startE
  refine ⟨by simp [hl, hl2], fun i s g => ?_, fun i h => S.emp i fun s g => h s ?_, S.dj, S.zd, S.zl, S.fr⟩
  · unfold Got at g
    by_cases hi : i < args.length
    · rw [List.getElem?_append_left (by simpa using hi)] at g
      rw [List.getElem?_append_left (by simpa [← hl2] using hi)]
      exact S.got i s g
    · rw [List.getElem?_append_right (by simpa using hi), List.getElem?_replicate] at g
      split at g <;> cases g
  · unfold Got
    have hi : i < args.length := by
      have := (List.getElem?_eq_some_iff.mp g).1
      simpa using this
    rw [List.getElem?_append_left (by simpa using hi)]
    exact g
section
variable {P : Program} {w : World} {K : PySem.W.Frag} {mg : Str → Option Value} {base : Heap}
/-- THE RULE for a def that raises nothing -/
theorem fn_ok {x qual : Str} {st : Stmt} {f : Addr} {fd : FuncData} {N ps : List Str} {k np n : Nat} {io : List Nat} {body : Ev → Option Out} (F : Fun K x qual st f fd) (S : FnScope N ps (defScope st)) (hp : ps.length = np) (hn : N.length = n)
    (hb : ∀ (cdv : Value) (A : Around) (outer : List Env) (s : Shared) (H : Hp) (E : XK), Room k (A.deeper (envOfC qual (defScope st) s.heap.objs.size f cdv)) → SSs io (cxOf CX0 P w K mg base N qual (defScope st) f cdv A outer s H E).nox (defBody st) body) :
    FnOk P w K mg base CX0 (k + 1) f fd ps (spF K (mkFn np n io body)) := by
  refine F.ok S (fun vs H Q E h => h.1.trans hp.symm) (fun cdv A outer s H vs Q E hr h => ?_)
  obtain ⟨t, pt, ht⟩ := hb cdv A outer s H E hr
  obtain ⟨hl, args, AA, sv, outs, hrun, S0, hq⟩ := h
  refine ⟨t, pt, ?_⟩
  have hl : vs.length = np := hl
  have S1 := start_ok (N := N) hl S0
  rw [hn] at S1
  have hrun : (mkFn np n io body).run args = some (sv, outs) := hrun
  unfold mkFn at hrun
  dsimp only at hrun
  have st0 : ∀ i, i < np → (L2.start N vs)[i]? = (vs.map some)[i]? := fun i hi => by
    unfold L2.start
    rw [List.getElem?_append_left (by simpa [hl] using hi)]
  split at hrun
  · split at hrun
    · rename_i s' ρ' eb
      cases hrun
      refine ht _ _ AA H _ _ S1 eb ?_
      exact fun v σ' H' A' B r => hq v H' _ B (outs_post hl (fun i h1 h2 => (r.io i h1).trans (st0 i h2)) r.p)
    · rename_i ρ' eb
      cases hrun
      refine ht _ _ AA H _ _ S1 eb ?_
      exact fun σ' H' A' r => hq .non H' _ [] (outs_post hl (fun i h1 h2 => (r.io i h1).trans (st0 i h2)) ⟨r.st, .dat .non, r.gr⟩)
    · cases hrun
  · cases hrun
end

/-! ### calls -/
def lates : List Pend → List Nat
  | [] => []
  | .late j :: r => j :: lates r
  | _ :: r => lates r
/-- only what the def changes is lent, each name once -/
def lentOk (io : List Nat) : Nat → List Pend → Bool
  | _, [] => true
  | i, .late j :: r => io.contains i && !(lates r).contains j && lentOk io (i + 1) r
  | i, .now _ :: r => lentOk io (i + 1) r
def putBack : List Pend → Ev → Ev → Ev
  | .late j :: r, o :: os, ρ => putBack r os (ρ.set j o)
  | .now _ :: r, _ :: os, ρ => putBack r os ρ
  | _, _, ρ => ρ
def eCall (F : Fn) (fa : Ev → Option (List Pend × Ev)) : Ev → Option (Sv × Ev) := fun ρ =>
  (fa ρ).bind fun p => if lentOk F.io 0 p.1 = true then (resL p.1 p.2).bind fun xs => (F.run xs).map fun q => (q.1, putBack p.1 q.2 p.2) else none

def lidx : List Pend → Nat → Option Nat
  | [], _ => none
  | .late j :: r, m => if j = m then some 0 else (lidx r m).map (· + 1)
  | .now _ :: r, m => (lidx r m).map (· + 1)
theorem lidx_some : ∀ {ps : List Pend} {m i : Nat}, lidx ps m = some i → ps[i]? = some (.late m)
  | [], _, _, h => by cases h
  | .late j :: r, m, i, h => by
    unfold lidx at h
    split at h
    · rename_i e; cases h; subst e; rfl
    · obtain ⟨k, e1, e2⟩ := Option.map_eq_some_iff.mp h
      subst e2; simpa using lidx_some e1
  | .now _ :: r, m, i, h => by
    unfold lidx at h
    obtain ⟨k, e1, e2⟩ := Option.map_eq_some_iff.mp h
    subst e2; simpa using lidx_some e1
theorem lidx_none : ∀ {ps : List Pend} {m : Nat}, lidx ps m = none → ∀ i : Nat, ps[i]? ≠ some (.late m)
  | [], _, _, i, e => by simp at e
  | .late j :: r, m, h, i, e => by
    unfold lidx at h
    split at h
    · cases h
    · rename_i ne
      cases i with
      | zero => simp at e; exact ne e
      | succ i => exact lidx_none (Option.map_eq_none_iff.mp h) i (by simpa using e)
  | .now _ :: r, m, h, i, e => by
    unfold lidx at h
    cases i with
    | zero => simp at e
    | succ i => exact lidx_none (Option.map_eq_none_iff.mp h) i (by simpa using e)
theorem mem_lates : ∀ {ps : List Pend} {m i : Nat}, ps[i]? = some (.late m) → m ∈ lates ps
  | [], _, _, h => by simp at h
  | .late j :: r, m, 0, h => by simp at h; subst h; exact List.mem_cons_self
  | .late j :: r, m, i + 1, h => List.mem_cons_of_mem _ (mem_lates (ps := r) (i := i) (by simpa using h))
  | .now s :: r, m, 0, h => by simp at h
  | .now s :: r, m, i + 1, h => mem_lates (ps := r) (i := i) (by simpa using h)
theorem lent_uniq : ∀ {ps : List Pend} {io : List Nat} {k i i' m : Nat}, lentOk io k ps = true → ps[i]? = some (.late m) → ps[i']? = some (.late m) → i = i'
  | [], _, _, _, _, _, _, h, _ => by simp at h
  | .now s :: r, io, k, i, i', m, h, h1, h2 => by
    cases i with
    | zero => simp at h1
    | succ i => cases i' with
      | zero => simp at h2
      | succ i' => exact congrArg (· + 1) (lent_uniq (ps := r) (io := io) (k := k + 1) h (by simpa using h1) (by simpa using h2))
  | .late j :: r, io, k, i, i', m, h, h1, h2 => by
    have h : (io.contains k && !(lates r).contains j && lentOk io (k + 1) r) = true := h
    rw [Bool.and_eq_true, Bool.and_eq_true] at h
    have nj : j ∉ lates r := fun z => by
      have := h.1.2
      rw [List.contains_iff_mem.mpr z] at this; cases this
    cases i with
    | zero =>
      simp at h1; subst h1
      cases i' with
      | zero => rfl
      | succ i' => exact absurd (mem_lates (ps := r) (i := i') (by simpa using h2)) nj
    | succ i => cases i' with
      | zero => simp at h2; subst h2; exact absurd (mem_lates (ps := r) (i := i) (by simpa using h1)) nj
      | succ i' => exact congrArg (· + 1) (lent_uniq (ps := r) (io := io) (k := k + 1) h.2 (by simpa using h1) (by simpa using h2))
theorem lent_tail {ps : List Pend} {io : List Nat} {k : Nat} {p : Pend} (h : lentOk io k (p :: ps) = true) : lentOk io (k + 1) ps = true := by
  cases p with
  | now s => exact h
  | late j =>
    have h : (io.contains k && !(lates ps).contains j && lentOk io (k + 1) ps) = true := h
    rw [Bool.and_eq_true] at h
    exact h.2
theorem putBack_len : ∀ {ps : List Pend} {os ρ : Ev}, (putBack ps os ρ).length = ρ.length
  | [], os, ρ => by unfold putBack; rfl
  | .late j :: r, [], ρ => by unfold putBack; rfl
  | .now s :: r, [], ρ => by unfold putBack; rfl
  | .late j :: r, o :: os, ρ => by
    show (putBack r os (ρ.set j o)).length = _
    rw [putBack_len, List.length_set]
  | .now s :: r, o :: os, ρ => putBack_len (ps := r)
theorem putBack_out : ∀ {ps : List Pend} {os ρ : Ev} {m : Nat}, lidx ps m = none → (putBack ps os ρ)[m]? = ρ[m]?
  | [], os, ρ, m, h => by unfold putBack; rfl
  | .late j :: r, [], ρ, m, h => by unfold putBack; rfl
  | .now s :: r, [], ρ, m, h => by unfold putBack; rfl
  | .late j :: r, o :: os, ρ, m, h => by
    show (putBack r os (ρ.set j o))[m]? = _
    unfold lidx at h
    split at h
    · cases h
    · rename_i ne
      rw [putBack_out (Option.map_eq_none_iff.mp h), List.getElem?_set_ne ne]
  | .now s :: r, o :: os, ρ, m, h => by
    show (putBack r os ρ)[m]? = _
    unfold lidx at h
    exact putBack_out (Option.map_eq_none_iff.mp h)
theorem putBack_at : ∀ {ps : List Pend} {os ρ : Ev} {io : List Nat} {k m i : Nat}, lentOk io k ps = true → lidx ps m = some i → os.length = ps.length → m < ρ.length → (putBack ps os ρ)[m]? = os[i]?
  | [], os, ρ, _, _, m, i, _, h, _, _ => by cases h
  | .late j :: r, [], ρ, _, _, m, i, _, h, hl, _ => by simp at hl
  | .now s :: r, [], ρ, _, _, m, i, _, h, hl, _ => by simp at hl
  | .late j :: r, o :: os, ρ, io, k, m, i, ok, h, hl, hm => by
    show (putBack r os (ρ.set j o))[m]? = _
    unfold lidx at h
    split at h
    · rename_i e
      cases h; subst e
      have nn : lidx r j = none := by
        cases q : lidx r j with
        | none => rfl
        | some i' =>
          have := lent_uniq (ps := .late j :: r) (i := 0) (i' := i' + 1) (m := j) ok rfl (by simpa using lidx_some q)
          cases this
      rw [putBack_out nn, List.getElem?_set_self hm]; rfl
    · obtain ⟨i', e1, e2⟩ := Option.map_eq_some_iff.mp h
      subst e2
      rw [putBack_at (lent_tail ok) e1 (by simpa using hl) (by simpa using hm)]; rfl
  | .now s :: r, o :: os, ρ, io, k, m, i, ok, h, hl, hm => by
    show (putBack r os ρ)[m]? = _
    unfold lidx at h
    obtain ⟨i', e1, e2⟩ := Option.map_eq_some_iff.mp h
    subst e2
    rw [putBack_at (lent_tail ok) e1 (by simpa using hl) hm]; rfl
theorem resL_get : ∀ {ps : List Pend} {ρ : Ev} {xs : List Sv}, resL ps ρ = some xs → xs.length = ps.length ∧ ∀ (i : Nat) (p : Pend), ps[i]? = some p → ∃ x, xs[i]? = some x ∧ res p ρ = some x
  | [], ρ, xs, h => by cases h; exact ⟨rfl, fun i p e => by simp at e⟩
  | p :: r, ρ, xs, h => by
    obtain ⟨x, e1, h⟩ := Option.bind_eq_some_iff.mp h
    obtain ⟨ys, e2, e3⟩ := Option.map_eq_some_iff.mp h
    subst e3
    obtain ⟨hl, hg⟩ := resL_get e2
    refine ⟨by simp [hl], fun i q e => ?_⟩
    cases i with
    | zero => simp at e; subst e; exact ⟨x, rfl, e1⟩
    | succ i => simpa using hg i q (by simpa using e)

/-- what the callee owns; what it may not touch -/
def lentA (A : AS) (ps : List Pend) : AS :=
  ⟨fun i => match ps[i]? with | some (.late j) => A.f j | _ => [], fun a => A.Z a ∨ ∃ m, a ∈ A.f m ∧ lidx ps m = none⟩
theorem lentA_late {A : AS} {ps : List Pend} {i j : Nat} (h : ps[i]? = some (.late j)) : (lentA A ps).f i = A.f j := by unfold lentA; simp [h]
theorem lentA_of {A : AS} {ps : List Pend} {i : Nat} {a : Addr} (h : a ∈ (lentA A ps).f i) : ∃ j, ps[i]? = some (.late j) ∧ a ∈ A.f j := by
  unfold lentA at h
  dsimp only at h
  split at h
  · rename_i j e; exact ⟨j, e, h⟩
  · cases h
theorem lentA_owB {A : AS} {ps : List Pend} : OwB [] (lentA A ps) = OwB [] A := by
  funext a
  refine propext ⟨fun z => ?_, fun z => ?_⟩
  · rcases z with z | z | ⟨i, z⟩
    · rcases z with z | ⟨m, z, _⟩
      · exact .inl z
      · exact .inr (.inr ⟨m, z⟩)
    · cases z
    · obtain ⟨j, _, z⟩ := lentA_of z; exact .inr (.inr ⟨j, z⟩)
  · rcases z with z | z | ⟨m, z⟩
    · exact .inl (.inl z)
    · cases z
    · cases q : lidx ps m with
      | none => exact .inl (.inr ⟨m, z, q⟩)
      | some i => exact .inr (.inr ⟨i, by rw [lentA_late (lidx_some q)]; exact z⟩)
theorem lent_ok {K : PySem.W.Frag} {H : Hp} {A : AS} {σ : L2.St} {ρ : Ev} {ps : List Pend} {vs : List V} {xs : List Sv} {io : List Nat} {k : Nat} (S : Stt K H [] σ ρ A) (c : PendsOk K H A σ vs ps) (ok : lentOk io k ps = true) (e : resL ps ρ = some xs) :
    Stt K H [] (vs.map some) (xs.map some) (lentA A ps) := by
  obtain ⟨hl, hg⟩ := resL_get e
  have hv := c.length
  refine ⟨by simp [hl, hv], fun i s g => ?_, fun i h => ?_, fun i i' a h1 h2 => ?_, fun a z => ⟨fun ⟨i, h⟩ => ?_, fun z => nomatch z⟩, fun a z => ?_, fun a z => nomatch z⟩
  · unfold Got at g
    rw [List.getElem?_map] at g
    obtain ⟨s', e1, e2⟩ := Option.map_eq_some_iff.mp g
    cases e2
    have hi : i < ps.length := by rw [← hl]; exact (List.getElem?_eq_some_iff.mp e1).1
    obtain ⟨x, e3, e4⟩ := hg i _ (List.getElem?_eq_getElem hi)
    rw [e1] at e3; cases e3
    obtain ⟨v, e5, pk⟩ := c.get (List.getElem?_eq_getElem hi)
    refine ⟨v, by rw [List.getElem?_map, e5]; rfl, ?_⟩
    rw [lentA_owB]
    have ep : ps[i]? = some ps[i] := List.getElem?_eq_getElem hi
    generalize ps[i] = p at *
    cases p with
    | now s' =>
      cases e4
      have : (lentA A ps).f i = [] := by unfold lentA; simp [ep]
      rw [this]; exact pk
    | late j =>
      obtain ⟨v', e6, r⟩ := S.got j s (got_of_join e4)
      have pk : σ[j]? = some (some v) := pk
      rw [e6] at pk; cases pk
      rw [lentA_late ep]; exact r
  · by_cases hi : i < ps.length
    · obtain ⟨x, e3, e4⟩ := hg i _ (List.getElem?_eq_getElem hi)
      exact absurd (show Got (xs.map some) i x by unfold Got; rw [List.getElem?_map, e3]; rfl) (h x)
    · unfold lentA; simp [List.getElem?_eq_none (Nat.le_of_not_lt hi)]
  · obtain ⟨j, e1, h1⟩ := lentA_of h1
    obtain ⟨j', e2, h2⟩ := lentA_of h2
    have := S.dj j j' a h1 h2
    subst this
    exact lent_uniq ok e1 e2
  · obtain ⟨j, e1, h⟩ := lentA_of h
    rcases z with z | ⟨m, z, n⟩
    · exact (S.zd a z).1 ⟨j, h⟩
    · have := S.dj j m a h z
      subst this
      exact lidx_none n i e1
  · rcases z with z | ⟨m, z, n⟩
    · exact S.zl a z
    · exact S.live a ⟨m, z⟩
/-- behind the call: the caller's names again -/
def backA (A A' : AS) (ps : List Pend) : AS := ⟨fun m => match lidx ps m with | some i => A'.f i | none => A.f m, A.Z⟩
theorem back_ok {K : PySem.W.Frag} {H : Hp} {A : AS} {σ : L2.St} {ρ : Ev} {ps : List Pend} {vs : List V} {io : List Nat} {k : Nat} (S : Stt K H [] σ ρ A) (c : PendsOk K H A σ vs ps) (ok : lentOk io k ps = true)
    {s : Sv} {v : V} {H' : Hp} {A' : AS} {B : List Addr} {outs : Ev} (p : PostE K H (lentA A ps) (vs.map some) outs s v H' A' B) : PostE K H A σ (putBack ps outs ρ) s v H' (backA A A' ps) B := by
  have hv := c.length
  have ho : outs.length = ps.length := by rw [p.st.len]; simpa using hv
  have at1 : ∀ {m i : Nat}, lidx ps m = some i → (backA A A' ps).f m = A'.f i := fun {m i} e => by unfold backA; simp [e]
  have at0 : ∀ {m : Nat}, lidx ps m = none → (backA A A' ps).f m = A.f m := fun {m} e => by unfold backA; simp [e]
  have zsub : ∀ {a : Addr}, A.Z a → A'.Z a := fun {a} z => by rw [p.gr.z]; exact .inl z
  have nsub : ∀ {a : Addr} {m : Nat}, lidx ps m = none → a ∈ A.f m → A'.Z a := fun {a m} n z => by rw [p.gr.z]; exact .inr ⟨m, z, n⟩
  have le : ∀ a, OwB B (backA A A' ps) a → OwB B A' a := fun a z => by
    rcases z with z | z | ⟨m, z⟩
    · exact .inl (zsub z)
    · exact .inr (.inl z)
    · cases q : lidx ps m with
      | none => rw [at0 q] at z; exact .inl (nsub q z)
      | some i => rw [at1 q] at z; exact .inr (.inr ⟨i, z⟩)
  have sm := wo_less (H := H') le
  have sm2 : Same (wo H (OwB [] A)) (wo H' (OwB B (backA A A' ps))) := fun a o z => sm a o (p.gr.s a o (by rw [lentA_owB]; exact z))
  refine ⟨⟨by rw [putBack_len, S.len], fun m s' g => ?_, fun m h => ?_, fun m m' a h1 h2 => ?_, fun a z => ⟨fun ⟨m, h⟩ => ?_, (p.st.zd a (zsub z)).2⟩, fun a z => ?_, fun a hb ⟨m, h⟩ => ?_⟩, p.rs.mono sm fun _ _ _ z => z, sm2, rfl, fun a z u e => p.gr.k a (.inl z) u e⟩
  · cases q : lidx ps m with
    | none =>
      unfold Got at g
      rw [putBack_out q] at g
      obtain ⟨w, e1, r⟩ := S.got m s' g
      rw [at0 q]
      exact ⟨w, e1, r.mono sm2 fun a ha u e => p.gr.k a (.inr ⟨m, ha, q⟩) u e⟩
    | some i =>
      have hm : m < ρ.length := by
        have := (List.getElem?_eq_some_iff.mp g).1
        rwa [putBack_len] at this
      unfold Got at g
      rw [putBack_at ok q ho hm] at g
      obtain ⟨w, e1, r⟩ := p.st.got i s' g
      rw [at1 q]
      obtain ⟨w', e2, pk⟩ := c.get (lidx_some q)
      rw [List.getElem?_map, e2] at e1
      cases e1
      exact ⟨w, pk, r.mono sm fun _ _ _ z => z⟩
  · cases q : lidx ps m with
    | none =>
      rw [at0 q]
      exact S.emp m fun s' g => h s' (by unfold Got; rw [putBack_out q]; exact g)
    | some i =>
      rw [at1 q]
      refine p.st.emp i fun s' g => h s' ?_
      obtain ⟨w', e2, pk⟩ := c.get (lidx_some q)
      have hm : m < ρ.length := by rw [S.len]; exact (List.getElem?_eq_some_iff.mp pk).1
      unfold Got; rw [putBack_at ok q ho hm]; exact g
  · cases q : lidx ps m with
    | none =>
      rw [at0 q] at h1
      cases q' : lidx ps m' with
      | none => rw [at0 q'] at h2; exact S.dj m m' a h1 h2
      | some i' => rw [at1 q'] at h2; exact absurd ⟨i', h2⟩ (p.st.zd a (nsub q h1)).1
    | some i =>
      rw [at1 q] at h1
      cases q' : lidx ps m' with
      | none => rw [at0 q'] at h2; exact absurd ⟨i, h1⟩ (p.st.zd a (nsub q' h2)).1
      | some i' =>
        rw [at1 q'] at h2
        have := p.st.dj i i' a h1 h2
        subst this
        have e1 := lidx_some q
        have e2 := lidx_some q'
        rw [e1] at e2; cases e2; rfl
  · cases q : lidx ps m with
    | none => rw [at0 q] at h; exact (S.zd a z).1 ⟨m, h⟩
    | some i => rw [at1 q] at h; exact (p.st.zd a (zsub z)).1 ⟨i, h⟩
  · obtain ⟨u, e⟩ := S.zl a z
    exact ⟨u, p.gr.k a (.inl z) u e⟩
  · cases q : lidx ps m with
    | none => rw [at0 q] at h; exact (p.st.zd a (nsub q h)).2 hb
    | some i => rw [at1 q] at h; exact p.st.fr a hb ⟨i, h⟩
section
variable {X : Cx} {e : Expr} {es : List Expr} {x : Str} {p pos : Pos}
theorem call_run {F : Fn} {t : TA} {fa : Ev → Option (List Pend × Ev)} {E : XK}
    (sa : ∀ (σ : L2.St) (ρ : Ev) (A : AS) (H : Hp) (Q : List V → Hp → Prop) (ps : List Pend) (ρ' : Ev), Stt X.K H [] σ ρ A → fa ρ = some (ps, ρ') → (∀ vs H' A', Stt X.K H' [] σ ρ' A' → Gr H A H' [] A' → PendsOk X.K H' A' σ vs ps → Q vs H') → t σ H Q)
    (hn : ∀ args r, F.run args = some r → args.length = F.np) : SEt X.K (tCall (spF X.K F) [] E t) (eCall F fa) := by
  intro σ ρ A H Q s ρ' S hf hq
  unfold eCall at hf
  obtain ⟨⟨ps, ρ1⟩, e1, hf⟩ := Option.bind_eq_some_iff.mp hf
  dsimp only at hf
  split at hf
  · rename_i ok
    obtain ⟨xs, e2, hf⟩ := Option.bind_eq_some_iff.mp hf
    obtain ⟨⟨s0, outs⟩, e3, e4⟩ := Option.map_eq_some_iff.mp hf
    cases e4
    refine sa σ ρ A H _ ps ρ1 S e1 fun vs H1 A1 S1 g1 c => ?_
    rw [List.append_nil]
    have S2 := lent_ok S1 c ok e2
    refine ⟨?_, xs, lentA A1 ps, _, outs, e3, S2, fun v H' A' B b => hq v H' _ B ((back_ok S1 c ok b).trans g1)⟩
    have h1 := hn xs _ e3
    have h2 := S2.len
    simp at h2
    omega
  · cases hf
theorem mkFn_np {np n : Nat} {io : List Nat} {body : Ev → Option Out} : ∀ args r, (mkFn np n io body).run args = some r → args.length = (mkFn np n io body).np := fun args r h => by
  unfold mkFn at h
  dsimp only at h
  split at h
  · rename_i e; exact e
  · cases h
/-- f(e, ..) -/
theorem se_call {F : Fn} {k : Nat} {f : Addr} {fd : FuncData} {ps : List Str} {fa} (G : FnOk X.prog X.w X.K X.mg X.base CX0 k f fd ps (spF X.K F)) (hn : ∀ args r, F.run args = some r → args.length = F.np) (hr : Room k X.A) (hg : Gl X x) (hm : X.mg x = some (.ref f)) (hk : PySem.W.keepIn X.K (.ref f) = true) (hb : Binds X.K fd ps [])
    (ha : SAs X (e :: es) fa) (hdb : (x == ("__debug__" : Str)) = false := by decide +kernel) (he : starEach (e :: es) X.env = (false, eval e X.env) :: starEach es X.env := by rfl) (hpl : (backTo pos (starEach es X.env)).any (·.1) = false := by rfl) :
    SE X (.Call (.Name x p) (e :: es) [] pos) (eCall F fa) := by
  obtain ⟨t, pa, sa⟩ := ha
  exact ⟨_, pe_call G hr hg hm hk hb .nil pass0 pa hdb he hpl, call_run sa hn⟩
theorem se_call0 {F : Fn} {k : Nat} {f : Addr} {fd : FuncData} {ps : List Str} (G : FnOk X.prog X.w X.K X.mg X.base CX0 k f fd ps (spF X.K F)) (hn : ∀ args r, F.run args = some r → args.length = F.np) (hr : Room k X.A) (hg : Gl X x) (hm : X.mg x = some (.ref f)) (hk : PySem.W.keepIn X.K (.ref f) = true) (hb : Binds X.K fd ps [])
    (hdb : (x == ("__debug__" : Str)) = false := by decide +kernel) : SE X (.Call (.Name x p) [] [] pos) (eCall F aNil) := by
  obtain ⟨t, pa, sa⟩ := sa_nil (X := X)
  exact ⟨_, pe_call0 G hr hg hm hk hb .nil pass0 hdb, call_run (t := tNil) (fun σ ρ A H Q ps ρ' S hf hq => by cases hf; exact hq [] H A S .refl .nil) hn⟩
end
end DL
namespace DL
open PySem PySem.Spec PyProof.Rows L2
open Classical (propDecidable)

/-! ### operands as data -/
/-- as data, a lent list too -/
def datC : Sv → Option D
  | .dat d => some d
  | .own (.lst xs) => some (.list xs)
  | .fro (.lst xs) => some (.list xs)
  | _ => none
section
variable {K : PySem.W.Frag} {H : Hp} {P : Addr → Prop} {v : V} {s : Sv} {B : List Addr} {xs : List D}
theorem datC_ok {d : D} (r : RSv K (wo H P) H v s B) (h : datC s = some d) : Dp K H v d ∧ ((∀ xs, d ≠ .list xs) → Dp K (wo H P) v d) := by
  cases r with
  | dat hd => cases h; exact ⟨Dp.mono wo_same hd, fun _ => hd⟩
  | own w =>
    cases w.rob with
    | lst h1 h2 => cases h; exact ⟨.lst h1 (DpAll.mono wo_same h2), fun n => absurd rfl (n _)⟩
    | _ => cases h
  | fro ho =>
    cases ho with
    | lst h1 h2 => cases h; exact ⟨.lst (Same.seq wo_same h1) (DpAll.mono wo_same h2), fun n => absurd rfl (n _)⟩
    | _ => cases h
theorem datC_list (r : RSv K (wo H P) H v s B) (h : datC s = some (.list xs)) : ∃ a vs, v = .ref a ∧ SqL K H a vs ∧ DpAll K (wo H P) vs xs := by
  cases r with
  | dat hd =>
    cases h
    cases hd with
    | lst h1 h2 => exact ⟨_, _, rfl, Same.seq wo_same h1, h2⟩
  | own w =>
    cases w.rob with
    | lst h1 h2 => cases h; exact ⟨_, _, rfl, h1, h2⟩
    | _ => cases h
  | fro ho =>
    cases ho with
    | lst h1 h2 => cases h; exact ⟨_, _, rfl, Same.seq wo_same h1, h2⟩
    | _ => cases h
theorem datC_tup (r : RSv K (wo H P) H v s B) (h : datC s = some (.tuple xs)) : ∃ a vs, v = .ref a ∧ SqT K (wo H P) a vs ∧ DpAll K (wo H P) vs xs := by
  cases (datC_ok r h).2 (fun _ z => nomatch z) with
  | tup h1 h2 => exact ⟨_, _, rfl, h1, h2⟩
theorem datC_int {i : Int} (r : RSv K (wo H P) H v s B) (h : datC s = some (.int i)) : v = .int i := by
  cases (datC_ok r h).1; rfl
theorem datC_str {i : Str} (r : RSv K (wo H P) H v s B) (h : datC s = some (.str i)) : v = .str i := by
  cases (datC_ok r h).1; rfl
theorem datC_bool {i : Bool} (r : RSv K (wo H P) H v s B) (h : datC s = some (.bool i)) : v = .bl i := by
  cases (datC_ok r h).1; rfl
theorem datC_non (r : RSv K (wo H P) H v s B) (h : datC s = some .none) : v = .non := by
  cases (datC_ok r h).1; rfl
theorem New.int {i : Int} : New K H P (.dat (.int i)) (.int i) H [] := New.old (.int i)
theorem New.bl {i : Bool} : New K H P (.dat (.bool i)) (.bl i) H [] := New.old (.bl i)
theorem New.str {i : Str} : New K H P (.dat (.str i)) (.str i) H [] := New.old (.str i)
theorem New.non : New K H P (.dat .none) .non H [] := New.old .non
end
theorem line1000000 {n : Nat} (h : n ≤ 1000000) : n ≤ sizeLine := by rw [sizeLine_eq]; omega

/-! ### + - * // % ** -/
/-- xs + ys of lists that are read -/
def rCatL (K : PySem.W.Frag) : R2 := fun x y H Q => ∃ l b xs zs, x = .ref l ∧ y = .ref b ∧ SqL K H l xs ∧ SqL K H b zs ∧ xs.length + zs.length ≤ sizeLine ∧ ∀ p, H p = none → Q (.ref p) (upd H p (.lst (xs ++ zs)))
theorem list_obj {h : Heap} {a : Addr} {its : List Value} (p : PlainL h a its.toArray) : ∃ n sl, h.get? a = some { cls := .type "list", dict := none, data := .seq its.toArray n, slots := sl } := by
  obtain ⟨o, n, e, c, d, q⟩ := p
  obtain ⟨cls, dict, data, slots⟩ := o
  simp only at c d q
  subst c d q
  exact ⟨n, slots, e⟩
theorem op_catL {X : Cx} : OpR X (binaryOp .Add) (rCatL X.K) := by
  intro pins s σ H x y v u Q I rx ry h
  obtain ⟨l, b, xs, zs, rfl, rfl, hH, hB, hz, q⟩ := h
  cases rx
  cases ry
  obtain ⟨its, r, p, hl⟩ := I.list hH
  obtain ⟨its2, r2, p2, hl2⟩ := I.list hB
  obtain ⟨n, sl, e⟩ := list_obj p
  obtain ⟨n2, sl2, e2⟩ := list_obj p2
  have l1 := r.length
  have l2 := r2.length
  have ea : its.toArray ++ its2.toArray = (its ++ its2).toArray := by simp
  refine concat_meets ⟨_, e, rfl⟩ ⟨_, e2, rfl⟩ noFill_list_add seq_list_add PySem.F.slot_list_add PySem.F.entry_list_add (PySem.F.args_list_add_2 _ _)
    (list_addW l b its.toArray its2.toArray n n2 none none sl sl2 (by simp only [List.size_toArray]; omega)) ⟨e, e2, ?_⟩
  rw [ea]
  refine ⟨.ref s.heap.objs.size, _, I.laid (t' := s.toks) (o := .lst (xs ++ zs)) (fun b ob q => Heap.get?_push_of_some _ q) (Nat.le_refl _) ?_, rfl, q _ (I.hok.fresh (Nat.le_refl _))⟩
  exact ⟨by rw [List.length_append]; exact hz, _, 0, r.append r2, Heap.get?_push_size _ rfl⟩
@[simp] def opAdd (x y : Sv) : Option Sv := match datC x, datC y with
  | some (.int i), some (.int j) => some (.dat (.int (i + j)))
  | some (.str i), some (.str j) => if i.length + j.length ≤ 1000000 then some (.dat (.str (i ++ j))) else none
  | some (.list i), some (.list j) => if i.length + j.length ≤ 1000000 then some (.own (.lst (i ++ j))) else none
  | some (.tuple i), some (.tuple j) => if i.length + j.length ≤ 1000000 then some (.dat (.tuple (i ++ j))) else none
  | _, _ => none
def rAddA (K : PySem.W.Frag) : R2 := fun x y H Q => ((rI0 fun i j => .int (i + j)) x y H Q ∨ (∃ i j, x = .str i ∧ y = .str j ∧ i.length + j.length ≤ sizeLine ∧ Q (.str (i ++ j)) H)) ∨ (rCatL K x y H Q ∨ rCatA K x y H Q)
theorem op_addA {X : Cx} : OpR X (binaryOp .Add) (rAddA X.K) := (op_add.or op_add_str).or (op_catL.or op_catA)
theorem ok_add {K : PySem.W.Frag} : R2Ok K (rAddA K) opAdd := by
  intro H P v w x y s Q B1 B2 hl r1 r2 h hq
  unfold opAdd at h
  split at h
  · rename_i i j h1 h2
    cases h
    exact .inl (.inl ⟨i, j, datC_int r1 h1, datC_int r2 h2, hq _ _ _ .int⟩)
  · rename_i i j h1 h2
    split at h
    · rename_i hs
      cases h
      exact .inl (.inr ⟨i, j, datC_str r1 h1, datC_str r2 h2, line1000000 hs, hq _ _ _ .str⟩)
    · cases h
  · rename_i i j h1 h2
    split at h
    · rename_i hs
      cases h
      obtain ⟨a, vs, rfl, e1, d1⟩ := datC_list r1 h1
      obtain ⟨b, ws, rfl, e2, d2⟩ := datC_list r2 h2
      exact .inr (.inl ⟨a, b, vs, ws, rfl, rfl, e1, e2, by rw [DpAll.length d1, DpAll.length d2]; exact line1000000 hs, fun p n => hq _ _ _ (.lst n (DpAll.append d1 d2))⟩)
    · cases h
  · rename_i i j h1 h2
    split at h
    · rename_i hs
      cases h
      obtain ⟨a, vs, rfl, e1, d1⟩ := datC_tup r1 h1
      obtain ⟨b, ws, rfl, e2, d2⟩ := datC_tup r2 h2
      have dd := DpAll.append d1 d2
      refine .inr (.inr ⟨a, b, vs, ws, rfl, rfl, Same.sqt wo_same e1, Same.sqt wo_same e2, by rw [DpAll.length d1, DpAll.length d2]; exact line1000000 hs, fun e => ?_, fun _ e => ?_, fun _ _ p n => hq _ _ _ (.tup hl n dd)⟩)
      · subst e; cases d1; exact hq _ _ _ (.old (.tup e2 d2))
      · subst e; cases d2; rw [List.append_nil] at hq; exact hq _ _ _ (.old (.tup e1 d1))
    · cases h
  · cases h
@[simp] def opSub (x y : Sv) : Option Sv := match datC x, datC y with
  | some (.int i), some (.int j) => some (.dat (.int (i - j)))
  | _, _ => none
theorem ok_sub {K : PySem.W.Frag} : R2Ok K (rI0 fun i j => .int (i - j)) opSub := by
  intro H P v w x y s Q B1 B2 hl r1 r2 h hq
  unfold opSub at h
  split at h
  · rename_i i j h1 h2; cases h; exact ⟨i, j, datC_int r1 h1, datC_int r2 h2, hq _ _ _ .int⟩
  · cases h
/-- * of ints of together less than a hundred million bits -/
def CMulX (i j : Int) : Prop := i.natAbs.log2 + j.natAbs.log2 < 100000000
theorem CMulX.ok {i j : Int} (h : CMulX i j) : IntMulOk i j := by
  have b : ∀ x : Int, Builtin.Int.intBits x ≤ x.natAbs.log2 + 1 := fun x => by
    unfold Builtin.Int.intBits
    split <;> omega
  have h1 := b i
  have h2 := b j
  have h3 : i.natAbs.log2 + j.natAbs.log2 < 100000000 := h
  have e : bitsLine = 134217728 := by decide
  unfold IntMulOk
  intro z
  rw [Bool.and_eq_true] at z
  have z2 := z.2
  unfold Builtin.Int.intTooBig at z2
  have z3 := of_decide_eq_true z2
  rw [e] at z3
  omega
theorem op_mulX {X : Cx} : OpR X (binaryOp .Mult) (rI CMulX fun i j => .int (i * j)) := opI fun _ _ _ _ _ _ _ hc q => mul_int q hc.ok
/-! ### a list times a number -/
theorem rmul_lst (a : Int) (t : Tok) (l : Addr) (us : Array Value) (n : Nat) (dd : Option Addr) (sl : Array (Option Value)) :
    Meets (Builtin.«int.__rmul__» ⟨[.int a t, .ref l], []⟩) (fun _ R s => s.heap.get? l = some ⟨.type "list", dd, .seq us n, sl⟩ ∧ R (.ok (.ret Value.notImplemented)) s) := by
  refine .of_wp fun P w A R s h => ?_
  obtain ⟨hp, g, d, tk, os⟩ := s
  obtain ⟨hl, h⟩ := h
  wp_walk using wpAny_loadPart' hl
  exact ⟨_, rfl, h⟩
theorem mul_lst (l : Addr) (us : Array Value) (n : Nat) (dd : Option Addr) (sl : Array (Option Value)) (x : Int) (u : Tok) (c0 : ¬ (!Builtin.List.listFitsIndex x) = true) (c1 : ¬ us.size * x.toNat > (2 ^ 63 - 1) / 8) (c2 : ¬ Builtin.List.listTooLong (us.size * x.toNat) = true) :
    Meets (Builtin.«list.__mul__» ⟨[.ref l, .int x u], []⟩) (fun _ R s => s.heap.get? l = some ⟨.type "list", dd, .seq us n, sl⟩ ∧
      R (.ok (.ret (Value.ref s.heap.objs.size))) { s with heap := s.heap.push { cls := Value.type "list", data := Data.seq (List.foldl (fun p q => p ++ q) #[] (List.replicate (if us.isEmpty = true then 0 else x.toNat) us)) }, toks := s.toks }) := by
  refine .of_wp fun P w A R s h => ?_
  obtain ⟨hp, g, d, tk, os⟩ := s
  obtain ⟨hl, h⟩ := h
  have hz := AutoListH.joined_fits c2
  wp_walk using wpAny_loadPart' hl
  repeat (first
    | (refine wpAny_ite_false (decide_eq_false (Nat.not_lt.mpr hz)) ?_; wp_walk using wpAny_loadPart' hl))
  exact ⟨_, rfl, h⟩
theorem rep_foldl (us : List Value) (m : Nat) : List.foldl (fun p q => p ++ q) #[] (List.replicate m us.toArray) = (List.replicate m us).flatten.toArray := by
  have := foldl_rep us m []
  rw [List.nil_append] at this
  exact this
def rRepL (K : PySem.W.Frag) : R2 := fun x y H Q => ∃ l k xs, x = .ref l ∧ y = .int k ∧ SqL K H l xs ∧ 0 ≤ k ∧ k ≤ 1000 ∧ xs.length ≤ 1000 ∧ ∀ p, H p = none → Q (.ref p) (upd H p (.lst (List.replicate k.toNat xs).flatten))
theorem op_repL {X : Cx} : OpR X (binaryOp .Mult) (rRepL X.K) := by
  intro pins s σ H x y v u Q I rx ry h
  obtain ⟨l, k, xs, rfl, rfl, hT, h1, h2, hz, q⟩ := h
  cases rx
  obtain ⟨t, rfl⟩ := ry
  obtain ⟨its, r, ⟨⟨cls, dd, data, sl⟩, n, ho, hc, hd, hd2⟩, hs⟩ := I.list hT
  simp only at hc hd hd2
  subst hc hd hd2
  have hle : its.length = xs.length := r.length.symm
  have hm : its.toArray.size * k.toNat ≤ 1000 * 1000 := by
    rw [List.size_toArray, hle]
    exact Nat.mul_le_mul hz (by omega)
  have hm2 : its.toArray.size * k.toNat ≤ sizeLine := by rw [sizeLine_eq]; omega
  have c1 : ¬ its.toArray.size * k.toNat > (2 ^ 63 - 1) / 8 := by omega
  have c0 : ¬ (!Builtin.List.listFitsIndex k) = true := by
    rw [fitsIndex_both (by omega) (by omega)]
    exact Bool.false_ne_true
  have c2 : ¬ Builtin.List.listTooLong (its.toArray.size * k.toNat) = true := by
    rw [notLongL hm2]
    exact Bool.false_ne_true
  have e1 : List.foldl (fun p q => p ++ q) #[] (List.replicate (if its.toArray.isEmpty = true then 0 else k.toNat) its.toArray) = (List.replicate k.toNat its).flatten.toArray := by
    rw [rep_foldl]
    cases its with
    | nil => simp
    | cons a r' => rw [if_neg (by simp)]
  have z := mul_lst l its.toArray n none sl k t c0 c1 c2
  refine wpAny_binaryOp_repeat_ref (T := "list") (U := "int") (by decide) ⟨_, ho, rfl⟩ (fun s' => typeIs_int s' k t) noFill_list_mul F.fills_int_mul F.slot_int_rmul repeat_list F.slot_int_index.lookup ?_
  refine call_meets F.slot_int_rmul (typeIs_int s k t) F.entry_int_rmul (F.args_int_rmul_2 _ _) (rmul_lst k t l its.toArray n none sl) ⟨ho, rfl, ⟨_, ho, rfl⟩, ?_⟩
  refine call_meets F.slot_list_mul ⟨_, ho, rfl⟩ F.entry_list_mul (F.args_list_mul_2 _ _) z ⟨ho, ?_⟩
  rw [e1]
  exact ⟨.ref _, _, I.lnew (t' := s.toks) (r.rep k.toNat) (by rw [PyProof.Rows.lm_len_rep_flat, ← hle, Nat.mul_comm]; simpa using hm2), rfl, q _ I.fresh⟩
theorem dpAll_rep {K : PySem.W.Frag} {H : Hp} {vs : List V} {xs : List D} (h : DpAll K H vs xs) : ∀ n : Nat, DpAll K H (List.replicate n vs).flatten (List.replicate n xs).flatten
  | 0 => .nil
  | n + 1 => by
    rw [List.replicate_succ, List.replicate_succ, List.flatten_cons, List.flatten_cons]
    exact DpAll.append h (dpAll_rep h n)
/-- so many times -/
def repL {α : Type} (n : Nat) (xs : List α) : List α := (List.replicate n xs).flatten
@[simp] theorem repL_len {α : Type} (n : Nat) (xs : List α) : (repL n xs).length = n * xs.length := by unfold repL; simp
theorem repL_map {α β : Type} (f : α → β) (n : Nat) (xs : List α) : repL n (xs.map f) = (repL n xs).map f := by unfold repL; rw [List.map_flatten, List.map_replicate]
theorem repL_mem {α : Type} {n : Nat} {xs : List α} {x : α} (h : x ∈ repL n xs) : x ∈ xs := by
  obtain ⟨l, h1, h2⟩ := List.mem_flatten.mp h
  exact (List.mem_replicate.mp h1).2 ▸ h2
@[simp] def opMul (x y : Sv) : Option Sv := match datC x, datC y with
  | some (.int i), some (.int j) => if i.natAbs.log2 + j.natAbs.log2 < 100000000 then some (.dat (.int (i * j))) else none
  | some (.list xs), some (.int j) => if 0 ≤ j ∧ j ≤ 1000 ∧ xs.length ≤ 1000 then some (.own (.lst (repL j.toNat xs))) else none
  | _, _ => none
theorem op_mulA {X : Cx} : OpR X (binaryOp .Mult) (fun x y H Q => (rI CMulX fun i j => .int (i * j)) x y H Q ∨ rRepL X.K x y H Q) := op_mulX.or op_repL
theorem ok_mul {K : PySem.W.Frag} : R2Ok K (fun x y H Q => (rI CMulX fun i j => .int (i * j)) x y H Q ∨ rRepL K x y H Q) opMul := by
  intro H P v w x y s Q B1 B2 hl r1 r2 h hq
  unfold opMul at h
  split at h
  · rename_i i j h1 h2
    split at h
    · rename_i hc; cases h; exact .inl ⟨i, j, datC_int r1 h1, datC_int r2 h2, hc, hq _ _ _ .int⟩
    · cases h
  · rename_i xs j h1 h2
    split at h
    · rename_i hc
      cases h
      obtain ⟨a, vs, rfl, e1, d1⟩ := datC_list r1 h1
      exact .inr ⟨a, j, vs, rfl, datC_int r2 h2, e1, hc.1, hc.2.1, by rw [DpAll.length d1]; exact hc.2.2, fun p n => hq _ _ _ (.lst n (dpAll_rep d1 _))⟩
    · cases h
  · cases h
/-- // by a positive number -/
@[simp] def opDiv (x y : Sv) : Option Sv := match datC x, datC y with
  | some (.int i), some (.int j) => if 0 < j then some (.dat (.int (i / j))) else none
  | _, _ => none
/-- .. below 2 ^ 9000 -/
@[simp] def opDivS (x y : Sv) : Option Sv := match datC x, datC y with
  | some (.int i), some (.int j) => if 0 < j ∧ j < 1073741824 then some (.dat (.int (i / j))) else none
  | _, _ => none
theorem ok_divS {K : PySem.W.Frag} : R2Ok K (rI CDiv fun i j => .int (i / j)) opDivS := by
  intro H P v w x y s Q B1 B2 hl r1 r2 h hq
  unfold opDivS at h
  split at h
  · rename_i i j h1 h2
    split at h
    · rename_i hc; cases h; exact ⟨i, j, datC_int r1 h1, datC_int r2 h2, hc, hq _ _ _ .int⟩
    · cases h
  · cases h
theorem ok_div {K : PySem.W.Frag} : R2Ok K (rI (fun _ j => 0 < j) fun i j => .int (i / j)) opDiv := by
  intro H P v w x y s Q B1 B2 hl r1 r2 h hq
  unfold opDiv at h
  split at h
  · rename_i i j h1 h2
    split at h
    · rename_i hc; cases h; exact ⟨i, j, datC_int r1 h1, datC_int r2 h2, hc, hq _ _ _ .int⟩
    · cases h
  · cases h
@[simp] def opMod (x y : Sv) : Option Sv := match datC x, datC y with
  | some (.int i), some (.int j) => if 0 < j then some (.dat (.int (i % j))) else none
  | _, _ => none
theorem ok_mod {K : PySem.W.Frag} : R2Ok K (rI (fun _ j => 0 < j) fun i j => .int (i % j)) opMod := by
  intro H P v w x y s Q B1 B2 hl r1 r2 h hq
  unfold opMod at h
  split at h
  · rename_i i j h1 h2
    split at h
    · rename_i hc; cases h; exact ⟨i, j, datC_int r1 h1, datC_int r2 h2, hc, hq _ _ _ .int⟩
    · cases h
  · cases h
@[simp] def opPow (x y : Sv) : Option Sv := match datC x, datC y with
  | some (.int i), some (.int j) => if 0 ≤ j ∧ j ≤ 1000 ∧ i.natAbs < 2 ^ 64 then some (.dat (.int (i ^ j.toNat))) else none
  | _, _ => none
theorem ok_pow {K : PySem.W.Frag} : R2Ok K (rI CPow fun i j => .int (i ^ j.toNat)) opPow := by
  intro H P v w x y s Q B1 B2 hl r1 r2 h hq
  unfold opPow at h
  split at h
  · rename_i i j h1 h2
    split at h
    · rename_i hc; cases h; exact ⟨i, j, datC_int r1 h1, datC_int r2 h2, ⟨hc.1, by omega, hc.2.2⟩, hq _ _ _ .int⟩
    · cases h
  · cases h
@[simp] def opNeg (x : Sv) : Option Sv := match datC x with
  | some (.int i) => some (.dat (.int (-i)))
  | _ => none
theorem ok_neg {K : PySem.W.Frag} : R1Ok K (rU fun i => .int (-i)) opNeg := by
  intro H P v x s Q B1 hl r1 h hq
  unfold opNeg at h
  split at h
  · rename_i i h1; cases h; exact ⟨i, datC_int r1 h1, hq _ _ _ .int⟩
  · cases h

/-! ### comparisons -/
@[simp] def opCmpI (p : Int → Int → Bool) (q : Str → Str → Bool) (x y : Sv) : Option Sv := match datC x, datC y with
  | some (.int i), some (.int j) => some (.dat (.bool (p i j)))
  | some (.str i), some (.str j) => some (.dat (.bool (q i j)))
  | _, _ => none
theorem ok_cmpI {K : PySem.W.Frag} {p : Int → Int → Bool} {q : Str → Str → Bool} : R2Ok K (fun x y H Q => (rI0 fun i j => .bl (p i j)) x y H Q ∨ (∃ i j, x = .str i ∧ y = .str j ∧ Q (.bl (q i j)) H)) (opCmpI p q) := by
  intro H P v w x y s Q B1 B2 hl r1 r2 h hq
  unfold opCmpI at h
  split at h
  · rename_i i j h1 h2; cases h; exact .inl ⟨i, j, datC_int r1 h1, datC_int r2 h2, hq _ _ _ .bl⟩
  · rename_i i j h1 h2; cases h; exact .inr ⟨i, j, datC_str r1 h1, datC_str r2 h2, hq _ _ _ .bl⟩
  · cases h
def ltS (i j : Str) : Bool := decide (i.cps.toList < j.cps.toList)
theorem op_ltA {X : Cx} : OpR X (compareOp .Lt) (fun x y H Q => (rI0 fun i j => .bl (decide (i < j))) x y H Q ∨ (∃ i j, x = .str i ∧ y = .str j ∧ Q (.bl (ltS i j)) H)) := op_lt.or op_lt_str
@[simp] abbrev opLt := opCmpI (fun i j => decide (i < j)) ltS
abbrev opLe := opCmpI (fun i j => decide (i ≤ j)) fun i j => !ltS j i
abbrev opGt := opCmpI (fun i j => decide (j < i)) fun i j => ltS j i
abbrev opGe := opCmpI (fun i j => decide (j ≤ i)) fun i j => !ltS i j
/-- flat data -/
@[simp] def flatD : D → Bool
  | .none | .bool _ | .int _ | .str _ => true
  | _ => false
theorem flat_of {K : PySem.W.Frag} {H : Hp} {v : V} {d : D} (h : Dp K H v d) (f : flatD d = true) : flatV v = true := by
  cases h <;> first | rfl | cases f
theorem eqV_of {K : PySem.W.Frag} {H : Hp} {v w : V} {d e : D} (h : Dp K H v d) (h' : Dp K H w e) (f : flatD d = true) (f' : flatD e = true) : eqV v w = PyData.eqv d e := by
  cases h <;> (first | cases f; done | skip) <;> cases h' <;> first | rfl | (cases f'; done)
/-- no bool beside an int -/
@[simp] def unmixed : D → D → Bool
  | .bool _, .int _ => false
  | .int _, .bool _ => false
  | _, _ => true
theorem scal_of {K : PySem.W.Frag} {H : Hp} {v w : V} {d e : D} (h : Dp K H v d) (h' : Dp K H w e) (f : flatD d = true) (f' : flatD e = true) (u : unmixed d e = true) : scal v w = true ∧ decide (v = w) = PyData.eqv d e := by
  cases h <;> (first | cases f; done | skip) <;> cases h' <;> (first | cases f'; done | skip) <;> (first | cases u; done | skip) <;> refine ⟨rfl, ?_⟩ <;> simp [PyData.eqv] <;> rfl
/-- data of small depth without dicts -/
def dpt : Nat → D → Bool
  | _, .none => true
  | _, .bool _ => true
  | _, .int _ => true
  | _, .str _ => true
  | n + 1, .list xs => xs.all (dpt n)
  | n + 1, .tuple xs => xs.all (dpt n)
  | _, _ => false
@[simp] theorem dpt_n {n : Nat} : dpt n .none = true := by cases n <;> simp [dpt]
@[simp] theorem dpt_b {n : Nat} {b : Bool} : dpt n (.bool b) = true := by cases n <;> simp [dpt]
@[simp] theorem dpt_i {n : Nat} {b : Int} : dpt n (.int b) = true := by cases n <;> simp [dpt]
@[simp] theorem dpt_s {n : Nat} {b : Str} : dpt n (.str b) = true := by cases n <;> simp [dpt]
@[simp] theorem dpt_l {n : Nat} {xs : List D} : dpt (n + 1) (.list xs) = xs.all (dpt n) := by simp [dpt]
@[simp] theorem dpt_t {n : Nat} {xs : List D} : dpt (n + 1) (.tuple xs) = xs.all (dpt n) := by simp [dpt]
theorem dpt_mono : ∀ {n : Nat} {d : D}, dpt n d = true → dpt (n + 1) d = true
  | n, .none, _ => by simp
  | n, .bool _, _ => by simp
  | n, .int _, _ => by simp
  | n, .str _, _ => by simp
  | 0, .list _, h => by simp [dpt] at h
  | 0, .tuple _, h => by simp [dpt] at h
  | 0, .dict _, h => by simp [dpt] at h
  | n + 1, .dict _, h => by simp [dpt] at h
  | n + 1, .list xs, h => by
    rw [dpt_l, List.all_eq_true] at h ⊢
    exact fun x m => dpt_mono (h x m)
  | n + 1, .tuple xs, h => by
    rw [dpt_t, List.all_eq_true] at h ⊢
    exact fun x m => dpt_mono (h x m)
theorem plainAll_of : ∀ {xs : List D}, (∀ x ∈ xs, x.plain = true) → PyData.plainAll xs = true
  | [], _ => by rw [PyData.plainAll]
  | x :: xs, h => by rw [PyData.plainAll, h x List.mem_cons_self, plainAll_of fun y m => h y (List.mem_cons_of_mem _ m)]; rfl
theorem depthAll_of {n : Nat} : ∀ {xs : List D}, (∀ x ∈ xs, x.depth ≤ n) → PyData.depthAll xs ≤ n
  | [], _ => by simp [PyData.depthAll]
  | x :: xs, h => by
    have h1 := h x List.mem_cons_self
    have h2 := depthAll_of fun y m => h y (List.mem_cons_of_mem _ m)
    rw [PyData.depthAll]
    omega
theorem dpt_ok : ∀ {n : Nat} {d : D}, dpt n d = true → d.plain = true ∧ d.depth ≤ n + 1
  | n, .none, _ => by simp [PyData.plain, PyData.depth]
  | n, .bool _, _ => by simp [PyData.plain, PyData.depth]
  | n, .int _, _ => by simp [PyData.plain, PyData.depth]
  | n, .str _, _ => by simp [PyData.plain, PyData.depth]
  | 0, .list _, h => by simp [dpt] at h
  | 0, .tuple _, h => by simp [dpt] at h
  | 0, .dict _, h => by simp [dpt] at h
  | n + 1, .dict _, h => by simp [dpt] at h
  | n + 1, .list xs, h => by
    rw [dpt_l, List.all_eq_true] at h
    have h1 := plainAll_of fun x m => (dpt_ok (h x m)).1
    have h2 := depthAll_of fun x m => (dpt_ok (h x m)).2
    simp [PyData.plain, PyData.depth]
    exact ⟨h1, by omega⟩
  | n + 1, .tuple xs, h => by
    rw [dpt_t, List.all_eq_true] at h
    have h1 := plainAll_of fun x m => (dpt_ok (h x m)).1
    have h2 := depthAll_of fun x m => (dpt_ok (h x m)).2
    simp [PyData.plain, PyData.depth]
    exact ⟨h1, by omega⟩
@[simp] def eqOk (d e : D) : Bool := dpt 40 d && dpt 40 e
@[simp] def opEq (x y : Sv) : Option Sv := (datC x).bind fun d => (datC y).bind fun e => if eqOk d e = true then some (.dat (.bool (PyData.eqv d e))) else none
@[simp] def opNe (x y : Sv) : Option Sv := (datC x).bind fun d => (datC y).bind fun e => if eqOk d e = true then some (.dat (.bool (!PyData.eqv d e))) else none
def rEqP (K : PySem.W.Frag) : R2 := fun x y H Q => ∃ d e, Dp K H x d ∧ Dp K H y e ∧ dpt 40 d = true ∧ dpt 40 e = true ∧ Q (.bl (PyData.eqv d e)) H
def rNeP (K : PySem.W.Frag) : R2 := fun x y H Q => ∃ d e, Dp K H x d ∧ Dp K H y e ∧ dpt 40 d = true ∧ dpt 40 e = true ∧ Q (.bl (!PyData.eqv d e)) H
theorem ok_eq {K : PySem.W.Frag} : R2Ok K (rEqP K) opEq := by
  intro H P v w x y s Q B1 B2 hl r1 r2 h hq
  unfold opEq at h
  obtain ⟨d, h1, h⟩ := Option.bind_eq_some_iff.mp h
  obtain ⟨e, h2, h⟩ := Option.bind_eq_some_iff.mp h
  split at h
  · rename_i ok
    cases h
    unfold eqOk at ok
    rw [Bool.and_eq_true] at ok
    exact ⟨d, e, (datC_ok r1 h1).1, (datC_ok r2 h2).1, ok.1, ok.2, hq _ _ _ .bl⟩
  · cases h
theorem ok_ne {K : PySem.W.Frag} : R2Ok K (rNeP K) opNe := by
  intro H P v w x y s Q B1 B2 hl r1 r2 h hq
  unfold opNe at h
  obtain ⟨d, h1, h⟩ := Option.bind_eq_some_iff.mp h
  obtain ⟨e, h2, h⟩ := Option.bind_eq_some_iff.mp h
  split at h
  · rename_i ok
    cases h
    unfold eqOk at ok
    rw [Bool.and_eq_true] at ok
    exact ⟨d, e, (datC_ok r1 h1).1, (datC_ok r2 h2).1, ok.1, ok.2, hq _ _ _ .bl⟩
  · cases h
theorem op_eqA {X : Cx} (hu : X.A.units + 64 < cLine) : OpR X (compareOp .Eq) (rEqP X.K) := by
  intro pins s σ H x y v u Q I rx ry h
  obtain ⟨d, e, hd, he, sd, se, q⟩ := h
  obtain ⟨as, r1⟩ := Dp.reads I d x v hd rx
  obtain ⟨bs, r2⟩ := Dp.reads I e y u he ry
  have k := (dpt_ok sd).2
  exact SeqAt.eq_plain r1 r2 (dpt_ok sd).1 (dpt_ok se).1 (by omega) ⟨.bl _, H, I, rfl, q⟩
theorem op_neA {X : Cx} (hu : X.A.units + 64 < cLine) : OpR X (compareOp .NotEq) (rNeP X.K) := by
  intro pins s σ H x y v u Q I rx ry h
  obtain ⟨d, e, hd, he, sd, se, q⟩ := h
  obtain ⟨as, r1⟩ := Dp.reads I d x v hd rx
  obtain ⟨bs, r2⟩ := Dp.reads I e y u he ry
  have k := (dpt_ok sd).2
  exact SeqAt.ne_plain r1 r2 (dpt_ok sd).1 (dpt_ok se).1 (by omega) ⟨.bl _, H, I, rfl, q⟩
/-- is None, is not None -/
@[simp] def isN : D → Bool
  | .none => true
  | _ => false
@[simp] def opIsN (b : Bool) (x : Sv) : Option Sv := match x with
  | .dat d => some (.dat (.bool (isN d == b)))
  | _ => some (.dat (.bool (!b)))
theorem isN_of {K : PySem.W.Frag} {H : Hp} {v : V} {d : D} (h : Dp K H v d) : decide (v = .non) = isN d := by cases h <;> simp [isN]
theorem decide_isN {K : PySem.W.Frag} {R H : Hp} {v : V} {s : Sv} {B : List Addr} (r : RSv K R H v s B) (b : Bool) : opIsN b s = some (.dat (.bool (decide (v = .non) == b))) := by
  cases r with
  | dat h => rw [isN_of h]; rfl
  | own w => cases b <;> rfl
  | fro h => cases b <;> rfl
theorem isN_pc {X : Cx} {a : Expr} {p' : Pos} {j : Nat} {f} (h : SO X a f) : ∃ t, PC X .Is a (.Constant .none j p') t ∧ SEt X.K t (eOp1 (opIsN true) f) := by
  obtain ⟨ta, pa, hs⟩ := se_tUn (X := X) (r := fun x H Q => Q (.bl (decide (x = .non))) H) (op := opIsN true) h (by
    intro H P v x s Q B1 hl r1 h hq
    rw [decide_isN r1] at h
    cases h
    have := hq _ _ _ (New.bl (K := X.K) (P := P) (H := H) (i := decide (v = V.non) == true))
    simpa using this)
  exact ⟨_, pc_isN pa, hs⟩
theorem notN_pc {X : Cx} {a : Expr} {p' : Pos} {j : Nat} {f} (h : SO X a f) : ∃ t, PC X .IsNot a (.Constant .none j p') t ∧ SEt X.K t (eOp1 (opIsN false) f) := by
  obtain ⟨ta, pa, hs⟩ := se_tUn (X := X) (r := fun x H Q => Q (.bl (!decide (x = .non))) H) (op := opIsN false) h (by
    intro H P v x s Q B1 hl r1 h hq
    rw [decide_isN r1] at h
    cases h
    have := hq _ _ _ (New.bl (K := X.K) (P := P) (H := H) (i := decide (v = V.non) == false))
    have e : (decide (v = V.non) == false) = !decide (v = V.non) := by cases decide (v = V.non) <;> rfl
    rw [e] at this
    exact this)
  exact ⟨_, pc_notN pa, hs⟩
theorem st_isN {X : Cx} {a : Expr} {pos p' : Pos} {j : Nat} {f} (h : SO X a f) : SE X (.Compare a [.Is] [.Constant .none j p'] pos) (eOp1 (opIsN true) f) := let ⟨_, p, hs⟩ := isN_pc h; ⟨_, pe_cmp p (nomark _), hs⟩
theorem st_notN {X : Cx} {a : Expr} {pos p' : Pos} {j : Nat} {f} (h : SO X a f) : SE X (.Compare a [.IsNot] [.Constant .none j p'] pos) (eOp1 (opIsN false) f) := let ⟨_, p, hs⟩ := notN_pc h; ⟨_, pe_cmp p (nomark _), hs⟩
theorem st_tN {X : Cx} {a : Expr} {pos p' : Pos} {j : Nat} {f} (h : SO X a f) : ST X (.Compare a [.Is] [.Constant .none j p'] pos) (tB (eOp1 (opIsN true) f)) := let ⟨_, p, hs⟩ := isN_pc h; ⟨_, pt_cmp p (nomark _), fun σ ρ A H Q b ρ' S hf hq => tB_run hs σ ρ A H Q b ρ' S hf hq⟩
theorem st_tNn {X : Cx} {a : Expr} {pos p' : Pos} {j : Nat} {f} (h : SO X a f) : ST X (.Compare a [.IsNot] [.Constant .none j p'] pos) (tB (eOp1 (opIsN false) f)) := let ⟨_, p, hs⟩ := notN_pc h; ⟨_, pt_cmp p (nomark _), fun σ ρ A H Q b ρ' S hf hq => tB_run hs σ ρ A H Q b ρ' S hf hq⟩
theorem tst {X : Cx} {a b : Expr} {o : CmpOp} {pos : Pos} {f} (h : SE X (.Compare a [o] [b] pos) f) : True := trivial
end DL
namespace DL
open PySem PySem.Spec PyProof.Rows L2
open Classical (propDecidable)

/-! ### the canonical reading -/
def tOfE (K : PySem.W.Frag) (f : Ev → Option (Sv × Ev)) : TE := fun σ H Q => ∃ ρ A s ρ', Stt K H [] σ ρ A ∧ f ρ = some (s, ρ') ∧ ∀ v H' A' B, PostE K H A σ ρ' s v H' A' B → Q v H'
theorem SE.can {X : Cx} {e : Expr} {f} (h : SE X e f) : PE X e (tOfE X.K f) := by
  obtain ⟨t, p, hs⟩ := h
  exact ⟨fun pins s σ H Q I ⟨ρ, A, sv, ρ', S, hf, hq⟩ => p.run pins s σ H Q I (hs σ ρ A H Q sv ρ' S hf hq)⟩
def tOfT (K : PySem.W.Frag) (f : Ev → Option (Bool × Ev)) : TT := fun σ H Q => ∃ ρ A b ρ', Stt K H [] σ ρ A ∧ f ρ = some (b, ρ') ∧ ∀ H' A', Stt K H' [] σ ρ' A' → Gr H A H' [] A' → Q b H'
theorem ST.can {X : Cx} {e : Expr} {f} (h : ST X e f) : PT X e (tOfT X.K f) := by
  obtain ⟨t, p, hs⟩ := h
  exact ⟨fun pins s σ H Q I ⟨ρ, A, sv, ρ', S, hf, hq⟩ => p.run pins s σ H Q I (hs σ ρ A H Q sv ρ' S hf hq)⟩
def tOfG (K : PySem.W.Frag) (io : List Nat) (g : D → Ev → Option Ev) : TG := fun x σ H Q => ∃ ρ A d ρ', Stt K H [] σ ρ A ∧ Dp K (wo H (OwB [] A)) x d ∧ g d ρ = some ρ' ∧ ∀ σ' H' A', Stp K io H A σ σ' ρ' H' A' → Q σ' H'
theorem SG.can {X : Cx} {io : List Nat} {e : Expr} {g} (h : SG io X e g) : PG X e (tOfG X.K io g) := by
  obtain ⟨t, p, hs⟩ := h
  exact ⟨fun pins s σ H v u Q I r ⟨ρ, A, d, ρ', S, hd, hg, hq⟩ => p.run pins s σ H v u Q I r (hs σ ρ A H v d Q ρ' S hd hg hq)⟩
/-- the tests of a clause: none, or one -/
def STs (X : Cx) (ifs : List Expr) (f : Ev → Option (Bool × Ev)) : Prop := PTs X ifs (tOfT X.K f)
def tY : Ev → Option (Bool × Ev) := fun ρ => some (true, ρ)
theorem sts_nil {X : Cx} : STs X [] tY := ⟨fun pins s σ H Q I ⟨ρ, A, b, ρ', S, hf, hq⟩ => by
  cases hf
  exact pts_nil.run pins s σ H Q I (hq H A S .refl)⟩
theorem sts_one {X : Cx} {c : Expr} {f} (h : ST X c f) : STs X [c] f := pts_one h.can

/-! ### slots wiped and laid back -/
def wipeE (ρ : Ev) : List Nat → Ev
  | [] => ρ
  | v :: vs => (wipeE ρ vs).set v none
theorem wipeE_len {ρ : Ev} : ∀ {vs : List Nat}, (wipeE ρ vs).length = ρ.length
  | [] => rfl
  | v :: vs => by unfold wipeE; rw [List.length_set, wipeE_len]
theorem wipeE_out {ρ : Ev} {i : Nat} : ∀ {vs : List Nat}, i ∉ vs → (wipeE ρ vs)[i]? = ρ[i]?
  | [], _ => rfl
  | v :: vs, h => by
    have h1 : v ≠ i := fun e => h (by rw [e]; exact List.mem_cons_self)
    unfold wipeE
    rw [List.getElem?_set_ne h1]
    exact wipeE_out fun m => h (List.mem_cons_of_mem _ m)
theorem wipeE_in {ρ : Ev} {i : Nat} {s : Sv} : ∀ {vs : List Nat}, i ∈ vs → ¬ Got (wipeE ρ vs) i s
  | v :: vs, h, g => by
    unfold Got wipeE at g
    by_cases e : v = i
    · subst e
      rw [List.getElem?_set] at g
      simp at g
    · rw [List.getElem?_set_ne e] at g
      rcases List.mem_cons.mp h with q | q
      · exact e q.symm
      · exact wipeE_in q g
def wipeA (A : AS) (vs : List Nat) : AS := ⟨fun i => if vs.contains i = true then [] else A.f i, fun a => A.Z a ∨ ∃ i ∈ vs, a ∈ A.f i⟩
theorem wipeA_out {A : AS} {vs : List Nat} {i : Nat} (h : i ∉ vs) : (wipeA A vs).f i = A.f i := if_neg fun z => h (List.contains_iff_mem.mp z)
theorem wipeA_in {A : AS} {vs : List Nat} {i : Nat} (h : i ∈ vs) : (wipeA A vs).f i = [] := if_pos (List.contains_iff_mem.mpr h)
theorem wipeA_owB {A : AS} {vs : List Nat} : OwB [] (wipeA A vs) = OwB [] A := by
  funext a
  refine propext ⟨fun z => ?_, fun z => ?_⟩
  · rcases z with z | z | ⟨i, z⟩
    · rcases z with z | ⟨m, _, z⟩
      · exact .inl z
      · exact .inr (.inr ⟨m, z⟩)
    · cases z
    · by_cases h : i ∈ vs
      · rw [wipeA_in h] at z; cases z
      · rw [wipeA_out h] at z; exact .inr (.inr ⟨i, z⟩)
  · rcases z with z | z | ⟨i, z⟩
    · exact .inl (.inl z)
    · cases z
    · by_cases h : i ∈ vs
      · exact .inl (.inr ⟨i, h, z⟩)
      · exact .inr (.inr ⟨i, by rw [wipeA_out h]; exact z⟩)
theorem Stt.wipe {K : PySem.W.Frag} {H : Hp} {σ : L2.St} {ρ : Ev} {A : AS} (S : Stt K H [] σ ρ A) (vs : List Nat) : Stt K H [] (L2.wipe σ vs) (wipeE ρ vs) (wipeA A vs) := by
  refine ⟨by rw [wipeE_len, wipe_length, S.len], fun i s g => ?_, fun i h => ?_, fun i j a h1 h2 => ?_, fun a z => ⟨fun ⟨i, h⟩ => ?_, fun z => nomatch z⟩, fun a z => ?_, fun a z => nomatch z⟩
  · have hi : i ∉ vs := fun h => wipeE_in h g
    unfold Got at g
    rw [wipeE_out hi] at g
    rw [wipe_out hi, wipeA_owB, wipeA_out hi]
    exact S.got i s g
  · by_cases hi : i ∈ vs
    · exact wipeA_in hi
    · rw [wipeA_out hi]
      exact S.emp i fun s g => h s (by unfold Got; rw [wipeE_out hi]; exact g)
  · by_cases hi : i ∈ vs
    · rw [wipeA_in hi] at h1; cases h1
    · rw [wipeA_out hi] at h1
      by_cases hj : j ∈ vs
      · rw [wipeA_in hj] at h2; cases h2
      · rw [wipeA_out hj] at h2; exact S.dj i j a h1 h2
  · by_cases hi : i ∈ vs
    · rw [wipeA_in hi] at h; cases h
    · rw [wipeA_out hi] at h
      rcases z with z | ⟨m, hm, z⟩
      · exact (S.zd a z).1 ⟨i, h⟩
      · have := S.dj i m a h z; subst this; exact hi hm
  · rcases z with z | ⟨m, hm, z⟩
    · exact S.zl a z
    · exact S.live a ⟨m, z⟩
def backE (ρ1 ρ : Ev) : List Nat → Ev
  | [] => ρ
  | v :: vs => match ρ1[v]? with
    | some o => (backE ρ1 ρ vs).set v o
    | none => backE ρ1 ρ vs
theorem backE_len {ρ1 ρ : Ev} : ∀ {vs : List Nat}, (backE ρ1 ρ vs).length = ρ.length
  | [] => rfl
  | v :: vs => by
    unfold backE
    split
    · rw [List.length_set, backE_len]
    · exact backE_len
theorem backE_out {ρ1 ρ : Ev} {i : Nat} : ∀ {vs : List Nat}, i ∉ vs → (backE ρ1 ρ vs)[i]? = ρ[i]?
  | [], _ => rfl
  | v :: vs, h => by
    have h1 : v ≠ i := fun e => h (by rw [e]; exact List.mem_cons_self)
    have h2 : i ∉ vs := fun m => h (List.mem_cons_of_mem _ m)
    unfold backE
    split
    · rw [List.getElem?_set_ne h1]; exact backE_out h2
    · exact backE_out h2
theorem backE_in {ρ1 ρ : Ev} (hl : ρ.length = ρ1.length) {i : Nat} : ∀ {vs : List Nat}, i ∈ vs → (backE ρ1 ρ vs)[i]? = ρ1[i]?
  | v :: vs, h => by
    unfold backE
    by_cases e : v = i
    · subst e
      split
      · rename_i o e0
        have hv : v < (backE ρ1 ρ vs).length := by rw [backE_len, hl]; exact (List.getElem?_eq_some_iff.mp e0).1
        rw [List.getElem?_set_self hv, e0]
      · rename_i e0
        rw [e0]
        exact List.getElem?_eq_none (by rw [backE_len, hl]; exact List.getElem?_eq_none_iff.mp e0)
    · have q : i ∈ vs := (List.mem_cons.mp h).resolve_left fun z => e z.symm
      split
      · rw [List.getElem?_set_ne e]; exact backE_in hl q
      · exact backE_in hl q
def mixA (A1 A : AS) (vs : List Nat) : AS := ⟨fun i => if vs.contains i = true then A1.f i else A.f i, A1.Z⟩
theorem mixA_out {A1 A : AS} {vs : List Nat} {i : Nat} (h : i ∉ vs) : (mixA A1 A vs).f i = A.f i := if_neg fun z => h (List.contains_iff_mem.mp z)
theorem mixA_in {A1 A : AS} {vs : List Nat} {i : Nat} (h : i ∈ vs) : (mixA A1 A vs).f i = A1.f i := if_pos (List.contains_iff_mem.mpr h)
/-- behind the block the def's own names are as they were -/
theorem Stt.back {K : PySem.W.Frag} {H1 H : Hp} {σ : L2.St} {ρ1 ρ : Ev} {A1 A : AS} {vs : List Nat} {B : List Addr} (S1 : Stt K H1 [] σ ρ1 A1) (S : Stt K H B (L2.wipe σ vs) ρ A) (g : Gr H1 (wipeA A1 vs) H B A) :
    Stt K H B σ (backE ρ1 ρ vs) (mixA A1 A vs) ∧ Gr H1 A1 H B (mixA A1 A vs) ∧ Same (wo H (OwB B A)) (wo H (OwB B (mixA A1 A vs))) := by
  have zsub : ∀ {a : Addr}, A1.Z a → A.Z a := fun {a} z => by rw [g.z]; exact .inl z
  have vsub : ∀ {a : Addr} {i : Nat}, i ∈ vs → a ∈ A1.f i → A.Z a := fun {a i} hi z => by rw [g.z]; exact .inr ⟨i, hi, z⟩
  have le : ∀ a, OwB B (mixA A1 A vs) a → OwB B A a := fun a z => by
    rcases z with z | z | ⟨i, z⟩
    · exact .inl (zsub z)
    · exact .inr (.inl z)
    · by_cases hi : i ∈ vs
      · rw [mixA_in hi] at z; exact .inl (vsub hi z)
      · rw [mixA_out hi] at z; exact .inr (.inr ⟨i, z⟩)
  have sm := wo_less (H := H) le
  have gs : Same (wo H1 (OwB [] A1)) (wo H (OwB B (mixA A1 A vs))) := fun a o z => sm a o (g.s a o (by rw [wipeA_owB]; exact z))
  have hl : ρ.length = ρ1.length := by rw [S.len, wipe_length, S1.len]
  refine ⟨⟨by rw [backE_len, hl, S1.len], fun i s gt => ?_, fun i h => ?_, fun i j a h1 h2 => ?_, fun a z => ⟨fun ⟨i, h⟩ => ?_, (S.zd a (zsub z)).2⟩, fun a z => S.zl a (zsub z), fun a hb ⟨i, h⟩ => ?_⟩, ⟨gs, rfl, fun a z u e => g.k a (.inl z) u e⟩, sm⟩
  · by_cases hi : i ∈ vs
    · unfold Got at gt
      rw [backE_in hl hi] at gt
      obtain ⟨v, e1, r⟩ := S1.got i s gt
      rw [mixA_in hi]
      exact ⟨v, e1, r.mono gs fun a ha u e => g.k a (.inr ⟨i, hi, ha⟩) u e⟩
    · unfold Got at gt
      rw [backE_out hi] at gt
      obtain ⟨v, e1, r⟩ := S.got i s gt
      rw [wipe_out hi] at e1
      rw [mixA_out hi]
      exact ⟨v, e1, r.mono sm fun _ _ _ z => z⟩
  · by_cases hi : i ∈ vs
    · rw [mixA_in hi]
      exact S1.emp i fun s gt => h s (by unfold Got; rw [backE_in hl hi]; exact gt)
    · rw [mixA_out hi]
      exact S.emp i fun s gt => h s (by unfold Got; rw [backE_out hi]; exact gt)
  · by_cases hi : i ∈ vs
    · rw [mixA_in hi] at h1
      by_cases hj : j ∈ vs
      · rw [mixA_in hj] at h2; exact S1.dj i j a h1 h2
      · rw [mixA_out hj] at h2; exact absurd ⟨j, h2⟩ (S.zd a (vsub hi h1)).1
    · rw [mixA_out hi] at h1
      by_cases hj : j ∈ vs
      · rw [mixA_in hj] at h2; exact absurd ⟨i, h1⟩ (S.zd a (vsub hj h2)).1
      · rw [mixA_out hj] at h2; exact S.dj i j a h1 h2
  · by_cases hi : i ∈ vs
    · rw [mixA_in hi] at h; exact (S1.zd a z).1 ⟨i, h⟩
    · rw [mixA_out hi] at h; exact (S.zd a (zsub z)).1 ⟨i, h⟩
  · by_cases hi : i ∈ vs
    · rw [mixA_in hi] at h; exact (S.zd a (vsub hi h)).2 hb
    · rw [mixA_out hi] at h; exact S.fr a hb ⟨i, h⟩
/-- what is held for the moment is put beyond reach, and taken back -/
def shut (A : AS) (B : List Addr) : AS := ⟨A.f, fun a => A.Z a ∨ a ∈ B⟩
def unshut (A : AS) (Z : Addr → Prop) : AS := ⟨A.f, Z⟩
theorem shut_owB {A : AS} {B : List Addr} : OwB [] (shut A B) = OwB B A := by
  funext a
  refine propext ⟨fun z => ?_, fun z => ?_⟩
  · rcases z with (z | z) | z | z
    · exact .inl z
    · exact .inr (.inl z)
    · cases z
    · exact .inr (.inr z)
  · rcases z with z | z | z
    · exact .inl (.inl z)
    · exact .inl (.inr z)
    · exact .inr (.inr z)
theorem Stt.shut {K : PySem.W.Frag} {H : Hp} {B : List Addr} {σ : L2.St} {ρ : Ev} {A : AS} (S : Stt K H B σ ρ A) (hb : ∀ a ∈ B, ∃ u, H a = some u) : Stt K H [] σ ρ (DL.shut A B) := by
  refine ⟨S.len, fun i s g => ?_, S.emp, S.dj, fun a z => ⟨fun h => ?_, fun z => nomatch z⟩, fun a z => z.elim (S.zl a) (hb a), fun a z => nomatch z⟩
  · rw [shut_owB]; exact S.got i s g
  · exact z.elim (fun z => (S.zd a z).1 h) fun z => S.fr a z h
theorem Stt.unshut {K : PySem.W.Frag} {H H' : Hp} {B : List Addr} {σ : L2.St} {ρ : Ev} {A A' : AS} (S : Stt K H B σ ρ A) {σ' : L2.St} {ρ' : Ev} (S' : Stt K H' [] σ' ρ' A') (g : Gr H (DL.shut A B) H' [] A') :
    Stt K H' B σ' ρ' (DL.unshut A' A.Z) ∧ Gr H (DL.shut A B) H' B (DL.unshut A' (DL.shut A B).Z) ∧ OwB B (DL.unshut A' A.Z) = OwB [] A' := by
  have eo : OwB B (DL.unshut A' A.Z) = OwB [] A' := by
    funext a
    refine propext ⟨fun z => ?_, fun z => ?_⟩
    · rcases z with z | z | z
      · exact .inl (by rw [g.z]; exact .inl z)
      · exact .inl (by rw [g.z]; exact .inr z)
      · exact .inr (.inr z)
    · rcases z with z | z | z
      · rw [g.z] at z; exact z.elim .inl fun z => .inr (.inl z)
      · cases z
      · exact .inr (.inr z)
  have hz : ∀ {a : Addr}, A.Z a → A'.Z a := fun {a} z => by rw [g.z]; exact .inl z
  have hb : ∀ {a : Addr}, a ∈ B → A'.Z a := fun {a} z => by rw [g.z]; exact .inr z
  refine ⟨⟨S'.len, fun i s gt => by rw [eo]; exact S'.got i s gt, S'.emp, S'.dj, fun a z => ⟨(S'.zd a (hz z)).1, (S.zd a z).2⟩, fun a z => S'.zl a (hz z), fun a z => (S'.zd a (hb z)).1⟩, ?_, eo⟩
  have e2 : OwB B (DL.unshut A' (DL.shut A B).Z) = OwB [] A' := by
    funext a
    refine propext ⟨fun z => ?_, fun z => ?_⟩
    · rcases z with z | z | z
      · exact .inl (by rw [g.z]; exact z)
      · exact .inl (hb z)
      · exact .inr (.inr z)
    · rcases z with z | z | z
      · rw [g.z] at z; exact .inl z
      · cases z
      · exact .inr (.inr z)
  exact ⟨by rw [e2]; exact g.s, rfl, g.k⟩

/-! ### [e for x in xs if t] -/
def lcL (g : D → Ev → Option Ev) (t : Ev → Option (Bool × Ev)) (e : Ev → Option (Sv × Ev)) (vs : List Nat) : List D → Ev → Option (List D × Ev)
  | [], ρ => some ([], ρ)
  | x :: xs, ρ => (g x ρ).bind fun ρ1 => (t ρ1).bind fun p => if p.1 = true then
      (e p.2).bind fun q => match frz q.1 with
        | .dat d => (lcL g t e vs xs (wipeE q.2 vs)).map fun r => (d :: r.1, r.2)
        | _ => none
    else lcL g t e vs xs (wipeE p.2 vs)
def eLc (it : Ev → Option (List D × Ev)) (g : D → Ev → Option Ev) (t : Ev → Option (Bool × Ev)) (e : Ev → Option (Sv × Ev)) (vs : List Nat) : Ev → Option (Sv × Ev) := fun ρ =>
  (it ρ).bind fun p => if p.1.length ≤ 1000000 then (lcL g t e vs p.1 (wipeE p.2 vs)).map fun r => (.own (.lst r.1), backE p.2 r.2 vs) else none
theorem wipe_same {σ σ' : L2.St} {vs io : List Nat} (hl : σ'.length = σ.length) (hio : ∀ i, i < σ.length → i ∉ vs → i ∈ io) (h : ∀ i ∈ io, σ'[i]? = σ[i]?) : L2.wipe σ' vs = L2.wipe σ vs := by
  apply List.ext_getElem?
  intro i
  by_cases hv : i ∈ vs
  · have n : ∀ (τ : L2.St) (ws : List Nat), i ∈ ws → i < τ.length → (L2.wipe τ ws)[i]? = some none := by
      intro τ ws
      induction ws with
      | nil => intro z; cases z
      | cons w ws ih =>
        intro hw hi
        unfold L2.wipe
        by_cases e : w = i
        · subst e; rw [List.getElem?_set_self (by rw [wipe_length]; exact hi)]
        · rw [List.getElem?_set_ne e]
          exact ih ((List.mem_cons.mp hw).resolve_left fun z => e z.symm) hi
    by_cases hi : i < σ.length
    · rw [n σ' vs hv (by omega), n σ vs hv hi]
    · rw [List.getElem?_eq_none (by rw [wipe_length]; omega), List.getElem?_eq_none (by rw [wipe_length]; omega)]
  · rw [wipe_out hv, wipe_out hv]
    by_cases hi : i < σ.length
    · exact h i (hio i hi hv)
    · rw [List.getElem?_eq_none (by omega), List.getElem?_eq_none (by omega)]

/-- slots forgotten, what they own let go -/
def dropA (A : AS) (vs : List Nat) : AS := ⟨fun i => if vs.contains i = true then [] else A.f i, A.Z⟩
theorem dropA_out {A : AS} {vs : List Nat} {i : Nat} (h : i ∉ vs) : (dropA A vs).f i = A.f i := if_neg fun z => h (List.contains_iff_mem.mp z)
theorem dropA_in {A : AS} {vs : List Nat} {i : Nat} (h : i ∈ vs) : (dropA A vs).f i = [] := if_pos (List.contains_iff_mem.mpr h)
theorem dropA_ow {A : AS} {vs : List Nat} : ∀ a, Ow (dropA A vs) a → Ow A a := fun a ⟨i, z⟩ => by
  by_cases h : i ∈ vs
  · rw [dropA_in h] at z; cases z
  · rw [dropA_out h] at z; exact ⟨i, z⟩
theorem dropA_owB {A : AS} {vs : List Nat} {B : List Addr} : ∀ a, OwB B (dropA A vs) a → OwB B A a := fun a z => z.imp id fun z => z.imp id (dropA_ow a)
theorem Stt.forget {K : PySem.W.Frag} {H : Hp} {B : List Addr} {σ : L2.St} {ρ : Ev} {A : AS} (S : Stt K H B σ ρ A) (vs : List Nat) : Stt K H B (L2.wipe σ vs) (wipeE ρ vs) (dropA A vs) := by
  refine ⟨by rw [wipeE_len, wipe_length, S.len], fun i s g => ?_, fun i h => ?_, fun i j a h1 h2 => ?_, fun a z => ⟨fun h => (S.zd a z).1 (dropA_ow a h), (S.zd a z).2⟩, S.zl, fun a z h => S.fr a z (dropA_ow a h)⟩
  · have hi : i ∉ vs := fun h => wipeE_in h g
    unfold Got at g
    rw [wipeE_out hi] at g
    rw [wipe_out hi, dropA_out hi]
    obtain ⟨v, e, r⟩ := S.got i s g
    exact ⟨v, e, r.mono (wo_less dropA_owB) fun _ _ _ z => z⟩
  · by_cases hi : i ∈ vs
    · exact dropA_in hi
    · rw [dropA_out hi]
      exact S.emp i fun s g => h s (by unfold Got; rw [wipeE_out hi]; exact g)
  · by_cases hi : i ∈ vs
    · rw [dropA_in hi] at h1; cases h1
    · rw [dropA_out hi] at h1
      by_cases hj : j ∈ vs
      · rw [dropA_in hj] at h2; cases h2
      · rw [dropA_out hj] at h2; exact S.dj i j a h1 h2
section
variable {K : PySem.W.Frag} {H1 H H' H4 : Hp} {D : Addr} {σw σ2 : L2.St} {ρi ρ3 : Ev} {Aw Ai A4 : AS} {vs : List Nat} {accV : List V}
/-- behind a turn of the block -/
theorem turn_end {acc : List DL.D} (Si : Stt K H [D] σw ρi Ai) (gi : Gr H1 Aw H [D] Ai) (eD : H D = some (.lst accV)) (hd : DpAll K (wo H (OwB [D] Ai)) accV acc) (sm : Same H H') (S' : Stt K H' [D] σw ρi Ai)
    (S4 : Stt K H4 [] σ2 ρ3 A4) (g4 : Gr H' (shut Ai [D]) H4 [] A4) :
    Stt K H4 [D] (L2.wipe σ2 vs) (wipeE ρ3 vs) (dropA (unshut A4 Ai.Z) vs) ∧ Gr H1 Aw H4 [D] (dropA (unshut A4 Ai.Z) vs) ∧ H4 D = some (.lst accV) ∧ DpAll K (wo H4 (OwB [D] (dropA (unshut A4 Ai.Z) vs))) accV acc ∧
      Same (wo H4 (OwB [] A4)) (wo H4 (OwB [D] (dropA (unshut A4 Ai.Z) vs))) := by
  obtain ⟨U, _, eo⟩ := S'.unshut S4 g4
  have le : Same (wo H4 (OwB [] A4)) (wo H4 (OwB [D] (dropA (unshut A4 Ai.Z) vs))) := by
    rw [← eo]; exact wo_less dropA_owB
  have s1 : Same (wo H (OwB [D] Ai)) (wo H' (OwB [D] Ai)) := Same.wo2 sm fun a z => .inl z
  have s2 : Same (wo H' (OwB [D] Ai)) (wo H4 (OwB [] A4)) := by have := g4.s; rw [shut_owB] at this; exact this
  have s3 : Same (wo H (OwB [D] Ai)) (wo H4 (OwB [D] (dropA (unshut A4 Ai.Z) vs))) := fun a o z => le a o (s2 a o (s1 a o z))
  refine ⟨U.forget vs, ⟨fun a o z => s3 a o (gi.s a o z), gi.z, fun a z u e => ?_⟩, g4.k D (.inr (by simp)) _ (sm _ _ eD), DpAll.mono s3 hd, le⟩
  exact g4.k a (.inl (by rw [gi.z]; exact z)) u (sm _ _ (gi.k a z u e))
/-- .. and the item put behind the list -/
theorem app_end {acc : List DL.D} {A : AS} {σ : L2.St} {ρ : Ev} {v : V} {d : DL.D} (S : Stt K H4 [D] σ ρ A) (g : Gr H1 Aw H4 [D] A) (hd : DpAll K (wo H4 (OwB [D] A)) accV acc) (hv : Dp K (wo H4 (OwB [D] A)) v d) :
    Stt K (upd H4 D (.lst (accV ++ [v]))) [D] σ ρ A ∧ Gr H1 Aw (upd H4 D (.lst (accV ++ [v]))) [D] A ∧ DpAll K (wo (upd H4 D (.lst (accV ++ [v]))) (OwB [D] A)) (accV ++ [v]) (acc ++ [d]) := by
  have nz : ∀ a, A.Z a → a ≠ D := fun a z e => (S.zd a z).2 (by rw [e]; simp)
  have no : ∀ a, Ow A a → a ≠ D := fun a z e => S.fr a (by rw [e]; simp) z
  have s1 : Same (wo H4 (OwB [D] A)) (wo (upd H4 D (.lst (accV ++ [v]))) (OwB [D] A)) := fun a o z => by
    obtain ⟨n, e⟩ := of_wo z
    refine wo_of n ?_
    rw [upd_ne fun h => n (.inr (.inl (by rw [h]; simp)))]
    exact e
  refine ⟨S.mono s1 (fun a z u e => ?_) fun a z => ⟨S.fr a z, fun h => (S.zd a h).2 z⟩, ⟨fun a o z => s1 a o (g.s a o z), g.z, fun a z u e => ?_⟩, DpAll.append (DpAll.mono s1 hd) (.cons (Dp.mono s1 hv) .nil)⟩
  · rw [upd_ne (z.elim (nz a) (no a))]; exact e
  · rw [upd_ne (nz a (by rw [g.z]; exact z))]; exact g.k a z u e
end
theorem lc_run {K : PySem.W.Frag} {wi : TI} {fi : Ev → Option (List D × Ev)} {fg : D → Ev → Option Ev} {ft : Ev → Option (Bool × Ev)} {fe : Ev → Option (Sv × Ev)} {vs io : List Nat} {n : Nat} (hio : ∀ i, i < n → i ∉ vs → i ∈ io)
    (hi : ∀ (σ : L2.St) (ρ : Ev) (A : AS) (H : Hp) (R : It → Hp → Prop) (xs : List D) (ρ' : Ev), Stt K H [] σ ρ A → fi ρ = some (xs, ρ') → (∀ J H' A', Stt K H' [] σ ρ' A' → Gr H A H' [] A' → ItOk K J (wo H' (OwB [] A')) xs → R J H') → wi σ H R) :
    ∀ (σ : L2.St) (ρ : Ev) (A : AS) (H : Hp) (Q : VK) (s : Sv) (ρ' : Ev), σ.length = n → Stt K H [] σ ρ A → eLc fi fg ft fe vs ρ = some (s, ρ') →
      (∀ v H' A' B, PostE K H A σ ρ' s v H' A' B → Q v H') → tLc wi (tOfG K io fg) (tOfT K ft) (tOfE K fe) vs σ H Q := by
  intro σ ρ A H Q s ρ' hn S hf hq
  unfold eLc at hf
  obtain ⟨⟨xs, ρ1⟩, e1, hf⟩ := Option.bind_eq_some_iff.mp hf
  dsimp only at hf
  split at hf
  · rename_i hlen
    obtain ⟨⟨r, ρn⟩, e2, e3⟩ := Option.map_eq_some_iff.mp hf
    cases e3
    refine hi σ ρ A H _ xs ρ1 S e1 fun J H1 A1 S1 g1 hJ => ?_
    intro Da nD
    have p0 := (New.lst (K := K) (H := H1) (P := OwB [] (wipeA A1 vs)) (vs := []) (xs := []) nD .nil).post (S1.wipe vs) .refl
    refine ⟨fun i m H => m = xs.length - i ∧ ∃ (ρi : Ev) (Ai : AS) (accV : List V) (acc r' : List D), Stt K H [Da] (L2.wipe σ vs) ρi Ai ∧ Gr H1 (wipeA A1 vs) H [Da] Ai ∧ H Da = some (.lst accV) ∧ DpAll K (wo H (OwB [Da] Ai)) accV acc ∧ acc.length ≤ i ∧
      lcL fg ft fe vs (xs.drop i) ρi = some (r', ρn) ∧ acc ++ r' = r, ⟨_, rfl, _, _, [], [], r, p0.st, p0.gr, upd_same, .nil, Nat.le_refl _, e2, rfl⟩, ?_⟩
    rintro i m H2 ⟨rfl, ρi, Ai, accV, acc, r', Si, gi, eD, hd, hle, hl, hr⟩
    have liveP : ∀ a, OwB [Da] Ai a → ∃ u, H2 a = some u := fun a z => by
      rcases z with z | z | z
      · exact Si.zl a z
      · simp at z; subst z; exact ⟨_, eD⟩
      · exact Si.live a z
    have sR : Same (wo H1 (OwB [] A1)) (wo H2 (OwB [Da] Ai)) := by have := gi.s; rw [wipeA_owB] at this; exact this
    obtain ⟨hgo, hstop⟩ := hJ H2 (OwB [Da] Ai) liveP sR i
    cases ed : xs[i]? with
    | none =>
      have hlen' : xs.length ≤ i := List.getElem?_eq_none_iff.mp ed
      refine .inl ⟨hstop hlen', ?_⟩
      rw [List.drop_eq_nil_of_le hlen'] at hl
      cases hl
      rw [List.append_nil] at hr
      subst hr
      obtain ⟨b1, b2, b3⟩ := S1.back Si gi
      exact hq _ H2 _ [Da] ⟨b1, .own ⟨_, eD, DpAll.mono b3 hd⟩, g1.trans b2⟩
    | some d =>
      obtain ⟨go, hy⟩ := hgo d ed
      have hlt : i < xs.length := (List.getElem?_eq_some_iff.mp ed).1
      have hdrop : xs.drop i = d :: xs.drop (i + 1) := by
        rw [List.drop_eq_getElem_cons hlt]
        congr 1
        exact Option.some.inj ((List.getElem?_eq_getElem hlt).symm.trans ed)
      rw [hdrop] at hl
      unfold lcL at hl
      obtain ⟨ρ2, q2, hl⟩ := Option.bind_eq_some_iff.mp hl
      obtain ⟨⟨b, ρ3⟩, q3, hl⟩ := Option.bind_eq_some_iff.mp hl
      refine .inr ⟨go, _, fun H' w => ⟨xs.length - (i + 1), by omega, w⟩, fun x H' yl => ?_⟩
      obtain ⟨sm, dx⟩ := hy x H' yl
      have S' : Stt K H' [Da] (L2.wipe σ vs) ρi Ai := Si.mono (Same.wo2 sm fun a z => .inl z) (fun a _ u z => sm a u z) fun a z => ⟨Si.fr a z, fun h => (Si.zd a h).2 z⟩
      have Ss := S'.shut (fun a z => by simp at z; subst z; exact ⟨_, sm _ _ eD⟩)
      refine ⟨ρi, shut Ai [Da], d, ρ2, Ss, by rw [shut_owB]; exact dx, q2, fun σ2 H3 A3 st => ⟨?_, ρ2, A3, b, ρ3, st.st, q3, fun H4 A4 S4 g4 => ?_⟩⟩
      · have := wipe_same (vs := vs) (io := io) st.ln (fun i hi hv => hio i (by rw [wipe_length] at hi; omega) hv) st.io
        rw [this]
        apply List.ext_getElem?
        intro j
        by_cases hv : j ∈ vs
        · have key : ∀ τ : L2.St, j < τ.length → (L2.wipe τ vs)[j]? = some none := by
            intro τ hj
            cases q : (L2.wipe τ vs)[j]? with
            | none => rw [List.getElem?_eq_none_iff, wipe_length] at q; omega
            | some o => cases o with
              | none => rfl
              | some z => exact absurd hv (wipe_some q).2
          by_cases hj : j < σ.length
          · rw [key _ (by rw [wipe_length]; exact hj), key _ hj]
          · rw [List.getElem?_eq_none (by rw [wipe_length, wipe_length]; omega), List.getElem?_eq_none (by rw [wipe_length]; omega)]
        · rw [wipe_out hv]
      · have g24 : Gr H' (shut Ai [Da]) H4 [] A4 := st.gr.trans g4
        have hw : L2.wipe σ2 vs = L2.wipe σ vs := by
          have := wipe_same (vs := vs) (io := io) st.ln (fun i hi hv => hio i (by rw [wipe_length] at hi; omega) hv) st.io
          rw [this]
          apply List.ext_getElem?
          intro j
          by_cases hv : j ∈ vs
          · have key : ∀ τ : L2.St, j < τ.length → (L2.wipe τ vs)[j]? = some none := by
              intro τ hj
              cases q : (L2.wipe τ vs)[j]? with
              | none => rw [List.getElem?_eq_none_iff, wipe_length] at q; omega
              | some o => cases o with
                | none => rfl
                | some z => exact absurd hv (wipe_some q).2
            by_cases hj : j < σ.length
            · rw [key _ (by rw [wipe_length]; exact hj), key _ hj]
            · rw [List.getElem?_eq_none (by rw [wipe_length, wipe_length]; omega), List.getElem?_eq_none (by rw [wipe_length]; omega)]
          · rw [wipe_out hv]
        cases b with
        | false =>
          refine iteF ?_
          have hl : lcL fg ft fe vs (xs.drop (i + 1)) (wipeE ρ3 vs) = some (r', ρn) := hl
          obtain ⟨t1, t2, t3, t4, t5⟩ := turn_end (vs := vs) Si gi eD hd sm S' S4 g24
          rw [hw] at t1
          exact ⟨rfl, _, _, accV, acc, r', t1, t2, t3, t4, by omega, hl, hr⟩
        | true =>
          refine iteT ?_
          have hl : (fe ρ3).bind (fun q => match frz q.1 with
            | .dat d => (lcL fg ft fe vs (xs.drop (i + 1)) (wipeE q.2 vs)).map fun r => (d :: r.1, r.2)
            | _ => none) = some (r', ρn) := hl
          obtain ⟨⟨sv, ρ5⟩, q4, hl⟩ := Option.bind_eq_some_iff.mp hl
          dsimp only at hl
          refine ⟨ρ3, A4, sv, ρ5, S4, q4, fun v H5 A5 B5 p => ?_⟩
          have pf := p.frz
          split at hl
          · rename_i d5 ef
            obtain ⟨⟨r5, ρ6⟩, q5, q6⟩ := Option.map_eq_some_iff.mp hl
            cases q6
            obtain ⟨pf1, pf2, pf3⟩ := pf
            rw [ef] at pf2
            obtain ⟨t1, t2, t3, t4, t5⟩ := turn_end (vs := vs) Si gi eD hd sm S' pf1 (g24.trans pf3)
            rw [hw] at t1
            cases pf2 with
            | dat pd =>
              obtain ⟨a1, a2, a3⟩ := app_end t1 t2 t4 (Dp.mono t5 pd)
              refine ⟨accV, t3, ?_, rfl, _, _, accV ++ [v], acc ++ [d5], r5, a1, a2, upd_same, a3, by simp; omega, q5, by rw [List.append_assoc]; exact hr⟩
              rw [DpAll.length hd]
              have : (1000000 : Nat) < sizeLine := by rw [sizeLine_eq]; decide
              omega
          · cases hl
  · cases hf
section
variable {X : Cx} {elt tg iter : Expr} {ifs : List Expr} {scope : Scope} {own : List (Str × Nat)} {pos : Pos} {io : List Nat} {fi : Ev → Option (List D × Ev)} {fg : D → Ev → Option Ev} {ft : Ev → Option (Bool × Ev)} {fe : Ev → Option (Sv × Ev)}
theorem len_of_inv {pins : List (Addr × Obj)} {σ : L2.St} {H : Hp} {s : Shared} (I : L2.Inv X pins σ H s) : σ.length = X.N.length := I.len
/-- [e for x in xs if t] -/
theorem se_lc (n : Nat) (hc : X.calm = true) (hN : X.N.Nodup) (hi : SI X tg iter fi) (ok : BlkOk X.N X.env.scope scope own) (hn0 : X.N.length = n) (hio' : ∀ i, i < n → i ∉ own.map (·.2) → i ∈ io)
    (hg : ∀ (s : Shared) (H : Hp) (C : Addr) (cl : List (Str × Addr)) (fp : List Addr), SG io (X.blk s H scope (compEnvC scope cl C X.env) fp) tg fg)
    (ht : ∀ (s : Shared) (H : Hp) (C : Addr) (cl : List (Str × Addr)) (fp : List Addr), STs (X.blk s H scope (compEnvC scope cl C X.env) fp) ifs ft)
    (he : ∀ (s : Shared) (H : Hp) (C : Addr) (cl : List (Str × Addr)) (fp : List Addr), SE (X.blk s H scope (compEnvC scope cl C X.env) fp) elt fe) (hs : ∀ x, foldedSetIterable iter X.env x = pure x := by intro _; rfl) :
    SE X (.ListComp elt [⟨tg, iter, ifs, 0⟩] scope pos) (eLc fi fg ft fe (own.map (·.2))) := by
  have hio : ∀ i, i < X.N.length → i ∉ own.map (·.2) → i ∈ io := fun i h => hio' i (hn0 ▸ h)
  obtain ⟨wi, pi, hi⟩ := hi
  have P := pe_lc (elt := elt) (ifs := ifs) (g := tOfG X.K io fg) (tt := tOfT X.K ft) (te := tOfE X.K fe) (pos := pos) hc hN pi ok (fun s H C cl fp => (hg s H C cl fp).can) (fun s H C cl fp => ht s H C cl fp) (fun s H C cl fp => (he s H C cl fp).can) hs
  refine ⟨fun σ H Q => σ.length = X.N.length → tLc wi (tOfG X.K io fg) (tOfT X.K ft) (tOfE X.K fe) (own.map (·.2)) σ H Q, ⟨fun pins s σ H Q I h => P.run pins s σ H Q I (h I.len)⟩, fun σ ρ A H Q s ρ' S hf hq hn => ?_⟩
  exact lc_run hio hi σ ρ A H Q s ρ' hn S hf hq
/-- y = [e for x in xs if t] -/
theorem ss_setLc (n : Nat) {io0 : List Nat} {j : Nat} {y : Str} {py spos : Pos} (hc : X.calm = true) (hN : X.N.Nodup) (hy : X.N[j]? = some y) (hyl : X.env.scope.names.lookup y = some .local) (hj : io0.contains j = false)
    (hsw : swapsWith (.ListComp elt [⟨tg, iter, ifs, 0⟩] scope pos) (some (.Name y py)) spos.line X.env = pure true) (hi : SI X tg iter fi) (ok : BlkOk X.N X.env.scope scope own) (hn0 : X.N.length = n) (hio' : ∀ i, i < n → i ∉ own.map (·.2) → i ∈ io)
    (hg : ∀ (s : Shared) (H : Hp) (C : Addr) (cl : List (Str × Addr)) (fp : List Addr), SG io (X.blk s H scope (compEnvC scope cl C X.env) fp) tg fg)
    (ht : ∀ (s : Shared) (H : Hp) (C : Addr) (cl : List (Str × Addr)) (fp : List Addr), STs (X.blk s H scope (compEnvC scope cl C X.env) fp) ifs ft)
    (he : ∀ (s : Shared) (H : Hp) (C : Addr) (cl : List (Str × Addr)) (fp : List Addr), SE (X.blk s H scope (compEnvC scope cl C X.env) fp) elt fe) (hs : ∀ x, foldedSetIterable iter X.env x = pure x := by intro _; rfl) :
    SS io0 X (.Assign [.Name y py] (.ListComp elt [⟨tg, iter, ifs, 0⟩] scope pos) spos) (sSet j (eLc fi fg ft fe (own.map (·.2)))) := by
  have hio : ∀ i, i < X.N.length → i ∉ own.map (·.2) → i ∈ io := fun i h => hio' i (hn0 ▸ h)
  obtain ⟨wi, pi, hi⟩ := hi
  have P := ps_setLc (elt := elt) (ifs := ifs) (g := tOfG X.K io fg) (tt := tOfT X.K ft) (te := tOfE X.K fe) (pos := pos) (spos := spos) hc hN hy hyl hsw pi ok (fun s H C cl fp => (hg s H C cl fp).can) (fun s H C cl fp => ht s H C cl fp) (fun s H C cl fp => (he s H C cl fp).can) hs
  refine ⟨fun D σ H => σ.length = X.N.length → tAsg (tLc wi (tOfG X.K io fg) (tOfT X.K ft) (tOfE X.K fe) (own.map (·.2))) (gName j) D σ H, ⟨fun pins s σ H D I h => P.run pins s σ H D I (h I.len)⟩, fun σ ρ A H D o S hf hq hn => ?_⟩
  have h2 : SEt X.K (fun σ H Q => σ.length = X.N.length → tLc wi (tOfG X.K io fg) (tOfT X.K ft) (tOfE X.K fe) (own.map (·.2)) σ H Q) (eLc fi fg ft fe (own.map (·.2))) := fun σ ρ A H Q s ρ' S hf hq hn => lc_run hio hi σ ρ A H Q s ρ' hn S hf hq
  exact (set_run hj h2) σ ρ A H D o S hf hq hn
end
end DL
namespace DL
open PySem PySem.Spec PyProof.Rows L2
open Classical (propDecidable)

/-! ### subscripts -/
theorem DpAll.at {K : PySem.W.Frag} {R : Hp} {vs : List V} {xs : List D} {i : Int} {d : D} (h : DpAll K R vs xs) (e : atI xs i = some d) : ∃ v, atI vs i = some v ∧ Dp K R v d := by
  unfold atI at e ⊢
  obtain ⟨j, e1, e2⟩ := Option.bind_eq_some_iff.mp e
  obtain ⟨v, e3, r⟩ := DpAll.get h e2
  rw [DpAll.length h, e1]
  exact ⟨v, e3, r⟩
@[simp] def opIx (x y : Sv) : Option Sv := match datC x, datC y with
  | some (.list xs), some (.int i) => (atI xs i).map .dat
  | some (.tuple xs), some (.int i) => (atI xs i).map .dat
  | some (.str z), some (.int i) => if z.length ≤ 1000000 then (atI z.cps.toList i).map fun c => .dat (.str ⟨#[c]⟩) else none
  | _, _ => none
theorem ok_ix {K : PySem.W.Frag} : R2Ok K (rIx K) opIx := by
  intro H P v w x y s Q B1 B2 hl r1 r2 h hq
  unfold opIx at h
  split at h
  · rename_i xs i h1 h2
    obtain ⟨d, e1, e2⟩ := Option.map_eq_some_iff.mp h
    cases e2
    obtain ⟨a, vs, rfl, hs, hd⟩ := datC_list r1 h1
    obtain ⟨u, e3, r⟩ := DpAll.at hd e1
    exact .inl ⟨a, vs, i, u, rfl, datC_int r2 h2, hs, e3, hq _ _ _ (.old r)⟩
  · rename_i xs i h1 h2
    obtain ⟨d, e1, e2⟩ := Option.map_eq_some_iff.mp h
    cases e2
    obtain ⟨a, vs, rfl, hs, hd⟩ := datC_tup r1 h1
    obtain ⟨u, e3, r⟩ := DpAll.at hd e1
    exact .inr (.inl ⟨a, vs, i, u, rfl, datC_int r2 h2, Same.sqt wo_same hs, e3, hq _ _ _ (.old r)⟩)
  · rename_i z i h1 h2
    split at h
    · rename_i hz
      obtain ⟨c, e1, e2⟩ := Option.map_eq_some_iff.mp h
      cases e2
      exact .inr (.inr ⟨z, i, c, datC_str r1 h1, datC_int r2 h2, line1000000 hz, e1, hq _ _ _ .str⟩)
    · cases h
  · cases h
theorem se_ix {X : Cx} {a b : Expr} {pos : Pos} {fa fb} (ha : SO X a fa) (hb : SO X b fb) (hs : PlainIx b := by intro _ _; rfl) : SE X (.Subscript a b pos) (eOp2 opIx fa fb) :=
  let ⟨_, _, pa, pb, h⟩ := se_tOp ha hb ok_ix
  ⟨_, pe_ix ix_seq pa pb hs, h⟩

/-! ### slices -/
def SPt (X : Cx) (e : Option Expr) (f : Ev → Option (Option Int × Ev)) : Prop :=
  ∃ t : TO, PO X e t ∧ ∀ (σ : L2.St) (ρ : Ev) (A : AS) (H : Hp) (Q : Option Int → Hp → Prop) (o : Option Int) (ρ' : Ev), Stt X.K H [] σ ρ A → f ρ = some (o, ρ') →
    (∀ H' A', Stt X.K H' [] σ ρ' A' → Gr H A H' [] A' → Q o H') → t σ H Q
def ptN : Ev → Option (Option Int × Ev) := fun ρ => some (none, ρ)
def ptS (f : Ev → Option (Sv × Ev)) : Ev → Option (Option Int × Ev) := fun ρ => (f ρ).bind fun p => match p.1 with
  | .dat (.int i) => some (some i, p.2)
  | _ => none
theorem sp_none {X : Cx} : SPt X none ptN := ⟨_, po_none, fun σ ρ A H Q o ρ' S hf hq => by cases hf; exact hq H A S .refl⟩
theorem sp_some {X : Cx} {e : Expr} {f} (h : SE X e f) : SPt X (some e) (ptS f) := by
  obtain ⟨t, p, hs⟩ := h
  refine ⟨_, po_some p, fun σ ρ A H Q o ρ' S hf hq => ?_⟩
  unfold ptS at hf
  obtain ⟨⟨s, ρ1⟩, e1, hf⟩ := Option.bind_eq_some_iff.mp hf
  dsimp only at hf
  split at hf
  · cases hf
    refine hs σ ρ A H _ _ _ S e1 fun v H' A' B b => ?_
    obtain ⟨b1, b2, b3⟩ := b
    cases b2 with
    | dat h => cases h; exact ⟨_, rfl, hq H' A' b1 b3⟩
  · cases hf
def cutD {α : Type} (xs : List α) (lo hi : Option Int) : List α := (xs.drop (HT.sIx xs.length 0 lo)).take (HT.sIx xs.length xs.length hi - HT.sIx xs.length 0 lo)
@[simp] def opSl (x : Sv) (lo hi : Option Int) : Option Sv := match datC x with
  | some (.list xs) => some (.own (.lst (cutD xs lo hi)))
  | some (.tuple xs) => some (.dat (.tuple (cutD xs lo hi)))
  | some (.str z) => if z.length ≤ 1000000 then some (.dat (.str (cutS z lo hi))) else none
  | _ => none
def eSl (fa : Ev → Option (Pend × Ev)) (fl fh : Ev → Option (Option Int × Ev)) : Ev → Option (Sv × Ev) := fun ρ =>
  (fa ρ).bind fun p => (fl p.2).bind fun l => (fh l.2).bind fun h => (res p.1 h.2).bind fun x => (opSl x l.1 h.1).map fun s => (s, h.2)
def rSlX (K : PySem.W.Frag) : V → Option Int → Option Int → Hp → VK → Prop := fun x lo hi H Q => rSlL K x lo hi H Q ∨ rSlA K x lo hi H Q ∨ rSlS x lo hi H Q
theorem SlR.or {X : Cx} {r r' : V → Option Int → Option Int → Hp → VK → Prop} (h : SlR X r) (h' : SlR X r') : SlR X (fun x lo hi H Q => r x lo hi H Q ∨ r' x lo hi H Q) :=
  fun pins s σ H x v vl vu lo hi sl Q I rx hs pl pu q => q.elim (h pins s σ H x v vl vu lo hi sl Q I rx hs pl pu) (h' pins s σ H x v vl vu lo hi sl Q I rx hs pl pu)
theorem cutD_all {K : PySem.W.Frag} {R : Hp} {vs : List V} {xs : List D} {lo hi : Option Int} (h : DpAll K R vs xs) : DpAll K R (cutV vs lo hi) (cutD xs lo hi) := by
  unfold cutV cutD
  rw [DpAll.length h]
  exact DpAll.take _ (DpAll.drop _ h)
theorem cut_whole {α : Type} {xs : List α} {lo hi : Option Int} (h : HT.sIx xs.length 0 lo = 0 ∧ HT.sIx xs.length xs.length hi = xs.length) : cutD xs lo hi = xs := by
  unfold cutD
  rw [h.1, h.2]
  simp
theorem se_slice {X : Cx} {e : Expr} {lo hi : Option Expr} {pos p2 : Pos} {fa fl fh} (ha : SO X e fa) (hl : SPt X lo fl) (hh : SPt X hi fh) : SE X (.Subscript e (.Slice lo hi none p2) pos) (eSl fa fl fh) := by
  obtain ⟨ta, pa, ha⟩ := ha
  obtain ⟨tl, pl, hl⟩ := hl
  obtain ⟨th, ph, hh⟩ := hh
  refine ⟨_, pe_slice (r := rSlX X.K) (SlR.or sl_list (SlR.or sl_tupA sl_str)) pa pl ph, fun σ ρ A H Q s ρ' S hf hq => ?_⟩
  unfold eSl at hf
  obtain ⟨⟨p, ρ1⟩, e1, hf⟩ := Option.bind_eq_some_iff.mp hf
  obtain ⟨⟨l, ρ2⟩, e2, hf⟩ := Option.bind_eq_some_iff.mp hf
  obtain ⟨⟨h, ρ3⟩, e3, hf⟩ := Option.bind_eq_some_iff.mp hf
  obtain ⟨x, e4, hf⟩ := Option.bind_eq_some_iff.mp hf
  obtain ⟨s0, e5, e6⟩ := Option.map_eq_some_iff.mp hf
  cases e6
  refine ha σ ρ A H _ p ρ1 S e1 fun v H1 A1 b1 => ?_
  refine hl σ ρ1 A1 H1 _ l ρ2 b1.st e2 fun H2 A2 S2 g2 => ?_
  refine hh σ ρ2 A2 H2 _ h _ S2 e3 fun H3 A3 S3 g3 => ?_
  have g := b1.gr.trans (g2.trans g3)
  obtain ⟨B, r⟩ := res_ok S3 (b1.rs.mono (g2.trans g3)) e4
  unfold opSl at e5
  split at e5
  · rename_i xs q
    cases e5
    obtain ⟨a, vs, rfl, hs, hd⟩ := datC_list r q
    exact .inl ⟨a, vs, rfl, hs, fun p n => hq _ _ A3 [p] ((New.lst n (cutD_all hd)).post S3 g)⟩
  · rename_i xs q
    cases e5
    obtain ⟨a, vs, rfl, hs, hd⟩ := datC_tup r q
    have hl := DpAll.length hd
    refine .inr (.inl ⟨a, vs, rfl, Same.sqt wo_same hs, fun w => ?_, fun w p n => hq _ _ A3 [] ((New.tup S3.liveP n (cutD_all hd)).post S3 g)⟩)
    rw [hl] at w
    rw [cut_whole w] at hq
    exact hq _ _ A3 [] ((New.old (.tup hs hd)).post S3 g)
  · rename_i z q
    split at e5
    · rename_i hz
      cases e5
      exact .inr (.inr ⟨z, datC_str r q, line1000000 hz, hq _ _ A3 [] (New.str.post S3 g)⟩)
    · cases e5
  · cases e5

/-! ### built-ins -/
theorem RSvs.one {K : PySem.W.Frag} {R H : Hp} {vs : List V} {x : Sv} (h : RSvs K R H vs [x]) : ∃ v B, vs = [v] ∧ RSv K R H v x B := by
  cases h with
  | cons h t => cases t; exact ⟨_, _, rfl, h⟩
theorem RSvs.two {K : PySem.W.Frag} {R H : Hp} {vs : List V} {x y : Sv} (h : RSvs K R H vs [x, y]) : ∃ v w B B', vs = [v, w] ∧ RSv K R H v x B ∧ RSv K R H w y B' := by
  cases h with
  | cons h t => cases t with
    | cons h' t => cases t; exact ⟨_, _, _, _, rfl, h, h'⟩
/-- an operation on one argument -/
@[simp] def on1 (op : Sv → Option Sv) : List Sv → Option Sv
  | [x] => op x
  | _ => none
@[simp] def on2 (op : Sv → Sv → Option Sv) : List Sv → Option Sv
  | [x, y] => op x y
  | _ => none
def RBOk (K : PySem.W.Frag) (r : List V → Hp → VK → Prop) (op : Sv → Option Sv) : Prop :=
  ∀ (H : Hp) (P : Addr → Prop) (v : V) (x s : Sv) (Q : VK) (B1 : List Addr), (∀ a, P a → ∃ u, H a = some u) → RSv K (wo H P) H v x B1 → op x = some s → (∀ u H' B, New K H P s u H' B → Q u H') → r [v] H Q
theorem RBOk.n {K : PySem.W.Frag} {r : List V → Hp → VK → Prop} {op : Sv → Option Sv} (h : RBOk K r op) : RNOk K r (on1 op) := by
  intro H P vs xs s Q hl rs ho hq
  unfold on1 at ho
  split at ho
  · obtain ⟨v, B, rfl, r⟩ := rs.one
    exact h H P v _ s Q B hl r ho hq
  · cases ho
def RB2Ok (K : PySem.W.Frag) (r : List V → Hp → VK → Prop) (op : Sv → Sv → Option Sv) : Prop :=
  ∀ (H : Hp) (P : Addr → Prop) (v w : V) (x y s : Sv) (Q : VK) (B1 B2 : List Addr), (∀ a, P a → ∃ u, H a = some u) → RSv K (wo H P) H v x B1 → RSv K (wo H P) H w y B2 → op x y = some s → (∀ u H' B, New K H P s u H' B → Q u H') → r [v, w] H Q
theorem RB2Ok.n {K : PySem.W.Frag} {r : List V → Hp → VK → Prop} {op : Sv → Sv → Option Sv} (h : RB2Ok K r op) : RNOk K r (on2 op) := by
  intro H P vs xs s Q hl rs ho hq
  unfold on2 at ho
  split at ho
  · obtain ⟨v, w, B, B', rfl, r, r'⟩ := rs.two
    exact h H P v w _ _ s Q B B' hl r r' ho hq
  · cases ho
@[simp] def opLen (x : Sv) : Option Sv := match x with
  | .own (.dct _ kvs) => some (.dat (.int kvs.length))
  | .fro (.dct _ kvs) => some (.dat (.int kvs.length))
  | x => match datC x with
    | some (.list xs) => some (.dat (.int xs.length))
    | some (.tuple xs) => some (.dat (.int xs.length))
    | some (.str z) => if z.length ≤ 1000000 then some (.dat (.int z.length)) else none
    | _ => none
@[simp] def opLenS (x : Sv) : Option Sv := match datC x with
    | some (.list xs) => some (.dat (.int xs.length))
    | some (.tuple xs) => some (.dat (.int xs.length))
    | some (.str z) => if z.length ≤ 1000000 then some (.dat (.int z.length)) else none
    | _ => none
theorem ok_len {K : PySem.W.Frag} : RBOk K (fun xs H Q => ∃ x n, xs = [x] ∧ LenV K x H n ∧ Q (.int n) H) opLenS := by
  intro H P v x s Q B1 hl r h hq
  unfold opLenS at h
  split at h
  · rename_i xs q
    cases h
    obtain ⟨a, vs, rfl, hs, hd⟩ := datC_list r q
    exact ⟨_, vs.length, rfl, .inl ⟨vs, hs, rfl⟩, by rw [DpAll.length hd]; exact hq _ _ _ .int⟩
  · rename_i xs q
    cases h
    obtain ⟨a, vs, rfl, hs, hd⟩ := datC_tup r q
    exact ⟨_, vs.length, rfl, .inr ⟨vs, Same.sqt wo_same hs, rfl⟩, by rw [DpAll.length hd]; exact hq _ _ _ .int⟩
  · rename_i z q
    split at h
    · rename_i hz
      cases h
      rw [datC_str r q]
      exact ⟨_, z.length, rfl, ⟨line1000000 hz, rfl⟩, hq _ _ _ .int⟩
    · cases h
  · cases h
@[simp] def opAbs (x : Sv) : Option Sv := match datC x with
  | some (.int i) => some (.dat (.int (if i < 0 then -i else i)))
  | _ => none
theorem ok_abs {K : PySem.W.Frag} : RBOk K (fun xs H Q => ∃ i, xs = [.int i] ∧ Q (.int (if i < 0 then -i else i)) H) opAbs := by
  intro H P v x s Q B1 hl r h hq
  unfold opAbs at h
  split at h
  · rename_i i q; cases h; rw [datC_int r q]; exact ⟨i, rfl, hq _ _ _ .int⟩
  · cases h
@[simp] def opMax2 (x y : Sv) : Option Sv := match datC x, datC y with
  | some (.int i), some (.int j) => some (.dat (.int (if j > i then j else i)))
  | _, _ => none
@[simp] def opMin2 (x y : Sv) : Option Sv := match datC x, datC y with
  | some (.int i), some (.int j) => some (.dat (.int (if j < i then j else i)))
  | _, _ => none
theorem ok_max2 {K : PySem.W.Frag} : RB2Ok K (fun xs H Q => ∃ i j, xs = [.int i, .int j] ∧ Q (.int (if j > i then j else i)) H) opMax2 := by
  intro H P v w x y s Q B1 B2 hl r r' h hq
  unfold opMax2 at h
  split at h
  · rename_i i j q q'; cases h; rw [datC_int r q, datC_int r' q']; exact ⟨i, j, rfl, hq _ _ _ .int⟩
  · cases h
theorem ok_min2 {K : PySem.W.Frag} : RB2Ok K (fun xs H Q => ∃ i j, xs = [.int i, .int j] ∧ Q (.int (if j < i then j else i)) H) opMin2 := by
  intro H P v w x y s Q B1 B2 hl r r' h hq
  unfold opMin2 at h
  split at h
  · rename_i i j q q'; cases h; rw [datC_int r q, datC_int r' q']; exact ⟨i, j, rfl, hq _ _ _ .int⟩
  · cases h
@[simp] def opInt (x : Sv) : Option Sv := match datC x with
  | some (.int i) => some (.dat (.int i))
  | some (.bool k) => some (.dat (.int (if k then 1 else 0)))
  | _ => none
theorem ok_int {K : PySem.W.Frag} : RBOk K (fun xs H Q => (∃ i, xs = [.int i] ∧ Q (.int i) H) ∨ ∃ k, xs = [.bl k] ∧ Q (.int (if k then 1 else 0)) H) opInt := by
  intro H P v x s Q B1 hl r h hq
  unfold opInt at h
  split at h
  · rename_i i q; cases h; rw [datC_int r q]; exact .inl ⟨i, rfl, hq _ _ _ .int⟩
  · rename_i i q; cases h; rw [datC_bool r q]; exact .inr ⟨i, rfl, hq _ _ _ .int⟩
  · cases h
/-- a list of ints -/
def intsD : List D → Option (List Int)
  | [] => some []
  | .int i :: r => (intsD r).map (i :: ·)
  | _ => none
theorem intsD_ok {K : PySem.W.Frag} {R : Hp} : ∀ {xs : List D} {vs : List V} {ns : List Int}, DpAll K R vs xs → intsD xs = some ns → vs = ns.map V.int
  | [], _, _, h, e => by cases h; cases e; rfl
  | .int i :: r, _, _, h, e => by
    cases h with
    | cons h t =>
      obtain ⟨ns', e1, e2⟩ := Option.map_eq_some_iff.mp e
      cases e2
      cases h
      rw [intsD_ok t e1]; rfl
  | .none :: r, _, _, h, e => by cases e
  | .bool _ :: r, _, _, h, e => by cases e
  | .str _ :: r, _, _, h, e => by cases e
  | .list _ :: r, _, _, h, e => by cases e
  | .tuple _ :: r, _, _, h, e => by cases e
  | .dict _ :: r, _, _, h, e => by cases e
theorem intsD_map (ns : List Int) : intsD (ns.map PyData.int) = some ns := by
  induction ns with
  | nil => rfl
  | cons n ns ih => show (intsD (ns.map PyData.int)).map _ = _; rw [ih]; rfl
@[simp] def opSum (x : Sv) : Option Sv := match datC x with
  | some (.list xs) => (intsD xs).map fun ns => .dat (.int ns.sum)
  | _ => none
theorem ok_sum {K : PySem.W.Frag} : RBOk K (rSum K) opSum := by
  intro H P v x s Q B1 hl r h hq
  unfold opSum at h
  split at h
  · rename_i xs q
    obtain ⟨ns, e1, e2⟩ := Option.map_eq_some_iff.mp h
    cases e2
    obtain ⟨a, vs, rfl, hs, hd⟩ := datC_list r q
    have := intsD_ok hd e1
    subst this
    exact ⟨a, ns, rfl, hs, hq _ _ _ .int⟩
  · cases h
def maxL : List Int → Int → Int
  | [], m => m
  | x :: xs, m => maxL xs (if x > m then x else m)
def minL : List Int → Int → Int
  | [], m => m
  | x :: xs, m => minL xs (if x < m then x else m)
theorem maxL_spec : ∀ (xs : List Int) (m : Int), m ≤ maxL xs m ∧ (∀ x ∈ xs, x ≤ maxL xs m) ∧ (maxL xs m = m ∨ maxL xs m ∈ xs)
  | [], m => ⟨Int.le_refl _, (fun _ h => nomatch h), .inl rfl⟩
  | x :: xs, m => by
    obtain ⟨h1, h2, h3⟩ := maxL_spec xs (if x > m then x else m)
    unfold maxL
    refine ⟨by split at h1 <;> split <;> omega, fun y hy => ?_, ?_⟩
    · rcases List.mem_cons.mp hy with rfl | hy
      · split at h1 <;> split <;> omega
      · exact h2 y hy
    · rcases h3 with h3 | h3
      · by_cases hx : x > m
        · right; rw [h3, if_pos hx]; exact List.mem_cons_self
        · left; rw [h3, if_neg hx]
      · right; exact List.mem_cons_of_mem _ h3
theorem minL_spec : ∀ (xs : List Int) (m : Int), minL xs m ≤ m ∧ (∀ x ∈ xs, minL xs m ≤ x) ∧ (minL xs m = m ∨ minL xs m ∈ xs)
  | [], m => ⟨Int.le_refl _, (fun _ h => nomatch h), .inl rfl⟩
  | x :: xs, m => by
    obtain ⟨h1, h2, h3⟩ := minL_spec xs (if x < m then x else m)
    unfold minL
    refine ⟨by split at h1 <;> split <;> omega, fun y hy => ?_, ?_⟩
    · rcases List.mem_cons.mp hy with rfl | hy
      · split at h1 <;> split <;> omega
      · exact h2 y hy
    · rcases h3 with h3 | h3
      · by_cases hx : x < m
        · right; rw [h3, if_pos hx]; exact List.mem_cons_self
        · left; rw [h3, if_neg hx]
      · right; exact List.mem_cons_of_mem _ h3
@[simp] def opMaxL (x : Sv) : Option Sv := match datC x with
  | some (.list xs) => (intsD xs).bind fun ns => match ns with
    | [] => none
    | n :: r => some (.dat (.int (maxL r n)))
  | _ => none
@[simp] def opMinL (x : Sv) : Option Sv := match datC x with
  | some (.list xs) => (intsD xs).bind fun ns => match ns with
    | [] => none
    | n :: r => some (.dat (.int (minL r n)))
  | _ => none
theorem ok_maxL {K : PySem.W.Frag} : RBOk K (rMax K) opMaxL := by
  intro H P v x s Q B1 hl r h hq
  unfold opMaxL at h
  split at h
  · rename_i xs q
    obtain ⟨ns, e1, h⟩ := Option.bind_eq_some_iff.mp h
    obtain ⟨a, vs, rfl, hs, hd⟩ := datC_list r q
    have := intsD_ok hd e1
    subst this
    cases ns with
    | nil => cases h
    | cons n r =>
      cases h
      refine ⟨a, n :: r, rfl, hs, by simp, fun m hm hle => ?_⟩
      obtain ⟨h1, h2, h3⟩ := maxL_spec r n
      have : maxL r n = m := by
        have a1 : m ≤ maxL r n := by
          rcases List.mem_cons.mp hm with rfl | hm
          · exact h1
          · exact h2 m hm
        have a2 : maxL r n ≤ m := by
          rcases h3 with h3 | h3
          · rw [h3]; exact hle _ List.mem_cons_self
          · exact hle _ (List.mem_cons_of_mem _ h3)
        omega
      rw [this] at hq
      exact hq _ _ _ .int
  · cases h
theorem ok_minL {K : PySem.W.Frag} : RBOk K (rMin K) opMinL := by
  intro H P v x s Q B1 hl r h hq
  unfold opMinL at h
  split at h
  · rename_i xs q
    obtain ⟨ns, e1, h⟩ := Option.bind_eq_some_iff.mp h
    obtain ⟨a, vs, rfl, hs, hd⟩ := datC_list r q
    have := intsD_ok hd e1
    subst this
    cases ns with
    | nil => cases h
    | cons n r =>
      cases h
      refine ⟨a, n :: r, rfl, hs, by simp, fun m hm hle => ?_⟩
      obtain ⟨h1, h2, h3⟩ := minL_spec r n
      have : minL r n = m := by
        have a1 : minL r n ≤ m := by
          rcases List.mem_cons.mp hm with rfl | hm
          · exact h1
          · exact h2 m hm
        have a2 : m ≤ minL r n := by
          rcases h3 with h3 | h3
          · rw [h3]; exact hle _ List.mem_cons_self
          · exact hle _ (List.mem_cons_of_mem _ h3)
        omega
      rw [this] at hq
      exact hq _ _ _ .int
  · cases h
@[simp] def opList (x : Sv) : Option Sv := match datC x with
  | some (.list xs) => some (.own (.lst xs))
  | some (.tuple xs) => some (.own (.lst xs))
  | _ => none
theorem ok_list {K : PySem.W.Frag} : RBOk K (fun xs H Q => ∃ p ys, xs = [.ref p] ∧ (SqL K H p ys ∨ SqT K H p ys) ∧ ∀ l, H l = none → Q (.ref l) (upd H l (.lst ys))) opList := by
  intro H P v x s Q B1 hl r h hq
  unfold opList at h
  split at h
  · rename_i xs q
    cases h
    obtain ⟨a, vs, rfl, hs, hd⟩ := datC_list r q
    exact ⟨a, vs, rfl, .inl hs, fun l n => hq _ _ _ (.lst n hd)⟩
  · rename_i xs q
    cases h
    obtain ⟨a, vs, rfl, hs, hd⟩ := datC_tup r q
    exact ⟨a, vs, rfl, .inr (Same.sqt wo_same hs), fun l n => hq _ _ _ (.lst n hd)⟩
  · cases h
@[simp] def opTuple (x : Sv) : Option Sv := match datC x with
  | some (.list xs) => some (.dat (.tuple xs))
  | some (.tuple xs) => some (.dat (.tuple xs))
  | _ => none
theorem ok_tuple {K : PySem.W.Frag} : RBOk K (fun xs H Q => ∃ p ys, xs = [.ref p] ∧ ((SqL K H p ys ∧ ∀ l, H l = none → Q (.ref l) (upd H l (.tup ys))) ∨ (SqT K H p ys ∧ Q (.ref p) H))) opTuple := by
  intro H P v x s Q B1 hl r h hq
  unfold opTuple at h
  split at h
  · rename_i xs q
    cases h
    obtain ⟨a, vs, rfl, hs, hd⟩ := datC_list r q
    exact ⟨a, vs, rfl, .inl ⟨hs, fun l n => hq _ _ _ (.tup hl n hd)⟩⟩
  · rename_i xs q
    cases h
    obtain ⟨a, vs, rfl, hs, hd⟩ := datC_tup r q
    exact ⟨a, vs, rfl, .inr ⟨Same.sqt wo_same hs, hq _ _ _ (.old (.tup hs hd))⟩⟩
  · cases h
def leI (a b : Int) : Bool := decide (a ≤ b)
@[simp] def opSortI (x : Sv) : Option Sv := match datC x with
  | some (.list xs) => (intsD xs).map fun ns => .own (.lst ((ns.mergeSort leI).map .int))
  | _ => none
theorem ints_all {K : PySem.W.Frag} {R : Hp} (ns : List Int) : DpAll K R (ns.map V.int) (ns.map .int) := by
  induction ns with
  | nil => exact .nil
  | cons n r ih => exact .cons (.int n) ih
theorem perm_sorted_eq {ns ms : List Int} (hp : ns.Perm ms) (h1 : ns.Pairwise (· ≤ ·)) (h2 : ms.Pairwise (· ≤ ·)) : ns = ms :=
  hp.eq_of_pairwise (fun a b _ _ h h' => Int.le_antisymm h h') h1 h2
theorem ok_sortI {K : PySem.W.Frag} : RBOk K (rSortedI K) opSortI := by
  intro H P v x s Q B1 hl r h hq
  unfold opSortI at h
  split at h
  · rename_i xs q
    obtain ⟨ns, e1, e2⟩ := Option.map_eq_some_iff.mp h
    cases e2
    obtain ⟨a, vs, rfl, hs, hd⟩ := datC_list r q
    have := intsD_ok hd e1
    subst this
    refine ⟨a, ns, rfl, hs, fun ns' p hp hw n => ?_⟩
    have e : ns' = ns.mergeSort leI := by
      refine perm_sorted_eq (hp.trans (List.mergeSort_perm ns leI).symm) hw ?_
      have := List.pairwise_mergeSort (le := leI) (fun a b c h1 h2 => by unfold leI at *; simp at *; omega) (fun a b => by unfold leI; simp; omega) ns
      exact this.imp fun {a b} h => by unfold leI at h; simpa using h
    subst e
    exact hq _ _ _ (.lst n (ints_all _))
  · cases h
end DL
namespace DL
open PySem PySem.Spec PyProof.Rows L2
open Classical (propDecidable)

/-! ### range -/
def intsR (lo : Int) (n : Nat) : List D := (List.range n).map fun (i : Nat) => PyData.int (lo + i)
theorem itOk_range {K : PySem.W.Frag} {R : Hp} {lo : Int} {n : Nat} : ItOk K (Itr lo n) R (intsR lo n) := by
  intro H P hl e i
  refine ⟨fun d hd => ?_, fun hi => by
    unfold intsR at hi
    have hi : n ≤ i := by simpa using hi
    exact hi⟩
  unfold intsR at hd
  rw [List.getElem?_map] at hd
  obtain ⟨k, e1, e2⟩ := Option.map_eq_some_iff.mp hd
  obtain ⟨h1, e3⟩ := List.getElem?_eq_some_iff.mp e1
  rw [List.length_range] at h1
  rw [List.getElem_range] at e3
  subst e3 e2
  exact ⟨h1, fun x H' ⟨e4, e5⟩ => by subst e4 e5; exact ⟨Same.refl _, .int _⟩⟩
def iR1 (fa : Ev → Option (List Pend × Ev)) : Ev → Option (List D × Ev) := fun ρ => (fa ρ).bind fun p => (resL p.1 p.2).bind fun xs => match xs with
  | [.dat (.int j)] => if -1000000000 ≤ j ∧ j ≤ 1000000000 then some (intsR 0 j.toNat, p.2) else none
  | _ => none
def iR2 (fa : Ev → Option (List Pend × Ev)) : Ev → Option (List D × Ev) := fun ρ => (fa ρ).bind fun p => (resL p.1 p.2).bind fun xs => match xs with
  | [.dat (.int i), .dat (.int j)] => if (-1000000000000000 ≤ i ∧ i ≤ 1000000000000000) ∧ (-1000000000000000 ≤ j ∧ j ≤ 1000000000000000) then some (intsR i (j - i).toNat, p.2) else none
  | _ => none
theorem si_range1 {X : Cx} {tg a : Expr} {p pos : Pos} {fa} (hg : Gl X "range") (hm : X.mg "range" = none) (ha : SAs X [a] fa) (hs : starEach [a] X.env = [(false, eval a X.env)] := by rfl) : SI X tg (.Call (.Name "range" p) [a] [] pos) (iR1 fa) := by
  obtain ⟨t, pa, ha⟩ := ha
  refine ⟨_, pi_range1 hg hm pa hs, fun σ ρ A H R xs ρ' S hf hq => ?_⟩
  unfold iR1 at hf
  obtain ⟨⟨ps, ρ1⟩, e1, hf⟩ := Option.bind_eq_some_iff.mp hf
  obtain ⟨ys, e2, hf⟩ := Option.bind_eq_some_iff.mp hf
  dsimp only at hf
  split at hf
  · rename_i j
    split at hf
    · rename_i hj
      cases hf
      refine ha σ ρ A H _ ps _ S e1 fun vs H1 A1 S1 g1 c => ?_
      obtain ⟨v, B, rfl, r⟩ := (resL_ok S1 c e2).one
      cases r with
      | dat h => cases h; exact ⟨j, rfl, by omega, by omega, hq _ H1 A1 S1 g1 itOk_range⟩
    · cases hf
  · cases hf
theorem si_range2 {X : Cx} {tg a b : Expr} {p pos : Pos} {fa} (hg : Gl X "range") (hm : X.mg "range" = none) (ha : SAs X [a, b] fa) (hs : starEach [a, b] X.env = [(false, eval a X.env), (false, eval b X.env)] := by rfl) (hs2 : starEach [b] X.env = [(false, eval b X.env)] := by rfl) : SI X tg (.Call (.Name "range" p) [a, b] [] pos) (iR2 fa) := by
  obtain ⟨t, pa, ha⟩ := ha
  refine ⟨_, pi_range2 hg hm pa hs hs2, fun σ ρ A H R xs ρ' S hf hq => ?_⟩
  unfold iR2 at hf
  obtain ⟨⟨ps, ρ1⟩, e1, hf⟩ := Option.bind_eq_some_iff.mp hf
  obtain ⟨ys, e2, hf⟩ := Option.bind_eq_some_iff.mp hf
  dsimp only at hf
  split at hf
  · rename_i i j
    split at hf
    · rename_i hj
      cases hf
      refine ha σ ρ A H _ ps _ S e1 fun vs H1 A1 S1 g1 c => ?_
      obtain ⟨v, w, B, B', rfl, r, r'⟩ := (resL_ok S1 c e2).two
      cases r with
      | dat h =>
        cases h
        cases r' with
        | dat h => cases h; exact ⟨i, j, rfl, ⟨by omega, by omega, by omega, by omega⟩, hq _ H1 A1 S1 g1 itOk_range⟩
    · cases hf
  · cases hf

/-! ### a name's own list is changed -/
theorem Stt.put {K : PySem.W.Frag} {H : Hp} {σ : L2.St} {ρ : Ev} {A : AS} {j : Nat} {xs ys : List D} {vs ws : List V} {a : Addr} (S : Stt K H [] σ ρ A) (g : Got ρ j (.own (.lst xs))) (e1 : σ[j]? = some (some (.ref a))) (e2 : H a = some (.lst vs))
    (hd : DpAll K (wo H (OwB [] A)) ws ys) : Stt K (upd H a (.lst ws)) [] σ (ρ.set j (some (.own (.lst ys)))) A ∧ Gr H A (upd H a (.lst ws)) [] A ∧ Same (wo H (OwB [] A)) (wo (upd H a (.lst ws)) (OwB [] A)) := by
  have hj : j < ρ.length := (List.getElem?_eq_some_iff.mp g).1
  obtain ⟨v, e3, r⟩ := S.got j _ g
  rw [e1] at e3; cases e3
  have ha : A.f j = [a] := by
    generalize hB : A.f j = B at r
    cases r with
    | own w => rfl
  have oa : Ow A a := ⟨j, by rw [ha]; simp⟩
  have sm : Same (wo H (OwB [] A)) (wo (upd H a (.lst ws)) (OwB [] A)) := fun b o z => by
    obtain ⟨n, e⟩ := of_wo z
    refine wo_of n ?_
    rw [upd_ne fun h => n (.inr (.inr (by rw [h]; exact oa)))]
    exact e
  have nz : ∀ b, A.Z b → b ≠ a := fun b z h => (S.zd b z).1 (by rw [h]; exact oa)
  refine ⟨⟨by simpa using S.len, fun i s g' => ?_, fun i h => ?_, S.dj, S.zd, fun b z => ?_, fun b z => nomatch z⟩, ⟨sm, rfl, fun b z u e => by rw [upd_ne (nz b z)]; exact e⟩, sm⟩
  · by_cases hi : i = j
    · subst hi
      unfold Got at g'
      rw [List.getElem?_set_self hj] at g'
      cases g'
      rw [ha]
      exact ⟨_, e1, .own ⟨ws, upd_same, DpAll.mono sm hd⟩⟩
    · rw [got_set_ne hi] at g'
      obtain ⟨w, e4, r4⟩ := S.got i s g'
      refine ⟨w, e4, r4.mono sm fun b hb u e => ?_⟩
      rw [upd_ne fun h => hi (S.dj i j b hb (by rw [ha, h]; simp))]
      exact e
  · by_cases hi : i = j
    · subst hi
      exact absurd (show Got (ρ.set i (some (.own (.lst ys)))) i (.own (.lst ys)) by unfold Got; rw [List.getElem?_set_self hj]) (h _)
    · exact S.emp i fun s g' => h s ((got_set_ne hi).mpr g')
  · obtain ⟨u, e⟩ := S.zl b z
    exact ⟨u, by rw [upd_ne (nz b z)]; exact e⟩
/-- the list in a slot -/
def ownL (ρ : Ev) (j : Nat) : Option (List D) := match ρ[j]? with
  | some (some (.own (.lst xs))) => some xs
  | _ => none
theorem ownL_of {ρ : Ev} {j : Nat} {xs : List D} (h : ownL ρ j = some xs) : Got ρ j (.own (.lst xs)) := by
  unfold ownL at h
  split at h
  · rename_i ys e; cases h; exact e
  · cases h
theorem ownL_at {K : PySem.W.Frag} {H : Hp} {σ : L2.St} {ρ : Ev} {A : AS} {j : Nat} {xs : List D} (S : Stt K H [] σ ρ A) (h : ownL ρ j = some xs) :
    ∃ a vs, σ[j]? = some (some (.ref a)) ∧ H a = some (.lst vs) ∧ DpAll K (wo H (OwB [] A)) vs xs := by
  obtain ⟨v, e, r⟩ := S.got j _ (ownL_of h)
  generalize A.f j = B at r
  cases r with
  | own w => obtain ⟨vs, w, h2⟩ := w; exact ⟨_, vs, e, w, h2⟩
/-- xs.m(e, ..), xs a name's own list -/
def eMut (j : Nat) (op : List D → List Sv → Option (Sv × List D)) (fa : Ev → Option (List Pend × Ev)) : Ev → Option (Sv × Ev) := fun ρ => (ownL ρ j).bind fun _ => (fa ρ).bind fun p => (resL p.1 p.2).bind fun args => (ownL p.2 j).bind fun xs =>
  (op xs args).map fun r => (r.1, p.2.set j (some (.own (.lst r.2))))
/-- the method's reading does what op does -/
def MutOk (K : PySem.W.Frag) (r : V → List V → Hp → VK → Prop) (op : List D → List Sv → Option (Sv × List D)) : Prop :=
  ∀ (H : Hp) (P : Addr → Prop) (a : Addr) (vs us : List V) (xs ys : List D) (args : List Sv) (s : Sv) (Q : VK), H a = some (.lst vs) → DpAll K (wo H P) vs xs → RSvs K (wo H P) H us args → op xs args = some (s, ys) →
    (∀ u ws d, s = .dat d → Dp K (wo H P) u d → DpAll K (wo H P) ws ys → Q u (upd H a (.lst ws))) → r (.ref a) us H Q
theorem mut_post {K : PySem.W.Frag} {H : Hp} {σ : L2.St} {ρ : Ev} {A : AS} {j : Nat} {xs ys : List D} {ws : List V} {a : Addr} {vs : List V} {u : V} {d : D} (S : Stt K H [] σ ρ A) (g : Got ρ j (.own (.lst xs))) (e1 : σ[j]? = some (some (.ref a))) (e2 : H a = some (.lst vs))
    (hd : DpAll K (wo H (OwB [] A)) ws ys) (hu : Dp K (wo H (OwB [] A)) u d) : PostE K H A σ (ρ.set j (some (.own (.lst ys)))) (.dat d) u (upd H a (.lst ws)) A [] := by
  obtain ⟨b1, b2, b3⟩ := S.put g e1 e2 hd
  exact ⟨b1, .dat (Dp.mono b3 hu), b2⟩
section
variable {X : Cx} {j : Nat} {x : Str} {e : Expr} {es : List Expr} {name : Str} {pos apos cpos : Pos} {id : String} {r : V → List V → Hp → VK → Prop} {op : List D → List Sv → Option (Sv × List D)}
theorem se_mut {fa} (slot : Slot "list" name id) (hty : typeOf (.builtin id) = pure (.type "method_descriptor")) (hm : MtR X id r) (ho : MutOk X.K r op) (hN : X.N[j]? = some x) (hv : Vis X.env.scope x) (ha : SAs X (e :: es) fa)
    (hd : (x == ("__debug__" : Str)) = false := by decide +kernel) (hcd : (x == ("__classdict__" : Str)) = false := by decide +kernel)
    (hbase : attributeBase (.Name x pos) name X.env (eval (.Name x pos) X.env) = eval (.Name x pos) X.env := by rfl)
    (hfew : ((backTo cpos (starEach (e :: es) X.env)).all (fun x => !x.1) && (backToKw cpos (keywordEach [] X.env)).all (fun x => x.1.isSome)
      && decide ((e :: es).length + ([] : List Keyword).length + (if ([] : List Keyword).isEmpty then 0 else 1) < 30)) = true := by rfl)
    (hline : (apos.endLine == cpos.line) = true := by rfl) (hs : starEach (e :: es) X.env = (false, eval e X.env) :: starEach es X.env := by rfl) (hplain : (backTo cpos (starEach es X.env)).any (·.1) = false := by rfl) :
    SE X (.Call (.Attribute (.Name x pos) name apos) (e :: es) [] cpos) (eMut j op fa) := by
  obtain ⟨t, pa, ha⟩ := ha
  refine ⟨_, pe_bm PySem.F.plainAttrs_list slot hty hm (pe_var hN hv hd hcd) pa hbase hfew hline hs hplain, fun σ ρ A H Q s ρ' S hf hq => ?_⟩
  unfold eMut at hf
  obtain ⟨xs0, e0, hf⟩ := Option.bind_eq_some_iff.mp hf
  obtain ⟨⟨ps, ρ1⟩, e1, hf⟩ := Option.bind_eq_some_iff.mp hf
  obtain ⟨args, e2, hf⟩ := Option.bind_eq_some_iff.mp hf
  obtain ⟨xs, e3, hf⟩ := Option.bind_eq_some_iff.mp hf
  obtain ⟨⟨s0, ys⟩, e4, e5⟩ := Option.map_eq_some_iff.mp hf
  cases e5
  obtain ⟨a, vs0, q1, q2, q3⟩ := ownL_at S e0
  refine ⟨_, q1, .inl ⟨rfl, _, SqL.of q2⟩, ha σ ρ A H _ ps ρ1 S e1 fun us H1 A1 S1 g1 c => ?_⟩
  obtain ⟨a', vs, w1, w2, w3⟩ := ownL_at S1 e3
  rw [q1] at w1; cases w1
  refine ho H1 (OwB [] A1) a vs us xs ys args _ Q w2 w3 (resL_ok S1 c e2) e4 fun u ws d es hu hw => ?_
  have es : s0 = .dat d := es
  subst es
  exact hq _ _ A1 [] ((mut_post S1 (ownL_of e3) q1 w2 hw hu).trans g1)
theorem se_mut0 (slot : Slot "list" name id) (hty : typeOf (.builtin id) = pure (.type "method_descriptor")) (hm : MtR X id r) (ho : MutOk X.K r op) (hN : X.N[j]? = some x) (hv : Vis X.env.scope x)
    (hd : (x == ("__debug__" : Str)) = false := by decide +kernel) (hcd : (x == ("__classdict__" : Str)) = false := by decide +kernel)
    (hbase : attributeBase (.Name x pos) name X.env (eval (.Name x pos) X.env) = eval (.Name x pos) X.env := by rfl) (hline : (apos.endLine == cpos.line) = true := by rfl) :
    SE X (.Call (.Attribute (.Name x pos) name apos) [] [] cpos) (eMut j op aNil) := by
  refine ⟨_, pe_bm0 PySem.F.plainAttrs_list slot hty hm (pe_var hN hv hd hcd) hbase hline, fun σ ρ A H Q s ρ' S hf hq => ?_⟩
  unfold eMut at hf
  obtain ⟨xs0, e0, hf⟩ := Option.bind_eq_some_iff.mp hf
  obtain ⟨⟨ps, ρ1⟩, e1, hf⟩ := Option.bind_eq_some_iff.mp hf
  cases e1
  obtain ⟨args, e2, hf⟩ := Option.bind_eq_some_iff.mp hf
  cases e2
  obtain ⟨xs, e3, hf⟩ := Option.bind_eq_some_iff.mp hf
  obtain ⟨⟨s0, ys⟩, e4, e5⟩ := Option.map_eq_some_iff.mp hf
  cases e5
  obtain ⟨a, vs, w1, w2, w3⟩ := ownL_at S e3
  refine ⟨_, w1, .inl ⟨rfl, _, SqL.of w2⟩, ho H (OwB [] A) a vs [] xs ys [] _ Q w2 w3 .nil e4 fun u ws d es hu hw => ?_⟩
  have es : s0 = .dat d := es
  subst es
  exact hq _ _ A [] (mut_post S (ownL_of e3) w1 w2 hw hu)
end
@[simp] def opAppend (xs : List D) : List Sv → Option (Sv × List D)
  | [.dat d] => if xs.length < 1000000 then some (.dat .none, xs ++ [d]) else none
  | _ => none
theorem line_lt {n : Nat} (h : n < 1000000) : n < sizeLine := by rw [sizeLine_eq]; omega
theorem mut_append {K : PySem.W.Frag} : MutOk K rAppend opAppend := by
  intro H P a vs us xs ys args s Q h1 h2 h3 h4 hq
  unfold opAppend at h4
  split at h4
  · split at h4
    · rename_i hl
      cases h4
      obtain ⟨v, B, rfl, r⟩ := h3.one
      cases r with
      | dat hd => exact ⟨a, vs, v, rfl, rfl, h1, by rw [DpAll.length h2]; exact line_lt hl, hq .non _ .none rfl .non (DpAll.append h2 (.cons hd .nil))⟩
    · cases h4
  · cases h4
@[simp] def opPop (xs : List D) : List Sv → Option (Sv × List D)
  | [] => (xs[xs.length - 1]?).map fun d => (.dat d, xs.dropLast)
  | _ => none
theorem mut_pop {K : PySem.W.Frag} : MutOk K rPop opPop := by
  intro H P a vs us xs ys args s Q h1 h2 h3 h4 hq
  unfold opPop at h4
  split at h4
  · obtain ⟨d, e1, e2⟩ := Option.map_eq_some_iff.mp h4
    cases e2
    cases h3
    obtain ⟨v, e3, r⟩ := DpAll.get h2 e1
    exact ⟨a, vs, v, rfl, rfl, h1, by rw [DpAll.length h2]; exact e3, hq v _ d rfl r (DpAll.dropLast h2)⟩
  · cases h4
@[simp] def opReverse (xs : List D) : List Sv → Option (Sv × List D)
  | [] => some (.dat .none, xs.reverse)
  | _ => none
theorem mut_reverse {K : PySem.W.Frag} : MutOk K rReverse opReverse := by
  intro H P a vs us xs ys args s Q h1 h2 h3 h4 hq
  unfold opReverse at h4
  split at h4
  · cases h4
    cases h3
    exact ⟨a, vs, rfl, rfl, h1, hq .non _ .none rfl .non (DpAll.reverse h2)⟩
  · cases h4
@[simp] def opClear (xs : List D) : List Sv → Option (Sv × List D)
  | [] => some (.dat .none, [])
  | _ => none
theorem mut_clear {K : PySem.W.Frag} : MutOk K rClear opClear := by
  intro H P a vs us xs ys args s Q h1 h2 h3 h4 hq
  unfold opClear at h4
  split at h4
  · cases h4
    cases h3
    exact ⟨a, vs, rfl, rfl, h1, hq .non _ .none rfl .non .nil⟩
  · cases h4
/-- xs[i] = e, xs a name's own list -/
def gIx (j : Nat) (fi : Ev → Option (Pend × Ev)) : D → Ev → Option Ev := fun d ρ => (ownL ρ j).bind fun _ => (fi ρ).bind fun p => (res p.1 p.2).bind fun i => (ownL p.2 j).bind fun xs => match i with
  | .dat (.int k) => (ixN xs.length k).map fun m => p.2.set j (some (.own (.lst (xs.set m d))))
  | _ => none
theorem sg_ix {X : Cx} {io : List Nat} {j : Nat} {x : Str} {i : Expr} {p pos : Pos} {fi} (hN : X.N[j]? = some x) (hv : Vis X.env.scope x) (hi : SO X i fi)
    (hd : (x == ("__debug__" : Str)) = false := by decide +kernel) (hcd : (x == ("__classdict__" : Str)) = false := by decide +kernel)
    (ha : ∀ v, assign (.Subscript (.Name x p) i pos) X.env v = (do
      let ov ← holding [v] (eval (.Name x p) X.env)
      let iv ← holding [v, ov] (eval i X.env)
      standAt pos
      holding [v, ov, iv] (setItem ov iv v)
      release [v, ov, iv] []) := by intro _; rfl) : SG io X (.Subscript (.Name x p) i pos) (gIx j fi) := by
  obtain ⟨ti, pi, hi⟩ := hi
  refine ⟨_, pg_sub (pe_var hN hv hd hcd) pi set_list ha, fun σ ρ A H x d Q ρ' S hdd hg hq => ?_⟩
  unfold gIx at hg
  obtain ⟨xs0, e0, hg⟩ := Option.bind_eq_some_iff.mp hg
  obtain ⟨⟨p1, ρ1⟩, e1, hg⟩ := Option.bind_eq_some_iff.mp hg
  obtain ⟨iv, e2, hg⟩ := Option.bind_eq_some_iff.mp hg
  obtain ⟨xs, e3, hg⟩ := Option.bind_eq_some_iff.mp hg
  have hk : ∃ k m, iv = .dat (.int k) ∧ ixN xs.length k = some m ∧ ρ1.set j (some (.own (.lst (xs.set m d)))) = ρ' := by
    cases iv with
    | dat z => cases z with
      | int k =>
        obtain ⟨m, e4, e5⟩ := Option.map_eq_some_iff.mp hg
        exact ⟨k, m, rfl, e4, e5⟩
      | _ => cases hg
    | own z => cases hg
    | fro z => cases hg
  obtain ⟨k, m, rfl, e4, rfl⟩ := hk
  obtain ⟨a, vs0, q1, q2, q3⟩ := ownL_at S e0
  refine ⟨_, q1, hi σ ρ A H _ p1 ρ1 S e1 fun v H1 A1 b => ?_⟩
  obtain ⟨B, r⟩ := res_ok b.st b.rs e2
  obtain ⟨a', vs, w1, w2, w3⟩ := ownL_at b.st e3
  rw [q1] at w1; cases w1
  cases r with
  | dat h =>
    cases h
    refine ⟨a, vs, k, m, rfl, rfl, w2, by rw [DpAll.length w3]; exact e4, ?_⟩
    obtain ⟨c1, c2, c3⟩ := b.st.put (ys := xs.set m d) (ws := vs.set m x) (ownL_of e3) q1 w2 (DpAll.set (Dp.mono b.gr.s hdd) m w3)
    exact hq σ _ A1 (.same c1 (b.gr.trans c2))
/-- x += e -/
def sAug (j : Nat) (op : Int → Int → Int) (f : Ev → Option (Sv × Ev)) : Ev → Option Out := fun ρ => match ρ[j]? with
  | some (some (.dat (.int i))) => (f ρ).bind fun p => match p.1 with
    | .dat (.int k) => if j < p.2.length then some (.nx (p.2.set j (some (.dat (.int (op i k)))))) else none
    | _ => none
  | _ => none
theorem ss_aug {X : Cx} {io : List Nat} {j : Nat} {x : Str} {e : Expr} {o : Operator} {op : Int → Int → Int} {pos pos' : Pos} {f} (hN : X.N.Nodup) (hi : X.N[j]? = some x) (hx : Loc X.env.scope x) (hio : io.contains j = false) (hfn : X.fn x = true ∨ X.env.scope.names.lookup x = some .local) (he : SE X e f) (ho : PIp X o (ipI op)) :
    SS io X (.AugAssign (.Name x pos') o e pos) (sAug j op f) := by
  obtain ⟨t, p, he⟩ := he
  refine ⟨_, ps_aug hN hi hx p ho hfn, fun σ ρ A H D out S hf hq => ?_⟩
  unfold sAug at hf
  split at hf
  · rename_i i g
    obtain ⟨⟨s, ρ1⟩, e1, hf⟩ := Option.bind_eq_some_iff.mp hf
    dsimp only at hf
    split at hf
    · rename_i k
      split at hf
      · rename_i hj
        cases hf
        obtain ⟨v, e2, r⟩ := S.got j _ g
        generalize A.f j = B at r
        cases r with
        | dat h =>
          cases h
          refine ⟨_, e2, he σ ρ A H _ _ _ S e1 fun v H1 A1 B1 b => ?_⟩
          obtain ⟨b1, b2, b3⟩ := b
          cases b2 with
          | dat h =>
            cases h
            refine ⟨i, k, rfl, rfl, ?_⟩
            refine hq _ H1 (updA A1 j []) ⟨b1.set (s := .dat (.int (op i k))) (B := []) (.dat (.int _)) hj, b3.set, fun i' hi' => ?_, List.length_set⟩
            have ne : i' ≠ j := fun z => by
              subst z
              rw [List.contains_iff_mem.mpr hi'] at hio; cases hio
            exact List.getElem?_set_ne (Ne.symm ne)
      · cases hf
    · cases hf
  · cases hf
/-- while -/
def whileL (c : Ev → Option (Bool × Ev)) (body : Ev → Option Out) : Nat → Ev → Option Out
  | 0, _ => none
  | n + 1, ρ => (c ρ).bind fun p => if p.1 = true then (body p.2).bind fun o => match o with
      | .nx ρ2 => whileL c body n ρ2
      | .ct ρ2 => whileL c body n ρ2
      | .bk ρ2 => some (.nx ρ2)
      | .rt s ρ2 => some (.rt s ρ2)
    else some (.nx p.2)
def sWhile (n : Nat) (c : Ev → Option (Bool × Ev)) (body : Ev → Option Out) : Ev → Option Out := whileL c body n
theorem ss_while {X : Cx} {io : List Nat} {pos : Pos} {c : Expr} {body : List Stmt} {n : Nat} {fc fb} (hp : PassesOwn (model X.prog X.w) X.A X.env X.xe) (hc : ST X c fc) (hb : SSs io X body fb) : SS io X (.While c body [] pos) (sWhile n fc fb) := by
  obtain ⟨tc, pc, hc⟩ := hc
  obtain ⟨tb, pb, hb⟩ := hb
  refine ⟨_, ps_while hp pc pb, fun σ0 ρ0 A0 H0 D o S hf hq => ?_⟩
  refine ⟨fun m σ H => ∃ ρ A, Stp X.K io H0 A0 σ0 σ ρ H A ∧ whileL fc fb m ρ = some o, ⟨n, ρ0, A0, .same S .refl, hf⟩, ?_⟩
  rintro m σ H ⟨ρ, A, a, hl⟩
  cases m with
  | zero => cases hl
  | succ m =>
    unfold whileL at hl
    obtain ⟨⟨b, ρ1⟩, e1, hl⟩ := Option.bind_eq_some_iff.mp hl
    refine hc σ ρ A H _ b ρ1 a.st e1 fun H1 A1 S1 g1 => ?_
    have a1 : Stp X.K io H0 A0 σ0 σ ρ1 H1 A1 := a.trans (.same S1 g1)
    cases b with
    | false => cases hl; exact iteF (hq σ H1 A1 a1)
    | true =>
      refine iteT ?_
      have hl : (fb ρ1).bind (fun o => match o with
        | .nx ρ2 => whileL fc fb m ρ2
        | .ct ρ2 => whileL fc fb m ρ2
        | .bk ρ2 => some (.nx ρ2)
        | .rt s ρ2 => some (.rt s ρ2)) = some o := hl
      obtain ⟨o1, e2, hl⟩ := Option.bind_eq_some_iff.mp hl
      refine ⟨fun σ' H' => ∃ ρ' A', Stp X.K io H0 A0 σ0 σ' ρ' H' A' ∧ whileL fc fb m ρ' = some o, fun σ' H' ⟨ρ', A', b, hl'⟩ => ⟨m, Nat.lt_succ_self m, ρ', A', b, hl'⟩, ?_⟩
      refine hb σ ρ1 A1 H1 _ o1 S1 e2 ?_
      cases o1 with
      | nx ρ4 => exact fun σ4 H4 A4 e => ⟨ρ4, A4, a1.trans e, hl⟩
      | ct ρ4 => exact fun σ4 H4 A4 e => ⟨ρ4, A4, a1.trans e, hl⟩
      | bk ρ4 => cases hl; exact fun σ4 H4 A4 e => hq σ4 H4 A4 (a1.trans e)
      | rt s ρ4 => cases hl; exact fun v σ4 H4 A4 B e => hq v σ4 H4 A4 B (a1.ret e)
end DL
namespace DL
open PySem PySem.Spec PyProof.Rows L2
open Classical (propDecidable)

theorem op_leA {X : Cx} : OpR X (compareOp .LtE) (fun x y H Q => (rI0 fun i j => .bl (decide (i ≤ j))) x y H Q ∨ (∃ i j, x = .str i ∧ y = .str j ∧ Q (.bl (!ltS j i)) H)) := op_le.or op_le_str
theorem op_gtA {X : Cx} : OpR X (compareOp .Gt) (fun x y H Q => (rI0 fun i j => .bl (decide (j < i))) x y H Q ∨ (∃ i j, x = .str i ∧ y = .str j ∧ Q (.bl (ltS j i)) H)) := op_gt.or op_gt_str
theorem op_geA {X : Cx} : OpR X (compareOp .GtE) (fun x y H Q => (rI0 fun i j => .bl (decide (j ≤ i))) x y H Q ∨ (∃ i j, x = .str i ∧ y = .str j ∧ Q (.bl (!ltS i j)) H)) := op_ge.or op_ge_str
/-! ### a op b op' c -/
def eChain (p q : Sv → Sv → Option Sv) (fa fb fc : Ev → Option (Pend × Ev)) : Ev → Option (Sv × Ev) := fun ρ =>
  (fa ρ).bind fun a => (fb a.2).bind fun b => (res a.1 b.2).bind fun x => (res b.1 b.2).bind fun y => (p x y).bind fun r => match r with
    | .dat (.bool true) => (fc b.2).bind fun c => (res b.1 c.2).bind fun y' => (res c.1 c.2).bind fun z => (q y' z).map fun s => (s, c.2)
    | .dat (.bool false) => some (.dat (.bool false), b.2)
    | _ => none
theorem chain_run {K : PySem.W.Frag} {ta tb tc : TE} {r r' : R2} {p q : Sv → Sv → Option Sv} {fa fb fc : Ev → Option (Pend × Ev)} (hr : R2Ok K r p) (hr' : R2Ok K r' q)
    (sa : ∀ (σ : L2.St) (ρ : Ev) (A : AS) (H : Hp) (Q : VK) (s : Pend) (ρ' : Ev), Stt K H [] σ ρ A → fa ρ = some (s, ρ') → (∀ v H' A', PostO K H A σ ρ' s v H' A' → Q v H') → ta σ H Q)
    (sb : ∀ (σ : L2.St) (ρ : Ev) (A : AS) (H : Hp) (Q : VK) (s : Pend) (ρ' : Ev), Stt K H [] σ ρ A → fb ρ = some (s, ρ') → (∀ v H' A', PostO K H A σ ρ' s v H' A' → Q v H') → tb σ H Q)
    (sc : ∀ (σ : L2.St) (ρ : Ev) (A : AS) (H : Hp) (Q : VK) (s : Pend) (ρ' : Ev), Stt K H [] σ ρ A → fc ρ = some (s, ρ') → (∀ v H' A', PostO K H A σ ρ' s v H' A' → Q v H') → tc σ H Q) :
    SEt K (tChain r r' ta tb tc) (eChain p q fa fb fc) := by
  intro σ ρ A H Q s ρ' S hf hq
  unfold eChain at hf
  obtain ⟨⟨a, ρ1⟩, e1, hf⟩ := Option.bind_eq_some_iff.mp hf
  obtain ⟨⟨b, ρ2⟩, e2, hf⟩ := Option.bind_eq_some_iff.mp hf
  obtain ⟨x, e3, hf⟩ := Option.bind_eq_some_iff.mp hf
  obtain ⟨y, e4, hf⟩ := Option.bind_eq_some_iff.mp hf
  obtain ⟨z, e5, hf⟩ := Option.bind_eq_some_iff.mp hf
  refine sa σ ρ A H _ a ρ1 S e1 fun v H1 A1 p1 => ?_
  refine sb σ ρ1 A1 H1 _ b ρ2 p1.st e2 fun w H2 A2 p2 => ?_
  obtain ⟨B1, r1⟩ := res_ok p2.st (p1.rs.mono p2.gr) e3
  obtain ⟨B2, r2⟩ := res_ok p2.st p2.rs e4
  refine hr H2 (OwB [] A2) v w x y z _ B1 B2 p2.st.liveP r1 r2 e5 fun u H3 B n => ?_
  have pn := (n.post p2.st (p1.gr.trans p2.gr))
  have hz : (∃ k, z = .dat (.bool k)) := by
    dsimp only at hf
    split at hf
    · exact ⟨true, rfl⟩
    · exact ⟨false, rfl⟩
    · cases hf
  obtain ⟨k, rfl⟩ := hz
  obtain ⟨b1, b2, b3⟩ := pn
  cases b2 with
  | dat hd =>
    cases hd
    refine ⟨k, rfl, ?_⟩
    cases k with
    | false => cases hf; exact iteF (hq _ H3 A2 [] ⟨b1, .dat (.bl _), b3⟩)
    | true =>
      refine iteT ?_
      have hf : (fc ρ2).bind (fun c => (res b c.2).bind fun y' => (res c.1 c.2).bind fun z => (q y' z).map fun s => (s, c.2)) = some (s, ρ') := hf
      obtain ⟨⟨c, ρ3⟩, f1, hf⟩ := Option.bind_eq_some_iff.mp hf
      obtain ⟨y', f2, hf⟩ := Option.bind_eq_some_iff.mp hf
      obtain ⟨z', f3, hf⟩ := Option.bind_eq_some_iff.mp hf
      obtain ⟨s0, f4, f5⟩ := Option.map_eq_some_iff.mp hf
      cases f5
      have g23 : Gr H2 A2 H3 [] A2 := by
        have h0 := (n.post p2.st .refl).gr
        exact h0
      refine sc σ ρ2 A2 H3 _ c ρ3 b1 f1 fun w' H4 A4 p4 => ?_
      obtain ⟨B3, r3⟩ := res_ok p4.st ((p2.rs.mono g23).mono p4.gr) f2
      obtain ⟨B4, r4⟩ := res_ok p4.st p4.rs f3
      exact hr' H4 (OwB [] A4) w w' y' z' _ Q B3 B4 p4.st.liveP r3 r4 f4 fun u H' B n => hq u H' A4 B (n.post p4.st (b3.trans p4.gr))
section
variable {X : Cx} {a b c : Expr} {o o' : CmpOp} {pos : Pos} {r r' : R2} {p q : Sv → Sv → Option Sv} {fa fb fc : Ev → Option (Pend × Ev)}
theorem se_chain (ho : OpR X (compareOp o) r) (hr : R2Ok X.K r p) (ho' : OpR X (compareOp o') r') (hr' : R2Ok X.K r' q) (ha : SO X a fa) (hb : SO X b fb) (hc : SO X c fc) (hm : lastMarks [o, o'] [b, c] = false := by with_unfolding_all rfl) : SE X (.Compare a [o, o'] [b, c] pos) (eChain p q fa fb fc) := by
  obtain ⟨ta, pa, ha⟩ := ha
  obtain ⟨tb, pb, hb⟩ := hb
  obtain ⟨tc, pc, hc⟩ := hc
  exact ⟨_, pe_chain ho ho' pa pb pc hm, chain_run hr hr' ha hb hc⟩
theorem st_chain (ho : OpR X (compareOp o) r) (hr : R2Ok X.K r p) (ho' : OpR X (compareOp o') r') (hr' : R2Ok X.K r' q) (ha : SO X a fa) (hb : SO X b fb) (hc : SO X c fc) (hm : lastMarks [o, o'] [b, c] = false := by with_unfolding_all rfl) : ST X (.Compare a [o, o'] [b, c] pos) (tB (eChain p q fa fb fc)) := by
  obtain ⟨ta, pa, ha⟩ := ha
  obtain ⟨tb, pb, hb⟩ := hb
  obtain ⟨tc, pc, hc⟩ := hc
  exact ⟨_, pt_chain ho ho' pa pb pc hm, fun σ ρ A H Q b ρ' S hf hq => tB_run (chain_run hr hr' ha hb hc) σ ρ A H Q b ρ' S hf hq⟩
end

/-! ### isinstance of data -/
@[simp] def tyN : D → String
  | .none => "NoneType"
  | .bool _ => "bool"
  | .int _ => "int"
  | .str _ => "str"
  | .list _ => "list"
  | .tuple _ => "tuple"
  | .dict _ => "dict"
theorem tyX_of {K : PySem.W.Frag} {H : Hp} {v : V} {d : D} (h : Dp K H v d) : TyX K H v (.type (tyN d)) := by
  cases h with
  | non => exact .base .non
  | bl b => exact .base (.bl b)
  | int i => exact .base (.int i)
  | str x => exact .base (.str x)
  | lst hs ha =>
    rcases hs with (h | ⟨o, h⟩) | ⟨o, its, n, h, hc, _⟩
    · exact .base (.lst h)
    · exact .base (.frz h)
    · exact .kList h hc
  | tup hs ha =>
    rcases hs with (h | ⟨o, h⟩) | ⟨o, its, n, h, hc, _⟩
    · exact .base (.tup h)
    · exact .fTuple h
    · exact .kTuple h hc
@[simp] def isTy (T : String) (d : D) : Bool := tyN d == T || (T == "int" && tyN d == "bool")
@[simp] def opIs (T : String) (x : Sv) : Option Sv := (datC x).map fun d => .dat (.bool (isTy T d))
theorem kit_all : ∀ a ∈ ["NoneType", "bool", "int", "str", "list", "tuple", "dict"], ∀ T ∈ ["int", "bool", "str", "list", "tuple"], kitB a T = some (a == T || (T == "int" && a == "bool")) := by decide +kernel
theorem tyN_mem (d : D) : tyN d ∈ ["NoneType", "bool", "int", "str", "list", "tuple", "dict"] := by cases d <;> simp [tyN]
theorem kit_tab {K : PySem.W.Frag} {T : String} (hT : T ∈ ["int", "bool", "str", "list", "tuple"]) (d : D) : PySem.W.kitOne K (.type (tyN d)) (.type T) = some (isTy T d) := kit_ty (kit_all _ (tyN_mem d) T hT)
theorem se_is {X : Cx} {T : String} {e : Expr} {p p2 pos : Pos} {f} (hT : T ∈ ["int", "bool", "str", "list", "tuple"]) (hg : Gl X "isinstance") (hm : X.mg "isinstance" = none) (hg2 : Gl X (Str.ofString T)) (hm2 : X.mg (Str.ofString T) = none) (hb : bootBuiltins (Str.ofString T) = some (.type T)) (he : SO X e f)
    (hn : Str.ofString T ≠ "__name__" := by decide +kernel) (hd : (Str.ofString T == ("__debug__" : Str)) = false := by decide +kernel)
    (hs : starEach [e, .Name (Str.ofString T) p2] X.env = (false, eval e X.env) :: starEach [.Name (Str.ofString T) p2] X.env := by rfl) (hs2 : starEach [.Name (Str.ofString T) p2] X.env = (false, eval (.Name (Str.ofString T) p2) X.env) :: starEach [] X.env := by rfl) (hpl : (backTo pos (starEach [.Name (Str.ofString T) p2] X.env)).any (·.1) = false := by rfl) :
    SE X (.Call (.Name "isinstance" p) [e, .Name (Str.ofString T) p2] [] pos) (eOp1 (opIs T) f) := by
  obtain ⟨t, pt, hst⟩ := se_tUn (r := fun x H Q => rIsi X.K [x, .ty T] H Q) (op := opIs T) he (by
    intro H P v x s Q B1 hl r1 h hq
    unfold opIs at h
    obtain ⟨d, e1, e2⟩ := Option.map_eq_some_iff.mp h
    cases e2
    exact ⟨v, .ty T, _, _, _, rfl, .ty T, tyX_of (datC_ok r1 e1).1, kit_tab hT d, hq _ _ _ .bl⟩)
  refine ⟨_, pe_callB call_isi hg hm PyProof.Rows.boot_isinstance (pa_cons pt (pa_cons (pe_bltn hg2 hm2 hb (show RelV (.ty T) (.type T) from rfl) hn hd) pa_nil hs2) hs) (by decide +kernel) (by decide +kernel) hs hpl, hst⟩
/-! ### is True, is False -/
@[simp] def opIsB (x y : Sv) : Option Sv := match datC x, datC y with
  | some (.bool a), some (.bool b) => some (.dat (.bool (a == b)))
  | _, _ => none
theorem ok_isB {K : PySem.W.Frag} : R2Ok K rIsB opIsB := by
  intro H P v w x y s Q B1 B2 hl r1 r2 h hq
  unfold opIsB at h
  split at h
  · rename_i a b h1 h2
    cases h
    refine ⟨a, b, datC_bool r1 h1, datC_bool r2 h2, ?_⟩
    have : decide (a = b) = (a == b) := by cases a <;> cases b <;> rfl
    rw [this]
    exact hq _ _ _ .bl
  · cases h
/-! ### in, not in -/
@[simp] def opInF (neg : Bool) (x y : Sv) : Option Sv := (datC x).bind fun d => match datC y with
  | some (.list xs) => if dpt 40 d && xs.all (dpt 40) then some (.dat (.bool (xor neg (xs.any fun z => PyData.eqv z d)))) else none
  | some (.tuple xs) => if dpt 40 d && xs.all (dpt 40) then some (.dat (.bool (xor neg (xs.any fun z => PyData.eqv z d)))) else none
  | _ => none
def rInP (K : PySem.W.Frag) (neg : Bool) : R2 := fun x y H Q => ∃ d xs, Dp K H x d ∧ (Dp K H y (.list xs) ∨ Dp K H y (.tuple xs)) ∧ dpt 40 d = true ∧ xs.all (dpt 40) = true ∧ Q (.bl (xor neg (xs.any fun z => PyData.eqv z d))) H
theorem ok_inF {K : PySem.W.Frag} {neg : Bool} : R2Ok K (rInP K neg) (opInF neg) := by
  intro H P v w x y s Q B1 B2 hl r1 r2 h hq
  unfold opInF at h
  obtain ⟨d, h1, h⟩ := Option.bind_eq_some_iff.mp h
  have d1 := (datC_ok r1 h1).1
  split at h
  · rename_i xs h2
    split at h
    · rename_i ok
      cases h
      rw [Bool.and_eq_true] at ok
      exact ⟨d, xs, d1, .inl (datC_ok r2 h2).1, ok.1, ok.2, hq _ _ _ .bl⟩
    · cases h
  · rename_i xs h2
    split at h
    · rename_i ok
      cases h
      rw [Bool.and_eq_true] at ok
      exact ⟨d, xs, d1, .inr (datC_ok r2 h2).1, ok.1, ok.2, hq _ _ _ .bl⟩
    · cases h
  · cases h
theorem op_inP {X : Cx} (hu : X.A.units + 64 < cLine) : OpR X (compareOp .In) (rInP X.K false) := by
  intro pins s σ H x y v u Q I rx ry h
  obtain ⟨d, xs, hd, he, sd, se, q⟩ := h
  obtain ⟨as, r1⟩ := Dp.reads I d x v hd rx
  have k1 := (dpt_ok sd).2
  have k2 := plainAll_of fun x m => (dpt_ok (List.all_eq_true.mp se x m)).1
  rw [Bool.false_xor] at q
  rcases he with he | he
  · obtain ⟨bs, r2⟩ := Dp.reads I _ y u he ry
    exact SeqAt.in_list_data r2 r1 k2 (dpt_ok sd).1 (by omega) ⟨.bl _, H, I, rfl, q⟩
  · obtain ⟨bs, r2⟩ := Dp.reads I _ y u he ry
    exact SeqAt.in_tuple_data r2 r1 k2 (dpt_ok sd).1 (by omega) ⟨.bl _, H, I, rfl, q⟩
theorem op_notInP {X : Cx} (hu : X.A.units + 64 < cLine) : OpR X (compareOp .NotIn) (rInP X.K true) := by
  intro pins s σ H x y v u Q I rx ry h
  obtain ⟨d, xs, hd, he, sd, se, q⟩ := h
  obtain ⟨as, r1⟩ := Dp.reads I d x v hd rx
  have k1 := (dpt_ok sd).2
  have k2 := plainAll_of fun x m => (dpt_ok (List.all_eq_true.mp se x m)).1
  rw [Bool.true_xor] at q
  rcases he with he | he
  · obtain ⟨bs, r2⟩ := Dp.reads I _ y u he ry
    exact SeqAt.notIn_list_data r2 r1 k2 (dpt_ok sd).1 (by omega) ⟨.bl _, H, I, rfl, q⟩
  · obtain ⟨bs, r2⟩ := Dp.reads I _ y u he ry
    exact SeqAt.notIn_tuple_data r2 r1 k2 (dpt_ok sd).1 (by omega) ⟨.bl _, H, I, rfl, q⟩

/-! ### the written part of a law: its defs by number -/
structure DefOk (K : PySem.W.Frag) (mg : Str → Option Value) (e : Str × Stmt × List Str) (a : Addr) (fd : FuncData) : Prop where
  fn : Fun K e.1 e.1 e.2.1 a fd
  bd : Binds K fd e.2.2 []
  g : mg e.1 = some (.ref a)
inductive DefsOk (K : PySem.W.Frag) (mg : Str → Option Value) : List (Str × Stmt × List Str) → List Addr → List FuncData → Prop
  | nil : DefsOk K mg [] [] []
  | cons {e a fd es as fs} : DefOk K mg e a fd → DefsOk K mg es as fs → DefsOk K mg (e :: es) (a :: as) (fd :: fs)
def fdNone : FuncData := PySem.W.fnOf "" "" { posonlyargs := [], args := [], vararg := none, kwonlyargs := [], kw_defaults := [], kwarg := none, defaults := [] } [] { kind := .function, names := [], isGenerator := false, isCoroutine := false } .none .none .none .none none .none .none
theorem DefsOk.get {K : PySem.W.Frag} {mg : Str → Option Value} : ∀ {es : List (Str × Stmt × List Str)} {as : List Addr} {fs : List FuncData}, DefsOk K mg es as fs → ∀ (i : Nat) {e : Str × Stmt × List Str}, es[i]? = some e → DefOk K mg e (as.getD i 0) (fs.getD i fdNone)
  | _, _, _, .nil, i, e, h => by simp at h
  | _, _, _, .cons d t, 0, e, h => by simp at h; subst h; exact d
  | _, _, _, .cons d t, i + 1, e, h => by simpa using t.get i (by simpa using h)
structure Tx (tbl : List (Str × Stmt × List Str)) (blts : List Str) (P : Program) (w : World) (K : PySem.W.Frag) (mg : Str → Option Value) (base : Heap) (adr : Nat → Addr) (fdd : Nat → FuncData) : Prop where
  fn : ∀ (i : Nat) {e : Str × Stmt × List Str}, tbl[i]? = some e → DefOk K mg e (adr i) (fdd i)
  bl : ∀ x ∈ blts, mg x = none
  ns : base.NoSeer
  tr : P.given.tree = none
/-- // by a positive number of any size, where there is room for the long division -/
def SeerOk (X : Cx) : Prop := ∀ (pins : List (Addr × Obj)) (σ : L2.St) (H : Hp) (s : Shared), L2.Inv X pins σ H s → PylongRoom (model X.prog X.w) X.A s
theorem op_fdivX {X : Cx} (hs : SeerOk X) : OpR X (binaryOp .FloorDiv) (rI (fun _ j => 0 < j) fun i j => .int (i / j)) := by
  intro pins s σ H x y v u Q I rx ry h
  obtain ⟨i, j, rfl, rfl, hj, q⟩ := h
  obtain ⟨t, rfl⟩ := rx
  obtain ⟨t', rfl⟩ := ry
  refine floordiv_int (by omega) ?_ (.inr (hs pins σ H s I))
  rw [Int.fdiv_eq_ediv_of_nonneg i (by omega)]
  exact ⟨.int _, H, I.tok _, ⟨_, rfl⟩, q⟩
theorem seer_of {X : Cx} {env : Env} {l : List Env} (hN : X.base.NoSeer) (ht : X.prog.given.tree = none) {k : Nat} (hr : Room (k + 40) X.A) (hst : X.stack = env :: l) (hg : env.scope.isGenerator = false) (hco : env.scope.isCoroutine = false) (hb : env.builtins = builtinsNs) (hgl : env.globals = mainGlobals) : SeerOk X := by
  intro pins σ H s I
  refine PylongRoom.of I.nolimit ?_ (SeerAt.of (env := env) (l := l) (hN.keeps I.bk) ht (by rw [I.ok.frames, hst]) hg hco hb hgl)
  have := hr.dp
  have e : Builtin.pylongFrames = 100 := rfl
  omega
end DL
namespace DL
open PySem PySem.Spec PyProof.Rows L2
open Classical (propDecidable)

/-- the untracked part bears the facts of the long division too -/
theorem seer_hid {h : Heap} {H : Hp} {a : Addr} {oa : Obj} (S : h.NoSeer) (ha : h.get? a = some oa) (hc : oa.cls ≠ .type "module") (hd : ∀ es ep, oa.data ≠ .dict es ep) (only : ∀ b, H b ≠ none → b = a) : (hidT h H).NoSeer := by
  have free : ∀ {b : Addr} {o : Obj}, h.get? b = some o → o ≠ oa → H b = none := fun {b o} e n => by
    cases q : H b with
    | none => rfl
    | some u =>
      have z := only b (by rw [q]; exact fun z => nomatch z)
      rw [z, ha] at e
      exact absurd (Option.some.inj e).symm n
  have nsK : ∀ {b : Addr} {m : Str → Option Value}, h.Ns b m → (hidT h H).Ns b m := fun {b m} ⟨o, es, ep, e, d, r⟩ =>
    ⟨o, es, ep, hidT_get e (free e fun z => hd es ep (by rw [← z]; exact d)), d, r⟩
  obtain ⟨⟨mc, s1, s2, s3⟩, ⟨mm, m1, m2⟩, ⟨mb, b1, b2⟩, ⟨mg, bm, ob, g1, g2, g3, g4, g5⟩⟩ := S
  exact ⟨⟨mc, nsK s1, s2, s3⟩, ⟨mm, nsK m1, m2⟩, ⟨mb, nsK b1, b2⟩, ⟨mg, bm, ob, nsK g1, g2, hidT_get g3 (free g3 fun z => hc (by rw [← z]; exact g4)), g4, g5⟩⟩
def lone (a : Addr) (o : HO) : Hp := fun b => if b = a then some o else none
theorem lone_at {a b : Addr} {o : HO} (h : b = a) : lone a o b = some o := if_pos h
theorem lone_ne {a b : Addr} {o : HO} (h : b ≠ a) : lone a o b = none := if_neg h
/-- the law's call over the heap behind the top -/
theorem law_callD {P : Program} {w : World} {K : PySem.W.Frag} {mg mb : Str → Option Value} {k : Nat} {fa a : Addr} {fd : FuncData} {x : Str} {sp : Sp} {s1 : Shared} {vs : List Value} {ns : List Int}
    (KX : K.In s1.heap) (hns : s1.heap.Ns mainGlobals mg) (hb : s1.heap.Ns builtinsNs mb) (hbb : ∀ x : Str, x ≠ "__name__" → mb x = bootBuiltins x) (hlim : s1.heap.NoLimit) (hse : s1.heap.NoSeer) (hg : s1.gens = #[])
    (ha : s1.heap.get? a = some { cls := .type "list", data := .seq vs.toArray }) (hi : IntsAre vs ns) (hl : ns.length ≤ sizeLine) (hr : Room k callerA)
    (F : ∀ base : Heap, K.In base → base.Ns mainGlobals mg → base.NoSeer → FnOk P w K mg base CX0 k fa fd [x] sp) (hbind : ∀ (s : Shared) (u : Value), BindsTo s fd ⟨[u], []⟩ [(x, u)])
    (hsp : ∀ H : Hp, (∀ b, ∀ C dx fs, H b ≠ some (.ins C dx fs)) → SqL K H a (ns.map V.int) → sp [.ref a] H (fun v _ => v = .bl true) fun _ _ _ => False) :
    codeAny (model P w) callerA (.call (.ref fa) ⟨[.ref a], []⟩) (fun r s' => r = .ok (.ret (.bool true)) ∧ OldK s1.heap s'.heap ∧ s'.os = s1.os ∧ AllBare s'.gens) s1 := by
  have rv := vals_ints hi
  have go : ∀ H : Hp, Only H → SqL K H a (ns.map V.int) → HOk P w H s1.heap → (∀ b, H b ≠ none → b = a) → (H a ≠ none → K.lookup a = none) → (∀ b, ∀ C dx fs, H b ≠ some (.ins C dx fs)) →
      codeAny (model P w) callerA (.call (.ref fa) ⟨[.ref a], []⟩) (fun r s' => r = .ok (.ret (.bool true)) ∧ OldK s1.heap s'.heap ∧ s'.os = s1.os ∧ AllBare s'.gens) s1 := by
    intro H hO hS hok hA hK hins
    have free : ∀ {b : Addr} {o : Obj}, s1.heap.get? b = some o → b ≠ a → H b = none := fun {b o} e n => by
      cases q : H b with
      | none => rfl
      | some u => exact absurd (hA b (by rw [q]; exact fun z => nomatch z)) n
    have nsK : ∀ {b : Addr} {m : Str → Option Value}, s1.heap.Ns b m → (hidT s1.heap H).Ns b m := fun {b m} ⟨o, es, ep, e, d, r⟩ =>
      ⟨o, es, ep, hidT_get e (free e fun z => by rw [z, ha] at e; cases e; cases d), d, r⟩
    have hKb : K.In (hidT s1.heap H) := fun b o e => hidT_get (KX b o e) (by
      by_cases z : b = a
      · subst z
        cases q : H b with
        | none => rfl
        | some u =>
          have := hK (by rw [q]; exact fun z => nomatch z)
          rw [this] at e; cases e
      · exact free (KX b o e) z)
    have hS2 := seer_hid (H := H) hse ha (fun z => nomatch (show Value.type "list" = Value.type "module" from z)) (fun es ep z => nomatch (show Data.seq vs.toArray = Data.dict es ep from z)) hA
    have hM : Mod K mg (hidT s1.heap H) := ⟨hKb, nsK hns, ⟨mb, nsK hb, hbb⟩, let ⟨mc, q1, q2⟩ := hlim; ⟨mc, nsK q1, q2⟩⟩
    have e0 : Env0 P w K mg (hidT s1.heap H) callerA [] s1 H := ⟨rfl, hM, fun b o e => of_hidT e, Nat.le_of_eq (hidT_size _ _), trivial, (fun b hb => absurd (show b ∈ ([] : List Addr) from hb) (by simp)), hok, .of_eq hg⟩
    refine codeAny_mono ((F _ hKb (nsK hns) hS2).run callerA [] s1 H ⟨[.ref a], []⟩ [.ref a] [.ref a] _ _ hr e0 (hbind s1 (.ref a)) (.cons rfl .nil) (hsp H hins hS)) fun r s' h => ?_
    match r, h with
    | .error e, h => exact h.elim
    | .ok (.next), h => exact h.elim
    | .ok (.brk), h => exact h.elim
    | .ok (.cont), h => exact h.elim
    | .ok (.ret u), h =>
      obtain ⟨v, H', os, bare, un, hok', r', q⟩ := h
      have q' : v = .bl true := q
      subst q'
      obtain rfl : u = Value.bool true := r'
      refine ⟨rfl, OldK.of_keep fun b o e => ?_, os, bare⟩
      rcases hO b with z | ⟨ob, xs, z⟩
      · exact un.keep b o e z (fun z => absurd (show b ∈ ([] : List Addr) from z) (by simp)) (by simp)
      · have e1 := (hok b _ z).1
        have e2 := (hok' b _ (un.frzs b ob _ z)).1
        rw [e] at e1; cases e1
        exact e2
  cases hk : K.lookup a with
  | some o =>
    have e := KX a o hk
    rw [ha] at e
    cases e
    exact go (fun _ => none) (fun _ => .inl rfl) (.inr ⟨_, vs.toArray, _, hk, rfl, rfl, rfl, by rw [List.size_toArray, hi.length]; exact hl, by simpa using rv⟩) (fun b u z => nomatch (show (none : Option HO) = some u from z)) (fun b z => absurd rfl z) (fun z => absurd rfl z) (fun _ _ _ _ z => nomatch z)
  | none =>
    refine go (lone a (.frz { cls := .type "list", data := .seq vs.toArray } (.lst (ns.map V.int)))) (fun b => ?_) (.inl (.inr ⟨_, lone_at rfl⟩)) (fun b u z => ?_) (fun b z => ?_) (fun _ => hk) (fun b C dx fs z => ?_)
    · by_cases hb : b = a
      · exact .inr ⟨_, _, lone_at hb⟩
      · exact .inl (lone_ne hb)
    · by_cases hb : b = a
      · rw [lone_at hb] at z
        cases z
        subst hb
        exact ⟨ha, by rw [List.length_map]; exact hl, vs, _, rv, ha⟩
      · rw [lone_ne hb] at z; cases z
    · by_cases hb : b = a
      · exact hb
      · exact absurd (lone_ne hb) z
    · by_cases hb : b = a
      · rw [lone_at hb] at z; cases z
      · rw [lone_ne hb] at z; cases z
/-- the ints of a script are not too long -/
theorem script_bits : ∀ {ns : List Int}, PySem.W.WData.weightAll (ns.map PySem.W.WData.int) ≤ 2 ^ 20 → ∀ n ∈ ns, n.natAbs.log2 < 2 ^ 20
  | [], _, n, h => nomatch h
  | m :: r, h, n, hn => by
    rw [List.map_cons, PySem.W.WData.weightAll, PySem.W.WData.weight] at h
    rcases List.mem_cons.mp hn with rfl | hn
    · by_cases z : (n == 0) = true
      · have : n = 0 := by simpa using z
        subst this; decide
      · rw [if_neg z] at h; omega
    · exact script_bits (by omega) n hn
/-- a law, from what its def gives at every script -/
theorem law_end {l : PySem.W.OpenLaw} {k : Nat} {q : Program} {loose : List Str} {XP : (Str → Option Value) → Heap → Prop} {YP : World → Heap → Prop} {d : DefRec} {K : Params → PySem.W.Frag} {x : Str} {F : Fn}
    (hn : l.most = some 63) (hdf : d.params.defaults = []) (hr : Room k callerA) (hnp : F.np = 1) (him : importsNone q = true)
    (hY : ∀ (w : World) (h : Heap), YP w h → (K w.params).In h)
    (G : ∀ (w : World) (mg : Str → Option Value) (fa : Addr) (h : Heap), (K w.params).In h → h.Ns mainGlobals mg → mg d.name = some (.ref fa) →
      ∃ fd : FuncData, (∀ (s : Shared) (u : Value), BindsTo s fd ⟨[u], []⟩ [(x, u)]) ∧
        ∀ base : Heap, (K w.params).In base → base.Ns mainGlobals mg → base.NoSeer → FnOk l.prog w (K w.params) mg base CX0 k fa fd [x] (spF (K w.params) F))
    (hlaw : ∀ ns : List Int, ns.length ≤ 63 → (∀ n ∈ ns, n.natAbs.log2 < 2 ^ 20) → ∃ outs, F.run [.dat (.list (ns.map .int))] = some (.dat (.bool true), outs)) :
    PySem.W.WalkO q loose XP YP l.row.toRowW d [] (fun f vs => PySem.call f vs) := by
  intro w s0 s1 mg mb T Y fa o pm cd doc dV kV ho hd hcd hD hmg hg args vals as hpre hlay hrd hwl hlo
  obtain ⟨a, vs, ns, rfl, rfl, hobj, hints, hlen⟩ := Att.script_of hn hpre hwl
  have KX := hY w _ Y
  obtain ⟨fd, hb, hF⟩ := G w mg fa _ KX T.T.g hmg
  have hbits : ∀ n ∈ ns, n.natAbs.log2 < 2 ^ 20 := by
    have h1 : PySem.W.WData.layable (.list (ns.map PySem.W.WData.int)) = true := by
      have h0 : PySem.W.WData.layableAll [.list (ns.map PySem.W.WData.int)] = true := hlay
      unfold PySem.W.WData.layableAll at h0
      simpa using h0
    have h2 := (PySem.W.layableW_iff.mp h1).2.2
    exact script_bits h2
  refine PySem.W.enter_call (codeAny_mono (law_callD (sp := spF (K w.params) F) KX T.T.g T.T.b T.T.builtins T.T.nolimit (T.T.seer him) hg hobj hints (by rw [sizeLine_eq]; omega) hr hF hb fun H hins hS => ?_) fun r s' hq => ?_)
  · obtain ⟨outs, hrun⟩ := hlaw ns hlen hbits
    have ov : ∀ b, ¬ OwB [] (⟨fun _ => [], fun _ => False⟩ : AS) b := fun b z => by
      rcases z with z | z | ⟨i, z⟩
      · exact z
      · cases z
      · cases z
    have hdat : Dp (K w.params) (wo H (OwB [] ⟨fun _ => [], fun _ => False⟩)) (.ref a) (.list (ns.map .int)) :=
      .lst (Same.seq (fun b o e => wo_of (ov b) e) hS) (ints_all ns)
    refine ⟨hnp ▸ rfl, [.dat (.list (ns.map .int))], ⟨fun _ => [], fun _ => False⟩, _, outs, hrun, ⟨rfl, fun i s g => ?_, fun _ _ => rfl, (fun i j a h => nomatch h), (fun a z => z.elim), (fun a z => z.elim), fun a z => nomatch z⟩, fun v H' A' B p => ?_⟩
    · have hi : i = 0 := by
        have := (List.getElem?_eq_some_iff.mp g).1
        simp at this; omega
      subst hi
      have e : s = .dat (.list (ns.map .int)) := by
        have : some (some (Sv.dat (.list (ns.map .int)))) = some (some s) := g
        cases this; rfl
      subst e
      exact ⟨_, rfl, .dat hdat⟩
    · obtain ⟨p1, p2, p3⟩ := p
      generalize B = B' at p2
      cases p2 with
      | dat h => cases h; rfl
  · obtain ⟨rfl, h2, h3, h4⟩ := hq
    exact ⟨.inl ⟨.bool true, .bool true, [], rfl, fun _ => rfl, .bool true, Att.post_true l _, fun _ => ⟨List.Pairwise.nil, fun _ hm => (nomatch hm)⟩⟩, h2, h3, h4⟩
end DL
namespace DL
open PySem PySem.Spec PyProof.Rows L2
/-! ### what a mirror gives -/
/-- keeps what comes later from being looked at before its time -/
structure Tg {α : Type} (Q : α → Prop) : Type where
  mk ::
structure Tp (x y : Prop) : Type where
  mk ::
def Wp {α : Type} (o : Option α) (Q : α → Prop) (t : Tg Q := .mk) : Prop := ∃ a, o = some a ∧ Q a
section
variable {α β : Type}
@[simp ↓] theorem wp_some {a : α} {Q : α → Prop} : Wp (some a) Q = Q a := by
  apply propext; constructor
  · rintro ⟨b, e, q⟩; cases e; exact q
  · exact fun q => ⟨a, rfl, q⟩
@[simp ↓] theorem wp_none {Q : α → Prop} : Wp none Q = False := by
  apply propext; constructor
  · rintro ⟨b, e, q⟩; cases e
  · exact fun q => q.elim
@[simp ↓] theorem wp_bind {o : Option α} {g : α → Option β} {Q : β → Prop} : Wp (o.bind g) Q = Wp o fun a => Wp (g a) Q := by
  cases o with
  | none => rw [Option.bind_none, wp_none, wp_none]
  | some a => rw [Option.bind_some, wp_some]
@[simp ↓] theorem wp_map {o : Option α} {g : α → β} {Q : β → Prop} : Wp (o.map g) Q = Wp o fun a => Q (g a) := by
  cases o with
  | none => rw [Option.map_none, wp_none, wp_none]
  | some a => rw [Option.map_some, wp_some, wp_some]
theorem wp_ite {c : Prop} [Decidable c] {a b : Option α} {Q : α → Prop} : Wp (if c then a else b) Q = ((c → Wp a Q) ∧ (¬ c → Wp b Q)) := by
  apply propext
  by_cases h : c <;> simp [h]
theorem Wp.mono {o : Option α} {Q R : α → Prop} (h : Wp o Q) (k : ∀ a, Q a → R a) : Wp o R := let ⟨a, e, q⟩ := h; ⟨a, e, k a q⟩
theorem Wp.eq {o : Option α} {a : α} (h : Wp o fun x => x = a) : o = some a := let ⟨b, e, q⟩ := h; by rw [e, q]
theorem wp_eq {o : Option α} {a : α} (h : o = some a) {Q : α → Prop} : Wp o Q = Q a := by rw [h, wp_some]
end

section
variable {α β : Type}
/-- a branch: stops until its test is known -/
def wIf (b : Bool) (x y : Prop) (t : Tp x y := .mk) : Prop := (b = true → x) ∧ (b = false → y)
@[simp ↓] theorem wIf_t {x y : Prop} : wIf true x y = x := by simp [wIf]
@[simp ↓] theorem wIf_f {x y : Prop} : wIf false x y = y := by simp [wIf]
@[simp ↓] theorem wIf_not {b : Bool} {x y : Prop} : wIf (!b) x y = wIf b y x := by cases b <;> simp
theorem wIf_mk {b : Bool} {x y : Prop} (h : b = true → x) (k : b = false → y) : wIf b x y := ⟨h, k⟩
def wO (o : Option α) (k : α → Prop) (t : Tg k := .mk) : Prop := ∃ a, o = some a ∧ k a
@[simp ↓] theorem wO_some {a : α} {k : α → Prop} : wO (some a) k = k a := by unfold wO; apply propext; constructor; (rintro ⟨b, e, q⟩; cases e; exact q); exact fun q => ⟨a, rfl, q⟩
@[simp ↓] theorem wp_guard {c : Prop} [Decidable c] {a : Option α} {Q : α → Prop} : Wp (if c then a else none) Q = (c ∧ Wp a Q) := by
  apply propext; by_cases h : c <;> simp [h]
@[simp ↓] theorem wO_guard {c : Prop} [Decidable c] {a : Option α} {Q : α → Prop} : wO (if c then a else none) Q = (c ∧ wO a Q) := by
  apply propext; by_cases h : c <;> simp [h, wO]
def wB (s : Sv) (k : Bool → Prop) (t : Tg k := .mk) : Prop := ∃ b, s = .dat (.bool b) ∧ k b
@[simp ↓] theorem wB_b {b : Bool} {k : Bool → Prop} : wB (.dat (.bool b)) k = k b := by unfold wB; apply propext; constructor; (rintro ⟨c, e, q⟩; cases e; exact q); exact fun q => ⟨b, rfl, q⟩
end
section
variable {α β : Type} {o : Option α} {g : α → Option β} {m : α → β} {Q : β → Prop} {R : α → Prop}
theorem wp_def0 {Q : α → Prop} : Wp o Q = wO o Q := rfl
theorem wp_cg {Q R : α → Prop} (h : ∀ a, Q a = R a) : Wp o Q = Wp o R := by have : Q = R := funext h; subst this; rfl
theorem wb_cg {s : Sv} {Q R : Bool → Prop} (h : ∀ a, Q a = R a) : wB s Q = wB s R := by have : Q = R := funext h; subst this; rfl
theorem wp_b1 (h : ∀ a, Wp (g a) Q = R a) : Wp (o.bind g) Q = Wp o R := wp_bind.trans (wp_cg h)
theorem wp_b2 (h : ∀ a, Wp (g a) Q = R a) : Wp (o.bind g) Q = wO o R := wp_bind.trans (wp_cg h)
theorem wp_m1 (h : ∀ a, Q (m a) = R a) : Wp (o.map m) Q = Wp o R := wp_map.trans (wp_cg h)
theorem wp_m2 (h : ∀ a, Q (m a) = R a) : Wp (o.map m) Q = wO o R := wp_map.trans (wp_cg h)
theorem wp_if2 {b : Bool} {x y : Option α} {Q : α → Prop} {p q : Prop} (h : Wp x Q = p) (k : Wp y Q = q) : Wp (if b = true then x else y) Q = wIf b p q := by subst h k; cases b <;> simp
theorem wp_if {b : Bool} {x y : Option α} {Q : α → Prop} : Wp (if b = true then x else y) Q = wIf b (Wp x Q) (Wp y Q) := by cases b <;> simp
end
section
variable {ρ : Ev} {f g : Ev → Option (Sv × Ev)} {fa fb fc : Ev → Option (Pend × Ev)} {c t u : Ev → Option (Bool × Ev)} {as : Ev → Option (List Pend × Ev)} {a b : Ev → Option Out}
theorem wp_def {α : Type} {o : Option α} {Q : α → Prop} : Wp o Q = wO o Q := rfl
@[simp ↓] theorem w_eC {d : D} {Q} : Wp (eC d ρ) Q = Q (.dat d, ρ) := wp_some
def wV (o : Option (Option Sv)) (k : Sv → Prop) (t : Tg k := .mk) : Prop := ∃ s, o = some (some s) ∧ k s
@[simp ↓] theorem wV_some {s : Sv} {k : Sv → Prop} : wV (some (some s)) k = k s := by unfold wV; apply propext; constructor; (rintro ⟨b, e, q⟩; cases e; exact q); exact fun q => ⟨s, rfl, q⟩
/-- a name read as a value -/
def thaw (s : Sv) (j : Nat) (ρ : Ev) : Ev := match s with
  | .own o => ρ.set j (some (frz (.own o)))
  | _ => ρ
@[simp] theorem thaw_dat {d : D} {j : Nat} : thaw (.dat d) j ρ = ρ := rfl
@[simp] theorem thaw_fro {o : Ob} {j : Nat} : thaw (.fro o) j ρ = ρ := rfl
@[simp] theorem thaw_own {o : Ob} {j : Nat} : thaw (.own o) j ρ = ρ.set j (some (frz (.own o))) := rfl
@[simp] theorem frz_dat {d : D} : frz (.dat d) = .dat d := rfl
@[simp] theorem frz_lst {xs : List D} : frz (.own (.lst xs)) = .dat (.list xs) := rfl
@[simp] theorem frz_dct {t : Bool} {xs} : frz (.own (.dct t xs)) = .fro (.dct t xs) := rfl
@[simp] theorem frz_fro {o : Ob} : frz (.fro o) = .fro o := rfl
@[simp ↓] theorem w_eVar {j : Nat} {Q} : Wp (eVar j ρ) Q = wV ρ[j]? fun s => Q (frz s, thaw s j ρ) := by
  unfold eVar wV
  rcases ρ[j]? with _ | _ | s
  · simp
  · simp
  · cases s <;> simp [frz, thaw]
@[simp ↓] theorem w_eMov {j : Nat} {Q} : Wp (eMov j ρ) Q = wV ρ[j]? fun s => Q (s, ρ.set j none) := by
  unfold eMov wV
  rcases ρ[j]? with _ | _ | s <;> simp
@[simp ↓] theorem w_oVar {j : Nat} {Q} : Wp (oVar j ρ) Q = wV ρ[j]? fun s => Q (.late j, ρ) := by
  unfold oVar wV
  rcases ρ[j]? with _ | _ | s <;> simp
@[simp ↓] theorem w_oNow {Q} : Wp (oNow f ρ) Q = Wp (f ρ) fun p => Q (.now (frz p.1), p.2) := by unfold oNow; repeat' first | rfl | exact wp_some | refine wp_if2 ?_ ?_ | (refine wp_b1 fun _ => ?_) | (refine wp_b2 fun _ => ?_) | (refine wp_m1 fun _ => ?_) | (refine wp_m2 fun _ => ?_) | (rw [wp_guard]; refine congrArg (And _) ?_)
@[simp] theorem res_now {s : Sv} : res (.now s) ρ = some s := rfl
@[simp] theorem res_late {j : Nat} : res (.late j) ρ = (ρ[j]?).join := rfl
@[simp ↓] theorem w_eOp2 {op} {Q} : Wp (eOp2 op fa fb ρ) Q = Wp (fa ρ) fun p => Wp (fb p.2) fun q => wO (res p.1 q.2) fun x => wO (res q.1 q.2) fun y => wO (op x y) fun s => Q (s, q.2) := by unfold eOp2; repeat' first | rfl | exact wp_some | refine wp_if2 ?_ ?_ | (refine wp_b1 fun _ => ?_) | (refine wp_b2 fun _ => ?_) | (refine wp_m1 fun _ => ?_) | (refine wp_m2 fun _ => ?_) | (rw [wp_guard]; refine congrArg (And _) ?_)
@[simp ↓] theorem w_eOp1 {op} {Q} : Wp (eOp1 op fa ρ) Q = Wp (fa ρ) fun p => wO (res p.1 p.2) fun x => wO (op x) fun s => Q (s, p.2) := by unfold eOp1; repeat' first | rfl | exact wp_some | refine wp_if2 ?_ ?_ | (refine wp_b1 fun _ => ?_) | (refine wp_b2 fun _ => ?_) | (refine wp_m1 fun _ => ?_) | (refine wp_m2 fun _ => ?_) | (rw [wp_guard]; refine congrArg (And _) ?_)
@[simp ↓] theorem w_aNil {Q} : Wp (aNil ρ) Q = Q ([], ρ) := wp_some
@[simp ↓] theorem w_aCons {Q} : Wp (aCons fa as ρ) Q = Wp (fa ρ) fun p => Wp (as p.2) fun q => Q (p.1 :: q.1, q.2) := by unfold aCons; repeat' first | rfl | exact wp_some | refine wp_if2 ?_ ?_ | (refine wp_b1 fun _ => ?_) | (refine wp_b2 fun _ => ?_) | (refine wp_m1 fun _ => ?_) | (refine wp_m2 fun _ => ?_) | (rw [wp_guard]; refine congrArg (And _) ?_)
@[simp] theorem resL_nil : resL [] ρ = some [] := rfl
@[simp] theorem resL_cons {p r} : resL (p :: r) ρ = (res p ρ).bind fun x => (resL r ρ).map (x :: ·) := rfl
@[simp ↓] theorem w_eOpN {op} {Q} : Wp (eOpN op as ρ) Q = Wp (as ρ) fun p => wO (resL p.1 p.2) fun xs => wO (op xs) fun s => Q (s, p.2) := by unfold eOpN; repeat' first | rfl | exact wp_some | refine wp_if2 ?_ ?_ | (refine wp_b1 fun _ => ?_) | (refine wp_b2 fun _ => ?_) | (refine wp_m1 fun _ => ?_) | (refine wp_m2 fun _ => ?_) | (rw [wp_guard]; refine congrArg (And _) ?_)
@[simp] theorem on1_s {op : Sv → Option Sv} {x : Sv} : on1 op [x] = op x := rfl
@[simp] theorem on2_s {op : Sv → Sv → Option Sv} {x y : Sv} : on2 op [x, y] = op x y := rfl
@[simp] theorem datL_nil : datL [] = some [] := rfl
@[simp] theorem datL_cons {d r} : datL (.now (.dat d) :: r) = (datL r).map (d :: ·) := rfl
@[simp ↓] theorem w_eTup {Q} : Wp (eTup as ρ) Q = Wp (as ρ) fun p => wO (datL p.1) fun ds => ds.length ≤ 1000 ∧ Q (.dat (.tuple ds), p.2) := by unfold eTup; repeat' first | rfl | exact wp_some | refine wp_if2 ?_ ?_ | (refine wp_b1 fun _ => ?_) | (refine wp_b2 fun _ => ?_) | (refine wp_m1 fun _ => ?_) | (refine wp_m2 fun _ => ?_) | (rw [wp_guard]; refine congrArg (And _) ?_)
@[simp ↓] theorem w_eLst {Q} : Wp (eLst as ρ) Q = Wp (as ρ) fun p => wO (datL p.1) fun ds => ds.length ≤ 1000 ∧ Q (.own (.lst ds), p.2) := by unfold eLst; repeat' first | rfl | exact wp_some | refine wp_if2 ?_ ?_ | (refine wp_b1 fun _ => ?_) | (refine wp_b2 fun _ => ?_) | (refine wp_m1 fun _ => ?_) | (refine wp_m2 fun _ => ?_) | (rw [wp_guard]; refine congrArg (And _) ?_)
@[simp ↓] theorem w_tB {Q} : Wp (tB f ρ) Q = Wp (f ρ) fun p => wB p.1 fun b => Q (b, p.2) := by
  unfold DL.tB
  rw [wp_bind]
  refine wp_cg fun p => ?_
  obtain ⟨s, r⟩ := p
  unfold wB
  split
  · rename_i b e
    cases e
    simp
  · rename_i h
    rw [wp_none]
    apply propext
    refine ⟨False.elim, fun ⟨b, e, _⟩ => h b e⟩
@[simp ↓] theorem w_tNt {Q} : Wp (tNt c ρ) Q = Wp (c ρ) fun p => Q (!p.1, p.2) := by unfold DL.tNt; repeat' first | rfl | exact wp_some | refine wp_if2 ?_ ?_ | (refine wp_b1 fun _ => ?_) | (refine wp_b2 fun _ => ?_) | (refine wp_m1 fun _ => ?_) | (refine wp_m2 fun _ => ?_) | (rw [wp_guard]; refine congrArg (And _) ?_)
@[simp ↓] theorem w_tAn {Q} : Wp (tAn t u ρ) Q = Wp (t ρ) fun p => wIf p.1 (Wp (u p.2) Q) (Q (false, p.2)) := by
  unfold DL.tAn; repeat' first | rfl | exact wp_some | refine wp_if2 ?_ ?_ | (refine wp_b1 fun _ => ?_) | (refine wp_b2 fun _ => ?_) | (refine wp_m1 fun _ => ?_) | (refine wp_m2 fun _ => ?_) | (rw [wp_guard]; refine congrArg (And _) ?_)
@[simp ↓] theorem w_tOr {Q} : Wp (tOr' t u ρ) Q = Wp (t ρ) fun p => wIf p.1 (Q (true, p.2)) (Wp (u p.2) Q) := by
  unfold DL.tOr'; repeat' first | rfl | exact wp_some | refine wp_if2 ?_ ?_ | (refine wp_b1 fun _ => ?_) | (refine wp_b2 fun _ => ?_) | (refine wp_m1 fun _ => ?_) | (refine wp_m2 fun _ => ?_) | (rw [wp_guard]; refine congrArg (And _) ?_)
@[simp ↓] theorem w_eAn {Q} : Wp (eAn f g ρ) Q = Wp (f ρ) fun p => wB p.1 fun b => wIf b (Wp (g p.2) Q) (Q (.dat (.bool false), p.2)) := by
  unfold eAn; rw [wp_bind, w_tB]; refine wp_cg fun p => wb_cg fun b => ?_; refine wp_if2 ?_ ?_ <;> first | rfl | exact wp_some
@[simp ↓] theorem w_eOr {Q} : Wp (eOr f g ρ) Q = Wp (f ρ) fun p => wB p.1 fun b => wIf b (Q (.dat (.bool true), p.2)) (Wp (g p.2) Q) := by
  unfold eOr; rw [wp_bind, w_tB]; refine wp_cg fun p => wb_cg fun b => ?_; refine wp_if2 ?_ ?_ <;> first | rfl | exact wp_some
@[simp ↓] theorem w_eNt {Q} : Wp (eNt f ρ) Q = Wp (f ρ) fun p => wB p.1 fun b => Q (.dat (.bool !b), p.2) := by unfold eNt; rw [wp_map, w_tB]; repeat' first | rfl | exact wp_some | refine wp_if2 ?_ ?_ | (refine wp_b1 fun _ => ?_) | (refine wp_b2 fun _ => ?_) | (refine wp_m1 fun _ => ?_) | (refine wp_m2 fun _ => ?_) | (rw [wp_guard]; refine congrArg (And _) ?_)
@[simp ↓] theorem w_eIf {Q} : Wp (eIf c f g ρ) Q = Wp (c ρ) fun p => wIf p.1 (Wp (f p.2) Q) (Wp (g p.2) Q) := by
  unfold eIf; repeat' first | rfl | exact wp_some | refine wp_if2 ?_ ?_ | (refine wp_b1 fun _ => ?_) | (refine wp_b2 fun _ => ?_) | (refine wp_m1 fun _ => ?_) | (refine wp_m2 fun _ => ?_) | (rw [wp_guard]; refine congrArg (And _) ?_)
/-- where a statement goes on -/
def kO (o : Out) (k : Ev → Prop) (Q : Out → Prop) (t : Tg k := .mk) (u : Tg Q := .mk) : Prop := match o with
  | .nx ρ => k ρ
  | o => Q o
@[simp ↓] theorem kO_nx {k : Ev → Prop} {Q : Out → Prop} : kO (.nx ρ) k Q = k ρ := rfl
@[simp ↓] theorem kO_rt {s : Sv} {k : Ev → Prop} {Q : Out → Prop} : kO (.rt s ρ) k Q = Q (.rt s ρ) := rfl
@[simp ↓] theorem kO_bk {k : Ev → Prop} {Q : Out → Prop} : kO (.bk ρ) k Q = Q (.bk ρ) := rfl
@[simp ↓] theorem kO_ct {k : Ev → Prop} {Q : Out → Prop} : kO (.ct ρ) k Q = Q (.ct ρ) := rfl
@[simp ↓] theorem w_sSeq {Q} : Wp (sSeq a b ρ) Q = Wp (a ρ) fun o => kO o (fun r => Wp (b r) Q) Q := by
  unfold DL.sSeq; rw [wp_bind]; refine wp_cg fun o => ?_; cases o <;> simp
@[simp ↓] theorem w_sNil {Q} : Wp (sNil ρ) Q = Q (.nx ρ) := wp_some
@[simp ↓] theorem w_sBrk {Q} : Wp (sBrk ρ) Q = Q (.bk ρ) := wp_some
@[simp ↓] theorem w_sCnt {Q} : Wp (sCnt ρ) Q = Q (.ct ρ) := wp_some
@[simp ↓] theorem w_sNo {Q} : Wp (sNo ρ) Q = False := wp_none
@[simp ↓] theorem w_sExpr {Q} : Wp (sExpr f ρ) Q = Wp (f ρ) fun p => Q (.nx p.2) := by unfold DL.sExpr; repeat' first | rfl | exact wp_some | refine wp_if2 ?_ ?_ | (refine wp_b1 fun _ => ?_) | (refine wp_b2 fun _ => ?_) | (refine wp_m1 fun _ => ?_) | (refine wp_m2 fun _ => ?_) | (rw [wp_guard]; refine congrArg (And _) ?_)
@[simp ↓] theorem w_sRet {Q} : Wp (sRet f ρ) Q = Wp (f ρ) fun p => Q (.rt p.1 p.2) := by unfold DL.sRet; repeat' first | rfl | exact wp_some | refine wp_if2 ?_ ?_ | (refine wp_b1 fun _ => ?_) | (refine wp_b2 fun _ => ?_) | (refine wp_m1 fun _ => ?_) | (refine wp_m2 fun _ => ?_) | (rw [wp_guard]; refine congrArg (And _) ?_)
@[simp ↓] theorem w_sIf {Q} : Wp (sIf c a b ρ) Q = Wp (c ρ) fun p => wIf p.1 (Wp (a p.2) Q) (Wp (b p.2) Q) := by
  unfold DL.sIf; repeat' first | rfl | exact wp_some | refine wp_if2 ?_ ?_ | (refine wp_b1 fun _ => ?_) | (refine wp_b2 fun _ => ?_) | (refine wp_m1 fun _ => ?_) | (refine wp_m2 fun _ => ?_) | (rw [wp_guard]; refine congrArg (And _) ?_)
@[simp ↓] theorem w_sSet {j : Nat} {Q} : Wp (sSet j f ρ) Q = Wp (f ρ) fun p => j < p.2.length ∧ Q (.nx (p.2.set j (some p.1))) := by unfold DL.sSet; repeat' first | rfl | exact wp_some | refine wp_if2 ?_ ?_ | (refine wp_b1 fun _ => ?_) | (refine wp_b2 fun _ => ?_) | (refine wp_m1 fun _ => ?_) | (refine wp_m2 fun _ => ?_) | (rw [wp_guard]; refine congrArg (And _) ?_)
def wD (s : Sv) (k : D → Prop) (t : Tg k := .mk) : Prop := ∃ d, s = .dat d ∧ k d
@[simp ↓] theorem wD_d {d : D} {k : D → Prop} : wD (.dat d) k = k d := by unfold wD; apply propext; constructor; (rintro ⟨c, e, q⟩; cases e; exact q); exact fun q => ⟨d, rfl, q⟩
@[simp ↓] theorem w_sAsg {tg : D → Ev → Option Ev} {Q} : Wp (sAsg f tg ρ) Q = Wp (f ρ) fun p => wD (frz p.1) fun d => Wp (tg d p.2) fun r => Q (.nx r) := by
  unfold DL.sAsg; rw [wp_bind]; refine wp_cg fun p => ?_
  unfold wD
  split
  · rename_i d e
    rw [e]; apply propext; simp
  · rename_i h
    rw [wp_none]
    apply propext
    refine ⟨False.elim, fun ⟨b, e, _⟩ => h b e⟩
@[simp ↓] theorem w_gN {j : Nat} {d : D} {Q} : Wp (gN j d ρ) Q = (j < ρ.length ∧ Q (ρ.set j (some (.dat d)))) := by unfold gN; repeat' first | rfl | exact wp_some | refine wp_if2 ?_ ?_ | (refine wp_b1 fun _ => ?_) | (refine wp_b2 fun _ => ?_) | (refine wp_m1 fun _ => ?_) | (refine wp_m2 fun _ => ?_) | (rw [wp_guard]; refine congrArg (And _) ?_)
@[simp ↓] theorem w_gsNil {Q} : Wp (gsNil [] ρ) Q = Q ρ := wp_some
@[simp ↓] theorem w_gsCons {tg : D → Ev → Option Ev} {gs d ds} {Q} : Wp (gsCons tg gs (d :: ds) ρ) Q = Wp (tg d ρ) fun r => Wp (gs ds r) Q := by unfold DL.gsCons; repeat' first | rfl | exact wp_some | refine wp_if2 ?_ ?_ | (refine wp_b1 fun _ => ?_) | (refine wp_b2 fun _ => ?_) | (refine wp_m1 fun _ => ?_) | (refine wp_m2 fun _ => ?_) | (rw [wp_guard]; refine congrArg (And _) ?_)
@[simp ↓] theorem w_gTp {n : Nat} {gs ds} {Q} : Wp (gTp n gs (.tuple ds) ρ) Q = (ds.length = n ∧ Wp (gs ds ρ) Q) := by unfold gTp; exact wp_guard
def wX (s : Sv) (k : List D → Prop) (t : Tg k := .mk) : Prop := ∃ xs, (s = .dat (.list xs) ∨ s = .dat (.tuple xs)) ∧ k xs
@[simp ↓] theorem wX_l {xs : List D} {k : List D → Prop} : wX (.dat (.list xs)) k = k xs := by unfold wX; apply propext; constructor; (rintro ⟨c, e | e, q⟩ <;> cases e; exact q); exact fun q => ⟨xs, .inl rfl, q⟩
@[simp ↓] theorem wX_t {xs : List D} {k : List D → Prop} : wX (.dat (.tuple xs)) k = k xs := by unfold wX; apply propext; constructor; (rintro ⟨c, e | e, q⟩ <;> cases e; exact q); exact fun q => ⟨xs, .inr rfl, q⟩
@[simp ↓] theorem w_iSeq {Q} : Wp (iSeq f ρ) Q = Wp (f ρ) fun p => wX (frz p.1) fun xs => Q (xs, p.2) := by
  unfold DL.iSeq; rw [wp_bind]; refine wp_cg fun p => ?_
  unfold wX
  split
  · rename_i d e
    rw [e]; apply propext; simp
  · rename_i d e
    rw [e]; apply propext; simp
  · rename_i h1 h2
    rw [wp_none]
    apply propext
    refine ⟨False.elim, fun ⟨b, e, _⟩ => e.elim (h1 b) (h2 b)⟩
@[simp ↓] theorem w_sFor {it tg Q} : Wp (sFor it tg a ρ) Q = Wp (it ρ) fun p => Wp (forL tg a p.1 p.2) Q := by unfold DL.sFor; repeat' first | rfl | exact wp_some | refine wp_if2 ?_ ?_ | (refine wp_b1 fun _ => ?_) | (refine wp_b2 fun _ => ?_) | (refine wp_m1 fun _ => ?_) | (refine wp_m2 fun _ => ?_) | (rw [wp_guard]; refine congrArg (And _) ?_)
/-- where a round goes on -/
def rO (o : Out) (k : Ev → Prop) (Q : Out → Prop) (t : Tg k := .mk) (u : Tg Q := .mk) : Prop := match o with
  | .nx ρ => k ρ
  | .ct ρ => k ρ
  | .bk ρ => Q (.nx ρ)
  | .rt s ρ => Q (.rt s ρ)
@[simp ↓] theorem rO_nx {k : Ev → Prop} {Q : Out → Prop} : rO (.nx ρ) k Q = k ρ := rfl
@[simp ↓] theorem rO_rt {s : Sv} {k : Ev → Prop} {Q : Out → Prop} : rO (.rt s ρ) k Q = Q (.rt s ρ) := rfl
@[simp ↓] theorem rO_bk {k : Ev → Prop} {Q : Out → Prop} : rO (.bk ρ) k Q = Q (.nx ρ) := rfl
@[simp ↓] theorem rO_ct {k : Ev → Prop} {Q : Out → Prop} : rO (.ct ρ) k Q = k ρ := rfl
theorem rO_mono {o : Out} {k k' : Ev → Prop} {Q : Out → Prop} (h : rO o k Q) (m : ∀ r, k r → k' r) : rO o k' Q := by cases o <;> simp_all
@[simp ↓] theorem w_forL_nil {tg Q} : Wp (forL tg a [] ρ) Q = Q (.nx ρ) := wp_some
theorem w_forL_cons {tg x xs Q} : Wp (forL tg a (x :: xs) ρ) Q = Wp (tg x ρ) fun r => Wp (a r) fun o => rO o (fun r2 => Wp (forL tg a xs r2) Q) Q := by
  rw [forL]; refine wp_b1 fun r => wp_b1 fun o => ?_; cases o <;> simp
/-- a for with what holds before each round -/
theorem for_inv {tg} {Q : Out → Prop} {xs : List D} (I : List D → Ev → Prop) (step : ∀ x ys r, (∃ ds, ds ++ x :: ys = xs) → I (x :: ys) r → Wp (tg x r) fun r1 => Wp (a r1) fun o => rO o (I ys) Q) (h0 : ∀ r, I [] r → Q (.nx r)) (h : I xs ρ) : Wp (forL tg a xs ρ) Q := by
  have gen : ∀ (ys : List D) (r : Ev), (∃ ds, ds ++ ys = xs) → I ys r → Wp (forL tg a ys r) Q := by
    intro ys
    induction ys with
    | nil => intro r _ h; rw [w_forL_nil]; exact h0 r h
    | cons x ys ih =>
      intro r hd h
      rw [w_forL_cons]
      refine (step x ys r hd h).mono fun r1 h1 => h1.mono fun o h2 => rO_mono h2 fun r2 h3 => ih r2 ?_ h3
      obtain ⟨ds, e⟩ := hd
      exact ⟨ds ++ [x], by rw [← e]; simp⟩
  exact gen xs ρ ⟨[], rfl⟩ h
/-- .. over lo, lo + 1, .. -/
theorem for_int {tg} {Q : Out → Prop} {lo : Int} {n : Nat} (I : Nat → Ev → Prop) (step : ∀ i r, i < n → I i r → Wp (tg (.int (lo + (i : Nat))) r) fun r1 => Wp (a r1) fun o => rO o (I (i + 1)) Q) (h1 : ∀ r, I n r → Q (.nx r)) (h : I 0 ρ) : Wp (forL tg a (intsR lo n) ρ) Q := by
  have gen : ∀ (m i : Nat) (r : Ev), i + m = n → I i r → Wp (forL tg a ((List.range' i m).map fun (i : Nat) => PyData.int (lo + i)) r) Q := by
    intro m
    induction m with
    | zero => intro i r e h; rw [List.range'_zero, List.map_nil, w_forL_nil]; exact h1 r (by simpa using e ▸ h)
    | succ m ih =>
      intro i r e h
      rw [List.range'_succ, List.map_cons, w_forL_cons]
      exact (step i r (by omega) h).mono fun r1 h1 => h1.mono fun o h2 => rO_mono h2 fun r2 h3 => ih (i + 1) r2 (by omega) h3
  unfold intsR
  rw [List.range_eq_range']
  exact gen n 0 ρ (by omega) h
def rg1 : List Sv → Option (List D)
  | [.dat (.int j)] => if -1000000000 ≤ j ∧ j ≤ 1000000000 then some (intsR 0 j.toNat) else none
  | _ => none
def rg2 : List Sv → Option (List D)
  | [.dat (.int i), .dat (.int j)] => if (-1000000000000000 ≤ i ∧ i ≤ 1000000000000000) ∧ (-1000000000000000 ≤ j ∧ j ≤ 1000000000000000) then some (intsR i (j - i).toNat) else none
  | _ => none
@[simp] theorem rg1_s {j : Int} : rg1 [.dat (.int j)] = if -1000000000 ≤ j ∧ j ≤ 1000000000 then some (intsR 0 j.toNat) else none := rfl
@[simp] theorem rg2_s {i j : Int} : rg2 [.dat (.int i), .dat (.int j)] = if (-1000000000000000 ≤ i ∧ i ≤ 1000000000000000) ∧ (-1000000000000000 ≤ j ∧ j ≤ 1000000000000000) then some (intsR i (j - i).toNat) else none := rfl
@[simp ↓] theorem w_iR1 {Q} : Wp (iR1 as ρ) Q = Wp (as ρ) fun p => wO (resL p.1 p.2) fun xs => wO (rg1 xs) fun l => Q (l, p.2) := by
  unfold iR1; refine wp_b1 fun p => wp_b2 fun xs => ?_
  unfold rg1
  split <;> (try split) <;> (try simp_all [wp_none, wO]) <;> (try (intros; omega))
@[simp ↓] theorem w_iR2 {Q} : Wp (iR2 as ρ) Q = Wp (as ρ) fun p => wO (resL p.1 p.2) fun xs => wO (rg2 xs) fun l => Q (l, p.2) := by
  unfold iR2; refine wp_b1 fun p => wp_b2 fun xs => ?_
  unfold rg2
  split <;> (try split) <;> (try simp_all [wp_none, wO]) <;> (try (intros; omega))
/-- a def -/
def outsR (io : List Nat) : Nat → Nat → Ev → Ev
  | _, 0, _ => []
  | i, n + 1, x :: ρ => (if io.contains i then x else none) :: outsR io (i + 1) n ρ
  | i, n + 1, [] => none :: outsR io (i + 1) n []
theorem outs_gen (io : List Nat) : ∀ (n i : Nat) (ρ : Ev), (List.range' i n).map (fun m => if io.contains m then (ρ[m - i]?).join else none) = outsR io i n ρ := by
  intro n
  induction n with
  | zero => intro i ρ; rw [outsR]; rfl
  | succ n ih =>
    intro i ρ
    rw [List.range'_succ, List.map_cons]
    cases ρ with
    | nil =>
      rw [outsR, ← ih (i + 1) []]
      simp
    | cons x ρ =>
      rw [outsR, ← ih (i + 1) ρ]
      congr 1
      · simp
      · apply List.map_congr_left
        intro m hm
        have : i + 1 ≤ m := by simp [List.mem_range'] at hm; omega
        have e : m - i = (m - (i + 1)) + 1 := by omega
        rw [e, List.getElem?_cons_succ]
@[simp] theorem outs_eq {io : List Nat} {np : Nat} : outsOf io np ρ = outsR io 0 np ρ := by
  unfold outsOf
  rw [← outs_gen, List.range_eq_range']
  simp
@[simp] theorem outsR_zero {io : List Nat} {i : Nat} : outsR io i 0 ρ = [] := by cases ρ <;> rfl
@[simp] theorem outsR_cons {io : List Nat} {i n : Nat} {x : Option Sv} : outsR io i (n + 1) (x :: ρ) = (if io.contains i then x else none) :: outsR io (i + 1) n ρ := rfl
def oF (o : Out) (io : List Nat) (np : Nat) (Q : Sv × Ev → Prop) (t : Tg Q := .mk) : Prop := match o with
  | .rt s ρ => Q (s, outsOf io np ρ)
  | .nx ρ => Q (.dat .none, outsOf io np ρ)
  | _ => False
@[simp ↓] theorem oF_rt {s : Sv} {io np Q} : oF (.rt s ρ) io np Q = Q (s, outsOf io np ρ) := rfl
@[simp ↓] theorem oF_nx {io np Q} : oF (.nx ρ) io np Q = Q (.dat .none, outsOf io np ρ) := rfl
@[simp ↓] theorem oF_bk {io np Q} : oF (.bk ρ) io np Q = False := rfl
@[simp ↓] theorem oF_ct {io np Q} : oF (.ct ρ) io np Q = False := rfl
@[simp ↓] theorem w_mkFn {np n : Nat} {io : List Nat} {args : List Sv} {Q} : Wp ((mkFn np n io a).run args) Q = (args.length = np ∧ Wp (a (startE np n args)) fun o => oF o io np Q) := by
  unfold mkFn
  dsimp only
  rw [wp_guard]
  cases a (startE np n args) with
  | none => simp
  | some o => cases o <;> simp
@[simp] theorem io_mkFn {np n : Nat} {io : List Nat} : (mkFn np n io a).io = io := rfl
@[simp ↓] theorem w_eCall {F : Fn} {Q} : Wp (eCall F as ρ) Q = Wp (as ρ) fun p => lentOk F.io 0 p.1 = true ∧ wO (resL p.1 p.2) fun xs => Wp (F.run xs) fun q => Q (q.1, putBack p.1 q.2 p.2) := by
  unfold eCall; repeat' first | rfl | exact wp_some | refine wp_if2 ?_ ?_ | (refine wp_b1 fun _ => ?_) | (refine wp_b2 fun _ => ?_) | (refine wp_m1 fun _ => ?_) | (refine wp_m2 fun _ => ?_) | (rw [wp_guard]; refine congrArg (And _) ?_)
@[simp] theorem putBack_late {j r o os} : putBack (.late j :: r) (o :: os) ρ = putBack r os (ρ.set j o) := rfl
@[simp] theorem putBack_now {s r o os} : putBack (.now s :: r) (o :: os) ρ = putBack r os ρ := rfl
@[simp] theorem putBack_nil {os} : putBack [] os ρ = ρ := rfl
@[simp] theorem lentOk_nil {io i} : lentOk io i [] = true := rfl
@[simp] theorem lentOk_now {io i s r} : lentOk io i (.now s :: r) = lentOk io (i + 1) r := rfl
@[simp] theorem lentOk_late {io i j r} : lentOk io i (.late j :: r) = (io.contains i && !(lates r).contains j && lentOk io (i + 1) r) := rfl
@[simp] theorem lates_nil : lates [] = [] := rfl
@[simp] theorem lates_late {j r} : lates (.late j :: r) = j :: lates r := rfl
@[simp] theorem lates_now {s r} : lates (.now s :: r) = lates r := rfl
@[simp] theorem ownL_s {j : Nat} : ownL ρ j = match ρ[j]? with
  | some (some (.own (.lst xs))) => some xs
  | _ => none := rfl
@[simp ↓] theorem w_eMut {j op Q} : Wp (eMut j op as ρ) Q = wO (ownL ρ j) fun _ => Wp (as ρ) fun p => wO (resL p.1 p.2) fun args => wO (ownL p.2 j) fun xs => wO (op xs args) fun r => Q (r.1, p.2.set j (some (.own (.lst r.2)))) := by
  unfold eMut; repeat' first | rfl | exact wp_some | refine wp_if2 ?_ ?_ | (refine wp_b1 fun _ => ?_) | (refine wp_b2 fun _ => ?_) | (refine wp_m1 fun _ => ?_) | (refine wp_m2 fun _ => ?_) | (rw [wp_guard]; refine congrArg (And _) ?_)
def ixI (i : Sv) (n : Nat) : Option Nat := match i with
  | .dat (.int k) => ixN n k
  | _ => none
@[simp] theorem ixI_s {k : Int} {n : Nat} : ixI (.dat (.int k)) n = ixN n k := rfl
@[simp ↓] theorem w_gIx {j fi d Q} : Wp (gIx j fi d ρ) Q = wO (ownL ρ j) fun _ => Wp (fi ρ) fun p => wO (res p.1 p.2) fun i => wO (ownL p.2 j) fun xs => wO (ixI i xs.length) fun m => Q (p.2.set j (some (.own (.lst (xs.set m d))))) := by
  unfold gIx
  refine wp_b2 fun x => wp_b1 fun p => wp_b2 fun i => wp_b2 fun xs => ?_
  unfold ixI
  split
  · rw [← wp_def, wp_map]
  · simp [wO]
@[simp] theorem datC_dat {d : D} : datC (.dat d) = some d := rfl
@[simp] theorem datC_own {xs : List D} : datC (.own (.lst xs)) = some (.list xs) := rfl
@[simp] theorem datC_fro {xs : List D} : datC (.fro (.lst xs)) = some (.list xs) := rfl
end
theorem ofS_eq {a b : String} : (Str.ofString a == Str.ofString b) = (a == b) := by
  have e : ∀ a b : String, Str.ofString a = Str.ofString b ↔ a = b := fun a b => by
    constructor
    · intro h
      rw [Str.ofString_eq_toList, Str.ofString_eq_toList] at h
      have h := congrArg (fun s : Str => s.cps.toList) h
      simp only at h
      have : a.toList = b.toList := by
        have inj : ∀ x y : Char, x.toNat = y.toNat → x = y := fun x y h => Char.toNat_inj.mp h
        have h' : ∀ l m : List Char, l.map Char.toNat = m.map Char.toNat → l = m := by
          intro l
          induction l with
          | nil => intro m h; cases m with
            | nil => rfl
            | cons _ _ => simp at h
          | cons x l ih => intro m h; cases m with
            | nil => simp at h
            | cons y m => simp only [List.map_cons, List.cons.injEq] at h; rw [inj _ _ h.1, ih m h.2]
        exact h' _ _ h
      exact String.toList_inj.mp this
    · rintro rfl; rfl
  by_cases h : a = b
  · subst h; simp
  · have h2 : ¬ Str.ofString a = Str.ofString b := fun z => h ((e a b).mp z)
    rw [beq_eq_false_iff_ne.mpr h, beq_eq_false_iff_ne.mpr h2]
/-- draws that are left: ints, owned -/
abbrev iL (st : List Int) : Sv := .own (.lst (st.map .int))
/-- the script -/
abbrev iS (ns : List Int) : Sv := .dat (.list (ns.map .int))
end DL
namespace DL
open PySem PySem.Spec PyProof.Rows L2
section
variable {i j : Int} {x y : Str} {a b : Bool} {xs ys : List D} {d e : D}
@[simp] theorem eqv_ii : PyData.eqv (.int i) (.int j) = decide (i = j) := by rw [PyData.eqv]; rfl
@[simp] theorem eqv_ss : PyData.eqv (.str x) (.str y) = (x == y) := by rw [PyData.eqv]
@[simp] theorem eqv_bb : PyData.eqv (.bool a) (.bool b) = (a == b) := by rw [PyData.eqv]
@[simp] theorem eqv_nn : PyData.eqv .none .none = true := by rw [PyData.eqv]
@[simp] theorem eqv_tt : PyData.eqv (.tuple xs) (.tuple ys) = PyData.eqvAll xs ys := by rw [PyData.eqv]
@[simp] theorem eqv_ll : PyData.eqv (.list xs) (.list ys) = PyData.eqvAll xs ys := by rw [PyData.eqv]
@[simp] theorem eqv_ni : PyData.eqv .none (.int j) = false := by rw [PyData.eqv]
@[simp] theorem eqv_in : PyData.eqv (.int i) .none = false := by rw [PyData.eqv]
@[simp] theorem eqv_ns : PyData.eqv .none (.str y) = false := by rw [PyData.eqv]
@[simp] theorem eqv_sn : PyData.eqv (.str x) .none = false := by rw [PyData.eqv]
@[simp] theorem eqv_nb : PyData.eqv .none (.bool b) = false := by rw [PyData.eqv]
@[simp] theorem eqv_bn : PyData.eqv (.bool b) .none = false := by rw [PyData.eqv]
@[simp] theorem eqv_is : PyData.eqv (.int i) (.str y) = false := by rw [PyData.eqv]
@[simp] theorem eqv_si : PyData.eqv (.str x) (.int j) = false := by rw [PyData.eqv]
@[simp] theorem eqv_nt : PyData.eqv .none (.tuple ys) = false := by rw [PyData.eqv]
@[simp] theorem eqv_tn : PyData.eqv (.tuple xs) .none = false := by rw [PyData.eqv]
@[simp] theorem eqv_nl : PyData.eqv .none (.list ys) = false := by rw [PyData.eqv]
@[simp] theorem eqv_ln : PyData.eqv (.list xs) .none = false := by rw [PyData.eqv]
@[simp] theorem eqv_a0 : PyData.eqvAll [] [] = true := by rw [PyData.eqvAll]
@[simp] theorem eqv_ac : PyData.eqvAll (d :: xs) (e :: ys) = (PyData.eqv d e && PyData.eqvAll xs ys) := by rw [PyData.eqvAll]
@[simp] theorem eqv_a1 : PyData.eqvAll [] (e :: ys) = false := by rw [PyData.eqvAll]
@[simp] theorem eqv_a2 : PyData.eqvAll (d :: xs) [] = false := by rw [PyData.eqvAll]
@[simp] theorem ofS_beq {a b : String} : (Str.ofString a == Str.ofString b) = (a == b) := ofS_eq
@[simp] theorem startE_s {np n : Nat} {args : List Sv} : startE np n args = args.map some ++ List.replicate (n - np) none := rfl
@[simp] theorem wIf_and {b c : Bool} {p q : Prop} : wIf (b && c) p q = wIf b (wIf c p q) q := by cases b <;> cases c <;> simp
@[simp] theorem wIf_or {b c : Bool} {p q : Prop} : wIf (b || c) p q = wIf b p (wIf c p q) := by cases b <;> cases c <;> simp
theorem wIf_d {c : Prop} [Decidable c] {p q : Prop} (h : c → p) (k : ¬ c → q) : wIf (decide c) p q := ⟨fun z => h (of_decide_eq_true z), fun z => k (of_decide_eq_false z)⟩
end
/-- draws: what is taken, what is left -/
def tkV (st : List Int) (m : Int) : Int := st.getLastD 0 % m
def tkS (st : List Int) : List Int := st.dropLast
theorem tk_nil (m : Int) : tkV [] m = 0 := by simp [tkV]
theorem tk_lo (st : List Int) {m : Int} (h : 0 < m) : 0 ≤ tkV st m := Int.emod_nonneg _ (by omega)
theorem tk_hi (st : List Int) {m : Int} (h : 0 < m) : tkV st m < m := Int.emod_lt_of_pos _ h
theorem map_last {st : List Int} (h : st ≠ []) : (st.map PyData.int)[st.length - 1]? = some (.int (st.getLastD 0)) := by
  rw [List.getElem?_map]
  have := List.getLast?_eq_getElem? (l := st)
  rw [← this, List.getLast?_eq_some_getLast h]
  simp [List.getLastD_eq_getLast?, List.getLast?_eq_some_getLast h]
end DL
namespace DL
open PySem PySem.Spec PyProof.Rows L2
theorem ixN_pos {n : Nat} {i : Int} (h : 0 ≤ i) (k : i < n) : ixN n i = some i.toNat := by unfold ixN; rw [if_pos h, if_pos k]
theorem atI_pos {xs : List D} {i : Int} (h : 0 ≤ i) (k : i < xs.length) : atI xs i = some (xs.getD i.toNat .none) := by
  unfold atI
  rw [ixN_pos h k, Option.bind_some, List.getD_eq_getElem?_getD]
  have : i.toNat < xs.length := by omega
  rw [List.getElem?_eq_getElem this]; rfl
def nthI (ns : List Int) (i : Int) : Int := ns.getD i.toNat 0
theorem nthI_mem {ns : List Int} {i : Int} (h : 0 ≤ i) (k : i < ns.length) : nthI ns i ∈ ns := by
  have : i.toNat < ns.length := by omega
  unfold nthI
  rw [List.getD_eq_getElem?_getD, List.getElem?_eq_getElem this]
  exact List.getElem_mem this
theorem lg_lt {x : Int} {k : Nat} (h : x.natAbs < 2 ^ (k + 1)) : x.natAbs.log2 < k + 1 := by
  by_cases e : x.natAbs = 0
  · rw [e]; simp
  · exact (Nat.log2_lt e).mpr h
theorem atI_int {ns : List Int} {i : Int} (h : 0 ≤ i) (k : i < ns.length) : atI (ns.map PyData.int) i = some (.int (nthI ns i)) := by
  unfold atI nthI
  have : i.toNat < ns.length := by omega
  rw [List.length_map, ixN_pos h k, Option.bind_some, List.getElem?_map, List.getD_eq_getElem?_getD, List.getElem?_eq_getElem this]; rfl
section
variable {it : Ev → Option (List D × Ev)} {g : D → Ev → Option Ev} {t : Ev → Option (Bool × Ev)} {e : Ev → Option (Sv × Ev)} {vs : List Nat} {ρ : Ev}
@[simp ↓] theorem w_eLc {Q} : Wp (eLc it g t e vs ρ) Q = Wp (it ρ) fun p => p.1.length ≤ 1000000 ∧ Wp (lcL g t e vs p.1 (wipeE p.2 vs)) fun r => Q (.own (.lst r.1), backE p.2 r.2 vs) := by
  unfold eLc; repeat' first | rfl | exact wp_some | refine wp_if2 ?_ ?_ | (refine wp_b1 fun _ => ?_) | (refine wp_b2 fun _ => ?_) | (refine wp_m1 fun _ => ?_) | (refine wp_m2 fun _ => ?_) | (rw [wp_guard]; refine congrArg (And _) ?_)
@[simp] theorem wipeE_nil : wipeE ρ [] = ρ := rfl
@[simp] theorem wipeE_cons {v : Nat} {vs : List Nat} : wipeE ρ (v :: vs) = (wipeE ρ vs).set v none := rfl
@[simp] theorem backE_nil {ρ1 : Ev} : backE ρ1 ρ [] = ρ := rfl
@[simp] theorem backE_cons {ρ1 : Ev} {v : Nat} {vs : List Nat} : backE ρ1 ρ (v :: vs) = match ρ1[v]? with
  | some o => (backE ρ1 ρ vs).set v o
  | none => backE ρ1 ρ vs := rfl
@[simp ↓] theorem w_tY {Q} : Wp (tY ρ) Q = Q (true, ρ) := wp_some
/-- a comprehension that changes nothing: what stays, and what it becomes -/
theorem lc_fm {P : D → Bool} {F : D → D} : ∀ {xs : List D} {Q}, (∀ x ∈ xs, Wp (g x ρ) fun r1 => Wp (t r1) fun p => p.1 = P x ∧ (P x = true → Wp (e p.2) fun q => frz q.1 = .dat (F x) ∧ wipeE q.2 vs = ρ) ∧ (P x = false → wipeE p.2 vs = ρ)) → Q ((xs.filter P).map F, ρ) → Wp (lcL g t e vs xs ρ) Q
  | [], Q, _, h => by rw [lcL, wp_some]; exact h
  | x :: xs, Q, hx, h => by
    rw [lcL, wp_bind]
    refine (hx x List.mem_cons_self).mono fun r1 h1 => ?_
    rw [wp_bind]
    refine h1.mono fun p ⟨e1, h2, h3⟩ => ?_
    rw [e1]
    cases hp : P x with
    | true =>
      rw [if_pos rfl, wp_bind]
      refine (h2 hp).mono fun q ⟨e2, e3⟩ => ?_
      rw [e2, e3]
      dsimp only
      rw [wp_map]
      refine lc_fm (fun y hy => hx y (List.mem_cons_of_mem _ hy)) ?_
      simpa [List.filter_cons, hp] using h
    | false =>
      rw [if_neg (by decide), h3 hp]
      refine lc_fm (fun y hy => hx y (List.mem_cons_of_mem _ hy)) ?_
      simpa [List.filter_cons, hp] using h
theorem lc_m {F : D → D} {xs : List D} {Q} (hx : ∀ x ∈ xs, Wp (g x ρ) fun r1 => Wp (t r1) fun p => p.1 = true ∧ Wp (e p.2) fun q => frz q.1 = .dat (F x) ∧ wipeE q.2 vs = ρ) (h : Q (xs.map F, ρ)) : Wp (lcL g t e vs xs ρ) Q :=
  lc_fm (P := fun _ => true) (F := F) (fun x m => (hx x m).mono fun r1 h1 => h1.mono fun p ⟨a, b⟩ => ⟨a, fun _ => b, nofun⟩) (by rw [List.filter_eq_self.mpr (fun _ _ => rfl)]; exact h)
end
@[simp] theorem atI_0 {α : Type} {x : α} {xs : List α} : atI (x :: xs) 0 = some x := by simp [atI, ixN]
@[simp] theorem atI_1 {α : Type} {x y : α} {xs : List α} : atI (x :: y :: xs) 1 = some y := by
  have : (1 : Int) < (xs.length : Int) + 1 + 1 := by omega
  simp [atI, ixN, this]
@[simp] theorem atI_2 {α : Type} {x y z : α} {xs : List α} : atI (x :: y :: z :: xs) 2 = some z := by
  have : (2 : Int) < (xs.length : Int) + 1 + 1 + 1 := by omega
  simp [atI, ixN, this]
theorem seq_cut {a b : Ev → Option Out} {ρ : Ev} {Q : Out → Prop} (I : Ev → Prop) (h : Wp (a ρ) fun o => kO o I Q) (k : ∀ r, I r → Wp (b r) Q) : Wp (sSeq a b ρ) Q := by
  rw [w_sSeq]
  refine h.mono fun o ho => ?_
  cases o with
  | nx r => exact k r ho
  | _ => exact ho
theorem fn_cut {np n : Nat} {io : List Nat} {a : Ev → Option Out} {args : List Sv} {Q : Sv × Ev → Prop} (hl : args.length = np) {ρ : Ev} (hs : startE np n args = ρ) (h : Wp (a ρ) fun o => oF o io np Q) : Wp ((mkFn np n io a).run args) Q := by
  rw [w_mkFn, hs]; exact ⟨hl, h⟩
theorem wO_ex {α : Type} {o : Option α} {k : α → Prop} {a : α} (h : o = some a) (q : k a) : wO o k := ⟨a, h, q⟩
@[simp] theorem mapI {a b : List Int} : (a.map PyData.int = b.map PyData.int) = (a = b) := by
  apply propext
  constructor
  · intro h
    have := congrArg intsD h
    rw [intsD_map, intsD_map] at this
    exact Option.some.inj this
  · rintro rfl; rfl
theorem gN_cut {j : Nat} {d : D} {ρ ρ' : Ev} {Q : Ev → Prop} (hj : j < ρ.length) (e : ρ.set j (some (.dat d)) = ρ') (h : Q ρ') : Wp (gN j d ρ) Q := by
  rw [w_gN, e]; exact ⟨hj, h⟩
theorem run_wp {o : Option (Sv × Ev)} {Q : Sv × Ev → Prop} {R : Sv × Ev → Prop} (h : Wp o R) (k : ∀ s outs, R (s, outs) → Q (s, outs)) : Wp o Q := h.mono fun ⟨s, outs⟩ => k s outs
theorem cases_of {k : Int} (n : Nat) (h : 0 ≤ k) (h2 : k < (n : Nat)) : ∃ m : Nat, m < n ∧ k = m := ⟨k.toNat, by omega, by omega⟩
theorem atI_ex {xs : List D} {k : Int} (h : 0 ≤ k) (h2 : k < xs.length) : ∃ d ∈ xs, atI xs k = some d := by
  refine ⟨_, ?_, atI_pos h h2⟩
  have : k.toNat < xs.length := by omega
  rw [List.getD_eq_getElem?_getD, List.getElem?_eq_getElem this]
  exact List.getElem_mem this
theorem wO_at {xs : List D} {k : Int} {K : Sv → Prop} (h : 0 ≤ k) (h2 : k < xs.length) (q : ∀ d ∈ xs, K (.dat d)) : wO (Option.map Sv.dat (atI xs k)) K := by
  obtain ⟨d, hd, e⟩ := atI_ex h h2
  exact ⟨_, by rw [e]; rfl, q d hd⟩
end DL
namespace DL
open PySem PySem.Spec PyProof.Rows L2
/-! ### sum of a list or a tuple -/
def rSumA (K : PySem.W.Frag) : List V → Hp → VK → Prop := fun vs H Q => ∃ (a : Addr) (ns : List Int), vs = [V.ref a] ∧ (SqL K H a (ns.map V.int) ∨ SqT K H a (ns.map V.int)) ∧ Q (.int ns.sum) H
theorem cr_sumA {X : Cx} (hc : X.calm = true) : CallR X (.builtin "sum") (rSumA X.K) := by
  intro pins s σ H vs us Q I r h
  obtain ⟨a, ns, rfl, hs | hs, q⟩ := h
  · exact cr_sum hc pins s σ H [V.ref a] us Q I r ⟨a, ns, rfl, hs, q⟩
  · obtain ⟨its, rv, hl, _⟩ := I.tuple hs
    rw [Vals.ref1 r]
    obtain ⟨xs, e⟩ := rv.ints.allInts.items
    have hn : numsOf (intItems xs).toList = ns := by rw [← e]; exact rv.ints.numsOf
    rw [nums_intItems] at hn
    have hl' : s.heap.IsTuple a its.toArray := hl
    rw [e] at hl'
    refine PySem.W.ktm_sumG (I.ok.hd hc) hl' fun h' tk t' hk => ?_
    refine ⟨.int ns.sum, H, I.kept hk, ⟨t', ?_⟩, q⟩
    rw [preSum_eq, List.take_of_length_le (by simp), hn]
@[simp] def opSumA (x : Sv) : Option Sv := match datC x with
  | some (.list xs) => (intsD xs).map fun ns => .dat (.int ns.sum)
  | some (.tuple xs) => (intsD xs).map fun ns => .dat (.int ns.sum)
  | _ => none
theorem ok_sumA {K : PySem.W.Frag} : RBOk K (rSumA K) opSumA := by
  intro H P v x s Q B1 hl r h hq
  unfold opSumA at h
  split at h
  · rename_i xs q
    obtain ⟨ns, e1, e2⟩ := Option.map_eq_some_iff.mp h
    cases e2
    obtain ⟨a, vs, rfl, hs, hd⟩ := datC_list r q
    have := intsD_ok hd e1
    subst this
    exact ⟨a, ns, rfl, .inl hs, hq _ _ _ .int⟩
  · rename_i xs q
    obtain ⟨ns, e1, e2⟩ := Option.map_eq_some_iff.mp h
    cases e2
    obtain ⟨a, vs, rfl, hs, hd⟩ := datC_tup r q
    have := intsD_ok hd e1
    subst this
    exact ⟨a, ns, rfl, .inr (Same.sqt wo_same hs), hq _ _ _ .int⟩
  · cases h
@[simp] theorem intsD_m (ns : List Int) : intsD (ns.map .int) = some ns := intsD_map ns
section
variable {ρ : Ev} {fa fb fc : Ev → Option (Pend × Ev)}
@[simp ↓] theorem w_eChain {p q Q} : Wp (eChain p q fa fb fc ρ) Q = Wp (fa ρ) fun a => Wp (fb a.2) fun b => wO (res a.1 b.2) fun x => wO (res b.1 b.2) fun y => wO (p x y) fun r => wB r fun t =>
    wIf t (Wp (fc b.2) fun c => wO (res b.1 c.2) fun y' => wO (res c.1 c.2) fun z => wO (q y' z) fun s => Q (s, c.2)) (Q (.dat (.bool false), b.2)) := by
  unfold eChain
  refine wp_b1 fun a => wp_b1 fun b => wp_b2 fun x => wp_b2 fun y => wp_b2 fun r => ?_
  cases r with
  | dat d =>
    cases d with
    | bool t =>
      cases t with
      | true =>
        simp only [wB_b, wIf_t]
        repeat' first | rfl | (refine wp_b1 fun _ => ?_) | (refine wp_b2 fun _ => ?_) | (refine wp_m1 fun _ => ?_) | (refine wp_m2 fun _ => ?_)
      | false => simp only [wB_b, wIf_f, wp_some]
    | _ => apply propext; simp [wB]
  | _ => apply propext; simp [wB]
end
section
variable {g : D → Ev → Option Ev} {t : Ev → Option (Bool × Ev)} {e : Ev → Option (Sv × Ev)} {vs : List Nat} {ρ : Ev}
theorem lc_fi (P : Int → Bool) (F : Int → D) {ns : List Int} {Q} (hx : ∀ i ∈ ns, Wp (g (.int i) ρ) fun r1 => Wp (t r1) fun p => p.1 = P i ∧ (P i = true → Wp (e p.2) fun q => frz q.1 = .dat (F i) ∧ wipeE q.2 vs = ρ) ∧ (P i = false → wipeE p.2 vs = ρ)) (h : Q ((ns.filter P).map F, ρ)) : Wp (lcL g t e vs (ns.map .int) ρ) Q := by
  refine lc_fm (P := fun d => match d with | .int i => P i | _ => false) (F := fun d => match d with | .int i => F i | _ => .none) (fun x hm => ?_) ?_
  · obtain ⟨i, hi, rfl⟩ := List.mem_map.mp hm
    exact hx i hi
  · rw [List.filter_map, List.map_map]
    exact h
theorem lc_mi (F : Int → D) {ns : List Int} {Q} (hx : ∀ i ∈ ns, Wp (g (.int i) ρ) fun r1 => Wp (t r1) fun p => p.1 = true ∧ Wp (e p.2) fun q => frz q.1 = .dat (F i) ∧ wipeE q.2 vs = ρ) (h : Q (ns.map F, ρ)) : Wp (lcL g t e vs (ns.map .int) ρ) Q :=
  lc_fi (fun _ => true) F (fun i m => (hx i m).mono fun r1 h1 => h1.mono fun p ⟨a, b⟩ => ⟨a, fun _ => b, nofun⟩) (by rw [List.filter_eq_self.mpr (fun _ _ => rfl)]; exact h)
end
section
variable {g : D → Ev → Option Ev} {t : Ev → Option (Bool × Ev)} {e : Ev → Option (Sv × Ev)} {vs : List Nat}
/-- a comprehension with what holds of the items so far and the names -/
theorem lc_inv (I : List D → Ev → Prop) : ∀ {xs : List D} {acc : List D} {ρ : Ev} {Q}, (∀ x ∈ xs, ∀ acc r, I acc r → Wp (g x r) fun r1 => Wp (t r1) fun p => (p.1 = true → Wp (e p.2) fun q => ∃ d, frz q.1 = .dat d ∧ I (acc ++ [d]) (wipeE q.2 vs)) ∧ (p.1 = false → I acc (wipeE p.2 vs))) → I acc ρ → (∀ ds r, I (acc ++ ds) r → Q (ds, r)) → Wp (lcL g t e vs xs ρ) Q
  | [], acc, ρ, Q, _, h, hq => by rw [lcL, wp_some]; exact hq [] ρ (by simpa using h)
  | x :: xs, acc, ρ, Q, hx, h, hq => by
    rw [lcL, wp_bind]
    refine (hx x List.mem_cons_self acc ρ h).mono fun r1 h1 => ?_
    rw [wp_bind]
    refine h1.mono fun p ⟨h2, h3⟩ => ?_
    have hx' : ∀ y ∈ xs, ∀ acc r, I acc r → Wp (g y r) fun r1 => Wp (t r1) fun p => (p.1 = true → Wp (e p.2) fun q => ∃ d, frz q.1 = .dat d ∧ I (acc ++ [d]) (wipeE q.2 vs)) ∧ (p.1 = false → I acc (wipeE p.2 vs)) := fun y hy => hx y (List.mem_cons_of_mem _ hy)
    by_cases c : p.1 = true
    · rw [if_pos c, wp_bind]
      refine (h2 c).mono fun q ⟨d, e1, h4⟩ => ?_
      rw [e1]
      dsimp only
      rw [wp_map]
      exact lc_inv I hx' h4 fun ds r h5 => hq (d :: ds) r (by simpa using h5)
    · rw [if_neg c]
      exact lc_inv I hx' (h3 (by simpa using c)) hq
end
theorem wp_mk {α : Type} {o : Option α} {Q : α → Prop} {a : α} (h : o = some a) (q : Q a) : Wp o Q := ⟨a, h, q⟩
/-- values: a tuple of ints -/
abbrev iT (ns : List Int) : Sv := .dat (.tuple (ns.map .int))
@[simp] theorem map_id_int (ns : List Int) : (ns.map fun i => PyData.int i) = ns.map PyData.int := rfl
theorem intsR_eq (lo : Int) (n : Nat) : intsR lo n = ((List.range n).map fun (i : Nat) => lo + i).map PyData.int := by unfold intsR; rw [List.map_map]; rfl
theorem nthI_eq {ns : List Int} {i : Nat} (h : i < ns.length) : nthI ns i = ns[i] := by
  unfold nthI; rw [List.getD_eq_getElem?_getD, Int.toNat_natCast, List.getElem?_eq_getElem h]; rfl
theorem leI_sorted (ns : List Int) : (ns.mergeSort leI).Pairwise (· ≤ ·) := by
  have := List.pairwise_mergeSort (le := leI) (fun a b c h1 h2 => by unfold leI at *; simp at *; omega) (fun a b => by unfold leI; simp; omega) ns
  exact this.imp fun {a b} h => by unfold leI at h; simpa using h
theorem leI_perm (ns : List Int) : (ns.mergeSort leI).Perm ns := List.mergeSort_perm ns leI
end DL
namespace DL
open PySem PySem.Spec PyProof.Rows L2
/-! ### sorted of data that can be put in order -/
def akB (ds : List D) : Bool := ds.all fun d => ds.all fun e => PySem.W.alike d e
def neT : D → Bool
  | .tuple (_ :: _) => true
  | _ => false
def noT : D → Bool
  | .none | .tuple _ => false
  | _ => true
def sbB (ds : List D) : Bool := ds.all neT || ds.all noT
def srt (ds : List D) : List D := ds.mergeSort (PySem.W.dataLe false id)
def ordB (ds : List D) : Bool := akB ds && sbB ds && ds.all fun d => decide (d.depth ≤ 32)
theorem akB_of {ds : List D} (h : akB ds = true) : PySem.W.AllAlike ds := fun d hd e he => List.all_eq_true.mp (List.all_eq_true.mp h d hd) e he
theorem sbB_of {ds : List D} (h : sbB ds = true) : PySem.W.Sortable ds := by
  unfold sbB at h
  rw [Bool.or_eq_true] at h
  rcases h with h | h
  · refine .inl fun d hd => ?_
    have := List.all_eq_true.mp h d hd
    unfold neT at this
    split at this
    · exact ⟨_, _, rfl⟩
    · cases this
  · refine .inr fun d hd => ?_
    have := List.all_eq_true.mp h d hd
    cases d <;> simp [noT] at this ⊢
def rSrt (K : PySem.W.Frag) : List V → Hp → VK → Prop := fun vs H Q => ∃ (R : Hp) (a : Addr) (xs : List V) (ds : List D), vs = [V.ref a] ∧ SqL K H a xs ∧ Same R H ∧ DpAll K R xs ds ∧ ordB ds = true ∧
  ∀ (ys : List V) (p : Addr), DpAll K R ys (srt ds) → H p = none → Q (.ref p) (upd H p (.lst ys))
theorem each_zip {K : PySem.W.Frag} {H : Hp} : ∀ {xs : List V} {ds : List D} {us : List Value}, DpAll K H xs ds → Vals xs us → PySem.W.EachIs (fun u (p : V × D) => RelV p.1 u ∧ Dp K H p.1 p.2) us (xs.zip ds)
  | _, _, _, .nil, .nil => .nil
  | _, _, _, .cons h t, .cons r rs => .cons ⟨r, h⟩ (each_zip t rs)
theorem each_back {K : PySem.W.Frag} {H : Hp} : ∀ {us : List Value} {ps : List (V × D)}, PySem.W.EachIs (fun u (p : V × D) => RelV p.1 u ∧ Dp K H p.1 p.2) us ps → Vals (ps.map (·.1)) us ∧ DpAll K H (ps.map (·.1)) (ps.map (·.2))
  | _, _, .nil => ⟨.nil, .nil⟩
  | _, _, .cons h t => ⟨.cons h.1 (each_back t).1, .cons h.2 (each_back t).2⟩
theorem zip_snd {α β : Type} : ∀ {xs : List α} {ds : List β}, xs.length = ds.length → (xs.zip ds).map (·.2) = ds
  | [], [], _ => rfl
  | x :: xs, d :: ds, h => by rw [List.zip_cons_cons, List.map_cons, zip_snd (by simpa using h)]
theorem cr_srt {X : Cx} (hu : X.A.units + 64 < cLine) : CallR X (.builtin "sorted") (rSrt X.K) := by
  intro pins s σ H vs us Q I r h
  obtain ⟨R0, a, xs, ds, rfl, hs, hR, hd, ho, q⟩ := h
  obtain ⟨its, rv, hl, hz⟩ := I.list hs
  rw [Vals.ref1 r]
  unfold ordB at ho
  rw [Bool.and_eq_true, Bool.and_eq_true] at ho
  have hlen : xs.length = ds.length := DpAll.length hd
  have e2 : (xs.zip ds).map (fun p => p.2) = ds := zip_snd hlen
  have ez := each_zip hd rv
  have hzl : (xs.zip ds).length = xs.length := by rw [List.length_zip]; omega
  refine PySem.W.sorted_data (R := fun u (p : V × D) => RelV p.1 u ∧ Dp X.K R0 p.1 p.2) (enc := fun p => p.2) hl.isList ez (ez.mono fun u p ⟨x, y⟩ => Dp.reads I _ _ _ (Dp.mono hR y) x) (by rw [e2]; exact akB_of ho.1.1) (by rw [e2]; exact sbB_of ho.1.2) (by rw [hzl]; exact hz) (fun p hp => ?_) fun out _ eo => ?_
  · have : p.2 ∈ ds := by rw [← e2]; exact List.mem_map.mpr ⟨p, hp, rfl⟩
    have := of_decide_eq_true (List.all_eq_true.mp ho.2 p.2 this)
    omega
  · obtain ⟨w1, w2⟩ := each_back eo
    have e0 : ∀ ps : List (V × D), (ps.mergeSort (PySem.W.dataLe false fun p => p.2)).map (fun p => p.2) = srt (ps.map fun p => p.2) := fun ps => by
      unfold srt
      refine List.map_mergeSort (r := PySem.W.dataLe false fun (p : V × D) => p.2) (s := PySem.W.dataLe false id) (f := fun p => p.2) ?_
      intro a _ b _
      rfl
    have e3 := (e0 (xs.zip ds)).trans (by rw [e2])
    rw [e3] at w2
    obtain ⟨ep, he'⟩ := PyProof.Rows.sortedAll_at s.heap its out.toArray
    have hl2 : (((xs.zip ds).mergeSort (PySem.W.dataLe false fun p => p.2)).map (fun p => p.1)).length ≤ sizeLine := by
      rw [List.length_map, List.length_mergeSort, hzl]; exact hz
    exact ⟨.ref _, upd H (s.heap.objs.size + 1) (.lst _), I.laid (t' := s.toks) (fun _ _ => PyProof.Rows.sortedAll_old) (Nat.le_succ _) ⟨hl2, out, ep, w1, he'⟩, rfl, q _ _ w2 (I.hok.fresh (Nat.le_succ _))⟩
@[simp] def opSortD (x : Sv) : Option Sv := match datC x with
  | some (.list ds) => if ordB ds = true then some (.own (.lst (srt ds))) else none
  | _ => none
theorem ok_srt {K : PySem.W.Frag} : RBOk K (rSrt K) opSortD := by
  intro H P v x s Q B1 hl r h hq
  unfold opSortD at h
  split at h
  · rename_i ds q
    split at h
    · rename_i ho
      cases h
      obtain ⟨a, vs, rfl, hs, hd⟩ := datC_list r q
      exact ⟨wo H P, a, vs, ds, rfl, hs, wo_same, hd, ho, fun ys p hy hp => hq _ _ [p] (.lst hp hy)⟩
    · cases h
  · cases h
/-- ints of any number, or what can be put in order -/
@[simp] def opSorted (x : Sv) : Option Sv := (opSortI x).orElse fun _ => opSortD x
theorem cr_sortedX {X : Cx} (hu : X.A.units + 64 < cLine) : CallR X (.builtin "sorted") (fun vs H Q => rSortedI X.K vs H Q ∨ rSrt X.K vs H Q) := by
  intro pins s σ H vs us Q I r h
  exact h.elim (cr_sortedI pins s σ H vs us Q I r) (cr_srt hu pins s σ H vs us Q I r)
theorem ok_sorted {K : PySem.W.Frag} : RBOk K (fun vs H Q => rSortedI K vs H Q ∨ rSrt K vs H Q) opSorted := by
  intro H P v x s Q B1 hl r h hq
  unfold opSorted at h
  cases e : opSortI x with
  | some y =>
    rw [e] at h
    cases h
    exact .inl (ok_sortI H P v x s Q B1 hl r e hq)
  | none =>
    rw [e] at h
    exact .inr (ok_srt H P v x s Q B1 hl r h hq)
end DL
namespace DL
open PySem PySem.Spec PyProof.Rows L2
/-! ### sets whose members are known, of any kind of key -/
section
variable {P : Program} {w : World} {κ : Type} [DecidableEq κ] {kd : PySem.KeyKind P w κ}
/-- no two entries of one key -/
def Sep (kd : PySem.KeyKind P w κ) (l : List (Int × Value)) : Prop := l.Pairwise fun e f => ∀ k, kd.is k e.2 = true → ¬ kd.is k f.2 = true
theorem Sep.perm {l m : List (Int × Value)} (h : Sep kd l) (p : l.Perm m) : Sep kd m :=
  (p.pairwise_iff (fun {x y} hxy k h1 h2 => hxy k h2 h1)).mp h
structure SetL (kd : PySem.KeyKind P w κ) (hp : Heap) (a : Addr) (L : List κ) : Prop where
  ex : ∃ o es ep t, hp.get? a = some o ∧ o.ExactSet ∧ o.data = .set es ep t ∧ ElemsOf kd es.toList ∧ Sep kd es.toList ∧ (∀ k, k ∈ L ↔ ∃ e ∈ es.toList, kd.is k e.2 = true) ∧
    (es.size ≤ L.length ∧ es.size < scanBound) ∧ t.fits es.size = true ∧ Ris t.place.toList ∧ (w.params.followText "set-order" = true ∨ t.led = true)
theorem SetL.keep {hp hp' : Heap} {a : Addr} {L : List κ} (R : SetL kd hp a L) (k : ∀ o, hp.get? a = some o → hp'.get? a = some o) : SetL kd hp' a L := by
  obtain ⟨o, es, ep, t, ho, r⟩ := R.ex
  exact ⟨o, es, ep, t, k o ho, r⟩
variable {A : Around} {E : Value → Shared → Prop} {s : Shared} {a : Addr} {L : List κ}
/-- what the store leaves: with the entries es1, and the table laid anew where it is too full -/
theorem setL_store {g : Bool → Sem Unit} (hg : ∀ (b : Bool) (s1 : Shared) (Q' : Unit → Shared → Prop), Q' () s1 → wpAny (model P w) A (g b) Q' E s1)
    {o : Obj} {es es1 : Array (Int × Value)} {ep : Nat} {t t1 : SetTable} {wd : Bool} {Q : Option Bool → Shared → Prop} (ho : s.heap.get? a = some o) (hx : o.ExactSet) (hd : o.data = .set es ep t)
    (c1 : ElemsOf kd es1.toList) (c2 : Sep kd es1.toList) (c3 : ∀ k, k ∈ L ↔ ∃ e ∈ es1.toList, kd.is k e.2 = true) (c4 : es1.size ≤ L.length ∧ es1.size < scanBound) (c5 : t1.fits es1.size = true) (c6 : Ris t1.place.toList) (c7 : w.params.followText "set-order" = true ∨ t1.led = true)
    (hQ : ∀ hp', Heap.SameBut a s.heap hp' → SetL kd hp' a L → Q (some true) { s with heap := hp' }) :
    wpAny (model P w) A (do
      storeSet a es1 t1
      if (!wd && t1.tooFull) = true then do
        g (relayAll t1 es1 (SetTable.grown es1.size)).2.2
        storeSet a (relayAll t1 es1 (SetTable.grown es1.size)).1 (relayAll t1 es1 (SetTable.grown es1.size)).2.1
        pure (some true)
      else pure (some true)) Q E s := by
  refine wpAny_bind (wpAny_storeSet_of ho hd ?_ (fits_of_scanBound c4.2))
  have q1 := store_at (es' := es1) (t' := t1) ho hd
  have b1 := Heap.SameBut.update s.heap a (Obj.putSet es1 t1)
  by_cases hf : (!wd && t1.tooFull) = true
  · rw [if_pos hf]
    have p2 := relayAll_perm t1 es1 (SetTable.grown es1.size)
    have f2 := relayAll_fits t1 es1 (SetTable.grown es1.size)
    have r2 := relayAll_ris t1 es1 (SetTable.grown es1.size)
    have l2 := relayAll_led t1 es1 (SetTable.grown es1.size)
    revert p2 f2 r2 l2
    generalize relayAll t1 es1 (SetTable.grown es1.size) = z
    intro p2 f2 r2 l2
    have n2 : z.1.size = es1.size := by rw [← Array.length_toList, ← Array.length_toList]; exact p2.length_eq
    refine wpAny_bind (hg _ _ _ (wpAny_bind (wpAny_storeSet_of q1 rfl ?_ (fits_of_scanBound (by rw [n2]; exact c4.2)))))
    refine wpAny_pure (hQ _ (b1.trans (Heap.SameBut.update _ a _)) ⟨_, z.1, _, z.2.1, store_at q1 rfl, hx, rfl, fun e he => c1 e (p2.mem_iff.mp he), c2.perm p2.symm, fun k => (c3 k).trans ?_, by rw [n2]; exact c4, f2, r2, ?_⟩)
    · exact ⟨fun ⟨e, m, i⟩ => ⟨e, p2.mem_iff.mpr m, i⟩, fun ⟨e, m, i⟩ => ⟨e, p2.mem_iff.mp m, i⟩⟩
    · rcases c7 with c | c
      · exact .inl c
      · exact .inr (l2.trans c)
  · rw [if_neg hf]
    exact wpAny_pure (hQ _ b1 ⟨_, es1, _, t1, q1, hx, rfl, c1, c2, c3, c4, c5, c6, c7⟩)
theorem setL_add {k : κ} {x : Value} {Q : Bool → Shared → Prop} (R : SetL kd s.heap a L) (hk : kd.is k x = true) (hs : x.scannable = true) (hz : L.length + 1 < scanBound)
    (hQ : ∀ b hp', Heap.SameBut a s.heap hp' → SetL kd hp' a (L ++ [k]) → Q b { s with heap := hp' }) : wpAny (model P w) A (setAddHashed a x (kd.hash k)) Q E s := by
  obtain ⟨o, es, ep, t, ho, hx, hd, c1, c2, c3, c4, c5, c6, c7⟩ := R.ex
  unfold setAddHashed setAddHashedIn
  refine wpAny_holding (wpAny_bind (wpAny_setState_of ho hd c5 ?_))
  dsimp only
  rw [byScan_of hs c4.2 c1]
  simp only [↓reduceIte]
  unfold setAddByScan
  refine wpAny_bind (wpAny_bind (wpAny_rule ?_))
  refine wpAny_bind (wpAny_setScan_of hk ho hd c5 c1 ?_)
  cases hfi : List.findIdx? (fun e => kd.is k e.2) es.toList with
  | some j =>
    dsimp only
    obtain ⟨hj, pj, _⟩ := List.findIdx?_eq_some_iff_getElem.mp hfi
    have hin : k ∈ L := (c3 k).mpr ⟨_, List.getElem_mem hj, pj⟩
    refine wpAny_pure (wpAny_pure (hQ _ s.heap (Heap.SameBut.refl a s.heap) ⟨o, es, ep, t, ho, hx, hd, c1, c2, fun i => ?_, ⟨by rw [List.length_append]; exact Nat.le_trans c4.1 (Nat.le_add_right _ _), c4.2⟩, c5, c6, c7⟩))
    rw [← c3 i, List.mem_append, List.mem_singleton]
    exact ⟨fun z => z.elim id fun z => z ▸ hin, .inl⟩
  | none =>
    dsimp only
    have hno : ∀ e ∈ es.toList, ¬ kd.is k e.2 = true := fun e he => by
      have := List.findIdx?_eq_none_iff.mp hfi e he
      rw [this]; decide
    have p1 := layNew_perm t es (kd.hash k) x
    have f1 := layNew_fits t es (kd.hash k) x
    have r1 := layNew_ris t es (kd.hash k) x c6
    have l1 := layNew_led t es (kd.hash k) x
    revert p1 f1 r1 l1
    generalize layNew t es (kd.hash k) x = z
    obtain ⟨es1, t1, wd, gave⟩ := z
    intro p1 f1 r1 l1
    dsimp only at p1 f1 r1 l1 ⊢
    rw [Array.toList_push] at p1
    have p2 : es1.toList.Perm ((kd.hash k, x) :: es.toList) := p1.trans (List.perm_append_singleton _ _)
    have d1 : ElemsOf kd es1.toList := fun e he => by
      rcases List.mem_cons.mp (p2.mem_iff.mp he) with rfl | m
      · exact ⟨⟨k, hk, rfl⟩, hs⟩
      · exact c1 e m
    have d2 : Sep kd es1.toList := by
      refine Sep.perm ?_ p2.symm
      refine List.pairwise_cons.mpr ⟨fun e he i h1 h2 => ?_, c2⟩
      have : i = k := kd.inj x i k h1 hk
      exact hno e he (this ▸ h2)
    have d3 : ∀ i, i ∈ L ++ [k] ↔ ∃ e ∈ es1.toList, kd.is i e.2 = true := fun i => by
      rw [List.mem_append, List.mem_singleton, c3 i]
      constructor
      · rintro (⟨e, m, h⟩ | rfl)
        · exact ⟨e, p2.mem_iff.mpr (List.mem_cons_of_mem _ m), h⟩
        · exact ⟨_, p2.mem_iff.mpr List.mem_cons_self, hk⟩
      · rintro ⟨e, m, h⟩
        rcases List.mem_cons.mp (p2.mem_iff.mp m) with rfl | m
        · exact .inr (kd.inj x i k h hk)
        · exact .inl ⟨e, m, h⟩
    have n1 : es1.size = es.size + 1 := by rw [← Array.length_toList, p2.length_eq, List.length_cons, Array.length_toList]
    have d4 : es1.size ≤ (L ++ [k]).length ∧ es1.size < scanBound := by
      rw [n1, List.length_append, List.length_singleton]
      exact ⟨by omega, by omega⟩
    have d7 : w.params.followText "set-order" = true ∨ t1.led = true := c7.imp id fun c => l1.trans c
    have gr : ∀ (b : Bool) {s1 : Shared} {Q' : Unit → Shared → Prop}, Q' () s1 → wpAny (model P w) A (match b with | true => rule "set.scan.the-table-gave-way" | false => pure ()) Q' E s1 := fun b s1 Q' q => by
      cases b
      · exact wpAny_pure q
      · exact wpAny_rule q
    refine wpAny_bind (gr _ ?_)
    split
    · refine wpAny_bind ?_
      rw [hashByValue_scannable 8 hs]
      refine wpAny_pure (setL_store (kd := kd) (L := L ++ [k]) (fun b s1 Q' q => by cases b <;> first | exact wpAny_pure q | exact wpAny_rule q) ho hx hd d1 d2 d3 d4 ?_ ?_ ?_ fun hp' sb r => ?_)
      · first | (split <;> first | exact f1 | exact SetTable.fits_plain_off f1) | exact f1
      · first | (split <;> exact r1) | exact r1
      · first | (split <;> exact d7) | exact d7
      · dsimp only; exact wpAny_pure (hQ _ hp' sb r)
    · refine wpAny_bind (wpAny_pure ?_)
      simp only [↓reduceIte]
      refine setL_store (kd := kd) (L := L ++ [k]) (fun b s1 Q' q => by cases b <;> first | exact wpAny_pure q | exact wpAny_rule q) ho hx hd d1 d2 d3 d4 f1 r1 d7 fun hp' sb r => ?_
      dsimp only; exact wpAny_pure (hQ _ hp' sb r)
theorem setL_loop {I S : Addr} {fp wr : List Addr} {G : Array GenState → Array GenState → Prop} {n : Nat} {Pv : Nat → Value → Prop} {St : Nat → Shared → Prop} {R : Result → Shared → Prop}
    (W : WalksS P w A.in1 I fp wr G n Pv St) (hS : S ∉ fp) (ks : List κ) (hn : n = ks.length) (hz : ks.length + 1 < scanBound) (hv : ∀ i v, Pv i v → ∃ k, ks[i]? = some k ∧ kd.is k v = true ∧ v.scannable = true) :
    ∀ (m i : Nat) (s : Shared), n - i = m → i ≤ n → St i s → SetL kd s.heap S (ks.take i) → (∀ s', Moved (S :: wr) G s s' → SetL kd s'.heap S ks → R (.ok (.ret .none)) s') →
      codeAny (model P w) A (.builtin "set.update.loop" ⟨[.ref S, .ref I], []⟩) R s := by
  have hw : S ∉ wr := fun z => hS (W.sub _ z)
  have up : ∀ b ∈ wr, b ∈ S :: wr := fun b z => List.mem_cons_of_mem _ z
  intro m
  induction m with
  | zero =>
    intro i s e1 e2 hst hL hR
    obtain rfl : i = n := by omega
    refine codeAny_builtin PyProof.Rows.F.entry_set_update_loop ?_
    rw [Around.under_plainId PyProof.Rows.F.plain_set_update_loop _]
    show wpAny _ A.in1 (pyNext (.ref I) >>= _) _ _ s
    refine wpAny_bind (W.done s _ _ hst fun s' mv => ?_)
    refine wpAny_pure (hR s' (mv.mono up) ?_)
    rw [hn, List.take_length] at hL
    exact hL.keep fun o ho => mv.heap S o hw ho
  | succ m ih =>
    intro i s e1 e2 hst hL hR
    have lt : i < n := by omega
    refine codeAny_builtin PyProof.Rows.F.entry_set_update_loop ?_
    rw [Around.under_plainId PyProof.Rows.F.plain_set_update_loop _]
    show wpAny _ A.in1 (pyNext (.ref I) >>= _) _ _ s
    refine wpAny_bind (W.item i s _ _ lt hst fun v s' hp hst' mv => ?_)
    obtain ⟨k, gk, ik, sk⟩ := hv i v hp
    have hL' : SetL kd s'.heap S (ks.take i) := hL.keep fun o ho => mv.heap S o hw ho
    show wpAny _ A.in1 (holding [v] (setAdd S v) >>= _) _ _ s'
    refine wpAny_bind (wpAny_holding ?_)
    unfold setAdd
    refine wpAny_holding (wpAny_bind (kd.pyHash ik ?_))
    refine setL_add (s := { s' with toks := s'.toks + 1 }) hL' ik sk (by rw [List.length_take]; omega) fun b hp' sb hL2 => ?_
    rw [← take_next gk] at hL2
    refine wpAny_pure ⟨plainId_quiet PyProof.Rows.F.plain_set_update_loop _, ih (i + 1) _ (by omega) lt (W.frame _ s' _ _ hst' (Nat.le_succ _) fun c hc o e => ?_) hL2 fun s2 mv2 hL3 => ?_⟩
    · rw [sb.2 c (fun z : c = S => hS (z ▸ hc))]; exact e
    · refine hR s2 (Moved.trans W.gtrans ((mv.mono up).then_heap (Nat.le_succ _) fun c o hc e => ?_) mv2) hL3
      rw [sb.2 c (fun z : c = S => hc (z ▸ List.mem_cons_self))]; exact e
/-- the object that set(..) begins with -/
abbrev newS (w : World) : Obj := { cls := .type "set", dict := none, data := .set #[] 0 (.fresh 0 0 (!w.params.followText "set-order")) }
theorem setL_new {hp : Heap} (ho : hp.get? a = some (newS w)) : SetL kd hp a [] := by
  refine ⟨_, #[], 0, _, ho, ⟨rfl, rfl, rfl⟩, rfl, (fun e he => by simp at he), List.Pairwise.nil, (fun k => by simp), ⟨Nat.le_refl _, by decide⟩, by rfl, List.Pairwise.nil, ?_⟩
  cases e : w.params.followText "set-order"
  · exact .inr rfl
  · exact .inl rfl
theorem setL_call {l : Addr} {its : Array Value} (ks : List κ) {Q : Value → Shared → Prop} (hh : A.handled = none) (hl : s.heap.IsList l its) (hn : its.size = ks.length) (hz : ks.length + 1 < scanBound)
    (hv : ∀ (i : Nat) (v : Value), its[i]? = some v → ∃ k, ks[i]? = some k ∧ kd.is k v = true ∧ v.scannable = true)
    (h : ∀ (hp' : Heap) (tk : Nat), SetL kd hp' s.heap.objs.size ks → (∀ b o, s.heap.get? b = some o → hp'.get? b = some o) → Q (.ref s.heap.objs.size) { s with heap := hp', toks := tk }) :
    wpAny (model P w) A (call (.type "set") [.ref l]) Q E s := by
  obtain ⟨c0, tl0, hmro⟩ := F.called_set.mro
  have m1 := F.called_set.made
  have m2 := F.called_set.sub
  refine wpAny_call (codeAny_of_tree ?_)
  show wpAny _ _ (callAny (.type "set") _) _ _ _
  refine wpAny_pure ⟨Code.quiet_builtin _ (by decide +kernel), codeAny_builtin F.entry_type_call ?_⟩
  rw [Around.under_plain (weight_type_call_type "set" [.ref l] []) rfl]
  have m3 := F.called_set.notType
  have m4 := F.called_set.canCreate
  have m5 := F.typeCall_set_1 (.ref l)
  repeat (any_goals (first | assumption | wp_step))
  refine codeAny_mono (code_set_led1 (.ref l) (E := E) (Q₁ := fun u s1 => u = .ref s.heap.objs.size ∧ s1 = { s with heap := s.heap.push (newS w) }) ⟨rfl, rfl⟩) fun r s1 hr => ?_
  rcases r with e | fl
  · exact hr
  cases fl with
  | ret u =>
    obtain ⟨rfl, rfl⟩ := hr
    have g1 : (s.heap.push (newS w)).get? s.heap.objs.size = some (newS w) := Heap.get?_push_size _ rfl
    have g2 : Shared.TypeIs { s with heap := s.heap.push (newS w) } (.ref s.heap.objs.size) "set" := ⟨_, g1, rfl⟩
    have m6 := F.called_set.init.lookup
    have m7 := F.called_set.init.bind (.ref s.heap.objs.size)
    repeat (any_goals (first | assumption | wp_step))
    refine codeAny_mono (codeAny_call_builtin (R := wants (fun x s2 => x = .none ∧ ∃ hp' tk, s2 = { s with heap := hp', toks := tk } ∧ SetL kd hp' s.heap.objs.size ks ∧ ∀ b o, s.heap.get? b = some o → hp'.get? b = some o) E)
      F.called_set.init.plain F.entry_set_init (check_set_init_1 g2 ?_)) fun r2 s2 hr2 => ?_
    · have g3 : (s.heap.push (newS w)).IsList l its := hl.push _
      obtain ⟨ol, gl, cl, nl, dl⟩ := hl
      have ll : l < s.heap.objs.size := Heap.lt_size gl
      obtain ⟨oc, od, oa, os⟩ := ol
      simp only at cl dl
      subst cl
      subst dl
      have g4 : (s.heap.push (newS w)).get? l = some { cls := .type "list", dict := od, data := .seq its nl, slots := os } := Heap.get?_push_of_some _ gl
      have k1 := PySem.F.sub_list_set
      have k2 := PySem.F.sub_list_frozenset
      have k3 : (Value.type "list" == Value.type "dict") = false := by decide
      unfold Builtin.«set.__init__» noKeywords Builtin.Frozenset.updateFrom
      generalize hPI : pyIter = PI
      wp_walk
      subst hPI
      refine wpAny_pyIter_list g3 ?_
      refine wpAny_bind (wpAny_runValue ?_)
      have hh2 : A.in1.in1.in1.handled = none := by simp [hh]
      have n1 : (s.heap.push (newS w)).objs.size = s.heap.objs.size + 1 := Heap.size_push ..
      have nl1 : l ≠ (s.heap.push (newS w)).objs.size := by rw [n1]; exact Nat.ne_of_lt (Nat.lt_succ_of_lt ll)
      have ns1 : s.heap.objs.size ∉ [(s.heap.push (newS w)).objs.size, l] := by
        rw [n1]
        simp only [List.mem_cons, List.not_mem_nil, or_false, not_or]
        exact ⟨Nat.ne_of_lt (Nat.lt_succ_self _), Nat.ne_of_gt ll⟩
      refine setL_loop (kd := kd) ((Walks.list hh2 _ l nl1 its).toS) ns1 ks hn hz hv (its.size - 0) 0 _ (by omega) (Nat.zero_le _) ⟨⟨_, Heap.get?_push_size _ rfl, rfl, rfl⟩, g3.push _⟩ ?_ fun s' mv hL => ?_
      · exact setL_new (Heap.get?_push_of_some _ g1)
      · obtain ⟨hp', gs, dr, tk, ot⟩ := s'
        obtain rfl : gs = s.gens := mv.gens
        obtain rfl : dr = s.drawn := mv.drawn
        obtain rfl : ot = s.os := mv.os
        refine wpAny_pure ?_
        show wpAny _ _ (ret Value.none) _ _ _
        refine wpAny_pure ⟨rfl, hp', tk, rfl, hL, fun b o e => mv.heap b o ?_ (Heap.get?_push_of_some _ (Heap.get?_push_of_some _ e))⟩
        have lb : b < s.heap.objs.size := Heap.lt_size e
        rw [n1]
        simp only [List.mem_cons, List.not_mem_nil, or_false, not_or]
        exact ⟨Nat.ne_of_lt lb, Nat.ne_of_lt (Nat.lt_succ_of_lt lb)⟩
    · rcases r2 with e | fl2
      · exact hr2
      cases fl2 with
      | ret x =>
        obtain ⟨rfl, hp', tk, rfl, hL, hk⟩ := hr2
        repeat (any_goals (first | assumption | wp_step))
        exact h _ _ hL hk
      | _ => exact hr2.elim
  | _ => exact hr.elim
end
end DL
namespace DL
open PySem PySem.Spec PyProof.Rows L2
section
variable {P : Program} {w : World} {κ : Type} [DecidableEq κ] {kd : PySem.KeyKind P w κ} {A : Around} {E : Value → Shared → Prop} {s : Shared} {a : Addr} {L : List κ}
theorem keys_of : ∀ (vs : List Value), (∀ v ∈ vs, ∃ k, kd.is k v = true) → ∃ ks : List κ, PySem.W.EachIs (fun u k => kd.is k u = true) vs ks
  | [], _ => ⟨[], .nil⟩
  | v :: vs, h => by
    obtain ⟨k, hk⟩ := h v List.mem_cons_self
    obtain ⟨ks, e⟩ := keys_of vs fun u m => h u (List.mem_cons_of_mem _ m)
    exact ⟨k :: ks, .cons hk e⟩
theorem each_mem {vs : List Value} {ks : List κ} (e : PySem.W.EachIs (fun u k => kd.is k u = true) vs ks) (k : κ) : k ∈ ks ↔ ∃ v ∈ vs, kd.is k v = true := by
  induction e with
  | nil => simp
  | @cons v k0 vs ks h t ih =>
    rw [List.mem_cons, ih]
    constructor
    · rintro (rfl | ⟨u, m, i⟩)
      · exact ⟨v, List.mem_cons_self, h⟩
      · exact ⟨u, List.mem_cons_of_mem _ m, i⟩
    · rintro ⟨u, m, i⟩
      rcases List.mem_cons.mp m with rfl | m
      · exact .inl (kd.inj _ _ _ i h)
      · exact .inr ⟨u, m, i⟩
theorem each_nodup {vs : List Value} {ks : List κ} (e : PySem.W.EachIs (fun u k => kd.is k u = true) vs ks) : (vs.Pairwise fun u v => ∀ k, kd.is k u = true → ¬ kd.is k v = true) → ks.Nodup := by
  induction e with
  | nil => intro _; exact List.nodup_nil
  | @cons v k0 vs ks h t ih =>
    intro p
    obtain ⟨p1, p2⟩ := List.pairwise_cons.mp p
    refine List.nodup_cons.mpr ⟨fun m => ?_, ih p2⟩
    obtain ⟨u, mu, i⟩ := (each_mem t k0).mp m
    exact p1 u mu k0 h i
/-- sorted(set) -/
theorem setL_sorted {enc : κ → D} {Q : Value → Shared → Prop} (R : SetL kd s.heap a L) (hh : A.handled = none) (hr : ∀ (h : Heap) k v, kd.is k v = true → Reads h v (enc k) []) (hd : ∀ k, (enc k).depth ≤ 32) (hu : A.units + 64 < cLine)
    (hal : PySem.W.AllAlike (L.map enc)) (hsb : PySem.W.Sortable (L.map enc))
    (hQ : ∀ (s' : Shared) (p c : Addr) (out : List Value) (ks : List κ), (∀ b o, s.heap.get? b = some o → s'.heap.get? b = some o) → s'.gens = s.gens → s'.os = s.os → s.heap.objs.size ≤ p → s'.heap.get? p = some (seqObj "list" out.toArray c) →
      PySem.W.EachIs (fun u k => kd.is k u = true) out (ks.mergeSort (PySem.W.dataLe false enc)) → ks.Nodup → (∀ k, k ∈ ks ↔ k ∈ L) → ks.length < scanBound → Q (.ref p) s') :
    wpAny (model P w) A (call (.builtin "sorted") [.ref a]) Q E s := by
  obtain ⟨o, es, ep, t, ho, hx, hdt, c1, c2, c3, c4, c5, c6, c7⟩ := R.ex
  refine Calls.call_function_entry kind_sorted plain_sorted entry_sorted (args_sorted1 _) ?_
  unfold Builtin.«sorted»
  refine wpAny_bind (m := checkCount "sorted" 1 1 _) (wpAny_pure ?_)
  refine wpAny_bind (collect_set (A := A.in1) hh ⟨o, ho, hx.1, hdt⟩ c5 c4.2 c6 c7 fun s1 vs k1 hz g1 o1 pm => ?_)
  obtain ⟨ks, ek⟩ := keys_of (kd := kd) vs fun v hv => by
    obtain ⟨e, he, q⟩ := List.mem_map.mp (pm.mem_iff.mp hv)
    obtain ⟨⟨k, i, _⟩, _⟩ := c1 e he
    exact ⟨k, q ▸ i⟩
  have mem : ∀ k, k ∈ ks ↔ k ∈ L := fun k => by
    rw [each_mem ek, c3]
    constructor
    · rintro ⟨v, m, i⟩
      obtain ⟨e, he, q⟩ := List.mem_map.mp (pm.mem_iff.mp m)
      exact ⟨e, he, q ▸ i⟩
    · rintro ⟨e, m, i⟩
      exact ⟨e.2, pm.mem_iff.mpr (List.mem_map.mpr ⟨e, m, rfl⟩), i⟩
  have nd : ks.Nodup := by
    refine each_nodup ek ?_
    have : (es.toList.map (·.2)).Pairwise fun u v => ∀ k, kd.is k u = true → ¬ kd.is k v = true := List.pairwise_map.mpr c2
    exact (pm.pairwise_iff (fun {x y} hxy k h1 h2 => hxy k h2 h1)).mpr this
  have hlen : vs.length = ks.length := ek.length
  have hvl : vs.length < scanBound := by rw [pm.length_eq, List.length_map, Array.length_toList]; exact c4.2
  have hsz : vs.length ≤ sizeLine := fits_of_scanBound hvl
  have sub : ∀ d, d ∈ ks.map enc → d ∈ L.map enc := fun d hd => by
    obtain ⟨k, m, rfl⟩ := List.mem_map.mp hd
    exact List.mem_map.mpr ⟨k, (mem k).mp m, rfl⟩
  have hal' : PySem.W.AllAlike (ks.map enc) := fun d hd e he => hal d (sub d hd) e (sub e he)
  have hsb' : PySem.W.Sortable (ks.map enc) := hsb.imp (fun h d hd => h d (sub d hd)) fun h d hd => h d (sub d hd)
  refine wpAny_bind (wpAny_newList ?_ (by simpa using hsz))
  have hoL : (s1.heap.push (seqObj "list" vs.toArray 0)).get? s1.heap.objs.size = some (seqObj "list" vs.toArray 0) := Heap.get?_push_size _ rfl
  refine wpAny_bind (wpAny_holding ?_)
  refine PySem.W.list_sort_data (R := fun u k => kd.is k u = true) (enc := enc) (bs := ks) hoL ek (ek.mono fun u k i => ⟨[], hr _ k u i, by simp⟩) hal' hsb' (by rw [← hlen]; exact hsz) (fun k _ => ?_) fun out ol eo => ?_
  · have := hd k
    have : A.in1.units = A.units + 1 := by first | rfl | simp
    omega
  obtain ⟨c, hc⟩ := sortedHeap_at (vs := vs) (out := out.toArray) hoL
  refine wpAny_pure ⟨_, rfl, hQ _ s1.heap.objs.size c out ks (fun b u e => ?_) g1 o1 hz hc eo nd mem (by rw [← hlen]; exact hvl)⟩
  have q := k1 b u e
  have lt := Heap.lt_size q
  show (sortedHeap (s1.heap.push (seqObj "list" vs.toArray 0)) s1.heap.objs.size vs out.toArray).get? b = some u
  rw [sortedHeap_old (Nat.ne_of_lt lt) (by rw [size_push']; exact Nat.lt_succ_of_lt lt)]
  exact Heap.get?_push_of_some _ q
end
/-! ### sorted(set(xs)): keys of one sort -/
def SetLO (P : Program) (w : World) (a : Addr) (L : List Key) : HO := .ext fun h => SetL (mixKind P w) h a L
section
variable {X : Cx}
theorem setLO_new {P : Program} {w : World} {H : Hp} {h : Heap} {a : Addr} {L : List Key} (R : SetL (mixKind P w) h a L) : ObjOk P w H h a (SetLO P w a L) := by
  obtain ⟨o, es, ep, t, ho, r⟩ := R.ex
  exact ⟨⟨o, es, ep, t, ho, r⟩, ⟨o, ho⟩, fun h1 h2 p k => SetL.keep p k⟩
def one (L : List Key) : Bool := (L.all fun k => k.isLeft) || L.all fun k => k.isRight
def rSetL1 (K : PySem.W.Frag) (P : Program) (w : World) : List V → Hp → VK → Prop := fun vs H Q => ∃ (l : Addr) (ks : List Key), vs = [V.ref l] ∧ SqL K H l (ks.map kV) ∧ ks.length + 1 < scanBound ∧ ∀ a, H a = none → Q (.ref a) (upd H a (SetLO P w a ks))
theorem at_keys {us : List Value} : ∀ {ks : List Key}, Vals (ks.map kV) us → us.length = ks.length ∧ ∀ (i : Nat) (v : Value), us[i]? = some v → ∃ k, ks[i]? = some k ∧ keyIs k v = true ∧ v.scannable = true := by
  induction us with
  | nil => intro ks r; cases ks with
    | nil => exact ⟨rfl, fun i v h => by simp at h⟩
    | cons _ _ => cases r
  | cons u us ih => intro ks r; cases ks with
    | nil => cases r
    | cons k ks =>
      cases r with
      | cons r1 r2 =>
        obtain ⟨e, f⟩ := ih r2
        refine ⟨by simp [e], fun i v h => ?_⟩
        cases i with
        | zero =>
          simp at h
          subst h
          refine ⟨k, rfl, ?_⟩
          cases k with
          | inl i => obtain ⟨t, rfl⟩ := r1; exact ⟨keyIs_int _ _, rfl⟩
          | inr x => obtain ⟨t, rfl⟩ := r1; exact ⟨keyIs_str _ _, rfl⟩
        | succ i =>
          simp at h
          obtain ⟨k', g, q⟩ := f i v h
          exact ⟨k', by simpa using g, q⟩
theorem cr_setL1 (hc : X.calm = true) : CallR X (.type "set") (rSetL1 X.K X.prog X.w) := by
  intro pins s σ H vs us Q I r h
  obtain ⟨l, ks, rfl, hl, hz, q⟩ := h
  rw [Vals.ref1 r]
  obtain ⟨its, rv, pl, _⟩ := I.list hl
  obtain ⟨e, f⟩ := at_keys rv
  have hn : H s.heap.objs.size = none := I.hok.fresh (Nat.le_refl _)
  refine setL_call (kd := mixKind X.prog X.w) ks (I.ok.hd hc) pl.isList (by simpa using e) hz (fun i v h => f i v (by simpa using h)) fun hp' tk hL hk => ?_
  exact ⟨.ref s.heap.objs.size, upd H s.heap.objs.size (SetLO X.prog X.w s.heap.objs.size ks), I.laid (t' := tk) hk (Nat.le_refl _) (setLO_new hL), rfl, q _ hn⟩
def srtK (ks : List Key) : List Key := ks.mergeSort (PySem.W.dataLe false keyD)
def rSortL1 (P : Program) (w : World) : List V → Hp → VK → Prop := fun vs H Q => ∃ (a : Addr) (L : List Key), vs = [V.ref a] ∧ H a = some (SetLO P w a L) ∧ one L = true ∧ ∀ ks p, ks.Nodup → (∀ k, k ∈ ks ↔ k ∈ L) → H p = none → Q (.ref p) (upd H p (.lst ((srtK ks).map kV)))
theorem one_alike {L : List Key} (h : one L = true) : PySem.W.AllAlike (L.map keyD) ∧ PySem.W.Sortable (L.map keyD) := by
  unfold one at h
  rw [Bool.or_eq_true] at h
  constructor
  · intro d hd e he
    obtain ⟨k, m, rfl⟩ := List.mem_map.mp hd
    obtain ⟨j, n, rfl⟩ := List.mem_map.mp he
    rcases h with h | h
    · have a := List.all_eq_true.mp h k m
      have b := List.all_eq_true.mp h j n
      cases k <;> cases j <;> first | rfl | (simp at b; done) | (simp at a; done)
    · have a := List.all_eq_true.mp h k m
      have b := List.all_eq_true.mp h j n
      cases k <;> cases j <;> first | rfl | (simp at b; done) | (simp at a; done)
  · refine .inr fun d hd => ?_
    obtain ⟨k, m, rfl⟩ := List.mem_map.mp hd
    cases k <;> exact ⟨nofun, fun _ => nofun⟩
theorem vals_keys : ∀ {out : List Value} {ks : List Key}, PySem.W.EachIs (fun u k => keyIs k u = true) out ks → Vals (ks.map kV) out
  | _, _, .nil => .nil
  | _, _, .cons h t => by
    refine .cons ?_ (vals_keys t)
    rcases keyIs_shape h with ⟨i, t, rfl, rfl⟩ | ⟨x, t, rfl, rfl⟩
    · exact ⟨t, rfl⟩
    · exact ⟨t, rfl⟩
theorem cr_sortL1 (hc : X.calm = true) (hu : X.A.units + 64 < cLine) : CallR X (.builtin "sorted") (rSortL1 X.prog X.w) := by
  intro pins s σ H vs us Q I r h
  obtain ⟨a, L, rfl, ha, h1, q⟩ := h
  have R : SetL (mixKind X.prog X.w) s.heap a L := (I.hok a _ ha).1
  rw [Vals.ref1 r]
  obtain ⟨al, sb⟩ := one_alike h1
  refine setL_sorted (enc := keyD) R (I.ok.hd hc) (fun h k v i => ?_) (fun k => ?_) hu al sb fun s' p c out ks k g o hp hg eo nd mem hz => ?_
  · rcases keyIs_shape i with ⟨j, t, rfl, rfl⟩ | ⟨x, t, rfl, rfl⟩
    · exact .int _ _
    · exact .str _ _
  · cases k <;> simp [keyD, PyData.depth]
  have hn : H p = none := I.hok.fresh hp
  have hlen : ((srtK ks).map kV).length ≤ sizeLine := by
    unfold srtK
    rw [List.length_map, List.length_mergeSort]; exact fits_of_scanBound hz
  have J : L2.Inv X pins σ (upd H p (.lst ((srtK ks).map kV))) { s with heap := s'.heap, gens := s'.gens, drawn := s'.drawn, toks := s'.toks } :=
    I.call (ch := []) (Un.laid k hp hn) (I.hok.laid k hp ⟨hlen, out, c, vals_keys eo, hg⟩) (by rw [g]; exact I.bare) (fun _ z => nomatch z)
  obtain ⟨hp', g', d', t', o'⟩ := s'
  obtain rfl : o' = s.os := o
  exact ⟨.ref p, _, J, rfl, q ks p nd mem hn⟩
end
/-- what stands for keys of one sort -/
def keysD : List D → Option (List Key)
  | [] => some []
  | .int i :: r => (keysD r).map (Sum.inl i :: ·)
  | .str x :: r => (keysD r).map (Sum.inr x :: ·)
  | _ => none
theorem keysD_ok {K : PySem.W.Frag} {H : Hp} : ∀ {xs : List D} {ks : List Key} {vs : List V}, DpAll K H vs xs → keysD xs = some ks → vs = ks.map kV ∧ xs = ks.map keyD
  | [], ks, _, h, e => by cases h; cases e; exact ⟨rfl, rfl⟩
  | x :: xs, ks, _, .cons h t, e => by
    cases h <;> (try (unfold keysD at e; cases e; done))
    · unfold keysD at e
      obtain ⟨l, e1, rfl⟩ := Option.map_eq_some_iff.mp e
      obtain ⟨q1, q2⟩ := keysD_ok t e1
      subst q1; subst q2
      exact ⟨rfl, rfl⟩
    · unfold keysD at e
      obtain ⟨l, e1, rfl⟩ := Option.map_eq_some_iff.mp e
      obtain ⟨q1, q2⟩ := keysD_ok t e1
      subst q1; subst q2
      exact ⟨rfl, rfl⟩
def ded {α : Type} [DecidableEq α] : List α → List α
  | [] => []
  | x :: xs => if x ∈ xs then ded xs else x :: ded xs
theorem ded_mem {α : Type} [DecidableEq α] {y : α} : ∀ {xs : List α}, y ∈ ded xs ↔ y ∈ xs
  | [] => Iff.rfl
  | x :: xs => by
    unfold ded
    split
    · rename_i h
      rw [ded_mem, List.mem_cons]
      exact ⟨.inr, fun z => z.elim (fun e => e ▸ h) id⟩
    · rw [List.mem_cons, List.mem_cons, ded_mem]
theorem ded_nodup {α : Type} [DecidableEq α] : ∀ {xs : List α}, (ded xs).Nodup
  | [] => List.nodup_nil
  | x :: xs => by
    unfold ded
    split
    · exact ded_nodup
    · rename_i h
      exact List.nodup_cons.mpr ⟨fun m => h (ded_mem.mp m), ded_nodup⟩
theorem one_le {a b : Key} (h : (a.isLeft && b.isLeft) || (a.isRight && b.isRight)) (h1 : PySem.W.dataLe false keyD a b = true) (h2 : PySem.W.dataLe false keyD b a = true) : a = b := by
  rw [PySem.W.dataLe_eq] at h1 h2
  cases a with
  | inl i => cases b with
    | inl j =>
      simp only [keyD, PySem.W.dataLt_int, cond_false] at h1 h2
      simp at h1 h2
      rw [show i = j by omega]
    | inr y => simp at h
  | inr x => cases b with
    | inl j => simp at h
    | inr y =>
      simp only [keyD, PySem.W.dataLt_str, cond_false] at h1 h2
      have e1 : ¬ (y.cps.toList < x.cps.toList) := by simpa using h1
      have e2 : ¬ (x.cps.toList < y.cps.toList) := by simpa using h2
      have : x.cps.toList = y.cps.toList := List.le_antisymm (List.not_lt.mp e1) (List.not_lt.mp e2)
      have : x = y := by
        cases x; cases y
        simp at this
        rw [this]
      rw [this]
theorem srtK_eq {ks L : List Key} (h1 : one L = true) (nd : ks.Nodup) (mem : ∀ k, k ∈ ks ↔ k ∈ L) : srtK ks = srtK (ded L) := by
  have tot := PySem.W.sortLe_total (PyProof.Rows.listOrd PyProof.Rows.itemOrd) false fun k => PySem.W.keyToks (keyD k)
  have pw : ∀ l : List Key, (srtK l).Pairwise fun a b => PySem.W.dataLe false keyD a b = true := fun l =>
    List.pairwise_mergeSort (fun a b c h h' => tot.trans a b c h h') (fun a b => by rcases tot.total a b with h | h <;> (first | (rw [Bool.or_eq_true]; exact .inl h) | (rw [Bool.or_eq_true]; exact .inr h))) l
  have pm : ks.Perm (ded L) := (List.perm_ext_iff_of_nodup nd ded_nodup).mpr fun k => (mem k).trans ded_mem.symm
  have p2 : (srtK ks).Perm (srtK (ded L)) := ((List.mergeSort_perm ks _).trans pm).trans (List.mergeSort_perm (ded L) _).symm
  refine p2.eq_of_pairwise (fun a b ha hb h h' => one_le ?_ h h') (pw ks) (pw (ded L))
  have ma : a ∈ L := (mem a).mp ((List.mergeSort_perm ks _).mem_iff.mp ha)
  have mb : b ∈ L := ded_mem.mp ((List.mergeSort_perm (ded L) _).mem_iff.mp hb)
  unfold one at h1
  rw [Bool.or_eq_true] at h1
  rcases h1 with h1 | h1
  · simp [List.all_eq_true.mp h1 a ma, List.all_eq_true.mp h1 b mb]
  · simp [List.all_eq_true.mp h1 a ma, List.all_eq_true.mp h1 b mb]
/-- sorted(set(xs)) -/
def opSetS (x : Sv) : Option Sv := match datC x with
  | some (.list xs) => (keysD xs).bind fun ks => if one ks = true ∧ ks.length ≤ 4000 then some (.own (.lst ((srtK (ded ks)).map keyD))) else none
  | _ => none
theorem keys_all {K : PySem.W.Frag} {R : Hp} : ∀ ks : List Key, DpAll K R (ks.map kV) (ks.map keyD)
  | [] => .nil
  | .inl i :: ks => .cons (.int i) (keys_all ks)
  | .inr x :: ks => .cons (.str x) (keys_all ks)
theorem New.pre {K : PySem.W.Frag} {H H1 H' : Hp} {P : Addr → Prop} {s : Sv} {u : V} {B : List Addr} (n : New K H1 P s u H' B) (e : Same H H1) (k : ∀ a, H1 a = none → H a = none) : New K H P s u H' B :=
  ⟨fun c o z => n.same c o (e c o z), fun a z => k a (n.new a z), n.rs⟩
theorem ok_setS {K : PySem.W.Frag} {P0 : Program} {w0 : World} : R1Ok K (fun x H Q => rSetL1 K P0 w0 [x] H fun y H1 => rSortL1 P0 w0 [y] H1 Q) opSetS := by
  intro H P v x s Q B1 hl r h hq
  unfold opSetS at h
  split at h
  · rename_i xs q
    obtain ⟨ks, e1, h⟩ := Option.bind_eq_some_iff.mp h
    split at h
    · rename_i ok
      cases h
      obtain ⟨a, vs, rfl, hs, hd⟩ := datC_list r q
      obtain ⟨q1, q2⟩ := keysD_ok hd e1
      subst q1
      refine ⟨a, ks, rfl, hs, ?_, fun a1 n1 => ⟨a1, ks, rfl, upd_same, ok.1, fun ks' p nd mem np => ?_⟩⟩
      · have := ok.2
        show ks.length + 1 < 4096
        omega
      · rw [srtK_eq ok.1 nd mem]
        refine hq _ _ [p] ((New.lst (H := upd H a1 (SetLO P0 w0 a1 ks)) np (keys_all _)).pre (fun c o z => ?_) fun c z => ?_)
        · rw [upd_ne (ne_of_none z n1)]; exact z
        · by_cases e : c = a1
          · rw [e]; exact n1
          · rw [upd_ne e] at z; exact z
    · cases h
  · cases h
theorem se_setS {X : Cx} {e : Expr} {p p2 pos pos2 : Pos} {f} (hc : X.calm = true) (hu : X.A.units + 64 < cLine) (hg : Gl X "sorted") (hm : X.mg "sorted" = none) (hg2 : Gl X "set") (hm2 : X.mg "set" = none) (he : SO X e f)
    (h1 : starEach [e] X.env = (false, eval e X.env) :: starEach [] X.env := by rfl) (h2 : (backTo pos2 (starEach [] X.env)).any (·.1) = false := by rfl)
    (h3 : starEach [.Call (.Name "set" p2) [e] [] pos2] X.env = (false, eval (.Call (.Name "set" p2) [e] [] pos2) X.env) :: starEach [] X.env := by rfl) (h4 : (backTo pos (starEach [] X.env)).any (·.1) = false := by rfl) :
    SE X (.Call (.Name "sorted" p) [.Call (.Name "set" p2) [e] [] pos2] [] pos) (eOp1 opSetS f) := by
  obtain ⟨t, pt, hs⟩ := se_tUn he (ok_setS (K := X.K) (P0 := X.prog) (w0 := X.w))
  have q1 := pe_callTy (p := p2) (cr_setL1 hc) hg2 hm2 PyProof.Rows.boot_set (pa_cons pt pa_nil h1) (by decide +kernel) (by decide +kernel) h1 h2
  have q2 := pe_callB (p := p) (cr_sortL1 hc hu) hg hm PyProof.Rows.boot_sorted (pa_cons q1 pa_nil h3) (by decide +kernel) (by decide +kernel) h3 h4
  exact ⟨_, q2, hs⟩
theorem keysD_strs : ∀ ns : List Str, keysD (ns.map .str) = some (ns.map Sum.inr)
  | [] => rfl
  | n :: ns => by rw [List.map_cons, keysD, keysD_strs ns]; rfl
theorem keysD_ints : ∀ ns : List Int, keysD (ns.map .int) = some (ns.map Sum.inl)
  | [] => rfl
  | n :: ns => by rw [List.map_cons, keysD, keysD_ints ns]; rfl
theorem rights : ∀ {ks : List Key}, (∀ k ∈ ks, k.isRight = true) → ∃ zs : List Str, ks = zs.map Sum.inr
  | [], _ => ⟨[], rfl⟩
  | .inr z :: ks, h => by
    obtain ⟨zs, e⟩ := rights fun k m => h k (List.mem_cons_of_mem _ m)
    exact ⟨z :: zs, by rw [e]; rfl⟩
  | .inl i :: ks, h => by have := h _ List.mem_cons_self; cases this
theorem lefts : ∀ {ks : List Key}, (∀ k ∈ ks, k.isLeft = true) → ∃ zs : List Int, ks = zs.map Sum.inl
  | [], _ => ⟨[], rfl⟩
  | .inl z :: ks, h => by
    obtain ⟨zs, e⟩ := lefts fun k m => h k (List.mem_cons_of_mem _ m)
    exact ⟨z :: zs, by rw [e]; rfl⟩
  | .inr i :: ks, h => by have := h _ List.mem_cons_self; cases this
theorem srtK_pw (l : List Key) : (srtK l).Pairwise fun a b => PySem.W.dataLe false keyD a b = true := by
  have tot := PySem.W.sortLe_total (PyProof.Rows.listOrd PyProof.Rows.itemOrd) false fun k => PySem.W.keyToks (keyD k)
  exact List.pairwise_mergeSort (fun a b c h h' => tot.trans a b c h h') (fun a b => by rcases tot.total a b with h | h <;> (first | (rw [Bool.or_eq_true]; exact .inl h) | (rw [Bool.or_eq_true]; exact .inr h))) l
/-- sorted(set(..)) of strings -/
theorem setS_strs (ns : List Str) (hl : ns.length ≤ 4000) : ∃ zs : List Str, zs.Nodup ∧ (∀ z, z ∈ zs ↔ z ∈ ns) ∧ zs.Pairwise (fun a b => a.cps.toList < b.cps.toList) ∧ opSetS (.dat (.list (ns.map .str))) = some (.own (.lst (zs.map .str))) := by
  have mem : ∀ k, k ∈ srtK (ded (ns.map (Sum.inr : Str → Key))) ↔ k ∈ ns.map Sum.inr := fun k => (List.mergeSort_perm _ _).mem_iff.trans ded_mem
  obtain ⟨zs, ez⟩ := rights (ks := srtK (ded (ns.map Sum.inr))) fun k m => by
    obtain ⟨n, _, rfl⟩ := List.mem_map.mp ((mem k).mp m)
    rfl
  have nd : (zs.map (Sum.inr : Str → Key)).Nodup := by rw [← ez]; exact (List.mergeSort_perm _ _).nodup_iff.mpr ded_nodup
  have nd2 : zs.Nodup := List.Pairwise.of_map _ (fun a b h e => h (congrArg _ e)) nd
  refine ⟨zs, nd2, fun z => ?_, ?_, ?_⟩
  · have := mem (Sum.inr z)
    rw [ez] at this
    simpa using this
  · have pw := srtK_pw (ded (ns.map (Sum.inr : Str → Key)))
    rw [ez, List.pairwise_map] at pw
    refine (pw.and nd2).imp fun {a b} ⟨h, ne⟩ => ?_
    rw [PySem.W.dataLe_eq] at h
    simp only [keyD, PySem.W.dataLt_str, cond_false] at h
    have e1 : ¬ (b.cps.toList < a.cps.toList) := by simpa using h
    refine Classical.byContradiction fun c => ne ?_
    have : a.cps.toList = b.cps.toList := List.le_antisymm (List.not_lt.mp e1) (List.not_lt.mp c)
    cases a; cases b
    simp at this
    rw [this]
  · have h1 : one (ns.map (Sum.inr : Str → Key)) = true := by
      unfold one
      rw [Bool.or_eq_true]
      exact .inr (by rw [List.all_map]; simp)
    unfold opSetS
    simp only [datC_dat]
    rw [keysD_strs, Option.bind_some, if_pos ⟨h1, by simpa using hl⟩, ez, List.map_map]
    rfl
section
variable {g : D → Ev → Option Ev} {t : Ev → Option (Bool × Ev)} {e : Ev → Option (Sv × Ev)} {vs : List Nat}
/-- .. and of how many items are still to come -/
theorem lc_cnt (I : List D → Nat → Ev → Prop) {xs : List D} {ρ : Ev} {Q} (hx : ∀ x ∈ xs, ∀ acc n r, I acc (n + 1) r → Wp (g x r) fun r1 => Wp (t r1) fun p => (p.1 = true → Wp (e p.2) fun q => ∃ d, frz q.1 = .dat d ∧ I (acc ++ [d]) n (wipeE q.2 vs)) ∧ (p.1 = false → I acc n (wipeE p.2 vs))) (h : I [] xs.length ρ) (hq : ∀ ds r, I ds 0 r → Q (ds, r)) : Wp (lcL g t e vs xs ρ) Q := by
  have gen : ∀ (ys acc : List D) (r : Ev) (Q), (∀ y ∈ ys, y ∈ xs) → I acc ys.length r → (∀ ds r, I (acc ++ ds) 0 r → Q (ds, r)) → Wp (lcL g t e vs ys r) Q := by
    intro ys
    induction ys with
    | nil => intro acc r Q _ h hq; rw [lcL, wp_some]; exact hq [] r (by simpa using h)
    | cons y ys ih =>
      intro acc r Q hs h hq
      rw [lcL, wp_bind]
      refine (hx y (hs y List.mem_cons_self) acc ys.length r h).mono fun r1 h1 => ?_
      rw [wp_bind]
      refine h1.mono fun p ⟨h2, h3⟩ => ?_
      by_cases c : p.1 = true
      · rw [if_pos c, wp_bind]
        refine (h2 c).mono fun q ⟨d, e1, h4⟩ => ?_
        rw [e1]
        dsimp only
        rw [wp_map]
        exact ih _ _ _ (fun z m => hs z (List.mem_cons_of_mem _ m)) h4 fun ds r h5 => hq (d :: ds) r (by simpa using h5)
      · rw [if_neg c]
        exact ih _ _ _ (fun z m => hs z (List.mem_cons_of_mem _ m)) (h3 (by simpa using c)) hq
  exact gen xs [] ρ Q (fun _ h => h) h (by simpa using hq)
end
end DL
namespace DL
open PySem PySem.Spec PyProof.Rows L2
/-! ### sizes of ints -/
def lg (x : Int) : Nat := x.natAbs.log2
theorem lt_lg (x : Int) : x.natAbs < 2 ^ (lg x + 1) := Nat.lt_log2_self
theorem lg_le {x : Int} {k : Nat} (h : x.natAbs < 2 ^ (k + 1)) : lg x ≤ k := Nat.lt_succ_iff.mp (lg_lt h)
theorem lg_mul (a b : Int) : lg (a * b) ≤ lg a + lg b + 1 := by
  refine lg_le ?_
  rw [Int.natAbs_mul]
  have h1 := lt_lg a
  have h2 := lt_lg b
  have : a.natAbs * b.natAbs < 2 ^ (lg a + 1) * 2 ^ (lg b + 1) := Nat.mul_lt_mul'' h1 h2
  rw [← Nat.pow_add] at this
  rw [show lg a + lg b + 1 + 1 = lg a + 1 + (lg b + 1) by omega]
  exact this
theorem lg_add (a b : Int) : lg (a + b) ≤ lg a + lg b + 1 := by
  refine lg_le ?_
  have h1 := lt_lg a
  have h2 := lt_lg b
  have h3 : 2 ^ (lg a + 1) ≤ 2 ^ (lg a + lg b + 1) := Nat.pow_le_pow_right (by decide) (by omega)
  have h4 : 2 ^ (lg b + 1) ≤ 2 ^ (lg a + lg b + 1) := Nat.pow_le_pow_right (by decide) (by omega)
  have h5 : (a + b).natAbs ≤ a.natAbs + b.natAbs := Int.natAbs_add_le a b
  rw [Nat.pow_succ 2 (lg a + lg b + 1)]
  omega
theorem lg_neg (a : Int) : lg (-a) = lg a := by unfold lg; rw [Int.natAbs_neg]
theorem lg_sub (a b : Int) : lg (a - b) ≤ lg a + lg b + 1 := by
  have := lg_add a (-b)
  rw [lg_neg] at this
  rw [Int.sub_eq_add_neg]; exact this
theorem lg_mono {a b : Int} (h : a.natAbs ≤ b.natAbs) : lg a ≤ lg b := lg_le (Nat.lt_of_le_of_lt h (lt_lg b))
theorem lg_div (a b : Int) : lg (a / b) ≤ lg a := lg_mono (Int.natAbs_ediv_le_natAbs a b)
theorem lg_small {x : Int} (h : x.natAbs < 2 ^ 64) : lg x ≤ 63 := lg_le (k := 63) h
theorem lg_one : lg 1 = 0 := by decide
theorem lg_fold (x : Int) : x.natAbs.log2 = lg x := by unfold lg; exact Eq.refl _
theorem div_bounds {t l : Int} (h : 0 < l) : t / l * l ≤ t ∧ t < (t / l + 1) * l := by
  constructor
  · exact Int.ediv_mul_le t (by omega)
  · have := Int.lt_ediv_add_one_mul_self t h
    exact this
theorem divb {w l : Int} (h : lg w ≤ 40000000) (k : lg l ≤ 40000000) : lg w + lg l < 100000000 := by omega
end DL
namespace DL
open PySem PySem.Spec PyProof.Rows L2
/-! ### for over a name that keeps its list -/
def holds (j : Nat) (all : List D) (ρ : Ev) : Prop := ownL ρ j = some all
open Classical in
noncomputable def forLV (j : Nat) (all : List D) (g : D → Ev → Option Ev) (body : Ev → Option Out) : List D → Ev → Option Out
  | [], ρ => if holds j all ρ then some (.nx ρ) else none
  | x :: xs, ρ => if holds j all ρ then (g x ρ).bind fun ρ1 => (body ρ1).bind fun o => match o with
    | .nx ρ2 => forLV j all g body xs ρ2
    | .ct ρ2 => forLV j all g body xs ρ2
    | .bk ρ2 => some (.nx ρ2)
    | .rt s ρ2 => some (.rt s ρ2) else none
noncomputable def sForV (j : Nat) (g : D → Ev → Option Ev) (body : Ev → Option Out) : Ev → Option Out := fun ρ => (ownL ρ j).bind fun xs => forLV j xs g body xs ρ
theorem own_at {K : PySem.W.Frag} {H : Hp} {B : List Addr} {σ : L2.St} {ρ : Ev} {A : AS} {j : Nat} {all : List D} (S : Stt K H B σ ρ A) (h : holds j all ρ) : ∃ a vs, σ[j]? = some (some (.ref a)) ∧ H a = some (.lst vs) ∧ DpAll K (wo H (OwB B A)) vs all := by
  obtain ⟨v, e, r⟩ := S.got j _ (ownL_of h)
  revert r
  generalize A.f j = B0
  intro r
  cases r with
  | own w =>
    obtain ⟨vs, e2, hd⟩ := w
    exact ⟨_, vs, e, e2, hd⟩
theorem ss_forV {X : Cx} {io io' : List Nat} {pos p : Pos} {tg : Expr} {x : Str} {j : Nat} {body : List Stmt} {g fb} (hp : PassesOwn (model X.prog X.w) X.A X.env X.xe) (hc : X.calm = true) (hN : X.N[j]? = some x) (hv : Vis X.env.scope x) (hj : j ∈ io') (hio : ∀ i ∈ io, i ∈ io') (hg : SG io' X tg g) (hb : SSs io' X body fb)
    (hd : (x == ("__debug__" : Str)) = false := by decide +kernel) (hcd : (x == ("__classdict__" : Str)) = false := by decide +kernel)
    (hset : ∀ y, foldedSetIterable (.Name x p) X.env y = pure y := by intro _; rfl) : SS io X (.For tg (.Name x p) body [] pos) (sForV j g fb) := by
  obtain ⟨tg', pg, hg⟩ := hg
  obtain ⟨tb, pb, hb⟩ := hb
  refine ⟨_, ps_for hp hc (pi_list (pe_var hN hv hd hcd)) pg pb hset, fun σ0 ρ0 A0 H0 Dd o S hf hq => ?_⟩
  unfold sForV at hf
  obtain ⟨xs, e1, hf⟩ := Option.bind_eq_some_iff.mp hf
  obtain ⟨a0, vs0, q1, q2, q3⟩ := own_at S (show holds j xs ρ0 from e1)
  refine ⟨.ref a0, q1, a0, rfl, ⟨vs0, SqL.of q2⟩, ?_⟩
  refine ⟨fun i m σ H => m = xs.length - i ∧ ∃ ρ A, Stp X.K io' H0 A0 σ0 σ ρ H A ∧ forLV j xs g fb (xs.drop i) ρ = some o, ⟨_, rfl, ρ0, A0, .same S .refl, hf⟩, ?_⟩
  rintro i m σ H ⟨rfl, ρ, A, a, hl⟩
  have hh : holds j xs ρ := by
    cases ed : xs.drop i with
    | nil => rw [ed] at hl; unfold forLV at hl; split at hl; assumption; cases hl
    | cons d r => rw [ed] at hl; unfold forLV at hl; split at hl; assumption; cases hl
  obtain ⟨a1, vs, w1, w2, w3⟩ := own_at a.st hh
  have ea : a1 = a0 := by
    have := a.io j hj
    rw [w1, q1] at this
    cases this; rfl
  subst ea
  have sq : SqL X.K H a1 vs := SqL.of w2
  cases ed : xs[i]? with
  | none =>
    have hlen : xs.length ≤ i := List.getElem?_eq_none_iff.mp ed
    refine .inl ⟨⟨vs, sq, by rw [DpAll.length w3]; exact hlen⟩, ?_⟩
    rw [List.drop_eq_nil_of_le hlen] at hl
    unfold forLV at hl
    rw [if_pos hh] at hl
    cases hl
    exact hq σ H A ⟨a.st, a.gr, fun i hi => a.io i (hio i hi), a.ln⟩
  | some d =>
    obtain ⟨v, g1, r1⟩ := DpAll.get w3 ed
    have hlt : i < xs.length := (List.getElem?_eq_some_iff.mp ed).1
    have hdrop : xs.drop i = d :: xs.drop (i + 1) := by
      rw [List.drop_eq_getElem_cons hlt]
      congr 1
      exact Option.some.inj ((List.getElem?_eq_getElem hlt).symm.trans ed)
    rw [hdrop] at hl
    unfold forLV at hl
    rw [if_pos hh] at hl
    obtain ⟨ρ2, e2, hl⟩ := Option.bind_eq_some_iff.mp hl
    obtain ⟨o1, e3, hl⟩ := Option.bind_eq_some_iff.mp hl
    refine .inr ⟨⟨vs, v, sq, g1⟩, fun σ' H' => ∃ ρ' A', Stp X.K io' H0 A0 σ0 σ' ρ' H' A' ∧ forLV j xs g fb (xs.drop (i + 1)) ρ' = some o, fun σ' H' ⟨ρ', A', b, hl'⟩ => ⟨xs.length - (i + 1), by omega, rfl, ρ', A', b, hl'⟩, fun y H' yl => ?_⟩
    obtain ⟨rfl, yv⟩ := yl
    have ey := yv vs sq
    rw [g1] at ey
    cases ey
    refine hg σ ρ A H' v d _ ρ2 a.st r1 e2 fun σ3 H3 A3 c => ?_
    refine hb σ3 ρ2 A3 H3 _ o1 c.st e3 ?_
    have b1 : Stp X.K io' H0 A0 σ0 σ3 ρ2 H3 A3 := a.trans c
    have lo : ∀ {σ4 ρ4 H4 A4}, Stp X.K io' H0 A0 σ0 σ4 ρ4 H4 A4 → Stp X.K io H0 A0 σ0 σ4 ρ4 H4 A4 := fun s => ⟨s.st, s.gr, fun i hi => s.io i (hio i hi), s.ln⟩
    cases o1 with
    | nx ρ4 => exact fun σ4 H4 A4 e => ⟨ρ4, A4, b1.trans e, hl⟩
    | ct ρ4 => exact fun σ4 H4 A4 e => ⟨ρ4, A4, b1.trans e, hl⟩
    | bk ρ4 => cases hl; exact fun σ4 H4 A4 e => hq σ4 H4 A4 (lo (b1.trans e))
    | rt s ρ4 =>
      cases hl
      intro v σ4 H4 A4 B e
      have r := b1.ret e
      exact hq v σ4 H4 A4 B ⟨r.p, fun i hi => r.io i (hio i hi)⟩
open Classical in
noncomputable def chk (j : Nat) (all : List D) (g : D → Ev → Option Ev) : D → Ev → Option Ev := fun x ρ => if holds j all ρ then g x ρ else none
theorem chk_some {j : Nat} {all : List D} {g : D → Ev → Option Ev} {x : D} {ρ r : Ev} (h : chk j all g x ρ = some r) : holds j all ρ ∧ g x ρ = some r := by
  unfold chk at h
  split at h
  · exact ⟨by assumption, h⟩
  · cases h
open Classical in
/-- [e for .. in name if ..], the name keeps its list -/
noncomputable def eLcV (j : Nat) (g : D → Ev → Option Ev) (t : Ev → Option (Bool × Ev)) (e : Ev → Option (Sv × Ev)) (vs : List Nat) : Ev → Option (Sv × Ev) := fun ρ =>
  (ownL ρ j).bind fun xs => if xs.length ≤ 1000000 then (lcL (chk j xs g) t e vs xs (wipeE ρ vs)).bind fun r => if holds j xs r.2 then some (.own (.lst r.1), backE ρ r.2 vs) else none else none
theorem lc_runV {K : PySem.W.Frag} {wi : TI} {jv : Nat} {fg : D → Ev → Option Ev} {ft : Ev → Option (Bool × Ev)} {fe : Ev → Option (Sv × Ev)} {vs io : List Nat} {n : Nat} (hio : ∀ i, i < n → i ∉ vs → i ∈ io)
    (hi : ∀ (σ : L2.St) (ρ : Ev) (A : AS) (H : Hp) (R : It → Hp → Prop) (xs : List D), Stt K H [] σ ρ A → holds jv xs ρ → (∀ J, (∀ (H2 : Hp) (B : List Addr) (σw : L2.St) (ρi : Ev) (Ai : AS), (∀ i, i ∉ vs → σw[i]? = σ[i]?) → Stt K H2 B σw ρi Ai → holds jv xs ρi → ∀ i, (∀ d, xs[i]? = some d → J.go i H2 ∧ ∀ x H', J.yld i H2 x H' → Same H2 H' ∧ Dp K (wo H' (OwB B Ai)) x d) ∧ (xs.length ≤ i → J.stop i H2)) → R J H) → wi σ H R) :
    ∀ (σ : L2.St) (ρ : Ev) (A : AS) (H : Hp) (Q : VK) (s : Sv) (ρ' : Ev), σ.length = n → Stt K H [] σ ρ A → eLcV jv fg ft fe vs ρ = some (s, ρ') →
      (∀ v H' A' B, PostE K H A σ ρ' s v H' A' B → Q v H') → tLc wi (tOfG K io fg) (tOfT K ft) (tOfE K fe) vs σ H Q := by
  intro σ ρ1 A1 H1 Q s ρ' hn S1 hf hq
  unfold eLcV at hf
  obtain ⟨xs, e1, hf⟩ := Option.bind_eq_some_iff.mp hf
  split at hf
  · rename_i hlen
    obtain ⟨⟨r, ρn⟩, e2, hf⟩ := Option.bind_eq_some_iff.mp hf
    dsimp only at hf
    split at hf
    case isFalse => cases hf
    rename_i hend
    cases hf
    have g1 : Gr H1 A1 H1 [] A1 := .refl
    refine hi σ ρ1 A1 H1 _ xs S1 e1 fun J hJ => ?_
    intro Da nD
    have p0 := (New.lst (K := K) (H := H1) (P := OwB [] (wipeA A1 vs)) (vs := []) (xs := []) nD .nil).post (S1.wipe vs) .refl
    refine ⟨fun i m H => m = xs.length - i ∧ ∃ (ρi : Ev) (Ai : AS) (accV : List V) (acc r' : List D), Stt K H [Da] (L2.wipe σ vs) ρi Ai ∧ Gr H1 (wipeA A1 vs) H [Da] Ai ∧ H Da = some (.lst accV) ∧ DpAll K (wo H (OwB [Da] Ai)) accV acc ∧ acc.length ≤ i ∧
      lcL (chk jv xs fg) ft fe vs (xs.drop i) ρi = some (r', ρn) ∧ acc ++ r' = r, ⟨_, rfl, _, _, [], [], r, p0.st, p0.gr, upd_same, .nil, Nat.le_refl _, e2, rfl⟩, ?_⟩
    rintro i m H2 ⟨rfl, ρi, Ai, accV, acc, r', Si, gi, eD, hd, hle, hl, hr⟩
    have liveP : ∀ a, OwB [Da] Ai a → ∃ u, H2 a = some u := fun a z => by
      rcases z with z | z | z
      · exact Si.zl a z
      · simp at z; subst z; exact ⟨_, eD⟩
      · exact Si.live a z
    have sR : Same (wo H1 (OwB [] A1)) (wo H2 (OwB [Da] Ai)) := by have := gi.s; rw [wipeA_owB] at this; exact this
    have hh : holds jv xs ρi := by
      cases ed : xs.drop i with
      | nil => rw [ed] at hl; cases hl; exact hend
      | cons d r =>
        rw [ed] at hl
        unfold lcL at hl
        obtain ⟨ρ2, q2, _⟩ := Option.bind_eq_some_iff.mp hl
        exact (chk_some q2).1
    obtain ⟨hgo, hstop⟩ := hJ H2 [Da] (L2.wipe σ vs) ρi Ai (fun i hv => wipe_out hv) Si hh i
    cases ed : xs[i]? with
    | none =>
      have hlen' : xs.length ≤ i := List.getElem?_eq_none_iff.mp ed
      refine .inl ⟨hstop hlen', ?_⟩
      rw [List.drop_eq_nil_of_le hlen'] at hl
      cases hl
      rw [List.append_nil] at hr
      subst hr
      obtain ⟨b1, b2, b3⟩ := S1.back Si gi
      exact hq _ H2 _ [Da] ⟨b1, .own ⟨_, eD, DpAll.mono b3 hd⟩, g1.trans b2⟩
    | some d =>
      obtain ⟨go, hy⟩ := hgo d ed
      have hlt : i < xs.length := (List.getElem?_eq_some_iff.mp ed).1
      have hdrop : xs.drop i = d :: xs.drop (i + 1) := by
        rw [List.drop_eq_getElem_cons hlt]
        congr 1
        exact Option.some.inj ((List.getElem?_eq_getElem hlt).symm.trans ed)
      rw [hdrop] at hl
      unfold lcL at hl
      obtain ⟨ρ2, q2, hl⟩ := Option.bind_eq_some_iff.mp hl
      obtain ⟨⟨b, ρ3⟩, q3, hl⟩ := Option.bind_eq_some_iff.mp hl
      have q2 := (chk_some q2).2
      refine .inr ⟨go, _, fun H' w => ⟨xs.length - (i + 1), by omega, w⟩, fun x H' yl => ?_⟩
      obtain ⟨sm, dx⟩ := hy x H' yl
      have S' : Stt K H' [Da] (L2.wipe σ vs) ρi Ai := Si.mono (Same.wo2 sm fun a z => .inl z) (fun a _ u z => sm a u z) fun a z => ⟨Si.fr a z, fun h => (Si.zd a h).2 z⟩
      have Ss := S'.shut (fun a z => by simp at z; subst z; exact ⟨_, sm _ _ eD⟩)
      refine ⟨ρi, shut Ai [Da], d, ρ2, Ss, by rw [shut_owB]; exact dx, q2, fun σ2 H3 A3 st => ⟨?_, ρ2, A3, b, ρ3, st.st, q3, fun H4 A4 S4 g4 => ?_⟩⟩
      · have := wipe_same (vs := vs) (io := io) st.ln (fun i hi hv => hio i (by rw [wipe_length] at hi; omega) hv) st.io
        rw [this]
        apply List.ext_getElem?
        intro j
        by_cases hv : j ∈ vs
        · have key : ∀ τ : L2.St, j < τ.length → (L2.wipe τ vs)[j]? = some none := by
            intro τ hj
            cases q : (L2.wipe τ vs)[j]? with
            | none => rw [List.getElem?_eq_none_iff, wipe_length] at q; omega
            | some o => cases o with
              | none => rfl
              | some z => exact absurd hv (wipe_some q).2
          by_cases hj : j < σ.length
          · rw [key _ (by rw [wipe_length]; exact hj), key _ hj]
          · rw [List.getElem?_eq_none (by rw [wipe_length, wipe_length]; omega), List.getElem?_eq_none (by rw [wipe_length]; omega)]
        · rw [wipe_out hv]
      · have g24 : Gr H' (shut Ai [Da]) H4 [] A4 := st.gr.trans g4
        have hw : L2.wipe σ2 vs = L2.wipe σ vs := by
          have := wipe_same (vs := vs) (io := io) st.ln (fun i hi hv => hio i (by rw [wipe_length] at hi; omega) hv) st.io
          rw [this]
          apply List.ext_getElem?
          intro j
          by_cases hv : j ∈ vs
          · have key : ∀ τ : L2.St, j < τ.length → (L2.wipe τ vs)[j]? = some none := by
              intro τ hj
              cases q : (L2.wipe τ vs)[j]? with
              | none => rw [List.getElem?_eq_none_iff, wipe_length] at q; omega
              | some o => cases o with
                | none => rfl
                | some z => exact absurd hv (wipe_some q).2
            by_cases hj : j < σ.length
            · rw [key _ (by rw [wipe_length]; exact hj), key _ hj]
            · rw [List.getElem?_eq_none (by rw [wipe_length, wipe_length]; omega), List.getElem?_eq_none (by rw [wipe_length]; omega)]
          · rw [wipe_out hv]
        cases b with
        | false =>
          refine iteF ?_
          have hl : lcL (chk jv xs fg) ft fe vs (xs.drop (i + 1)) (wipeE ρ3 vs) = some (r', ρn) := hl
          obtain ⟨t1, t2, t3, t4, t5⟩ := turn_end (vs := vs) Si gi eD hd sm S' S4 g24
          rw [hw] at t1
          exact ⟨rfl, _, _, accV, acc, r', t1, t2, t3, t4, by omega, hl, hr⟩
        | true =>
          refine iteT ?_
          have hl : (fe ρ3).bind (fun q => match frz q.1 with
            | .dat d => (lcL (chk jv xs fg) ft fe vs (xs.drop (i + 1)) (wipeE q.2 vs)).map fun r => (d :: r.1, r.2)
            | _ => none) = some (r', ρn) := hl
          obtain ⟨⟨sv, ρ5⟩, q4, hl⟩ := Option.bind_eq_some_iff.mp hl
          dsimp only at hl
          refine ⟨ρ3, A4, sv, ρ5, S4, q4, fun v H5 A5 B5 p => ?_⟩
          have pf := p.frz
          split at hl
          · rename_i d5 ef
            obtain ⟨⟨r5, ρ6⟩, q5, q6⟩ := Option.map_eq_some_iff.mp hl
            cases q6
            obtain ⟨pf1, pf2, pf3⟩ := pf
            rw [ef] at pf2
            obtain ⟨t1, t2, t3, t4, t5⟩ := turn_end (vs := vs) Si gi eD hd sm S' pf1 (g24.trans pf3)
            rw [hw] at t1
            cases pf2 with
            | dat pd =>
              obtain ⟨a1, a2, a3⟩ := app_end t1 t2 t4 (Dp.mono t5 pd)
              refine ⟨accV, t3, ?_, rfl, _, _, accV ++ [v], acc ++ [d5], r5, a1, a2, upd_same, a3, by simp; omega, q5, by rw [List.append_assoc]; exact hr⟩
              rw [DpAll.length hd]
              have : (1000000 : Nat) < sizeLine := by rw [sizeLine_eq]; decide
              omega
          · cases hl
  · cases hf
theorem name_it {K : PySem.W.Frag} {j : Nat} {vs : List Nat} (hv : j ∉ vs) (σ : L2.St) (ρ : Ev) (A : AS) (H : Hp) (R : It → Hp → Prop) (xs : List D) (S : Stt K H [] σ ρ A) (h : holds j xs ρ)
    (q : ∀ J, (∀ (H2 : Hp) (B : List Addr) (σw : L2.St) (ρi : Ev) (Ai : AS), (∀ i, i ∉ vs → σw[i]? = σ[i]?) → Stt K H2 B σw ρi Ai → holds j xs ρi → ∀ i, (∀ d, xs[i]? = some d → J.go i H2 ∧ ∀ x H', J.yld i H2 x H' → Same H2 H' ∧ Dp K (wo H' (OwB B Ai)) x d) ∧ (xs.length ≤ i → J.stop i H2)) → R J H) :
    iList K (fun σ H Q => ∃ v, σ[j]? = some (some v) ∧ Q v H) σ H R := by
  obtain ⟨a0, vs0, q1, q2, q3⟩ := own_at S h
  refine ⟨.ref a0, q1, a0, rfl, ⟨vs0, SqL.of q2⟩, q _ fun H2 B σw ρi Ai hw Si hh i => ?_⟩
  obtain ⟨a1, vs1, w1, w2, w3⟩ := own_at Si hh
  have ea : a1 = a0 := by
    have := hw j hv
    rw [w1, q1] at this
    cases this; rfl
  subst ea
  have sq : SqL K H2 a1 vs1 := SqL.of w2
  refine ⟨fun d hd => ?_, fun hi => ⟨vs1, sq, by rw [DpAll.length w3]; exact hi⟩⟩
  obtain ⟨v, g1, r1⟩ := DpAll.get w3 hd
  refine ⟨⟨vs1, v, sq, g1⟩, fun x H' ⟨e, yv⟩ => ?_⟩
  subst e
  have := yv vs1 sq
  rw [g1] at this
  cases this
  exact ⟨Same.refl _, r1⟩
section
variable {X : Cx} {elt tg : Expr} {ifs : List Expr} {scope : Scope} {own : List (Str × Nat)} {pos p : Pos} {x : Str} {j : Nat} {io : List Nat} {fg : D → Ev → Option Ev} {ft : Ev → Option (Bool × Ev)} {fe : Ev → Option (Sv × Ev)}
theorem se_lcV (n : Nat) (hc : X.calm = true) (hN : X.N.Nodup) (hx : X.N[j]? = some x) (hv : Vis X.env.scope x) (hj : j ∉ own.map (·.2)) (ok : BlkOk X.N X.env.scope scope own) (hn0 : X.N.length = n) (hio' : ∀ i, i < n → i ∉ own.map (·.2) → i ∈ io)
    (hg : ∀ (s : Shared) (H : Hp) (C : Addr) (cl : List (Str × Addr)) (fp : List Addr), SG io (X.blk s H scope (compEnvC scope cl C X.env) fp) tg fg)
    (ht : ∀ (s : Shared) (H : Hp) (C : Addr) (cl : List (Str × Addr)) (fp : List Addr), STs (X.blk s H scope (compEnvC scope cl C X.env) fp) ifs ft)
    (he : ∀ (s : Shared) (H : Hp) (C : Addr) (cl : List (Str × Addr)) (fp : List Addr), SE (X.blk s H scope (compEnvC scope cl C X.env) fp) elt fe)
    (hd : (x == ("__debug__" : Str)) = false := by decide +kernel) (hcd : (x == ("__classdict__" : Str)) = false := by decide +kernel) (hs : ∀ y, foldedSetIterable (.Name x p) X.env y = pure y := by intro _; rfl) :
    SE X (.ListComp elt [⟨tg, .Name x p, ifs, 0⟩] scope pos) (eLcV j fg ft fe (own.map (·.2))) := by
  have hio : ∀ i, i < X.N.length → i ∉ own.map (·.2) → i ∈ io := fun i h => hio' i (hn0 ▸ h)
  have pi := pi_list (tg := tg) (pe_var (pos := p) hx hv hd hcd)
  have P := pe_lc (elt := elt) (ifs := ifs) (g := tOfG X.K io fg) (tt := tOfT X.K ft) (te := tOfE X.K fe) (pos := pos) hc hN pi ok (fun s H C cl fp => (hg s H C cl fp).can) (fun s H C cl fp => ht s H C cl fp) (fun s H C cl fp => (he s H C cl fp).can) hs
  refine ⟨fun σ H Q => σ.length = X.N.length → tLc _ (tOfG X.K io fg) (tOfT X.K ft) (tOfE X.K fe) (own.map (·.2)) σ H Q, ⟨fun pins s σ H Q I h => P.run pins s σ H Q I (h I.len)⟩, fun σ ρ A H Q s ρ' S hf hq hn => ?_⟩
  exact lc_runV hio (name_it hj) σ ρ A H Q s ρ' hn S hf hq
theorem ss_setLcV (n : Nat) {io0 : List Nat} {k : Nat} {y : Str} {py spos : Pos} (hc : X.calm = true) (hN : X.N.Nodup) (hy : X.N[k]? = some y) (hyl : X.env.scope.names.lookup y = some .local) (hk : io0.contains k = false)
    (hsw : swapsWith (.ListComp elt [⟨tg, .Name x p, ifs, 0⟩] scope pos) (some (.Name y py)) spos.line X.env = pure true) (hx : X.N[j]? = some x) (hv : Vis X.env.scope x) (hj : j ∉ own.map (·.2)) (ok : BlkOk X.N X.env.scope scope own) (hn0 : X.N.length = n) (hio' : ∀ i, i < n → i ∉ own.map (·.2) → i ∈ io)
    (hg : ∀ (s : Shared) (H : Hp) (C : Addr) (cl : List (Str × Addr)) (fp : List Addr), SG io (X.blk s H scope (compEnvC scope cl C X.env) fp) tg fg)
    (ht : ∀ (s : Shared) (H : Hp) (C : Addr) (cl : List (Str × Addr)) (fp : List Addr), STs (X.blk s H scope (compEnvC scope cl C X.env) fp) ifs ft)
    (he : ∀ (s : Shared) (H : Hp) (C : Addr) (cl : List (Str × Addr)) (fp : List Addr), SE (X.blk s H scope (compEnvC scope cl C X.env) fp) elt fe)
    (hd : (x == ("__debug__" : Str)) = false := by decide +kernel) (hcd : (x == ("__classdict__" : Str)) = false := by decide +kernel) (hs : ∀ y, foldedSetIterable (.Name x p) X.env y = pure y := by intro _; rfl) :
    SS io0 X (.Assign [.Name y py] (.ListComp elt [⟨tg, .Name x p, ifs, 0⟩] scope pos) spos) (sSet k (eLcV j fg ft fe (own.map (·.2)))) := by
  have hio : ∀ i, i < X.N.length → i ∉ own.map (·.2) → i ∈ io := fun i h => hio' i (hn0 ▸ h)
  have pi := pi_list (tg := tg) (pe_var (pos := p) hx hv hd hcd)
  have P := ps_setLc (elt := elt) (ifs := ifs) (g := tOfG X.K io fg) (tt := tOfT X.K ft) (te := tOfE X.K fe) (pos := pos) (spos := spos) hc hN hy hyl hsw pi ok (fun s H C cl fp => (hg s H C cl fp).can) (fun s H C cl fp => ht s H C cl fp) (fun s H C cl fp => (he s H C cl fp).can) hs
  refine ⟨fun Dd σ H => σ.length = X.N.length → tAsg (tLc _ (tOfG X.K io fg) (tOfT X.K ft) (tOfE X.K fe) (own.map (·.2))) (gName k) Dd σ H, ⟨fun pins s σ H Dd I h => P.run pins s σ H Dd I (h I.len)⟩, fun σ ρ A H Dd o S hf hq hn => ?_⟩
  have h2 : SEt X.K (fun σ H Q => σ.length = X.N.length → tLc _ (tOfG X.K io fg) (tOfT X.K ft) (tOfE X.K fe) (own.map (·.2)) σ H Q) (eLcV j fg ft fe (own.map (·.2))) := fun σ ρ A H Q s ρ' S hf hq hn => lc_runV hio (name_it hj) σ ρ A H Q s ρ' hn S hf hq
  exact (set_run hk h2) σ ρ A H Dd o S hf hq hn
end
/-! ### the evaluator -/
section
variable {g : D → Ev → Option Ev} {t : Ev → Option (Bool × Ev)} {e : Ev → Option (Sv × Ev)} {vs : List Nat} {a : Ev → Option Out} {ρ : Ev} {j : Nat}
open Classical in
@[simp ↓] theorem w_eLcV {Q} : Wp (eLcV j g t e vs ρ) Q = wO (ownL ρ j) fun xs => xs.length ≤ 1000000 ∧ Wp (lcL (chk j xs g) t e vs xs (wipeE ρ vs)) fun r => holds j xs r.2 ∧ Q (.own (.lst r.1), backE ρ r.2 vs) := by
  unfold eLcV
  refine wp_b2 fun xs => ?_
  rw [wp_guard]
  refine congrArg (And _) (wp_b1 fun r => ?_)
  rw [wp_guard, wp_some]
open Classical in
@[simp ↓] theorem w_chk {all x Q} : Wp (chk j all g x ρ) Q = (holds j all ρ ∧ Wp (g x ρ) Q) := by unfold chk; rw [wp_guard]
@[simp] theorem holds_eq {all : List D} : holds j all ρ = (ownL ρ j = some all) := rfl
@[simp ↓] theorem w_sForV {Q} : Wp (sForV j g a ρ) Q = wO (ownL ρ j) fun xs => Wp (forLV j xs g a xs ρ) Q := by unfold sForV; exact wp_b2 fun _ => rfl
open Classical in
/-- the name keeps its list in every round -/
theorem forV_inv {all : List D} {Q : Out → Prop} (I : List D → Ev → Prop) (hI : ∀ ys r, I ys r → holds j all r) (step : ∀ x ys r, (∃ ds, ds ++ x :: ys = all) → I (x :: ys) r → Wp (g x r) fun r1 => Wp (a r1) fun o => rO o (I ys) Q) (h0 : ∀ r, I [] r → Q (.nx r)) (h : I all ρ) : Wp (forLV j all g a all ρ) Q := by
  have gen : ∀ (ys : List D) (r : Ev), (∃ ds, ds ++ ys = all) → I ys r → Wp (forLV j all g a ys r) Q := by
    intro ys
    induction ys with
    | nil => intro r _ h; rw [forLV, wp_guard, wp_some]; exact ⟨hI _ _ h, h0 r h⟩
    | cons x ys ih =>
      intro r hd h
      rw [forLV, wp_guard]
      refine ⟨hI _ _ h, ?_⟩
      rw [wp_bind]
      refine (step x ys r hd h).mono fun r1 h1 => ?_
      rw [wp_bind]
      refine h1.mono fun o h2 => ?_
      have nx : ∀ r2, I ys r2 → Wp (forLV j all g a ys r2) Q := fun r2 h3 => ih r2 (by obtain ⟨ds, e⟩ := hd; exact ⟨ds ++ [x], by rw [← e]; simp⟩) h3
      cases o with
      | nx r2 => exact nx r2 h2
      | ct r2 => exact nx r2 h2
      | bk r2 => rw [wp_some]; exact h2
      | rt s r2 => rw [wp_some]; exact h2
  exact gen all ρ ⟨[], rfl⟩ h
end
@[simp] theorem atI_3 {α : Type} {x0 x1 x2 x3 : α} {xs : List α} : atI (x0 :: x1 :: x2 :: x3 :: xs) 3 = some x3 := by
  have : (3 : Int) < ((x0 :: x1 :: x2 :: x3 :: xs : List α).length : Int) := by simp; omega
  unfold atI
  rw [ixN_pos (by decide) this]
  rfl
@[simp] theorem atI_4 {α : Type} {x0 x1 x2 x3 x4 : α} {xs : List α} : atI (x0 :: x1 :: x2 :: x3 :: x4 :: xs) 4 = some x4 := by
  have : (4 : Int) < ((x0 :: x1 :: x2 :: x3 :: x4 :: xs : List α).length : Int) := by simp; omega
  unfold atI
  rw [ixN_pos (by decide) this]
  rfl
@[simp] theorem atI_5 {α : Type} {x0 x1 x2 x3 x4 x5 : α} {xs : List α} : atI (x0 :: x1 :: x2 :: x3 :: x4 :: x5 :: xs) 5 = some x5 := by
  have : (5 : Int) < ((x0 :: x1 :: x2 :: x3 :: x4 :: x5 :: xs : List α).length : Int) := by simp; omega
  unfold atI
  rw [ixN_pos (by decide) this]
  rfl
@[simp] theorem atI_6 {α : Type} {x0 x1 x2 x3 x4 x5 x6 : α} {xs : List α} : atI (x0 :: x1 :: x2 :: x3 :: x4 :: x5 :: x6 :: xs) 6 = some x6 := by
  have : (6 : Int) < ((x0 :: x1 :: x2 :: x3 :: x4 :: x5 :: x6 :: xs : List α).length : Int) := by simp; omega
  unfold atI
  rw [ixN_pos (by decide) this]
  rfl
@[simp] theorem atI_7 {α : Type} {x0 x1 x2 x3 x4 x5 x6 x7 : α} {xs : List α} : atI (x0 :: x1 :: x2 :: x3 :: x4 :: x5 :: x6 :: x7 :: xs) 7 = some x7 := by
  have : (7 : Int) < ((x0 :: x1 :: x2 :: x3 :: x4 :: x5 :: x6 :: x7 :: xs : List α).length : Int) := by simp; omega
  unfold atI
  rw [ixN_pos (by decide) this]
  rfl
end DL
namespace DL
open PySem PySem.Spec PyProof.Rows L2
/-! ### slices in the evaluator -/
def wI (s : Sv) (k : Int → Prop) (t : Tg k := .mk) : Prop := ∃ i, s = .dat (.int i) ∧ k i
@[simp ↓] theorem wI_i {i : Int} {k : Int → Prop} : wI (.dat (.int i)) k = k i := by unfold wI; apply propext; constructor; (rintro ⟨c, e, q⟩; cases e; exact q); exact fun q => ⟨i, rfl, q⟩
@[simp ↓] theorem w_eSl {fa fl fh} {ρ : Ev} {Q} : Wp (eSl fa fl fh ρ) Q = Wp (fa ρ) fun p => Wp (fl p.2) fun l => Wp (fh l.2) fun h => wO (res p.1 h.2) fun x => wO (opSl x l.1 h.1) fun s => Q (s, h.2) := by
  unfold eSl; repeat' first | rfl | (refine wp_b1 fun _ => ?_) | (refine wp_b2 fun _ => ?_) | (refine wp_m2 fun _ => ?_)
@[simp ↓] theorem w_ptN {ρ : Ev} {Q} : Wp (ptN ρ) Q = Q (none, ρ) := wp_some
@[simp ↓] theorem w_ptS {f : Ev → Option (Sv × Ev)} {ρ : Ev} {Q} : Wp (ptS f ρ) Q = Wp (f ρ) fun p => wI p.1 fun i => Q (some i, p.2) := by
  unfold ptS
  refine wp_b1 fun p => ?_
  unfold wI
  split
  · rename_i i e
    rw [e]; apply propext; simp
  · rename_i h
    rw [wp_none]
    apply propext
    refine ⟨False.elim, fun ⟨b, e, _⟩ => h b e⟩
theorem cutD_to {α : Type} (xs : List α) (k : Nat) : cutD xs none (some (k : Int)) = xs.take k := by
  unfold cutD
  rw [HT.sIx_none, HT.sIx_nat]
  simp [List.take_eq_take_min]
/-- sorted(set(..)) of ints -/
theorem setS_ints (ns : List Int) (hl : ns.length ≤ 4000) : ∃ zs : List Int, zs.Nodup ∧ (∀ z, z ∈ zs ↔ z ∈ ns) ∧ zs.Pairwise (· ≤ ·) ∧ ∀ x, datC x = some (.list (ns.map .int)) → opSetS x = some (.own (.lst (zs.map .int))) := by
  have mem : ∀ k, k ∈ srtK (ded (ns.map (Sum.inl : Int → Key))) ↔ k ∈ ns.map Sum.inl := fun k => (List.mergeSort_perm _ _).mem_iff.trans ded_mem
  obtain ⟨zs, ez⟩ := lefts (ks := srtK (ded (ns.map Sum.inl))) fun k m => by
    obtain ⟨n, _, rfl⟩ := List.mem_map.mp ((mem k).mp m)
    rfl
  have nd : (zs.map (Sum.inl : Int → Key)).Nodup := by rw [← ez]; exact (List.mergeSort_perm _ _).nodup_iff.mpr ded_nodup
  refine ⟨zs, List.Pairwise.of_map _ (fun a b h e => h (congrArg _ e)) nd, fun z => ?_, ?_, fun x hx => ?_⟩
  · have := mem (Sum.inl z)
    rw [ez] at this
    simpa using this
  · have pw := srtK_pw (ded (ns.map (Sum.inl : Int → Key)))
    rw [ez, List.pairwise_map] at pw
    refine pw.imp fun {a b} h => ?_
    rw [PySem.W.dataLe_eq] at h
    simp only [keyD, PySem.W.dataLt_int, cond_false] at h
    simpa using h
  · have h1 : one (ns.map (Sum.inl : Int → Key)) = true := by
      unfold one
      rw [Bool.or_eq_true]
      exact .inl (by rw [List.all_map]; simp)
    unfold opSetS
    rw [hx]
    simp only
    rw [keysD_ints, Option.bind_some, if_pos ⟨h1, by simpa using hl⟩, ez, List.map_map]
    rfl
end DL
namespace DL
open PySem PySem.Spec PyProof.Rows L2
section
variable {α : Type} {f : α → D} {xs : List α} {ρ : Ev} {g : D → Ev → Option Ev} {a : Ev → Option Out}
/-- a loop over the data of a list: what was done so far -/
theorem for_map {Q : Out → Prop} (I : List α → Ev → Prop) (step : ∀ l x m r, xs = l ++ x :: m → I l r → Wp (g (f x) r) fun r1 => Wp (a r1) fun o => rO o (I (l ++ [x])) Q) (h0 : ∀ r, I xs r → Q (.nx r)) (h : I [] ρ) : Wp (forL g a (xs.map f) ρ) Q := by
  refine for_inv (fun ys r => ∃ l m, xs = l ++ m ∧ ys = m.map f ∧ I l r) ?_ ?_ ⟨[], xs, rfl, rfl, h⟩
  · rintro x ys r _ ⟨l, m, e1, e2, hI⟩
    obtain ⟨y, m', rfl, rfl, rfl⟩ := List.map_eq_cons_iff.mp e2.symm
    refine (step l y m' r e1 hI).mono fun r1 h1 => h1.mono fun o ho => ?_
    cases o with
    | nx r2 => exact ⟨l ++ [y], m', by rw [e1]; simp, rfl, ho⟩
    | ct r2 => exact ⟨l ++ [y], m', by rw [e1]; simp, rfl, ho⟩
    | _ => exact ho
  · rintro r ⟨l, m, e1, e2, hI⟩
    obtain rfl : m = [] := by simpa using e2.symm
    rw [List.append_nil] at e1
    exact h0 r (e1 ▸ hI)
variable {t : Ev → Option (Bool × Ev)} {e : Ev → Option (Sv × Ev)} {vs : List Nat}
/-- a comprehension over the data of a list: what was done so far, what it gave -/
theorem lc_st {Q : List D × Ev → Prop} (I : List α → List D → Ev → Prop) (step : ∀ l x m acc r, xs = l ++ x :: m → I l acc r → Wp (g (f x) r) fun r1 => Wp (t r1) fun p => (p.1 = true → Wp (e p.2) fun q => ∃ d, frz q.1 = .dat d ∧ I (l ++ [x]) (acc ++ [d]) (wipeE q.2 vs)) ∧ (p.1 = false → I (l ++ [x]) acc (wipeE p.2 vs)))
    (hq : ∀ ds r, I xs ds r → Q (ds, r)) (h : I [] [] ρ) : Wp (lcL g t e vs (xs.map f) ρ) Q := by
  have gen : ∀ (m l : List α) (acc : List D) (r : Ev) (Q : List D × Ev → Prop), xs = l ++ m → I l acc r → (∀ ds r, I xs (acc ++ ds) r → Q (ds, r)) → Wp (lcL g t e vs (m.map f) r) Q := by
    intro m
    induction m with
    | nil =>
      intro l acc r Q e1 hI hq
      rw [List.append_nil] at e1
      rw [List.map_nil, lcL, wp_some]
      exact hq [] r (by rw [List.append_nil, e1]; exact hI)
    | cons x m ih =>
      intro l acc r Q e1 hI hq
      rw [List.map_cons, lcL, wp_bind]
      refine (step l x m acc r e1 hI).mono fun r1 h1 => ?_
      rw [wp_bind]
      refine h1.mono fun p ⟨h2, h3⟩ => ?_
      by_cases c : p.1 = true
      · rw [if_pos c, wp_bind]
        refine (h2 c).mono fun q ⟨d, e2, h4⟩ => ?_
        rw [e2]
        dsimp only
        rw [wp_map]
        exact ih (l ++ [x]) _ _ _ (by rw [e1]; simp) h4 fun ds r h5 => hq (d :: ds) r (by simpa using h5)
      · rw [if_neg c]
        exact ih (l ++ [x]) _ _ _ (by rw [e1]; simp) (h3 (by simpa using c)) hq
  exact gen xs [] [] ρ Q rfl h (by simpa using hq)
/-- a comprehension that changes nothing, over the data of a list -/
theorem lc_fa {Q : List D × Ev → Prop} (P : α → Bool) (F : α → D) (hx : ∀ x ∈ xs, Wp (g (f x) ρ) fun r1 => Wp (t r1) fun p => p.1 = P x ∧ (P x = true → Wp (e p.2) fun q => frz q.1 = .dat (F x) ∧ wipeE q.2 vs = ρ) ∧ (P x = false → wipeE p.2 vs = ρ)) (h : Q ((xs.filter P).map F, ρ)) : Wp (lcL g t e vs (xs.map f) ρ) Q := by
  refine lc_st (fun l acc r => acc = (l.filter P).map F ∧ r = ρ) ?_ ?_ ⟨rfl, rfl⟩
  · rintro l x m acc _ e1 ⟨rfl, rfl⟩
    refine (hx x (by rw [e1]; simp)).mono fun r1 h1 => h1.mono fun p ⟨e2, h2, h3⟩ => ⟨fun c => ?_, fun c => ?_⟩
    · have c' := e2.symm.trans c
      refine (h2 c').mono fun q ⟨e3, e4⟩ => ⟨_, e3, ?_, e4⟩
      simp [c']
    · have c' := e2.symm.trans c
      refine ⟨?_, h3 c'⟩
      simp [c']
  · rintro ds _ ⟨rfl, rfl⟩
    exact h
theorem lc_ma {Q : List D × Ev → Prop} (F : α → D) (hx : ∀ x ∈ xs, Wp (g (f x) ρ) fun r1 => Wp (t r1) fun p => p.1 = true ∧ Wp (e p.2) fun q => frz q.1 = .dat (F x) ∧ wipeE q.2 vs = ρ) (h : Q (xs.map F, ρ)) : Wp (lcL g t e vs (xs.map f) ρ) Q :=
  lc_fa (fun _ => true) F (fun x m => (hx x m).mono fun r1 h1 => h1.mono fun p ⟨a, b⟩ => ⟨a, fun _ => b, nofun⟩) (by rw [List.filter_eq_self.mpr (fun _ _ => rfl)]; exact h)
end
@[simp] theorem eqvAll_ints : ∀ {a b : List Int}, PyData.eqvAll (a.map .int) (b.map .int) = decide (a = b)
  | [], [] => by simp
  | [], _ :: _ => by simp
  | _ :: _, [] => by simp
  | x :: a, y :: b => by
    rw [List.map_cons, List.map_cons, eqv_ac, eqvAll_ints, eqv_ii]
    by_cases h : x = y <;> by_cases k : a = b <;> simp [h, k]
@[simp] theorem eqvAll_strs : ∀ {a b : List Str}, PyData.eqvAll (a.map .str) (b.map .str) = decide (a = b)
  | [], [] => by simp
  | [], _ :: _ => by simp
  | _ :: _, [] => by simp
  | x :: a, y :: b => by
    rw [List.map_cons, List.map_cons, eqv_ac, eqvAll_strs, eqv_ss]
    by_cases h : x = y <;> by_cases k : a = b <;> simp [h, k]
@[simp] theorem any_eqI (ns : List Int) (n : Int) : (ns.any ((fun z => PyData.eqv z (.int n)) ∘ PyData.int)) = decide (n ∈ ns) := by
  rw [Bool.eq_iff_iff, List.any_eq_true, decide_eq_true_iff]
  constructor
  · rintro ⟨c, m, h⟩
    have : c = n := by simpa using h
    exact this ▸ m
  · exact fun m => ⟨n, m, by simp⟩
@[simp] theorem any_eqS (ch : List Str) (n : Str) : (ch.any ((fun z => PyData.eqv z (.str n)) ∘ PyData.str)) = decide (n ∈ ch) := by
  rw [Bool.eq_iff_iff, List.any_eq_true, decide_eq_true_iff]
  constructor
  · rintro ⟨c, m, h⟩
    have : c = n := by simpa using h
    exact this ▸ m
  · exact fun m => ⟨n, m, by simp⟩
theorem eqv_self {d : D} (h : dpt 40 d = true) : PyData.eqv d d = true := SeqAt.eqv_refl_plain d (dpt_ok h).1
theorem all_congr {α : Type} {p : α → Bool} {xs : List α} (h : ∀ x ∈ xs, p x = true) : xs.all p = true := List.all_eq_true.mpr h
@[simp ↓] theorem w_sAug {j : Nat} {op : Int → Int → Int} {f : Ev → Option (Sv × Ev)} {ρ : Ev} {Q} : Wp (sAug j op f ρ) Q = wV ρ[j]? fun s => wI s fun i => Wp (f ρ) fun p => wI p.1 fun k => j < p.2.length ∧ Q (.nx (p.2.set j (some (.dat (.int (op i k)))))) := by
  unfold sAug wV
  split
  · rename_i i h
    rw [h]
    refine Eq.trans (b := Wp (f ρ) fun p => wI p.1 fun k => j < p.2.length ∧ Q (.nx (p.2.set j (some (.dat (.int (op i k))))))) ?_ ?_
    · rw [wp_bind]
      refine wp_cg fun p => ?_
      split
      · rename_i k e
        rw [e, wI_i, wp_guard, wp_some]
      · rename_i n
        rw [wp_none]
        apply propext
        exact ⟨False.elim, fun ⟨k, e, _⟩ => n k e⟩
    · apply propext
      constructor
      · intro h; exact ⟨_, rfl, by dsimp only; rw [wI_i]; exact h⟩
      · rintro ⟨s, e, h⟩
        cases e
        rw [wI_i] at h
        exact h
  · rename_i n
    rw [wp_none]
    apply propext
    exact ⟨False.elim, fun ⟨s, e, i, e2, _⟩ => n i (by rw [e, e2])⟩
end DL
namespace DL
open PySem PySem.Spec PyProof.Rows L2
/-! ### enumerate -/
def enumD : Nat → List D → List D
  | _, [] => []
  | k, x :: xs => .tuple [.int (k : Int), x] :: enumD (k + 1) xs
theorem enumD_len : ∀ (k : Nat) (xs : List D), (enumD k xs).length = xs.length
  | _, [] => rfl
  | k, x :: xs => by rw [enumD, List.length_cons, List.length_cons, enumD_len (k + 1) xs]
theorem enumD_get : ∀ (k : Nat) (xs : List D) (i : Nat), (enumD k xs)[i]? = xs[i]?.map fun x => .tuple [.int ((k + i : Nat) : Int), x]
  | _, [], i => by simp [enumD]
  | k, x :: xs, 0 => by simp [enumD]
  | k, x :: xs, i + 1 => by
    rw [enumD, List.getElem?_cons_succ, List.getElem?_cons_succ, enumD_get (k + 1) xs i, show k + 1 + i = k + (i + 1) by omega]
theorem itOk_enum {K : PySem.W.Frag} {R : Hp} {a : Addr} {vs : List V} {xs : List D} (hs : SqL K R a vs) (ha : DpAll K R vs xs) : ItOk K (Ite K a) R (enumD 0 xs) := by
  intro H P hl e i
  have hs' : SqL K H a vs := Same.seq wo_same (Same.seq e hs)
  refine ⟨fun d hd => ?_, fun hi => ⟨vs, hs', by rw [DpAll.length ha]; rw [enumD_len] at hi; exact hi⟩⟩
  rw [enumD_get] at hd
  obtain ⟨x, e0, rfl⟩ := Option.map_eq_some_iff.mp hd
  obtain ⟨v, e1, r⟩ := DpAll.get ha e0
  refine ⟨⟨vs, v, hs', e1⟩, fun x' H' ⟨T, y, e2, e3, e4, e5⟩ => ?_⟩
  subst e2 e4
  have := e5 vs hs'
  rw [e1] at this; cases this
  have nP : ¬ P T := fun p => by obtain ⟨u, q⟩ := hl T p; rw [e3] at q; cases q
  have sm : ∀ o, Same H (upd H T o) := fun o b u q => by
    by_cases c : b = T
    · subst c; rw [e3] at q; cases q
    · rw [upd_ne c]; exact q
  have sm2 : ∀ o, Same (wo H P) (wo (upd H T o) P) := fun o => Same.wo2 (sm o) fun a z => .inl z
  refine ⟨sm _, .tup (.inl (.inl (wo_of nP upd_same))) (.cons ?_ (.cons (Dp.mono (sm2 _) (Dp.mono e r)) .nil))⟩
  rw [Nat.zero_add]
  exact .int _
/-- the tuple at a as it stands at each turn, each item in a new pair -/
def IteT (K : PySem.W.Frag) (a : Addr) : It where
  go i H := ∃ (vs : List V) (x : V), SqT K H a vs ∧ vs[i]? = some x
  yld i H v H' := ∃ T x, v = .ref T ∧ H T = none ∧ H' = upd H T (.tup [.int (i : Nat), x]) ∧ ∀ vs, SqT K H a vs → vs[i]? = some x
  stop i H := ∃ vs : List V, SqT K H a vs ∧ vs.length ≤ i
theorem itOk_enumT {K : PySem.W.Frag} {R : Hp} {a : Addr} {vs : List V} {xs : List D} (hs : SqT K R a vs) (ha : DpAll K R vs xs) : ItOk K (IteT K a) R (enumD 0 xs) := by
  intro H P hl e i
  have hs' : SqT K H a vs := Same.sqt wo_same (Same.sqt e hs)
  refine ⟨fun d hd => ?_, fun hi => ⟨vs, hs', by rw [DpAll.length ha]; rw [enumD_len] at hi; exact hi⟩⟩
  rw [enumD_get] at hd
  obtain ⟨x, e0, rfl⟩ := Option.map_eq_some_iff.mp hd
  obtain ⟨v, e1, r⟩ := DpAll.get ha e0
  refine ⟨⟨vs, v, hs', e1⟩, fun x' H' ⟨T, y, e2, e3, e4, e5⟩ => ?_⟩
  subst e2 e4
  have := e5 vs hs'
  rw [e1] at this; cases this
  have nP : ¬ P T := fun p => by obtain ⟨u, q⟩ := hl T p; rw [e3] at q; cases q
  have sm : ∀ o, Same H (upd H T o) := fun o b u q => by
    by_cases c : b = T
    · subst c; rw [e3] at q; cases q
    · rw [upd_ne c]; exact q
  have sm2 : ∀ o, Same (wo H P) (wo (upd H T o) P) := fun o => Same.wo2 (sm o) fun a z => .inl z
  refine ⟨sm _, .tup (.inl (.inl (wo_of nP upd_same))) (.cons ?_ (.cons (Dp.mono (sm2 _) (Dp.mono e r)) .nil))⟩
  rw [Nat.zero_add]
  exact .int _
theorem turn_enumT {P : Program} {w : World} {K : PySem.W.Frag} {elts : List Expr} {kk : Nat} {tpos : Pos} (a e it : Addr) :
    Turn P w K (.Tuple elts kk tpos) (IteT K a) [e, it] e (fun i h => (∃ old, IsEnum h e it ((i : Nat) : Int) old) ∧ h.IsTupleIter it a i ∧ e ≠ it ∧ e ≠ a ∧ a ≠ it) where
  mem := by simp
  obj i h st b hb := by
    obtain ⟨⟨old, he⟩, ⟨o, ho, hc, hd⟩, _⟩ := st
    rcases List.mem_cons.mp hb with z | hb
    · exact z ▸ ⟨_, he, nofun⟩
    · rw [List.mem_singleton.mp hb]
      exact ⟨o, ho, fun v q => by rw [hd] at q; cases q⟩
  keep i h h' st k := by
    obtain ⟨⟨old, he⟩, hi, ne⟩ := st
    exact ⟨⟨old, k e (by simp) _ he⟩, hi.at fun o q => k it (by simp) o q, ne⟩
  item := by
    intro X hP hw hK hc i pins s σ H E I hf st hg
    subst hP hw hK
    obtain ⟨⟨old, he⟩, hit, n1, n2, n3⟩ := st
    obtain ⟨vs, x, hq, hx⟩ := hg
    obtain ⟨its, rv, p, hz⟩ := I.tuple hq
    obtain ⟨u, hu, ru⟩ := rv.get hx
    have hel : e < s.heap.objs.size := Heap.lt_size he
    have hil : it < s.heap.objs.size := by obtain ⟨_, q, _⟩ := hit; exact Heap.lt_size q
    have hlt : i < its.toArray.size := by
      rw [List.size_toArray]
      exact (List.getElem?_eq_some_iff.mp hu).1
    refine wpAny_pyNext_enum_itemD (Draws.tuple (A := X.A.in1) (I.ok.hd hc) it a n3 its.toArray) he ⟨hit, p⟩ hlt n1 (by simp [n1, n2]) fun u' h' tk hu' ho hst' hT hsz hk => ?_
    have : u' = u := by
      have h1 : its.toArray[i]? = some u := by simpa using hu
      rw [h1] at hu'
      exact (Option.some.inj hu').symm
    subst this
    refine ⟨_, rfl, wpAny_letOwnedTupleGo_enum (s := { s with heap := h', toks := tk + 1 }) ho fun h'' he' sb => ?_⟩
    have hT2 : h''.get? s.heap.objs.size = some { cls := .type "tuple", data := .seq #[.int i tk, u'] } := (sb.2 _ (Nat.ne_of_gt hel)).trans hT
    have new : ObjOk X.prog X.w (upd H s.heap.objs.size (.tup [.int (i : Nat), x])) h'' s.heap.objs.size (.tup [.int (i : Nat), x]) := by
      refine ⟨?_, [.int i tk, u'], .cons ⟨_, rfl⟩ (.cons ru .nil), ⟨_, hT2, rfl, _, rfl⟩⟩
      show 2 ≤ sizeLine
      decide
    have keep : ∀ b ob, b ∉ [e, it] → s.heap.get? b = some ob → h''.get? b = some ob := fun b ob hb q => by
      have b1 : b ≠ e := fun z => hb (by simp [z])
      have b2 : b ≠ it := fun z => hb (by simp [z])
      exact (sb.2 b b1).trans (hk b ob b1 b2 q)
    have I1 : Inv X pins σ (upd H s.heap.objs.size (.tup [.int (i : Nat), x])) { s with heap := h'', toks := tk + 1 } := I.turnedNew (ch := [e, it]) keep hf (Nat.le_refl _) new
    refine ⟨.ref s.heap.objs.size, _, I1, rfl, ⟨_, x, rfl, I.hok.fresh (Nat.le_refl _), rfl, fun ys hy => by rw [I.tuple_inj hy hq]; exact hx⟩, ⟨⟨u', ?_⟩, hst'.1.at fun o q => (sb.2 it (Ne.symm n1)).trans q, n1, n2, n3⟩, fun b hb => ?_⟩
    · rw [show ((i + 1 : Nat) : Int) = (i : Int) + 1 by omega]
      exact he'
    · have hb' : b < s.heap.objs.size := by
        rcases List.mem_cons.mp hb with z | hb
        · exact z ▸ hel
        · rw [List.mem_singleton.mp hb]; exact hil
      rw [upd_ne (Nat.ne_of_lt hb')]
      exact (hf b hb).1
  done := by
    intro X hP hw hK hc i pins s σ H E I hf st hg
    subst hP hw hK
    obtain ⟨⟨old, he⟩, hit, n1, n2, n3⟩ := st
    obtain ⟨vs, hq, hx⟩ := hg
    obtain ⟨its, rv, p, hz⟩ := I.tuple hq
    obtain ⟨f0, f1, f2, f3, f4, f5⟩ := hf it (by simp)
    have hn : its.toArray[i]? = none := by
      rw [List.getElem?_toArray]
      exact List.getElem?_eq_none_iff.mpr (by rw [← rv.length]; exact hx)
    have D : Draws X.prog X.w X.A.in1 it [it, a] i (fun _ _ => True) (fun j h => j = i ∧ h.IsTupleIter it a i ∧ h.IsTuple a its.toArray) := by
      refine ⟨fun j h st => ?_, fun j h h' st k => ?_, fun j s Q E hj st => ?_, fun s Q E st hE => ?_⟩
      · obtain ⟨o, ho, _⟩ := st.2.1
        exact ⟨o, ho⟩
      · exact ⟨st.1, st.2.1.at fun o z => k it (by simp) o z, st.2.2.at fun o z => k a (by simp) o z⟩
      · exact absurd st.1 (Nat.ne_of_lt hj)
      · exact wpAny_nextOf_tuple_end (I.ok.hd hc) st.2.1 st.2.2 hn hE
    exact wpAny_pyNext_enum_endD D he ⟨rfl, hit, p⟩ fun h' eb => ⟨rfl, I.turned (t' := s.toks) (fun b o hb q => eb b o hb q) f0 f1 f3 f4 f5⟩
  self A i s Q E st h := by
    obtain ⟨⟨_, he⟩, _⟩ := st
    exact wpAny_pyIter_enum he h
theorem new_enumT (l : Addr) (us : Array Value) (n : Nat) (dd : Option Addr) (sl : Array (Option Value)) :
    Meets (Builtin.«enumerate.__new__» ⟨[.type "enumerate", .ref l], []⟩) (fun _ R s => s.heap.get? l = some ⟨.type "tuple", dd, .seq us n, sl⟩ ∧
      R (.ok (.ret (.ref (s.heap.push { cls := .type "tuple_iterator", data := .fields #[.ref l, .int 0 0] }).objs.size)))
        { s with heap := (s.heap.push { cls := .type "tuple_iterator", data := .fields #[.ref l, .int 0 0] }).push { cls := .type "enumerate", data := .fields #[.none, .bool false, .ref s.heap.objs.size, rawInt 0, .none, .none] } }) := by
  refine .of_wp fun P w A R s h => ?_
  obtain ⟨hp, g, d, tk, os⟩ := s
  obtain ⟨hl, h⟩ := h
  have hs := sub_enumerate
  have hT : Heap.IsTuple (Shared.heap ⟨hp, g, d, tk, os⟩) l us := ⟨_, hl, rfl, n, rfl⟩
  wp_walk using wpAny_loadPart' hl
  refine wpAny_stack_any fun st => wpAny_pure ?_
  split
  · rename_i c _ _ _ _ _
    cases (c == Value.type "enumerate")
    all_goals
      wp_walk using wpAny_loadPart' hl, wpAny_pyIter_tuple hT
      exact ⟨_, rfl, h⟩
  · wp_walk using wpAny_loadPart' hl, wpAny_pyIter_tuple hT
    exact ⟨_, rfl, h⟩
theorem call_enumT {P : Program} {w : World} {A : Around} {E : Value → Shared → Prop} {s : Shared} {l : Addr} {us : Array Value} {Q : Value → Shared → Prop} (hT : s.heap.IsTuple l us)
    (h : ∀ h', IsEnum h' (s.heap.objs.size + 1) s.heap.objs.size 0 .none → h'.IsTupleIter s.heap.objs.size l 0 →
      (∀ b o, s.heap.get? b = some o → h'.get? b = some o) → Q (.ref (s.heap.objs.size + 1)) { s with heap := h' }) :
    wpAny (model P w) A (call (.type "enumerate") [.ref l]) Q E s := by
  obtain ⟨⟨c, dd, dt, sl⟩, hl, hc, n, hd⟩ := hT
  simp only at hc hd
  subst hc hd
  refine callType_new F.called_enumerate (by decide) (F.typeCall_enumerate_1 _) (F.newCall_enumerate_1 _) (fun o => F.args_object_init_2 o _) F.entry_enumerate_new (new_enumT l us n dd sl) ⟨hl, ?_⟩
  have hz : (s.heap.push { cls := .type "tuple_iterator", data := .fields #[.ref l, .int 0 0] }).objs.size = s.heap.objs.size + 1 := Heap.size_push ..
  show _ ∧ _
  rw [hz]
  have he := Heap.get?_push_size (s.heap.push { cls := .type "tuple_iterator", data := .fields #[.ref l, .int 0 0] }) (o := { cls := .type "enumerate", data := .fields #[.none, .bool false, .ref s.heap.objs.size, rawInt 0, .none, .none] }) rfl
  rw [hz] at he
  refine ⟨⟨_, he, rfl⟩, h _ he ⟨_, Heap.get?_push_of_some _ (Heap.get?_push_size _ rfl), rfl, rfl⟩ fun b o x => ?_⟩
  exact Heap.get?_push_of_some _ (Heap.get?_push_of_some _ x)
def iEnumT (K : PySem.W.Frag) (ta : TA) : TI := fun σ H R => ta σ H fun vs H1 => ∃ a xs, vs = [.ref a] ∧ SqT K H1 a xs ∧ R (IteT K a) H1
theorem pi_enumT {X : Cx} {e : Expr} {ta : TA} {p pos tpos : Pos} {elts : List Expr} {kk : Nat} (hg : Gl X "enumerate") (hm : X.mg "enumerate" = none) (ha : PA X [e] ta) (hs : starEach [e] X.env = [(false, eval e X.env)] := by rfl) :
    PI X (.Tuple elts kk tpos) (.Call (.Name "enumerate" p) [e] [] pos) (iEnumT X.K ta) := by
  refine ⟨fun pins s σ H R I h => ?_⟩
  refine Call_ (ld_blt I hg hm boot_enumerate (PyProof.Rows.callWith_type1 (thn (ha.run pos pins s σ H _ I h) fun us s1 ⟨vs, H1, I1, r1, q1⟩ => ?_) hs rfl))
  obtain ⟨a, xs, ex, hq, q⟩ := q1
  subst ex
  cases r1 with
  | cons r rr =>
    cases rr
    cases r
    obtain ⟨its, rv, p', hz⟩ := I1.tuple hq
    have la : a < s1.heap.objs.size := by obtain ⟨o, ho, _⟩ := p'; exact Heap.lt_size ho
    refine call_enumT p' fun h' he hit hk => wpAny_pyIter_enum he ?_
    have I2 : Inv X pins σ H1 { s1 with heap := h' } := I1.kept (t' := s1.toks) hk
    refine ⟨s1.heap.objs.size + 1, [s1.heap.objs.size + 1, s1.heap.objs.size], _, _, H1, rfl, I2, turn_enumT a (s1.heap.objs.size + 1) s1.heap.objs.size, ⟨⟨.none, he⟩, hit, Nat.succ_ne_self _, Nat.ne_of_gt (Nat.lt_succ_of_lt la), Nat.ne_of_lt la⟩, fun b hb => ?_, q⟩
    have hle : s1.heap.objs.size ≤ b := by
      rcases List.mem_cons.mp hb with z | hb
      · rw [z]; exact Nat.le_add_right _ _
      · rw [List.mem_singleton.mp hb]; exact Nat.le_refl _
    exact I1.fpOk hle (I1.hok.fresh hle)
/-- what enumerate walks -/
def iEn (fa : Ev → Option (List Pend × Ev)) : Ev → Option (List D × Ev) := fun ρ => (fa ρ).bind fun p => (resL p.1 p.2).bind fun xs => match xs with
  | [.dat (.list ds)] => some (enumD 0 ds, p.2)
  | [.dat (.tuple ds)] => some (enumD 0 ds, p.2)
  | _ => none
theorem si_enum {X : Cx} {a : Expr} {p pos tpos : Pos} {elts : List Expr} {kk : Nat} {fa} (hg : Gl X "enumerate") (hm : X.mg "enumerate" = none) (ha : SAs X [a] fa) (hs : starEach [a] X.env = [(false, eval a X.env)] := by rfl) : SI X (.Tuple elts kk tpos) (.Call (.Name "enumerate" p) [a] [] pos) (iEn fa) := by
  obtain ⟨t, pa, ha⟩ := ha
  refine ⟨_, PI.or (pi_enum hg hm pa hs) (pi_enumT hg hm pa hs), fun σ ρ A H R xs ρ' S hf hq => ?_⟩
  unfold iEn at hf
  obtain ⟨⟨ps, ρ1⟩, e1, hf⟩ := Option.bind_eq_some_iff.mp hf
  obtain ⟨ys, e2, hf⟩ := Option.bind_eq_some_iff.mp hf
  dsimp only at hf e2
  split at hf
  · rename_i ds
    cases hf
    refine .inl (ha σ ρ A H _ ps _ S e1 fun vs H1 A1 S1 g1 c => ?_)
    obtain ⟨v, B, rfl, r⟩ := (resL_ok S1 c e2).one
    cases r with
    | dat h =>
      cases h with
      | lst h1 h2 => exact ⟨_, _, rfl, Same.seq wo_same h1, hq _ H1 A1 S1 g1 (itOk_enum h1 h2)⟩
  · rename_i ds
    cases hf
    refine .inr (ha σ ρ A H _ ps _ S e1 fun vs H1 A1 S1 g1 c => ?_)
    obtain ⟨v, B, rfl, r⟩ := (resL_ok S1 c e2).one
    cases r with
    | dat h =>
      cases h with
      | tup h1 h2 => exact ⟨_, _, rfl, Same.sqt wo_same h1, hq _ H1 A1 S1 g1 (itOk_enumT h1 h2)⟩
  · cases hf
section
variable {ρ : Ev} {fa : Ev → Option (List Pend × Ev)} {g : D → Ev → Option Ev} {a : Ev → Option Out} {α : Type}
def wE (xs : List Sv) (k : List D → Prop) (t : Tg k := .mk) : Prop := ∃ ds, (xs = [.dat (.list ds)] ∨ xs = [.dat (.tuple ds)]) ∧ k ds
@[simp ↓] theorem wE_l {ds : List D} {k : List D → Prop} : wE [.dat (.list ds)] k = k ds := by
  unfold wE; apply propext; constructor
  · rintro ⟨c, e | e, q⟩ <;> cases e; exact q
  · exact fun q => ⟨ds, .inl rfl, q⟩
@[simp ↓] theorem wE_t {ds : List D} {k : List D → Prop} : wE [.dat (.tuple ds)] k = k ds := by
  unfold wE; apply propext; constructor
  · rintro ⟨c, e | e, q⟩ <;> cases e; exact q
  · exact fun q => ⟨ds, .inr rfl, q⟩
@[simp ↓] theorem w_iEn {Q} : Wp (iEn fa ρ) Q = Wp (fa ρ) fun p => wO (resL p.1 p.2) fun xs => wE xs fun ds => Q (enumD 0 ds, p.2) := by
  unfold iEn
  refine wp_b1 fun p => wp_b2 fun xs => ?_
  split
  · rw [wE_l, wp_some]
  · rw [wE_t, wp_some]
  · rename_i n1 n2
    rw [wp_none]
    apply propext
    refine ⟨False.elim, fun ⟨ds, e, _⟩ => e.elim (n1 ds) (n2 ds)⟩
/-- a loop over enumerate -/
theorem for_enum {f : α → D} {xs : List α} {Q : Out → Prop} (I : List α → Ev → Prop) (step : ∀ l x m r, xs = l ++ x :: m → I l r → Wp (g (.tuple [.int (l.length : Int), f x]) r) fun r1 => Wp (a r1) fun o => rO o (I (l ++ [x])) Q) (h0 : ∀ r, I xs r → Q (.nx r)) (h : I [] ρ) : Wp (forL g a (enumD 0 (xs.map f)) ρ) Q := by
  have e : ∀ (k : Nat) (xs : List α), enumD k (xs.map f) = (xs.zipIdx k).map fun p => .tuple [.int (p.2 : Int), f p.1] := by
    intro k xs
    induction xs generalizing k with
    | nil => rfl
    | cons x xs ih => rw [List.map_cons, enumD, ih, List.zipIdx_cons, List.map_cons]
  rw [e]
  refine for_map (fun l r => I (l.map (·.1)) r) ?_ ?_ h
  · rintro l ⟨x, i⟩ m r e1 hI
    have hi : i = l.length := by
      have h1 : (xs.zipIdx 0)[l.length]? = some (x, i) := by rw [e1]; simp
      rw [List.getElem?_zipIdx] at h1
      obtain ⟨y, _, h2⟩ := Option.map_eq_some_iff.mp h1
      have := congrArg Prod.snd h2
      simp at this
      exact this.symm
    have e2 : xs = l.map (·.1) ++ x :: m.map (·.1) := by
      have := congrArg (List.map (·.1)) e1
      simpa using this
    have := step (l.map (·.1)) x (m.map (·.1)) r e2 hI
    rw [List.length_map, ← hi] at this
    have e3 : (l ++ [(x, i)]).map (·.1) = l.map (·.1) ++ [x] := by simp
    rw [e3]
    exact this
  · intro r hr
    simpa using h0 r (by simpa using hr)
end
end DL
namespace DL
open PySem PySem.Spec PyProof.Rows L2
/-! ### all, any of a list of truths -/
def boolsD : List D → Option (List Bool)
  | [] => some []
  | .bool b :: ds => (boolsD ds).map (b :: ·)
  | _ :: _ => none
@[simp] theorem boolsD_map : ∀ bs : List Bool, boolsD (bs.map .bool) = some bs
  | [] => rfl
  | b :: bs => by rw [List.map_cons, boolsD, boolsD_map bs]; rfl
@[simp] theorem boolsD_mf {α : Type} (f : α → Bool) (xs : List α) : boolsD (xs.map fun x => .bool (f x)) = some (xs.map f) := by
  rw [← boolsD_map, List.map_map]; rfl
@[simp] theorem intsD_mf {α : Type} (f : α → Int) (xs : List α) : intsD (xs.map fun x => .int (f x)) = some (xs.map f) := by
  rw [← intsD_map, List.map_map]; rfl
theorem boolsD_ok {K : PySem.W.Frag} {H : Hp} : ∀ {vs : List V} {ds : List D} {bs : List Bool}, DpAll K H vs ds → boolsD ds = some bs → vs = bs.map V.bl
  | _, [], _, h, e => by cases h; cases e; rfl
  | _, d :: ds, _, h, e => by
    cases h with
    | cons h t =>
      cases h with
      | bl b =>
        obtain ⟨cs, e1, rfl⟩ := Option.map_eq_some_iff.mp e
        rw [boolsD_ok t e1]; rfl
      | _ => cases e
@[simp] def opAll (x : Sv) : Option Sv := match datC x with
  | some (.list xs) => (boolsD xs).map fun bs => .dat (.bool (bs.all id))
  | _ => none
@[simp] def opAny (x : Sv) : Option Sv := match datC x with
  | some (.list xs) => (boolsD xs).map fun bs => .dat (.bool (bs.any id))
  | _ => none
theorem ok_all {K : PySem.W.Frag} : RBOk K (rAll K) opAll := by
  intro H P v x s Q B1 hl r h hq
  unfold opAll at h
  split at h
  · rename_i xs q
    obtain ⟨bs, e1, e2⟩ := Option.map_eq_some_iff.mp h
    cases e2
    obtain ⟨a, vs, rfl, hs, hd⟩ := datC_list r q
    have := boolsD_ok hd e1
    subst this
    exact ⟨a, bs, rfl, hs, hq _ _ _ .bl⟩
  · cases h
theorem ok_any {K : PySem.W.Frag} : RBOk K (rAny K) opAny := by
  intro H P v x s Q B1 hl r h hq
  unfold opAny at h
  split at h
  · rename_i xs q
    obtain ⟨bs, e1, e2⟩ := Option.map_eq_some_iff.mp h
    cases e2
    obtain ⟨a, vs, rfl, hs, hd⟩ := datC_list r q
    have := boolsD_ok hd e1
    subst this
    exact ⟨a, bs, rfl, hs, hq _ _ _ .bl⟩
  · cases h
end DL
namespace DL
open PySem PySem.Spec PyProof.Rows L2
/-! ### is not True; xs[::-1] -/
@[simp] def opNotB (x y : Sv) : Option Sv := match datC x, datC y with
  | some (.bool a), some (.bool b) => some (.dat (.bool (!(a == b))))
  | _, _ => none
theorem ok_notB {K : PySem.W.Frag} : R2Ok K rNotB opNotB := by
  intro H P v w x y s Q B1 B2 hl r1 r2 h hq
  unfold opNotB at h
  split at h
  · rename_i a b h1 h2
    cases h
    refine ⟨a, b, datC_bool r1 h1, datC_bool r2 h2, ?_⟩
    have : decide (a = b) = (a == b) := by cases a <;> cases b <;> rfl
    rw [this]
    exact hq _ _ _ .bl
  · cases h
@[simp] def opRev (x : Sv) : Option Sv := match datC x with
  | some (.list xs) => some (.own (.lst xs.reverse))
  | _ => none
theorem dpAll_rev {K : PySem.W.Frag} {H : Hp} : ∀ {vs : List V} {xs : List D}, DpAll K H vs xs → DpAll K H vs.reverse xs.reverse
  | _, _, .nil => .nil
  | _, _, .cons h t => by
    rw [List.reverse_cons, List.reverse_cons]
    exact DpAll.append (dpAll_rev t) (.cons h .nil)
def rRevL (K : PySem.W.Frag) : V → Hp → VK → Prop := fun x H Q => ∃ a xs, x = .ref a ∧ SqL K H a xs ∧ ∀ p, H p = none → Q (.ref p) (upd H p (.lst xs.reverse))
theorem ok_rev {K : PySem.W.Frag} : R1Ok K (rRevL K) opRev := by
  intro H P v x s Q B1 hl r h hq
  unfold opRev at h
  split at h
  · rename_i xs q
    cases h
    obtain ⟨a, vs, rfl, hs, hd⟩ := datC_list r q
    exact ⟨a, vs, rfl, hs, fun p n => hq _ _ [p] (.lst n (dpAll_rev hd))⟩
  · cases h
theorem se_rev {X : Cx} {e : Expr} {k : Nat} {p1 p2 p3 pos : Pos} {fa} (ha : SO X e fa) : SE X (.Subscript e (.Slice none none (some (.UnaryOp .USub (.Constant (.int 1) k p1) p2)) p3) pos) (eOp1 opRev fa) :=
  let ⟨_, pa, h⟩ := se_tUn ha ok_rev
  ⟨_, pe_revL pa, h⟩
end DL
namespace DL
open PySem PySem.Spec PyProof.Rows L2
theorem dpAll_erase {K : PySem.W.Frag} {H : Hp} : ∀ {vs : List V} {xs : List D}, DpAll K H vs xs → ∀ k, DpAll K H (vs.eraseIdx k) (xs.eraseIdx k)
  | _, _, .nil, _ => .nil
  | _, _, .cons _ t, 0 => t
  | _, _, .cons h t, k + 1 => .cons h (dpAll_erase t k)
@[simp] def opPopAt (xs : List D) : List Sv → Option (Sv × List D)
  | [x] => match datC x with
    | some (.int i) => if -(2 ^ 63) ≤ i ∧ i < 2 ^ 63 then (ixN xs.length i).bind fun k => (xs[k]?).map fun d => (.dat d, xs.eraseIdx k) else none
    | _ => none
  | _ => none
theorem ixN_seq {n : Nat} {i : Int} {k : Nat} (h : ixN n i = some k) : seqIndex? i n = some k := by
  unfold ixN at h
  unfold seqIndex?
  split at h
  · rename_i h1
    split at h
    · rename_i h2
      cases h
      have : ¬ i < 0 := by omega
      simp [this]
      omega
    · cases h
  · rename_i h1
    split at h
    · rename_i h2
      cases h
      have : i < 0 := by omega
      simp [this]
      omega
    · cases h
theorem mut_popAt {K : PySem.W.Frag} : MutOk K rPopAt opPopAt := by
  intro H P a vs us xs ys args s Q h1 h2 h3 h4 hq
  unfold opPopAt at h4
  split at h4
  · rename_i x
    obtain ⟨v, B, rfl, r⟩ := h3.one
    split at h4
    · rename_i i q
      split at h4
      · rename_i hb
        obtain ⟨k, e0, h4⟩ := Option.bind_eq_some_iff.mp h4
        obtain ⟨d, e1, e2⟩ := Option.map_eq_some_iff.mp h4
        cases e2
        obtain ⟨w, e3, r2⟩ := DpAll.get h2 e1
        have := datC_int r q
        subst this
        exact ⟨a, vs, i, k, w, rfl, rfl, h1, hb.1, hb.2, by rw [DpAll.length h2]; exact ixN_seq e0, e3, hq w _ d rfl r2 (dpAll_erase h2 k)⟩
      · cases h4
    · cases h4
  · cases h4
end DL
namespace DL
open PySem PySem.Spec PyProof.Rows L2
/-! ### dicts as data -/
open Classical in
noncomputable def atD (kvs : List (D × D)) (k : D) : Option D := (kvs.find? fun p => decide (p.1 = k)).map (·.2)
open Classical in
noncomputable def putD (kvs : List (D × D)) (k v : D) : List (D × D) := if (atD kvs k).isSome = true then kvs.map (fun p => if p.1 = k then (p.1, v) else p) else kvs ++ [(k, v)]
theorem atD_nil {k : D} : atD [] k = none := rfl
theorem atD_pos {p : D × D} {r : List (D × D)} {k : D} (e : p.1 = k) : atD (p :: r) k = some p.2 := by simp [atD, List.find?_cons, e]
theorem atD_neg {p : D × D} {r : List (D × D)} {k : D} (e : ¬ p.1 = k) : atD (p :: r) k = atD r k := by simp [atD, List.find?_cons, e]
theorem putD_len (kvs : List (D × D)) (k v : D) : (putD kvs k v).length ≤ kvs.length + 1 := by
  unfold putD; split <;> simp
theorem keyD_inj {a b : Key} (h : keyD a = keyD b) : a = b := by
  cases a <;> cases b <;> simp [keyD] at h <;> simp [h]
theorem keyDs_inj : ∀ {a b : List Key}, a.map keyD = b.map keyD → a = b
  | [], [], _ => rfl
  | [], _ :: _, h => by simp at h
  | _ :: _, [], h => by simp at h
  | x :: a, y :: b, h => by
    rw [List.map_cons, List.map_cons] at h
    have h1 := List.cons.inj h
    rw [keyD_inj h1.1, keyDs_inj h1.2]
section
variable {K : PySem.W.Frag} {R : Hp}
/-- the entries of a dict and their data -/
inductive KvG {κ : Type} (f : κ → D) (K : PySem.W.Frag) (R : Hp) : List (κ × V) → List (D × D) → Prop
  | nil : KvG f K R [] []
  | cons {k : κ} {v : V} {d : D} {r qs} : Dp K R v d → KvG f K R r qs → KvG f K R ((k, v) :: r) ((f k, d) :: qs)
theorem KvR.g : ∀ {a b}, KvR K R a b → KvG keyD K R a b
  | _, _, .nil => .nil
  | _, _, .cons h t => .cons h t.g
theorem KvG.r : ∀ {a b}, KvG keyD K R a b → KvR K R a b
  | _, _, .nil => .nil
  | _, _, .cons h t => .cons h t.r
theorem KvT.g : ∀ {a b}, KvT K R a b → KvG (fun k => .tuple (k.map keyD)) K R a b
  | _, _, .nil => .nil
  | _, _, .cons h t => .cons h t.g
theorem KvG.t : ∀ {a b}, KvG (fun k => .tuple (k.map keyD)) K R a b → KvT K R a b
  | _, _, .nil => .nil
  | _, _, .cons h t => .cons h t.t
theorem KvG.length {κ : Type} {f : κ → D} : ∀ {a : List (κ × V)} {b}, KvG f K R a b → a.length = b.length
  | _, _, .nil => rfl
  | _, _, .cons h t => by rw [List.length_cons, List.length_cons, t.length]
variable {κ : Type} [DecidableEq κ] {f : κ → D} (hf : ∀ a b, f a = f b → a = b)
include hf
theorem KvG.at (k : κ) : ∀ {a : List (κ × V)} {b}, KvG f K R a b → (valV a k = none ∧ atD b (f k) = none) ∨ ∃ v d, valV a k = some v ∧ atD b (f k) = some d ∧ Dp K R v d
  | _, _, .nil => .inl ⟨rfl, rfl⟩
  | _, _, .cons (k := k') h t => by
    by_cases e : k' = k
    · exact .inr ⟨_, _, valV_pos e, atD_pos (by rw [e]), h⟩
    · rw [valV_neg (p := (k', _)) e, atD_neg (p := (f k', _)) fun q => e (hf _ _ q)]
      exact KvG.at k t
theorem KvG.rep {k : κ} {v : V} {d : D} (hd : Dp K R v d) : ∀ {a : List (κ × V)} {b}, KvG f K R a b → KvG f K R (a.map fun kv => if kv.1 = k then (kv.1, v) else kv) (b.map fun p => @ite _ (p.1 = f k) (Classical.propDecidable _) (p.1, d) p)
  | _, _, .nil => .nil
  | _, _, .cons (k := k') h t => by
    rw [List.map_cons, List.map_cons]
    by_cases e : k' = k
    · rw [if_pos (by exact e), if_pos (by simp [e])]
      exact .cons hd (KvG.rep hd t)
    · rw [if_neg (by exact e), if_neg (fun q => e (hf _ _ q))]
      exact .cons h (KvG.rep hd t)
omit hf [DecidableEq κ] in
theorem KvG.snoc {k : κ} {v : V} {d : D} (hd : Dp K R v d) : ∀ {a : List (κ × V)} {b}, KvG f K R a b → KvG f K R (a ++ [(k, v)]) (b ++ [(f k, d)])
  | _, _, .nil => .cons hd .nil
  | _, _, .cons h t => .cons h (KvG.snoc hd t)
theorem KvG.put {k : κ} {v : V} {d : D} (hd : Dp K R v d) {a : List (κ × V)} {b} (h : KvG f K R a b) : KvG f K R (putK a k v) (putD b (f k) d) := by
  unfold putK putD
  rw [valV_any]
  rcases h.at hf k with ⟨e1, e2⟩ | ⟨v0, d0, e1, e2, _⟩
  · rw [e1, e2, if_neg (by simp), if_neg (by simp)]
    exact h.snoc hd
  · rw [e1, e2, if_pos (by simp), if_pos (by simp)]
    exact h.rep hf hd
end
def keyOf : D → Option Key
  | .int i => some (.inl i)
  | .str x => some (.inr x)
  | _ => none
@[simp] theorem keyOf_i {i : Int} : keyOf (.int i) = some (.inl i) := rfl
@[simp] theorem keyOf_s {i : Str} : keyOf (.str i) = some (.inr i) := rfl
theorem keyOf_ok {K : PySem.W.Frag} {H : Hp} {v : V} {d : D} {k : Key} (h : Dp K H v d) (e : keyOf d = some k) : v = kV k ∧ d = keyD k := by
  cases h <;> cases e <;> exact ⟨rfl, rfl⟩
def keysOf : List D → Option (List Key)
  | [] => some []
  | d :: ds => (keyOf d).bind fun k => (keysOf ds).map (k :: ·)
@[simp] theorem keysOf_nil : keysOf [] = some [] := rfl
@[simp] theorem keysOf_cons {d : D} {ds : List D} : keysOf (d :: ds) = (keyOf d).bind fun k => (keysOf ds).map (k :: ·) := rfl
theorem keysOf_ok {K : PySem.W.Frag} {H : Hp} : ∀ {vs : List V} {ds : List D} {ks : List Key}, DpAll K H vs ds → keysOf ds = some ks → vs = ks.map kV ∧ ds = ks.map keyD
  | _, [], _, h, e => by cases h; cases e; exact ⟨rfl, rfl⟩
  | _, d :: ds, _, h, e => by
    cases h with
    | cons h t =>
      obtain ⟨k, e1, e2⟩ := Option.bind_eq_some_iff.mp e
      obtain ⟨ks, e3, rfl⟩ := Option.map_eq_some_iff.mp e2
      obtain ⟨rfl, rfl⟩ := keyOf_ok h e1
      obtain ⟨rfl, rfl⟩ := keysOf_ok t e3
      exact ⟨rfl, rfl⟩
/-- a dict, owned or lent -/
def dctO : Sv → Option (List (D × D))
  | .own (.dct false q) => some q
  | .fro (.dct false q) => some q
  | _ => none
@[simp] theorem dctO_own {q} : dctO (.own (.dct false q)) = some q := rfl
@[simp] theorem dctO_fro {q} : dctO (.fro (.dct false q)) = some q := rfl
theorem dctO_ok {K : PySem.W.Frag} {H : Hp} {P : Addr → Prop} {v : V} {s : Sv} {B : List Addr} {q} (r : RSv K (wo H P) H v s B) (h : dctO s = some q) : ∃ a kvs, v = .ref a ∧ H a = some (.dK kvs) ∧ KvG keyD K (wo H P) kvs q := by
  cases r with
  | dat hd => cases h
  | own w =>
    rename_i o
    cases o with
    | lst xs => cases h
    | dct t kvs =>
      cases t with
      | true => cases h
      | false =>
        cases h
        cases w with
        | dK h1 h2 => exact ⟨_, _, rfl, h1, h2.g⟩
  | fro w =>
    rename_i o
    cases o with
    | lst xs => cases h
    | dct t kvs =>
      cases t with
      | true => cases h
      | false =>
        cases h
        cases w with
        | dK h1 h2 => exact ⟨_, _, rfl, wo_same _ _ h1, h2.g⟩
/-! ### d[k], k in d -/
@[simp] noncomputable def opDIx (x y : Sv) : Option Sv := (dctO x).bind fun q => (datC y).bind fun d => (keyOf d).bind fun _ => (atD q d).map .dat
def rDIx : R2 := fun x y H Q => ∃ a v, x = .ref a ∧ DGet H a y (some v) ∧ Q v H
theorem ok_dix {K : PySem.W.Frag} : R2Ok K rDIx opDIx := by
  intro H P v w x y s Q B1 B2 hl r1 r2 h hq
  unfold opDIx at h
  obtain ⟨q, e1, h⟩ := Option.bind_eq_some_iff.mp h
  obtain ⟨d, e2, h⟩ := Option.bind_eq_some_iff.mp h
  obtain ⟨k, e3, h⟩ := Option.bind_eq_some_iff.mp h
  obtain ⟨z, e4, e5⟩ := Option.map_eq_some_iff.mp h
  cases e5
  obtain ⟨a, kvs, rfl, e6, g⟩ := dctO_ok r1 e1
  obtain ⟨rfl, rfl⟩ := keyOf_ok (datC_ok r2 e2).1 e3
  rcases g.at (fun _ _ => keyD_inj) k with ⟨n1, n2⟩ | ⟨u, d, n1, n2, hd⟩
  · rw [n2] at e4; cases e4
  · rw [n2] at e4; cases e4
    exact ⟨a, u, rfl, n1 ▸ .k e6, hq _ _ _ (.old hd)⟩
section
variable {X : Cx} {o i e : Expr} {pos : Pos} {fo fi : Ev → Option (Pend × Ev)}
theorem se_dix (hu : X.A.units + 64 < cLine) (ho : SO X o fo) (hi : SO X i fi) (hs : NoSl i := by intro _ _; rfl) : SE X (.Subscript o i pos) (eOp2 opDIx fo fi) :=
  let ⟨_, _, pa, pb, h⟩ := se_tOp ho hi ok_dix
  ⟨_, pe_dget (by omega) pa pb hs, h⟩
@[simp] noncomputable def opDIn (b : Bool) (y x : Sv) : Option Sv := (dctO x).bind fun q => (datC y).bind fun d => (keyOf d).bind fun _ => some (.dat (.bool ((atD q d).isSome == b)))
def rDIn (b : Bool) : R2 := fun y x H Q => ∃ a o, x = .ref a ∧ DGet H a y o ∧ Q (.bl (o.isSome == b)) H
theorem ok_din {K : PySem.W.Frag} {b : Bool} : R2Ok K (rDIn b) (opDIn b) := by
  intro H P w v y x s Q B1 B2 hl r2 r1 h hq
  unfold opDIn at h
  obtain ⟨q, e1, h⟩ := Option.bind_eq_some_iff.mp h
  obtain ⟨d, e2, h⟩ := Option.bind_eq_some_iff.mp h
  obtain ⟨k, e3, h⟩ := Option.bind_eq_some_iff.mp h
  cases h
  obtain ⟨a, kvs, rfl, e6, g⟩ := dctO_ok r1 e1
  obtain ⟨rfl, rfl⟩ := keyOf_ok (datC_ok r2 e2).1 e3
  refine ⟨a, _, rfl, .k e6, ?_⟩
  rcases g.at (fun _ _ => keyD_inj) k with ⟨n1, n2⟩ | ⟨u, d, n1, n2, hd⟩
  · rw [n1]; rw [n2] at hq; exact hq _ _ _ .bl
  · rw [n1]; rw [n2] at hq; exact hq _ _ _ .bl
theorem din_pc (hu : X.A.units + 64 < cLine) (hi : SO X i fi) (ho : SO X o fo) : ∃ t, PC X .In i o t ∧ SEt X.K t (eOp2 (opDIn true) fi fo) := by
  obtain ⟨ta, tb, pa, pb, h⟩ := se_tOp hi ho (ok_din (b := true))
  refine ⟨_, pc_din (by omega) pa pb, fun σ ρ A H Q s ρ' S hf hq => ?_⟩
  have := h σ ρ A H Q s ρ' S hf hq
  have e : ∀ x y H Q, rDIn true x y H Q = ∃ a o, y = .ref a ∧ DGet H a x o ∧ Q (.bl o.isSome) H := fun x y H Q => by
    unfold rDIn; simp
  have er : rDIn true = fun x y H Q => ∃ a o, y = .ref a ∧ DGet H a x o ∧ Q (.bl o.isSome) H := by funext x y H Q; exact e x y H Q
  rw [er] at this
  exact this
theorem dnin_pc (hu : X.A.units + 64 < cLine) (hi : SO X i fi) (ho : SO X o fo) : ∃ t, PC X .NotIn i o t ∧ SEt X.K t (eOp2 (opDIn false) fi fo) := by
  obtain ⟨ta, tb, pa, pb, h⟩ := se_tOp hi ho (ok_din (b := false))
  refine ⟨_, pc_dnotin (by omega) pa pb, fun σ ρ A H Q s ρ' S hf hq => ?_⟩
  have := h σ ρ A H Q s ρ' S hf hq
  have er : rDIn false = fun x y H Q => ∃ a o, y = .ref a ∧ DGet H a x o ∧ Q (.bl (!o.isSome)) H := by
    funext x y H Q; unfold rDIn
    have : ∀ b : Bool, (b == false) = !b := by decide
    simp only [this]
  rw [er] at this
  exact this
theorem se_din (hu : X.A.units + 64 < cLine) (hi : SO X i fi) (ho : SO X o fo) (hm : behindInMarks .In o = false := by rfl) : SE X (.Compare i [.In] [o] pos) (eOp2 (opDIn true) fi fo) := let ⟨_, p, hs⟩ := din_pc hu hi ho; ⟨_, pe_cmp p hm, hs⟩
theorem st_din (hu : X.A.units + 64 < cLine) (hi : SO X i fi) (ho : SO X o fo) (hm : behindInMarks .In o = false := by rfl) : ST X (.Compare i [.In] [o] pos) (tB (eOp2 (opDIn true) fi fo)) := let ⟨_, p, hs⟩ := din_pc hu hi ho; ⟨_, pt_cmp p hm, fun σ ρ A H Q b ρ' S hf hq => tB_run hs σ ρ A H Q b ρ' S hf hq⟩
theorem se_dnin (hu : X.A.units + 64 < cLine) (hi : SO X i fi) (ho : SO X o fo) (hm : behindInMarks .NotIn o = false := by rfl) : SE X (.Compare i [.NotIn] [o] pos) (eOp2 (opDIn false) fi fo) := let ⟨_, p, hs⟩ := dnin_pc hu hi ho; ⟨_, pe_cmp p hm, hs⟩
theorem st_dnin (hu : X.A.units + 64 < cLine) (hi : SO X i fi) (ho : SO X o fo) (hm : behindInMarks .NotIn o = false := by rfl) : ST X (.Compare i [.NotIn] [o] pos) (tB (eOp2 (opDIn false) fi fo)) := let ⟨_, p, hs⟩ := dnin_pc hu hi ho; ⟨_, pt_cmp p hm, fun σ ρ A H Q b ρ' S hf hq => tB_run hs σ ρ A H Q b ρ' S hf hq⟩
end
/-! ### sorted(d) of a dict with few int keys -/
def ikeys : List (D × D) → Option (List Int)
  | [] => some []
  | (.int i, _) :: r => (ikeys r).map (i :: ·)
  | _ => none
theorem ikeys_ok {K : PySem.W.Frag} {R : Hp} : ∀ {a : List (Key × V)} {b ns}, KvG keyD K R a b → ikeys b = some ns → a.map (·.1) = ns.map Sum.inl
  | _, _, _, .nil, e => by cases e; rfl
  | _, _, _, .cons (k := k) h t, e => by
    cases k with
    | inl i =>
      obtain ⟨ns, e1, rfl⟩ := Option.map_eq_some_iff.mp (show (ikeys _).map _ = _ from e)
      rw [List.map_cons, List.map_cons, ikeys_ok t e1]
    | inr x => cases (show (none : Option (List Int)) = _ from e)
/-- sorted(d), the keys all ints, any number of them -/
def rSortK : List V → Hp → VK → Prop := fun xs H Q => ∃ (a : Addr) (kvs : List (Key × V)) (ks : List Int), xs = [.ref a] ∧ Rd H a (.dK kvs) ∧ kvs.map (·.1) = ks.map Sum.inl ∧
    ∀ (ys : List Int) (p : Addr), ys.Perm ks → ys.Pairwise (· ≤ ·) → H p = none → Q (.ref p) (upd H p (.lst (ys.map V.int)))
theorem call_sortK {X : Cx} (hcalm : X.calm = true) : CallR X (.builtin "sorted") rSortK := by
  intro pins s σ H xs us Q I r q
  obtain ⟨a, kvs, ks, ex, hd, hks, q⟩ := q
  subst ex
  rw [Vals.ref1 r]
  obtain ⟨z, lo, vs, rel, dd⟩ := dk_rd I.hok hd
  obtain ⟨ep, hat⟩ := dd.dictAt
  have hkeys : vs.map (·.1) = ks.map Sum.inl := rel.keys.symm.trans hks
  have hl : vs.length = ks.length := by
    have e := congrArg List.length hkeys
    rw [List.length_map, List.length_map] at e
    exact e
  have h16 : vs.length ≤ sizeLine := by rw [← rel.length]; exact z
  refine Calls.call_function_entry PyProof.Rows.kind_sorted PyProof.Rows.plain_sorted PyProof.Rows.entry_sorted (PyProof.Rows.args_sorted1 _) ?_
  unfold Builtin.«sorted»
  refine wpAny_bind (m := checkCount "sorted" 1 1 _) (wpAny_pure ?_)
  refine wpAny_bind (PySem.W.kdu_collect (A := X.A.in1) (PySem.W.kdl_dict (knd := mixKind X.prog X.w) (kvs := vs) (ep := ep) lo) (I.ok.hd hcalm) hat h16 fun h' tk acc hk hacc => ?_)
  have hal : acc.toList.length = ks.length := by rw [Array.length_toList, hacc.1, hl]
  have hS : IntsAre acc.toList ks := ints_each hal fun j v e => by
    obtain ⟨k, x, e1, e2⟩ := hacc.2 j v (by rw [← Array.getElem?_toList]; exact e)
    have e3 : (vs.map (·.1))[j]? = some k := by rw [List.getElem?_map, e1]; rfl
    rw [hkeys, List.getElem?_map] at e3
    cases e4 : ks[j]? with
    | none => rw [e4] at e3; cases e3
    | some y =>
      rw [e4] at e3
      have e5 : Sum.inl y = k := Option.some.inj e3
      subst e5
      rcases keyIs_shape (show keyIs (Sum.inl y) v = true from e2) with ⟨i, t, ek, ev⟩ | ⟨z, t, ek, ev⟩
      · cases ek
        exact ⟨y, t, rfl, ev⟩
      · cases ek
  have I1 : Inv X pins σ H { s with heap := h', toks := tk } := I.kept hk
  have hz' : acc.toList.length ≤ sizeLine := by rw [hal, ← hl]; exact h16
  refine wpAny_bind (wpAny_newList ?_ hz')
  have hoL : (h'.push (seqObj "list" acc.toList.toArray 0)).get? h'.objs.size = some (seqObj "list" acc.toList.toArray 0) := Heap.get?_push_size _ rfl
  show wpAny _ _ _ _ _ { s with heap := h'.push (seqObj "list" acc.toList.toArray 0), toks := tk }
  refine wpAny_bind (wpAny_holding (wpAny_call_entry PyProof.Rows.slot_list_sort ⟨_, hoL, rfl⟩ PyProof.Rows.entry_list_sort
    (SrtO.list_sort_ord (s := { s with heap := h'.push (seqObj "list" acc.toList.toArray 0), toks := tk }) SrtO.swo_int hoL hz' (fun h2 => SrtO.ints_sortable hS h2) fun out g1 g2 => ⟨_, rfl, ?_⟩) (PyProof.Rows.args_list_sort _)))
  obtain ⟨k1, k2, k3⟩ := SrtO.ints_out hS g1 g2
  obtain ⟨e', he'⟩ := PyProof.Rows.sortedHeap_at (vs := acc.toList) (out := out.toArray) hoL
  have hlen : ((out.map SrtO.iv).map V.int).length ≤ sizeLine := by
    rw [List.length_map, k2.length_eq, ← hl]
    exact h16
  refine wpAny_pure ⟨_, rfl, .ref h'.objs.size, upd H h'.objs.size (.lst ((out.map SrtO.iv).map V.int)), I1.laid (t' := tk) (fun b u e => ?_) (Nat.le_refl _)
    (show ObjOk X.prog X.w _ _ _ (.lst ((out.map SrtO.iv).map V.int)) from ⟨hlen, out, e', vals_of_ints k1, he'⟩), rfl, q _ _ k2 k3 (I1.hok.fresh (Nat.le_refl _))⟩
  have hb : b < h'.objs.size := Heap.lt_size e
  rw [PyProof.Rows.sortedHeap_old (Nat.ne_of_lt hb) (by rw [size_push']; exact Nat.lt_succ_of_lt hb)]
  exact Heap.get?_push_of_some _ e
@[simp] def opSortK (x : Sv) : Option Sv := (dctO x).bind fun q => (ikeys q).map fun ns => .own (.lst ((ns.mergeSort leI).map .int))
theorem ok_sortK {K : PySem.W.Frag} : RBOk K rSortK opSortK := by
  intro H P v x s Q B1 hl r h hq
  unfold opSortK at h
  obtain ⟨q, e1, h⟩ := Option.bind_eq_some_iff.mp h
  obtain ⟨ns, e2, e3⟩ := Option.map_eq_some_iff.mp h
  cases e3
  obtain ⟨a, kvs, rfl, e6, g⟩ := dctO_ok r e1
  refine ⟨a, kvs, ns, rfl, .inl e6, ikeys_ok g e2, fun ys p hp hs hn => ?_⟩
  have hms : ys = ns.mergeSort leI := by
    refine perm_sorted_eq (hp.trans (List.mergeSort_perm ns leI).symm) hs ?_
    have := List.pairwise_mergeSort (le := leI) (by intro a b c h1 h2; simp [leI] at *; omega) (by intro a b; simp [leI]; omega) ns
    exact this.imp fun h => by simpa [leI] using h
  subst hms
  exact hq _ _ [p] (.lst hn (ints_all _))
/-! ### {} -/
def eDNew (t : Bool) : Ev → Option (Sv × Ev) := fun ρ => some (.own (.dct t []), ρ)
theorem New.dct {K : PySem.W.Frag} {H : Hp} {P : Addr → Prop} {u : HO} {t : Bool} {q} {p : Addr} (n : H p = none) (h : ∀ R' , Same (wo H P) R' → ROb K R' (upd H p u) p (.dct t q)) : New K H P (.own (.dct t q)) (.ref p) (upd H p u) [p] := by
  have sm : Same H (upd H p u) := fun b o e => by rw [upd_ne (ne_of_none e n)]; exact e
  have e : Same (wo H P) (wo (upd H p u) fun a => a ∈ [p] ∨ P a) := Same.wo2 sm fun a z => z.elim (fun z => .inr (by simp at z; subst z; exact n)) .inl
  exact ⟨sm, fun a z => by simp at z; subst z; exact n, .own (h _ e)⟩
theorem se_dnewK {X : Cx} {pos : Pos} : SE X (.Dict [] [] pos) (eDNew false) := by
  refine ⟨_, pe_dnewK, fun σ ρ A H Q s ρ' S hf hq => ?_⟩
  cases hf
  intro p n
  exact hq _ _ _ [p] ((New.dct n fun R' _ => .dK upd_same .nil).post S .refl)
theorem se_dnewT {X : Cx} {pos : Pos} : SE X (.Dict [] [] pos) (eDNew true) := by
  refine ⟨_, pe_dnewT, fun σ ρ A H Q s ρ' S hf hq => ?_⟩
  cases hf
  intro p n
  exact hq _ _ _ [p] ((New.dct n fun R' _ => .dT upd_same .nil).post S .refl)
/-! ### a name's own dict is changed -/
theorem Stt.putO {K : PySem.W.Frag} {H : Hp} {σ : L2.St} {ρ : Ev} {A : AS} {j : Nat} {o o' : Ob} {u : HO} {a : Addr} (S : Stt K H [] σ ρ A) (g : Got ρ j (.own o)) (e1 : σ[j]? = some (some (.ref a)))
    (hw : ∀ R', Same (wo H (OwB [] A)) R' → Wr K R' (upd H a u) a o') : Stt K (upd H a u) [] σ (ρ.set j (some (.own o'))) A ∧ Gr H A (upd H a u) [] A ∧ Same (wo H (OwB [] A)) (wo (upd H a u) (OwB [] A)) := by
  have hj : j < ρ.length := (List.getElem?_eq_some_iff.mp g).1
  obtain ⟨v, e3, r⟩ := S.got j _ g
  rw [e1] at e3; cases e3
  have ha : A.f j = [a] := by
    generalize hB : A.f j = B at r
    cases r with
    | own w => rfl
  have oa : Ow A a := ⟨j, by rw [ha]; simp⟩
  have sm : Same (wo H (OwB [] A)) (wo (upd H a u) (OwB [] A)) := fun b o z => by
    obtain ⟨n, e⟩ := of_wo z
    refine wo_of n ?_
    rw [upd_ne fun h => n (.inr (.inr (by rw [h]; exact oa)))]
    exact e
  have nz : ∀ b, A.Z b → b ≠ a := fun b z h => (S.zd b z).1 (by rw [h]; exact oa)
  refine ⟨⟨by simpa using S.len, fun i s g' => ?_, fun i h => ?_, S.dj, S.zd, fun b z => ?_, fun b z => nomatch z⟩, ⟨sm, rfl, fun b z u e => by rw [upd_ne (nz b z)]; exact e⟩, sm⟩
  · by_cases hi : i = j
    · subst hi
      unfold Got at g'
      rw [List.getElem?_set_self hj] at g'
      cases g'
      rw [ha]
      exact ⟨_, e1, .own (hw _ sm)⟩
    · rw [got_set_ne hi] at g'
      obtain ⟨w, e4, r4⟩ := S.got i s g'
      refine ⟨w, e4, r4.mono sm fun b hb u e => ?_⟩
      rw [upd_ne fun h => hi (S.dj i j b hb (by rw [ha, h]; simp))]
      exact e
  · by_cases hi : i = j
    · subst hi
      exact absurd (show Got (ρ.set i (some (.own o'))) i (.own o') by unfold Got; rw [List.getElem?_set_self hj]) (h _)
    · exact S.emp i fun s g' => h s ((got_set_ne hi).mpr g')
  · obtain ⟨u, e⟩ := S.zl b z
    exact ⟨u, by rw [upd_ne (nz b z)]; exact e⟩
/-- the dict in a slot, whose keys are t -/
def ownD (t : Bool) (ρ : Ev) (j : Nat) : Option (List (D × D)) := match ρ[j]? with
  | some (some (.own (.dct t' q))) => if t' = t then some q else none
  | _ => none
theorem ownD_of {t : Bool} {ρ : Ev} {j : Nat} {q} (h : ownD t ρ j = some q) : Got ρ j (.own (.dct t q)) := by
  unfold ownD at h
  split at h
  · rename_i e
    split at h
    · rename_i e2; cases h; subst e2; exact e
    · cases h
  · cases h
theorem ownD_atK {K : PySem.W.Frag} {H : Hp} {σ : L2.St} {ρ : Ev} {A : AS} {j : Nat} {q} (S : Stt K H [] σ ρ A) (h : ownD false ρ j = some q) :
    ∃ a kvs, σ[j]? = some (some (.ref a)) ∧ H a = some (.dK kvs) ∧ KvG keyD K (wo H (OwB [] A)) kvs q := by
  obtain ⟨v, e, r⟩ := S.got j _ (ownD_of h)
  generalize A.f j = B at r
  cases r with
  | own w => cases w with
    | dK h1 h2 => exact ⟨_, _, e, h1, h2.g⟩
theorem ownD_atT {K : PySem.W.Frag} {H : Hp} {σ : L2.St} {ρ : Ev} {A : AS} {j : Nat} {q} (S : Stt K H [] σ ρ A) (h : ownD true ρ j = some q) :
    ∃ a kvs, σ[j]? = some (some (.ref a)) ∧ H a = some (.dT kvs) ∧ KvG (fun k => .tuple (k.map keyD)) K (wo H (OwB [] A)) kvs q := by
  obtain ⟨v, e, r⟩ := S.got j _ (ownD_of h)
  generalize A.f j = B at r
  cases r with
  | own w => cases w with
    | dT h1 h2 => exact ⟨_, _, e, h1, h2.g⟩
theorem KvG.mono {κ : Type} {f : κ → D} {K : PySem.W.Frag} {R R' : Hp} (e : Same R R') : ∀ {a : List (κ × V)} {b}, KvG f K R a b → KvG f K R' a b
  | _, _, .nil => .nil
  | _, _, .cons h t => .cons (Dp.mono e h) (t.mono e)
theorem putK_post {K : PySem.W.Frag} {H : Hp} {σ : L2.St} {ρ : Ev} {A : AS} {j : Nat} {q} {k : Key} {v : V} {d : D} {a : Addr} {kvs} (S : Stt K H [] σ ρ A) (h : ownD false ρ j = some q) (e1 : σ[j]? = some (some (.ref a))) (hk : KvG keyD K (wo H (OwB [] A)) kvs q) (hd : Dp K (wo H (OwB [] A)) v d) :
    Stt K (upd H a (.dK (putK kvs k v))) [] σ (ρ.set j (some (.own (.dct false (putD q (keyD k) d))))) A ∧ Gr H A (upd H a (.dK (putK kvs k v))) [] A ∧ Same (wo H (OwB [] A)) (wo (upd H a (.dK (putK kvs k v))) (OwB [] A)) :=
  S.putO (ownD_of h) e1 fun R' e => .dK upd_same ((hk.put (fun _ _ => keyD_inj) hd).mono e).r
theorem tup_inj {a b : List Key} (h : PyData.tuple (a.map keyD) = .tuple (b.map keyD)) : a = b := keyDs_inj (PyData.tuple.inj h)
theorem putT_post {K : PySem.W.Frag} {H : Hp} {σ : L2.St} {ρ : Ev} {A : AS} {j : Nat} {q} {k : List Key} {v : V} {d : D} {a : Addr} {kvs} (S : Stt K H [] σ ρ A) (h : ownD true ρ j = some q) (e1 : σ[j]? = some (some (.ref a))) (hk : KvG (fun k => .tuple (k.map keyD)) K (wo H (OwB [] A)) kvs q) (hd : Dp K (wo H (OwB [] A)) v d) :
    Stt K (upd H a (.dT (putK kvs k v))) [] σ (ρ.set j (some (.own (.dct true (putD q (.tuple (k.map keyD)) d))))) A ∧ Gr H A (upd H a (.dT (putK kvs k v))) [] A ∧ Same (wo H (OwB [] A)) (wo (upd H a (.dT (putK kvs k v))) (OwB [] A)) :=
  S.putO (ownD_of h) e1 fun R' e => .dT upd_same ((hk.put (fun _ _ => tup_inj) hd).mono e).t
theorem line_ltD {n : Nat} (h : n < 1000000) : n < sizeLine := by rw [sizeLine_eq]; omega
/-- d[k] = v -/
noncomputable def sDSet (j : Nat) (fi : Ev → Option (Pend × Ev)) (fv : Ev → Option (Sv × Ev)) : Ev → Option Out := fun ρ => (fv ρ).bind fun p => (datC (frz p.1)).bind fun d => (ownD false p.2 j).bind fun _ => (fi p.2).bind fun r => (res r.1 r.2).bind fun i => (ownD false r.2 j).bind fun q => (datC i).bind fun k => (keyOf k).bind fun _ =>
  if q.length < 1000000 then some (.nx (r.2.set j (some (.own (.dct false (putD q k d)))))) else none
theorem ss_dset {X : Cx} {io : List Nat} {j : Nat} {x : Str} {i e : Expr} {p pos' pos : Pos} {fi fv} (hu : X.A.units + 64 < cLine) (hN : X.N[j]? = some x) (hv : Vis X.env.scope x) (hi : SO X i fi) (he : SE X e fv)
    (hd : (x == ("__debug__" : Str)) = false := by decide +kernel) (hcd : (x == ("__classdict__" : Str)) = false := by decide +kernel)
    (hs : swapsWith e (some (.Subscript (.Name x p) i pos')) pos.line X.env = pure false := by rfl) : SS io X (.Assign [.Subscript (.Name x p) i pos'] e pos) (sDSet j fi fv) := by
  obtain ⟨tv, pv, hev⟩ := he.frz
  obtain ⟨ti, pi, hi⟩ := hi
  refine ⟨_, ps_dput (by omega) (pe_var hN hv hd hcd) pi pv hs, fun σ ρ A H D o S hf hq => ?_⟩
  unfold sDSet at hf
  obtain ⟨⟨s, ρ1⟩, e1, hf⟩ := Option.bind_eq_some_iff.mp hf
  obtain ⟨d, e2, hf⟩ := Option.bind_eq_some_iff.mp hf
  obtain ⟨q0, e3, hf⟩ := Option.bind_eq_some_iff.mp hf
  obtain ⟨⟨r, ρ2⟩, e4, hf⟩ := Option.bind_eq_some_iff.mp hf
  obtain ⟨iv, e5, hf⟩ := Option.bind_eq_some_iff.mp hf
  obtain ⟨q, e6, hf⟩ := Option.bind_eq_some_iff.mp hf
  obtain ⟨k0, e7, hf⟩ := Option.bind_eq_some_iff.mp hf
  obtain ⟨k, e8, hf⟩ := Option.bind_eq_some_iff.mp hf
  split at hf
  · rename_i hlt
    cases hf
    refine hev σ ρ A H _ (frz s) ρ1 S (by unfold fFrz; rw [e1]; rfl) fun v H1 A1 b => ?_
    obtain ⟨a0, kvs0, w1, w2, w3⟩ := ownD_atK b.st e3
    refine ⟨_, w1, hi σ ρ1 A1 H1 _ r ρ2 b.st e4 fun y H2 A2 c => ?_⟩
    obtain ⟨a, kvs, z1, z2, z3⟩ := ownD_atK c.st e6
    rw [w1] at z1; cases z1
    obtain ⟨B, ry⟩ := res_ok c.st c.rs e5
    obtain ⟨rfl, rfl⟩ := keyOf_ok (datC_ok ry e7).1 e8
    have hd1 : Dp X.K (wo H1 (OwB [] A1)) v d := by
      have := b.rs
      cases s with
      | dat d' =>
        cases e2
        cases this with
        | dat h => exact h
      | own o =>
        cases o with
        | lst xs =>
          cases e2
          cases this with
          | dat h => exact h
        | dct t q => cases e2
      | fro o =>
        cases o with
        | lst xs =>
          cases e2
          cases this with
          | fro h => cases h with
            | lst h1 h2 => exact .lst h1 h2
        | dct t q => cases e2
    have hd2 := Dp.mono c.gr.s hd1
    obtain ⟨b1, b2, b3⟩ := putK_post (k := k) c.st e6 w1 z3 hd2
    refine ⟨_, _, rfl, .k z2 (by rw [z3.length]; exact line_ltD hlt), hq σ _ A2 ⟨b1, b.gr.trans (c.gr.trans b2), fun _ _ => rfl, rfl⟩⟩
  · cases hf
end DL
namespace DL
open PySem PySem.Spec PyProof.Rows L2
section
variable {X : Cx} {pins : List (Addr × Obj)} {σ : L2.St} {H : Hp} {s : Shared} {a b : Addr} {u r : Value} {d : V} {k : List Key} {A : Around} {E : Value → Shared → Prop}
theorem d_setdT {kvs : List (List Key × V)} {Q : Value → Shared → Prop} (hu : A.units + 1 < cLine) (I : Inv X pins σ H s) (e : H a = some (.dT kvs)) (eb : H b = some (.tup (k.map kV))) (rd : RelV d r) (hl : kvs.length < sizeLine)
    (h1 : ∀ v, valV kvs k = some v → ∀ (w' : Value) (s' : Shared), Inv X pins σ H s' → RelV v w' → Q w' s') (h2 : valV kvs k = none → ∀ (w' : Value) (s' : Shared), Inv X pins σ (upd H a (.dT (putK kvs k d))) s' → RelV d w' → Q w' s') :
    wpAny (model X.prog X.w) A (call (.builtin "dict.setdefault") [.ref a, .ref b, r]) Q E s := by
  obtain ⟨z, hd, xs, rel, dd⟩ := dt_of I.hok e
  have hz : xs.length ≤ sizeLine := by rw [← Paired.length rel]; exact z
  have hl2 : (putK kvs k d).length ≤ sizeLine := by have := length_putK kvs k d; omega
  refine call_setdefault_heap (hsz := hz) (knd := tupleKind (mixKind X.prog X.w)) (tupleKind_room_in1 hu) (key_of I.hok eb) hd dd (fun p hp => ?_) fun hn h' dd' hs => ?_
  · have q := rel.val k
    rw [hp] at q
    cases q0 : valV kvs k with
    | none => rw [q0] at q; exact (show False from q).elim
    | some v0 => rw [q0] at q; exact h1 v0 q0 _ _ (I.tok _) q
  · have q := rel.val k
    rw [hn] at q
    cases q0 : valV kvs k with
    | some v0 => rw [q0] at q; exact (show False from q).elim
    | none =>
      refine h2 q0 _ _ ?_ rd
      obtain ⟨q1, es, ep, hq, g2, g3, g4, _, g5⟩ := dd'
      refine d_write I (by rw [e]; exact True.intro) hs ⟨q1, hq⟩ ⟨hl2, hd, _, (rel.put k eb rd).keeps fun c ys ec => ?_, q1, es, ep, hq, g2, g3, g4, g5⟩
      rw [upd_ne (ne_of ec e (fun z => nomatch z))]
      exact ec
end
/-- d.setdefault(y, z), y a new tuple -/
def tDSetdT (td ty tx : TE) : TE := fun σ H Q => td σ H fun x H1 => ∃ a, x = .ref a ∧ IsD H1 a ∧ ty σ H1 fun y H2 => tx σ H2 fun z H3 => ∃ (kvs : List (List Key × V)) (k : List Key) (b : Addr), H3 a = some (.dT kvs) ∧ y = .ref b ∧ H3 b = some (.tup (k.map kV)) ∧ kvs.length < sizeLine ∧
  (∀ v, valV kvs k = some v → Q v H3) ∧ (valV kvs k = none → Q z (upd H3 a (.dT (putK kvs k z))))
section
variable {X : Cx} {o e f : Expr} {td ty tx : TE} {apos cpos : Pos}
theorem pe_dsetdT (hu : X.A.units + 1 < cLine) (ho : PE X o td) (he : PE X e ty) (hf : PE X f tx) (m : M2 X o "setdefault" apos e f cpos) : PE X (.Call (.Attribute o "setdefault" apos) [e, f] [] cpos) (tDSetdT td ty tx) := by
  refine ⟨fun pins s σ H Q I h => ?_⟩
  refine wpAny_Call_method m.base m.few m.line PySem.F.plainAttrs_dict PySem.F.slot_dict_setdefault PySem.F.type_dict_setdefault (thn (ho.run pins s σ H _ I h) fun u s1 ⟨x, H1, I1, rx, a, ex, d, q1⟩ => ?_)
  subst ex
  obtain rfl : u = Value.ref a := rx
  obtain ⟨t1, t2, _⟩ := isD_at I1 d
  refine ⟨t1, t2, ?_⟩
  rw [m.trees]
  refine Calls.callWith_builtin rfl (Calls.evalArgs_plain (Calls.spliced_cons (thn (he.run pins s1 σ H1 _ I1 q1) fun iv s2 ⟨y, H2, I2, ry, q2⟩ =>
    Calls.spliced_cons (thn (hf.run pins s2 σ H2 _ I2 q2) fun fv s3 ⟨z, H3, I3, rz, kvs, k, b, ea, ey, eb, hl, q3, q4⟩ => Calls.spliced_nil ?_))))
  subst ey
  obtain rfl : iv = Value.ref b := ry
  exact d_setdT hu I3 ea eb rz hl (fun v hv w' s4 I4 rw' => ⟨v, _, I4, rw', q3 v hv⟩) fun hn w' s4 I4 rw' => ⟨z, _, I4, rw', q4 hn⟩
end
/-! ### setdefault, get -/
def datN : Sv → Option D
  | .dat d => some d
  | _ => none
@[simp] theorem datN_d {d : D} : datN (.dat d) = some d := rfl
theorem datN_ok {K : PySem.W.Frag} {H : Hp} {P : Addr → Prop} {v : V} {s : Sv} {B : List Addr} {d : D} (r : RSv K (wo H P) H v s B) (h : datN s = some d) : Dp K (wo H P) v d := by
  cases r with
  | dat hd => cases h; exact hd
  | own w => cases h
  | fro w => cases h
noncomputable def setdD (t : Bool) (j : Nat) (q : List (D × D)) (k d : D) (ρ : Ev) : Option (Sv × Ev) := match atD q k with
  | some d0 => some (.dat d0, ρ)
  | none => some (.dat d, ρ.set j (some (.own (.dct t (putD q k d)))))
noncomputable def eDSetd (j : Nat) (fk fv : Ev → Option (Pend × Ev)) : Ev → Option (Sv × Ev) := fun ρ => (ownD false ρ j).bind fun _ => (fk ρ).bind fun p => (fv p.2).bind fun r => (res p.1 r.2).bind fun x => (res r.1 r.2).bind fun y => (ownD false r.2 j).bind fun q => (datN x).bind fun k => (datN y).bind fun d => (keyOf k).bind fun _ => if q.length < 1000000 then setdD false j q k d r.2 else none
noncomputable def eDSetdT (j : Nat) (fk : Ev → Option (List Pend × Ev)) (fv : Ev → Option (Pend × Ev)) : Ev → Option (Sv × Ev) := fun ρ => (ownD true ρ j).bind fun _ => (fk ρ).bind fun p => (datL p.1).bind fun ks => (fv p.2).bind fun r => (res r.1 r.2).bind fun y => (ownD true r.2 j).bind fun q => (datN y).bind fun d => (keysOf ks).bind fun _ => if ks.length ≤ 1000 ∧ q.length < 1000000 then setdD true j q (.tuple ks) d r.2 else none
section
variable {X : Cx} {j : Nat} {x : Str} {e f : Expr} {pos apos cpos : Pos} {fk fv : Ev → Option (Pend × Ev)}
theorem se_dsetd (hN : X.N[j]? = some x) (hv : Vis X.env.scope x) (hk : SO X e fk) (hf : SO X f fv) (m : M2 X (.Name x pos) "setdefault" apos e f cpos)
    (hd : (x == ("__debug__" : Str)) = false := by decide +kernel) (hcd : (x == ("__classdict__" : Str)) = false := by decide +kernel) : SE X (.Call (.Attribute (.Name x pos) "setdefault" apos) [e, f] [] cpos) (eDSetd j fk fv) := by
  obtain ⟨tk, pk, hk⟩ := hk
  obtain ⟨tv, pv, hf⟩ := hf
  refine ⟨_, pe_dsetd (pe_var hN hv hd hcd) pk pv m, fun σ ρ A H Q s ρ' S h hq => ?_⟩
  unfold eDSetd at h
  obtain ⟨q0, e1, h⟩ := Option.bind_eq_some_iff.mp h
  obtain ⟨⟨p, ρ1⟩, e2, h⟩ := Option.bind_eq_some_iff.mp h
  obtain ⟨⟨r, ρ2⟩, e3, h⟩ := Option.bind_eq_some_iff.mp h
  obtain ⟨xs, e4, h⟩ := Option.bind_eq_some_iff.mp h
  obtain ⟨ys, e5, h⟩ := Option.bind_eq_some_iff.mp h
  obtain ⟨q, e6, h⟩ := Option.bind_eq_some_iff.mp h
  obtain ⟨kd, e7, h⟩ := Option.bind_eq_some_iff.mp h
  obtain ⟨d, e8, h⟩ := Option.bind_eq_some_iff.mp h
  obtain ⟨k, e9, h⟩ := Option.bind_eq_some_iff.mp h
  dsimp only at e3 e4 e5 e6 h
  obtain ⟨a, kvs0, w1, w2, w3⟩ := ownD_atK S e1
  refine ⟨_, w1, a, rfl, .inl ⟨_, .inl w2⟩, hk σ ρ A H _ p ρ1 S e2 fun y H1 A1 b => hf σ ρ1 A1 H1 _ r ρ2 b.st e3 fun z H2 A2 c => ?_⟩
  obtain ⟨a', kvs, z1, z2, z3⟩ := ownD_atK c.st e6
  rw [w1] at z1; cases z1
  obtain ⟨B1, rk⟩ := res_ok c.st (b.rs.mono c.gr) e4
  obtain ⟨B2, rv⟩ := res_ok c.st c.rs e5
  have hkd := datN_ok rk e7
  have hvd := datN_ok rv e8
  obtain ⟨rfl, rfl⟩ := keyOf_ok hkd e9
  have g12 := b.gr.trans c.gr
  split at h
  · rename_i hl
    have hz : kvs.length < sizeLine := by rw [z3.length]; exact line_ltD hl
    unfold setdD at h
    rcases z3.at (fun _ _ => keyD_inj) k with ⟨n1, n2⟩ | ⟨u, d0, n1, n2, hd0⟩
    · rw [n2] at h
      cases h
      refine ⟨kvs, k, z2, rfl, hz, (fun v hv => by rw [n1] at hv; cases hv), fun _ => ?_⟩
      obtain ⟨b1, b2, b3⟩ := putK_post (k := k) c.st e6 w1 z3 hvd
      exact hq _ _ A2 [] ⟨b1, .dat (Dp.mono b3 hvd), g12.trans b2⟩
    · rw [n2] at h
      cases h
      refine ⟨kvs, k, z2, rfl, hz, (fun v hv => ?_), fun hn => by rw [n1] at hn; cases hn⟩
      rw [n1] at hv; cases hv
      exact hq _ _ A2 [] ⟨c.st, .dat hd0, g12⟩
  · cases h
theorem se_dsetdT {es : List Expr} {kk : Nat} {tp : Pos} {fk : Ev → Option (List Pend × Ev)} (hu : X.A.units + 64 < cLine) (hN : X.N[j]? = some x) (hv : Vis X.env.scope x) (hk : SAs X es fk) (hf : SO X f fv) (m : M2 X (.Name x pos) "setdefault" apos (.Tuple es kk tp) f cpos)
    (hd : (x == ("__debug__" : Str)) = false := by decide +kernel) (hcd : (x == ("__classdict__" : Str)) = false := by decide +kernel) : SE X (.Call (.Attribute (.Name x pos) "setdefault" apos) [.Tuple es kk tp, f] [] cpos) (eDSetdT j fk fv) := by
  obtain ⟨tk, pk, hk⟩ := hk
  obtain ⟨tv, pv, hf⟩ := hf
  refine ⟨_, pe_dsetdT (by omega) (pe_var hN hv hd hcd) (pe_tup pk) pv m, fun σ ρ A H Q s ρ' S h hq => ?_⟩
  unfold eDSetdT at h
  obtain ⟨q0, e1, h⟩ := Option.bind_eq_some_iff.mp h
  obtain ⟨⟨p, ρ1⟩, e2, h⟩ := Option.bind_eq_some_iff.mp h
  obtain ⟨kd, e4, h⟩ := Option.bind_eq_some_iff.mp h
  obtain ⟨⟨r, ρ2⟩, e3, h⟩ := Option.bind_eq_some_iff.mp h
  obtain ⟨ys, e5, h⟩ := Option.bind_eq_some_iff.mp h
  obtain ⟨q, e6, h⟩ := Option.bind_eq_some_iff.mp h
  obtain ⟨d, e8, h⟩ := Option.bind_eq_some_iff.mp h
  obtain ⟨k, e9, h⟩ := Option.bind_eq_some_iff.mp h
  dsimp only at e3 e4 e5 e6 h
  split at h
  · rename_i hl
    obtain ⟨a, kvs0, w1, w2, w3⟩ := ownD_atT S e1
    refine ⟨_, w1, a, rfl, .inr ⟨_, .inl w2⟩, hk σ ρ A H _ p ρ1 S e2 fun vs H0 A1 S1 g1 c1 => ?_⟩
    have hkd := datL_ok c1 e4
    obtain ⟨rfl, rfl⟩ := keysOf_ok hkd e9
    refine ⟨by rw [DpAll.length hkd]; exact Nat.le_of_lt (small1000 hl.1), fun tb hn => ?_⟩
    have nP := (New.tup S1.liveP hn hkd).post S1 g1
    have np : ¬ OwB [] A1 tb := fun z => by obtain ⟨u, q⟩ := S1.liveP tb z; rw [hn] at q; cases q
    refine hf σ ρ1 A1 _ _ r ρ2 nP.st e3 fun z H2 A2 c => ?_
    have etb : H2 tb = some (.tup (k.map kV)) := (of_wo (c.gr.s _ _ (wo_of np upd_same))).2
    obtain ⟨a', kvs, z1, z2, z3⟩ := ownD_atT c.st e6
    rw [w1] at z1; cases z1
    obtain ⟨B2, rv⟩ := res_ok c.st c.rs e5
    have hvd := datN_ok rv e8
    have g12 := nP.gr.trans c.gr
    have hz : kvs.length < sizeLine := by rw [z3.length]; exact line_ltD hl.2
    unfold setdD at h
    rcases z3.at (fun _ _ => tup_inj) k with ⟨n1, n2⟩ | ⟨u, d0, n1, n2, hd0⟩
    · rw [n2] at h
      cases h
      refine ⟨kvs, k, tb, z2, rfl, etb, hz, (fun v hv => by rw [n1] at hv; cases hv), fun _ => ?_⟩
      obtain ⟨b1, b2, b3⟩ := putT_post (k := k) c.st e6 w1 z3 hvd
      exact hq _ _ A2 [] ⟨b1, .dat (Dp.mono b3 hvd), g12.trans b2⟩
    · rw [n2] at h
      cases h
      refine ⟨kvs, k, tb, z2, rfl, etb, hz, (fun v hv => ?_), fun hn => by rw [n1] at hn; cases hn⟩
      rw [n1] at hv; cases hv
      exact hq _ _ A2 [] ⟨c.st, .dat hd0, g12⟩
  · cases h
/-- d.get(k, x) -/
def dctJ (ρ : Ev) (j : Nat) : Option (List (D × D)) := (ρ[j]?).bind fun o => o.bind dctO
theorem dctJ_at {K : PySem.W.Frag} {H : Hp} {σ : L2.St} {ρ : Ev} {A : AS} {j : Nat} {q} (S : Stt K H [] σ ρ A) (h : dctJ ρ j = some q) :
    ∃ a kvs, σ[j]? = some (some (.ref a)) ∧ H a = some (.dK kvs) ∧ KvG keyD K (wo H (OwB [] A)) kvs q := by
  unfold dctJ at h
  obtain ⟨o, e1, h⟩ := Option.bind_eq_some_iff.mp h
  obtain ⟨s, rfl, h⟩ := Option.bind_eq_some_iff.mp h
  obtain ⟨v, e, r⟩ := S.got j s e1
  obtain ⟨a, kvs, rfl, e2, g⟩ := dctO_ok r h
  exact ⟨a, kvs, e, e2, g⟩
noncomputable def eDGet2 (j : Nat) (fk fv : Ev → Option (Pend × Ev)) : Ev → Option (Sv × Ev) := fun ρ => (dctJ ρ j).bind fun _ => (fk ρ).bind fun p => (fv p.2).bind fun r => (res p.1 r.2).bind fun x => (res r.1 r.2).bind fun y => (dctJ r.2 j).bind fun q => (datN x).bind fun k => (datN y).bind fun d => (keyOf k).bind fun _ => some (.dat ((atD q k).getD d), r.2)
theorem se_dget2 (hu : X.A.units + 64 < cLine) (hN : X.N[j]? = some x) (hv : Vis X.env.scope x) (hk : SO X e fk) (hf : SO X f fv) (m : M2 X (.Name x pos) "get" apos e f cpos)
    (hd : (x == ("__debug__" : Str)) = false := by decide +kernel) (hcd : (x == ("__classdict__" : Str)) = false := by decide +kernel) : SE X (.Call (.Attribute (.Name x pos) "get" apos) [e, f] [] cpos) (eDGet2 j fk fv) := by
  obtain ⟨tk, pk, hk⟩ := hk
  obtain ⟨tv, pv, hf⟩ := hf
  refine ⟨_, pe_dget2 (by omega) (pe_var hN hv hd hcd) pk pv m, fun σ ρ A H Q s ρ' S h hq => ?_⟩
  unfold eDGet2 at h
  obtain ⟨q0, e1, h⟩ := Option.bind_eq_some_iff.mp h
  obtain ⟨⟨p, ρ1⟩, e2, h⟩ := Option.bind_eq_some_iff.mp h
  obtain ⟨⟨r, ρ2⟩, e3, h⟩ := Option.bind_eq_some_iff.mp h
  obtain ⟨xs, e4, h⟩ := Option.bind_eq_some_iff.mp h
  obtain ⟨ys, e5, h⟩ := Option.bind_eq_some_iff.mp h
  obtain ⟨q, e6, h⟩ := Option.bind_eq_some_iff.mp h
  obtain ⟨kd, e7, h⟩ := Option.bind_eq_some_iff.mp h
  obtain ⟨d, e8, h⟩ := Option.bind_eq_some_iff.mp h
  obtain ⟨k, e9, h⟩ := Option.bind_eq_some_iff.mp h
  cases h
  dsimp only at e3 e4 e5 e6
  obtain ⟨a, kvs0, w1, w2, w3⟩ := dctJ_at S e1
  refine ⟨_, w1, a, rfl, .inl ⟨_, .inl w2⟩, hk σ ρ A H _ p ρ1 S e2 fun y H1 A1 b => hf σ ρ1 A1 H1 _ r _ b.st e3 fun z H2 A2 c => ?_⟩
  obtain ⟨a', kvs, z1, z2, z3⟩ := dctJ_at c.st e6
  rw [w1] at z1; cases z1
  obtain ⟨B1, rk⟩ := res_ok c.st (b.rs.mono c.gr) e4
  obtain ⟨B2, rv⟩ := res_ok c.st c.rs e5
  have hkd := datN_ok rk e7
  have hvd := datN_ok rv e8
  obtain ⟨rfl, rfl⟩ := keyOf_ok hkd e9
  refine ⟨_, .k z2, ?_⟩
  have g12 := b.gr.trans c.gr
  rcases z3.at (fun _ _ => keyD_inj) k with ⟨n1, n2⟩ | ⟨u, d0, n1, n2, hd0⟩
  · rw [n1]; rw [n2] at hq
    exact hq _ _ A2 [] ⟨c.st, .dat hvd, g12⟩
  · rw [n1]; rw [n2] at hq
    exact hq _ _ A2 [] ⟨c.st, .dat hd0, g12⟩
end
/-! ### zip of two lists -/
def zipD : List D → List D → List D
  | x :: xs, y :: ys => .tuple [x, y] :: zipD xs ys
  | _, _ => []
theorem zipD_get : ∀ (xs ys : List D) (i : Nat), (zipD xs ys)[i]? = xs[i]?.bind fun x => ys[i]?.map fun y => .tuple [x, y]
  | [], ys, i => by simp [zipD]
  | x :: xs, [], i => by simp [zipD]
  | x :: xs, y :: ys, 0 => by simp [zipD]
  | x :: xs, y :: ys, i + 1 => by
    rw [zipD, List.getElem?_cons_succ, List.getElem?_cons_succ, List.getElem?_cons_succ, zipD_get xs ys i]
theorem zipD_len : ∀ (xs ys : List D), (zipD xs ys).length = min xs.length ys.length
  | [], ys => by simp [zipD]
  | x :: xs, [] => by simp [zipD]
  | x :: xs, y :: ys => by rw [zipD, List.length_cons, zipD_len xs ys]; simp
theorem itOk_zip {K : PySem.W.Frag} {R : Hp} {a b : Addr} {vs ws : List V} {xs ys : List D} (hs : SqL K R a vs) (ha : DpAll K R vs xs) (hs2 : SqL K R b ws) (ha2 : DpAll K R ws ys) : ItOk K (Itz K a b) R (zipD xs ys) := by
  intro H P hl e i
  have hs' : SqL K H a vs := Same.seq wo_same (Same.seq e hs)
  have hs2' : SqL K H b ws := Same.seq wo_same (Same.seq e hs2)
  refine ⟨fun d hd => ?_, fun hi => ⟨vs, ws, hs', hs2', by rw [DpAll.length ha, DpAll.length ha2]; rw [zipD_len] at hi; omega⟩⟩
  rw [zipD_get] at hd
  obtain ⟨x, e0, hd⟩ := Option.bind_eq_some_iff.mp hd
  obtain ⟨y, e0', rfl⟩ := Option.map_eq_some_iff.mp hd
  obtain ⟨v, e1, r⟩ := DpAll.get ha e0
  obtain ⟨w, e1', r'⟩ := DpAll.get ha2 e0'
  refine ⟨⟨vs, ws, v, w, hs', hs2', e1, e1'⟩, fun x' H' ⟨T, y1, y2, e2, e3, e4, e5, e6⟩ => ?_⟩
  subst e2 e4
  have h5 := e5 vs hs'
  rw [e1] at h5; cases h5
  have h6 := e6 ws hs2'
  rw [e1'] at h6; cases h6
  have nP : ¬ P T := fun p => by obtain ⟨u, q⟩ := hl T p; rw [e3] at q; cases q
  have sm : ∀ o, Same H (upd H T o) := fun o b u q => by
    by_cases c : b = T
    · subst c; rw [e3] at q; cases q
    · rw [upd_ne c]; exact q
  have sm2 : ∀ o, Same (wo H P) (wo (upd H T o) P) := fun o => Same.wo2 (sm o) fun a z => .inl z
  exact ⟨sm _, .tup (.inl (.inl (wo_of nP upd_same))) (.cons (Dp.mono (sm2 _) (Dp.mono e r)) (.cons (Dp.mono (sm2 _) (Dp.mono e r')) .nil))⟩
def iZp (fa : Ev → Option (List Pend × Ev)) : Ev → Option (List D × Ev) := fun ρ => (fa ρ).bind fun p => (resL p.1 p.2).bind fun xs => match xs with
  | [.dat (.list ds), .dat (.list es)] => some (zipD ds es, p.2)
  | _ => none
theorem si_zip {X : Cx} {a b : Expr} {p pos tpos : Pos} {elts : List Expr} {kk : Nat} {fa} (hg : Gl X "zip") (hm : X.mg "zip" = none) (ha : SAs X [a, b] fa) (hs : starEach [a, b] X.env = (false, eval a X.env) :: starEach [b] X.env := by rfl) (hpl : (backTo pos (starEach [b] X.env)).any (·.1) = false := by rfl) :
    SI X (.Tuple elts kk tpos) (.Call (.Name "zip" p) [a, b] [] pos) (iZp fa) := by
  obtain ⟨t, pa, ha⟩ := ha
  refine ⟨_, RZ.pi_zipA hg hm pa hs hpl, fun σ ρ A H R xs ρ' S hf hq => ?_⟩
  unfold iZp at hf
  obtain ⟨⟨ps, ρ1⟩, e1, hf⟩ := Option.bind_eq_some_iff.mp hf
  obtain ⟨ys, e2, hf⟩ := Option.bind_eq_some_iff.mp hf
  dsimp only at hf e2
  split at hf
  · rename_i ds es
    cases hf
    refine ha σ ρ A H _ ps _ S e1 fun vs H1 A1 S1 g1 c => ?_
    obtain ⟨v, w, B, B', rfl, r, r'⟩ := (resL_ok S1 c e2).two
    cases r with
    | dat h =>
      cases h with
      | lst h1 h2 =>
        cases r' with
        | dat h' =>
          cases h' with
          | lst h3 h4 => exact ⟨_, _, _, _, rfl, .inl ⟨Same.seq wo_same h1, Same.seq wo_same h3, hq _ H1 A1 S1 g1 (itOk_zip h1 h2 h3 h4)⟩⟩
  · cases hf
/-! ### what they give -/
section
variable {ρ : Ev} {fa fb fk fv : Ev → Option (Pend × Ev)} {as : Ev → Option (List Pend × Ev)} {f : Ev → Option (Sv × Ev)}
@[simp ↓] theorem w_eDNew {t : Bool} {Q} : Wp (eDNew t ρ) Q = Q (.own (.dct t []), ρ) := wp_some
@[simp] theorem ownD_s {t : Bool} {j : Nat} : ownD t ρ j = match ρ[j]? with
  | some (some (.own (.dct t' q))) => if t' = t then some q else none
  | _ => none := rfl
@[simp] theorem dctJ_s {j : Nat} : dctJ ρ j = (ρ[j]?).bind fun o => o.bind dctO := rfl
@[simp ↓] theorem w_sDSet {j : Nat} {Q} : Wp (sDSet j fk f ρ) Q = Wp (f ρ) fun p => wO (datC (frz p.1)) fun d => wO (ownD false p.2 j) fun _ => Wp (fk p.2) fun r => wO (res r.1 r.2) fun i => wO (ownD false r.2 j) fun q => wO (datC i) fun k => wO (keyOf k) fun _ => q.length < 1000000 ∧ Q (.nx (r.2.set j (some (.own (.dct false (putD q k d)))))) := by
  unfold sDSet; repeat' first | rfl | exact wp_some | (refine wp_b1 fun _ => ?_) | (refine wp_b2 fun _ => ?_) | (rw [wp_guard]; refine congrArg (And _) ?_)
/-- what setdefault gives -/
def wS (o : Option D) (k1 : D → Prop) (k2 : Prop) (t : Tg k1 := .mk) (u : Tp k2 k2 := .mk) : Prop := (∀ d, o = some d → k1 d) ∧ (o = none → k2)
@[simp ↓] theorem wS_some {d : D} {k1 : D → Prop} {k2 : Prop} : wS (some d) k1 k2 = k1 d := by unfold wS; apply propext; simp
@[simp ↓] theorem wS_none {k1 : D → Prop} {k2 : Prop} : wS none k1 k2 = k2 := by unfold wS; apply propext; simp
theorem w_setd {t : Bool} {j : Nat} {q k d Q} : Wp (setdD t j q k d ρ) Q = wS (atD q k) (fun d0 => Q (.dat d0, ρ)) (Q (.dat d, ρ.set j (some (.own (.dct t (putD q k d)))))) := by
  unfold setdD
  cases e : atD q k <;> simp
@[simp ↓] theorem w_eDSetd {j : Nat} {Q} : Wp (eDSetd j fk fv ρ) Q = wO (ownD false ρ j) fun _ => Wp (fk ρ) fun p => Wp (fv p.2) fun r => wO (res p.1 r.2) fun x => wO (res r.1 r.2) fun y => wO (ownD false r.2 j) fun q => wO (datN x) fun k => wO (datN y) fun d => wO (keyOf k) fun _ => q.length < 1000000 ∧
    wS (atD q k) (fun d0 => Q (.dat d0, r.2)) (Q (.dat d, r.2.set j (some (.own (.dct false (putD q k d)))))) := by
  unfold eDSetd; repeat' first | exact w_setd | rfl | exact wp_some | (refine wp_b1 fun _ => ?_) | (refine wp_b2 fun _ => ?_) | (rw [wp_guard]; refine congrArg (And _) ?_)
@[simp ↓] theorem w_eDSetdT {j : Nat} {Q} : Wp (eDSetdT j as fv ρ) Q = wO (ownD true ρ j) fun _ => Wp (as ρ) fun p => wO (datL p.1) fun ks => Wp (fv p.2) fun r => wO (res r.1 r.2) fun y => wO (ownD true r.2 j) fun q => wO (datN y) fun d => wO (keysOf ks) fun _ => (ks.length ≤ 1000 ∧ q.length < 1000000) ∧
    wS (atD q (.tuple ks)) (fun d0 => Q (.dat d0, r.2)) (Q (.dat d, r.2.set j (some (.own (.dct true (putD q (.tuple ks) d)))))) := by
  unfold eDSetdT; repeat' first | exact w_setd | rfl | exact wp_some | (refine wp_b1 fun _ => ?_) | (refine wp_b2 fun _ => ?_) | (rw [wp_guard]; refine congrArg (And _) ?_)
@[simp ↓] theorem w_eDGet2 {j : Nat} {Q} : Wp (eDGet2 j fk fv ρ) Q = wO (dctJ ρ j) fun _ => Wp (fk ρ) fun p => Wp (fv p.2) fun r => wO (res p.1 r.2) fun x => wO (res r.1 r.2) fun y => wO (dctJ r.2 j) fun q => wO (datN x) fun k => wO (datN y) fun d => wO (keyOf k) fun _ => Q (.dat ((atD q k).getD d), r.2) := by
  unfold eDGet2; repeat' first | rfl | exact wp_some | (refine wp_b1 fun _ => ?_) | (refine wp_b2 fun _ => ?_) | (rw [wp_guard]; refine congrArg (And _) ?_)
def wZ (xs : List Sv) (k : List D → List D → Prop) : Prop := ∃ ds es, xs = [.dat (.list ds), .dat (.list es)] ∧ k ds es
@[simp ↓] theorem wZ_l {ds es : List D} {k : List D → List D → Prop} : wZ [.dat (.list ds), .dat (.list es)] k = k ds es := by
  unfold wZ; apply propext; constructor
  · rintro ⟨c, d, e, q⟩; cases e; exact q
  · exact fun q => ⟨ds, es, rfl, q⟩
@[simp ↓] theorem w_iZp {Q} : Wp (iZp as ρ) Q = Wp (as ρ) fun p => wO (resL p.1 p.2) fun xs => wZ xs fun ds es => Q (zipD ds es, p.2) := by
  unfold iZp
  refine wp_b1 fun p => wp_b2 fun xs => ?_
  split
  · rw [wZ_l, wp_some]
  · rename_i n
    rw [wp_none]
    apply propext
    exact ⟨False.elim, fun ⟨ds, es, e, _⟩ => n ds es e⟩
theorem zipD_map {α : Type} (f : α → D) : ∀ (xs ys : List α), zipD (xs.map f) (ys.map f) = (xs.zip ys).map fun p => .tuple [f p.1, f p.2]
  | [], _ => by simp [zipD]
  | _ :: _, [] => by simp [zipD]
  | x :: xs, y :: ys => by simp [zipD, zipD_map f xs ys]
end
end DL
namespace DL
open PySem PySem.Spec PyProof.Rows L2
/-! ### sorted(set(xs)) of few pairs of ints, none below 0 -/
def prD (p : Int × Int) : D := .tuple [.int p.1, .int p.2]
def prsD : List D → Option (List (Int × Int))
  | [] => some []
  | .tuple [.int a, .int b] :: r => (prsD r).map ((a, b) :: ·)
  | _ => none
@[simp] theorem prsD_map : ∀ ps : List (Int × Int), prsD (ps.map prD) = some ps
  | [] => rfl
  | p :: ps => by rw [List.map_cons, prD, prsD, prsD_map ps]; rfl
def lexL (p q : Int × Int) : Bool := decide (p.1 < q.1) || (decide (p.1 = q.1) && decide (p.2 ≤ q.2))
def srtP (ps : List (Int × Int)) : List (Int × Int) := (ded ps).mergeSort lexL
theorem lexL_trans (a b c : Int × Int) (h1 : lexL a b = true) (h2 : lexL b c = true) : lexL a c = true := by
  unfold lexL at *; simp at *; omega
theorem lexL_total (a b : Int × Int) : (lexL a b || lexL b a) = true := by
  unfold lexL; simp; omega
theorem lexL_anti {a b : Int × Int} (h1 : lexL a b = true) (h2 : lexL b a = true) : a = b := by
  unfold lexL at *; simp at *
  exact Prod.ext (by omega) (by omega)
theorem srtP_pw (ps : List (Int × Int)) : (srtP ps).Pairwise fun a b => lexL a b = true := List.pairwise_mergeSort lexL_trans lexL_total _
theorem srtP_mem {ps : List (Int × Int)} {p : Int × Int} : p ∈ srtP ps ↔ p ∈ ps := (List.mergeSort_perm (ded ps) lexL).mem_iff.trans ded_mem
theorem srtP_nd (ps : List (Int × Int)) : (srtP ps).Nodup := (List.mergeSort_perm (ded ps) lexL).nodup_iff.mpr ded_nodup
theorem srtP_eq {ps : List (Int × Int)} {qs : List (Int × Int)} (nd : qs.Nodup) (mem : ∀ p, p ∈ qs ↔ p ∈ ps) (pw : qs.Pairwise fun a b => lexL a b = true) : qs = srtP ps := by
  have pm : qs.Perm (srtP ps) := (List.perm_ext_iff_of_nodup nd (srtP_nd ps)).mpr fun p => (mem p).trans srtP_mem.symm
  exact pm.eq_of_pairwise (fun a b _ _ h h' => lexL_anti h h') pw (srtP_pw ps)
/-- the pairs and where they are -/
theorem prs_at {K : PySem.W.Frag} {R H : Hp} (sm : Same R H) : ∀ {vs : List V} {ds : List D} {ps : List (Int × Int)}, DpAll K R vs ds → prsD ds = some ps → ∃ ks : List (Addr × List Int), vs = ks.map (fun p => V.ref p.1) ∧ ks.map (·.2) = ps.map (fun p => [p.1, p.2]) ∧ (∀ k ∈ ks, SqT K R k.1 (k.2.map V.int)) ∧ ds = ps.map prD
  | _, [], _, h, e => by cases h; cases e; exact ⟨[], rfl, rfl, by simp, rfl⟩
  | _, d :: ds, _, h, e => by
    cases h with
    | cons h t =>
      unfold prsD at e
      split at e
      · rename_i e0; cases e0
      · rename_i a b r e0
        obtain ⟨ps, e1, rfl⟩ := Option.map_eq_some_iff.mp e
        cases e0
        obtain ⟨ks, rfl, e2, e3, rfl⟩ := prs_at sm t e1
        cases h with
        | tup hs ha =>
          rename_i ad xs
          cases ha with
          | cons h1 ha => cases ha with
            | cons h2 ha =>
              cases ha
              cases h1
              cases h2
              exact ⟨(ad, [a, b]) :: ks, rfl, by simp [e2], fun k hk => by
                rcases List.mem_cons.mp hk with q | q
                · rw [q]; exact hs
                · exact e3 k q, rfl⟩
      · cases e
def opSetT (x : Sv) : Option Sv := match datC x with
  | some (.list xs) => (prsD xs).bind fun ps => if ps.length < 64 ∧ (ps.all fun p => decide (0 ≤ p.1) && decide (0 ≤ p.2)) = true then some (.own (.lst ((srtP ps).map prD))) else none
  | _ => none
theorem opSetT_run (ps : List (Int × Int)) (h : ps.length < 64) (h2 : ∀ p ∈ ps, 0 ≤ p.1 ∧ 0 ≤ p.2) : opSetT (.dat (.list (ps.map prD))) = some (.own (.lst ((srtP ps).map prD))) := by
  unfold opSetT
  have : (ps.all fun p => decide (0 ≤ p.1) && decide (0 ≤ p.2)) = true := List.all_eq_true.mpr fun p m => by simp [h2 p m]
  simp [h]
  simpa using h2
theorem ok_setT {K : PySem.W.Frag} {P0 : Program} {w0 : World} : R1Ok K (fun x H Q => rSetOfT K P0 w0 [x] H fun y H1 => rSortedT K P0 w0 [y] H1 Q) opSetT := by
  intro H P v x s Q B1 hl r h hq
  unfold opSetT at h
  split at h
  · rename_i xs q
    obtain ⟨ps, e1, h⟩ := Option.bind_eq_some_iff.mp h
    split at h
    · rename_i ok
      cases h
      obtain ⟨a, vs, rfl, hs, hd⟩ := datC_list r q
      obtain ⟨ks, rfl, e2, e3, rfl⟩ := prs_at (wo_same (H := H) (P := P)) hd e1
      have lk : ks.length = ps.length := by have := congrArg List.length e2; simpa using this
      have hnn := List.all_eq_true.mp ok.2
      refine ⟨a, ks, rfl, hs, fun p hp => Same.sqt wo_same (e3 p hp), by omega, fun a1 L n1 h1 h2 => ?_⟩
      -- a bound
      have hB : ∃ B : Int, ∀ p ∈ ps, p.1 < B ∧ p.2 < B := by
        have gen : ∀ ps : List (Int × Int), ∃ B : Int, ∀ p ∈ ps, p.1 < B ∧ p.2 < B := by
         intro ps
         induction ps with
         | nil => exact ⟨0, by simp⟩
         | cons p ps ih =>
          obtain ⟨B, hB⟩ := ih
          refine ⟨max B (max (p.1 + 1) (p.2 + 1)), fun q hq => ?_⟩
          rcases List.mem_cons.mp hq with e | e
          · rw [e]; omega
          · have := hB q e; omega
        exact gen ps
      obtain ⟨B, hB⟩ := hB
      have shape : ∀ k ∈ ks, ∃ p ∈ ps, k.2 = [p.1, p.2] := fun k hk => by
        have : k.2 ∈ ks.map (·.2) := List.mem_map.mpr ⟨k, hk, rfl⟩
        rw [e2] at this
        obtain ⟨p, hp, e⟩ := List.mem_map.mp this
        exact ⟨p, hp, e.symm⟩
      have sm1 : Same H (upd H a1 (SetTO P0 w0 a1 L)) := fun c o z => by rw [upd_ne (ne_of_none z n1)]; exact z
      refine ⟨a1, L, 2, B, rfl, upd_same, fun p hp => Same.sqt sm1 (Same.sqt wo_same (e3 p (h1 p hp))), by omega, fun k hk => ?_, fun L' p pm nd lt pw np => ?_⟩
      · obtain ⟨p, hp, e⟩ := shape k (h1 k hk)
        have b1 := hB p hp
        have b2 := hnn p hp
        simp at b2
        rw [e]
        refine ⟨rfl, fun m hm => ?_⟩
        simp at hm
        rcases hm with rfl | rfl <;> omega
      · -- the pairs of L'
        have sh' : ∀ k ∈ L', ∃ p ∈ ps, k.2 = [p.1, p.2] := fun k hk => shape k (h1 k (pm.mem_iff.mp hk))
        have ex : ∃ qs : List (Int × Int), L'.map (·.2) = qs.map (fun p => [p.1, p.2]) ∧ ∀ q ∈ qs, q ∈ ps := by
          clear pw nd lt pm np
          induction L' with
          | nil => exact ⟨[], rfl, by simp⟩
          | cons k L' ih =>
            obtain ⟨qs, g1, g2⟩ := ih fun k hk => sh' k (List.mem_cons_of_mem _ hk)
            obtain ⟨p, hp, e⟩ := sh' k List.mem_cons_self
            exact ⟨p :: qs, by simp [g1, e], fun q hq => by
              rcases List.mem_cons.mp hq with z | z
              · rw [z]; exact hp
              · exact g2 q z⟩
        obtain ⟨qs, g1, g2⟩ := ex
        have pinj : ∀ {p q : Int × Int}, [p.1, p.2] = [q.1, q.2] → p = q := fun h => by
          simp at h; exact Prod.ext h.1 h.2
        have eqs : qs = srtP ps := by
          refine srtP_eq ?_ (fun p => ⟨g2 p, fun hp => ?_⟩) ?_
          · rw [g1] at nd
            exact List.Pairwise.of_map (S := fun a b => a ≠ b) (fun p => [p.1, p.2]) (fun p q hne e => hne (by rw [e])) nd
          · have m1 : [p.1, p.2] ∈ ks.map (·.2) := by rw [e2]; exact List.mem_map.mpr ⟨p, hp, rfl⟩
            obtain ⟨k, hk, ek⟩ := List.mem_map.mp m1
            have m2 := h2 k hk
            have m3 : k.2 ∈ L'.map (·.2) := (pm.map (·.2)).mem_iff.mpr m2
            rw [g1, ek] at m3
            obtain ⟨q, hq, e⟩ := List.mem_map.mp m3
            rw [← pinj e]; exact hq
          · have pw2 : (L'.map (·.2)).Pairwise fun a b => TS.code B a ≤ TS.code B b := List.pairwise_map.mpr pw
            rw [g1] at pw2
            refine (List.pairwise_map.mp pw2).imp_of_mem fun {p q} hp hq hle => ?_
            have b1 := hB p (g2 p hp)
            have b2 := hB q (g2 q hq)
            have c1 := hnn p (g2 p hp)
            have c2 := hnn q (g2 q hq)
            simp at c1 c2
            have e1 : TS.code B [p.1, p.2] = p.1 * B + p.2 := by
              show p.1 * B ^ 1 + (p.2 * B ^ 0 + 0) = _
              rw [Int.pow_one, Int.pow_zero]; omega
            have e2 : TS.code B [q.1, q.2] = q.1 * B + q.2 := by
              show q.1 * B ^ 1 + (q.2 * B ^ 0 + 0) = _
              rw [Int.pow_one, Int.pow_zero]; omega
            rw [e1, e2] at hle
            unfold lexL
            rcases Int.lt_trichotomy p.1 q.1 with c | c | c
            · simp [c]
            · rw [c] at hle
              simp [c]
              omega
            · exfalso
              have : (q.1 + 1) * B ≤ p.1 * B := Int.mul_le_mul_of_nonneg_right (by omega) (by omega)
              rw [Int.add_mul] at this
              omega
        have dd : DpAll K (wo (upd H a1 (SetTO P0 w0 a1 L)) P) (L'.map fun q => V.ref q.1) ((srtP ps).map prD) := by
          have smP : Same (wo H P) (wo (upd H a1 (SetTO P0 w0 a1 L)) P) := Same.wo2 sm1 fun a z => .inl z
          rw [← eqs]
          have hL : ∀ k ∈ L', SqT K (wo H P) k.1 (k.2.map V.int) := fun k hk => e3 k (h1 k (pm.mem_iff.mp hk))
          clear eqs g2 pw nd lt pm np sh'
          induction L' generalizing qs with
          | nil =>
            have : qs = [] := by simpa using g1.symm
            rw [this]; exact .nil
          | cons k L' ih =>
            cases qs with
            | nil => simp at g1
            | cons p qs =>
              rw [List.map_cons, List.map_cons] at g1
              have g := List.cons.inj g1
              rw [List.map_cons, List.map_cons]
              refine .cons ?_ (ih qs g.2 fun k hk => hL k (List.mem_cons_of_mem _ hk))
              have := hL k List.mem_cons_self
              rw [g.1] at this
              exact .tup (Same.sqt smP this) (.cons (.int _) (.cons (.int _) .nil))
        refine hq _ _ [p] ((New.lst (H := upd H a1 (SetTO P0 w0 a1 L)) np dd).pre (fun c o z => sm1 c o z) fun c z => ?_)
        by_cases e : c = a1
        · rw [e]; exact n1
        · rw [upd_ne e] at z; exact z
    · cases h
  · cases h
theorem se_setT {X : Cx} {e : Expr} {p p2 pos pos2 : Pos} {f} (hc : X.calm = true) (hu : X.A.units + 64 < cLine) (hg : Gl X "sorted") (hm : X.mg "sorted" = none) (hg2 : Gl X "set") (hm2 : X.mg "set" = none) (he : SO X e f)
    (h1 : starEach [e] X.env = (false, eval e X.env) :: starEach [] X.env := by rfl) (h2 : (backTo pos2 (starEach [] X.env)).any (·.1) = false := by rfl)
    (h3 : starEach [.Call (.Name "set" p2) [e] [] pos2] X.env = (false, eval (.Call (.Name "set" p2) [e] [] pos2) X.env) :: starEach [] X.env := by rfl) (h4 : (backTo pos (starEach [] X.env)).any (·.1) = false := by rfl) :
    SE X (.Call (.Name "sorted" p) [.Call (.Name "set" p2) [e] [] pos2] [] pos) (eOp1 opSetT f) := by
  obtain ⟨t, pt, hs⟩ := se_tUn he (ok_setT (K := X.K) (P0 := X.prog) (w0 := X.w))
  have q1 := pe_callTy (p := p2) (cr_setOfT hc hu) hg2 hm2 PyProof.Rows.boot_set (pa_cons pt pa_nil h1) (by decide +kernel) (by decide +kernel) h1 h2
  have q2 := pe_callB (p := p) (cr_sortedT hc) hg hm PyProof.Rows.boot_sorted (pa_cons q1 pa_nil h3) (by decide +kernel) (by decide +kernel) h3 h4
  exact ⟨_, q2, hs⟩
end DL
namespace DL
open PySem PySem.Spec PyProof.Rows L2
open Classical (propDecidable)
/-! ### a call that only looks at the lists it is given, and answers with a bool: they stay owned -/
def resK (ps : List Pend) (ρ : Ev) : Option (List Sv) := (resL ps ρ).map fun xs => xs.map frz
noncomputable def eCallK (F : Fn) (fa : Ev → Option (List Pend × Ev)) : Ev → Option (Sv × Ev) := fun ρ =>
  (fa ρ).bind fun p => if F.io = [] then (resK p.1 p.2).bind fun xs => (F.run xs).bind fun q => match q.1 with
    | .dat (.bool b) => some (.dat (.bool b), p.2)
    | _ => none else none
/-- what the callee may not touch -/
def keepA (A : AS) (ps : List Pend) : AS := ⟨fun _ => [], fun a => A.Z a ∨ ∃ m, a ∈ A.f m ∧ lidx ps m = none⟩
theorem keepA_owB {A : AS} {ps : List Pend} {a : Addr} : OwB [] (keepA A ps) a ↔ (A.Z a ∨ ∃ m, a ∈ A.f m ∧ lidx ps m = none) := by
  refine ⟨fun z => ?_, .inl⟩
  rcases z with z | z | ⟨i, z⟩
  · exact z
  · cases z
  · cases z
theorem keepA_le {A : AS} {ps : List Pend} : ∀ a, OwB [] (keepA A ps) a → OwB [] A a := fun a z => by
  rcases keepA_owB.mp z with z | ⟨m, z, _⟩
  · exact .inl z
  · exact .inr (.inr ⟨m, z⟩)
theorem keep_ok {K : PySem.W.Frag} {H : Hp} {A : AS} {σ : L2.St} {ρ : Ev} {ps : List Pend} {vs : List V} {xs : List Sv} (S : Stt K H [] σ ρ A) (c : PendsOk K H A σ vs ps) (e : resL ps ρ = some xs) :
    Stt K H [] (vs.map some) ((xs.map frz).map some) (keepA A ps) := by
  obtain ⟨hl, hg⟩ := resL_get e
  have hv := c.length
  have sm : Same (wo H (OwB [] A)) (wo H (OwB [] (keepA A ps))) := wo_less keepA_le
  refine ⟨by simp [hl, hv], fun i s g => ?_, fun i h => rfl, fun i i' a h1 h2 => (nomatch h1), fun a z => ⟨fun ⟨i, h⟩ => (nomatch h), fun z => (nomatch z)⟩, fun a z => ?_, fun a z => (nomatch z)⟩
  · unfold Got at g
    rw [List.getElem?_map, List.getElem?_map] at g
    obtain ⟨s', e1, e2⟩ := Option.map_eq_some_iff.mp g
    obtain ⟨s1, e9, e0⟩ := Option.map_eq_some_iff.mp e1
    cases e2
    subst e0
    clear e1
    have e1 := e9
    clear e9 g
    have hi : i < ps.length := by rw [← hl]; exact (List.getElem?_eq_some_iff.mp e1).1
    obtain ⟨x, e3, e4⟩ := hg i _ (List.getElem?_eq_getElem hi)
    rw [e1] at e3; cases e3
    obtain ⟨v, e5, pk⟩ := c.get (List.getElem?_eq_getElem hi)
    refine ⟨v, by rw [List.getElem?_map, e5]; rfl, ?_⟩
    show RSv K _ H v (frz s1) []
    have ep : ps[i]? = some ps[i] := List.getElem?_eq_getElem hi
    generalize ps[i] = p at *
    cases p with
    | now s' =>
      cases e4
      exact RSv.frz pk sm fun a ha => nomatch ha
    | late j =>
      obtain ⟨v', e6, r⟩ := S.got j s1 (got_of_join e4)
      have pk : σ[j]? = some (some v) := pk
      rw [e6] at pk; cases pk
      refine RSv.frz r sm fun a ha u hu => wo_of (fun z => ?_) hu
      rcases keepA_owB.mp z with z | ⟨m, z, n⟩
      · exact (S.zd a z).1 ⟨j, ha⟩
      · have := S.dj j m a ha z
        subst this
        exact lidx_none n i ep
  · rcases z with z | ⟨m, z, n⟩
    · exact S.zl a z
    · exact S.live a ⟨m, z⟩
theorem keep_back {K : PySem.W.Frag} {H : Hp} {A : AS} {σ : L2.St} {ρ : Ev} {ps : List Pend} {vs : List V} (S : Stt K H [] σ ρ A)
    {b : Bool} {v : V} {H' : Hp} {A' : AS} {B : List Addr} {outs : Ev} (p : PostE K H (keepA A ps) (vs.map some) outs (.dat (.bool b)) v H' A' B) : PostE K H A σ ρ (.dat (.bool b)) v H' A [] := by
  have k : ∀ a, A.Z a ∨ Ow A a → ∀ u, H a = some u → H' a = some u := fun a z u e => by
    by_cases q : A.Z a ∨ ∃ m, a ∈ A.f m ∧ lidx ps m = none
    · exact p.gr.k a q u e
    · exact (of_wo (p.gr.s a u (wo_of (fun z => q (keepA_owB.mp z)) e))).2
  have sm : Same (wo H (OwB [] A)) (wo H' (OwB [] A)) := fun a o z => by
    obtain ⟨n, h1⟩ := of_wo z
    refine wo_of n ?_
    exact (of_wo (p.gr.s a o (wo_of (fun z => n (keepA_le a z)) h1))).2
  refine ⟨S.mono sm k (fun a z => nomatch z), ?_, sm, rfl, fun a z u e => k a (.inl z) u e⟩
  have rs := p.rs
  cases rs with
  | dat h => cases h; exact .dat (.bl b)
section
variable {X : Cx} {e : Expr} {es : List Expr} {x : Str} {p pos : Pos}
theorem call_runK {F : Fn} {t : TA} {fa : Ev → Option (List Pend × Ev)} {E : XK}
    (sa : ∀ (σ : L2.St) (ρ : Ev) (A : AS) (H : Hp) (Q : List V → Hp → Prop) (ps : List Pend) (ρ' : Ev), Stt X.K H [] σ ρ A → fa ρ = some (ps, ρ') → (∀ vs H' A', Stt X.K H' [] σ ρ' A' → Gr H A H' [] A' → PendsOk X.K H' A' σ vs ps → Q vs H') → t σ H Q)
    (hn : ∀ args r, F.run args = some r → args.length = F.np) : SEt X.K (tCall (spF X.K F) [] E t) (eCallK F fa) := by
  intro σ ρ A H Q s ρ' S hf hq
  unfold eCallK at hf
  obtain ⟨⟨ps, ρ1⟩, e1, hf⟩ := Option.bind_eq_some_iff.mp hf
  dsimp only at hf
  split at hf
  · rename_i ok
    obtain ⟨xs, e2, hf⟩ := Option.bind_eq_some_iff.mp hf
    obtain ⟨⟨s0, outs⟩, e3, e4⟩ := Option.bind_eq_some_iff.mp hf
    dsimp only at e4
    split at e4
    · rename_i b
      cases e4
      unfold resK at e2
      obtain ⟨ys, e6, e5⟩ := Option.map_eq_some_iff.mp e2
      subst e5
      refine sa σ ρ A H _ ps _ S e1 fun vs H1 A1 S1 g1 c => ?_
      rw [List.append_nil]
      have S2 := keep_ok S1 c e6
      refine ⟨?_, ys.map frz, keepA A1 ps, _, outs, e3, S2, fun v H' A' B q => ?_⟩
      · have h1 := hn _ _ e3
        have h2 := S2.len
        simp at h1 h2
        omega
      · exact hq v H' A1 [] ((keep_back S1 q).trans g1)
    · cases e4
  · cases hf
theorem se_callK {F : Fn} {k : Nat} {f : Addr} {fd : FuncData} {ps : List Str} {fa} (G : FnOk X.prog X.w X.K X.mg X.base CX0 k f fd ps (spF X.K F)) (hn : ∀ args r, F.run args = some r → args.length = F.np) (hr : Room k X.A) (hg : Gl X x) (hm : X.mg x = some (.ref f)) (hk : PySem.W.keepIn X.K (.ref f) = true) (hb : Binds X.K fd ps [])
    (ha : SAs X (e :: es) fa) (hdb : (x == ("__debug__" : Str)) = false := by decide +kernel) (he : starEach (e :: es) X.env = (false, eval e X.env) :: starEach es X.env := by rfl) (hpl : (backTo pos (starEach es X.env)).any (·.1) = false := by rfl) :
    SE X (.Call (.Name x p) (e :: es) [] pos) (eCallK F fa) := by
  obtain ⟨t, pa, sa⟩ := ha
  exact ⟨_, pe_call G hr hg hm hk hb .nil pass0 pa hdb he hpl, call_runK sa hn⟩
end
section
variable {as : Ev → Option (List Pend × Ev)} {ρ : Ev}
theorem w_eCallK0 {F : Fn} {Q} : Wp (eCallK F as ρ) Q ↔ Wp (as ρ) fun p => F.io = [] ∧ wO (resK p.1 p.2) fun xs => Wp (F.run xs) fun q => wB q.1 fun b => Q (.dat (.bool b), p.2) := by
  unfold eCallK
  constructor
  · rintro ⟨r, e, q⟩
    obtain ⟨p, e1, e⟩ := Option.bind_eq_some_iff.mp e
    split at e
    · rename_i io
      obtain ⟨xs, e2, e⟩ := Option.bind_eq_some_iff.mp e
      obtain ⟨z, e3, e⟩ := Option.bind_eq_some_iff.mp e
      split at e
      · rename_i b e4
        cases e
        exact ⟨p, e1, io, ⟨xs, e2, ⟨z, e3, ⟨b, e4, q⟩⟩⟩⟩
      · cases e
    · cases e
  · rintro ⟨p, e1, io, ⟨xs, e2, ⟨z, e3, ⟨b, e4, q⟩⟩⟩⟩
    refine ⟨_, ?_, q⟩
    rw [e1, Option.bind_some, if_pos io, e2, Option.bind_some, e3, Option.bind_some, e4]
@[simp ↓] theorem w_eCallK {F : Fn} {Q} : Wp (eCallK F as ρ) Q = Wp (as ρ) fun p => F.io = [] ∧ wO (resK p.1 p.2) fun xs => Wp (F.run xs) fun q => wB q.1 fun b => Q (.dat (.bool b), p.2) := propext w_eCallK0
@[simp] theorem resK_s {ps : List Pend} : resK ps ρ = (resL ps ρ).map fun xs => xs.map frz := rfl
end
end DL
namespace DL
open PySem PySem.Spec PyProof.Rows L2
open Classical (propDecidable)
/-! ### constants of the module -/
structure CstOk (K : PySem.W.Frag) (mg : Str → Option Value) (x : Str) (d : D) : Prop where
  ex : ∃ (v : V) (u : Value), mg x = some u ∧ RelV v u ∧ ∀ H, Dp K H v d
structure Ty (tbl : List (Str × Stmt × List Str)) (blts : List Str) (ctbl : List (Str × D)) (P : Program) (w : World) (K : PySem.W.Frag) (mg : Str → Option Value) (base : Heap) (adr : Nat → Addr) (fdd : Nat → FuncData) : Prop extends Tx tbl blts P w K mg base adr fdd where
  cs : ∀ e ∈ ctbl, CstOk K mg e.1 e.2
theorem se_cst {X : Cx} {x : Str} {pos : Pos} {d : D} (h : CstOk X.K X.mg x d) (hg : Gl X x) (hd : (x == ("__debug__" : Str)) = false := by decide +kernel) : SE X (.Name x pos) (eC d) := by
  obtain ⟨v, u, e, r, q⟩ := h.ex
  exact ⟨_, pe_glob hg e r hd, fun σ ρ A H Q s ρ' S he hq => by
    cases he
    exact hq v H A [] ⟨S, .dat (q _), .refl⟩⟩
/-- a value of the top that is no object -/
inductive CV : Value → D → Prop
  | int {i t} : CV (.int i t) (.int i)
  | str {x t} : CV (.str x t) (.str x)
  | bool {b} : CV (.bool b) (.bool b)
  | none : CV .none .none
inductive CVs : List Value → List D → Prop
  | nil : CVs [] []
  | cons {u d us ds} (h : CV u d) (t : CVs us ds) : CVs (u :: us) (d :: ds)
theorem CV.v {u : Value} {d : D} (h : CV u d) : ∃ v : V, RelV v u ∧ ∀ K H, Dp K H v d := by
  cases h with
  | int => exact ⟨.int _, ⟨_, rfl⟩, fun _ _ => .int _⟩
  | str => exact ⟨.str _, ⟨_, rfl⟩, fun _ _ => .str _⟩
  | bool => exact ⟨.bl _, rfl, fun _ _ => .bl _⟩
  | none => exact ⟨.non, rfl, fun _ _ => .non⟩
theorem CVs.v {us : List Value} {ds : List D} (h : CVs us ds) : ∃ vs : List V, Vals vs us ∧ ∀ K H, DpAll K H vs ds := by
  induction h with
  | nil => exact ⟨[], .nil, fun _ _ => .nil⟩
  | cons h _ ih =>
    obtain ⟨v, r, q⟩ := h.v
    obtain ⟨vs, rs, qs⟩ := ih
    exact ⟨v :: vs, .cons r rs, fun K H => .cons (q K H) (qs K H)⟩
theorem cst_tup {K : PySem.W.Frag} {mg : Str → Option Value} {x : Str} {a : Addr} {od : Option Addr} {its : Array Value} {n sl} {ds : List D} (e : mg x = some (.ref a)) (l : K.lookup a = some ⟨.type "tuple", od, .seq its n, sl⟩) (h : CVs its.toList ds) (hs : its.size ≤ sizeLine := by decide +kernel) : CstOk K mg x (.tuple ds) := by
  obtain ⟨vs, r, q⟩ := h.v
  exact ⟨.ref a, _, e, rfl, fun H => .tup (.inr ⟨_, its, n, l, rfl, rfl, hs, r⟩) (q K H)⟩
theorem cst_one {K : PySem.W.Frag} {mg : Str → Option Value} {x : Str} {u : Value} {d : D} (e : mg x = some u) (h : CV u d) : CstOk K mg x d := by
  obtain ⟨v, r, q⟩ := h.v
  exact ⟨v, u, e, r, fun H => q K H⟩
end DL
namespace DL
open PySem PySem.Spec PyProof.Rows L2
open Classical (propDecidable)
/-! ### xs.insert(i, x) -/
@[simp] def opInsert (xs : List D) : List Sv → Option (Sv × List D)
  | [x, .dat d] => match datC x with
    | some (.int i) => if xs.length < 1000000 ∧ 0 ≤ i ∧ i < 2 ^ 63 then some (.dat .none, xs.take i.toNat ++ [d] ++ xs.drop i.toNat) else none
    | _ => none
  | _ => none
theorem mut_insert {K : PySem.W.Frag} : MutOk K (fun x vs H Q => ∃ (l : Addr) (xs : List V) (i : Int) (y : V), x = .ref l ∧ vs = [.int i, y] ∧ H l = some (.lst xs) ∧ xs.length < sizeLine ∧ 0 ≤ i ∧ i < 2 ^ 63 ∧ Q .non (upd H l (.lst (xs.take i.toNat ++ [y] ++ xs.drop i.toNat)))) opInsert := by
  intro H P a vs us xs ys args s Q h1 h2 h3 h4 hq
  unfold opInsert at h4
  split at h4
  · rename_i x d
    obtain ⟨v, w, B, B', rfl, r, r'⟩ := h3.two
    split at h4
    · rename_i i q
      split at h4
      · rename_i hb
        cases h4
        have := datC_int r q
        subst this
        cases r' with
        | dat hd => exact ⟨a, vs, i, w, rfl, rfl, h1, by rw [DpAll.length h2]; exact line_lt hb.1, hb.2.1, hb.2.2, hq .non _ .none rfl .non (DpAll.append (DpAll.append (DpAll.take _ h2) (.cons hd .nil)) (DpAll.drop _ h2))⟩
      · cases h4
    · cases h4
  · cases h4
end DL
namespace DL
open PySem PySem.Spec PyProof.Rows L2
theorem ss_nevers {io : List Nat} {X : Cx} {st : List Stmt} : SSs io X st sNo := ⟨_, pss_never, fun σ ρ A H D o S hf hq => by cases hf⟩
end DL
namespace Lw
open PySem PySem.Spec PyProof.Rows L2 DL
noncomputable def B_l_draws_1 : Ev → Option Out := sSeq (sSet 6 (eOp2 opMod (oVar 5) (oNow (eOpN (on1 opLenS) (aCons (oVar 2) (aNil))))))
    (sIf (tB (eOp2 opGe (oNow (eOp2 opIx (oVar 2) (oVar 6))) (oNow (eOp2 opPow (oNow (eC (.int 10))) (oNow (eC (.int 18))))))) (sSeq (sExpr (eMut 4 opAppend (aCons (oNow (eOp2 opMod (oNow (eOpN (on1 opInt) (aCons (oNow (eOp2 opIx (oVar 3) (oVar 6))) (aNil)))) (oNow (eC (.int 1000))))) (aNil))))
    (sAsg (eOp2 opDivS (oNow (eOp2 opIx (oVar 3) (oVar 6))) (oNow (eC (.int 1000)))) (gIx 3 (oVar 6)))) (sSeq (sSet 8 (eOp2 opMod (oNow (eOpN (on1 opInt) (aCons (oNow (eOp2 opAdd (oNow (eOp2 opAdd (oNow (eOp2 opMul (oNow (eOp2 opIx (oVar 2) (oVar 6))) (oNow (eC (.int 48271))))) (oNow (eOp2 opMul (oVar 5) (oNow (eC (.int 69621))))))) (oNow (eC (.int 11))))) (aNil)))) (oNow (eC (.int 2147483647)))))
    (sExpr (eMut 4 opAppend (aCons (oNow (eOp2 opMod (oNow (eOpN (on1 opInt) (aCons (oNow (eOp2 opAdd (oNow (eOp2 opAdd (oNow (eOp2 opMul (oVar 8) (oVar 8))) (oNow (eOp2 opMul (oNow (eC (.int 3))) (oVar 8))))) (oVar 5))) (aNil)))) (oNow (eC (.int 1000003))))) (aNil))))))
noncomputable def F_l_draws : Fn := mkFn 2 9 [] (sSeq (sSet 2 (eLc (iSeq (eVar 0)) (gN 7) (tY) (eOpN (on1 opInt) (aCons (oVar 7) (aNil))) [7]))
    (sSeq (sIf (tB (eOp2 opEq (oNow (eOpN (on1 opLenS) (aCons (oVar 2) (aNil)))) (oNow (eC (.int 0))))) (sExpr (eMut 2 opAppend (aCons (oNow (eC (.int 0))) (aNil)))) (sNil))
    (sSeq (sSet 3 (eOpN (on1 opList) (aCons (oVar 2) (aNil))))
    (sSeq (sSet 4 (eLst (aNil)))
    (sSeq (sFor (iR1 (aCons (oVar 1) (aNil))) (gN 5) (B_l_draws_1))
    (sSeq (sExpr (eMut 4 opReverse aNil))
    (sRet (eMov 4))))))))
@[simp] theorem io_l_draws : F_l_draws.io = [] := rfl
noncomputable def F_l_take : Fn := mkFn 2 2 [0] (sSeq (sIf (tB (eOp2 opEq (oNow (eOpN (on1 opLenS) (aCons (oVar 0) (aNil)))) (oNow (eC (.int 0))))) (sRet (eC (.int 0))) (sNil))
    (sRet (eOp2 opMod (oNow (eOpN (on1 opInt) (aCons (oNow (eMut 0 opPop aNil)) (aNil)))) (oVar 1))))
@[simp] theorem io_l_take : F_l_take.io = [0] := rfl
noncomputable def F_l_cell : Fn := mkFn 2 2 [1] (sSeq (sIf (tB (eOp2 opEq (oNow (eOpN (on1 opLenS) (aCons (oVar 0) (aNil)))) (oNow (eC (.int 0))))) (sRet (eC (.int 0))) (sNil))
    (sRet (eOpN (on1 opInt) (aCons (oNow (eOp2 opIx (oVar 0) (oNow (eCall F_l_take (aCons (oVar 1) (aCons (oNow (eOpN (on1 opLenS) (aCons (oVar 0) (aNil)))) (aNil))))))) (aNil)))))
@[simp] theorem io_l_cell : F_l_cell.io = [1] := rfl
noncomputable def B_l_word_1 : Ev → Option Out := sSeq (sIf (tB (eOp2 opLt (oVar 0) (oNow (eC (.int 1))))) (sBrk) (sNil))
    (sSeq (sSet 1 (eOp2 opAdd (oNow (eOp2 opIx (oNow (eC (.str "abcdefghijklmnopqrstuvwxyz"))) (oNow (eOp2 opMod (oNow (eOpN (on1 opInt) (aCons (oNow (eOp2 opSub (oVar 0) (oNow (eC (.int 1))))) (aNil)))) (oNow (eC (.int 26))))))) (oVar 1)))
    (sSet 0 (eOp2 opDivS (oNow (eOp2 opSub (oVar 0) (oNow (eC (.int 1))))) (oNow (eC (.int 26))))))
noncomputable def F_l_word : Fn := mkFn 1 3 [] (sSeq (sSet 1 (eC (.str "")))
    (sSeq (sFor (iR1 (aCons (oNow (eC (.int 60))) (aNil))) (gN 2) (B_l_word_1))
    (sRet (eMov 1))))
@[simp] theorem io_l_word : F_l_word.io = [] := rfl
noncomputable def F_l_some_word : Fn := mkFn 1 3 [0] (sSeq (sSet 1 (eCall F_l_take (aCons (oVar 0) (aCons (oNow (eC (.int 1000))) (aNil)))))
    (sSeq (sIf (tB (eOp2 opLt (oVar 1) (oNow (eC (.int 600))))) (sRet (eCall F_l_word (aCons (oNow (eOp2 opAdd (oNow (eOp2 opAdd (oNow (eC (.int 1))) (oNow (eOp2 opMod (oVar 1) (oNow (eC (.int 6))))))) (oNow (eOp2 opMul (oNow (eC (.int 26))) (oNow (eOp2 opMod (oNow (eOp2 opDivS (oVar 1) (oNow (eC (.int 6))))) (oNow (eC (.int 2))))))))) (aNil)))) (sNil))
    (sSeq (sIf (tB (eOp2 opLt (oVar 1) (oNow (eC (.int 850))))) (sRet (eCall F_l_word (aCons (oNow (eOp2 opAdd (oNow (eC (.int 1))) (oNow (eCall F_l_take (aCons (oVar 0) (aCons (oNow (eC (.int 1000))) (aNil))))))) (aNil)))) (sNil))
    (sSeq (sIf (tB (eOp2 opLt (oVar 1) (oNow (eC (.int 875))))) (sRet (eOp2 opAdd (oNow (eC (.str "abcdefghijkl"))) (oNow (eCall F_l_word (aCons (oNow (eOp2 opAdd (oNow (eC (.int 1))) (oNow (eCall F_l_take (aCons (oVar 0) (aCons (oNow (eC (.int 3))) (aNil))))))) (aNil)))))) (sNil))
    (sSeq (sSet 2 (eOp2 opAdd (oNow (eOp2 opMul (oNow (eC (.int 1000000))) (oNow (eCall F_l_take (aCons (oVar 0) (aCons (oNow (eC (.int 1000))) (aNil))))))) (oNow (eOp2 opMul (oNow (eC (.int 1000))) (oNow (eCall F_l_take (aCons (oVar 0) (aCons (oNow (eC (.int 1000))) (aNil)))))))))
    (sSeq (sIf (tB (eOp2 opGe (oVar 1) (oNow (eC (.int 950))))) (sSet 2 (eOp2 opMul (oVar 2) (oNow (eOp2 opPow (oNow (eC (.int 10))) (oNow (eC (.int 15))))))) (sNil))
    (sRet (eCall F_l_word (aCons (oNow (eOp2 opAdd (oNow (eOp2 opAdd (oNow (eC (.int 1))) (oVar 2))) (oNow (eCall F_l_take (aCons (oVar 0) (aCons (oNow (eC (.int 1000))) (aNil))))))) (aNil))))))))))
@[simp] theorem io_l_some_word : F_l_some_word.io = [0] := rfl
noncomputable def B_l_plan_1 : Ev → Option Out := sSeq (sSet 6 (eOp2 opIx (oNow (eLst (aCons (oNow (eOp2 opSub (oNow (eCall F_l_take (aCons (oVar 0) (aCons (oNow (eC (.int 7))) (aNil))))) (oNow (eC (.int 3))))) (aCons (oNow (eVar 1)) (aNil))))) (oNow (eOp2 opDivS (oNow (eCall F_l_take (aCons (oVar 0) (aCons (oNow (eC (.int 9))) (aNil))))) (oNow (eC (.int 8)))))))
    (sSeq (sSet 7 (eOp2 opIx (oNow (eLst (aCons (oNow (eC (.int 0))) (aCons (oNow (eC (.int 1))) (aCons (oNow (eC (.int 1))) (aCons (oNow (eC (.int 2))) (aCons (oNow (eC (.int 5))) (aCons (oNow (eC (.int 40))) (aCons (oNow (eOp2 opPow (oNow (eC (.int 10))) (oNow (eC (.int 20))))) (aCons (oNow (eOpN (on1 opAbs) (aCons (oVar 1) (aNil)))) (aNil))))))))))) (oNow (eCall F_l_take (aCons (oVar 0) (aCons (oNow (eC (.int 8))) (aNil)))))))
    (sExpr (eMut 3 opAppend (aCons (oNow (eTup (aCons (oNow (eVar 4)) (aCons (oNow (eVar 6)) (aCons (oNow (eOp2 opAdd (oVar 6) (oVar 7))) (aCons (oNow (eOp2 opIx (oNow (eLst (aCons (oNow (eC (.int 0))) (aCons (oNow (eC (.int 0))) (aCons (oNow (eC (.int 1))) (aCons (oNow (eC (.int 2))) (aCons (oNow (eC (.int 7))) (aCons (oNow (eC (.int 60))) (aNil))))))))) (oNow (eCall F_l_take (aCons (oVar 0) (aCons (oNow (eC (.int 6))) (aNil))))))) (aNil))))))) (aNil)))))
noncomputable def F_l_plan : Fn := mkFn 2 9 [0] (sSeq (sSet 2 (eOp2 opAdd (oNow (eC (.int 1))) (oNow (eCall F_l_take (aCons (oVar 0) (aCons (oNow (eC (.int 3))) (aNil)))))))
    (sSeq (sIf (tB (eOp2 opEq (oNow (eCall F_l_take (aCons (oVar 0) (aCons (oNow (eC (.int 8))) (aNil))))) (oNow (eC (.int 0))))) (sSet 2 (eOp2 opAdd (oVar 2) (oNow (eC (.int 3))))) (sNil))
    (sSeq (sSet 3 (eLst (aNil)))
    (sSeq (sFor (iSeq (eOp1 opSetS (oNow (eLc (iR1 (aCons (oVar 2) (aNil))) (gN 8) (tY) (eCall F_l_some_word (aCons (oVar 0) (aNil))) [8])))) (gN 4) (B_l_plan_1))
    (sSeq (sSet 5 (eOp2 opIx (oNow (eLst (aCons (oNow (eC (.int 1))) (aCons (oNow (eC (.int 2))) (aCons (oNow (eC (.int 5))) (aCons (oNow (eC (.int 10))) (aCons (oNow (eC (.int 60))) (aCons (oNow (eOp2 opAdd (oNow (eC (.int 1))) (oNow (eOpN (on1 opAbs) (aCons (oVar 1) (aNil)))))) (aNil))))))))) (oNow (eCall F_l_take (aCons (oVar 0) (aCons (oNow (eC (.int 6))) (aNil)))))))
    (sRet (eTup (aCons (oNow (eVar 5)) (aCons (oNow (eOpN (on1 opTuple) (aCons (oVar 3) (aNil)))) (aNil))))))))))
@[simp] theorem io_l_plan : F_l_plan.io = [0] := rfl
noncomputable def F_p_meter_of : Fn := mkFn 2 3 [] (sRet (eOp2 opIx (oNow (eLc (iSeq (eOp2 opIx (oVar 0) (oNow (eC (.int 1))))) (gN 2) (tB (eOp2 opEq (oNow (eOp2 opIx (oVar 2) (oNow (eC (.int 0))))) (oVar 1))) (eVar 2) [2])) (oNow (eC (.int 0)))))
@[simp] theorem io_p_meter_of : F_p_meter_of.io = [] := rfl
noncomputable def F_p_window_of : Fn := mkFn 2 2 [] (sRet (eOp2 opDiv (oVar 1) (oNow (eOp2 opIx (oVar 0) (oNow (eC (.int 0)))))))
@[simp] theorem io_p_window_of : F_p_window_of.io = [] := rfl
noncomputable def F_l_reading : Fn := mkFn 2 3 [0] (sSeq (sSet 2 (eCall F_l_take (aCons (oVar 0) (aCons (oNow (eC (.int 1000))) (aNil)))))
    (sSeq (sIf (tB (eOp2 opEq (oNow (eOp2 opMod (oVar 2) (oNow (eC (.int 4))))) (oNow (eC (.int 0))))) (sRet (eOp2 opIx (oVar 1) (oNow (eC (.int 1))))) (sNil))
    (sSeq (sIf (tB (eOp2 opEq (oNow (eOp2 opMod (oVar 2) (oNow (eC (.int 4))))) (oNow (eC (.int 1))))) (sRet (eOp2 opIx (oVar 1) (oNow (eC (.int 2))))) (sNil))
    (sSeq (sIf (tB (eOp2 opEq (oNow (eOp2 opMod (oVar 2) (oNow (eC (.int 16))))) (oNow (eC (.int 2))))) (sRet (eOp2 opDivS (oNow (eOp2 opAdd (oNow (eOp2 opIx (oVar 1) (oNow (eC (.int 1))))) (oNow (eOp2 opIx (oVar 1) (oNow (eC (.int 2))))))) (oNow (eC (.int 2))))) (sNil))
    (sRet (eOp2 opAdd (oNow (eOp2 opIx (oVar 1) (oNow (eC (.int 1))))) (oNow (eOp2 opMod (oNow (eOp2 opDivS (oVar 2) (oNow (eC (.int 4))))) (oNow (eOp2 opAdd (oNow (eOp2 opSub (oNow (eOp2 opIx (oVar 1) (oNow (eC (.int 2))))) (oNow (eOp2 opIx (oVar 1) (oNow (eC (.int 1))))))) (oNow (eC (.int 1)))))))))))))
@[simp] theorem io_l_reading : F_l_reading.io = [0] := rfl
noncomputable def B_l_versions_1 : Ev → Option Out := sSeq (sSet 5 (eCall F_l_reading (aCons (oVar 0) (aCons (oNow (eVar 1)) (aNil)))))
    (sSeq (sIf (tB (eOp2 opEq (oNow (eCall F_l_take (aCons (oVar 0) (aCons (oNow (eC (.int 3))) (aNil))))) (oNow (eC (.int 0))))) (sSet 5 (eC .none)) (sNil))
    (sExpr (eMut 2 opAppend (aCons (oNow (eVar 5)) (aNil)))))
noncomputable def F_l_versions : Fn := mkFn 2 6 [0] (sSeq (sSet 2 (eLst (aCons (oNow (eCall F_l_reading (aCons (oVar 0) (aCons (oNow (eVar 1)) (aNil))))) (aNil))))
    (sSeq (sSet 3 (eOp2 opIx (oNow (eLst (aCons (oNow (eC (.int 0))) (aCons (oNow (eC (.int 0))) (aCons (oNow (eC (.int 0))) (aCons (oNow (eC (.int 1))) (aCons (oNow (eC (.int 2))) (aCons (oNow (eC (.int 5))) (aNil))))))))) (oNow (eCall F_l_take (aCons (oVar 0) (aCons (oNow (eC (.int 6))) (aNil)))))))
    (sSeq (sIf (tB (eOp2 opEq (oNow (eCall F_l_take (aCons (oVar 0) (aCons (oNow (eC (.int 20))) (aNil))))) (oNow (eC (.int 0))))) (sSet 3 (eC (.int 11))) (sNil))
    (sSeq (sFor (iR1 (aCons (oVar 3) (aNil))) (gN 4) (B_l_versions_1))
    (sRet (eOpN (on1 opTuple) (aCons (oVar 2) (aNil))))))))
@[simp] theorem io_l_versions : F_l_versions.io = [0] := rfl
noncomputable def B_l_slots_1 : Ev → Option Out := sSeq (sSet 4 (eOp2 opAdd (oVar 4) (oNow (eOp2 opIx (oNow (eLst (aCons (oNow (eC (.int 0))) (aCons (oNow (eC (.int 0))) (aCons (oNow (eC (.int 1))) (aCons (oNow (eC (.int 2))) (aCons (oNow (eC (.int 7))) (aNil)))))))) (oNow (eCall F_l_take (aCons (oVar 0) (aCons (oNow (eC (.int 5))) (aNil)))))))))
    (sExpr (eMut 5 opAppend (aCons (oNow (eTup (aCons (oNow (eVar 4)) (aCons (oNow (eCall F_l_versions (aCons (oVar 0) (aCons (oNow (eVar 1)) (aNil))))) (aNil))))) (aNil))))
noncomputable def B_l_slots_2 : Ev → Option Out := sExpr (eMut 5 opAppend (aCons (oNow (eTup (aCons (oNow (eOp2 opAdd (oVar 4) (oNow (eOp2 opMul (oVar 7) (oNow (eOp2 opDivS (oVar 6) (oNow (eC (.int 2))))))))) (aCons (oNow (eOp2 opIx (oNow (eLst (aCons (oNow (eTup (aCons (oNow (eOp2 opIx (oVar 1) (oNow (eC (.int 1))))) (aNil)))) (aCons (oNow (eTup (aCons (oNow (eOp2 opIx (oVar 1) (oNow (eC (.int 2))))) (aCons (oNow (eC .none)) (aNil))))) (aCons (oNow (eTup (aCons (oNow (eOp2 opIx (oVar 1) (oNow (eC (.int 2))))) (aNil)))) (aNil)))))) (oNow (eOp2 opMod (oVar 6) (oNow (eC (.int 3))))))) (aNil))))) (aNil)))
noncomputable def F_l_slots : Fn := mkFn 4 8 [0] (sSeq (sSet 4 (eOp2 opIx (oNow (eLst (aCons (oNow (eOp2 opSub (oNow (eCall F_l_take (aCons (oVar 0) (aCons (oNow (eC (.int 25))) (aNil))))) (oNow (eC (.int 12))))) (aCons (oNow (eVar 3)) (aNil))))) (oNow (eOp2 opDivS (oNow (eCall F_l_take (aCons (oVar 0) (aCons (oNow (eC (.int 9))) (aNil))))) (oNow (eC (.int 8)))))))
    (sSeq (sSet 5 (eLst (aNil)))
    (sSeq (sFor (iR1 (aCons (oNow (eCall F_l_take (aCons (oVar 0) (aCons (oNow (eOp2 opAdd (oVar 2) (oNow (eC (.int 1))))) (aNil))))) (aNil))) (gN 6) (B_l_slots_1))
    (sSeq (sIf (tB (eOp2 opEq (oNow (eCall F_l_take (aCons (oVar 0) (aCons (oNow (eC (.int 10))) (aNil))))) (oNow (eC (.int 0))))) (sSeq (sSet 7 (eCall F_l_take (aCons (oVar 0) (aCons (oNow (eC (.int 3))) (aNil)))))
    (sFor (iR1 (aCons (oNow (eC (.int 30))) (aNil))) (gN 6) (B_l_slots_2))) (sNil))
    (sRet (eOpN (on1 opTuple) (aCons (oVar 5) (aNil))))))))
@[simp] theorem io_l_slots : F_l_slots.io = [0] := rfl
noncomputable def B_l_history_1 : Ev → Option Out := sSeq (sSet 6 (eOp2 opSub (oNow (eCall F_l_take (aCons (oVar 0) (aCons (oNow (eOp2 opAdd (oNow (eOp2 opMul (oNow (eC (.int 2))) (oNow (eOp2 opIx (oVar 5) (oNow (eC (.int 3))))))) (oNow (eC (.int 1))))) (aNil))))) (oNow (eOp2 opIx (oVar 5) (oNow (eC (.int 3)))))))
    (sSeq (sIf (tB (eOp2 opEq (oNow (eCall F_l_take (aCons (oVar 0) (aCons (oNow (eC (.int 4))) (aNil))))) (oNow (eC (.int 0))))) (sSet 6 (eOp2 opIx (oNow (eLst (aCons (oNow (eOp2 opIx (oVar 5) (oNow (eC (.int 3))))) (aCons (oNow (eOp1 opNeg (oNow (eOp2 opIx (oVar 5) (oNow (eC (.int 3))))))) (aNil))))) (oNow (eCall F_l_take (aCons (oVar 0) (aCons (oNow (eC (.int 2))) (aNil))))))) (sNil))
    (sSeq (sSet 7 (eCall F_l_slots (aCons (oVar 0) (aCons (oNow (eVar 5)) (aCons (oNow (eVar 2)) (aCons (oNow (eVar 3)) (aNil)))))))
    (sSeq (sIf (tB (eOp2 opGt (oNow (eOpN (on1 opLenS) (aCons (oVar 4) (aNil)))) (oNow (eC (.int 1))))) (sSet 7 (eSl (oVar 7) (ptN) (ptS (eVar 2)))) (sNil))
    (sExpr (eMut 4 opAppend (aCons (oNow (eTup (aCons (oNow (eOp2 opIx (oVar 5) (oNow (eC (.int 0))))) (aCons (oNow (eVar 6)) (aCons (oNow (eVar 7)) (aNil)))))) (aNil)))))))
noncomputable def F_l_history : Fn := mkFn 4 8 [0] (sSeq (sSet 4 (eLst (aNil)))
    (sSeq (sFor (iSeq (eOp2 opIx (oVar 1) (oNow (eC (.int 1))))) (gN 5) (B_l_history_1))
    (sRet (eOpN (on1 opTuple) (aCons (oVar 4) (aNil))))))
@[simp] theorem io_l_history : F_l_history.io = [0] := rfl
noncomputable def B_p_reads_of_1 : Ev → Option Out := sExpr (eMut 1 opAppend (aCons (oNow (eTup (aCons (oNow (eC (.str "read"))) (aCons (oNow (eVar 2)) (aCons (oNow (eOp2 opAdd (oVar 5) (oNow (eC (.int 1))))) (aCons (oNow (eVar 7)) (aCons (oNow (eOp2 opIx (oVar 6) (oNow (eC (.int 0))))) (aCons (oNow (eVar 8)) (aNil))))))))) (aNil)))
noncomputable def B_p_reads_of_2 : Ev → Option Out := sFor (iEn (aCons (oNow (eOp2 opIx (oVar 6) (oNow (eC (.int 1))))) (aNil))) (gTp 2 (gsCons (gN 7) (gsCons (gN 8) (gsNil)))) (B_p_reads_of_1)
noncomputable def B_p_reads_of_3 : Ev → Option Out := sFor (iEn (aCons (oNow (eVar 4)) (aNil))) (gTp 2 (gsCons (gN 5) (gsCons (gN 6) (gsNil)))) (B_p_reads_of_2)
noncomputable def F_p_reads_of : Fn := mkFn 1 9 [] (sSeq (sSet 1 (eLst (aNil)))
    (sSeq (sFor (iSeq (eVar 0)) (gTp 3 (gsCons (gN 2) (gsCons (gN 3) (gsCons (gN 4) (gsNil))))) (B_p_reads_of_3))
    (sRet (eOpN (on1 opTuple) (aCons (oVar 1) (aNil))))))
@[simp] theorem io_p_reads_of : F_p_reads_of.io = [] := rfl
noncomputable def F_p_is_read : Fn := mkFn 2 7 [] (sSeq (sAsg (eSl (oVar 0) (ptS (eC (.int 2))) (ptN)) (gTp 4 (gsCons (gN 3) (gsCons (gN 4) (gsCons (gN 5) (gsCons (gN 6) (gsNil)))))))
    (sSeq (sIf (tB (eOp2 opGt (oVar 3) (oNow (eOpN (on1 opLenS) (aCons (oVar 1) (aNil)))))) (sRet (eC (.bool false))) (sNil))
    (sSeq (sSet 2 (eOp2 opIx (oVar 1) (oNow (eOp2 opSub (oVar 3) (oNow (eC (.int 1)))))))
    (sRet (eAn (eOp2 opEq (oNow (eOp2 opIx (oVar 2) (oNow (eC (.int 0))))) (oVar 5)) (eAn (eOp2 opLt (oVar 4) (oNow (eOpN (on1 opLenS) (aCons (oNow (eOp2 opIx (oVar 2) (oNow (eC (.int 1))))) (aNil))))) (eOp2 opEq (oNow (eOp2 opIx (oNow (eOp2 opIx (oVar 2) (oNow (eC (.int 1))))) (oVar 4))) (oVar 6))))))))
@[simp] theorem io_p_is_read : F_p_is_read.io = [] := rfl
noncomputable def B_p_is_closed_1 : Ev → Option Out := sIf (tB (eOp2 opNe (oNow (eOp2 opLt (oNow (eOp2 opIx (oVar 6) (oNow (eC (.int 0))))) (oVar 3))) (oNow (eOp2 opLt (oVar 5) (oVar 2))))) (sRet (eC (.bool false))) (sNil)
noncomputable def F_p_is_closed : Fn := mkFn 2 7 [] (sSeq (sAsg (eSl (oVar 0) (ptS (eC (.int 2))) (ptN)) (gTp 3 (gsCons (gN 2) (gsCons (gN 3) (gsCons (gN 4) (gsNil))))))
    (sSeq (sIf (tB (eOp2 opGt (oVar 2) (oNow (eOpN (on1 opLenS) (aCons (oVar 1) (aNil)))))) (sRet (eC (.bool false))) (sNil))
    (sSeq (sFor (iEn (aCons (oNow (eVar 1)) (aNil))) (gTp 2 (gsCons (gN 5) (gsCons (gN 6) (gsNil)))) (B_p_is_closed_1))
    (sRet (eOp2 opEq (oNow (eOpN (on1 opSumA) (aCons (oNow (eLc (iSeq (eSl (oVar 1) (ptN) (ptS (eVar 2)))) (gN 6) (tY) (eOpN (on1 opLenS) (aCons (oNow (eOp2 opIx (oVar 6) (oNow (eC (.int 1))))) (aNil))) [6])) (aNil)))) (oVar 4))))))
@[simp] theorem io_p_is_closed : F_p_is_closed.io = [] := rfl
noncomputable def F_p_is_true : Fn := mkFn 2 5 [] (sSeq (sAsg (eOp2 opIx (oNow (eLc (iSeq (eVar 1)) (gN 4) (tB (eOp2 opEq (oNow (eOp2 opIx (oVar 4) (oNow (eC (.int 0))))) (oNow (eOp2 opIx (oVar 0) (oNow (eC (.int 1))))))) (eSl (oVar 4) (ptS (eC (.int 1))) (ptN)) [4])) (oNow (eC (.int 0)))) (gTp 2 (gsCons (gN 2) (gsCons (gN 3) (gsNil)))))
    (sSeq (sIf (tB (eOp2 opEq (oNow (eOp2 opIx (oVar 0) (oNow (eC (.int 0))))) (oNow (eC (.str "read"))))) (sRet (eCall F_p_is_read (aCons (oNow (eVar 0)) (aCons (oNow (eVar 3)) (aNil))))) (sNil))
    (sSeq (sIf (tB (eOp2 opEq (oNow (eOp2 opIx (oVar 0) (oNow (eC (.int 0))))) (oNow (eC (.str "close"))))) (sRet (eCall F_p_is_closed (aCons (oNow (eVar 0)) (aCons (oNow (eVar 3)) (aNil))))) (sNil))
    (sRet (eChain opLe opLe (oNow (eOp2 opIx (oVar 0) (oNow (eC (.int 2))))) (oVar 2) (oNow (eOp2 opIx (oVar 0) (oNow (eC (.int 3))))))))))
@[simp] theorem io_p_is_true : F_p_is_true.io = [] := rfl
noncomputable def F_l_is_truth : Fn := mkFn 2 2 [] (sRet (eAn (eOp1 (opIs "bool") (oVar 0)) (eOp2 opEq (oVar 0) (oVar 1))))
@[simp] theorem io_l_is_truth : F_l_is_truth.io = [] := rfl
noncomputable def F_l_log : Fn := mkFn 2 3 [] (sRet (eOp2 opIx (oNow (eLc (iSeq (eVar 0)) (gN 2) (tB (eOp2 opEq (oNow (eOp2 opIx (oVar 2) (oNow (eC (.int 0))))) (oVar 1))) (eVar 2) [2])) (oNow (eC (.int 0)))))
@[simp] theorem io_l_log : F_l_log.io = [] := rfl
noncomputable def B_l_is_true_1 : Ev → Option Out := sIf (tB (eOp2 opNe (oNow (eOp2 opLt (oNow (eOp2 opIx (oNow (eOp2 opIx (oVar 3) (oVar 4))) (oNow (eC (.int 0))))) (oNow (eOp2 opIx (oVar 0) (oNow (eC (.int 3))))))) (oNow (eOp2 opLt (oVar 4) (oNow (eOp2 opIx (oVar 0) (oNow (eC (.int 2))))))))) (sRet (eC (.bool false))) (sNil)
noncomputable def F_l_is_true : Fn := mkFn 2 6 [] (sSeq (sSet 2 (eCall F_l_log (aCons (oNow (eVar 1)) (aCons (oNow (eOp2 opIx (oVar 0) (oNow (eC (.int 1))))) (aNil)))))
    (sSeq (sSet 3 (eOp2 opIx (oVar 2) (oNow (eC (.int 2)))))
    (sSeq (sIf (tB (eOp2 opEq (oNow (eOp2 opIx (oVar 0) (oNow (eC (.int 0))))) (oNow (eC (.str "clock"))))) (sRet (eAn (eOp2 opLe (oNow (eOp2 opIx (oVar 0) (oNow (eC (.int 2))))) (oNow (eOp2 opIx (oVar 2) (oNow (eC (.int 1)))))) (eOp2 opLe (oNow (eOp2 opIx (oVar 2) (oNow (eC (.int 1))))) (oNow (eOp2 opIx (oVar 0) (oNow (eC (.int 3)))))))) (sNil))
    (sSeq (sIf (tB (eOp2 opGt (oNow (eOp2 opIx (oVar 0) (oNow (eC (.int 2))))) (oNow (eOpN (on1 opLenS) (aCons (oVar 3) (aNil)))))) (sRet (eC (.bool false))) (sNil))
    (sSeq (sIf (tB (eOp2 opEq (oNow (eOp2 opIx (oVar 0) (oNow (eC (.int 0))))) (oNow (eC (.str "read"))))) (sSeq (sSet 5 (eOp2 opIx (oVar 3) (oNow (eOp2 opSub (oNow (eOp2 opIx (oVar 0) (oNow (eC (.int 2))))) (oNow (eC (.int 1)))))))
    (sRet (eAn (eOp2 opEq (oNow (eOp2 opIx (oVar 5) (oNow (eC (.int 0))))) (oNow (eOp2 opIx (oVar 0) (oNow (eC (.int 4)))))) (eAn (eOp2 opLt (oNow (eOp2 opIx (oVar 0) (oNow (eC (.int 3))))) (oNow (eOpN (on1 opLenS) (aCons (oNow (eOp2 opIx (oVar 5) (oNow (eC (.int 1))))) (aNil))))) (eOp2 opEq (oNow (eOp2 opIx (oNow (eOp2 opIx (oVar 5) (oNow (eC (.int 1))))) (oNow (eOp2 opIx (oVar 0) (oNow (eC (.int 3))))))) (oNow (eOp2 opIx (oVar 0) (oNow (eC (.int 5)))))))))) (sNil))
    (sSeq (sFor (iR1 (aCons (oNow (eOpN (on1 opLenS) (aCons (oVar 3) (aNil)))) (aNil))) (gN 4) (B_l_is_true_1))
    (sRet (eOp2 opEq (oNow (eOpN (on1 opSumA) (aCons (oNow (eLc (iSeq (eSl (oVar 3) (ptN) (ptS (eOp2 opIx (oVar 0) (oNow (eC (.int 2))))))) (gN 5) (tY) (eOpN (on1 opLenS) (aCons (oNow (eOp2 opIx (oVar 5) (oNow (eC (.int 1))))) (aNil))) [5])) (aNil)))) (oNow (eOp2 opIx (oVar 0) (oNow (eC (.int 4)))))))))))))
@[simp] theorem io_l_is_true : F_l_is_true.io = [] := rfl
noncomputable def F_l_spoilt_read : Fn := mkFn 3 5 [0] (sSeq (sSet 3 (eCall F_l_take (aCons (oVar 0) (aCons (oNow (eC (.int 6))) (aNil)))))
    (sSeq (sSet 4 (eOp2 opIx (oNow (eLst (aCons (oNow (eC (.int 1))) (aCons (oNow (eOp1 opNeg (oNow (eC (.int 1))))) (aNil))))) (oNow (eCall F_l_take (aCons (oVar 0) (aCons (oNow (eC (.int 2))) (aNil)))))))
    (sSeq (sIf (tB (eOp2 opEq (oVar 3) (oNow (eC (.int 0))))) (sRet (eOp2 opAdd (oNow (eOp2 opAdd (oNow (eSl (oVar 2) (ptN) (ptS (eC (.int 2))))) (oNow (eTup (aCons (oNow (eOpN (on2 opMax2) (aCons (oNow (eC (.int 1))) (aCons (oNow (eOp2 opAdd (oNow (eOp2 opIx (oVar 2) (oNow (eC (.int 2))))) (oVar 4))) (aNil))))) (aNil)))))) (oNow (eSl (oVar 2) (ptS (eC (.int 3))) (ptN))))) (sNil))
    (sSeq (sIf (tB (eOp2 opEq (oVar 3) (oNow (eC (.int 1))))) (sRet (eOp2 opAdd (oNow (eOp2 opAdd (oNow (eSl (oVar 2) (ptN) (ptS (eC (.int 3))))) (oNow (eTup (aCons (oNow (eOpN (on2 opMax2) (aCons (oNow (eC (.int 0))) (aCons (oNow (eOp2 opAdd (oNow (eOp2 opIx (oVar 2) (oNow (eC (.int 3))))) (oVar 4))) (aNil))))) (aNil)))))) (oNow (eSl (oVar 2) (ptS (eC (.int 4))) (ptN))))) (sNil))
    (sSeq (sIf (tB (eOp2 opEq (oVar 3) (oNow (eC (.int 2))))) (sRet (eOp2 opAdd (oNow (eSl (oVar 2) (ptN) (ptS (eC (.int 4))))) (oNow (eTup (aCons (oNow (eOp2 opAdd (oNow (eOp2 opIx (oVar 2) (oNow (eC (.int 4))))) (oNow (eOp2 opMul (oVar 4) (oNow (eOp2 opIx (oNow (eLst (aCons (oNow (eC (.int 1))) (aCons (oNow (eC (.int 2))) (aCons (oNow (eC (.int 60))) (aNil)))))) (oNow (eCall F_l_take (aCons (oVar 0) (aCons (oNow (eC (.int 3))) (aNil))))))))))) (aCons (oNow (eOp2 opIx (oVar 2) (oNow (eC (.int 5))))) (aNil))))))) (sNil))
    (sRet (eOp2 opAdd (oNow (eSl (oVar 2) (ptN) (ptS (eC (.int 5))))) (oNow (eTup (aCons (oNow (eOp2 opIx (oNow (eLst (aCons (oNow (eC .none)) (aCons (oNow (eOp2 opSub (oNow (eOp2 opIx (oVar 1) (oNow (eC (.int 1))))) (oNow (eC (.int 1))))) (aCons (oNow (eOp2 opAdd (oNow (eOp2 opIx (oVar 1) (oNow (eC (.int 2))))) (oNow (eC (.int 1))))) (aCons (oNow (eCall F_l_reading (aCons (oVar 0) (aCons (oNow (eVar 1)) (aNil))))) (aNil))))))) (oNow (eCall F_l_take (aCons (oVar 0) (aCons (oNow (eC (.int 4))) (aNil))))))) (aNil)))))))))))
@[simp] theorem io_l_spoilt_read : F_l_spoilt_read.io = [0] := rfl
noncomputable def F_l_spoilt_3 : Fn := mkFn 3 5 [0] (sSeq (sSet 3 (eOp2 opMul (oNow (eOp2 opIx (oNow (eLst (aCons (oNow (eC (.int 1))) (aCons (oNow (eOp1 opNeg (oNow (eC (.int 1))))) (aNil))))) (oNow (eCall F_l_take (aCons (oVar 0) (aCons (oNow (eC (.int 2))) (aNil))))))) (oNow (eOp2 opIx (oNow (eLst (aCons (oNow (eC (.int 1))) (aCons (oNow (eC (.int 1))) (aCons (oNow (eC (.int 2))) (aCons (oNow (eC (.int 9))) (aNil))))))) (oNow (eCall F_l_take (aCons (oVar 0) (aCons (oNow (eC (.int 4))) (aNil)))))))))
    (sSeq (sIf (tB (eOp2 opEq (oNow (eOp2 opIx (oVar 2) (oNow (eC (.int 0))))) (oNow (eC (.str "read"))))) (sRet (eCall F_l_spoilt_read (aCons (oVar 0) (aCons (oNow (eVar 1)) (aCons (oNow (eVar 2)) (aNil)))))) (sNil))
    (sSeq (sIf (tB (eOp2 opEq (oNow (eOp2 opIx (oVar 2) (oNow (eC (.int 0))))) (oNow (eC (.str "clock"))))) (sSeq (sIf (tB (eOp2 opEq (oNow (eCall F_l_take (aCons (oVar 0) (aCons (oNow (eC (.int 2))) (aNil))))) (oNow (eC (.int 0))))) (sRet (eOp2 opAdd (oNow (eSl (oVar 2) (ptN) (ptS (eC (.int 2))))) (oNow (eTup (aCons (oNow (eOp2 opAdd (oNow (eOp2 opIx (oVar 2) (oNow (eC (.int 2))))) (oVar 3))) (aCons (oNow (eOp2 opIx (oVar 2) (oNow (eC (.int 3))))) (aNil))))))) (sNil))
    (sRet (eOp2 opAdd (oNow (eSl (oVar 2) (ptN) (ptS (eC (.int 3))))) (oNow (eTup (aCons (oNow (eOp2 opAdd (oNow (eOp2 opIx (oVar 2) (oNow (eC (.int 3))))) (oVar 3))) (aNil))))))) (sNil))
    (sSeq (sSet 4 (eCall F_l_take (aCons (oVar 0) (aCons (oNow (eC (.int 3))) (aNil)))))
    (sSeq (sIf (tB (eOp2 opEq (oVar 4) (oNow (eC (.int 0))))) (sRet (eOp2 opAdd (oNow (eOp2 opAdd (oNow (eSl (oVar 2) (ptN) (ptS (eC (.int 2))))) (oNow (eTup (aCons (oNow (eOpN (on2 opMax2) (aCons (oNow (eC (.int 0))) (aCons (oNow (eOp2 opAdd (oNow (eOp2 opIx (oVar 2) (oNow (eC (.int 2))))) (oVar 3))) (aNil))))) (aNil)))))) (oNow (eSl (oVar 2) (ptS (eC (.int 3))) (ptN))))) (sNil))
    (sSeq (sIf (tB (eOp2 opEq (oVar 4) (oNow (eC (.int 1))))) (sRet (eOp2 opAdd (oNow (eSl (oVar 2) (ptN) (ptS (eC (.int 3))))) (oNow (eTup (aCons (oNow (eOp2 opAdd (oNow (eOp2 opIx (oVar 2) (oNow (eC (.int 3))))) (oVar 3))) (aCons (oNow (eOp2 opIx (oVar 2) (oNow (eC (.int 4))))) (aNil))))))) (sNil))
    (sRet (eOp2 opAdd (oNow (eSl (oVar 2) (ptN) (ptS (eC (.int 4))))) (oNow (eTup (aCons (oNow (eOpN (on2 opMax2) (aCons (oNow (eC (.int 0))) (aCons (oNow (eOp2 opAdd (oNow (eOp2 opIx (oVar 2) (oNow (eC (.int 4))))) (oVar 3))) (aNil))))) (aNil))))))))))))
@[simp] theorem io_l_spoilt_3 : F_l_spoilt_3.io = [0] := rfl
noncomputable def B_l_changed_1 : Ev → Option Out := sIf (tB (eOp2 opGt (oNow (eOpN (on1 opLenS) (aCons (oVar 2) (aNil)))) (oNow (eC (.int 0))))) (sSeq (sSet 5 (eCall F_l_take (aCons (oVar 0) (aCons (oNow (eOpN (on1 opLenS) (aCons (oVar 2) (aNil)))) (aNil)))))
    (sSeq (sSet 6 (eOp2 opIx (oNow (eLc (iSeq (eOp2 opIx (oVar 1) (oNow (eC (.int 1))))) (gN 6) (tB (eOp2 opEq (oNow (eOp2 opIx (oVar 6) (oNow (eC (.int 0))))) (oNow (eOp2 opIx (oNow (eOp2 opIx (oVar 2) (oVar 5))) (oNow (eC (.int 1))))))) (eVar 6) [6])) (oNow (eC (.int 0)))))
    (sSeq (sSet 7 (eCall F_l_spoilt_3 (aCons (oVar 0) (aCons (oNow (eVar 6)) (aCons (oNow (eOp2 opIx (oVar 2) (oVar 5))) (aNil))))))
    (sIf (tB (eOp2 opEq (oNow (eCall F_l_take (aCons (oVar 0) (aCons (oNow (eC (.int 2))) (aNil))))) (oNow (eC (.int 0))))) (sAsg (eVar 7) (gIx 2 (oVar 5))) (sExpr (eMut 2 opAppend (aCons (oNow (eVar 7)) (aNil)))))))) (sNil)
noncomputable def F_l_changed : Fn := mkFn 4 8 [0] (sSeq (sSet 2 (eOpN (on1 opList) (aCons (oVar 2) (aNil))))
    (sSeq (sFor (iR1 (aCons (oNow (eCall F_l_take (aCons (oVar 0) (aCons (oNow (eOp2 opAdd (oVar 3) (oNow (eC (.int 1))))) (aNil))))) (aNil))) (gN 4) (B_l_changed_1))
    (sRet (eMov 2))))
@[simp] theorem io_l_changed : F_l_changed.io = [0] := rfl
noncomputable def B_p_readings_1 : Ev → Option Out := sIf (tAn (tB (eOp2 (opInF false) (oVar 5) (oVar 2))) (tAn (tB (eOp1 (opIsN false) (oNow (eOp2 opIx (oVar 9) (oNow (eOp1 opNeg (oNow (eC (.int 1))))))))) (tB (eOp2 opEq (oNow (eCall F_p_window_of (aCons (oNow (eVar 0)) (aCons (oNow (eOp2 opAdd (oVar 8) (oVar 6))) (aNil))))) (oVar 3))))) (sExpr (eMut 4 opAppend (aCons (oNow (eOp2 opIx (oVar 9) (oNow (eOp1 opNeg (oNow (eC (.int 1))))))) (aNil)))) (sNil)
noncomputable def B_p_readings_2 : Ev → Option Out := sFor (iSeq (eVar 7)) (gTp 2 (gsCons (gN 8) (gsCons (gN 9) (gsNil)))) (B_p_readings_1)
noncomputable def F_p_readings : Fn := mkFn 4 10 [] (sSeq (sSet 4 (eLst (aNil)))
    (sSeq (sFor (iSeq (eVar 1)) (gTp 3 (gsCons (gN 5) (gsCons (gN 6) (gsCons (gN 7) (gsNil))))) (B_p_readings_2))
    (sRet (eOpN (on1 opTuple) (aCons (oNow (eOpN (on1 opSorted) (aCons (oVar 4) (aNil)))) (aNil))))))
@[simp] theorem io_p_readings : F_p_readings.io = [] := rfl
noncomputable def F_l_chosen : Fn := mkFn 2 4 [0] (sSeq (sSet 2 (eLc (iSeq (eVar 1)) (gN 3) (tB (eOp2 opEq (oNow (eCall F_l_take (aCons (oVar 0) (aCons (oNow (eC (.int 2))) (aNil))))) (oNow (eC (.int 0))))) (eVar 3) [3]))
    (sSeq (sIf (tB (eOp2 opEq (oNow (eOpN (on1 opLenS) (aCons (oVar 2) (aNil)))) (oNow (eC (.int 0))))) (sRet (eTup (aCons (oNow (eOp2 opIx (oVar 1) (oNow (eCall F_l_take (aCons (oVar 0) (aCons (oNow (eOpN (on1 opLenS) (aCons (oVar 1) (aNil)))) (aNil))))))) (aNil)))) (sNil))
    (sRet (eOpN (on1 opTuple) (aCons (oVar 2) (aNil))))))
@[simp] theorem io_l_chosen : F_l_chosen.io = [0] := rfl
noncomputable def B_l_readings_1 : Ev → Option Out := sSeq (sSet 7 (eOp2 opAdd (oNow (eOp2 opIx (oVar 6) (oNow (eC (.int 0))))) (oNow (eOp2 opIx (oVar 5) (oNow (eC (.int 1)))))))
    (sIf (tAn (tB (eOp2 (opInF false) (oNow (eOp2 opIx (oVar 5) (oNow (eC (.int 0))))) (oVar 2))) (tAn (tB (eOp2 opLe (oNow (eOp2 opMul (oVar 3) (oNow (eOp2 opIx (oVar 0) (oNow (eC (.int 0))))))) (oVar 7))) (tB (eOp2 opLt (oVar 7) (oNow (eOp2 opMul (oNow (eOp2 opAdd (oVar 3) (oNow (eC (.int 1))))) (oNow (eOp2 opIx (oVar 0) (oNow (eC (.int 0))))))))))) (sSet 4 (eOp2 opAdd (oVar 4) (oNow (eLc (iSeq (eSl (oNow (eOp2 opIx (oVar 6) (oNow (eC (.int 1))))) (ptS (eOp1 opNeg (oNow (eC (.int 1))))) (ptN))) (gN 8) (tB (eOp1 (opIsN false) (oVar 8))) (eVar 8) [8])))) (sNil))
noncomputable def B_l_readings_2 : Ev → Option Out := sFor (iSeq (eOp2 opIx (oVar 5) (oNow (eC (.int 2))))) (gN 6) (B_l_readings_1)
noncomputable def F_l_readings : Fn := mkFn 4 9 [] (sSeq (sSet 4 (eLst (aNil)))
    (sSeq (sFor (iSeq (eVar 1)) (gN 5) (B_l_readings_2))
    (sRet (eOpN (on1 opTuple) (aCons (oNow (eOpN (on1 opSorted) (aCons (oVar 4) (aNil)))) (aNil))))))
@[simp] theorem io_l_readings : F_l_readings.io = [] := rfl
noncomputable def B_l_windows_1 : Ev → Option Out := sSet 2 (eOp2 opAdd (oVar 2) (oNow (eLc (iSeq (eOp2 opIx (oVar 3) (oNow (eC (.int 2))))) (gN 4) (tY) (eOp2 opDiv (oNow (eOp2 opAdd (oNow (eOp2 opIx (oVar 4) (oNow (eC (.int 0))))) (oNow (eOp2 opIx (oVar 3) (oNow (eC (.int 1))))))) (oNow (eOp2 opIx (oVar 0) (oNow (eC (.int 0)))))) [4])))
noncomputable def F_l_windows : Fn := mkFn 2 5 [] (sSeq (sSet 2 (eLst (aNil)))
    (sSeq (sFor (iSeq (eVar 1)) (gN 3) (B_l_windows_1))
    (sRet (eOp1 opSetS (oVar 2)))))
@[simp] theorem io_l_windows : F_l_windows.io = [] := rfl
noncomputable def F_l_window : Fn := mkFn 4 6 [0] (sSeq (sSet 4 (eCall F_l_windows (aCons (oNow (eVar 1)) (aCons (oNow (eVar 2)) (aNil)))))
    (sSeq (sIf (tB (eOp2 opEq (oNow (eOpN (on1 opLenS) (aCons (oVar 4) (aNil)))) (oNow (eC (.int 0))))) (sRet (eMov 3)) (sNil))
    (sSeq (sSet 5 (eOp2 opIx (oVar 4) (oNow (eCall F_l_take (aCons (oVar 0) (aCons (oNow (eOpN (on1 opLenS) (aCons (oVar 4) (aNil)))) (aNil)))))))
    (sRet (eOp2 opIx (oNow (eLst (aCons (oNow (eVar 5)) (aCons (oNow (eVar 5)) (aCons (oNow (eVar 5)) (aCons (oNow (eOp2 opSub (oVar 5) (oNow (eC (.int 1))))) (aCons (oNow (eOp2 opAdd (oVar 5) (oNow (eC (.int 1))))) (aCons (oNow (eVar 3)) (aNil))))))))) (oNow (eCall F_l_take (aCons (oVar 0) (aCons (oNow (eC (.int 6))) (aNil))))))))))
@[simp] theorem io_l_window : F_l_window.io = [0] := rfl
noncomputable def B_l_are_values_1 : Ev → Option Out := sIf (tOr' (tNt (tB (eOp1 (opIs "int") (oNow (eOp2 opIx (oVar 0) (oVar 2)))))) (tOr' (tB (eOp1 (opIs "bool") (oNow (eOp2 opIx (oVar 0) (oVar 2))))) (tB (eOp2 opNe (oNow (eOp2 opIx (oVar 0) (oVar 2))) (oNow (eOp2 opIx (oVar 1) (oVar 2))))))) (sRet (eC (.bool false))) (sNil)
noncomputable def F_l_are_values : Fn := mkFn 2 3 [] (sSeq (sIf (tOr' (tNt (tB (eOp1 (opIs "tuple") (oVar 0)))) (tB (eOp2 opNe (oNow (eOpN (on1 opLenS) (aCons (oVar 0) (aNil)))) (oNow (eOpN (on1 opLenS) (aCons (oVar 1) (aNil))))))) (sRet (eC (.bool false))) (sNil))
    (sSeq (sFor (iR1 (aCons (oNow (eOpN (on1 opLenS) (aCons (oVar 1) (aNil)))) (aNil))) (gN 2) (B_l_are_values_1))
    (sRet (eC (.bool true)))))
@[simp] theorem io_l_are_values : F_l_are_values.io = [] := rfl
noncomputable def F_p_reads_about : Fn := mkFn 2 3 [] (sRet (eLc (iSeq (eVar 0)) (gN 2) (tAn (tB (eOp2 opEq (oNow (eOp2 opIx (oVar 2) (oNow (eC (.int 0))))) (oNow (eC (.str "read"))))) (tB (eOp2 opEq (oNow (eOp2 opIx (oVar 2) (oNow (eC (.int 1))))) (oVar 1)))) (eVar 2) [2]))
@[simp] theorem io_p_reads_about : F_p_reads_about.io = [] := rfl
noncomputable def B_p_received_of_1 : Ev → Option Out := sIf (tOr' (tB (eOp2 (opDIn false) (oVar 5) (oVar 2))) (tB (eOp2 opLt (oNow (eOp2 opIx (oNow (eOp2 opDIx (oVar 2) (oVar 5))) (oNow (eC (.int 0))))) (oVar 6)))) (sDSet 2 (oVar 5) (eTup (aCons (oNow (eVar 6)) (aCons (oNow (eVar 7)) (aCons (oNow (eVar 8)) (aNil)))))) (sNil)
noncomputable def F_p_received_of : Fn := mkFn 2 9 [] (sSeq (sSet 2 (eDNew false))
    (sSeq (sFor (iSeq (eCall F_p_reads_about (aCons (oNow (eVar 0)) (aCons (oNow (eVar 1)) (aNil))))) (gTp 6 (gsCons (gN 3) (gsCons (gN 4) (gsCons (gN 5) (gsCons (gN 6) (gsCons (gN 7) (gsCons (gN 8) (gsNil)))))))) (B_p_received_of_1))
    (sRet (eMov 2))))
@[simp] theorem io_p_received_of : F_p_received_of.io = [] := rfl
noncomputable def B_p_closes_of_1 : Ev → Option Out := sIf (tAn (tB (eOp2 opEq (oNow (eOp2 opIx (oVar 3) (oNow (eC (.int 0))))) (oNow (eC (.str "close"))))) (tB (eOp2 opEq (oNow (eOp2 opIx (oVar 3) (oNow (eC (.int 1))))) (oVar 1)))) (sSeq (sAsg (eDGet2 2 (oNow (eOp2 opIx (oVar 3) (oNow (eC (.int 2))))) (oNow (eTup (aCons (oNow (eOp2 opIx (oVar 3) (oNow (eC (.int 3))))) (aCons (oNow (eOp2 opIx (oVar 3) (oNow (eC (.int 3))))) (aCons (oNow (eOp2 opIx (oVar 3) (oNow (eC (.int 4))))) (aNil))))))) (gTp 3 (gsCons (gN 4) (gsCons (gN 5) (gsCons (gN 6) (gsNil))))))
    (sDSet 2 (oNow (eOp2 opIx (oVar 3) (oNow (eC (.int 2))))) (eTup (aCons (oNow (eOpN (on2 opMin2) (aCons (oVar 4) (aCons (oNow (eOp2 opIx (oVar 3) (oNow (eC (.int 3))))) (aNil))))) (aCons (oNow (eOpN (on2 opMax2) (aCons (oVar 5) (aCons (oNow (eOp2 opIx (oVar 3) (oNow (eC (.int 3))))) (aNil))))) (aCons (oNow (eVar 6)) (aNil))))))) (sNil)
noncomputable def F_p_closes_of : Fn := mkFn 2 7 [] (sSeq (sSet 2 (eDNew false))
    (sSeq (sFor (iSeq (eVar 0)) (gN 3) (B_p_closes_of_1))
    (sRet (eMov 2))))
@[simp] theorem io_p_closes_of : F_p_closes_of.io = [] := rfl
noncomputable def B_p_offsets_of_1 : Ev → Option Out := sIf (tAn (tB (eOp2 opEq (oNow (eOp2 opIx (oVar 6) (oNow (eC (.int 0))))) (oNow (eC (.str "clock"))))) (tB (eOp2 opEq (oNow (eOp2 opIx (oVar 6) (oNow (eC (.int 1))))) (oVar 2)))) (sSeq (sSet 4 (eOpN (on2 opMax2) (aCons (oVar 4) (aCons (oNow (eOp2 opIx (oVar 6) (oNow (eC (.int 2))))) (aNil)))))
    (sSet 5 (eOpN (on2 opMin2) (aCons (oVar 5) (aCons (oNow (eOp2 opIx (oVar 6) (oNow (eC (.int 3))))) (aNil)))))) (sNil)
noncomputable def F_p_offsets_of : Fn := mkFn 3 7 [] (sSeq (sSet 3 (eOp2 opIx (oNow (eCall F_p_meter_of (aCons (oNow (eVar 0)) (aCons (oNow (eVar 2)) (aNil))))) (oNow (eC (.int 3)))))
    (sSeq (sSet 4 (eOp1 opNeg (oVar 3)))
    (sSeq (sSet 5 (eVar 3))
    (sSeq (sFor (iSeq (eVar 1)) (gN 6) (B_p_offsets_of_1))
    (sRet (eTup (aCons (oNow (eVar 4)) (aCons (oNow (eVar 5)) (aNil)))))))))
@[simp] theorem io_p_offsets_of : F_p_offsets_of.io = [] := rfl
noncomputable def B_p_limits_of_1 : Ev → Option Out := sIf (tB (eOp2 opGt (oVar 5) (oNow (eC (.int 0))))) (sSeq (sAsg (eOp2 opDIx (oVar 0) (oVar 5)) (gTp 3 (gsCons (gN 6) (gsCons (gN 7) (gsCons (gN 8) (gsNil))))))
    (sSeq (sExpr (eMut 1 opAppend (aCons (oNow (eTup (aCons (oNow (eOp2 opAdd (oVar 2) (oNow (eC (.int 1))))) (aCons (oNow (eVar 5)) (aCons (oNow (eVar 3)) (aCons (oNow (eOp2 opSub (oVar 6) (oNow (eC (.int 1))))) (aCons (oNow (eOp2 opSub (oVar 8) (oVar 4))) (aNil)))))))) (aNil))))
    (sSeq (sSet 2 (eVar 5))
    (sSeq (sSet 3 (eVar 7))
    (sSet 4 (eVar 8)))))) (sNil)
noncomputable def F_p_limits_of : Fn := mkFn 1 9 [] (sSeq (sSet 1 (eLst (aNil)))
    (sSeq (sSet 2 (eC (.int 0)))
    (sSeq (sSet 3 (eIf (tB (eOp2 (opDIn true) (oNow (eC (.int 0))) (oVar 0))) (eOp2 opIx (oNow (eOp2 opDIx (oVar 0) (oNow (eC (.int 0))))) (oNow (eC (.int 1)))) (eC .none)))
    (sSeq (sSet 4 (eC (.int 0)))
    (sSeq (sFor (iSeq (eOpN (on1 opSortK) (aCons (oVar 0) (aNil)))) (gN 5) (B_p_limits_of_1))
    (sSeq (sExpr (eMut 1 opAppend (aCons (oNow (eTup (aCons (oNow (eOp2 opAdd (oVar 2) (oNow (eC (.int 1))))) (aCons (oNow (eC .none)) (aCons (oNow (eVar 3)) (aCons (oNow (eC .none)) (aCons (oNow (eC .none)) (aNil)))))))) (aNil))))
    (sRet (eMov 1))))))))
@[simp] theorem io_p_limits_of : F_p_limits_of.io = [] := rfl
noncomputable def F_p_slots_within : Fn := mkFn 3 4 [] (sRet (eLc (iSeq (eOpN (on1 opSortK) (aCons (oVar 0) (aNil)))) (gN 3) (tAn (tB (eOp2 opGe (oVar 3) (oVar 1))) (tOr' (tB (eOp1 (opIsN true) (oVar 2))) (tB (eOp2 opLe (oVar 3) (oVar 2))))) (eVar 3) [3]))
@[simp] theorem io_p_slots_within : F_p_slots_within.io = [] := rfl
noncomputable def F_p_hidden_in : Fn := mkFn 2 10 [] (sSeq (sAsg (eVar 1) (gTp 5 (gsCons (gN 4) (gsCons (gN 5) (gsCons (gN 6) (gsCons (gN 7) (gsCons (gN 8) (gsNil))))))))
    (sSeq (sIf (tB (eOp1 (opIsN true) (oVar 5))) (sRet (eC .none)) (sNil))
    (sSeq (sSet 2 (eCall F_p_slots_within (aCons (oNow (eVar 0)) (aCons (oNow (eVar 4)) (aCons (oNow (eVar 5)) (aNil))))))
    (sSeq (sSet 3 (eOp2 opSub (oNow (eOp2 opAdd (oNow (eOp2 opSub (oVar 5) (oVar 4))) (oNow (eC (.int 1))))) (oNow (eOpN (on1 opLenS) (aCons (oVar 2) (aNil))))))
    (sRet (eOp2 opSub (oNow (eOp2 opSub (oVar 8) (oVar 3))) (oNow (eOpN (on1 opSumA) (aCons (oNow (eLc (iSeq (eVar 2)) (gN 9) (tY) (eOp2 opAdd (oNow (eOp2 opIx (oNow (eOp2 opDIx (oVar 0) (oVar 9))) (oNow (eC (.int 0))))) (oNow (eC (.int 1)))) [9])) (aNil))))))))))
@[simp] theorem io_p_hidden_in : F_p_hidden_in.io = [] := rfl
noncomputable def B_p_reads_right_1 : Ev → Option Out := sSeq (sIf (tAn (tB (eOp1 (opIsN true) (oVar 9))) (tB (eOp2 opEq (oVar 7) (oNow (eC (.int 0)))))) (sRet (eC (.bool false))) (sNil))
    (sSeq (sIf (tAn (tB (eOp1 (opIsN false) (oVar 9))) (tNt (tB (eChain opLe opLe (oNow (eOp2 opIx (oVar 0) (oNow (eC (.int 1))))) (oVar 9) (oNow (eOp2 opIx (oVar 0) (oNow (eC (.int 2))))))))) (sRet (eC (.bool false))) (sNil))
    (sIf (tOr' (tB (eOp2 opNe (oNow (eDSetd 2 (oVar 6) (oVar 8))) (oVar 8))) (tB (eOp2 opNe (oNow (eDSetdT 3 (aCons (oNow (eVar 6)) (aCons (oNow (eVar 7)) (aNil))) (oVar 9))) (oVar 9)))) (sRet (eC (.bool false))) (sNil)))
noncomputable def F_p_reads_right : Fn := mkFn 2 10 [] (sSeq (sSet 2 (eDNew false))
    (sSeq (sSet 3 (eDNew true))
    (sSeq (sFor (iSeq (eVar 1)) (gTp 6 (gsCons (gN 4) (gsCons (gN 5) (gsCons (gN 6) (gsCons (gN 7) (gsCons (gN 8) (gsCons (gN 9) (gsNil)))))))) (B_p_reads_right_1))
    (sRet (eC (.bool true))))))
@[simp] theorem io_p_reads_right : F_p_reads_right.io = [] := rfl
noncomputable def B_p_closes_right_1 : Ev → Option Out := sIf (tAn (tB (eOp2 opEq (oNow (eOp2 opIx (oVar 3) (oNow (eC (.int 0))))) (oNow (eC (.str "close"))))) (tAn (tB (eOp2 opEq (oNow (eOp2 opIx (oVar 3) (oNow (eC (.int 1))))) (oVar 1))) (tB (eOp2 opNe (oNow (eOp2 opIx (oNow (eOp2 opDIx (oVar 2) (oNow (eOp2 opIx (oVar 3) (oNow (eC (.int 2))))))) (oNow (eC (.int 2))))) (oNow (eOp2 opIx (oVar 3) (oNow (eC (.int 4))))))))) (sRet (eC (.bool false))) (sNil)
noncomputable def F_p_closes_right : Fn := mkFn 3 7 [] (sSeq (sFor (iSeq (eVar 0)) (gN 3) (B_p_closes_right_1))
    (sSeq (sIf (tAn (tB (eOp2 (opDIn true) (oNow (eC (.int 0))) (oVar 2))) (tB (eOp2 opNe (oNow (eOp2 opIx (oNow (eOp2 opDIx (oVar 2) (oNow (eC (.int 0))))) (oNow (eC (.int 2))))) (oNow (eC (.int 0)))))) (sRet (eC (.bool false))) (sNil))
    (sSeq (sSet 4 (eOpN (on1 opSortK) (aCons (oVar 2) (aNil))))
    (sRet (eOpN (on1 opAll) (aCons (oNow (eLc (iZp (aCons (oNow (eVar 4)) (aCons (oNow (eSl (oVar 4) (ptS (eC (.int 1))) (ptN))) (aNil)))) (gTp 2 (gsCons (gN 5) (gsCons (gN 6) (gsNil)))) (tY) (eOp2 opLt (oNow (eOp2 opIx (oNow (eOp2 opDIx (oVar 2) (oVar 5))) (oNow (eC (.int 1))))) (oNow (eOp2 opIx (oNow (eOp2 opDIx (oVar 2) (oVar 6))) (oNow (eC (.int 0)))))) [5, 6])) (aNil)))))))
@[simp] theorem io_p_closes_right : F_p_closes_right.io = [] := rfl
noncomputable def B_p_stamps_right_1 : Ev → Option Out := sSeq (sSet 9 (eOp2 opIx (oNow (eOp2 opDIx (oVar 0) (oVar 8))) (oNow (eC (.int 1)))))
    (sIf (tOr' (tAn (tB (eOp1 (opIsN false) (oVar 5))) (tB (eOp2 opLt (oVar 9) (oVar 5)))) (tAn (tB (eOp1 (opIsN false) (oVar 6))) (tB (eOp2 opGt (oVar 9) (oVar 6))))) (sRet (eC (.bool false))) (sNil))
noncomputable def B_p_stamps_right_2 : Ev → Option Out := sFor (iSeq (eCall F_p_slots_within (aCons (oNow (eVar 0)) (aCons (oNow (eVar 3)) (aCons (oNow (eVar 4)) (aNil)))))) (gN 8) (B_p_stamps_right_1)
noncomputable def F_p_stamps_right : Fn := mkFn 2 10 [] (sSeq (sSet 2 (eLc (iSeq (eOpN (on1 opSortK) (aCons (oVar 0) (aNil)))) (gN 8) (tY) (eOp2 opIx (oNow (eOp2 opDIx (oVar 0) (oVar 8))) (oNow (eC (.int 1)))) [8]))
    (sSeq (sIf (tB (eOp2 opNe (oVar 2) (oNow (eOpN (on1 opSorted) (aCons (oVar 2) (aNil)))))) (sRet (eC (.bool false))) (sNil))
    (sSeq (sFor (iSeq (eVar 1)) (gTp 5 (gsCons (gN 3) (gsCons (gN 4) (gsCons (gN 5) (gsCons (gN 6) (gsCons (gN 7) (gsNil))))))) (B_p_stamps_right_2))
    (sRet (eC (.bool true))))))
@[simp] theorem io_p_stamps_right : F_p_stamps_right.io = [] := rfl
noncomputable def F_p_meter_possible : Fn := mkFn 3 10 [] (sSeq (sSet 3 (eOp2 opIx (oVar 1) (oNow (eC (.int 0)))))
    (sSeq (sSet 4 (eCall F_p_closes_of (aCons (oNow (eVar 2)) (aCons (oNow (eVar 3)) (aNil)))))
    (sSeq (sIf (tOr' (tNt (tB (eCall F_p_reads_right (aCons (oNow (eVar 1)) (aCons (oNow (eCall F_p_reads_about (aCons (oNow (eVar 2)) (aCons (oNow (eVar 3)) (aNil))))) (aNil)))))) (tNt (tB (eCall F_p_closes_right (aCons (oNow (eVar 2)) (aCons (oNow (eVar 3)) (aCons (oNow (eVar 4)) (aNil)))))))) (sRet (eC (.bool false))) (sNil))
    (sSeq (sAsg (eCall F_p_offsets_of (aCons (oNow (eVar 0)) (aCons (oNow (eVar 2)) (aCons (oNow (eVar 3)) (aNil))))) (gTp 2 (gsCons (gN 7) (gsCons (gN 8) (gsNil)))))
    (sSeq (sSet 5 (eCall F_p_received_of (aCons (oNow (eVar 2)) (aCons (oNow (eVar 3)) (aNil)))))
    (sSeq (sSet 6 (eCall F_p_limits_of (aCons (oNow (eVar 4)) (aNil))))
    (sSeq (sIf (tOr' (tB (eOp2 opGt (oVar 7) (oVar 8))) (tNt (tB (eCall F_p_stamps_right (aCons (oNow (eVar 5)) (aCons (oNow (eVar 6)) (aNil))))))) (sRet (eC (.bool false))) (sNil))
    (sRet (eOpN (on1 opAll) (aCons (oNow (eLc (iSeq (eSl (oVar 6) (ptN) (ptS (eOp1 opNeg (oNow (eC (.int 1))))))) (gN 9) (tY) (eOp2 opGe (oNow (eCall F_p_hidden_in (aCons (oNow (eVar 5)) (aCons (oNow (eVar 9)) (aNil))))) (oNow (eC (.int 0)))) [9])) (aNil)))))))))))
@[simp] theorem io_p_meter_possible : F_p_meter_possible.io = [] := rfl
noncomputable def F_p_is_possible : Fn := mkFn 2 3 [] (sRet (eOpN (on1 opAll) (aCons (oNow (eLc (iSeq (eOp2 opIx (oVar 0) (oNow (eC (.int 1))))) (gN 2) (tY) (eCall F_p_meter_possible (aCons (oNow (eVar 0)) (aCons (oNow (eVar 2)) (aCons (oNow (eVar 1)) (aNil))))) [2])) (aNil))))
@[simp] theorem io_p_is_possible : F_p_is_possible.io = [] := rfl
noncomputable def F_l_close_1 : Fn := mkFn 2 9 [0] (sSeq (sSet 2 (eOp2 opIx (oVar 1) (oNow (eC (.int 2)))))
    (sSeq (sSet 3 (eOp2 opIx (oNow (eLst (aCons (oNow (eOpN (on1 opLenS) (aCons (oVar 2) (aNil)))) (aCons (oNow (eOpN (on1 opLenS) (aCons (oVar 2) (aNil)))) (aCons (oNow (eCall F_l_take (aCons (oVar 0) (aCons (oNow (eOp2 opAdd (oNow (eOpN (on1 opLenS) (aCons (oVar 2) (aNil)))) (oNow (eC (.int 1))))) (aNil))))) (aNil)))))) (oNow (eCall F_l_take (aCons (oVar 0) (aCons (oNow (eC (.int 3))) (aNil)))))))
    (sSeq (sSet 4 (eOp2 opIx (oNow (eLst (aCons (oNow (eC (.int 0))) (aCons (oNow (eC (.int 1))) (aCons (oNow (eC (.int 5))) (aCons (oNow (eC (.int 60))) (aNil))))))) (oNow (eCall F_l_take (aCons (oVar 0) (aCons (oNow (eC (.int 4))) (aNil)))))))
    (sSeq (sSet 5 (eOpN (on1 opSumA) (aCons (oNow (eLc (iSeq (eSl (oVar 2) (ptN) (ptS (eVar 3)))) (gN 8) (tY) (eOpN (on1 opLenS) (aCons (oNow (eOp2 opIx (oVar 8) (oNow (eC (.int 1))))) (aNil))) [8])) (aNil))))
    (sSeq (sIf (tB (eOp2 opEq (oVar 3) (oNow (eOpN (on1 opLenS) (aCons (oVar 2) (aNil)))))) (sSeq (sIf (tB (eOp2 opEq (oVar 3) (oNow (eC (.int 0))))) (sRet (eTup (aCons (oNow (eC (.str "close"))) (aCons (oNow (eOp2 opIx (oVar 1) (oNow (eC (.int 0))))) (aCons (oNow (eC (.int 0))) (aCons (oNow (eOp2 opSub (oVar 4) (oNow (eC (.int 5))))) (aCons (oNow (eC (.int 0))) (aNil)))))))) (sNil))
    (sRet (eTup (aCons (oNow (eC (.str "close"))) (aCons (oNow (eOp2 opIx (oVar 1) (oNow (eC (.int 0))))) (aCons (oNow (eVar 3)) (aCons (oNow (eOp2 opAdd (oNow (eOp2 opAdd (oNow (eOp2 opIx (oNow (eOp2 opIx (oVar 2) (oNow (eOp2 opSub (oVar 3) (oNow (eC (.int 1))))))) (oNow (eC (.int 0))))) (oNow (eC (.int 1))))) (oVar 4))) (aCons (oNow (eVar 5)) (aNil))))))))) (sNil))
    (sSeq (sIf (tB (eOp2 opEq (oVar 3) (oNow (eC (.int 0))))) (sRet (eTup (aCons (oNow (eC (.str "close"))) (aCons (oNow (eOp2 opIx (oVar 1) (oNow (eC (.int 0))))) (aCons (oNow (eC (.int 0))) (aCons (oNow (eOp2 opSub (oNow (eOp2 opIx (oNow (eOp2 opIx (oVar 2) (oNow (eC (.int 0))))) (oNow (eC (.int 0))))) (oVar 4))) (aCons (oNow (eC (.int 0))) (aNil)))))))) (sNil))
    (sSeq (sSet 6 (eOp2 opAdd (oNow (eOp2 opIx (oNow (eOp2 opIx (oVar 2) (oNow (eOp2 opSub (oVar 3) (oNow (eC (.int 1))))))) (oNow (eC (.int 0))))) (oNow (eC (.int 1)))))
    (sSeq (sSet 7 (eOp2 opIx (oNow (eOp2 opIx (oVar 2) (oVar 3))) (oNow (eC (.int 0)))))
    (sSeq (sIf (tB (eOp2 opGt (oVar 6) (oVar 7))) (sRet (eC .none)) (sNil))
    (sRet (eTup (aCons (oNow (eC (.str "close"))) (aCons (oNow (eOp2 opIx (oVar 1) (oNow (eC (.int 0))))) (aCons (oNow (eVar 3)) (aCons (oNow (eOp2 opIx (oNow (eLst (aCons (oNow (eVar 6)) (aCons (oNow (eVar 7)) (aCons (oNow (eOpN (on2 opMin2) (aCons (oVar 7) (aCons (oNow (eOp2 opAdd (oVar 6) (oVar 4))) (aNil))))) (aNil)))))) (oNow (eCall F_l_take (aCons (oVar 0) (aCons (oNow (eC (.int 3))) (aNil))))))) (aCons (oNow (eVar 5)) (aNil)))))))))))))))))
@[simp] theorem io_l_close_1 : F_l_close_1.io = [0] := rfl
noncomputable def B_l_reads_1_1 : Ev → Option Out := sIf (tB (eOp2 opLt (oNow (eOp2 opMod (oNow (eOp2 opDiv (oVar 5) (oNow (eOp2 opAdd (oVar 6) (oNow (eC (.int 1))))))) (oNow (eC (.int 8))))) (oVar 2))) (sExpr (eMut 3 opAppend (aCons (oNow (eTup (aCons (oNow (eC (.str "read"))) (aCons (oNow (eOp2 opIx (oVar 1) (oNow (eC (.int 0))))) (aCons (oNow (eOp2 opAdd (oVar 4) (oNow (eC (.int 1))))) (aCons (oNow (eVar 6)) (aCons (oNow (eOp2 opIx (oNow (eOp2 opIx (oNow (eOp2 opIx (oVar 1) (oNow (eC (.int 2))))) (oVar 4))) (oNow (eC (.int 0))))) (aCons (oNow (eOp2 opIx (oNow (eOp2 opIx (oNow (eOp2 opIx (oNow (eOp2 opIx (oVar 1) (oNow (eC (.int 2))))) (oVar 4))) (oNow (eC (.int 1))))) (oVar 6))) (aNil))))))))) (aNil)))) (sNil)
noncomputable def B_l_reads_1_2 : Ev → Option Out := sSeq (sSet 5 (eCall F_l_take (aCons (oVar 0) (aCons (oNow (eC (.int 1000))) (aNil)))))
    (sFor (iR1 (aCons (oNow (eOpN (on1 opLenS) (aCons (oNow (eOp2 opIx (oNow (eOp2 opIx (oNow (eOp2 opIx (oVar 1) (oNow (eC (.int 2))))) (oVar 4))) (oNow (eC (.int 1))))) (aNil)))) (aNil))) (gN 6) (B_l_reads_1_1))
noncomputable def F_l_reads_1 : Fn := mkFn 3 7 [0] (sSeq (sSet 3 (eLst (aNil)))
    (sSeq (sFor (iR1 (aCons (oNow (eOpN (on1 opLenS) (aCons (oNow (eOp2 opIx (oVar 1) (oNow (eC (.int 2))))) (aNil)))) (aNil))) (gN 4) (B_l_reads_1_2))
    (sRet (eMov 3))))
@[simp] theorem io_l_reads_1 : F_l_reads_1.io = [0] := rfl
noncomputable def B_l_every_close_1_1 : Ev → Option Out := sSeq (sSet 2 (eOp2 opAdd (oVar 2) (oNow (eOpN (on1 opLenS) (aCons (oNow (eOp2 opIx (oNow (eOp2 opIx (oNow (eOp2 opIx (oVar 0) (oNow (eC (.int 2))))) (oVar 3))) (oNow (eC (.int 1))))) (aNil))))))
    (sSeq (sSet 4 (eOp2 opAdd (oNow (eOp2 opIx (oNow (eOp2 opIx (oNow (eOp2 opIx (oVar 0) (oNow (eC (.int 2))))) (oVar 3))) (oNow (eC (.int 0))))) (oNow (eC (.int 1)))))
    (sIf (tOr' (tB (eOp2 opEq (oNow (eOp2 opAdd (oVar 3) (oNow (eC (.int 1))))) (oNow (eOpN (on1 opLenS) (aCons (oNow (eOp2 opIx (oVar 0) (oNow (eC (.int 2))))) (aNil)))))) (tB (eOp2 opLe (oVar 4) (oNow (eOp2 opIx (oNow (eOp2 opIx (oNow (eOp2 opIx (oVar 0) (oNow (eC (.int 2))))) (oNow (eOp2 opAdd (oVar 3) (oNow (eC (.int 1))))))) (oNow (eC (.int 0)))))))) (sExpr (eMut 1 opAppend (aCons (oNow (eTup (aCons (oNow (eC (.str "close"))) (aCons (oNow (eOp2 opIx (oVar 0) (oNow (eC (.int 0))))) (aCons (oNow (eOp2 opAdd (oVar 3) (oNow (eC (.int 1))))) (aCons (oNow (eVar 4)) (aCons (oNow (eVar 2)) (aNil)))))))) (aNil)))) (sNil)))
noncomputable def F_l_every_close_1 : Fn := mkFn 1 5 [] (sSeq (sSet 1 (eLst (aNil)))
    (sSeq (sSet 2 (eC (.int 0)))
    (sSeq (sFor (iR1 (aCons (oNow (eOpN (on1 opLenS) (aCons (oNow (eOp2 opIx (oVar 0) (oNow (eC (.int 2))))) (aNil)))) (aNil))) (gN 3) (B_l_every_close_1_1))
    (sRet (eMov 1)))))
@[simp] theorem io_l_every_close_1 : F_l_every_close_1.io = [] := rfl
noncomputable def B_l_bag_1_1 : Ev → Option Out := sSeq (sSet 7 (eCall F_l_close_1 (aCons (oVar 0) (aCons (oNow (eVar 4)) (aNil)))))
    (sIf (tB (eOp1 (opIsN false) (oVar 7))) (sExpr (eMut 2 opAppend (aCons (oNow (eVar 7)) (aNil)))) (sNil))
noncomputable def B_l_bag_1_2 : Ev → Option Out := sSeq (sSet 2 (eOp2 opAdd (oVar 2) (oNow (eCall F_l_reads_1 (aCons (oVar 0) (aCons (oNow (eVar 4)) (aCons (oNow (eVar 3)) (aNil))))))))
    (sSeq (sFor (iR1 (aCons (oNow (eCall F_l_take (aCons (oVar 0) (aCons (oNow (eC (.int 4))) (aNil))))) (aNil))) (gN 5) (B_l_bag_1_1))
    (sSeq (sIf (tB (eOp2 opEq (oNow (eCall F_l_take (aCons (oVar 0) (aCons (oNow (eC (.int 8))) (aNil))))) (oNow (eC (.int 0))))) (sSet 2 (eOp2 opAdd (oVar 2) (oNow (eCall F_l_every_close_1 (aCons (oNow (eVar 4)) (aNil)))))) (sNil))
    (sIf (tB (eOp2 opEq (oNow (eCall F_l_take (aCons (oVar 0) (aCons (oNow (eC (.int 2))) (aNil))))) (oNow (eC (.int 0))))) (sExpr (eMut 2 opAppend (aCons (oNow (eTup (aCons (oNow (eC (.str "clock"))) (aCons (oNow (eOp2 opIx (oVar 4) (oNow (eC (.int 0))))) (aCons (oNow (eOp2 opSub (oNow (eOp2 opIx (oVar 4) (oNow (eC (.int 1))))) (oNow (eCall F_l_take (aCons (oVar 0) (aCons (oNow (eC (.int 3))) (aNil))))))) (aCons (oNow (eOp2 opAdd (oNow (eOp2 opIx (oVar 4) (oNow (eC (.int 1))))) (oNow (eCall F_l_take (aCons (oVar 0) (aCons (oNow (eC (.int 3))) (aNil))))))) (aNil))))))) (aNil)))) (sNil))))
noncomputable def F_l_bag_1 : Fn := mkFn 2 8 [0] (sSeq (sSet 2 (eLst (aNil)))
    (sSeq (sSet 3 (eCall F_l_take (aCons (oVar 0) (aCons (oNow (eC (.int 10))) (aNil)))))
    (sSeq (sFor (iSeq (eVar 1)) (gN 4) (B_l_bag_1_2))
    (sSeq (sIf (tB (eOp2 opGt (oNow (eOpN (on1 opLenS) (aCons (oVar 2) (aNil)))) (oNow (eC (.int 0))))) (sSeq (sSet 6 (eCall F_l_take (aCons (oVar 0) (aCons (oNow (eOpN (on1 opLenS) (aCons (oVar 2) (aNil)))) (aNil)))))
    (sSet 2 (eOp2 opAdd (oNow (eOp2 opAdd (oNow (eSl (oVar 2) (ptS (eVar 6)) (ptN))) (oNow (eSl (oVar 2) (ptN) (ptS (eVar 6)))))) (oNow (eSl (oVar 2) (ptN) (ptS (eCall F_l_take (aCons (oVar 0) (aCons (oNow (eC (.int 3))) (aNil)))))))))) (sNil))
    (sSeq (sIf (tB (eOp2 opEq (oNow (eCall F_l_take (aCons (oVar 0) (aCons (oNow (eC (.int 2))) (aNil))))) (oNow (eC (.int 0))))) (sExpr (eMut 2 opReverse aNil)) (sNil))
    (sRet (eMov 2)))))))
@[simp] theorem io_l_bag_1 : F_l_bag_1.io = [0] := rfl
noncomputable def B_l_small_bag_1 : Ev → Option Out := sSeq (sSet 5 (eOp2 opIx (oNow (eOp2 opIx (oVar 1) (oNow (eC (.int 1))))) (oNow (eCall F_l_take (aCons (oVar 0) (aCons (oNow (eOpN (on1 opLenS) (aCons (oNow (eOp2 opIx (oVar 1) (oNow (eC (.int 1))))) (aNil)))) (aNil)))))))
    (sSeq (sSet 6 (eCall F_l_take (aCons (oVar 0) (aCons (oNow (eC (.int 5))) (aNil)))))
    (sSeq (sSet 7 (eCall F_l_take (aCons (oVar 0) (aCons (oNow (eC (.int 4))) (aNil)))))
    (sSeq (sIf (tB (eOp2 opEq (oNow (eCall F_l_take (aCons (oVar 0) (aCons (oNow (eC (.int 25))) (aNil))))) (oNow (eC (.int 0))))) (sSet 7 (eOp2 opIx (oNow (eLst (aCons (oNow (eC (.int 399))) (aCons (oNow (eC (.int 398))) (aCons (oNow (eC (.int 57))) (aNil)))))) (oNow (eOp2 opMod (oVar 7) (oNow (eC (.int 3))))))) (sNil))
    (sSeq (sSet 8 (eOp2 opSub (oNow (eOp2 opAdd (oNow (eOp2 opMul (oVar 7) (oNow (eC (.int 2))))) (oNow (eCall F_l_take (aCons (oVar 0) (aCons (oNow (eC (.int 4))) (aNil))))))) (oNow (eC (.int 1)))))
    (sIf (tB (eOp2 opEq (oVar 6) (oNow (eC (.int 0))))) (sExpr (eMut 3 opAppend (aCons (oNow (eTup (aCons (oNow (eC (.str "clock"))) (aCons (oNow (eOp2 opIx (oVar 5) (oNow (eC (.int 0))))) (aCons (oNow (eOp2 opSub (oNow (eCall F_l_take (aCons (oVar 0) (aCons (oNow (eC (.int 5))) (aNil))))) (oNow (eC (.int 3))))) (aCons (oNow (eOp2 opSub (oNow (eCall F_l_take (aCons (oVar 0) (aCons (oNow (eC (.int 5))) (aNil))))) (oNow (eC (.int 1))))) (aNil))))))) (aNil)))) (sIf (tB (eOp2 opEq (oVar 6) (oNow (eC (.int 1))))) (sExpr (eMut 3 opAppend (aCons (oNow (eTup (aCons (oNow (eC (.str "close"))) (aCons (oNow (eOp2 opIx (oVar 5) (oNow (eC (.int 0))))) (aCons (oNow (eVar 7)) (aCons (oNow (eVar 8)) (aCons (oNow (eOp2 opAdd (oNow (eOp2 opSub (oNow (eOp2 opAdd (oVar 7) (oNow (eCall F_l_take (aCons (oVar 0) (aCons (oNow (eC (.int 4))) (aNil))))))) (oNow (eC (.int 1))))) (oNow (eOpN (on1 opInt) (aCons (oNow (eOp2 opEq (oVar 7) (oNow (eC (.int 0))))) (aNil)))))) (aNil)))))))) (aNil)))) (sSeq (sSet 9 (eOp2 opIx (oNow (eLst (aCons (oNow (eC (.int 0))) (aCons (oNow (eC (.int 0))) (aCons (oNow (eC (.int 1))) (aCons (oNow (eC (.int 2))) (aNil))))))) (oNow (eCall F_l_take (aCons (oVar 0) (aCons (oNow (eC (.int 4))) (aNil)))))))
    (sSeq (sSet 10 (eOp2 opIx (oNow (eLst (aCons (oNow (eCall F_l_reading (aCons (oVar 0) (aCons (oNow (eVar 5)) (aNil))))) (aCons (oNow (eCall F_l_reading (aCons (oVar 0) (aCons (oNow (eVar 5)) (aNil))))) (aCons (oNow (eC .none)) (aNil)))))) (oNow (eCall F_l_take (aCons (oVar 0) (aCons (oNow (eC (.int 3))) (aNil)))))))
    (sExpr (eMut 3 opAppend (aCons (oNow (eTup (aCons (oNow (eC (.str "read"))) (aCons (oNow (eOp2 opIx (oVar 5) (oNow (eC (.int 0))))) (aCons (oNow (eOp2 opAdd (oVar 7) (oNow (eC (.int 1))))) (aCons (oNow (eVar 9)) (aCons (oNow (eVar 8)) (aCons (oNow (eVar 10)) (aNil))))))))) (aNil))))))))))))
noncomputable def F_l_small_bag : Fn := mkFn 3 11 [0] (sSeq (sSet 3 (eLst (aNil)))
    (sSeq (sFor (iR1 (aCons (oNow (eCall F_l_take (aCons (oVar 0) (aCons (oNow (eOp2 opAdd (oVar 2) (oNow (eC (.int 1))))) (aNil))))) (aNil))) (gN 4) (B_l_small_bag_1))
    (sRet (eMov 3))))
@[simp] theorem io_l_small_bag : F_l_small_bag.io = [0] := rfl
noncomputable def B_l_reads_fit_1 : Ev → Option Out := sSeq (sIf (tAn (tB (eOp2 opEq (oNow (eOp2 opIx (oVar 2) (oNow (eC (.int 2))))) (oNow (eOp2 opIx (oVar 3) (oNow (eC (.int 2))))))) (tOr' (tB (eOp2 opNe (oNow (eOp2 opIx (oVar 2) (oNow (eC (.int 4))))) (oNow (eOp2 opIx (oVar 3) (oNow (eC (.int 4))))))) (tAn (tB (eOp2 opEq (oNow (eOp2 opIx (oVar 2) (oNow (eC (.int 3))))) (oNow (eOp2 opIx (oVar 3) (oNow (eC (.int 3))))))) (tB (eOp2 opNe (oNow (eOp2 opIx (oVar 2) (oNow (eC (.int 5))))) (oNow (eOp2 opIx (oVar 3) (oNow (eC (.int 5)))))))))) (sRet (eC (.bool false))) (sNil))
    (sIf (tAn (tB (eOp2 opLt (oNow (eOp2 opIx (oVar 2) (oNow (eC (.int 2))))) (oNow (eOp2 opIx (oVar 3) (oNow (eC (.int 2))))))) (tB (eOp2 opGt (oNow (eOp2 opIx (oVar 2) (oNow (eC (.int 4))))) (oNow (eOp2 opIx (oVar 3) (oNow (eC (.int 4)))))))) (sRet (eC (.bool false))) (sNil))
noncomputable def B_l_reads_fit_2 : Ev → Option Out := sSeq (sIf (tAn (tB (eOp1 (opIsN true) (oNow (eOp2 opIx (oVar 2) (oNow (eC (.int 5))))))) (tB (eOp2 opEq (oNow (eOp2 opIx (oVar 2) (oNow (eC (.int 3))))) (oNow (eC (.int 0)))))) (sRet (eC (.bool false))) (sNil))
    (sSeq (sIf (tAn (tB (eOp1 (opIsN false) (oNow (eOp2 opIx (oVar 2) (oNow (eC (.int 5))))))) (tOr' (tB (eOp2 opLt (oNow (eOp2 opIx (oVar 2) (oNow (eC (.int 5))))) (oNow (eOp2 opIx (oVar 0) (oNow (eC (.int 1))))))) (tB (eOp2 opGt (oNow (eOp2 opIx (oVar 2) (oNow (eC (.int 5))))) (oNow (eOp2 opIx (oVar 0) (oNow (eC (.int 2))))))))) (sRet (eC (.bool false))) (sNil))
    (sFor (iSeq (eVar 1)) (gN 3) (B_l_reads_fit_1)))
noncomputable def F_l_reads_fit : Fn := mkFn 2 4 [] (sSeq (sFor (iSeq (eVar 1)) (gN 2) (B_l_reads_fit_2))
    (sRet (eC (.bool true))))
@[simp] theorem io_l_reads_fit : F_l_reads_fit.io = [] := rfl
noncomputable def B_l_closes_fit_1 : Ev → Option Out := sIf (tOr' (tAn (tB (eOp2 opEq (oNow (eOp2 opIx (oVar 2) (oNow (eC (.int 2))))) (oNow (eOp2 opIx (oVar 3) (oNow (eC (.int 2))))))) (tB (eOp2 opNe (oNow (eOp2 opIx (oVar 2) (oNow (eC (.int 4))))) (oNow (eOp2 opIx (oVar 3) (oNow (eC (.int 4)))))))) (tAn (tB (eOp2 opLt (oNow (eOp2 opIx (oVar 2) (oNow (eC (.int 2))))) (oNow (eOp2 opIx (oVar 3) (oNow (eC (.int 2))))))) (tB (eOp2 opGe (oNow (eOp2 opIx (oVar 2) (oNow (eC (.int 3))))) (oNow (eOp2 opIx (oVar 3) (oNow (eC (.int 3))))))))) (sRet (eC (.bool false))) (sNil)
noncomputable def B_l_closes_fit_2 : Ev → Option Out := sIf (tB (eOp2 opNe (oNow (eOp2 opLt (oNow (eOp2 opIx (oVar 4) (oNow (eC (.int 4))))) (oNow (eOp2 opIx (oVar 2) (oNow (eC (.int 3))))))) (oNow (eOp2 opLe (oNow (eOp2 opIx (oVar 4) (oNow (eC (.int 2))))) (oNow (eOp2 opIx (oVar 2) (oNow (eC (.int 2))))))))) (sRet (eC (.bool false))) (sNil)
noncomputable def B_l_closes_fit_3 : Ev → Option Out := sSeq (sIf (tAn (tB (eOp2 opEq (oNow (eOp2 opIx (oVar 2) (oNow (eC (.int 2))))) (oNow (eC (.int 0))))) (tB (eOp2 opNe (oNow (eOp2 opIx (oVar 2) (oNow (eC (.int 4))))) (oNow (eC (.int 0)))))) (sRet (eC (.bool false))) (sNil))
    (sSeq (sFor (iSeq (eVar 1)) (gN 3) (B_l_closes_fit_1))
    (sFor (iSeq (eVar 0)) (gN 4) (B_l_closes_fit_2)))
noncomputable def F_l_closes_fit : Fn := mkFn 2 5 [] (sSeq (sFor (iSeq (eVar 1)) (gN 2) (B_l_closes_fit_3))
    (sRet (eC (.bool true))))
@[simp] theorem io_l_closes_fit : F_l_closes_fit.io = [] := rfl
noncomputable def B_l_versions_fit_1 : Ev → Option Out := sSet 4 (eOp2 opAdd (oNow (eOp2 opAdd (oVar 4) (oNow (eOpN (on1 opMaxL) (aCons (oNow (eOp2 opAdd (oNow (eLst (aCons (oNow (eC (.int 0))) (aNil)))) (oNow (eLc (iSeq (eVar 0)) (gN 7) (tB (eOp2 opEq (oNow (eOp2 opIx (oVar 7) (oNow (eC (.int 2))))) (oVar 5))) (eOp2 opIx (oVar 7) (oNow (eC (.int 3)))) [7])))) (aNil)))))) (oNow (eC (.int 1))))
noncomputable def B_l_versions_fit_2 : Ev → Option Out := sSeq (sSet 4 (eC (.int 0)))
    (sSeq (sFor (iR2 (aCons (oNow (eOp2 opAdd (oNow (eOp2 opIx (oNow (eOp2 opIx (oVar 2) (oVar 3))) (oNow (eC (.int 0))))) (oNow (eC (.int 1))))) (aCons (oNow (eOp2 opAdd (oNow (eOp2 opIx (oNow (eOp2 opIx (oVar 2) (oNow (eOp2 opAdd (oVar 3) (oNow (eC (.int 1))))))) (oNow (eC (.int 0))))) (oNow (eC (.int 1))))) (aNil)))) (gN 5) (B_l_versions_fit_1))
    (sIf (tB (eOp2 opLt (oNow (eOp2 opSub (oNow (eOp2 opIx (oNow (eOp2 opIx (oVar 2) (oNow (eOp2 opAdd (oVar 3) (oNow (eC (.int 1))))))) (oNow (eC (.int 1))))) (oNow (eOp2 opIx (oNow (eOp2 opIx (oVar 2) (oVar 3))) (oNow (eC (.int 1))))))) (oVar 4))) (sRet (eC (.bool false))) (sNil)))
noncomputable def F_l_versions_fit : Fn := mkFn 2 8 [] (sSeq (sSet 2 (eOp2 opAdd (oNow (eLst (aCons (oNow (eTup (aCons (oNow (eC (.int 0))) (aCons (oNow (eC (.int 0))) (aNil))))) (aNil)))) (oNow (eLc (iSeq (eVar 1)) (gN 6) (tY) (eTup (aCons (oNow (eOp2 opIx (oVar 6) (oNow (eC (.int 2))))) (aCons (oNow (eOp2 opIx (oVar 6) (oNow (eC (.int 4))))) (aNil)))) [6]))))
    (sSeq (sSet 2 (eOp1 opSetT (oVar 2)))
    (sSeq (sFor (iR1 (aCons (oNow (eOp2 opSub (oNow (eOpN (on1 opLenS) (aCons (oVar 2) (aNil)))) (oNow (eC (.int 1))))) (aNil))) (gN 3) (B_l_versions_fit_2))
    (sRet (eC (.bool true))))))
@[simp] theorem io_l_versions_fit : F_l_versions_fit.io = [] := rfl
noncomputable def F_l_meter_possible : Fn := mkFn 2 8 [] (sSeq (sSet 2 (eLc (iSeq (eVar 1)) (gN 7) (tAn (tB (eOp2 opEq (oNow (eOp2 opIx (oVar 7) (oNow (eC (.int 0))))) (oNow (eC (.str "read"))))) (tB (eOp2 opEq (oNow (eOp2 opIx (oVar 7) (oNow (eC (.int 1))))) (oNow (eOp2 opIx (oVar 0) (oNow (eC (.int 0)))))))) (eVar 7) [7]))
    (sSeq (sSet 3 (eLc (iSeq (eVar 1)) (gN 7) (tAn (tB (eOp2 opEq (oNow (eOp2 opIx (oVar 7) (oNow (eC (.int 0))))) (oNow (eC (.str "close"))))) (tB (eOp2 opEq (oNow (eOp2 opIx (oVar 7) (oNow (eC (.int 1))))) (oNow (eOp2 opIx (oVar 0) (oNow (eC (.int 0)))))))) (eVar 7) [7]))
    (sSeq (sSet 4 (eLc (iSeq (eVar 1)) (gN 7) (tAn (tB (eOp2 opEq (oNow (eOp2 opIx (oVar 7) (oNow (eC (.int 0))))) (oNow (eC (.str "clock"))))) (tB (eOp2 opEq (oNow (eOp2 opIx (oVar 7) (oNow (eC (.int 1))))) (oNow (eOp2 opIx (oVar 0) (oNow (eC (.int 0)))))))) (eVar 7) [7]))
    (sSeq (sSet 5 (eOpN (on1 opMaxL) (aCons (oNow (eOp2 opAdd (oNow (eLst (aCons (oNow (eOp1 opNeg (oNow (eOp2 opIx (oVar 0) (oNow (eC (.int 3))))))) (aNil)))) (oNow (eLc (iSeq (eVar 4)) (gN 7) (tY) (eOp2 opIx (oVar 7) (oNow (eC (.int 2)))) [7])))) (aNil))))
    (sSeq (sSet 6 (eOpN (on1 opMinL) (aCons (oNow (eOp2 opAdd (oNow (eLst (aCons (oNow (eOp2 opIx (oVar 0) (oNow (eC (.int 3))))) (aNil)))) (oNow (eLc (iSeq (eVar 4)) (gN 7) (tY) (eOp2 opIx (oVar 7) (oNow (eC (.int 3)))) [7])))) (aNil))))
    (sSeq (sIf (tOr' (tB (eOp2 opGt (oVar 5) (oVar 6))) (tOr' (tNt (tB (eCall F_l_reads_fit (aCons (oNow (eVar 0)) (aCons (oNow (eVar 2)) (aNil)))))) (tNt (tB (eCall F_l_closes_fit (aCons (oNow (eVar 2)) (aCons (oNow (eVar 3)) (aNil)))))))) (sRet (eC (.bool false))) (sNil))
    (sRet (eCall F_l_versions_fit (aCons (oNow (eVar 2)) (aCons (oNow (eVar 3)) (aNil)))))))))))
@[simp] theorem io_l_meter_possible : F_l_meter_possible.io = [] := rfl
noncomputable def B_l_possible_1 : Ev → Option Out := sIf (tNt (tB (eCall F_l_meter_possible (aCons (oNow (eVar 2)) (aCons (oNow (eVar 1)) (aNil)))))) (sRet (eC (.bool false))) (sNil)
noncomputable def F_l_possible : Fn := mkFn 2 3 [] (sSeq (sFor (iSeq (eOp2 opIx (oVar 0) (oNow (eC (.int 1))))) (gN 2) (B_l_possible_1))
    (sRet (eC (.bool true))))
@[simp] theorem io_l_possible : F_l_possible.io = [] := rfl
noncomputable def F_l_far_clocks : Fn := mkFn 2 4 [0] (sSeq (sIf (tB (eOp2 opGt (oNow (eCall F_l_take (aCons (oVar 0) (aCons (oNow (eC (.int 4))) (aNil))))) (oNow (eC (.int 0))))) (sRet (eLst (aNil))) (sNil))
    (sSeq (sSet 2 (eOp2 opIx (oNow (eOp2 opIx (oVar 1) (oNow (eC (.int 1))))) (oNow (eCall F_l_take (aCons (oVar 0) (aCons (oNow (eOpN (on1 opLenS) (aCons (oNow (eOp2 opIx (oVar 1) (oNow (eC (.int 1))))) (aNil)))) (aNil)))))))
    (sSeq (sSet 3 (eOp2 opSub (oNow (eOp2 opSub (oNow (eCall F_l_take (aCons (oVar 0) (aCons (oNow (eOp2 opAdd (oNow (eOp2 opMul (oNow (eC (.int 2))) (oNow (eOp2 opIx (oVar 2) (oNow (eC (.int 3))))))) (oNow (eC (.int 3))))) (aNil))))) (oNow (eOp2 opIx (oVar 2) (oNow (eC (.int 3))))))) (oNow (eC (.int 1)))))
    (sRet (eLst (aCons (oNow (eTup (aCons (oNow (eC (.str "clock"))) (aCons (oNow (eOp2 opIx (oVar 2) (oNow (eC (.int 0))))) (aCons (oNow (eOp2 opSub (oVar 3) (oNow (eC (.int 30))))) (aCons (oNow (eOp2 opAdd (oVar 3) (oNow (eCall F_l_take (aCons (oVar 0) (aCons (oNow (eC (.int 3))) (aNil))))))) (aNil))))))) (aCons (oNow (eTup (aCons (oNow (eC (.str "clock"))) (aCons (oNow (eOp2 opIx (oVar 2) (oNow (eC (.int 0))))) (aCons (oNow (eVar 3)) (aCons (oNow (eOp2 opAdd (oVar 3) (oNow (eC (.int 40))))) (aNil))))))) (aNil))))))))
@[simp] theorem io_l_far_clocks : F_l_far_clocks.io = [0] := rfl
noncomputable def F_l_any_bag : Fn := mkFn 3 4 [0] (sSeq (sIf (tB (eOp2 opEq (oNow (eCall F_l_take (aCons (oVar 0) (aCons (oNow (eC (.int 2))) (aNil))))) (oNow (eC (.int 0))))) (sRet (eOp2 opAdd (oNow (eCall F_l_small_bag (aCons (oVar 0) (aCons (oNow (eVar 1)) (aCons (oNow (eC (.int 7))) (aNil)))))) (oNow (eCall F_l_far_clocks (aCons (oVar 0) (aCons (oNow (eVar 1)) (aNil))))))) (sNil))
    (sSeq (sSet 3 (eCall F_l_history (aCons (oVar 0) (aCons (oNow (eVar 1)) (aCons (oNow (eC (.int 4))) (aCons (oNow (eVar 2)) (aNil)))))))
    (sRet (eCall F_l_changed (aCons (oVar 0) (aCons (oNow (eVar 1)) (aCons (oNow (eOp2 opAdd (oNow (eCall F_l_bag_1 (aCons (oVar 0) (aCons (oNow (eVar 3)) (aNil))))) (oNow (eCall F_l_far_clocks (aCons (oVar 0) (aCons (oNow (eVar 1)) (aNil))))))) (aCons (oNow (eC (.int 3))) (aNil)))))))))
@[simp] theorem io_l_any_bag : F_l_any_bag.io = [0] := rfl
noncomputable def F_p_offsets_left : Fn := mkFn 3 3 [] (sRet (eCall F_p_offsets_of (aCons (oNow (eVar 0)) (aCons (oNow (eVar 1)) (aCons (oNow (eVar 2)) (aNil))))))
@[simp] theorem io_p_offsets_left : F_p_offsets_left.io = [] := rfl
noncomputable def F_l_same_1 : Nat → Fn
  | 0 => ⟨2, [], fun _ => none⟩
  | n + 1 => mkFn 2 3 [] (sSeq (sIf (tB (eOp1 (opIs "bool") (oVar 1))) (sRet (eAn (eOp1 (opIs "bool") (oVar 0)) (eOp2 opEq (oVar 0) (oVar 1)))) (sNil))
    (sSeq (sIf (tB (eOp1 (opIs "int") (oVar 1))) (sRet (eAn (eOp1 (opIs "int") (oVar 0)) (eAn (eNt (eOp1 (opIs "bool") (oVar 0))) (eOp2 opEq (oVar 0) (oVar 1))))) (sNil))
    (sSeq (sIf (tB (eOp1 (opIs "str") (oVar 1))) (sRet (eAn (eOp1 (opIs "str") (oVar 0)) (eOp2 opEq (oVar 0) (oVar 1)))) (sNil))
    (sSeq (sIf (tB (eOp1 (opIsN true) (oVar 1))) (sRet (eOp1 (opIsN true) (oVar 0))) (sNil))
    (sSeq (sIf (tAn (tB (eOp1 (opIs "tuple") (oVar 1))) (tNt (tB (eOp1 (opIs "tuple") (oVar 0))))) (sRet (eC (.bool false))) (sNil))
    (sSeq (sIf (tAn (tB (eOp1 (opIs "list") (oVar 1))) (tNt (tB (eOp1 (opIs "list") (oVar 0))))) (sRet (eC (.bool false))) (sNil))
    (sSeq (sIf (tB (eOp2 opNe (oNow (eOpN (on1 opLenS) (aCons (oVar 0) (aNil)))) (oNow (eOpN (on1 opLenS) (aCons (oVar 1) (aNil)))))) (sRet (eC (.bool false))) (sNil))
    (sSeq (sFor (iR1 (aCons (oNow (eOpN (on1 opLenS) (aCons (oVar 1) (aNil)))) (aNil))) (gN 2) (sIf (tNt (tB (eCall (F_l_same_1 n) (aCons (oNow (eOp2 opIx (oVar 0) (oVar 2))) (aCons (oNow (eOp2 opIx (oVar 1) (oVar 2))) (aNil)))))) (sRet (eC (.bool false))) (sNil)))
    (sRet (eC (.bool true)))))))))))
theorem np_l_same_1 : ∀ {n : Nat} args r, (F_l_same_1 n).run args = some r → args.length = (F_l_same_1 n).np
  | 0, args, r, h => nomatch (show (none : Option (Sv × Ev)) = some r from h)
  | n + 1, args, r, h => mkFn_np args r h
@[simp] theorem io_l_same_1 : ∀ (n : Nat), (F_l_same_1 n).io = []
  | 0 => rfl
  | n + 1 => rfl
noncomputable def B_l_slots_1_1 : Ev → Option Out := sSeq (sSet 9 (eOp2 opAdd (oNow (eOp2 opIx (oVar 1) (oNow (eC (.int 1))))) (oNow (eCall F_l_take (aCons (oVar 0) (aCons (oNow (eOp2 opAdd (oNow (eOp2 opSub (oNow (eOp2 opIx (oVar 1) (oNow (eC (.int 2))))) (oNow (eOp2 opIx (oVar 1) (oNow (eC (.int 1))))))) (oNow (eC (.int 1))))) (aNil)))))))
    (sExpr (eMut 7 opAppend (aCons (oNow (eOp2 opIx (oNow (eLst (aCons (oNow (eVar 9)) (aCons (oNow (eVar 9)) (aCons (oNow (eC .none)) (aNil)))))) (oNow (eCall F_l_take (aCons (oVar 0) (aCons (oNow (eC (.int 3))) (aNil))))))) (aNil))))
noncomputable def B_l_slots_1_2 : Ev → Option Out := sSeq (sSet 4 (eOp2 opAdd (oVar 4) (oNow (eOp2 opIx (oNow (eLst (aCons (oNow (eC (.int 0))) (aCons (oNow (eC (.int 1))) (aCons (oNow (eC (.int 2))) (aCons (oNow (eC (.int 7))) (aNil))))))) (oNow (eCall F_l_take (aCons (oVar 0) (aCons (oNow (eC (.int 4))) (aNil)))))))))
    (sSeq (sSet 7 (eLst (aCons (oNow (eOp2 opAdd (oNow (eOp2 opIx (oVar 1) (oNow (eC (.int 1))))) (oNow (eCall F_l_take (aCons (oVar 0) (aCons (oNow (eOp2 opAdd (oNow (eOp2 opSub (oNow (eOp2 opIx (oVar 1) (oNow (eC (.int 2))))) (oNow (eOp2 opIx (oVar 1) (oNow (eC (.int 1))))))) (oNow (eC (.int 1))))) (aNil))))))) (aNil))))
    (sSeq (sFor (iR1 (aCons (oNow (eOp2 opIx (oNow (eLst (aCons (oNow (eC (.int 0))) (aCons (oNow (eC (.int 0))) (aCons (oNow (eC (.int 0))) (aCons (oNow (eC (.int 1))) (aCons (oNow (eC (.int 2))) (aCons (oNow (eC (.int 0))) (aCons (oNow (eC (.int 1))) (aCons (oNow (eC (.int 7))) (aNil))))))))))) (oNow (eCall F_l_take (aCons (oVar 0) (aCons (oNow (eC (.int 8))) (aNil))))))) (aNil))) (gN 8) (B_l_slots_1_1))
    (sExpr (eMut 5 opAppend (aCons (oNow (eTup (aCons (oNow (eVar 4)) (aCons (oNow (eOpN (on1 opTuple) (aCons (oVar 7) (aNil)))) (aNil))))) (aNil))))))
noncomputable def F_l_slots_1 : Fn := mkFn 4 10 [0] (sSeq (sSet 4 (eOp2 opAdd (oNow (eOp2 opSub (oNow (eCall F_l_take (aCons (oVar 0) (aCons (oNow (eC (.int 25))) (aNil))))) (oNow (eC (.int 12))))) (oVar 3)))
    (sSeq (sSet 5 (eLst (aNil)))
    (sSeq (sFor (iR1 (aCons (oNow (eCall F_l_take (aCons (oVar 0) (aCons (oNow (eOp2 opAdd (oVar 2) (oNow (eC (.int 1))))) (aNil))))) (aNil))) (gN 6) (B_l_slots_1_2))
    (sRet (eOpN (on1 opTuple) (aCons (oVar 5) (aNil)))))))
@[simp] theorem io_l_slots_1 : F_l_slots_1.io = [0] := rfl
noncomputable def B_l_history_1_1 : Ev → Option Out := sSeq (sSet 6 (eOp2 opSub (oNow (eCall F_l_take (aCons (oVar 0) (aCons (oNow (eOp2 opAdd (oNow (eOp2 opMul (oNow (eC (.int 2))) (oNow (eOp2 opIx (oVar 5) (oNow (eC (.int 3))))))) (oNow (eC (.int 1))))) (aNil))))) (oNow (eOp2 opIx (oVar 5) (oNow (eC (.int 3)))))))
    (sExpr (eMut 4 opAppend (aCons (oNow (eTup (aCons (oNow (eOp2 opIx (oVar 5) (oNow (eC (.int 0))))) (aCons (oNow (eVar 6)) (aCons (oNow (eCall F_l_slots_1 (aCons (oVar 0) (aCons (oNow (eVar 5)) (aCons (oNow (eVar 2)) (aCons (oNow (eVar 3)) (aNil))))))) (aNil)))))) (aNil))))
noncomputable def F_l_history_1 : Fn := mkFn 4 7 [0] (sSeq (sSet 4 (eLst (aNil)))
    (sSeq (sFor (iSeq (eOp2 opIx (oVar 1) (oNow (eC (.int 1))))) (gN 5) (B_l_history_1_1))
    (sRet (eOpN (on1 opTuple) (aCons (oVar 4) (aNil))))))
@[simp] theorem io_l_history_1 : F_l_history_1.io = [0] := rfl
noncomputable def F_l_shift : Fn := mkFn 2 2 [0] (sSeq (sIf (tB (eOp2 opEq (oNow (eCall F_l_take (aCons (oVar 0) (aCons (oNow (eC (.int 6))) (aNil))))) (oNow (eC (.int 0))))) (sRet (eCall F_l_cell (aCons (oNow (eVar 1)) (aCons (oVar 0) (aNil))))) (sNil))
    (sRet (eC (.int 0))))
@[simp] theorem io_l_shift : F_l_shift.io = [0] := rfl
noncomputable def F_l_close_2 : Fn := mkFn 3 5 [] (sSeq (sSet 3 (eVar 2))
    (sSeq (sIf (tB (eOp2 opGt (oVar 1) (oNow (eC (.int 0))))) (sSet 3 (eOp2 opAdd (oNow (eOp2 opAdd (oNow (eOp2 opIx (oNow (eOp2 opIx (oNow (eOp2 opIx (oVar 0) (oNow (eC (.int 2))))) (oNow (eOp2 opSub (oVar 1) (oNow (eC (.int 1))))))) (oNow (eC (.int 0))))) (oNow (eC (.int 1))))) (oVar 2))) (sNil))
    (sSeq (sIf (tB (eOp2 opLt (oVar 1) (oNow (eOpN (on1 opLenS) (aCons (oNow (eOp2 opIx (oVar 0) (oNow (eC (.int 2))))) (aNil)))))) (sSet 3 (eOp2 opSub (oNow (eOp2 opIx (oNow (eOp2 opIx (oNow (eOp2 opIx (oVar 0) (oNow (eC (.int 2))))) (oVar 1))) (oNow (eC (.int 0))))) (oVar 2))) (sNil))
    (sSeq (sIf (tAn (tB (eOp2 opLt (oVar 1) (oNow (eOpN (on1 opLenS) (aCons (oNow (eOp2 opIx (oVar 0) (oNow (eC (.int 2))))) (aNil)))))) (tAn (tB (eOp2 opGt (oVar 1) (oNow (eC (.int 0))))) (tB (eOp2 opLe (oVar 3) (oNow (eOp2 opIx (oNow (eOp2 opIx (oNow (eOp2 opIx (oVar 0) (oNow (eC (.int 2))))) (oNow (eOp2 opSub (oVar 1) (oNow (eC (.int 1))))))) (oNow (eC (.int 0))))))))) (sRet (eC .none)) (sNil))
    (sRet (eTup (aCons (oNow (eC (.str "close"))) (aCons (oNow (eOp2 opIx (oVar 0) (oNow (eC (.int 0))))) (aCons (oNow (eVar 1)) (aCons (oNow (eVar 3)) (aCons (oNow (eOpN (on1 opSumA) (aCons (oNow (eLc (iSeq (eSl (oNow (eOp2 opIx (oVar 0) (oNow (eC (.int 2))))) (ptN) (ptS (eVar 1)))) (gN 4) (tY) (eOpN (on1 opLenS) (aCons (oNow (eOp2 opIx (oVar 4) (oNow (eC (.int 1))))) (aNil))) [4])) (aNil)))) (aNil))))))))))))
@[simp] theorem io_l_close_2 : F_l_close_2.io = [] := rfl
noncomputable def B_l_letters_1 : Ev → Option Out := sIf (tB (eOp2 opLt (oNow (eCall F_l_take (aCons (oVar 0) (aCons (oNow (eC (.int 8))) (aNil))))) (oVar 2))) (sExpr (eMut 3 opAppend (aCons (oNow (eTup (aCons (oNow (eC (.str "read"))) (aCons (oNow (eOp2 opIx (oVar 4) (oNow (eC (.int 0))))) (aCons (oNow (eOp2 opAdd (oVar 5) (oNow (eC (.int 1))))) (aCons (oNow (eVar 6)) (aCons (oNow (eOp2 opIx (oNow (eOp2 opIx (oNow (eOp2 opIx (oVar 4) (oNow (eC (.int 2))))) (oVar 5))) (oNow (eC (.int 0))))) (aCons (oNow (eOp2 opIx (oNow (eOp2 opIx (oNow (eOp2 opIx (oNow (eOp2 opIx (oVar 4) (oNow (eC (.int 2))))) (oVar 5))) (oNow (eC (.int 1))))) (oVar 6))) (aNil))))))))) (aNil)))) (sNil)
noncomputable def B_l_letters_2 : Ev → Option Out := sFor (iR1 (aCons (oNow (eOpN (on1 opLenS) (aCons (oNow (eOp2 opIx (oNow (eOp2 opIx (oNow (eOp2 opIx (oVar 4) (oNow (eC (.int 2))))) (oVar 5))) (oNow (eC (.int 1))))) (aNil)))) (aNil))) (gN 6) (B_l_letters_1)
noncomputable def B_l_letters_3 : Ev → Option Out := sSeq (sSet 7 (eOp2 opSub (oNow (eOpN (on1 opLenS) (aCons (oNow (eOp2 opIx (oVar 4) (oNow (eC (.int 2))))) (aNil)))) (oNow (eOp2 opIx (oNow (eLst (aCons (oNow (eC (.int 0))) (aCons (oNow (eC (.int 0))) (aCons (oNow (eCall F_l_take (aCons (oVar 0) (aCons (oNow (eOp2 opAdd (oNow (eOpN (on1 opLenS) (aCons (oNow (eOp2 opIx (oVar 4) (oNow (eC (.int 2))))) (aNil)))) (oNow (eC (.int 1))))) (aNil))))) (aNil)))))) (oNow (eCall F_l_take (aCons (oVar 0) (aCons (oNow (eC (.int 3))) (aNil)))))))))
    (sSeq (sSet 8 (eCall F_l_close_2 (aCons (oNow (eVar 4)) (aCons (oNow (eVar 7)) (aCons (oNow (eCall F_l_take (aCons (oVar 0) (aCons (oNow (eC (.int 4))) (aNil))))) (aNil))))))
    (sIf (tB (eOp1 (opIsN false) (oVar 8))) (sExpr (eMut 3 opAppend (aCons (oNow (eVar 8)) (aNil)))) (sNil)))
noncomputable def B_l_letters_4 : Ev → Option Out := sSeq (sFor (iR1 (aCons (oNow (eOpN (on1 opLenS) (aCons (oNow (eOp2 opIx (oVar 4) (oNow (eC (.int 2))))) (aNil)))) (aNil))) (gN 5) (B_l_letters_2))
    (sSeq (sFor (iR1 (aCons (oNow (eCall F_l_take (aCons (oVar 0) (aCons (oNow (eC (.int 4))) (aNil))))) (aNil))) (gN 5) (B_l_letters_3))
    (sIf (tB (eOp2 opEq (oNow (eCall F_l_take (aCons (oVar 0) (aCons (oNow (eC (.int 2))) (aNil))))) (oNow (eC (.int 1))))) (sExpr (eMut 3 opAppend (aCons (oNow (eTup (aCons (oNow (eC (.str "clock"))) (aCons (oNow (eOp2 opIx (oVar 4) (oNow (eC (.int 0))))) (aCons (oNow (eOp2 opSub (oNow (eOp2 opIx (oVar 4) (oNow (eC (.int 1))))) (oNow (eCall F_l_take (aCons (oVar 0) (aCons (oNow (eC (.int 2))) (aNil))))))) (aCons (oNow (eOp2 opAdd (oNow (eOp2 opIx (oVar 4) (oNow (eC (.int 1))))) (oNow (eCall F_l_take (aCons (oVar 0) (aCons (oNow (eC (.int 3))) (aNil))))))) (aNil))))))) (aNil)))) (sNil)))
noncomputable def F_l_letters : Fn := mkFn 3 9 [0] (sSeq (sSet 3 (eLst (aNil)))
    (sSeq (sFor (iSeq (eVar 1)) (gN 4) (B_l_letters_4))
    (sRet (eMov 3))))
@[simp] theorem io_l_letters : F_l_letters.io = [0] := rfl
noncomputable def B_l_mixed_1 : Ev → Option Out := sSeq (sExpr (eMut 2 opInsert (aCons (oNow (eCall F_l_take (aCons (oVar 0) (aCons (oNow (eOp2 opAdd (oNow (eOpN (on1 opLenS) (aCons (oVar 2) (aNil)))) (oNow (eC (.int 1))))) (aNil))))) (aCons (oNow (eVar 3)) (aNil)))))
    (sIf (tB (eOp2 opEq (oNow (eCall F_l_take (aCons (oVar 0) (aCons (oNow (eC (.int 6))) (aNil))))) (oNow (eC (.int 1))))) (sExpr (eMut 2 opAppend (aCons (oNow (eVar 3)) (aNil)))) (sNil))
noncomputable def F_l_mixed : Fn := mkFn 2 4 [0] (sSeq (sSet 2 (eLst (aNil)))
    (sSeq (sFor (iSeq (eVar 1)) (gN 3) (B_l_mixed_1))
    (sRet (eMov 2))))
@[simp] theorem io_l_mixed : F_l_mixed.io = [0] := rfl
noncomputable def B_l_plan_3_1 : Ev → Option Out := sSeq (sSet 7 (eOp2 opAdd (oNow (eCall F_l_word (aCons (oNow (eOp2 opAdd (oVar 4) (oNow (eOp2 opMul (oNow (eC (.int 7))) (oVar 6))))) (aNil)))) (oNow (eOp2 opIx (oNow (eLst (aCons (oNow (eC (.str ""))) (aCons (oNow (eC (.str ""))) (aCons (oNow (eC (.str "a"))) (aCons (oNow (eC (.str "zz"))) (aNil))))))) (oNow (eCall F_l_take (aCons (oVar 0) (aCons (oNow (eC (.int 4))) (aNil)))))))))
    (sSeq (sIf (tB (eVar 5)) (sSet 7 (eOp2 opAdd (oNow (eCall F_l_word (aCons (oNow (eVar 4)) (aNil)))) (oNow (eCall F_l_word (aCons (oNow (eVar 6)) (aNil)))))) (sNil))
    (sSeq (sSet 8 (eOp2 opSub (oNow (eCall F_l_take (aCons (oVar 0) (aCons (oNow (eC (.int 7))) (aNil))))) (oNow (eC (.int 3)))))
    (sSeq (sIf (tB (eOp2 opEq (oNow (eCall F_l_take (aCons (oVar 0) (aCons (oNow (eC (.int 8))) (aNil))))) (oNow (eC (.int 0))))) (sSet 8 (eOp2 opAdd (oVar 8) (oNow (eCall F_l_cell (aCons (oNow (eVar 1)) (aCons (oVar 0) (aNil))))))) (sNil))
    (sSeq (sSet 9 (eOp2 opIx (oNow (eLst (aCons (oNow (eC (.int 0))) (aCons (oNow (eC (.int 1))) (aCons (oNow (eC (.int 1))) (aCons (oNow (eC (.int 2))) (aCons (oNow (eC (.int 5))) (aCons (oNow (eC (.int 40))) (aNil))))))))) (oNow (eCall F_l_take (aCons (oVar 0) (aCons (oNow (eC (.int 6))) (aNil)))))))
    (sExpr (eMut 3 opAppend (aCons (oNow (eTup (aCons (oNow (eVar 7)) (aCons (oNow (eVar 8)) (aCons (oNow (eOp2 opAdd (oVar 8) (oVar 9))) (aCons (oNow (eOp2 opIx (oNow (eLst (aCons (oNow (eC (.int 0))) (aCons (oNow (eC (.int 0))) (aCons (oNow (eC (.int 1))) (aCons (oNow (eC (.int 2))) (aNil))))))) (oNow (eCall F_l_take (aCons (oVar 0) (aCons (oNow (eC (.int 4))) (aNil))))))) (aNil))))))) (aNil))))))))
noncomputable def F_l_plan_3 : Fn := mkFn 3 10 [0] (sSeq (sSet 3 (eLst (aNil)))
    (sSeq (sSet 4 (eOp2 opAdd (oNow (eC (.int 1))) (oNow (eCall F_l_take (aCons (oVar 0) (aCons (oNow (eC (.int 700))) (aNil)))))))
    (sSeq (sSet 5 (eOp2 opEq (oNow (eCall F_l_take (aCons (oVar 0) (aCons (oNow (eC (.int 4))) (aNil))))) (oNow (eC (.int 0)))))
    (sSeq (sFor (iR1 (aCons (oNow (eOp2 opAdd (oNow (eC (.int 1))) (oNow (eCall F_l_take (aCons (oVar 0) (aCons (oNow (eVar 2)) (aNil))))))) (aNil))) (gN 6) (B_l_plan_3_1))
    (sRet (eTup (aCons (oNow (eOp2 opIx (oNow (eLst (aCons (oNow (eC (.int 1))) (aCons (oNow (eC (.int 2))) (aCons (oNow (eC (.int 5))) (aCons (oNow (eC (.int 10))) (aCons (oNow (eC (.int 10))) (aCons (oNow (eOp2 opAdd (oNow (eC (.int 1))) (oNow (eCall F_l_take (aCons (oVar 0) (aCons (oNow (eC (.int 90))) (aNil))))))) (aNil))))))))) (oNow (eCall F_l_take (aCons (oVar 0) (aCons (oNow (eC (.int 6))) (aNil))))))) (aCons (oNow (eOpN (on1 opTuple) (aCons (oNow (eOpN (on1 opSorted) (aCons (oVar 3) (aNil)))) (aNil)))) (aNil)))))))))
@[simp] theorem io_l_plan_3 : F_l_plan_3.io = [0] := rfl
noncomputable def B_l_plan_2_1 : Ev → Option Out := sSeq (sSet 7 (eOp2 opAdd (oNow (eCall F_l_word (aCons (oNow (eOp2 opAdd (oVar 4) (oNow (eOp2 opMul (oNow (eC (.int 7))) (oVar 6))))) (aNil)))) (oNow (eOp2 opIx (oNow (eLst (aCons (oNow (eC (.str ""))) (aCons (oNow (eC (.str ""))) (aCons (oNow (eC (.str "a"))) (aCons (oNow (eC (.str "zz"))) (aNil))))))) (oNow (eCall F_l_take (aCons (oVar 0) (aCons (oNow (eC (.int 4))) (aNil)))))))))
    (sSeq (sIf (tB (eVar 5)) (sSet 7 (eOp2 opAdd (oNow (eCall F_l_word (aCons (oNow (eVar 4)) (aNil)))) (oNow (eCall F_l_word (aCons (oNow (eVar 6)) (aNil)))))) (sNil))
    (sSeq (sSet 8 (eOp2 opSub (oNow (eCall F_l_take (aCons (oVar 0) (aCons (oNow (eC (.int 7))) (aNil))))) (oNow (eC (.int 3)))))
    (sSeq (sIf (tB (eOp2 opEq (oNow (eCall F_l_take (aCons (oVar 0) (aCons (oNow (eC (.int 8))) (aNil))))) (oNow (eC (.int 0))))) (sSet 8 (eOp2 opAdd (oVar 8) (oNow (eCall F_l_cell (aCons (oNow (eVar 1)) (aCons (oVar 0) (aNil))))))) (sNil))
    (sSeq (sSet 9 (eOp2 opIx (oNow (eLst (aCons (oNow (eC (.int 0))) (aCons (oNow (eC (.int 1))) (aCons (oNow (eC (.int 1))) (aCons (oNow (eC (.int 2))) (aCons (oNow (eC (.int 5))) (aCons (oNow (eC (.int 40))) (aNil))))))))) (oNow (eCall F_l_take (aCons (oVar 0) (aCons (oNow (eC (.int 6))) (aNil)))))))
    (sExpr (eMut 3 opAppend (aCons (oNow (eTup (aCons (oNow (eVar 7)) (aCons (oNow (eVar 8)) (aCons (oNow (eOp2 opAdd (oVar 8) (oVar 9))) (aCons (oNow (eOp2 opIx (oNow (eLst (aCons (oNow (eC (.int 0))) (aCons (oNow (eC (.int 0))) (aCons (oNow (eC (.int 1))) (aCons (oNow (eC (.int 2))) (aNil))))))) (oNow (eCall F_l_take (aCons (oVar 0) (aCons (oNow (eC (.int 4))) (aNil))))))) (aNil))))))) (aNil))))))))
noncomputable def F_l_plan_2 : Fn := mkFn 3 10 [0] (sSeq (sSet 3 (eLst (aNil)))
    (sSeq (sSet 4 (eOp2 opAdd (oNow (eC (.int 1))) (oNow (eCall F_l_take (aCons (oVar 0) (aCons (oNow (eC (.int 700))) (aNil)))))))
    (sSeq (sSet 5 (eOp2 opEq (oNow (eCall F_l_take (aCons (oVar 0) (aCons (oNow (eC (.int 4))) (aNil))))) (oNow (eC (.int 0)))))
    (sSeq (sFor (iR1 (aCons (oNow (eOp2 opAdd (oNow (eC (.int 1))) (oNow (eCall F_l_take (aCons (oVar 0) (aCons (oNow (eVar 2)) (aNil))))))) (aNil))) (gN 6) (B_l_plan_2_1))
    (sRet (eTup (aCons (oNow (eOp2 opIx (oNow (eLst (aCons (oNow (eC (.int 1))) (aCons (oNow (eC (.int 2))) (aCons (oNow (eC (.int 5))) (aCons (oNow (eC (.int 10))) (aCons (oNow (eC (.int 10))) (aCons (oNow (eOp2 opAdd (oNow (eC (.int 1))) (oNow (eCall F_l_take (aCons (oVar 0) (aCons (oNow (eC (.int 90))) (aNil))))))) (aNil))))))))) (oNow (eCall F_l_take (aCons (oVar 0) (aCons (oNow (eC (.int 6))) (aNil))))))) (aCons (oNow (eOpN (on1 opTuple) (aCons (oNow (eOpN (on1 opSorted) (aCons (oVar 3) (aNil)))) (aNil)))) (aNil)))))))))
@[simp] theorem io_l_plan_2 : F_l_plan_2.io = [0] := rfl
noncomputable def F_l_offsets : Fn := mkFn 3 10 [] (sSeq (sSet 3 (eOp2 opIx (oNow (eLc (iSeq (eOp2 opIx (oVar 0) (oNow (eC (.int 1))))) (gN 9) (tB (eOp2 opEq (oNow (eOp2 opIx (oVar 9) (oNow (eC (.int 0))))) (oVar 2))) (eOp2 opIx (oVar 9) (oNow (eC (.int 3)))) [9])) (oNow (eC (.int 0)))))
    (sSeq (sSet 4 (eLc (iSeq (eVar 1)) (gN 7) (tAn (tB (eOp2 opEq (oNow (eOp2 opIx (oVar 7) (oNow (eC (.int 0))))) (oNow (eC (.str "clock"))))) (tB (eOp2 opEq (oNow (eOp2 opIx (oVar 7) (oNow (eC (.int 1))))) (oVar 2)))) (eVar 7) [7]))
    (sSeq (sSet 5 (eOpN (on1 opMaxL) (aCons (oNow (eOp2 opAdd (oNow (eLst (aCons (oNow (eOp1 opNeg (oVar 3))) (aNil)))) (oNow (eLc (iSeq (eVar 4)) (gN 7) (tY) (eOp2 opIx (oVar 7) (oNow (eC (.int 2)))) [7])))) (aNil))))
    (sSeq (sSet 6 (eOpN (on1 opMinL) (aCons (oNow (eOp2 opAdd (oNow (eLst (aCons (oNow (eVar 3)) (aNil)))) (oNow (eLc (iSeq (eVar 4)) (gN 7) (tY) (eOp2 opIx (oVar 7) (oNow (eC (.int 3)))) [7])))) (aNil))))
    (sRet (eLc (iR1 (aCons (oNow (eOp2 opAdd (oNow (eOp2 opSub (oVar 6) (oVar 5))) (oNow (eC (.int 1))))) (aNil))) (gN 8) (tY) (eOp2 opAdd (oVar 5) (oVar 8)) [8]))))))
@[simp] theorem io_l_offsets : F_l_offsets.io = [] := rfl
noncomputable def F_l_wide : Fn := mkFn 2 3 [0] (sSeq (sIf (tB (eOp2 opGt (oNow (eCall F_l_take (aCons (oVar 0) (aCons (oNow (eC (.int 5))) (aNil))))) (oNow (eC (.int 0))))) (sRet (eMov 1)) (sNil))
    (sRet (eTup (aCons (oNow (eOp2 opIx (oVar 1) (oNow (eC (.int 0))))) (aCons (oNow (eOpN (on1 opTuple) (aCons (oNow (eLc (iSeq (eOp2 opIx (oVar 1) (oNow (eC (.int 1))))) (gN 2) (tY) (eTup (aCons (oNow (eOp2 opIx (oVar 2) (oNow (eC (.int 0))))) (aCons (oNow (eOp2 opIx (oVar 2) (oNow (eC (.int 1))))) (aCons (oNow (eOp2 opIx (oVar 2) (oNow (eC (.int 2))))) (aCons (oNow (eC (.int 60))) (aNil)))))) [2])) (aNil)))) (aNil))))))
@[simp] theorem io_l_wide : F_l_wide.io = [0] := rfl
noncomputable def B_l_clocks_1_1 : Ev → Option Out := sSeq (sSet 5 (eOp2 opIx (oVar 2) (oNow (eCall F_l_take (aCons (oVar 0) (aCons (oNow (eOpN (on1 opLenS) (aCons (oVar 2) (aNil)))) (aNil)))))))
    (sSeq (sSet 6 (eOp2 opSub (oNow (eOp2 opIx (oVar 5) (oNow (eC (.int 1))))) (oNow (eOp2 opIx (oNow (eLst (aCons (oNow (eC (.int 0))) (aCons (oNow (eC (.int 1))) (aCons (oNow (eC (.int 3))) (aCons (oNow (eOpN (on1 opAbs) (aCons (oNow (eCall F_l_cell (aCons (oNow (eVar 1)) (aCons (oVar 0) (aNil))))) (aNil)))) (aNil))))))) (oNow (eCall F_l_take (aCons (oVar 0) (aCons (oNow (eC (.int 4))) (aNil)))))))))
    (sSeq (sSet 7 (eOp2 opAdd (oNow (eOp2 opIx (oVar 5) (oNow (eC (.int 1))))) (oNow (eOp2 opIx (oNow (eLst (aCons (oNow (eC (.int 0))) (aCons (oNow (eC (.int 1))) (aCons (oNow (eC (.int 3))) (aCons (oNow (eOpN (on1 opAbs) (aCons (oNow (eCall F_l_cell (aCons (oNow (eVar 1)) (aCons (oVar 0) (aNil))))) (aNil)))) (aNil))))))) (oNow (eCall F_l_take (aCons (oVar 0) (aCons (oNow (eC (.int 4))) (aNil)))))))))
    (sExpr (eMut 3 opAppend (aCons (oNow (eTup (aCons (oNow (eC (.str "clock"))) (aCons (oNow (eOp2 opIx (oVar 5) (oNow (eC (.int 0))))) (aCons (oNow (eVar 6)) (aCons (oNow (eVar 7)) (aNil))))))) (aNil))))))
noncomputable def F_l_clocks_1 : Fn := mkFn 3 8 [0] (sSeq (sSet 3 (eLst (aNil)))
    (sSeq (sFor (iR1 (aCons (oNow (eCall F_l_take (aCons (oVar 0) (aCons (oNow (eC (.int 6))) (aNil))))) (aNil))) (gN 4) (B_l_clocks_1_1))
    (sRet (eMov 3))))
@[simp] theorem io_l_clocks_1 : F_l_clocks_1.io = [0] := rfl
noncomputable def B_law_61_1 : Ev → Option Out := sIf (tNt (tB (eCall (F_l_same_1 10) (aCons (oNow (eCall F_p_offsets_left (aCons (oNow (eVar 2)) (aCons (oNow (eVar 10)) (aCons (oNow (eOp2 opIx (oVar 6) (oNow (eC (.int 0))))) (aNil)))))) (aCons (oNow (eVar 8)) (aNil)))))) (sRet (eC (.bool false))) (sNil)
noncomputable def B_law_61_2 : Ev → Option Out := sSeq (sSet 7 (eCall F_l_offsets (aCons (oNow (eVar 2)) (aCons (oNow (eVar 4)) (aCons (oNow (eOp2 opIx (oVar 6) (oNow (eC (.int 0))))) (aNil))))))
    (sSeq (sSet 8 (eTup (aCons (oNow (eOp2 opIx (oVar 7) (oNow (eC (.int 0))))) (aCons (oNow (eOp2 opIx (oVar 7) (oNow (eOp1 opNeg (oNow (eC (.int 1))))))) (aNil)))))
    (sSeq (sIf (tOr' (tNt (tB (eCall (F_l_same_1 10) (aCons (oNow (eCall F_p_offsets_left (aCons (oNow (eVar 2)) (aCons (oNow (eVar 5)) (aCons (oNow (eOp2 opIx (oVar 6) (oNow (eC (.int 0))))) (aNil)))))) (aCons (oNow (eVar 8)) (aNil)))))) (tB (eOp2 opNe (oVar 5) (oVar 4)))) (sRet (eC (.bool false))) (sNil))
    (sSeq (sSet 9 (eLc (iSeq (eVar 4)) (gN 11) (tB (eOp2 opEq (oNow (eOp2 opIx (oVar 11) (oNow (eC (.int 1))))) (oNow (eOp2 opIx (oVar 6) (oNow (eC (.int 0))))))) (eVar 11) [11]))
    (sSeq (sFor (iSeq (eLst (aCons (oNow (eOpN (on1 opTuple) (aCons (oNow (eOp1 opRev (oVar 4))) (aNil)))) (aCons (oNow (eVar 9)) (aNil))))) (gN 10) (B_law_61_1))
    (sIf (tNt (tB (eCall (F_l_same_1 10) (aCons (oNow (eCall F_p_offsets_left (aCons (oNow (eVar 2)) (aCons (oNow (eTup (aNil))) (aCons (oNow (eOp2 opIx (oVar 6) (oNow (eC (.int 0))))) (aNil)))))) (aCons (oNow (eTup (aCons (oNow (eOp1 opNeg (oNow (eOp2 opIx (oVar 6) (oNow (eC (.int 3))))))) (aCons (oNow (eOp2 opIx (oVar 6) (oNow (eC (.int 3))))) (aNil))))) (aNil)))))) (sRet (eC (.bool false))) (sNil))))))
noncomputable def F_law_61 : Fn := mkFn 1 12 [] (sSeq (sSet 1 (eCall F_l_draws (aCons (oNow (eVar 0)) (aCons (oNow (eC (.int 420))) (aNil)))))
    (sSeq (sSet 2 (eCall F_l_wide (aCons (oVar 1) (aCons (oNow (eCall F_l_plan_2 (aCons (oVar 1) (aCons (oNow (eVar 0)) (aCons (oNow (eC (.int 3))) (aNil)))))) (aNil)))))
    (sSeq (sSet 3 (eCall F_l_history_1 (aCons (oVar 1) (aCons (oNow (eVar 2)) (aCons (oNow (eC (.int 5))) (aCons (oNow (eCall F_l_shift (aCons (oVar 1) (aCons (oNow (eVar 0)) (aNil))))) (aNil)))))))
    (sSeq (sSet 4 (eOp2 opAdd (oNow (eCall F_l_letters (aCons (oVar 1) (aCons (oNow (eVar 3)) (aCons (oNow (eCall F_l_take (aCons (oVar 1) (aCons (oNow (eC (.int 9))) (aNil))))) (aNil)))))) (oNow (eCall F_l_clocks_1 (aCons (oVar 1) (aCons (oNow (eVar 0)) (aCons (oNow (eVar 3)) (aNil))))))))
    (sSeq (sSet 4 (eCall F_l_mixed (aCons (oVar 1) (aCons (oNow (eVar 4)) (aNil)))))
    (sSeq (sSet 5 (eOpN (on1 opList) (aCons (oVar 4) (aNil))))
    (sSeq (sFor (iSeq (eOp2 opIx (oVar 2) (oNow (eC (.int 1))))) (gN 6) (B_law_61_2))
    (sRet (eC (.bool true))))))))))
@[simp] theorem io_law_61 : F_law_61.io = [] := rfl
end Lw
namespace Lw
open PySem PySem.Spec PyProof.Rows L2 DL
theorem l_take_run (st : List Int) {m : Int} (h : 0 < m) : F_l_take.run [iL st, .dat (.int m)] = some (.dat (.int (tkV st m)), [some (iL (tkS st)), none]) := by
  refine Wp.eq ?_
  unfold F_l_take
  by_cases e : st = []
  · subst e
    simp [tk_nil, tkS]
  · have e' : ¬ ((st.length : Int) = 0) := by simpa using e
    have := map_last e
    rw [List.getElem?_map] at this
    simp [h, tkV, tkS, e', e, this]
def clV (ns st : List Int) : Int := nthI ns (tkV st ns.length)
def clS (ns st : List Int) : List Int := if ns = [] then st else tkS st
theorem l_cell_run (ns st : List Int) (hl : ns.length ≤ 1000) : F_l_cell.run [iS ns, iL st] = some (.dat (.int (clV ns st)), [none, some (iL (clS ns st))]) := by
  refine Wp.eq ?_
  unfold F_l_cell
  by_cases e : ns = []
  · subst e
    simp [clV, clS, nthI]
  · have e' : ¬ ((ns.length : Int) = 0) := by simpa using e
    have e2 : 0 < (ns.length : Int) := by have := List.length_pos_iff.mpr e; omega
    simp [e', e, l_take_run st e2, atI_int (tk_lo st e2) (tk_hi st e2), clV, clS]
theorem draws_loop (sc : Sv) (cs rs : List Int) (he : cs ≠ []) (hl : cs.length ≤ 1001) (hr : rs.length = cs.length) (hb : ∀ n ∈ cs, n.natAbs.log2 < 2 ^ 20) {m : Nat} (hm : m ≤ 1000) {Q : Out → Prop}
    (hq : ∀ rs st a b c d, Q (.nx [some sc, some (.dat (.int m)), some (iL cs), some (iL rs), some (iL st), a, b, c, d])) :
    Wp (forL (gN 5) B_l_draws_1 (intsR 0 m) [some sc, some (.dat (.int m)), some (iL cs), some (iL rs), some (iL []), none, none, none, none]) Q := by
  refine for_int (fun i r => ∃ rs st a b c d, r = [some sc, some (.dat (.int m)), some (iL cs), some (iL rs), some (iL st), a, b, c, d] ∧ rs.length = cs.length ∧ st.length = i) ?_ ?_ ?_
  · rintro i r hi ⟨rs, st, a, b, c, d, rfl, h1, h2⟩
    have p : 0 < (cs.length : Int) := by have := List.length_pos_iff.mpr he; omega
    have q1 : 0 ≤ (i : Int) % cs.length := Int.emod_nonneg _ (by omega)
    have q2 : (i : Int) % cs.length < cs.length := Int.emod_lt_of_pos _ p
    simp [B_l_draws_1, p, atI_int q1 q2]
    refine ⟨by omega, wIf_d (fun c => ?_) fun c => ?_⟩
    · have q3 : (i : Int) % cs.length < rs.length := by omega
      simp [atI_int q1 q3, ixN_pos q1 q3]
      exact ⟨by omega, rs.set _ _, st ++ [_], ⟨List.map_set.symm, by simp; rfl⟩, by simpa using h1, by simp [h2]⟩
    · have b1 := hb _ (nthI_mem q1 q2)
      have e1 : ∀ x : Int, (x % 2147483647).natAbs.log2 < 31 := fun x => lg_lt (k := 30) (by omega)
      have e2 := e1 (nthI cs (↑i % ↑cs.length) * 48271 + ↑i * 69621 + 11)
      have e3 : Nat.log2 48271 < 16 := by decide
      have e4 : Nat.log2 69621 < 17 := by decide
      have e5 : Nat.log2 3 < 3 := by decide
      have e6 : i.log2 < 10 := lg_lt (x := i) (k := 9) (by omega)
      simp [p, atI_int q1 q2]
      refine ⟨by omega, by omega, by omega, by omega, by omega, rs, st ++ [_], ⟨rfl, by simp; rfl⟩, h1, by simp [h2]⟩
  · rintro r ⟨rs, st, a, b, c, d, rfl, h1, h2⟩
    exact hq _ _ _ _ _ _
  · exact ⟨rs, [], none, none, none, none, rfl, hr, rfl⟩
theorem l_draws_run (ns : List Int) {m : Nat} (hm : m ≤ 1000) (hl : ns.length ≤ 1000) (hb : ∀ n ∈ ns, n.natAbs.log2 < 2 ^ 20) : ∃ st, F_l_draws.run [iS ns, .dat (.int m)] = some (iL st, [none, none]) := by
  suffices h : Wp (F_l_draws.run [iS ns, .dat (.int m)]) fun q => ∃ st, q = (iL st, [none, none]) by
    obtain ⟨a, e, st, rfl⟩ := h; exact ⟨st, e⟩
  unfold F_l_draws
  simp
  refine ⟨by omega, lc_m (F := id) (fun x hx => ?_) ?_⟩
  · obtain ⟨i, _, rfl⟩ := List.mem_map.mp hx
    simp
  · simp
    refine wIf_d (fun c => ?_) fun c => ?_
    · subst c
      simp
      refine ⟨by omega, ?_⟩
      refine draws_loop (iS []) [0] [0] (by simp) (by simp) rfl (by simp) hm fun rs st a b c d => ?_
      simp
      exact ⟨st.reverse, by simp⟩
    · simp
      refine ⟨by omega, ?_⟩
      refine draws_loop (iS ns) ns ns c (by omega) rfl hb hm fun rs st a b c d => ?_
      simp
      exact ⟨st.reverse, by simp⟩
theorem cell_lg {ns : List Int} (hb : ∀ n ∈ ns, n.natAbs.log2 < 2 ^ 20) (st : List Int) : lg (clV ns st) < 2 ^ 20 := by
  by_cases e : ns = []
  · subst e; simp [clV, nthI, lg]
  · have p : 0 < (ns.length : Int) := by have := List.length_pos_iff.mpr e; omega
    exact hb _ (nthI_mem (tk_lo st p) (tk_hi st p))
end Lw
namespace Lw
open PySem PySem.Spec PyProof.Rows L2 DL
theorem str_len_app (a b : Str) : (a ++ b).length = a.length + b.length := by show (a.cps ++ b.cps).size = _; rw [Array.size_append]; rfl
theorem abc_len : (Str.ofString "abcdefghijklmnopqrstuvwxyz").length = 26 := by decide +kernel
theorem word_loop (n : Int) {Q : Out → Prop} (hq : ∀ n w a, w.length ≤ 60 → Q (.nx [some (.dat (.int n)), some (.dat (.str w)), a])) :
    Wp (forL (gN 2) B_l_word_1 (intsR 0 60) [some (.dat (.int n)), some (.dat (.str "")), none]) Q := by
  refine for_int (fun i r => ∃ n w a, w.length ≤ i ∧ r = [some (.dat (.int n)), some (.dat (.str w)), a]) ?_ ?_ ?_
  · rintro i _ hi ⟨n, w, a, hw, rfl⟩
    refine gN_cut (by simp) rfl ?_
    simp [B_l_word_1]
    refine wIf_d (fun h => ?_) fun h => ?_
    · simp
      exact hq _ _ _ (by omega)
    · have h1 : 0 ≤ (n - 1) % 26 := Int.emod_nonneg _ (by decide)
      have h2 : (n - 1) % 26 < 26 := Int.emod_lt_of_pos _ (by decide)
      have h3 : ((n - 1) % 26) < ((Str.ofString "abcdefghijklmnopqrstuvwxyz").cps.toList.length : Int) := by
        have := abc_len
        unfold Str.length at this
        rw [Array.length_toList, this]
        exact h2
      have h4 : ∃ c, atI (Str.ofString "abcdefghijklmnopqrstuvwxyz").cps.toList ((n - 1) % 26) = some c := by
        unfold atI
        rw [ixN_pos h1 h3, Option.bind_some]
        have : ((n - 1) % 26).toNat < (Str.ofString "abcdefghijklmnopqrstuvwxyz").cps.toList.length := by omega
        exact ⟨_, List.getElem?_eq_getElem this⟩
      obtain ⟨c, hc⟩ := h4
      simp [abc_len, hc]
      have e : ∀ c, Str.length ⟨#[c]⟩ = 1 := fun _ => rfl
      refine ⟨by rw [e]; omega, ?_⟩
      rw [str_len_app, e]
      omega
  · rintro _ ⟨n, w, a, hw, rfl⟩
    exact hq _ _ _ hw
  · exact ⟨n, _, none, by decide +kernel, rfl⟩
theorem l_word_run (n : Int) : ∃ w : Str, w.length ≤ 60 ∧ F_l_word.run [.dat (.int n)] = some (.dat (.str w), [none]) := by
  suffices h : Wp (F_l_word.run [.dat (.int n)]) fun q => ∃ w : Str, w.length ≤ 60 ∧ q = (.dat (.str w), [none]) by
    obtain ⟨a, e, w, h, rfl⟩ := h; exact ⟨w, h, e⟩
  unfold F_l_word
  simp
  refine word_loop n fun n w a h => ?_
  simp
  exact h
end Lw
namespace Lw
open PySem PySem.Spec PyProof.Rows L2 DL
theorem l_some_word_run (st : List Int) : ∃ st' w, w.length ≤ 100 ∧ F_l_some_word.run [iL st] = some (.dat (.str w), [some (iL st')]) := by
  suffices h : Wp (F_l_some_word.run [iL st]) fun q => ∃ st' w, w.length ≤ 100 ∧ q = (.dat (.str w), [some (iL st')]) by
    obtain ⟨a, e, st', w, h, rfl⟩ := h; exact ⟨st', w, h, e⟩
  unfold F_l_some_word
  refine fn_cut rfl rfl ?_
  have lw : ∀ (n : Int), ∃ w : Str, w.length ≤ 60 ∧ F_l_word.run [.dat (.int n)] = some (.dat (.str w), [none]) := l_word_run
  have lg1 : ∀ (x : Int), 0 ≤ x → x < 10 ^ 30 → x.natAbs.log2 < 1000 := fun x h1 h2 => Nat.lt_of_lt_of_le (lg_lt (k := 110) (by omega)) (by decide)
  refine seq_cut (fun r => ∃ st n, (0 ≤ n ∧ n < 1000) ∧ r = [some (iL st), some (.dat (.int n)), none]) ?_ ?_
  · simp [l_take_run]
    exact ⟨tk_lo _ (by decide), tk_hi _ (by decide)⟩
  rintro _ ⟨st, n, hn, rfl⟩
  refine seq_cut (fun r => r = [some (iL st), some (.dat (.int n)), none]) ?_ ?_
  · simp
    refine wIf_d (fun h => ?_) fun h => ?_
    · have l1 : Nat.log2 26 < 1000 := by decide
      have l2 := lg1 (n / 6 % 2) (by omega) (by omega)
      simp
      refine ⟨by omega, ?_⟩
      obtain ⟨w, hw, e⟩ := lw (1 + n % 6 + 26 * (n / 6 % 2))
      simp [e]
      exact ⟨_, _, by omega, rfl, rfl⟩
    · simp
  rintro _ rfl
  refine seq_cut (fun r => r = [some (iL st), some (.dat (.int n)), none]) ?_ ?_
  · simp
    refine wIf_d (fun h => ?_) fun h => ?_
    · simp [l_take_run]
      obtain ⟨w, hw, e⟩ := lw (1 + tkV st 1000)
      simp [e]
      exact ⟨_, _, by omega, rfl, rfl⟩
    · simp
  rintro _ rfl
  refine seq_cut (fun r => r = [some (iL st), some (.dat (.int n)), none]) ?_ ?_
  · simp
    refine wIf_d (fun h => ?_) fun h => ?_
    · simp [l_take_run]
      obtain ⟨w, hw, e⟩ := lw (1 + tkV st 3)
      have l1 : (Str.ofString "abcdefghijkl").length = 12 := by decide +kernel
      simp [e, l1, str_len_app]
      exact ⟨by omega, _, _, by rw [str_len_app, l1]; omega, rfl, rfl⟩
    · simp
  rintro _ rfl
  have t0 := tk_lo st (m := 1000) (by decide)
  have t1 := tk_hi st (m := 1000) (by decide)
  have t2 := tk_lo (tkS st) (m := 1000) (by decide)
  have t3 := tk_hi (tkS st) (m := 1000) (by decide)
  refine seq_cut (fun r => ∃ st g, (0 ≤ g ∧ g ≤ 1000000000) ∧ r = [some (iL st), some (.dat (.int n)), some (.dat (.int g))]) ?_ ?_
  · have l1 : Nat.log2 1000000 < 1000 := by decide
    have l2 : Nat.log2 1000 < 1000 := by decide
    have l3 := lg1 _ t0 (by omega)
    have l4 := lg1 _ t2 (by omega)
    simp [l_take_run]
    omega
  rintro _ ⟨st, g, hg, rfl⟩
  refine seq_cut (fun r => ∃ g, r = [some (iL st), some (.dat (.int n)), some (.dat (.int g))]) ?_ ?_
  · have l1 := lg1 g hg.1 (by omega)
    have l2 : Nat.log2 1000000000000000 < 1000 := by decide
    simp
    refine wIf_d (fun h => ?_) fun h => ?_
    · simp
      omega
    · simp
  rintro _ ⟨g, rfl⟩
  simp [l_take_run]
  obtain ⟨w, hw, e⟩ := lw (1 + g + tkV st 1000)
  simp [e]
  exact ⟨_, _, by omega, rfl, rfl⟩
/-- a meter -/
structure Mt where
  name : Str
  low : Int
  high : Int
  err : Int
def mD (m : Mt) : D := .tuple [.str m.name, .int m.low, .int m.high, .int m.err]
/-- a plan -/
def pD (len : Int) (ms : List Mt) : D := .tuple [.int len, .tuple (ms.map mD)]
def MtOk (c : Int) (m : Mt) : Prop := m.low ≤ m.high ∧ 0 ≤ m.err ∧ m.err ≤ 60 ∧ m.name.length ≤ 100 ∧ m.low.natAbs ≤ c.natAbs + 3 ∧ m.high.natAbs ≤ 2 * c.natAbs + 100000000000000000003
structure PlanOk (c len : Int) (ms : List Mt) : Prop where
  len : 0 < len ∧ (len ≤ 60 ∨ len = 1 + c.natAbs)
  many : 0 < ms.length ∧ ms.length ≤ 6
  nd : (ms.map (·.name)).Nodup
  srt : (ms.map (·.name)).Pairwise fun a b => a.cps.toList < b.cps.toList
  each : ∀ m ∈ ms, MtOk c m
theorem names_run (st : List Int) (c : Int) (m : Int) (a : Option Sv) (b : Option Sv) (hm : 0 ≤ m ∧ m ≤ 6) {Q} (hq : ∀ st (ns : List Str), ns.length = m.toNat → (∀ n ∈ ns, n.length ≤ 100) → Q (ns.map .str, [some (iL st), some (.dat (.int c)), some (.dat (.int m)), a, none, none, none, none, none])) :
    Wp (lcL (gN 8) tY (eCall F_l_some_word (aCons (oVar 0) aNil)) [8] (intsR 0 m.toNat) [some (iL st), some (.dat (.int c)), some (.dat (.int m)), a, none, none, none, none, none]) Q := by
  refine lc_cnt (fun acc k r => ∃ st, ∃ ns : List Str, acc = ns.map .str ∧ (∀ n ∈ ns, n.length ≤ 100) ∧ ns.length + k = m.toNat ∧ r = [some (iL st), some (.dat (.int c)), some (.dat (.int m)), a, none, none, none, none, none]) ?_ ?_ ?_
  · rintro x hx acc k _ ⟨st, ns, rfl, hn, hk, rfl⟩
    obtain ⟨st', w, hw, e⟩ := l_some_word_run st
    simp [e]
    have hx := (List.mem_map.mp hx)
    obtain ⟨i, _, rfl⟩ := hx
    refine ⟨_, ns ++ [w], by simp, ?_, by simp; omega, rfl⟩
    intro n hm
    rcases List.mem_append.mp hm with h | h
    · exact hn n h
    · rw [List.mem_singleton.mp h]; exact hw
  · exact ⟨st, [], rfl, by simp, by simp [intsR], rfl⟩
  · rintro ds _ ⟨st, ns, rfl, hn, hk, rfl⟩
    exact hq _ _ (by omega) hn
theorem plan_loop (c : Int) (m b : Option Sv) (zs : List Str) (hz : ∀ z ∈ zs, z.length ≤ 100) (hl : zs.length ≤ 10) (st : List Int) {Q : Out → Prop}
    (hq : ∀ st (ms : List Mt) x y u v, ms.map (·.name) = zs → (∀ m ∈ ms, MtOk c m) → Q (.nx [some (iL st), some (.dat (.int c)), m, some (.own (.lst (ms.map mD))), x, y, u, v, b])) :
    Wp (forL (gN 4) B_l_plan_1 (zs.map .str) [some (iL st), some (.dat (.int c)), m, some (.own (.lst [])), none, none, none, none, b]) Q := by
  refine for_inv (fun ys r => ∃ st, ∃ ms : List Mt, ∃ zt : List Str, ∃ x u v, ys = zt.map .str ∧ ms.map (·.name) ++ zt = zs ∧ (∀ m ∈ ms, MtOk c m) ∧ r = [some (iL st), some (.dat (.int c)), m, some (.own (.lst (ms.map mD))), x, none, u, v, b]) ?_ ?_ ?_
  · rintro y ys _ _ ⟨st, ms, zt, x, u, v, e, hm, ok, rfl⟩
    obtain ⟨z, zt, rfl, rfl, rfl⟩ := List.map_eq_cons_iff.mp e.symm
    refine gN_cut (by simp) rfl ?_
    have zl : z.length ≤ 100 := hz z (by rw [← hm]; simp)
    have hms : ms.length ≤ 10 := by have := congrArg List.length hm; simp at this; omega
    unfold B_l_plan_1
    refine seq_cut (fun r => ∃ st, ∃ low : Int, low.natAbs ≤ c.natAbs + 3 ∧ r = [some (iL st), some (.dat (.int c)), m, some (.own (.lst (ms.map mD))), some (.dat (.str z)), none, some (.dat (.int low)), v, b]) ?_ ?_
    · simp [l_take_run]
      have t1 := tk_lo (tkS st) (m := 9) (by decide)
      have t2 := tk_hi (tkS st) (m := 9) (by decide)
      refine wO_at (by omega) (by simp; omega) fun d hd => ?_
      simp at hd
      have t3 := tk_lo st (m := 7) (by decide)
      have t4 := tk_hi st (m := 7) (by decide)
      rcases hd with rfl | rfl <;> simp <;> omega
    rintro _ ⟨st, low, hlow, rfl⟩
    refine seq_cut (fun r => ∃ st, ∃ wide : Int, (0 ≤ wide ∧ wide ≤ c.natAbs + 100000000000000000000) ∧ r = [some (iL st), some (.dat (.int c)), m, some (.own (.lst (ms.map mD))), some (.dat (.str z)), none, some (.dat (.int low)), some (.dat (.int wide)), b]) ?_ ?_
    · simp [l_take_run]
      refine wO_at (tk_lo _ (by decide)) (tk_hi _ (by decide)) fun d hd => ?_
      simp at hd
      rcases hd with rfl | rfl | rfl | rfl | rfl | rfl | rfl <;> simp <;> (try split) <;> omega
    rintro _ ⟨st, wide, hw, rfl⟩
    simp [l_take_run]
    refine wO_at (tk_lo _ (by decide)) (tk_hi _ (by decide)) fun d hd => ?_
    have : ∃ er : Int, 0 ≤ er ∧ er ≤ 60 ∧ d = .int er := by
      simp at hd
      rcases hd with rfl | rfl | rfl | rfl | rfl <;> exact ⟨_, by omega, by omega, rfl⟩
    obtain ⟨er, e1, e2, rfl⟩ := this
    simp
    refine ⟨by omega, _, ms ++ [⟨z, low, low + wide, er⟩], zt, rfl, ?_, ?_, rfl, ?_⟩
    · rw [← hm]; simp
    · intro m hm
      rcases List.mem_append.mp hm with h | h
      · exact ok m h
      · rw [List.mem_singleton.mp h]
        exact ⟨by show low ≤ low + wide; omega, e1, e2, zl, hlow, by show (low + wide).natAbs ≤ _; omega⟩
    · simp [mD]
  · rintro _ ⟨st, ms, zt, x, u, v, e, hm, ok, rfl⟩
    obtain rfl : zt = [] := by simpa using e.symm
    exact hq _ _ _ _ _ _ (by simpa using hm) ok
  · exact ⟨st, [], zs, none, none, none, rfl, by simp, by simp, rfl⟩
theorem l_plan_run (c : Int) (st : List Int) : ∃ st' len ms, PlanOk c len ms ∧ F_l_plan.run [iL st, .dat (.int c)] = some (.dat (pD len ms), [some (iL st'), none]) := by
  suffices h : Wp (F_l_plan.run [iL st, .dat (.int c)]) fun q => ∃ st' len ms, PlanOk c len ms ∧ q = (.dat (pD len ms), [some (iL st'), none]) by
    obtain ⟨a, e, st', len, ms, h, rfl⟩ := h; exact ⟨st', len, ms, h, e⟩
  unfold F_l_plan
  refine fn_cut rfl rfl ?_
  refine seq_cut (fun r => ∃ st m, (1 ≤ m ∧ m ≤ 3) ∧ r = [some (iL st), some (.dat (.int c)), some (.dat (.int m)), none, none, none, none, none, none]) ?_ ?_
  · have t1 := tk_lo st (m := 3) (by decide)
    have t2 := tk_hi st (m := 3) (by decide)
    simp [l_take_run]
    omega
  rintro _ ⟨st, m, hm, rfl⟩
  refine seq_cut (fun r => ∃ st m, (1 ≤ m ∧ m ≤ 6) ∧ r = [some (iL st), some (.dat (.int c)), some (.dat (.int m)), none, none, none, none, none, none]) ?_ ?_
  · simp [l_take_run]
    refine wIf_d (fun _ => ?_) fun _ => ?_ <;> simp <;> omega
  rintro _ ⟨st, m, hm, rfl⟩
  refine seq_cut (fun r => r = [some (iL st), some (.dat (.int c)), some (.dat (.int m)), some (.own (.lst [])), none, none, none, none, none]) (by simp) ?_
  rintro _ rfl
  refine seq_cut (fun r => ∃ st, ∃ ms : List Mt, ∃ x y u v, (0 < ms.length ∧ ms.length ≤ 6) ∧ (ms.map (·.name)).Nodup ∧ (ms.map (·.name)).Pairwise (fun a b => a.cps.toList < b.cps.toList) ∧ (∀ m ∈ ms, MtOk c m) ∧ r = [some (iL st), some (.dat (.int c)), some (.dat (.int m)), some (.own (.lst (ms.map mD))), x, y, u, v, none]) ?_ ?_
  · simp
    refine ⟨by omega, by simp [intsR]; omega, ?_⟩
    refine names_run st c m (some (.own (.lst []))) none (by omega) fun st ns hn hl => ?_
    obtain ⟨zs, z1, z2, z3, z4⟩ := setS_strs ns (by omega)
    have z5 : zs.length ≤ ns.length := z1.length_le_of_subset fun z h => (z2 z).mp h
    have z6 : 0 < zs.length := by
      cases ns with
      | nil => simp at hn; omega
      | cons n ns => exact List.length_pos_of_mem ((z2 n).mpr List.mem_cons_self)
    simp [z4]
    refine plan_loop c _ _ zs (fun z h => hl z ((z2 z).mp h)) (by omega) st fun st ms x y u v e ok => ?_
    have e2 : ms.length = zs.length := by rw [← e]; simp
    simp
    exact ⟨_, ms, ⟨by omega, by omega⟩, by rw [e]; exact z1, by rw [e]; exact z3, ok, rfl, rfl⟩
  rintro _ ⟨st, ms, x, y, u, v, hm2, nd, srt, ok, rfl⟩
  refine seq_cut (fun r => ∃ st, ∃ len : Int, (0 < len ∧ (len ≤ 60 ∨ len = 1 + c.natAbs)) ∧ r = [some (iL st), some (.dat (.int c)), some (.dat (.int m)), some (.own (.lst (ms.map mD))), x, some (.dat (.int len)), u, v, none]) ?_ ?_
  · simp [l_take_run]
    refine wO_at (tk_lo _ (by decide)) (tk_hi _ (by decide)) fun d hd => ?_
    simp at hd
    rcases hd with rfl | rfl | rfl | rfl | rfl | rfl <;> simp
    split <;> omega
  rintro _ ⟨st, len, hlen, rfl⟩
  simp
  exact ⟨_, _, ms, ⟨hlen, hm2, nd, srt, ok⟩, rfl, rfl⟩
end Lw
namespace Lw
open PySem PySem.Spec PyProof.Rows L2 DL
/-- a slot, a log -/
structure Sl where
  stamp : Int
  vers : List (Option Int)
  deriving DecidableEq
structure Lo where
  name : Str
  off : Int
  slots : List Sl
def oD : Option Int → D
  | none => .none
  | some i => .int i
def slD (s : Sl) : D := .tuple [.int s.stamp, .tuple (s.vers.map oD)]
def loD (l : Lo) : D := .tuple [.str l.name, .int l.off, .tuple (l.slots.map slD)]
theorem reading_run (st : List Int) (m : Mt) (h : m.low ≤ m.high) : ∃ st' v, (m.low ≤ v ∧ v ≤ m.high) ∧ F_l_reading.run [iL st, .dat (mD m)] = some (.dat (.int v), [some (iL st'), none]) := by
  suffices h : Wp (F_l_reading.run [iL st, .dat (mD m)]) fun q => ∃ st' v, (m.low ≤ v ∧ v ≤ m.high) ∧ q = (.dat (.int v), [some (iL st'), none]) by
    obtain ⟨a, e, st', v, h, rfl⟩ := h; exact ⟨st', v, h, e⟩
  unfold F_l_reading
  refine fn_cut rfl rfl ?_
  refine seq_cut (fun r => ∃ st n, 0 ≤ n ∧ r = [some (iL st), some (.dat (mD m)), some (.dat (.int n))]) ?_ ?_
  · have t1 := tk_lo st (m := 1000) (by decide)
    simp [l_take_run]
    exact t1
  rintro _ ⟨st, n, hn, rfl⟩
  have p : 0 < m.high - m.low + 1 := by omega
  have q1 : 0 ≤ n / 4 % (m.high - m.low + 1) := Int.emod_nonneg _ (by omega)
  have q2 : n / 4 % (m.high - m.low + 1) < m.high - m.low + 1 := Int.emod_lt_of_pos _ p
  simp [mD]
  refine wIf_d (fun _ => ?_) fun _ => ?_
  · simp; exact ⟨_, _, ⟨Int.le_refl _, h⟩, rfl, rfl⟩
  simp
  refine wIf_d (fun _ => ?_) fun _ => ?_
  · simp; exact ⟨_, _, ⟨h, Int.le_refl _⟩, rfl, rfl⟩
  simp
  refine wIf_d (fun _ => ?_) fun _ => ?_
  · simp; exact ⟨_, _, ⟨by omega, by omega⟩, rfl, rfl⟩
  simp [p]
  exact ⟨_, _, ⟨by omega, by omega⟩, rfl, rfl⟩
def inV (m : Mt) (v : Option Int) : Prop := ∀ i, v = some i → m.low ≤ i ∧ i ≤ m.high
theorem versions_loop (m : Mt) (hm : m.low ≤ m.high) (k : Int) (hk : 0 ≤ k ∧ k ≤ 11) (v0 : Option Int) (h0 : inV m v0) (st : List Int) {Q : Out → Prop}
    (hq : ∀ st (vs : List (Option Int)) a b, vs ≠ [] → vs.length ≤ 12 → (∀ v ∈ vs, inV m v) → vs.head? = some v0 → Q (.nx [some (iL st), some (.dat (mD m)), some (.own (.lst (vs.map oD))), some (.dat (.int k)), a, b])) :
    Wp (forL (gN 4) B_l_versions_1 (intsR 0 k.toNat) [some (iL st), some (.dat (mD m)), some (.own (.lst [oD v0])), some (.dat (.int k)), none, none]) Q := by
  refine for_int (fun i r => ∃ st, ∃ vs : List (Option Int), ∃ a b, vs.length = i + 1 ∧ vs.head? = some v0 ∧ (∀ v ∈ vs, inV m v) ∧ r = [some (iL st), some (.dat (mD m)), some (.own (.lst (vs.map oD))), some (.dat (.int k)), a, b]) ?_ ?_ ?_
  · rintro i _ hi ⟨st, vs, a, b, hv, hh, ok, rfl⟩
    refine gN_cut (by simp) rfl ?_
    obtain ⟨st', v, hv2, e⟩ := reading_run st m hm
    have fin : ∀ (st : List Int) (w : Option Int) (kk : Option Sv), inV m w → Wp (sExpr (eMut 2 opAppend (aCons (oNow (eVar 5)) aNil)) [some (iL st), some (.dat (mD m)), some (.own (.lst (vs.map oD))), some (.dat (.int k)), kk, some (.dat (oD w))]) fun o => rO o (fun r => ∃ st, ∃ vs : List (Option Int), ∃ a b, vs.length = i + 1 + 1 ∧ vs.head? = some v0 ∧ (∀ v ∈ vs, inV m v) ∧ r = [some (iL st), some (.dat (mD m)), some (.own (.lst (vs.map oD))), some (.dat (.int k)), a, b]) Q := by
      intro st w kk hw
      simp
      refine ⟨by omega, _, vs ++ [w], by simp [hv], by simp [List.head?_append, hh], ?_, rfl, by simp⟩
      intro v hm
      rcases List.mem_append.mp hm with h | h
      · exact ok v h
      · rw [List.mem_singleton.mp h]; exact hw
    unfold B_l_versions_1
    generalize some (Sv.dat (PyData.int (0 + (i : Int)))) = kk
    refine seq_cut (fun r => r = [some (iL st'), some (.dat (mD m)), some (.own (.lst (vs.map oD))), some (.dat (.int k)), kk, some (.dat (.int v))]) (by simp [e]) ?_
    rintro _ rfl
    refine seq_cut (fun r => ∃ st w, inV m w ∧ r = [some (iL st), some (.dat (mD m)), some (.own (.lst (vs.map oD))), some (.dat (.int k)), kk, some (.dat (oD w))]) ?_ ?_
    · simp [l_take_run]
      refine wIf_d (fun _ => ?_) fun _ => ?_
      · simp; exact ⟨_, none, (by intro i h; cases h), rfl, rfl⟩
      · simp; exact ⟨_, some v, (by intro i h; cases h; exact hv2), rfl, rfl⟩
    rintro _ ⟨st, w, hw, rfl⟩
    exact fin st w kk hw
  · rintro _ ⟨st, vs, a, b, hv, hh, ok, rfl⟩
    exact hq _ _ _ _ (by rintro rfl; simp at hv) (by omega) ok hh
  · exact ⟨st, [v0], none, none, rfl, rfl, by simp; exact h0, rfl⟩
theorem versions_run2 (st : List Int) (m : Mt) (h : m.low ≤ m.high) : ∃ st' vs, vs ≠ [] ∧ vs.length ≤ 12 ∧ (∀ v ∈ vs, inV m v) ∧ (∃ x, vs.head? = some (some x)) ∧ F_l_versions.run [iL st, .dat (mD m)] = some (.dat (.tuple (vs.map oD)), [some (iL st'), none]) := by
  suffices h : Wp (F_l_versions.run [iL st, .dat (mD m)]) fun q => ∃ st' vs, vs ≠ [] ∧ vs.length ≤ 12 ∧ (∀ v ∈ vs, inV m v) ∧ (∃ x, vs.head? = some (some x)) ∧ q = (.dat (.tuple (vs.map oD)), [some (iL st'), none]) by
    obtain ⟨a, e, st', v, h1, h2, h3, h4, rfl⟩ := h; exact ⟨st', v, h1, h2, h3, h4, e⟩
  unfold F_l_versions
  refine fn_cut rfl rfl ?_
  obtain ⟨st1, v0, hv0, e0⟩ := reading_run st m h
  refine seq_cut (fun r => r = [some (iL st1), some (.dat (mD m)), some (.own (.lst [oD (some v0)])), none, none, none]) (by simp [e0, oD]) ?_
  rintro _ rfl
  refine seq_cut (fun r => ∃ st k, (0 ≤ k ∧ k ≤ 11) ∧ r = [some (iL st), some (.dat (mD m)), some (.own (.lst [oD (some v0)])), some (.dat (.int k)), none, none]) ?_ ?_
  · simp [l_take_run]
    refine wO_at (tk_lo _ (by decide)) (tk_hi _ (by decide)) fun d hd => ?_
    simp at hd
    rcases hd with rfl | rfl | rfl | rfl <;> simp
  rintro _ ⟨st, k, hk, rfl⟩
  refine seq_cut (fun r => ∃ st k, (0 ≤ k ∧ k ≤ 11) ∧ r = [some (iL st), some (.dat (mD m)), some (.own (.lst [oD (some v0)])), some (.dat (.int k)), none, none]) ?_ ?_
  · simp [l_take_run]
    refine wIf_d (fun _ => ?_) fun _ => ?_ <;> simp <;> omega
  rintro _ ⟨st, k, hk, rfl⟩
  simp
  refine ⟨by omega, versions_loop m h k hk (some v0) (by intro i h; cases h; exact hv0) st fun st vs a b h1 h2 h3 h4 => ?_⟩
  simp
  exact ⟨_, vs, h1, h2, h3, ⟨_, h4⟩, rfl, rfl⟩
theorem versions_run (st : List Int) (m : Mt) (h : m.low ≤ m.high) : ∃ st' vs, vs ≠ [] ∧ vs.length ≤ 12 ∧ (∀ v ∈ vs, inV m v) ∧ F_l_versions.run [iL st, .dat (mD m)] = some (.dat (.tuple (vs.map oD)), [some (iL st'), none]) :=
  let ⟨st', vs, h1, h2, h3, _, e⟩ := versions_run2 st m h
  ⟨st', vs, h1, h2, h3, e⟩
/-- a slot of a meter, its stamp at most b from 0 -/
structure SlOk (m : Mt) (b : Nat) (s : Sl) : Prop where
  ne : s.vers ≠ []
  few : s.vers.length ≤ 12
  inn : ∀ v ∈ s.vers, inV m v
  near : s.stamp.natAbs ≤ b
  hd : ∃ x, s.vers.head? = some (some x)
/-- stamps that do not fall, none beyond t -/
def Mono (t : Int) (ss : List Sl) : Prop := (ss.Pairwise fun a b => a.stamp ≤ b.stamp) ∧ ∀ s ∈ ss, s.stamp ≤ t
theorem Mono.app {t t' : Int} {ss : List Sl} (h : Mono t ss) (k : t ≤ t') (vs : List (Option Int)) : Mono t' (ss ++ [⟨t', vs⟩]) := by
  refine ⟨List.pairwise_append.mpr ⟨h.1, by simp, fun a ha b hb => ?_⟩, fun s hs => ?_⟩
  · rw [List.mem_singleton.mp hb]
    have := h.2 a ha
    show a.stamp ≤ t'
    omega
  · rcases List.mem_append.mp hs with q | q
    · have := h.2 s q; omega
    · rw [List.mem_singleton.mp q]; exact Int.le_refl _
theorem Mono.up {t t' : Int} {ss : List Sl} (h : Mono t ss) (k : t ≤ t') : Mono t' ss := ⟨h.1, fun s hs => Int.le_trans (h.2 s hs) k⟩
theorem slots_loop1 (m : Mt) (hm : m.low ≤ m.high) (mo c : Option Sv) (b : Nat) (n : Nat) (hn : n ≤ 40) (st : List Int) (t0 : Int) (h0 : t0.natAbs ≤ b) {Q : Out → Prop}
    (hq : ∀ st (ss : List Sl) t k, ss.length = n → (∀ s ∈ ss, SlOk m (b + 280) s) → t.natAbs ≤ b + 280 → Mono t ss → Q (.nx [some (iL st), some (.dat (mD m)), mo, c, some (.dat (.int t)), some (.own (.lst (ss.map slD))), k, none])) :
    Wp (forL (gN 6) B_l_slots_1 (intsR 0 n) [some (iL st), some (.dat (mD m)), mo, c, some (.dat (.int t0)), some (.own (.lst [])), none, none]) Q := by
  refine for_int (fun i r => ∃ st, ∃ ss : List Sl, ∃ t k, ss.length = i ∧ (∀ s ∈ ss, SlOk m (b + 280) s) ∧ t.natAbs ≤ b + 7 * i ∧ Mono t ss ∧ r = [some (iL st), some (.dat (mD m)), mo, c, some (.dat (.int t)), some (.own (.lst (ss.map slD))), k, none]) ?_ ?_ ?_
  · rintro i _ hi ⟨st, ss, t, k, hl, ok, ht, mono, rfl⟩
    refine gN_cut (by simp) rfl ?_
    generalize some (Sv.dat (PyData.int (0 + (i : Int)))) = kk
    unfold B_l_slots_1
    refine seq_cut (fun r => ∃ st, ∃ t1 : Int, (t1.natAbs ≤ b + 7 * (i + 1) ∧ t ≤ t1) ∧ r = [some (iL st), some (.dat (mD m)), mo, c, some (.dat (.int t1)), some (.own (.lst (ss.map slD))), kk, none]) ?_ ?_
    · simp [l_take_run]
      refine wO_at (tk_lo _ (by decide)) (tk_hi _ (by decide)) fun d hd => ?_
      simp at hd
      rcases hd with rfl | rfl | rfl | rfl | rfl <;> simp <;> omega
    rintro _ ⟨st, t1, ⟨ht2, ht3⟩, rfl⟩
    obtain ⟨st', vs, h1, h2, h3, h4, e⟩ := versions_run2 st m hm
    simp [e]
    refine ⟨by omega, _, ss ++ [⟨t1, vs⟩], by simp [hl], ?_, _, by omega, mono.app ht3 vs, rfl, rfl, by simp [slD]⟩
    intro s hs
    rcases List.mem_append.mp hs with h | h
    · exact ok s h
    · rw [List.mem_singleton.mp h]; exact ⟨h1, h2, h3, by show t1.natAbs ≤ _; omega, h4⟩
  · rintro _ ⟨st, ss, t, k, hl, ok, ht, mono, rfl⟩
    exact hq _ _ _ _ hl ok (by omega) mono
  · exact ⟨st, [], t0, none, rfl, by simp, by omega, ⟨by simp, by simp⟩, rfl⟩
theorem slots_loop2 (m : Mt) (hm : m.low ≤ m.high) (st : List Int) (mo c : Option Sv) (b : Nat) (t w : Int) (ht : t.natAbs ≤ b) (hw : 0 ≤ w ∧ w ≤ 2) (ss0 : List Sl) (k : Option Sv) (h0 : ss0.length ≤ 100) (ok0 : ∀ s ∈ ss0, SlOk m (b + 60) s) (mono0 : Mono t ss0) {Q : Out → Prop}
    (hq : ∀ (ss : List Sl) k, ss.length = ss0.length + 30 → (∀ s ∈ ss, SlOk m (b + 60) s) → (ss.Pairwise fun a b => a.stamp ≤ b.stamp) → Q (.nx [some (iL st), some (.dat (mD m)), mo, c, some (.dat (.int t)), some (.own (.lst (ss.map slD))), k, some (.dat (.int w))])) :
    Wp (forL (gN 6) B_l_slots_2 (intsR 0 30) [some (iL st), some (.dat (mD m)), mo, c, some (.dat (.int t)), some (.own (.lst (ss0.map slD))), k, some (.dat (.int w))]) Q := by
  refine for_int (fun i r => ∃ ss : List Sl, ∃ k, ss.length = ss0.length + i ∧ (∀ s ∈ ss, SlOk m (b + 60) s) ∧ Mono (t + w * ((i : Int) / 2)) ss ∧ r = [some (iL st), some (.dat (mD m)), mo, c, some (.dat (.int t)), some (.own (.lst (ss.map slD))), k, some (.dat (.int w))]) ?_ ?_ ?_
  · rintro i _ hi ⟨ss, k, hl, ok, mono, rfl⟩
    refine gN_cut (by simp) rfl ?_
    have b1 := lg_small (x := w) (by omega)
    have b2 := lg_small (x := (i : Int) / 2) (by omega)
    have p1 : 0 ≤ w * ((i : Int) / 2) := Int.mul_nonneg hw.1 (by omega)
    have p2 : w * ((i : Int) / 2) ≤ 2 * ((i : Int) / 2) := Int.mul_le_mul_of_nonneg_right hw.2 (by omega)
    have p3 : w * ((i : Int) / 2) ≤ w * (((i : Int) + 1) / 2) := Int.mul_le_mul_of_nonneg_left (by omega) hw.1
    generalize hz : w * ((i : Int) / 2) = z at p1 p2 p3 mono
    simp [B_l_slots_2, lg_fold, mD, hz]
    refine ⟨by omega, ?_⟩
    refine wO_at (Int.emod_nonneg _ (by decide)) (Int.emod_lt_of_pos _ (by decide)) fun d hd => ?_
    have : ∃ vs : List (Option Int), d = .tuple (vs.map oD) ∧ vs ≠ [] ∧ vs.length ≤ 12 ∧ (∃ x, vs.head? = some (some x)) ∧ ∀ v ∈ vs, inV m v := by
      simp at hd
      rcases hd with rfl | rfl | rfl
      · exact ⟨[some m.low], rfl, by simp, by simp, ⟨_, rfl⟩, by intro v h; simp at h; subst h; intro i e; cases e; exact ⟨Int.le_refl _, hm⟩⟩
      · exact ⟨[some m.high, none], rfl, by simp, by simp, ⟨_, rfl⟩, by intro v h; simp at h; rcases h with rfl | rfl <;> intro i e <;> cases e; exact ⟨hm, Int.le_refl _⟩⟩
      · exact ⟨[some m.high], rfl, by simp, by simp, ⟨_, rfl⟩, by intro v h; simp at h; subst h; intro i e; cases e; exact ⟨hm, Int.le_refl _⟩⟩
    obtain ⟨vs, rfl, h1, h2, h4, h3⟩ := this
    simp
    refine ⟨by omega, ss ++ [⟨t + z, vs⟩], by simp; omega, ?_, (mono.app (Int.le_refl _) vs).up (by omega), by simp [slD]⟩
    intro s hs
    rcases List.mem_append.mp hs with h | h
    · exact ok s h
    · rw [List.mem_singleton.mp h]; exact ⟨h1, h2, h3, by show (t + z).natAbs ≤ _; omega, h4⟩
  · rintro _ ⟨ss, k, hl, ok, mono, rfl⟩
    exact hq _ _ hl ok mono.1
  · exact ⟨ss0, k, rfl, ok0, by simpa using mono0, rfl⟩
theorem slots_run (st : List Int) (m : Mt) (hm : m.low ≤ m.high) (mo : Nat) (hmo : mo ≤ 30) (c : Int) : ∃ st', ∃ ss : List Sl, ss.length ≤ mo + 30 ∧ (∀ s ∈ ss, SlOk m (c.natAbs + 400) s) ∧ (ss.Pairwise fun a b => a.stamp ≤ b.stamp) ∧ F_l_slots.run [iL st, .dat (mD m), .dat (.int mo), .dat (.int c)] = some (.dat (.tuple (ss.map slD)), [some (iL st'), none, none, none]) := by
  suffices h : Wp (F_l_slots.run [iL st, .dat (mD m), .dat (.int mo), .dat (.int c)]) fun q => ∃ st', ∃ ss : List Sl, ss.length ≤ mo + 30 ∧ (∀ s ∈ ss, SlOk m (c.natAbs + 400) s) ∧ (ss.Pairwise fun a b => a.stamp ≤ b.stamp) ∧ q = (.dat (.tuple (ss.map slD)), [some (iL st'), none, none, none]) by
    obtain ⟨a, e, st', v, h1, h2, h3, rfl⟩ := h; exact ⟨st', v, h1, h2, h3, e⟩
  unfold F_l_slots
  refine fn_cut rfl rfl ?_
  refine seq_cut (fun r => ∃ st, ∃ t : Int, t.natAbs ≤ c.natAbs + 12 ∧ r = [some (iL st), some (.dat (mD m)), some (.dat (.int mo)), some (.dat (.int c)), some (.dat (.int t)), none, none, none]) ?_ ?_
  · have t1 := tk_lo (tkS st) (m := 9) (by decide)
    have t2 := tk_hi (tkS st) (m := 9) (by decide)
    have t3 := tk_lo st (m := 25) (by decide)
    have t4 := tk_hi st (m := 25) (by decide)
    simp [l_take_run]
    refine wO_at (by omega) (by simp; omega) fun d hd => ?_
    simp at hd
    rcases hd with rfl | rfl <;> simp <;> omega
  rintro _ ⟨st, t, ht, rfl⟩
  refine seq_cut (fun r => r = [some (iL st), some (.dat (mD m)), some (.dat (.int mo)), some (.dat (.int c)), some (.dat (.int t)), some (.own (.lst [])), none, none]) (by simp) ?_
  rintro _ rfl
  have p : 0 < (mo : Int) + 1 := by omega
  refine seq_cut (fun r => ∃ st, ∃ ss : List Sl, ∃ t : Int, ∃ k, ss.length ≤ mo ∧ (∀ s ∈ ss, SlOk m (c.natAbs + 292) s) ∧ t.natAbs ≤ c.natAbs + 292 ∧ Mono t ss ∧ r = [some (iL st), some (.dat (mD m)), some (.dat (.int mo)), some (.dat (.int c)), some (.dat (.int t)), some (.own (.lst (ss.map slD))), k, none]) ?_ ?_
  · have t1 := tk_lo st p
    have t2 := tk_hi st p
    simp [l_take_run _ p]
    refine ⟨by omega, slots_loop1 m hm _ _ (c.natAbs + 12) _ (by omega) _ t ht fun st ss t k h1 h2 h3 h4 => ?_⟩
    simp
    exact ⟨_, ss, by omega, h2, _, by omega, h4, rfl, rfl, rfl⟩
  rintro _ ⟨st, ss, t, k, h1, h2, h3, h4, rfl⟩
  have wk : ∀ {b b' : Nat} {s : Sl}, b ≤ b' → SlOk m b s → SlOk m b' s := fun hb ⟨a1, a2, a3, a4, a5⟩ => ⟨a1, a2, a3, Nat.le_trans a4 hb, a5⟩
  refine seq_cut (fun r => ∃ st, ∃ ss : List Sl, ∃ t k w, ss.length ≤ mo + 30 ∧ (∀ s ∈ ss, SlOk m (c.natAbs + 400) s) ∧ (ss.Pairwise fun a b => a.stamp ≤ b.stamp) ∧ r = [some (iL st), some (.dat (mD m)), some (.dat (.int mo)), some (.dat (.int c)), t, some (.own (.lst (ss.map slD))), k, w]) ?_ ?_
  · simp [l_take_run]
    refine wIf_d (fun _ => ?_) fun _ => ?_
    · have t1 := tk_lo (tkS st) (m := 3) (by decide)
      have t2 := tk_hi (tkS st) (m := 3) (by decide)
      simp [l_take_run]
      refine slots_loop2 m hm _ _ _ (c.natAbs + 292) t _ h3 ⟨t1, by omega⟩ ss k (by omega) (fun s hs => wk (by omega) (h2 s hs)) h4 fun ss2 k q1 q2 q3 => ?_
      simp
      exact ⟨_, ss2, by omega, fun s hs => wk (by omega) (q2 s hs), q3, rfl, rfl⟩
    · simp
      exact ⟨_, ss, by omega, fun s hs => wk (by omega) (h2 s hs), h4.1, rfl, rfl⟩
  rintro _ ⟨st, ss, t, k, w, h1, h2, h3, rfl⟩
  simp
  exact ⟨_, ss, h1, h2, h3, rfl, rfl⟩
/-- a log of a meter -/
structure LoOk (m : Mt) (b : Nat) (l : Lo) : Prop where
  name : l.name = m.name
  off : -m.err ≤ l.off ∧ l.off ≤ m.err
  few : l.slots.length ≤ 35
  each : ∀ s ∈ l.slots, SlOk m b s
  mono : l.slots.Pairwise fun a b => a.stamp ≤ b.stamp
theorem history_loop (len : Int) (ms : List Mt) (c : Int) (P : Option Sv) (h : ∀ m ∈ ms, m.low ≤ m.high ∧ 0 ≤ m.err ∧ m.err ≤ 60) (hl : ms.length ≤ 10) (st : List Int) {Q : Out → Prop}
    (hq : ∀ st (ls : List Lo) a b d, ls.length = ms.length → (∀ p ∈ ms.zip ls, LoOk p.1 (c.natAbs + 400) p.2) → Q (.nx [some (iL st), P, some (.dat (.int 5)), some (.dat (.int c)), some (.own (.lst (ls.map loD))), a, b, d])) :
    Wp (forL (gN 5) B_l_history_1 (ms.map mD) [some (iL st), P, some (.dat (.int 5)), some (.dat (.int c)), some (.own (.lst [])), none, none, none]) Q := by
  refine for_inv (fun ys r => ∃ st, ∃ ls : List Lo, ∃ m1 m2 : List Mt, ∃ a b d, ms = m1 ++ m2 ∧ ys = m2.map mD ∧ ls.length = m1.length ∧ (∀ p ∈ m1.zip ls, LoOk p.1 (c.natAbs + 400) p.2) ∧ r = [some (iL st), P, some (.dat (.int 5)), some (.dat (.int c)), some (.own (.lst (ls.map loD))), a, b, d]) ?_ ?_ ?_
  · rintro x ys _ _ ⟨st, ls, m1, m2, a, b, d, em, ey, el, ok, rfl⟩
    obtain ⟨m, m3, rfl, rfl, rfl⟩ := List.map_eq_cons_iff.mp ey.symm
    obtain ⟨h1, h2, h3⟩ := h m (by rw [em]; simp)
    refine gN_cut (by simp) rfl ?_
    unfold B_l_history_1
    have lb : ls.length ≤ 10 := by rw [em] at hl; simp at hl; omega
    have p : 0 < 2 * m.err + 1 := by omega
    refine seq_cut (fun r => ∃ st o, (-m.err ≤ o ∧ o ≤ m.err) ∧ r = [some (iL st), P, some (.dat (.int 5)), some (.dat (.int c)), some (.own (.lst (ls.map loD))), some (.dat (mD m)), some (.dat (.int o)), d]) ?_ ?_
    · have t1 := tk_lo st p
      have t2 := tk_hi st p
      have b1 := lg_small (x := m.err) (by omega)
      have b2 : lg 2 ≤ 63 := lg_small (by decide)
      have b3 : lg 2 + lg m.err < 100000000 := by omega
      have b4 : Nat.log2 2 = 1 := by decide
      simp [lg_fold, mD, l_take_run _ p, b4]
      exact ⟨by omega, by omega, by omega⟩
    rintro _ ⟨st, o, ho, rfl⟩
    refine seq_cut (fun r => ∃ st o, (-m.err ≤ o ∧ o ≤ m.err) ∧ r = [some (iL st), P, some (.dat (.int 5)), some (.dat (.int c)), some (.own (.lst (ls.map loD))), some (.dat (mD m)), some (.dat (.int o)), d]) ?_ ?_
    · simp [mD, l_take_run]
      refine wIf_d (fun _ => ?_) fun _ => ?_
      · simp [l_take_run]
        refine wO_at (tk_lo _ (by decide)) (tk_hi _ (by decide)) fun d hd => ?_
        simp at hd
        rcases hd with rfl | rfl <;> simp <;> omega
      · simp
        exact ho
    rintro _ ⟨st, o, ho, rfl⟩
    obtain ⟨st', ss, s1, s2, s3, e⟩ := slots_run st m h1 5 (by decide) c
    simp at e
    refine seq_cut (fun r => r = [some (iL st'), P, some (.dat (.int 5)), some (.dat (.int c)), some (.own (.lst (ls.map loD))), some (.dat (mD m)), some (.dat (.int o)), some (.dat (.tuple (ss.map slD)))]) (by simp [e]) ?_
    rintro _ rfl
    refine seq_cut (fun r => ∃ ss : List Sl, ss.length ≤ 35 ∧ (∀ s ∈ ss, SlOk m (c.natAbs + 400) s) ∧ (ss.Pairwise fun a b => a.stamp ≤ b.stamp) ∧ r = [some (iL st'), P, some (.dat (.int 5)), some (.dat (.int c)), some (.own (.lst (ls.map loD))), some (.dat (mD m)), some (.dat (.int o)), some (.dat (.tuple (ss.map slD)))]) ?_ ?_
    · simp
      refine wIf_d (fun _ => ?_) fun _ => ?_
      · have := cutD_to (ss.map slD) 5
        simp at this
        simp [this]
        refine ⟨ss.take 5, by simp; omega, fun s hs => s2 s (List.mem_of_mem_take hs), s3.sublist (List.take_sublist _ _), ?_⟩
        rw [List.map_take]
      · simp
        exact ⟨ss, s1, s2, s3, rfl⟩
    rintro _ ⟨ss, s1, s2, s3, rfl⟩
    simp [mD]
    refine ⟨by omega, _, ls ++ [⟨m.name, o, ss⟩], m1 ++ [m], m3, by simp [em], rfl, by simp [el], ?_, rfl, by simp [loD]⟩
    intro q1 q2 hp
    rw [List.zip_append el.symm] at hp
    rcases List.mem_append.mp hp with h | h
    · exact ok (q1, q2) h
    · simp at h
      obtain ⟨rfl, rfl⟩ := h
      exact ⟨rfl, ho, s1, s2, s3⟩
  · rintro _ ⟨st, ls, m1, m2, a, b, d, em, ey, el, ok, rfl⟩
    obtain rfl : m2 = [] := by simpa using ey.symm
    rw [List.append_nil] at em
    subst em
    exact hq _ _ _ _ _ el ok
  · exact ⟨st, [], [], ms, none, none, none, rfl, rfl, rfl, by simp, rfl⟩
theorem history_run (len : Int) (ms : List Mt) (c : Int) (h : ∀ m ∈ ms, m.low ≤ m.high ∧ 0 ≤ m.err ∧ m.err ≤ 60) (hl : ms.length ≤ 10) (st : List Int) : ∃ st', ∃ ls : List Lo, ls.length = ms.length ∧ (∀ p ∈ ms.zip ls, LoOk p.1 (c.natAbs + 400) p.2) ∧ F_l_history.run [iL st, .dat (pD len ms), .dat (.int 5), .dat (.int c)] = some (.dat (.tuple (ls.map loD)), [some (iL st'), none, none, none]) := by
  suffices h : Wp (F_l_history.run [iL st, .dat (pD len ms), .dat (.int 5), .dat (.int c)]) fun q => ∃ st', ∃ ls : List Lo, ls.length = ms.length ∧ (∀ p ∈ ms.zip ls, LoOk p.1 (c.natAbs + 400) p.2) ∧ q = (.dat (.tuple (ls.map loD)), [some (iL st'), none, none, none]) by
    obtain ⟨a, e, st', v, h1, h2, rfl⟩ := h; exact ⟨st', v, h1, h2, e⟩
  unfold F_l_history
  simp [pD]
  refine history_loop len ms c _ h hl st fun st ls a b d h1 h2 => ?_
  simp
  exact ⟨_, ls, h1, fun a b hab => h2 (a, b) hab, rfl, rfl⟩
end Lw
namespace Lw
open PySem PySem.Spec PyProof.Rows L2 DL
/-- the last version -/
def lastV (s : Sl) : Option Int := (s.vers.getLast?).join
def gets (len w : Int) (ch : List Str) (off : Int) (nm : Str) (ss : List Sl) : List Int := if nm ∈ ch then (ss.filter fun s => decide ((s.stamp + off) / len = w)).filterMap lastV else []
def rds (len w : Int) (ch : List Str) (ls : List Lo) : List Int := ls.flatMap fun l => gets len w ch l.off l.name l.slots
theorem gets_cons (len w : Int) (ch : List Str) (off : Int) (nm : Str) (s : Sl) (ss : List Sl) : gets len w ch off nm (s :: ss) = gets len w ch off nm [s] ++ gets len w ch off nm ss := by
  unfold gets
  split
  · rw [← List.filterMap_append, ← List.filter_append]; rfl
  · rfl
theorem gets_len (len w : Int) (ch : List Str) (off : Int) (nm : Str) (ss : List Sl) : (gets len w ch off nm ss).length ≤ ss.length := by
  unfold gets
  split
  · exact Nat.le_trans (List.length_filterMap_le _ _) (List.length_filter_le _ _)
  · exact Nat.zero_le _
theorem fits_iff {t len w : Int} (h : 0 < len) : (w * len ≤ t ∧ t < (w + 1) * len) ↔ t / len = w := by
  constructor
  · rintro ⟨a, b⟩
    have h1 : w ≤ t / len := (Int.le_ediv_iff_mul_le h).mpr a
    have h2 : t / len < w + 1 := (Int.ediv_lt_iff_lt_mul h).mpr b
    omega
  · rintro rfl
    exact div_bounds h
/-- item -1 of the versions -/
theorem last_at {s : Sl} (h : s.vers ≠ []) : atI (s.vers.map oD) (-1) = some (oD (lastV s)) := by
  have hl : 0 < s.vers.length := List.length_pos_iff.mpr h
  unfold atI ixN lastV
  rw [if_neg (by decide), if_pos (by simp; omega), Option.bind_some, List.length_map, List.getElem?_map, show (-1 + (s.vers.length : Int)).toNat = s.vers.length - 1 by omega, ← List.getLast?_eq_getElem?, List.getLast?_eq_some_getLast h]
  rfl
theorem any_str (ch : List Str) (n : Str) : (ch.any ((fun z => PyData.eqv z (.str n)) ∘ PyData.str)) = decide (n ∈ ch) := by
  rw [Bool.eq_iff_iff, List.any_eq_true, decide_eq_true_iff]
  constructor
  · rintro ⟨c, m, h⟩
    have : c = n := by simpa using h
    exact this ▸ m
  · exact fun m => ⟨n, m, by simp⟩
theorem readings_in (len w : Int) (hlen : 0 < len) (ms : D) (ch : List Str) (hist S : Option Sv) (nm : Str) (off : Int) (ss : List Sl) (ok : ∀ s ∈ ss, s.vers ≠ []) (fs : List Int) (hb : fs.length + ss.length ≤ 900000) (a b : Option Sv) {Q : Out → Prop}
    (hq : ∀ a b, Q (.nx [some (.dat (.tuple [.int len, ms])), hist, some (.dat (.tuple (ch.map .str))), some (.dat (.int w)), some (iL (fs ++ gets len w ch off nm ss)), some (.dat (.str nm)), some (.dat (.int off)), S, a, b])) :
    Wp (forL (gTp 2 (gsCons (gN 8) (gsCons (gN 9) gsNil))) B_p_readings_1 (ss.map slD) [some (.dat (.tuple [.int len, ms])), hist, some (.dat (.tuple (ch.map .str))), some (.dat (.int w)), some (iL fs), some (.dat (.str nm)), some (.dat (.int off)), S, a, b]) Q := by
  refine for_inv (fun ys r => ∃ s1 s2 : List Sl, ∃ a b, ss = s1 ++ s2 ∧ ys = s2.map slD ∧ r = [some (.dat (.tuple [.int len, ms])), hist, some (.dat (.tuple (ch.map .str))), some (.dat (.int w)), some (iL (fs ++ gets len w ch off nm s1)), some (.dat (.str nm)), some (.dat (.int off)), S, a, b]) ?_ ?_ ?_
  · rintro x ys _ _ ⟨s1, s2, a, b, e1, e2, rfl⟩
    obtain ⟨s, s3, rfl, rfl, rfl⟩ := List.map_eq_cons_iff.mp e2.symm
    have hv : s.vers ≠ [] := ok s (by rw [e1]; simp)
    have hle := gets_len len w ch off nm s1
    have hls : s1.length ≤ ss.length := by rw [e1]; simp
    have gapp : gets len w ch off nm (s1 ++ [s]) = gets len w ch off nm s1 ++ gets len w ch off nm [s] := by
      unfold gets
      split
      · rw [List.filter_append, List.filterMap_append]
      · rfl
    have key : ∀ X : List Int, X = gets len w ch off nm (s1 ++ [s]) → ∃ t1 t2 : List Sl, ss = t1 ++ t2 ∧ s3.map slD = t2.map slD ∧ X = gets len w ch off nm t1 := by
      rintro _ rfl
      exact ⟨s1 ++ [s], s3, by rw [e1]; simp, rfl, rfl⟩
    simp [slD, B_p_readings_1, any_str]
    refine wIf_d (fun h1 => ?_) fun h1 => ?_
    · have la := last_at hv
      cases hz : lastV s with
      | none =>
        rw [hz] at la
        simp [la, oD]
        refine key _ ?_
        rw [gapp]
        unfold gets
        simp [List.filter_cons]
        exact fun _ _ => hz
      | some v =>
        rw [hz] at la
        simp [la, oD, F_p_window_of, hlen]
        refine wIf_d (fun h2 => ?_) fun h2 => ?_
        · simp [la, oD]
          have hg : gets len w ch off nm [s] = [v] := by unfold gets; rw [if_pos h1]; simp [h2, hz]
          refine ⟨by omega, s1 ++ [s], s3, by rw [e1]; simp, rfl, ?_⟩
          rw [gapp, hg]; simp
        · simp
          refine key _ ?_
          rw [gapp]
          simp [gets, h2]
    · simp
      refine key _ ?_
      rw [gapp]
      simp [gets, h1]
  · rintro _ ⟨s1, s2, a, b, e1, e2, rfl⟩
    obtain rfl : s2 = [] := by simpa using e2.symm
    rw [List.append_nil] at e1
    subst e1
    exact hq _ _
  · exact ⟨[], ss, a, b, rfl, rfl, by simp [gets]⟩
theorem rds_app (len w : Int) (ch : List Str) (a b : List Lo) : rds len w ch (a ++ b) = rds len w ch a ++ rds len w ch b := by unfold rds; rw [List.flatMap_append]
theorem rds_len {len w : Int} {ch : List Str} : ∀ {ls : List Lo}, (∀ l ∈ ls, l.slots.length ≤ 100) → (rds len w ch ls).length ≤ 100 * ls.length
  | [], _ => by simp [rds]
  | l :: ls, h => by
    have ih := rds_len (len := len) (w := w) (ch := ch) fun k m => h k (List.mem_cons_of_mem _ m)
    have h1 := gets_len len w ch l.off l.name l.slots
    have h2 := h l List.mem_cons_self
    have e : rds len w ch (l :: ls) = gets len w ch l.off l.name l.slots ++ rds len w ch ls := by unfold rds; rw [List.flatMap_cons]
    rw [e, List.length_append, List.length_cons]
    omega
/-- logs that may stand in a history -/
def LsOk (ls : List Lo) : Prop := ls.length ≤ 10 ∧ ∀ l ∈ ls, l.slots.length ≤ 100 ∧ ∀ s ∈ l.slots, s.vers ≠ []
theorem p_readings_run (len w : Int) (hlen : 0 < len) (ms : D) (ch : List Str) (ls : List Lo) (ok : LsOk ls) : F_p_readings.run [.dat (.tuple [.int len, ms]), .dat (.tuple (ls.map loD)), .dat (.tuple (ch.map .str)), .dat (.int w)] = some (iT ((rds len w ch ls).mergeSort leI), [none, none, none, none]) := by
  refine Wp.eq ?_
  unfold F_p_readings
  refine fn_cut rfl rfl ?_
  generalize hH : some (Sv.dat (PyData.tuple (ls.map loD))) = hist
  refine seq_cut (fun r => r = [some (.dat (.tuple [.int len, ms])), hist, some (.dat (.tuple (ch.map .str))), some (.dat (.int w)), some (iL []), none, none, none, none, none]) (by subst hH; simp) ?_
  rintro _ rfl
  refine seq_cut (fun r => ∃ a b c d e, r = [some (.dat (.tuple [.int len, ms])), hist, some (.dat (.tuple (ch.map .str))), some (.dat (.int w)), some (iL (rds len w ch ls)), a, b, c, d, e]) ?_ ?_
  · have : ∀ Q, Wp (forL (gTp 3 (gsCons (gN 5) (gsCons (gN 6) (gsCons (gN 7) gsNil)))) B_p_readings_2 (ls.map loD) [some (.dat (.tuple [.int len, ms])), hist, some (.dat (.tuple (ch.map .str))), some (.dat (.int w)), some (iL []), none, none, none, none, none]) Q → Wp (sFor (iSeq (eVar 1)) (gTp 3 (gsCons (gN 5) (gsCons (gN 6) (gsCons (gN 7) gsNil)))) B_p_readings_2 [some (.dat (.tuple [.int len, ms])), hist, some (.dat (.tuple (ch.map .str))), some (.dat (.int w)), some (iL []), none, none, none, none, none]) Q := by
      intro Q h
      subst hH
      simp
      simpa using h
    refine this _ ?_
    refine for_inv (fun ys r => ∃ l1 l2 : List Lo, ∃ a b c d e, ls = l1 ++ l2 ∧ ys = l2.map loD ∧ r = [some (.dat (.tuple [.int len, ms])), hist, some (.dat (.tuple (ch.map .str))), some (.dat (.int w)), some (iL (rds len w ch l1)), a, b, c, d, e]) ?_ ?_ ?_
    · rintro x ys _ _ ⟨l1, l2, a, b, c, d, e, e1, e2, rfl⟩
      obtain ⟨l, l3, rfl, rfl, rfl⟩ := List.map_eq_cons_iff.mp e2.symm
      have hl := ok.2 l (by rw [e1]; simp)
      have hb : (rds len w ch l1).length ≤ 100 * l1.length := rds_len fun k m => (ok.2 k (by rw [e1]; simp [m])).1
      have hn : l1.length ≤ 10 := by have := ok.1; rw [e1] at this; simp at this; omega
      simp [loD, B_p_readings_2]
      refine readings_in len w hlen ms ch hist _ l.name l.off l.slots hl.2 _ (by omega) d e fun a b => ?_
      simp
      refine ⟨l1 ++ [l], l3, by rw [e1]; simp, rfl, ?_⟩
      rw [rds_app]
      simp [rds]
    · rintro _ ⟨l1, l2, a, b, c, d, e, e1, e2, rfl⟩
      obtain rfl : l2 = [] := by simpa using e2.symm
      rw [List.append_nil] at e1
      subst e1
      simp
    · exact ⟨[], ls, none, none, none, none, none, rfl, rfl, rfl⟩
  rintro _ ⟨a, b, c, d, e, rfl⟩
  subst hH
  simp
theorem cut_last {s : Sl} (h : s.vers ≠ []) : cutD (s.vers.map oD) (some (-1)) none = [oD (lastV s)] := by
  have hl : 0 < s.vers.length := List.length_pos_iff.mpr h
  unfold DL.cutD lastV
  have e1 : HT.sIx (s.vers.map oD).length 0 (some (-1)) = s.vers.length - 1 := by
    unfold HT.sIx
    simp
    omega
  rw [e1, HT.sIx_none, List.length_map, show s.vers.length - (s.vers.length - 1) = 1 by omega, ← List.map_drop]
  obtain ⟨i, x, e⟩ : ∃ i x, s.vers = i ++ [x] := ⟨_, _, (List.dropLast_concat_getLast h).symm⟩
  rw [e]
  simp
theorem l_readings_in (len w : Int) (hlen : 0 < len) (b1 : lg len ≤ 20000000) (b2 : lg w ≤ 20000000) (ms : D) (ch : List Str) (hist : Option Sv) (l : Lo) (ok : ∀ s ∈ l.slots, s.vers ≠ []) (fs : List Int) (hb : fs.length + l.slots.length ≤ 900000) (a b c : Option Sv) {Q : Out → Prop}
    (hq : ∀ a b c, Q (.nx [some (.dat (.tuple [.int len, ms])), hist, some (.dat (.tuple (ch.map .str))), some (.dat (.int w)), some (iL (fs ++ gets len w ch l.off l.name l.slots)), some (.dat (loD l)), a, b, c])) :
    Wp (forL (gN 6) B_l_readings_1 (l.slots.map slD) [some (.dat (.tuple [.int len, ms])), hist, some (.dat (.tuple (ch.map .str))), some (.dat (.int w)), some (iL fs), some (.dat (loD l)), a, b, c]) Q := by
  have c1 := lg_add w 1
  have c2 := lg_one
  have m1 : lg w + lg len < 100000000 := by omega
  have m2 : lg (w + 1) + lg len < 100000000 := by omega
  refine for_inv (fun ys r => ∃ s1 s2 : List Sl, ∃ a b c, l.slots = s1 ++ s2 ∧ ys = s2.map slD ∧ r = [some (.dat (.tuple [.int len, ms])), hist, some (.dat (.tuple (ch.map .str))), some (.dat (.int w)), some (iL (fs ++ gets len w ch l.off l.name s1)), some (.dat (loD l)), a, b, c]) ?_ ?_ ?_
  · rintro x ys _ _ ⟨s1, s2, a, b, c, e1, e2, rfl⟩
    obtain ⟨s, s3, rfl, rfl, rfl⟩ := List.map_eq_cons_iff.mp e2.symm
    have hv : s.vers ≠ [] := ok s (by rw [e1]; simp)
    have hle := gets_len len w ch l.off l.name s1
    have hls : s1.length + 1 ≤ l.slots.length := by rw [e1]; simp
    have gapp : gets len w ch l.off l.name (s1 ++ [s]) = gets len w ch l.off l.name s1 ++ gets len w ch l.off l.name [s] := by
      unfold gets
      split
      · rw [List.filter_append, List.filterMap_append]
      · rfl
    have key : ∀ X : List Int, X = gets len w ch l.off l.name (s1 ++ [s]) → ∃ t1 t2 : List Sl, l.slots = t1 ++ t2 ∧ s3.map slD = t2.map slD ∧ X = gets len w ch l.off l.name t1 := by
      rintro _ rfl
      exact ⟨s1 ++ [s], s3, by rw [e1]; simp, rfl, rfl⟩
    have fit := fits_iff (t := s.stamp + l.off) (w := w) hlen
    simp [slD, loD, B_l_readings_1, any_str]
    refine wIf_d (fun h1 => ?_) fun h1 => ?_
    · simp [lg_fold, m1]
      refine wIf_d (fun h2 => ?_) fun h2 => ?_
      · simp [lg_fold, m2]
        refine wIf_d (fun h3 => ?_) fun h3 => ?_
        · have hw := fit.mp ⟨h2, h3⟩
          simp [cut_last hv]
          refine lc_fm (P := fun d => !isN d) (F := id) (fun x hx => ?_) ?_
          · obtain rfl := List.mem_singleton.mp hx
            cases hz : lastV s <;> simp [oD, isN]
          · have hg : gets len w ch l.off l.name [s] = (lastV s).toList := by
              unfold gets; rw [if_pos h1]
              cases hz : lastV s <;> simp [hw, hz]
            cases hz : lastV s with
            | none =>
              rw [hz] at hg
              simp [oD, isN, List.filter_cons]
              refine ⟨by omega, key _ ?_⟩
              rw [gapp, hg]; simp
            | some v =>
              rw [hz] at hg
              simp [oD, isN, List.filter_cons]
              refine ⟨by omega, s1 ++ [s], s3, by rw [e1]; simp, rfl, ?_⟩
              rw [gapp, hg]; simp
        · have hw : ¬ (s.stamp + l.off) / len = w := fun e => h3 (fit.mpr e).2
          simp
          refine key _ ?_
          rw [gapp]
          simp [gets, hw]
      · have hw : ¬ (s.stamp + l.off) / len = w := fun e => h2 (fit.mpr e).1
        simp
        refine key _ ?_
        rw [gapp]
        simp [gets, hw]
    · simp
      refine key _ ?_
      rw [gapp]
      simp [gets, h1]
  · rintro _ ⟨s1, s2, a, b, c, e1, e2, rfl⟩
    obtain rfl : s2 = [] := by simpa using e2.symm
    rw [List.append_nil] at e1
    rw [← e1]
    exact hq _ _ _
  · exact ⟨[], l.slots, a, b, c, rfl, rfl, by simp [gets]⟩
theorem l_readings_run (len w : Int) (hlen : 0 < len) (b1 : lg len ≤ 20000000) (b2 : lg w ≤ 20000000) (ms : D) (ch : List Str) (ls : List Lo) (ok : LsOk ls) : F_l_readings.run [.dat (.tuple [.int len, ms]), .dat (.tuple (ls.map loD)), .dat (.tuple (ch.map .str)), .dat (.int w)] = some (iT ((rds len w ch ls).mergeSort leI), [none, none, none, none]) := by
  refine Wp.eq ?_
  unfold F_l_readings
  refine fn_cut rfl rfl ?_
  generalize hH : some (Sv.dat (PyData.tuple (ls.map loD))) = hist
  refine seq_cut (fun r => r = [some (.dat (.tuple [.int len, ms])), hist, some (.dat (.tuple (ch.map .str))), some (.dat (.int w)), some (iL []), none, none, none, none]) (by subst hH; simp) ?_
  rintro _ rfl
  refine seq_cut (fun r => ∃ a b c d, r = [some (.dat (.tuple [.int len, ms])), hist, some (.dat (.tuple (ch.map .str))), some (.dat (.int w)), some (iL (rds len w ch ls)), a, b, c, d]) ?_ ?_
  · have : ∀ Q, Wp (forL (gN 5) B_l_readings_2 (ls.map loD) [some (.dat (.tuple [.int len, ms])), hist, some (.dat (.tuple (ch.map .str))), some (.dat (.int w)), some (iL []), none, none, none, none]) Q → Wp (sFor (iSeq (eVar 1)) (gN 5) B_l_readings_2 [some (.dat (.tuple [.int len, ms])), hist, some (.dat (.tuple (ch.map .str))), some (.dat (.int w)), some (iL []), none, none, none, none]) Q := by
      intro Q h
      subst hH
      simp
      simpa using h
    refine this _ ?_
    refine for_inv (fun ys r => ∃ l1 l2 : List Lo, ∃ a b c d, ls = l1 ++ l2 ∧ ys = l2.map loD ∧ r = [some (.dat (.tuple [.int len, ms])), hist, some (.dat (.tuple (ch.map .str))), some (.dat (.int w)), some (iL (rds len w ch l1)), a, b, c, d]) ?_ ?_ ?_
    · rintro x ys _ _ ⟨l1, l2, a, b, c, d, e1, e2, rfl⟩
      obtain ⟨l, l3, rfl, rfl, rfl⟩ := List.map_eq_cons_iff.mp e2.symm
      have hl := ok.2 l (by rw [e1]; simp)
      have hb : (rds len w ch l1).length ≤ 100 * l1.length := rds_len fun k m => (ok.2 k (by rw [e1]; simp [m])).1
      have hn : l1.length ≤ 10 := by have := ok.1; rw [e1] at this; simp at this; omega
      have go := l_readings_in len w hlen b1 b2 ms ch hist l hl.2 (rds len w ch l1) (by omega) b c d (Q := fun o => rO o (fun r => ∃ l1 l2 : List Lo, ∃ a b c d, ls = l1 ++ l2 ∧ l3.map loD = l2.map loD ∧ r = [some (.dat (.tuple [.int len, ms])), hist, some (.dat (.tuple (ch.map .str))), some (.dat (.int w)), some (iL (rds len w ch l1)), a, b, c, d]) fun o => kO o (fun r => ∃ a b c d, r = [some (.dat (.tuple [.int len, ms])), hist, some (.dat (.tuple (ch.map .str))), some (.dat (.int w)), some (iL (rds len w ch ls)), a, b, c, d]) fun o => oF o [] 4 fun x => x = (iT ((rds len w ch ls).mergeSort leI), [none, none, none, none])) (fun a b c => by
        simp
        refine ⟨l1 ++ [l], l3, by rw [e1]; simp, rfl, ?_⟩
        rw [rds_app]
        simp [rds])
      simp [loD] at go
      simp [loD, B_l_readings_2]
      simpa using go
    · rintro _ ⟨l1, l2, a, b, c, d, e1, e2, rfl⟩
      obtain rfl : l2 = [] := by simpa using e2.symm
      rw [List.append_nil] at e1
      subst e1
      simp
    · exact ⟨[], ls, none, none, none, none, rfl, rfl, rfl⟩
  rintro _ ⟨a, b, c, d, rfl⟩
  subst hH
  simp
end Lw
namespace Lw
open PySem PySem.Spec PyProof.Rows L2 DL
/-- a list of names -/
abbrev nL (zs : List Str) : D := .list (zs.map .str)
theorem chosen_run (st : List Int) (zs : List Str) (h0 : 0 < zs.length) (hl : zs.length ≤ 10) : ∃ st' ch, (∀ c ∈ ch, c ∈ zs) ∧ ch ≠ [] ∧ ch.length ≤ 10 ∧ F_l_chosen.run [iL st, .dat (nL zs)] = some (.dat (.tuple (ch.map .str)), [some (iL st'), none]) := by
  suffices h : Wp (F_l_chosen.run [iL st, .dat (nL zs)]) fun q => ∃ st' ch, (∀ c ∈ ch, c ∈ zs) ∧ ch ≠ [] ∧ ch.length ≤ 10 ∧ q = (.dat (.tuple (ch.map .str)), [some (iL st'), none]) by
    obtain ⟨a, e, st', ch, h1, h2, h3, rfl⟩ := h; exact ⟨st', ch, h1, h2, h3, e⟩
  unfold F_l_chosen
  refine fn_cut rfl rfl ?_
  refine seq_cut (fun r => ∃ st, ∃ ch : List Str, (∀ c ∈ ch, c ∈ zs) ∧ ch.length ≤ zs.length ∧ r = [some (iL st), some (.dat (nL zs)), some (.own (.lst (ch.map .str))), none]) ?_ ?_
  · simp
    refine ⟨by omega, ?_⟩
    refine lc_st (f := PyData.str) (fun l acc r => ∃ st, ∃ ch : List Str, acc = ch.map .str ∧ (∀ c ∈ ch, c ∈ zs) ∧ ch.length ≤ l.length ∧ r = [some (iL st), some (.dat (nL zs)), none, none]) ?_ ?_ ⟨st, [], rfl, by simp, by simp, rfl⟩
    · rintro l x m acc _ e1 ⟨st, ch, rfl, h1, h2, rfl⟩
      have hx : x ∈ zs := by rw [e1]; simp
      simp [l_take_run]
      refine ⟨fun _ => ⟨_, ch ++ [x], by simp, ?_, by simp; omega, rfl⟩, fun _ => ⟨_, ch, rfl, h1, by omega, rfl⟩⟩
      intro c hc
      rcases List.mem_append.mp hc with h | h
      · exact h1 c h
      · rw [List.mem_singleton.mp h]; exact hx
    · rintro ds _ ⟨st, ch, rfl, h1, h2, rfl⟩
      simp
      exact ⟨_, ch, h1, h2, rfl, rfl⟩
  rintro _ ⟨st, ch, h1, h2, rfl⟩
  by_cases hc : ch = []
  · subst hc
    have p : 0 < (zs.length : Int) := by omega
    have q1 := tk_lo st p
    have q2 := tk_hi st p
    simp [l_take_run _ p]
    refine wO_at q1 (by simp; exact q2) fun d hd => ?_
    obtain ⟨z, hz, rfl⟩ := List.mem_map.mp hd
    simp
    exact ⟨_, [z], by simpa using hz, by simp, by simp, by simp, rfl⟩
  · have : ¬ ((ch.length : Int) = 0) := by have := List.length_pos_iff.mpr hc; omega
    simp [hc]
    exact ⟨_, ch, h1, hc, by omega, rfl, rfl⟩
theorem are_run (vs : List Int) (hl : vs.length ≤ 100000) : F_l_are_values.run [iT vs, iT vs] = some (.dat (.bool true), [none, none]) := by
  refine Wp.eq ?_
  unfold F_l_are_values
  refine fn_cut rfl rfl ?_
  simp
  refine ⟨by omega, ?_⟩
  refine for_int (fun i r => ∃ a, r = [some (iT vs), some (iT vs), a]) ?_ ?_ ⟨_, rfl⟩
  · rintro i _ hi ⟨a, rfl⟩
    have q := atI_int (ns := vs) (i := (0 + (i : Int))) (by omega) (by omega)
    simp at q
    simp [B_l_are_values_1, q]
  · rintro _ ⟨a, rfl⟩
    simp
/-- the windows of the slots -/
def wns (len : Int) (ls : List Lo) : List Int := ls.flatMap fun l => l.slots.map fun s => (s.stamp + l.off) / len
theorem wns_len {len : Int} : ∀ {ls : List Lo}, (∀ l ∈ ls, l.slots.length ≤ 100) → (wns len ls).length ≤ 100 * ls.length
  | [], _ => by simp [wns]
  | l :: ls, h => by
    have ih := wns_len (len := len) fun k m => h k (List.mem_cons_of_mem _ m)
    have h2 := h l List.mem_cons_self
    have e : (wns len (l :: ls)).length = l.slots.length + (wns len ls).length := by unfold wns; rw [List.flatMap_cons, List.length_append, List.length_map]
    rw [e, List.length_cons]
    omega
theorem windows_run (len : Int) (hlen : 0 < len) (ms : D) (ls : List Lo) (ok : LsOk ls) : ∃ zs : List Int, zs.Nodup ∧ (∀ z, z ∈ zs ↔ z ∈ wns len ls) ∧ zs.Pairwise (· ≤ ·) ∧ zs.length ≤ 1000 ∧ F_l_windows.run [.dat (.tuple [.int len, ms]), .dat (.tuple (ls.map loD))] = some (.own (.lst (zs.map .int)), [none, none]) := by
  have hb : (wns len ls).length ≤ 1000 := Nat.le_trans (wns_len fun l m => (ok.2 l m).1) (by have := ok.1; omega)
  obtain ⟨zs, z1, z2, z3, z4⟩ := setS_ints (wns len ls) (by omega)
  refine ⟨zs, z1, z2, z3, Nat.le_trans (z1.length_le_of_subset fun z h => (z2 z).mp h) hb, ?_⟩
  refine Wp.eq ?_
  unfold F_l_windows
  refine fn_cut rfl rfl ?_
  refine seq_cut (fun r => r = [some (.dat (.tuple [.int len, ms])), some (.dat (.tuple (ls.map loD))), some (iL []), none, none]) (by simp) ?_
  rintro _ rfl
  refine seq_cut (fun r => ∃ a, r = [some (.dat (.tuple [.int len, ms])), some (.dat (.tuple (ls.map loD))), some (iL (wns len ls)), a, none]) ?_ ?_
  · simp
    refine for_map (f := loD) (fun l r => ∃ a, r = [some (.dat (.tuple [.int len, ms])), some (.dat (.tuple (ls.map loD))), some (iL (wns len l)), a, none]) ?_ ?_ ⟨_, rfl⟩
    · rintro l x m _ e1 ⟨a, rfl⟩
      have hx := ok.2 x (by rw [e1]; simp)
      have hb : (wns len l).length ≤ 1000 := Nat.le_trans (wns_len fun k h => (ok.2 k (by rw [e1]; simp [h])).1) (by have := ok.1; rw [e1] at this; simp at this; omega)
      have e2 : wns len (l ++ [x]) = wns len l ++ x.slots.map fun s => (s.stamp + x.off) / len := by unfold wns; simp
      simp [B_l_windows_1, loD]
      refine ⟨by omega, lc_ma (f := slD) (fun s => .int ((s.stamp + x.off) / len)) (fun s _ => ?_) ?_⟩
      · simp [slD, hlen]
      · simp
        refine ⟨by omega, ?_⟩
        rw [e2]
        simp
    · rintro _ ⟨a, rfl⟩
      simp
  rintro _ ⟨a, rfl⟩
  simp
  rw [z4 (iL _) rfl]
  simp
/-- stamps and offsets are near to the cell -/
def NearOk (b : Nat) (ls : List Lo) : Prop := ∀ l ∈ ls, l.off.natAbs ≤ 60 ∧ ∀ s ∈ l.slots, s.stamp.natAbs ≤ b
theorem wns_near {len : Int} (hlen : 0 < len) {b : Nat} {ls : List Lo} (h : NearOk b ls) {z : Int} (hz : z ∈ wns len ls) : z.natAbs ≤ b + 60 := by
  obtain ⟨l, hl, hz⟩ := List.mem_flatMap.mp hz
  obtain ⟨s, hs, rfl⟩ := List.mem_map.mp hz
  obtain ⟨h1, h2⟩ := h l hl
  have h3 := h2 s hs
  have := Int.natAbs_ediv_le_natAbs (s.stamp + l.off) len
  omega
theorem window_run (len : Int) (hlen : 0 < len) (ms : D) (ls : List Lo) (ok : LsOk ls) (c : Int) (near : NearOk (c.natAbs + 400) ls) (st : List Int) : ∃ st' w, w.natAbs ≤ c.natAbs + 461 ∧ F_l_window.run [iL st, .dat (.tuple [.int len, ms]), .dat (.tuple (ls.map loD)), .dat (.int c)] = some (.dat (.int w), [some (iL st'), none, none, none]) := by
  suffices h : Wp (F_l_window.run [iL st, .dat (.tuple [.int len, ms]), .dat (.tuple (ls.map loD)), .dat (.int c)]) fun q => ∃ st' w, w.natAbs ≤ c.natAbs + 461 ∧ q = (.dat (.int w), [some (iL st'), none, none, none]) by
    obtain ⟨a, e, st', w, h, rfl⟩ := h; exact ⟨st', w, h, e⟩
  obtain ⟨zs, z1, z2, z3, z4, e⟩ := windows_run len hlen ms ls ok
  unfold F_l_window
  refine fn_cut rfl rfl ?_
  refine seq_cut (fun r => r = [some (iL st), some (.dat (.tuple [.int len, ms])), some (.dat (.tuple (ls.map loD))), some (.dat (.int c)), some (iL zs), none]) (by simp [e]) ?_
  rintro _ rfl
  by_cases hz : zs = []
  · subst hz
    simp
    exact ⟨_, _, by omega, rfl, rfl⟩
  · have p : 0 < (zs.length : Int) := by have := List.length_pos_iff.mpr hz; omega
    have q1 := tk_lo st p
    have q2 := tk_hi st p
    have hw := wns_near hlen near ((z2 _).mp (nthI_mem q1 q2))
    simp [hz, l_take_run _ p, l_take_run, atI_int q1 q2]
    refine wO_at (tk_lo _ (by decide)) (tk_hi _ (by decide)) fun d hd => ?_
    simp at hd
    rcases hd with rfl | rfl | rfl | rfl <;> simp <;> exact ⟨_, _, by omega, rfl, rfl⟩
theorem zip_r {α β : Type} {l : β} : ∀ {as : List α} {bs : List β}, bs.length ≤ as.length → l ∈ bs → ∃ a, a ∈ as ∧ (a, l) ∈ as.zip bs
  | [], bs, h, m => by have : bs = [] := List.length_eq_zero_iff.mp (by simpa using h); subst this; cases m
  | a :: as, [], _, m => nomatch m
  | a :: as, b :: bs, h, m => by
    rcases List.mem_cons.mp m with rfl | m
    · exact ⟨a, List.mem_cons_self, by simp⟩
    · obtain ⟨x, h1, h2⟩ := zip_r (as := as) (bs := bs) (by simpa using h) m
      exact ⟨x, List.mem_cons_of_mem _ h1, by rw [List.zip_cons_cons]; exact List.mem_cons_of_mem _ h2⟩
theorem hist_ok {c len : Int} {ms : List Mt} (pok : PlanOk c len ms) {b : Nat} {ls : List Lo} (h : ls.length = ms.length) (h2 : ∀ p ∈ ms.zip ls, LoOk p.1 b p.2) : LsOk ls ∧ NearOk b ls := by
  have key : ∀ l ∈ ls, ∃ m ∈ ms, LoOk m b l := fun l hl => by
    obtain ⟨m, hm, hz⟩ := zip_r (as := ms) (by omega) hl
    exact ⟨m, hm, h2 (m, l) hz⟩
  refine ⟨⟨by have := pok.many; omega, fun l hl => ?_⟩, fun l hl => ?_⟩
  · obtain ⟨m, _, q⟩ := key l hl
    exact ⟨Nat.le_trans q.few (by decide), fun s hs => (q.each s hs).ne⟩
  · obtain ⟨m, hm, q⟩ := key l hl
    obtain ⟨e1, e2, e3, _⟩ := pok.each m hm
    exact ⟨by have := q.off; omega, fun s hs => (q.each s hs).near⟩
theorem plan_len {c len : Int} {ms : List Mt} (pok : PlanOk c len ms) (hc : lg c < 2 ^ 20) : 0 < len ∧ lg len ≤ 2 ^ 20 + 70 := by
  refine ⟨pok.len.1, ?_⟩
  rcases pok.len.2 with h | h
  · have := lg_small (x := len) (by have := pok.len.1; omega)
    omega
  · have h2 : len = 1 + (c.natAbs : Int) := h
    have := lg_add 1 (c.natAbs : Int)
    have h3 : lg (c.natAbs : Int) = lg c := by unfold lg; rw [Int.natAbs_natCast]
    rw [h2]
    have := lg_one
    omega
theorem lg_near {w c : Int} {k : Nat} (h : w.natAbs ≤ c.natAbs + k) (hk : k < 2 ^ 40) : lg w ≤ lg c + 65 := by
  have h1 := lg_mono (a := w) (b := (c.natAbs : Int) + (k : Int)) (by omega)
  have h2 := lg_add (c.natAbs : Int) (k : Int)
  have h3 := lg_small (x := (k : Int)) (by omega)
  have h4 : lg (c.natAbs : Int) = lg c := by unfold lg; rw [Int.natAbs_natCast]
  omega
/-- the logs have the names of the meters -/
theorem zip_names {b : Nat} : ∀ {ms : List Mt} {ls : List Lo}, ls.length = ms.length → (∀ p ∈ ms.zip ls, LoOk p.1 b p.2) → ls.map (·.name) = ms.map (·.name)
  | [], [], _, _ => rfl
  | m :: ms, l :: ls, h, k => by
    have h1 := k (m, l) (by simp)
    have ih := zip_names (ms := ms) (ls := ls) (by simpa using h) fun p hp => k p (by rw [List.zip_cons_cons]; exact List.mem_cons_of_mem _ hp)
    rw [List.map_cons, List.map_cons, ih, h1.name]
theorem zip_few {b : Nat} {ms : List Mt} {ls : List Lo} (h : ls.length = ms.length) (k : ∀ p ∈ ms.zip ls, LoOk p.1 b p.2) : ∀ l ∈ ls, ∀ s ∈ l.slots, s.vers.length ≤ 12 := fun l hl s hs => by
  obtain ⟨m, hm, hz⟩ := zip_r (as := ms) (by omega) hl
  exact ((k _ hz).each s hs).few
end Lw
namespace Lw
open PySem PySem.Spec PyProof.Rows L2 DL
/-- "read" letters -/
def rdD (nm : Str) (j i : Nat) (t : Int) (v : Option Int) : D := .tuple [.str "read", .str nm, .int ((j : Int) + 1), .int (i : Int), .int t, oD v]
def rdV (nm : Str) (j : Nat) (t : Int) (vs : List (Option Int)) : List D := vs.zipIdx.map fun p => rdD nm j p.2 t p.1
def rdS (nm : Str) (ss : List Sl) : List D := ss.zipIdx.flatMap fun p => rdV nm p.2 p.1.stamp p.1.vers
def rdL (ls : List Lo) : List D := ls.flatMap fun l => rdS l.name l.slots
theorem rdV_app (nm : Str) (j : Nat) (t : Int) (vs : List (Option Int)) (v : Option Int) : rdV nm j t (vs ++ [v]) = rdV nm j t vs ++ [rdD nm j vs.length t v] := by unfold rdV; rw [List.zipIdx_append, List.map_append]; simp
theorem rdS_app (nm : Str) (ss : List Sl) (s : Sl) : rdS nm (ss ++ [s]) = rdS nm ss ++ rdV nm ss.length s.stamp s.vers := by unfold rdS; rw [List.zipIdx_append, List.flatMap_append]; simp
theorem rdL_app (ls : List Lo) (l : Lo) : rdL (ls ++ [l]) = rdL ls ++ rdS l.name l.slots := by unfold rdL; simp
/-- few versions -/
def FewN (n : Nat) (ls : List Lo) : Prop := ∀ l ∈ ls, ∀ s ∈ l.slots, s.vers.length ≤ n
abbrev FewV (ls : List Lo) : Prop := FewN 12 ls
theorem rdV_len (nm : Str) (j : Nat) (t : Int) (vs : List (Option Int)) : (rdV nm j t vs).length = vs.length := by unfold rdV; simp
theorem flat_le {α β : Type} {f : α → List β} {n : Nat} : ∀ {xs : List α}, (∀ x ∈ xs, (f x).length ≤ n) → (xs.flatMap f).length ≤ n * xs.length
  | [], _ => by simp
  | x :: xs, h => by
    have h1 := h x List.mem_cons_self
    have h2 := flat_le fun y m => h y (List.mem_cons_of_mem _ m)
    rw [List.flatMap_cons, List.length_append, List.length_cons, Nat.mul_add]
    omega
theorem rdS_lenN {n : Nat} {nm : Str} {ss : List Sl} (h : ∀ s ∈ ss, s.vers.length ≤ n) : (rdS nm ss).length ≤ n * ss.length := by
  have := flat_le (f := fun p : Sl × Nat => rdV nm p.2 p.1.stamp p.1.vers) (n := n) (xs := ss.zipIdx) fun p hp => by
    rw [rdV_len]
    exact h _ (List.fst_mem_of_mem_zipIdx hp)
  rw [List.length_zipIdx] at this
  exact this
theorem rdS_len {nm : Str} {ss : List Sl} (h : ∀ s ∈ ss, s.vers.length ≤ 12) : (rdS nm ss).length ≤ 12 * ss.length := rdS_lenN h
theorem rdL_lenN {n : Nat} {ls : List Lo} (ok : LsOk ls) (few : FewN n ls) : (rdL ls).length ≤ n * 100 * ls.length := by
  refine flat_le fun l hl => ?_
  have h1 := rdS_lenN (nm := l.name) fun s hs => few l hl s hs
  exact Nat.le_trans h1 (Nat.mul_le_mul_left _ (ok.2 l hl).1)
theorem rdL_len {ls : List Lo} (ok : LsOk ls) (few : FewV ls) : (rdL ls).length ≤ 1200 * ls.length := rdL_lenN ok few
theorem reads_of_runN (ls : List Lo) (ok : LsOk ls) (few : FewN 25 ls) : F_p_reads_of.run [.dat (.tuple (ls.map loD))] = some (.dat (.tuple (rdL ls)), [none]) := by
  refine Wp.eq ?_
  unfold F_p_reads_of
  refine fn_cut rfl rfl ?_
  generalize hH : Sv.dat (PyData.tuple (ls.map loD)) = hist
  refine seq_cut (fun r => r = [some hist, some (.own (.lst [])), none, none, none, none, none, none, none]) (by simp) ?_
  rintro _ rfl
  refine seq_cut (fun r => ∃ a b c d e f g, r = [some hist, some (.own (.lst (rdL ls))), a, b, c, d, e, f, g]) ?_ ?_
  · have : ∀ Q, Wp (forL (gTp 3 (gsCons (gN 2) (gsCons (gN 3) (gsCons (gN 4) (gsNil))))) B_p_reads_of_3 (ls.map loD) [some hist, some (.own (.lst [])), none, none, none, none, none, none, none]) Q → Wp (sFor (iSeq (eVar 0)) (gTp 3 (gsCons (gN 2) (gsCons (gN 3) (gsCons (gN 4) (gsNil))))) B_p_reads_of_3 [some hist, some (.own (.lst [])), none, none, none, none, none, none, none]) Q := by
      intro Q h
      subst hH
      simp
      simpa using h
    refine this _ ?_
    refine for_map (fun l r => ∃ a b c d e f g, r = [some hist, some (.own (.lst (rdL l))), a, b, c, d, e, f, g]) ?_ ?_ ⟨_, _, _, _, _, _, _, rfl⟩
    · rintro k l m _ e1 ⟨a, b, c, d, e, f, g, rfl⟩
      have hl := ok.2 l (by rw [e1]; simp)
      have hk : k.length < 10 := by have := ok.1; rw [e1] at this; simp at this; omega
      have b1 := rdL_lenN (ls := k) ⟨by omega, fun x hx => ok.2 x (by rw [e1]; simp [hx])⟩ fun x hx => few x (by rw [e1]; simp [hx])
      have fl := few l (by rw [e1]; simp)
      simp [loD, B_p_reads_of_3]
      refine for_enum (f := slD) (fun ss r => ∃ d e f g, r = [some hist, some (.own (.lst (rdL k ++ rdS l.name ss))), some (.dat (.str l.name)), some (.dat (.int l.off)), some (.dat (.tuple (l.slots.map slD))), d, e, f, g]) ?_ ?_ ⟨d, e, f, g, by simp [rdS]⟩
      · rintro ss s m2 _ e2 ⟨d, e, f, g, rfl⟩
        have b2 := rdS_lenN (nm := l.name) (ss := ss) fun s hs => fl s (by rw [e2]; simp [hs])
        have b3 : ss.length ≤ 100 := by have := hl.1; rw [e2] at this; simp at this; omega
        have fs := fl s (by rw [e2]; simp)
        have e7 := e2
        simp [slD, B_p_reads_of_2]
        refine for_enum (f := oD) (fun vs r => ∃ f g, r = [some hist, some (.own (.lst (rdL k ++ rdS l.name ss ++ rdV l.name ss.length s.stamp vs))), some (.dat (.str l.name)), some (.dat (.int l.off)), some (.dat (.tuple (l.slots.map slD))), some (.dat (.int ss.length)), some (.dat (slD s)), f, g]) ?_ ?_ ⟨f, g, by simp [rdV, slD]⟩
        · rintro vs v m3 _ e3 ⟨f, g, rfl⟩
          have b4 : vs.length < 25 := by rw [e3] at fs; simp at fs; omega
          have b5 := rdV_len l.name ss.length s.stamp vs
          simp [B_p_reads_of_1, slD]
          refine ⟨by omega, ?_⟩
          rw [rdV_app]
          rfl
        · rintro _ ⟨f, g, rfl⟩
          simp
          rw [rdS_app]
      · rintro _ ⟨d, e, f, g, rfl⟩
        simp
        exact (rdL_app k l).symm
    · rintro _ ⟨a, b, c, d, e, f, g, rfl⟩
      simp
  rintro _ ⟨a, b, c, d, e, f, g, rfl⟩
  simp
theorem reads_of_run (ls : List Lo) (ok : LsOk ls) (few : FewV ls) : F_p_reads_of.run [.dat (.tuple (ls.map loD))] = some (.dat (.tuple (rdL ls)), [none]) := reads_of_runN ls ok fun l hl s hs => Nat.le_trans (few l hl s hs) (by decide)
end Lw
namespace Lw
open PySem PySem.Spec PyProof.Rows L2 DL
@[simp] theorem eqv_oD (a b : Option Int) : PyData.eqv (oD a) (oD b) = decide (a = b) := by
  cases a <;> cases b <;> simp [oD]
@[simp] theorem dpt_oD (n : Nat) (a : Option Int) : dpt n (oD a) = true := by cases a <;> simp [oD]
/-- letters -/
inductive Lt where
  | read (nm : Str) (j i t : Int) (v : Option Int)
  | close (nm : Str) (many t vs : Int)
  | clock (nm : Str) (lo hi : Int)
  deriving DecidableEq
def Lt.nm : Lt → Str
  | .read nm _ _ _ _ => nm
  | .close nm _ _ _ => nm
  | .clock nm _ _ => nm
def ltD : Lt → D
  | .read nm j i t v => .tuple [.str "read", .str nm, .int j, .int i, .int t, oD v]
  | .close nm m t vs => .tuple [.str "close", .str nm, .int m, .int t, .int vs]
  | .clock nm lo hi => .tuple [.str "clock", .str nm, .int lo, .int hi]
/-- valid numbers -/
def LtOk : Lt → Prop
  | .read _ j i _ _ => 1 ≤ j ∧ 0 ≤ i
  | .close _ m _ vs => 0 ≤ m ∧ 0 ≤ vs
  | .clock _ _ _ => True
def clT (many stamp : Int) : Nat → List Sl → Bool
  | _, [] => true
  | k, s :: ss => (decide (s.stamp < stamp) == decide ((k : Int) < many)) && clT many stamp (k + 1) ss
theorem clT_app (many stamp : Int) : ∀ (k : Nat) (a b : List Sl), clT many stamp k (a ++ b) = (clT many stamp k a && clT many stamp (k + a.length) b)
  | k, [], b => by simp [clT]
  | k, s :: a, b => by rw [List.cons_append, clT, clT, clT_app many stamp (k + 1) a b, List.length_cons, Bool.and_assoc, show k + 1 + a.length = k + (a.length + 1) by omega]
/-- how many versions -/
def nV (ss : List Sl) : Int := (ss.map fun s => (s.vers.length : Int)).sum
/-- is the letter true of the log -/
def trR (ss : List Sl) (j i t : Int) (v : Option Int) : Bool := match ss[j.toNat - 1]? with
  | some s => decide (s.stamp = t) && (decide (i < s.vers.length) && decide (s.vers[i.toNat]? = some v))
  | none => false
def trC (ss : List Sl) (m t vs : Int) : Bool := decide (m ≤ ss.length) && (clT m t 0 ss && decide (nV (ss.take m.toNat) = vs))
def trL (l : Lo) : Lt → Bool
  | .read _ j i t v => trR l.slots j i t v
  | .close _ m t vs => trC l.slots m t vs
  | .clock _ lo hi => decide (lo ≤ l.off) && decide (l.off ≤ hi)
def lgF (ls : List Lo) (nm : Str) : List Lo := ls.filter fun l => l.name == nm
def trV (ls : List Lo) (t : Lt) : Bool := match lgF ls t.nm with
  | l :: _ => trL l t
  | [] => false
theorem lgF_cons {ls : List Lo} {nm : Str} (h : nm ∈ ls.map (·.name)) : ∃ l r, lgF ls nm = l :: r ∧ l ∈ ls ∧ l.name = nm := by
  obtain ⟨l, hl, e⟩ := List.mem_map.mp h
  have hm : l ∈ lgF ls nm := List.mem_filter.mpr ⟨hl, by simpa using e⟩
  cases hc : lgF ls nm with
  | nil => rw [hc] at hm; cases hm
  | cons k r =>
    have : k ∈ lgF ls nm := by rw [hc]; simp
    obtain ⟨h1, h2⟩ := List.mem_filter.mp this
    exact ⟨k, r, rfl, h1, by simpa using h2⟩
/-- an item of a list at a number that is there -/
theorem at_int {α : Type} {f : α → D} {xs : List α} {i : Int} (h : 0 ≤ i) (k : i < xs.length) : ∃ x, xs[i.toNat]? = some x ∧ atI (xs.map f) i = some (f x) := by
  have hk : i.toNat < xs.length := by omega
  refine ⟨xs[i.toNat], List.getElem?_eq_getElem hk, ?_⟩
  unfold atI
  rw [ixN_pos h (by simp; exact k), Option.bind_some]
  simp [hk]
theorem p_is_read_run (nm : Str) (j i t : Int) (v : Option Int) (hj : 1 ≤ j) (hi : 0 ≤ i) (ss : List Sl) : F_p_is_read.run [.dat (ltD (.read nm j i t v)), .dat (.tuple (ss.map slD))] = some (.dat (.bool (trR ss j i t v)), [none, none]) := by
  refine Wp.eq ?_
  unfold F_p_is_read
  refine fn_cut rfl rfl ?_
  have q : cutD [PyData.str "read", .str nm, .int j, .int i, .int t, oD v] (some 2) none = [.int j, .int i, .int t, oD v] := by rfl
  refine seq_cut (fun r => r = [some (.dat (ltD (.read nm j i t v))), some (.dat (.tuple (ss.map slD))), none, some (.dat (.int j)), some (.dat (.int i)), some (.dat (.int t)), some (.dat (oD v))]) (by simp [ltD, q]) ?_
  rintro _ rfl
  simp
  refine wIf_d (fun h => ?_) fun h => ?_
  · have : ss[j.toNat - 1]? = none := List.getElem?_eq_none_iff.mpr (by omega)
    simp [trR, this]
  · obtain ⟨s, e1, e2⟩ := at_int (f := slD) (xs := ss) (i := j - 1) (by omega) (by omega)
    have e1 : ss[j.toNat - 1]? = some s := by simpa using e1
    have hR : trR ss j i t v = (decide (s.stamp = t) && (decide (i < s.vers.length) && decide (s.vers[i.toNat]? = some v))) := by unfold trR; rw [e1]
    rw [hR]
    simp [e2, slD]
    refine wIf_d (fun h1 => ?_) fun h1 => ?_
    · simp [h1]
      refine wIf_d (fun h2 => ?_) fun h2 => ?_
      · obtain ⟨v2, e3, e4⟩ := at_int (f := oD) (xs := s.vers) (i := i) hi h2
        simp [h2, e3, e4, h1]
      · simp [h2]
    · simp [h1]
theorem p_is_closed_run (nm : Str) (m t vs : Int) (hm : 0 ≤ m) (ss : List Sl) (hl : ss.length ≤ 1000) : F_p_is_closed.run [.dat (ltD (.close nm m t vs)), .dat (.tuple (ss.map slD))] = some (.dat (.bool (trC ss m t vs)), [none, none]) := by
  refine Wp.eq ?_
  unfold F_p_is_closed
  refine fn_cut rfl rfl ?_
  have q : cutD [PyData.str "close", .str nm, .int m, .int t, .int vs] (some 2) none = [.int m, .int t, .int vs] := by rfl
  generalize hA : some (Sv.dat (ltD (.close nm m t vs))) = A
  refine seq_cut (fun r => r = [A, some (.dat (.tuple (ss.map slD))), some (.dat (.int m)), some (.dat (.int t)), some (.dat (.int vs)), none, none]) (by subst hA; simp [ltD, q]) ?_
  rintro _ rfl
  refine seq_cut (fun r => m ≤ ss.length ∧ r = [A, some (.dat (.tuple (ss.map slD))), some (.dat (.int m)), some (.dat (.int t)), some (.dat (.int vs)), none, none]) ?_ ?_
  · simp
    refine wIf_d (fun h => ?_) fun h => ?_
    · have : ¬ m ≤ ss.length := by omega
      simp [trC, this]
    · simp
      omega
  rintro _ ⟨h1, rfl⟩
  refine seq_cut (fun r => clT m t 0 ss = true ∧ ∃ a b, r = [A, some (.dat (.tuple (ss.map slD))), some (.dat (.int m)), some (.dat (.int t)), some (.dat (.int vs)), a, b]) ?_ ?_
  · simp
    refine for_enum (f := slD) (fun l r => clT m t 0 l = true ∧ ∃ a b, r = [A, some (.dat (.tuple (ss.map slD))), some (.dat (.int m)), some (.dat (.int t)), some (.dat (.int vs)), a, b]) ?_ ?_ ⟨rfl, _, _, rfl⟩
    · rintro l x k _ e ⟨hc, a, b, rfl⟩
      simp [slD, B_p_is_closed_1]
      have e1 : clT m t 0 ss = (decide (x.stamp < t) == decide ((l.length : Int) < m) && clT m t (l.length + 1) k) := by rw [e, clT_app, hc, Bool.true_and, clT, Nat.zero_add]
      have e2 : clT m t 0 (l ++ [x]) = (decide (x.stamp < t) == decide ((l.length : Int) < m)) := by rw [clT_app, hc, Bool.true_and, clT, Nat.zero_add, clT, Bool.and_true]
      rw [e2]
      refine wIf_mk (fun h => ?_) fun h => ?_
      · simp [h]
      · simp [trC, e1, h]
    · rintro _ ⟨hc, a, b, rfl⟩
      simp
      exact hc
  rintro _ ⟨h2, a, b, rfl⟩
  have cut := cutD_to (ss.map slD) m.toNat
  rw [show ((m.toNat : Nat) : Int) = m by omega, ← List.map_take] at cut
  simp [cut]
  rw [← List.map_take]
  refine ⟨by omega, lc_ma (f := slD) (fun s => .int (s.vers.length : Int)) (fun s _ => by simp [slD]) ?_⟩
  have e5 : intsD (List.take m.toNat (ss.map fun s => .int (s.vers.length : Int))) = some ((ss.take m.toNat).map fun s => (s.vers.length : Int)) := by rw [← List.map_take, intsD_mf]
  have e6 : trC ss m t vs = decide (((ss.take m.toNat).map fun s => (s.vers.length : Int)).sum = vs) := by unfold trC nV; simp [h1, h2]
  rw [e6]
  simp [e5]
theorem p_true_run (ls : List Lo) (ok : LsOk ls) (t : Lt) (ht : LtOk t) (hn : t.nm ∈ ls.map (·.name)) : F_p_is_true.run [.dat (ltD t), .dat (.tuple (ls.map loD))] = some (.dat (.bool (trV ls t)), [none, none]) := by
  obtain ⟨l, rest, el, hl, en⟩ := lgF_cons hn
  have hv : trV ls t = trL l t := by unfold trV; rw [el]
  have hsl := (ok.2 l hl).1
  refine Wp.eq ?_
  rw [hv]
  unfold F_p_is_true
  refine fn_cut (ρ := [some (.dat (ltD t)), some (.dat (.tuple (ls.map loD))), none, none, none]) rfl rfl ?_
  generalize hH : some (Sv.dat (PyData.tuple (ls.map loD))) = hist
  have find : ∀ (xs : List D) (tl : D), ltD t = .tuple (tl :: .str t.nm :: xs) → Wp (sAsg (eOp2 opIx (oNow (eLc (iSeq (eVar 1)) (gN 4) (tB (eOp2 opEq (oNow (eOp2 opIx (oVar 4) (oNow (eC (.int 0))))) (oNow (eOp2 opIx (oVar 0) (oNow (eC (.int 1))))))) (eSl (oVar 4) (ptS (eC (.int 1))) (ptN)) [4])) (oNow (eC (.int 0)))) (gTp 2 (gsCons (gN 2) (gsCons (gN 3) (gsNil)))) [some (.dat (ltD t)), hist, none, none, none]) fun o => o = .nx [some (.dat (ltD t)), hist, some (.dat (.int l.off)), some (.dat (.tuple (l.slots.map slD))), none] := by
    intro xs tl e0
    subst hH
    have hlen := ok.1
    rw [e0]
    simp
    refine ⟨by omega, lc_fa (f := loD) (fun k => k.name == t.nm) (fun k => .tuple [.int k.off, .tuple (k.slots.map slD)]) (fun k _ => ?_) ?_⟩
    · have q : cutD [PyData.str k.name, .int k.off, .tuple (k.slots.map slD)] (some 1) none = [.int k.off, .tuple (k.slots.map slD)] := by rfl
      simp [loD, q]
    · have : (ls.filter fun k => k.name == t.nm) = l :: rest := el
      rw [this]
      simp
  refine seq_cut (fun r => r = [some (.dat (ltD t)), hist, some (.dat (.int l.off)), some (.dat (.tuple (l.slots.map slD))), none]) ?_ ?_
  · have : ∃ xs tl, ltD t = .tuple (tl :: .str t.nm :: xs) := by cases t <;> exact ⟨_, _, rfl⟩
    obtain ⟨xs, tl, e0⟩ := this
    refine (find xs tl e0).mono ?_
    rintro _ rfl
    simp
  rintro _ rfl
  subst hH
  cases t with
  | read nm j i t v =>
    have r := p_is_read_run nm j i t v ht.1 ht.2 l.slots
    simp [ltD] at r
    simp [ltD, r, trL]
  | close nm m t vs =>
    have r := p_is_closed_run nm m t vs ht.1 l.slots (by omega)
    simp [ltD] at r
    simp [ltD, r, trL]
  | clock nm lo hi =>
    simp [ltD, trL]
    refine wIf_d (fun h => ?_) fun h => ?_ <;> simp [h]
theorem l_log_run (ls : List Lo) (ok : LsOk ls) (nm : Str) {l : Lo} {rest : List Lo} (el : lgF ls nm = l :: rest) : F_l_log.run [.dat (.tuple (ls.map loD)), .dat (.str nm)] = some (.dat (loD l), [none, none]) := by
  refine Wp.eq ?_
  unfold F_l_log
  have hlen := ok.1
  simp
  refine ⟨by omega, lc_fa (f := loD) (fun k => k.name == nm) loD (fun k _ => ?_) ?_⟩
  · simp [loD]
  · have : (ls.filter fun k => k.name == nm) = l :: rest := el
    rw [this]
    simp
theorem take_split {ss : List Sl} {i : Nat} (h : i < ss.length) : ss = ss.take i ++ ss[i] :: ss.drop (i + 1) := by
  rw [← List.drop_eq_getElem_cons h, List.take_append_drop]
theorem l_closed_loop (m t : Int) (A B C : Option Sv) (hA : A = some (.dat (ltD (.close nm m t vs)))) (ss : List Sl) (hl : ss.length ≤ 1000) {Q : Out → Prop} (h1 : clT m t 0 ss = true → ∀ a, Q (.nx [A, B, C, some (.dat (.tuple (ss.map slD))), a, none])) (h2 : clT m t 0 ss = false → ∀ a, Q (.rt (.dat (.bool false)) [A, B, C, some (.dat (.tuple (ss.map slD))), a, none])) : Wp (forL (gN 4) B_l_is_true_1 (intsR 0 ss.length) [A, B, C, some (.dat (.tuple (ss.map slD))), none, none]) Q := by
  refine for_int (fun i r => clT m t 0 (ss.take i) = true ∧ ∃ a, r = [A, B, C, some (.dat (.tuple (ss.map slD))), a, none]) ?_ ?_ ⟨rfl, _, rfl⟩
  · rintro i _ hi ⟨hc, a, rfl⟩
    have q : atI (ss.map slD) (i : Int) = some (slD ss[i]) := by
      unfold atI
      rw [ixN_pos (by omega) (by simp; omega), Option.bind_some]
      simp [hi]
    have hti : (ss.take i).length = i := by simp; omega
    have e1 : clT m t 0 ss = (decide (ss[i].stamp < t) == decide ((i : Int) < m) && clT m t (i + 1) (ss.drop (i + 1))) := by
      rw [congrArg (clT m t 0) (take_split hi), clT_app, hc, Bool.true_and, clT, Nat.zero_add, hti]
    have e2 : clT m t 0 (ss.take (i + 1)) = (decide (ss[i].stamp < t) == decide ((i : Int) < m)) := by rw [List.take_succ_eq_append_getElem hi, clT_app, hc, Bool.true_and, clT, Nat.zero_add, hti, clT, Bool.and_true]
    rw [e2]
    generalize ss[i] = x at q e1
    subst hA
    simp [slD, B_l_is_true_1, ltD, q]
    refine wIf_mk (fun h => ?_) fun h => ?_
    · simp [h]
    · have := h2 (by rw [e1, h, Bool.false_and])
      simp [ltD, slD] at this
      simp
      exact this _
  · rintro _ ⟨hc, a, rfl⟩
    rw [List.take_length] at hc
    exact h1 hc a
theorem l_true_run (ls : List Lo) (ok : LsOk ls) (t : Lt) (ht : LtOk t) (hn : t.nm ∈ ls.map (·.name)) : F_l_is_true.run [.dat (ltD t), .dat (.tuple (ls.map loD))] = some (.dat (.bool (trV ls t)), [none, none]) := by
  obtain ⟨l, rest, el, hl, en⟩ := lgF_cons hn
  have hv : trV ls t = trL l t := by unfold trV; rw [el]
  have hsl := (ok.2 l hl).1
  have lr := l_log_run ls ok t.nm el
  refine Wp.eq ?_
  rw [hv]
  unfold F_l_is_true
  refine fn_cut rfl rfl ?_
  generalize hH : some (Sv.dat (PyData.tuple (ls.map loD))) = hist
  refine seq_cut (fun r => r = [some (.dat (ltD t)), hist, some (.dat (loD l)), none, none, none]) ?_ ?_
  · subst hH
    cases t <;> simp [ltD, Lt.nm] at lr ⊢ <;> simp [lr]
  rintro _ rfl
  refine seq_cut (fun r => r = [some (.dat (ltD t)), hist, some (.dat (loD l)), some (.dat (.tuple (l.slots.map slD))), none, none]) (by simp [loD]) ?_
  rintro _ rfl
  cases t with
  | clock nm lo hi =>
    simp [ltD, trL, loD]
    refine wIf_d (fun h => ?_) fun h => ?_ <;> simp [h]
  | read nm j i t v =>
    have hj := ht.1
    have hi := ht.2
    simp [ltD, trL, loD]
    refine wIf_d (fun h => ?_) fun h => ?_
    · have : l.slots[j.toNat - 1]? = none := List.getElem?_eq_none_iff.mpr (by omega)
      simp [trR, this]
    · obtain ⟨s, e1, e2⟩ := at_int (f := slD) (xs := l.slots) (i := j - 1) (by omega) (by omega)
      have e1 : l.slots[j.toNat - 1]? = some s := by simpa using e1
      have hR : trR l.slots j i t v = (decide (s.stamp = t) && (decide (i < s.vers.length) && decide (s.vers[i.toNat]? = some v))) := by unfold trR; rw [e1]
      rw [hR]
      simp [e2, slD]
      refine wIf_d (fun h1 => ?_) fun h1 => ?_
      · simp [h1]
        refine wIf_d (fun h2 => ?_) fun h2 => ?_
        · obtain ⟨v2, e3, e4⟩ := at_int (f := oD) (xs := s.vers) (i := i) hi h2
          simp [h2, e3, e4, h1]
        · simp [h2]
      · simp [h1]
  | close nm m t vs =>
    have hm := ht.1
    refine seq_cut (fun r => r = [some (.dat (ltD (.close nm m t vs))), hist, some (.dat (loD l)), some (.dat (.tuple (l.slots.map slD))), none, none]) (by simp [ltD]) ?_
    rintro _ rfl
    refine seq_cut (fun r => m ≤ l.slots.length ∧ r = [some (.dat (ltD (.close nm m t vs))), hist, some (.dat (loD l)), some (.dat (.tuple (l.slots.map slD))), none, none]) ?_ ?_
    · simp [ltD]
      refine wIf_d (fun h => ?_) fun h => ?_
      · have : ¬ m ≤ l.slots.length := by omega
        simp [trL, trC, this]
      · simp
        omega
    rintro _ ⟨h1, rfl⟩
    refine seq_cut (fun r => r = [some (.dat (ltD (.close nm m t vs))), hist, some (.dat (loD l)), some (.dat (.tuple (l.slots.map slD))), none, none]) (by simp [ltD]) ?_
    rintro _ rfl
    refine seq_cut (fun r => clT m t 0 l.slots = true ∧ ∃ a, r = [some (.dat (ltD (.close nm m t vs))), hist, some (.dat (loD l)), some (.dat (.tuple (l.slots.map slD))), a, none]) ?_ ?_
    · generalize hA : some (Sv.dat (ltD (.close nm m t vs))) = A
      simp
      refine ⟨by omega, l_closed_loop m t A hist _ hA.symm l.slots (by omega) (fun hc a => ?_) fun hc a => ?_⟩
      · simp
        exact hc
      · simp [trL, trC, hc]
    rintro _ ⟨h2, a, rfl⟩
    have cut := cutD_to (l.slots.map slD) m.toNat
    rw [show ((m.toNat : Nat) : Int) = m by omega, ← List.map_take] at cut
    simp [cut, ltD]
    rw [← List.map_take]
    refine ⟨by omega, lc_ma (f := slD) (fun s => .int (s.vers.length : Int)) (fun s _ => by simp [slD]) ?_⟩
    have e5 : intsD (List.take m.toNat (l.slots.map fun s => .int (s.vers.length : Int))) = some ((l.slots.take m.toNat).map fun s => (s.vers.length : Int)) := by rw [← List.map_take, intsD_mf]
    have e6 : trC l.slots m t vs = decide (((l.slots.take m.toNat).map fun s => (s.vers.length : Int)).sum = vs) := by unfold trC nV; simp [h1, h2]
    rw [trL, e6]
    simp [e5]
theorem truth_run (b : Bool) : F_l_is_truth.run [.dat (.bool b), .dat (.bool b)] = some (.dat (.bool true), [none, none]) := by
  refine Wp.eq ?_
  simp [F_l_is_truth]
end Lw
namespace Lw
open PySem PySem.Spec PyProof.Rows L2 DL
/-! dicts as tables -/
section
variable {κ α : Type} [DecidableEq κ]
def lkG (m : List (κ × α)) (k : κ) : Option α := (m.find? fun p => decide (p.1 = k)).map (·.2)
def putG (m : List (κ × α)) (k : κ) (v : α) : List (κ × α) := if (lkG m k).isSome = true then m.map (fun p => if p.1 = k then (p.1, v) else p) else m ++ [(k, v)]
theorem lkG_nil {k : κ} : lkG ([] : List (κ × α)) k = none := rfl
theorem lkG_pos {p : κ × α} {r : List (κ × α)} {k : κ} (e : p.1 = k) : lkG (p :: r) k = some p.2 := by simp [lkG, List.find?_cons, e]
theorem lkG_neg {p : κ × α} {r : List (κ × α)} {k : κ} (e : ¬ p.1 = k) : lkG (p :: r) k = lkG r k := by simp [lkG, List.find?_cons, e]
theorem lkG_map (k j : κ) (y : α) : ∀ m : List (κ × α), lkG (m.map fun p => if p.1 = k then (p.1, y) else p) j = (lkG m j).map fun x => if j = k then y else x
  | [] => rfl
  | p :: m => by
    rw [List.map_cons]
    by_cases e : p.1 = k
    · rw [if_pos e]
      by_cases e2 : p.1 = j
      · rw [lkG_pos (p := (p.1, y)) e2, lkG_pos e2]; simp [← e2, e]
      · rw [lkG_neg (p := (p.1, y)) e2, lkG_neg e2, lkG_map k j y m]
    · rw [if_neg e]
      by_cases e2 : p.1 = j
      · rw [lkG_pos e2, lkG_pos e2]; simp [← e2, e]
      · rw [lkG_neg e2, lkG_neg e2, lkG_map k j y m]
theorem lkG_snoc (k j : κ) (y : α) : ∀ m : List (κ × α), lkG m k = none → lkG (m ++ [(k, y)]) j = if j = k then some y else lkG m j
  | [], _ => by
    by_cases e : k = j
    · rw [List.nil_append, lkG_pos (p := (k, y)) e, if_pos e.symm]
    · rw [List.nil_append, lkG_neg (p := (k, y)) e, if_neg (fun z => e z.symm)]
  | p :: m, h => by
    by_cases e : p.1 = k
    · rw [lkG_pos e] at h; cases h
    · rw [lkG_neg e] at h
      rw [List.cons_append]
      by_cases e2 : p.1 = j
      · rw [lkG_pos e2, lkG_pos e2, if_neg (fun z => e (e2.trans z))]
      · rw [lkG_neg e2, lkG_neg e2, lkG_snoc k j y m h]
theorem lkG_put (m : List (κ × α)) (k j : κ) (y : α) : lkG (putG m k y) j = if j = k then some y else lkG m j := by
  unfold putG
  split
  · rename_i h
    rw [lkG_map]
    by_cases e : j = k
    · subst e
      obtain ⟨v, ev⟩ := Option.isSome_iff_exists.mp h
      simp [ev]
    · simp [e]
  · rename_i h
    exact lkG_snoc k j y m (by simpa using h)
theorem lkG_mem {k : κ} {v : α} : ∀ {m : List (κ × α)}, lkG m k = some v → (k, v) ∈ m
  | [], h => by cases h
  | p :: m, h => by
    by_cases e : p.1 = k
    · rw [lkG_pos e] at h; cases h; subst e; exact List.mem_cons_self
    · rw [lkG_neg e] at h; exact List.mem_cons_of_mem _ (lkG_mem h)
theorem lkG_keys {k : κ} : ∀ {m : List (κ × α)}, (∃ v, lkG m k = some v) ↔ k ∈ m.map (·.1)
  | [] => by simp [lkG_nil]
  | p :: m => by
    by_cases e : p.1 = k
    · simp [lkG_pos e, e]
    · rw [lkG_neg e, lkG_keys]
      have : ¬ k = p.1 := fun z => e z.symm
      simp [this]
theorem lkG_of {k : κ} {v : α} : ∀ {m : List (κ × α)}, (m.map (·.1)).Nodup → (k, v) ∈ m → lkG m k = some v
  | [], _, h => by cases h
  | p :: m, nd, h => by
    rw [List.map_cons, List.nodup_cons] at nd
    rcases List.mem_cons.mp h with e | h
    · subst e; exact lkG_pos rfl
    · rw [lkG_neg (fun e => nd.1 (by rw [e]; exact List.mem_map.mpr ⟨_, h, rfl⟩)), lkG_of nd.2 h]
theorem putG_keys (m : List (κ × α)) (k : κ) (v : α) : (putG m k v).map (·.1) = if k ∈ m.map (·.1) then m.map (·.1) else m.map (·.1) ++ [k] := by
  unfold putG
  by_cases h : k ∈ m.map (·.1)
  · obtain ⟨x, hx⟩ := lkG_keys.mpr h
    rw [if_pos h, if_pos (by rw [hx]; rfl), List.map_map]
    apply List.map_congr_left
    intro p _
    dsimp only [Function.comp]
    split <;> rfl
  · rw [if_neg h]
    have : lkG m k = none := by
      cases e : lkG m k with
      | none => rfl
      | some x => exact absurd (lkG_keys.mp ⟨x, e⟩) h
    rw [if_neg (by rw [this]; simp)]
    simp
theorem putG_nd {m : List (κ × α)} (h : (m.map (·.1)).Nodup) (k : κ) (v : α) : ((putG m k v).map (·.1)).Nodup := by
  rw [putG_keys]
  split
  · exact h
  · rename_i n
    exact List.nodup_append.mpr ⟨h, by simp, fun a ha b hb e => n (by rw [← List.mem_singleton.mp hb, ← e]; exact ha)⟩
theorem putG_len (m : List (κ × α)) (k : κ) (v : α) : (putG m k v).length ≤ m.length + 1 := by
  unfold putG; split <;> simp
def encG (e : κ → D) (f : α → D) (m : List (κ × α)) : List (D × D) := m.map fun p => (e p.1, f p.2)
theorem atD_enc {e : κ → D} {f : α → D} (he : ∀ a b, e a = e b → a = b) (k : κ) : ∀ m : List (κ × α), atD (encG e f m) (e k) = (lkG m k).map f
  | [] => rfl
  | p :: m => by
    show atD ((e p.1, f p.2) :: encG e f m) (e k) = _
    by_cases h : p.1 = k
    · rw [lkG_pos h, atD_pos (by rw [h])]; rfl
    · rw [lkG_neg h, atD_neg (fun z => h (he _ _ z)), atD_enc he k m]
theorem putD_enc {e : κ → D} {f : α → D} (he : ∀ a b, e a = e b → a = b) (k : κ) (v : α) (m : List (κ × α)) : putD (encG e f m) (e k) (f v) = encG e f (putG m k v) := by
  unfold putD putG
  rw [atD_enc he]
  cases h : lkG m k with
  | none => rw [if_neg (by simp), if_neg (by simp)]; simp [encG]
  | some x =>
    rw [if_pos (by simp), if_pos (by simp)]
    unfold encG
    rw [List.map_map, List.map_map]
    apply List.map_congr_left
    intro p _
    dsimp only [Function.comp]
    by_cases q : p.1 = k
    · rw [if_pos (by rw [q]), if_pos q]
    · rw [if_neg (fun z => q (he _ _ z)), if_neg q]
end
theorem int_inj (a b : Int) (h : PyData.int a = .int b) : a = b := PyData.int.inj h
def prK (p : Int × Int) : D := .tuple [.int p.1, .int p.2]
theorem prK_inj (a b : Int × Int) (h : prK a = prK b) : a = b := by
  unfold prK at h
  simp at h
  exact Prod.ext h.1 h.2
/-- a dict with int keys -/
def encI {α : Type} (f : α → D) (m : List (Int × α)) : List (D × D) := encG PyData.int f m
section
variable {α : Type} {f : α → D}
@[simp] theorem atD_I {m : List (Int × α)} {k : Int} : atD (encI f m) (.int k) = (lkG m k).map f := atD_enc int_inj k m
theorem putD_I {m : List (Int × α)} {k : Int} {v : α} {d : D} (h : d = f v) : putD (encI f m) (.int k) d = encI f (putG m k v) := by subst h; exact putD_enc int_inj k v m
@[simp] theorem ikeys_I : ∀ m : List (Int × α), ikeys (encI f m) = some (m.map (·.1))
  | [] => rfl
  | p :: m => by
    show (ikeys (encI f m)).map (p.1 :: ·) = _
    rw [ikeys_I m]; rfl
@[simp] theorem encI_len (m : List (Int × α)) : (encI f m).length = m.length := by unfold encI encG; simp
theorem encI_nil : encI f [] = [] := rfl
def encP (f : α → D) (m : List ((Int × Int) × α)) : List (D × D) := encG prK f m
theorem atD_P {m : List ((Int × Int) × α)} {a b : Int} : atD (encP f m) (.tuple [.int a, .int b]) = (lkG m (a, b)).map f := atD_enc prK_inj (a, b) m
theorem putD_P {m : List ((Int × Int) × α)} {a b : Int} {v : α} {d : D} (h : d = f v) : putD (encP f m) (.tuple [.int a, .int b]) d = encP f (putG m (a, b) v) := by subst h; exact putD_enc prK_inj (a, b) v m
@[simp] theorem encP_len (m : List ((Int × Int) × α)) : (encP f m).length = m.length := by unfold encP encG; simp
theorem encP_nil : encP f [] = [] := rfl
end
/-- the ints in order -/
def srI (ns : List Int) : List Int := ns.mergeSort leI
theorem srI_pw (ns : List Int) : (srI ns).Pairwise (· ≤ ·) := by
  have := List.pairwise_mergeSort (le := leI) (by intro a b c h1 h2; simp [leI] at *; omega) (by intro a b; simp [leI]; omega) ns
  exact this.imp fun h => by simpa [leI] using h
theorem srI_mem {ns : List Int} {n : Int} : n ∈ srI ns ↔ n ∈ ns := (List.mergeSort_perm ns leI).mem_iff
theorem srI_nd {ns : List Int} (h : ns.Nodup) : (srI ns).Nodup := (List.mergeSort_perm ns leI).nodup_iff.mpr h
theorem srI_lt {ns : List Int} (h : ns.Nodup) : (srI ns).Pairwise (· < ·) :=
  (List.Pairwise.and (srI_pw ns) (srI_nd h)).imp fun ⟨a, b⟩ => by omega
theorem srI_len (ns : List Int) : (srI ns).length = ns.length := (List.mergeSort_perm ns leI).length_eq
theorem srI_id {ns : List Int} (h : ns.Pairwise (· ≤ ·)) : srI ns = ns := perm_sorted_eq (List.mergeSort_perm ns leI) (srI_pw ns) h
end Lw
namespace Lw
open PySem PySem.Spec PyProof.Rows L2 DL
/-! what the letters about a meter tell -/
structure Rt where
  j : Int
  i : Int
  t : Int
  v : Option Int
  deriving DecidableEq
structure Ct where
  n : Int
  t : Int
  vs : Int
  deriving DecidableEq
def rdO (nm : Str) : Lt → Option Rt
  | .read a j i t v => if a = nm then some ⟨j, i, t, v⟩ else none
  | _ => none
def clO (nm : Str) : Lt → Option Ct
  | .close a n t vs => if a = nm then some ⟨n, t, vs⟩ else none
  | _ => none
def ckO (nm : Str) : Lt → Option (Int × Int)
  | .clock a lo hi => if a = nm then some (lo, hi) else none
  | _ => none
def rdsO (nm : Str) (ts : List Lt) : List Rt := ts.filterMap (rdO nm)
def clsO (nm : Str) (ts : List Lt) : List Ct := ts.filterMap (clO nm)
def cksO (nm : Str) (ts : List Lt) : List (Int × Int) := ts.filterMap (ckO nm)
def rtD (nm : Str) (r : Rt) : D := ltD (.read nm r.j r.i r.t r.v)
def ctD (nm : Str) (c : Ct) : D := ltD (.close nm c.n c.t c.vs)
def ckD (nm : Str) (c : Int × Int) : D := ltD (.clock nm c.1 c.2)
theorem fmap_map {α β : Type} {f : α → Option β} {F : α → D} {G : β → D} (h : ∀ a b, f a = some b → F a = G b) : ∀ ts : List α, (ts.filter fun t => (f t).isSome).map F = (ts.filterMap f).map G
  | [] => rfl
  | t :: ts => by
    cases e : f t with
    | none => rw [List.filter_cons_of_neg (by rw [e]; simp), List.filterMap_cons_none e, fmap_map h ts]
    | some b => rw [List.filter_cons_of_pos (by rw [e]; rfl), List.filterMap_cons_some e, List.map_cons, List.map_cons, fmap_map h ts, h t b e]
theorem rds_map (nm : Str) (ts : List Lt) : (ts.filter fun t => (rdO nm t).isSome).map ltD = (rdsO nm ts).map (rtD nm) :=
  fmap_map (fun a b e => by
    cases a with
    | read a j i t v =>
      unfold rdO at e
      dsimp only at e
      split at e
      · rename_i q; cases e; subst q; rfl
      · cases e
    | _ => cases e) ts
theorem cls_map (nm : Str) (ts : List Lt) : (ts.filter fun t => (clO nm t).isSome).map ltD = (clsO nm ts).map (ctD nm) :=
  fmap_map (fun a b e => by
    cases a with
    | close a n t vs =>
      unfold clO at e
      dsimp only at e
      split at e
      · rename_i q; cases e; subst q; rfl
      · cases e
    | _ => cases e) ts
theorem cks_map (nm : Str) (ts : List Lt) : (ts.filter fun t => (ckO nm t).isSome).map ltD = (cksO nm ts).map (ckD nm) :=
  fmap_map (fun a b e => by
    cases a with
    | clock a lo hi =>
      unfold ckO at e
      dsimp only at e
      split at e
      · rename_i q; cases e; subst q; rfl
      · cases e
    | _ => cases e) ts
theorem rdsO_len (nm : Str) (ts : List Lt) : (rdsO nm ts).length ≤ ts.length := List.length_filterMap_le ..
theorem clsO_len (nm : Str) (ts : List Lt) : (clsO nm ts).length ≤ ts.length := List.length_filterMap_le ..
theorem cksO_len (nm : Str) (ts : List Lt) : (cksO nm ts).length ≤ ts.length := List.length_filterMap_le ..
/-- a list or a tuple of the letters -/
def IsTs (L : D) (ts : List Lt) : Prop := L = .list (ts.map ltD) ∨ L = .tuple (ts.map ltD)
theorem wX_ts {L : D} {ts : List Lt} (h : IsTs L ts) {k : List D → Prop} : wX (.dat L) k = k (ts.map ltD) := by
  rcases h with rfl | rfl
  · exact wX_l
  · exact wX_t
theorem reads_about_run (L : D) (ts : List Lt) (h : IsTs L ts) (hl : ts.length ≤ 100000) (nm : Str) : F_p_reads_about.run [.dat L, .dat (.str nm)] = some (.own (.lst ((rdsO nm ts).map (rtD nm))), [none, none]) := by
  refine Wp.eq ?_
  unfold F_p_reads_about
  simp [wX_ts h]
  refine ⟨by omega, lc_fa (f := ltD) (fun t => (rdO nm t).isSome) ltD (fun t _ => ?_) ?_⟩
  · cases t with
    | read a j i t v => by_cases e : a = nm <;> simp [ltD, rdO, e]
    | close a n t vs => simp [ltD, rdO]
    | clock a lo hi => simp [ltD, rdO]
  · rw [rds_map]; simp
/-- a received slot -/
structure Rc where
  ver : Int
  st : Int
  val : Option Int
def rcD (r : Rc) : D := .tuple [.int r.ver, .int r.st, oD r.val]
structure RecOk (R : List Rt) (m : List (Int × Rc)) : Prop where
  nd : (m.map (·.1)).Nodup
  of : ∀ j x, lkG m j = some x → ∃ r ∈ R, r.j = j ∧ r.i = x.ver ∧ r.t = x.st ∧ r.v = x.val
  top : ∀ r ∈ R, ∃ x, lkG m r.j = some x ∧ r.i ≤ x.ver
theorem RecOk.nil : RecOk [] [] := ⟨List.nodup_nil, (fun j x h => by cases h), (fun r h => by cases h)⟩
theorem RecOk.put {R : List Rt} {m : List (Int × Rc)} (h : RecOk R m) (r : Rt) (hn : ∀ x, lkG m r.j = some x → x.ver < r.i) : RecOk (R ++ [r]) (putG m r.j ⟨r.i, r.t, r.v⟩) := by
  refine ⟨putG_nd h.nd _ _, fun j x hx => ?_, fun r' hr => ?_⟩
  · rw [lkG_put] at hx
    split at hx
    · rename_i e; cases hx; exact ⟨r, by simp, e.symm, rfl, rfl, rfl⟩
    · obtain ⟨r', h1, h2⟩ := h.of j x hx
      exact ⟨r', by simp [h1], h2⟩
  · rcases List.mem_append.mp hr with q | q
    · obtain ⟨x, h1, h2⟩ := h.top r' q
      rw [lkG_put]
      by_cases e : r'.j = r.j
      · refine ⟨_, if_pos e, ?_⟩
        have := hn x (by rw [← e]; exact h1)
        show r'.i ≤ r.i
        omega
      · exact ⟨x, by rw [if_neg e]; exact h1, h2⟩
    · rw [List.mem_singleton.mp q]
      exact ⟨_, by rw [lkG_put, if_pos rfl], Int.le_refl _⟩
theorem RecOk.keep {R : List Rt} {m : List (Int × Rc)} (h : RecOk R m) (r : Rt) {x : Rc} (hx : lkG m r.j = some x) (hn : r.i ≤ x.ver) : RecOk (R ++ [r]) m := by
  refine ⟨h.nd, fun j x hx => ?_, fun r' hr => ?_⟩
  · obtain ⟨r', h1, h2⟩ := h.of j x hx
    exact ⟨r', by simp [h1], h2⟩
  · rcases List.mem_append.mp hr with q | q
    · exact h.top r' q
    · rw [List.mem_singleton.mp q]; exact ⟨x, hx, hn⟩
theorem received_run (L : D) (ts : List Lt) (h : IsTs L ts) (hl : ts.length ≤ 100000) (nm : Str) : ∃ m, RecOk (rdsO nm ts) m ∧ F_p_received_of.run [.dat L, .dat (.str nm)] = some (.own (.dct false (encI rcD m)), [none, none]) := by
  suffices g : Wp (F_p_received_of.run [.dat L, .dat (.str nm)]) fun q => ∃ m, RecOk (rdsO nm ts) m ∧ q = (.own (.dct false (encI rcD m)), [none, none]) by
    obtain ⟨a, e, m, ok, rfl⟩ := g; exact ⟨m, ok, e⟩
  unfold F_p_received_of
  have ra := reads_about_run L ts h hl nm
  have hr := rdsO_len nm ts
  refine fn_cut rfl rfl ?_
  refine seq_cut (fun r => r = [some (.dat L), some (.dat (.str nm)), some (.own (.dct false (encI rcD []))), none, none, none, none, none, none]) (by simp [encI_nil]) ?_
  rintro _ rfl
  refine seq_cut (fun r => ∃ m a b c d e f, RecOk (rdsO nm ts) m ∧ r = [some (.dat L), some (.dat (.str nm)), some (.own (.dct false (encI rcD m))), a, b, c, d, e, f]) ?_ ?_
  · simp [ra]
    refine for_map (f := rtD nm) (fun k r => ∃ m a b c d e f, RecOk k m ∧ m.length ≤ k.length ∧ r = [some (.dat L), some (.dat (.str nm)), some (.own (.dct false (encI rcD m))), a, b, c, d, e, f]) ?_ ?_ ⟨[], none, none, none, none, none, none, .nil, by simp, rfl⟩
    · rintro k x l _ e0 ⟨m, a, b, c, d, e, f, ok, hm, rfl⟩
      have hk : k.length < ts.length := by
        have := congrArg List.length e0
        simp at this
        omega
      simp [rtD, ltD, B_p_received_of_1]
      cases e1 : lkG m x.j with
      | none =>
        simp
        refine ⟨by omega, _, ok.put x (fun y hy => by rw [e1] at hy; cases hy), by have := putG_len m x.j ⟨x.i, x.t, x.v⟩; omega, ?_⟩
        exact putD_I (f := rcD) (v := ⟨x.i, x.t, x.v⟩) rfl
      | some y =>
        simp [rcD, e1]
        refine wIf_d (fun c1 => ?_) fun c1 => ?_
        · simp
          refine ⟨by omega, _, ok.put x (fun z hz => by rw [e1] at hz; cases hz; exact c1), by have := putG_len m x.j ⟨x.i, x.t, x.v⟩; omega, ?_⟩
          exact putD_I (f := rcD) (v := ⟨x.i, x.t, x.v⟩) rfl
        · simp
          exact ⟨m, ok.keep x e1 (by omega), by omega, rfl⟩
    · rintro _ ⟨m, a, b, c, d, e, f, ok, hm, rfl⟩
      simp
      exact ⟨m, ok, rfl⟩
  rintro _ ⟨m, a, b, c, d, e, f, ok, rfl⟩
  simp
  exact ⟨m, ok, rfl⟩
/-- the letters that close so many slots: least, greatest stamp, versions -/
structure Cx where
  ce : Int
  fl : Int
  vs : Int
def cxD (r : Cx) : D := .tuple [.int r.ce, .int r.fl, .int r.vs]
structure CloOk (C : List Ct) (m : List (Int × Cx)) : Prop where
  nd : (m.map (·.1)).Nodup
  ce : ∀ n x, lkG m n = some x → ∃ c ∈ C, c.n = n ∧ c.t = x.ce
  fl : ∀ n x, lkG m n = some x → ∃ c ∈ C, c.n = n ∧ c.t = x.fl
  vs : ∀ n x, lkG m n = some x → ∃ c ∈ C, c.n = n ∧ c.vs = x.vs
  top : ∀ c ∈ C, ∃ x, lkG m c.n = some x ∧ x.ce ≤ c.t ∧ c.t ≤ x.fl
theorem CloOk.nil : CloOk [] [] := ⟨List.nodup_nil, (fun j x h => by cases h), (fun j x h => by cases h), (fun j x h => by cases h), (fun r h => by cases h)⟩
theorem CloOk.put {C : List Ct} {m : List (Int × Cx)} (h : CloOk C m) (c : Ct) : CloOk (C ++ [c]) (putG m c.n ⟨min ((lkG m c.n).getD ⟨c.t, c.t, c.vs⟩).ce c.t, max ((lkG m c.n).getD ⟨c.t, c.t, c.vs⟩).fl c.t, ((lkG m c.n).getD ⟨c.t, c.t, c.vs⟩).vs⟩) := by
  have old : ∀ {P : Ct → Prop}, (∃ d ∈ C, P d) → ∃ d ∈ C ++ [c], P d := fun ⟨d, h1, h2⟩ => ⟨d, by simp [h1], h2⟩
  have new : ∀ {P : Ct → Prop}, P c → ∃ d ∈ C ++ [c], P d := fun h => ⟨c, by simp, h⟩
  refine ⟨putG_nd h.nd _ _, fun n x hx => ?_, fun n x hx => ?_, fun n x hx => ?_, fun d hd => ?_⟩
  · rw [lkG_put] at hx
    split at hx
    · rename_i e
      cases hx
      cases e1 : lkG m c.n with
      | none => exact new ⟨e.symm, by simp⟩
      | some y =>
        by_cases k : y.ce ≤ c.t
        · obtain ⟨d, h1, h2, h3⟩ := h.ce _ _ e1
          exact old ⟨d, h1, by rw [h2, e], by simp; omega⟩
        · exact new ⟨e.symm, by simp; omega⟩
    · exact old (h.ce n x hx)
  · rw [lkG_put] at hx
    split at hx
    · rename_i e
      cases hx
      cases e1 : lkG m c.n with
      | none => exact new ⟨e.symm, by simp⟩
      | some y =>
        by_cases k : c.t ≤ y.fl
        · obtain ⟨d, h1, h2, h3⟩ := h.fl _ _ e1
          exact old ⟨d, h1, by rw [h2, e], by simp; omega⟩
        · exact new ⟨e.symm, by simp; omega⟩
    · exact old (h.fl n x hx)
  · rw [lkG_put] at hx
    split at hx
    · rename_i e
      cases hx
      cases e1 : lkG m c.n with
      | none => exact new ⟨e.symm, by simp⟩
      | some y =>
        obtain ⟨d, h1, h2, h3⟩ := h.vs _ _ e1
        exact old ⟨d, h1, by rw [h2, e], by simp [h3]⟩
    · exact old (h.vs n x hx)
  · rw [lkG_put]
    rcases List.mem_append.mp hd with q | q
    · obtain ⟨x, h1, h2, h3⟩ := h.top d q
      by_cases e : d.n = c.n
      · refine ⟨_, if_pos e, ?_⟩
        rw [← e, h1]
        simp
        omega
      · exact ⟨x, by rw [if_neg e]; exact h1, h2, h3⟩
    · rw [List.mem_singleton.mp q]
      refine ⟨_, if_pos rfl, ?_⟩
      dsimp only
      omega
theorem closes_run (L : D) (ts : List Lt) (h : IsTs L ts) (hl : ts.length ≤ 100000) (nm : Str) : ∃ m, CloOk (clsO nm ts) m ∧ F_p_closes_of.run [.dat L, .dat (.str nm)] = some (.own (.dct false (encI cxD m)), [none, none]) := by
  suffices g : Wp (F_p_closes_of.run [.dat L, .dat (.str nm)]) fun q => ∃ m, CloOk (clsO nm ts) m ∧ q = (.own (.dct false (encI cxD m)), [none, none]) by
    obtain ⟨a, e, m, ok, rfl⟩ := g; exact ⟨m, ok, e⟩
  unfold F_p_closes_of
  refine fn_cut rfl rfl ?_
  refine seq_cut (fun r => r = [some (.dat L), some (.dat (.str nm)), some (.own (.dct false (encI cxD []))), none, none, none, none]) (by simp [encI_nil]) ?_
  rintro _ rfl
  refine seq_cut (fun r => ∃ m a b c d, CloOk (clsO nm ts) m ∧ r = [some (.dat L), some (.dat (.str nm)), some (.own (.dct false (encI cxD m))), a, b, c, d]) ?_ ?_
  · simp [wX_ts h]
    refine for_map (f := ltD) (fun k r => ∃ m a b c d, CloOk (clsO nm k) m ∧ m.length ≤ k.length ∧ r = [some (.dat L), some (.dat (.str nm)), some (.own (.dct false (encI cxD m))), a, b, c, d]) ?_ ?_ ⟨[], none, none, none, none, .nil, by simp, rfl⟩
    · rintro k x l _ e0 ⟨m, a, b, c, d, ok, hm, rfl⟩
      have hk : k.length < ts.length := by rw [e0]; simp
      have skip : clO nm x = none → CloOk (clsO nm (k ++ [x])) m := fun e => by
        have : clsO nm (k ++ [x]) = clsO nm k := by unfold clsO; simp [e]
        rw [this]; exact ok
      cases x with
      | read a j i t v =>
        simp [ltD, B_p_closes_of_1]
        exact ⟨m, skip rfl, by omega, rfl⟩
      | clock a lo hi =>
        simp [ltD, B_p_closes_of_1]
        exact ⟨m, skip rfl, by omega, rfl⟩
      | close a n t vs =>
        by_cases e : a = nm
        · subst e
          have e2 : clsO a (k ++ [.close a n t vs]) = clsO a k ++ [⟨n, t, vs⟩] := by unfold clsO; simp [clO]
          have ok2 := ok.put ⟨n, t, vs⟩
          rw [← e2] at ok2
          have e3 : ((lkG m n).map cxD).getD (.tuple [.int t, .int t, .int vs]) = cxD ((lkG m n).getD ⟨t, t, vs⟩) := by cases lkG m n <;> rfl
          generalize hy : (lkG m n).getD ⟨t, t, vs⟩ = y at e3
          have hy' : (lkG m (Ct.mk n t vs).n).getD ⟨(Ct.mk n t vs).t, (Ct.mk n t vs).t, (Ct.mk n t vs).vs⟩ = y := hy
          rw [hy'] at ok2
          have hlen := putG_len m n ⟨min y.ce t, max y.fl t, y.vs⟩
          have e5 : min y.ce t = if t < y.ce then t else y.ce := by split <;> omega
          have e6 : max y.fl t = if t > y.fl then t else y.fl := by split <;> omega
          simp [ltD, B_p_closes_of_1, e3]
          simp [cxD]
          clear e3 hy hy' e2 skip
          refine ⟨Nat.lt_of_le_of_lt hm (Nat.lt_of_lt_of_le hk (Nat.le_trans hl (by decide))), _, ok2, Nat.le_trans hlen (Nat.succ_le_succ hm), ?_⟩
          show _ = encI cxD (putG m n ⟨min y.ce t, max y.fl t, y.vs⟩)
          rw [e5, e6]
          exact putD_I (f := cxD) (v := ⟨if t < y.ce then t else y.ce, if t > y.fl then t else y.fl, y.vs⟩) rfl
        · have e' : (a == nm) = false := by simpa using e
          simp [ltD, B_p_closes_of_1, e']
          exact ⟨m, skip (by simp [clO, e]), by omega, rfl⟩
    · rintro _ ⟨m, a, b, c, d, ok, hm, rfl⟩
      simp
      exact ⟨m, ok, rfl⟩
  rintro _ ⟨m, a, b, c, d, ok, rfl⟩
  simp
  exact ⟨m, ok, rfl⟩
end Lw
namespace Lw
open PySem PySem.Spec PyProof.Rows L2 DL
/-- the "read" letters tell values of the meter, no two contradict each other -/
structure RdOk (lo hi : Int) (R : List Rt) : Prop where
  first : ∀ r ∈ R, r.v = none → r.i ≠ 0
  inn : ∀ r ∈ R, ∀ x, r.v = some x → lo ≤ x ∧ x ≤ hi
  one : ∀ r ∈ R, ∀ q ∈ R, r.j = q.j → r.t = q.t ∧ (r.i = q.i → r.v = q.v)
def bdV (lo hi : Int) (r : Rt) : Prop := (r.v = none → r.i ≠ 0) ∧ ∀ x, r.v = some x → lo ≤ x ∧ x ≤ hi
theorem RdOk.nil {lo hi : Int} : RdOk lo hi [] := ⟨nofun, nofun, nofun⟩
theorem RdOk.app {lo hi : Int} {R : List Rt} (h : RdOk lo hi R) {r : Rt} (b : bdV lo hi r) (c : ∀ q ∈ R, q.j = r.j → q.t = r.t ∧ (q.i = r.i → q.v = r.v)) : RdOk lo hi (R ++ [r]) := by
  refine ⟨fun q hq => ?_, fun q hq => ?_, fun q hq p hp => ?_⟩
  · rcases List.mem_append.mp hq with k | k
    · exact h.first q k
    · rw [List.mem_singleton.mp k]; exact b.1
  · rcases List.mem_append.mp hq with k | k
    · exact h.inn q k
    · rw [List.mem_singleton.mp k]; exact b.2
  · rcases List.mem_append.mp hq with k | k
    · rcases List.mem_append.mp hp with l | l
      · exact h.one q k p l
      · rw [List.mem_singleton.mp l]; exact c q k
    · rw [List.mem_singleton.mp k]
      rcases List.mem_append.mp hp with l | l
      · intro e
        obtain ⟨c1, c2⟩ := c p l e.symm
        exact ⟨c1.symm, fun z => (c2 z.symm).symm⟩
      · rw [List.mem_singleton.mp l]; exact fun _ => ⟨rfl, fun _ => rfl⟩
theorem RdOk.sub {lo hi : Int} {R : List Rt} {r : Rt} {l : List Rt} (h : RdOk lo hi (R ++ r :: l)) : bdV lo hi r ∧ ∀ q ∈ R, q.j = r.j → q.t = r.t ∧ (q.i = r.i → q.v = r.v) :=
  ⟨⟨h.first r (by simp), h.inn r (by simp)⟩, fun q hq => h.one q (by simp [hq]) r (by simp)⟩
/-- the stamps and the values told so far -/
structure TolOk (R : List Rt) (ms : List (Int × Int)) (mv : List ((Int × Int) × Option Int)) : Prop where
  st : ∀ j t, lkG ms j = some t ↔ ∃ r ∈ R, r.j = j ∧ r.t = t
  va : ∀ j i v, lkG mv (j, i) = some v ↔ ∃ r ∈ R, r.j = j ∧ r.i = i ∧ r.v = v
  few : ms.length ≤ R.length ∧ mv.length ≤ R.length
theorem bool_of {b : Bool} {P : Prop} [Decidable P] (h : b = true ↔ P) : b = decide P := by
  rw [Bool.eq_iff_iff, decide_eq_true_iff]; exact h
open Classical in
theorem reads_right_run (nm : Str) (mt : Mt) (R : List Rt) (hl : R.length ≤ 100000) : F_p_reads_right.run [.dat (mD mt), .dat (.list (R.map (rtD nm)))] = some (.dat (.bool (decide (RdOk mt.low mt.high R))), [none, none]) := by
  refine Wp.eq ?_
  unfold F_p_reads_right
  refine fn_cut rfl rfl ?_
  refine seq_cut (fun r => r = [some (.dat (mD mt)), some (.dat (.list (R.map (rtD nm)))), some (.own (.dct false (encI PyData.int []))), none, none, none, none, none, none, none]) (by simp [encI_nil]) ?_
  rintro _ rfl
  refine seq_cut (fun r => r = [some (.dat (mD mt)), some (.dat (.list (R.map (rtD nm)))), some (.own (.dct false (encI PyData.int []))), some (.own (.dct true (encP oD []))), none, none, none, none, none, none]) (by simp [encP_nil]) ?_
  rintro _ rfl
  refine seq_cut (fun r => RdOk mt.low mt.high R ∧ ∃ x y a b c d e f, r = [some (.dat (mD mt)), some (.dat (.list (R.map (rtD nm)))), x, y, a, b, c, d, e, f]) ?_ ?_
  · simp
    have dc : ∀ (l m : List Rt), decide (RdOk mt.low mt.high R) = decide (RdOk mt.low mt.high R) := fun _ _ => rfl
    refine for_map (f := rtD nm) (fun k r => RdOk mt.low mt.high k ∧ ∃ ms mv a b c d e f, TolOk k ms mv ∧ r = [some (.dat (mD mt)), some (.dat (.list (R.map (rtD nm)))), some (.own (.dct false (encI PyData.int ms))), some (.own (.dct true (encP oD mv))), a, b, c, d, e, f]) ?_ ?_ ⟨.nil, [], [], none, none, none, none, none, none, ⟨fun j t => by simp [lkG_nil], fun j i v => by simp [lkG_nil], by simp, by simp⟩, rfl⟩
    · rintro k x l _ e0 ⟨ok, ms, mv, a, b, c, d, e, f, tol, rfl⟩
      have hk : k.length < R.length := by rw [e0]; simp
      have f1 := tol.few
      have bad : (¬ (bdV mt.low mt.high x ∧ ∀ q ∈ k, q.j = x.j → q.t = x.t ∧ (q.i = x.i → q.v = x.v))) → ¬ RdOk mt.low mt.high R := fun hn h => hn (RdOk.sub (e0 ▸ h))
      generalize hA : some (Sv.dat (PyData.list (R.map (rtD nm)))) = A
      simp [rtD, ltD]
      unfold B_p_reads_right_1
      generalize hK : some (Sv.dat (PyData.str (Str.ofString "read"))) = kd
      generalize hN : some (Sv.dat (PyData.str nm)) = nmv
      refine seq_cut (fun r => (x.v = none → x.i ≠ 0) ∧ r = [some (.dat (mD mt)), A, some (.own (.dct false (encI PyData.int ms))), some (.own (.dct true (encP oD mv))), kd, nmv, some (.dat (.int x.j)), some (.dat (.int x.i)), some (.dat (.int x.t)), some (.dat (oD x.v))]) ?_ ?_
      · cases ev : x.v with
        | none =>
          simp [oD]
          refine wIf_d (fun c => ?_) fun c => ?_
          · simp
            exact bad fun h => h.1.1 ev c
          · simp [oD]
            exact c
        | some z => simp [oD]
      rintro _ ⟨b1, rfl⟩
      refine seq_cut (fun r => bdV mt.low mt.high x ∧ r = [some (.dat (mD mt)), A, some (.own (.dct false (encI PyData.int ms))), some (.own (.dct true (encP oD mv))), kd, nmv, some (.dat (.int x.j)), some (.dat (.int x.i)), some (.dat (.int x.t)), some (.dat (oD x.v))]) ?_ ?_
      · cases ev : x.v with
        | none =>
          simp [oD]
          exact ⟨b1, fun z hz => by rw [ev] at hz; cases hz⟩
        | some z =>
          simp [oD, mD]
          refine wIf_d (fun c => ?_) fun c => ?_
          · simp
            refine wIf_d (fun c2 => ?_) fun c2 => ?_
            · simp [oD]
              exact ⟨b1, fun y hy => by rw [ev] at hy; cases hy; exact ⟨c, c2⟩⟩
            · simp
              exact bad fun h => c2 (h.1.2 z ev).2
          · simp
            exact bad fun h => c (h.1.2 z ev).1
      rintro _ ⟨b2, rfl⟩
      have fin : ∀ {ms' mv'}, (∀ q ∈ k, q.j = x.j → q.t = x.t ∧ (q.i = x.i → q.v = x.v)) → TolOk (k ++ [x]) ms' mv' → (fun r => RdOk mt.low mt.high (k ++ [x]) ∧ ∃ ms mv a b c d e f, TolOk (k ++ [x]) ms mv ∧ r = [some (.dat (mD mt)), A, some (.own (.dct false (encI PyData.int ms))), some (.own (.dct true (encP oD mv))), a, b, c, d, e, f]) [some (.dat (mD mt)), A, some (.own (.dct false (encI PyData.int ms'))), some (.own (.dct true (encP oD mv'))), kd, nmv, some (.dat (.int x.j)), some (.dat (.int x.i)), some (.dat (.int x.t)), some (.dat (oD x.v))] := by
        intro ms' mv' h1 h2
        exact ⟨ok.app b2 h1, _, _, _, _, _, _, _, _, h2, rfl⟩
      generalize hJ : (fun r => RdOk mt.low mt.high (k ++ [x]) ∧ ∃ ms mv a b c d e f, TolOk (k ++ [x]) ms mv ∧ r = [some (.dat (mD mt)), A, some (.own (.dct false (encI PyData.int ms))), some (.own (.dct true (encP oD mv))), a, b, c, d, e, f]) = J at fin
      -- what the letters so far say of this slot, this version
      have st1 : ∀ t, lkG ms x.j = some t → ((∀ q ∈ k, q.j = x.j → q.t = x.t) ↔ t = x.t) := fun t ht => by
        obtain ⟨r, h1, h2, h3⟩ := (tol.st x.j t).mp ht
        refine ⟨fun h => h3 ▸ h r h1 h2, fun h q hq hj => ?_⟩
        have := (ok.one q hq r h1 (hj.trans h2.symm)).1
        rw [this, h3, h]
      have va1 : ∀ w, lkG mv (x.j, x.i) = some w → ((∀ q ∈ k, q.j = x.j → q.i = x.i → q.v = x.v) ↔ w = x.v) := fun w hw => by
        obtain ⟨r, h1, h2, h3, h4⟩ := (tol.va x.j x.i w).mp hw
        refine ⟨fun h => h4 ▸ h r h1 h2 h3, fun h q hq hj hi => ?_⟩
        have := (ok.one q hq r h1 (hj.trans h2.symm)).2 (hi.trans h3.symm)
        rw [this, h4, h]
      have st2 : lkG ms x.j = none → ∀ q ∈ k, q.j ≠ x.j := fun hn q hq hj => by
        have := (tol.st x.j q.t).mpr ⟨q, hq, hj, rfl⟩
        rw [hn] at this; cases this
      have va2 : lkG mv (x.j, x.i) = none → ∀ q ∈ k, q.j = x.j → q.i ≠ x.i := fun hn q hq hj hi => by
        have := (tol.va x.j x.i q.v).mpr ⟨q, hq, hj, hi, rfl⟩
        rw [hn] at this; cases this
      -- the tables behind it
      have ts1 : (∀ q ∈ k, q.j = x.j → q.t = x.t) → ∀ j t, lkG (putG ms x.j x.t) j = some t ↔ ∃ r ∈ k ++ [x], r.j = j ∧ r.t = t := fun h j t => by
        rw [lkG_put]
        constructor
        · intro e
          split at e
          · rename_i q; cases e; exact ⟨x, by simp, q.symm, rfl⟩
          · obtain ⟨r, h1, h2⟩ := (tol.st j t).mp e
            exact ⟨r, by simp [h1], h2⟩
        · rintro ⟨r, h1, h2, h3⟩
          rcases List.mem_append.mp h1 with q | q
          · by_cases e : j = x.j
            · rw [if_pos e, ← h3, h r q (h2.trans e)]
            · rw [if_neg e]; exact (tol.st j t).mpr ⟨r, q, h2, h3⟩
          · rw [List.mem_singleton.mp q] at h2 h3
            rw [if_pos h2.symm, h3]
      have ts2 : (∀ t, lkG ms x.j = some t → t = x.t) → (lkG ms x.j ≠ none) → ∀ j t, lkG ms j = some t ↔ ∃ r ∈ k ++ [x], r.j = j ∧ r.t = t := fun h hn j t => by
        constructor
        · intro e
          obtain ⟨r, h1, h2⟩ := (tol.st j t).mp e
          exact ⟨r, by simp [h1], h2⟩
        · rintro ⟨r, h1, h2, h3⟩
          rcases List.mem_append.mp h1 with q | q
          · exact (tol.st j t).mpr ⟨r, q, h2, h3⟩
          · rw [List.mem_singleton.mp q] at h2 h3
            subst h2 h3
            cases e : lkG ms x.j with
            | none => exact absurd e hn
            | some w => rw [h w e]
      have tv1 : (∀ q ∈ k, q.j = x.j → q.i = x.i → q.v = x.v) → ∀ j i v, lkG (putG mv (x.j, x.i) x.v) (j, i) = some v ↔ ∃ r ∈ k ++ [x], r.j = j ∧ r.i = i ∧ r.v = v := fun h j i v => by
        rw [lkG_put]
        constructor
        · intro e
          split at e
          · rename_i q; cases e; cases q; exact ⟨x, by simp, rfl, rfl, rfl⟩
          · obtain ⟨r, h1, h2⟩ := (tol.va j i v).mp e
            exact ⟨r, by simp [h1], h2⟩
        · rintro ⟨r, h1, h2, h3, h4⟩
          rcases List.mem_append.mp h1 with q | q
          · by_cases e : (j, i) = (x.j, x.i)
            · cases e
              rw [if_pos rfl, ← h4, h r q h2 h3]
            · rw [if_neg e]; exact (tol.va j i v).mpr ⟨r, q, h2, h3, h4⟩
          · rw [List.mem_singleton.mp q] at h2 h3 h4
            subst h2 h3 h4
            rw [if_pos rfl]
      have tv2 : (∀ t, lkG mv (x.j, x.i) = some t → t = x.v) → (lkG mv (x.j, x.i) ≠ none) → ∀ j i v, lkG mv (j, i) = some v ↔ ∃ r ∈ k ++ [x], r.j = j ∧ r.i = i ∧ r.v = v := fun h hn j i v => by
        constructor
        · intro e
          obtain ⟨r, h1, h2⟩ := (tol.va j i v).mp e
          exact ⟨r, by simp [h1], h2⟩
        · rintro ⟨r, h1, h2, h3, h4⟩
          rcases List.mem_append.mp h1 with q | q
          · exact (tol.va j i v).mpr ⟨r, q, h2, h3, h4⟩
          · rw [List.mem_singleton.mp q] at h2 h3 h4
            subst h2 h3 h4
            cases e : lkG mv (x.j, x.i) with
            | none => exact absurd e hn
            | some w => rw [h w e]
      have lm : ms.length ≤ (k ++ [x]).length ∧ mv.length ≤ (k ++ [x]).length := by simp; omega
      have lms := putG_len ms x.j x.t
      have lmv := putG_len mv (x.j, x.i) x.v
      have b3 : ms.length < 1000000 := by omega
      have b4 : mv.length < 1000000 := by omega
      cases es : lkG ms x.j with
      | none =>
        have c1 : ∀ q ∈ k, q.j = x.j → q.t = x.t ∧ (q.i = x.i → q.v = x.v) := fun q hq hj => absurd hj (st2 es q hq)
        cases ev : lkG mv (x.j, x.i) with
        | none =>
          simp [es, ev, atD_P, b3, b4]
          rw [putD_I (f := PyData.int) (v := x.t) rfl, putD_P (f := oD) (v := x.v) rfl]
          exact fin c1 ⟨ts1 fun q hq hj => (c1 q hq hj).1, tv1 fun q hq hj hi => (c1 q hq hj).2 hi, by simp; omega⟩
        | some w =>
          obtain ⟨r, h1, h2, _⟩ := (tol.va _ _ _).mp ev
          exact absurd h2 (st2 es r h1)
      | some t =>
        by_cases ct : t = x.t
        · have d1 := (st1 t es).mpr ct
          cases ev : lkG mv (x.j, x.i) with
          | none =>
            have c1 : ∀ q ∈ k, q.j = x.j → q.t = x.t ∧ (q.i = x.i → q.v = x.v) := fun q hq hj => ⟨d1 q hq hj, fun hi => absurd hi (va2 ev q hq hj)⟩
            simp [es, ev, atD_P, b3, b4, ct]
            rw [putD_P (f := oD) (v := x.v) rfl]
            exact fin c1 ⟨ts2 (fun t' h => by rw [es] at h; cases h; exact ct) (by rw [es]; simp), tv1 fun q hq hj hi => (c1 q hq hj).2 hi, by simp; omega⟩
          | some w =>
            by_cases cw : w = x.v
            · have d2 := (va1 w ev).mpr cw
              have c1 : ∀ q ∈ k, q.j = x.j → q.t = x.t ∧ (q.i = x.i → q.v = x.v) := fun q hq hj => ⟨d1 q hq hj, d2 q hq hj⟩
              simp [es, ev, atD_P, b3, b4, ct, cw]
              exact fin c1 ⟨ts2 (fun t' h => by rw [es] at h; cases h; exact ct) (by rw [es]; simp), tv2 (fun t' h => by rw [ev] at h; cases h; exact cw) (by rw [ev]; simp), lm⟩
            · simp [es, ev, atD_P, b3, b4, ct, cw]
              exact bad fun h => cw ((va1 w ev).mp fun q hq hj hi => (h.2 q hq hj).2 hi)
        · simp [es, b3, ct]
          exact bad fun h => ct ((st1 t es).mp fun q hq hj => (h.2 q hq hj).1)
    · rintro _ ⟨ok, ms, mv, a, b, c, d, e, f, tol, rfl⟩
      simp
      exact ok
  rintro _ ⟨ok, x, y, a, b, c, d, e, f, rfl⟩
  simp [ok]
end Lw
namespace Lw
open PySem PySem.Spec PyProof.Rows L2 DL
structure ClOk (C : List Ct) : Prop where
  vs : ∀ c ∈ C, ∀ d ∈ C, c.n = d.n → c.vs = d.vs
  zero : ∀ c ∈ C, c.n = 0 → c.vs = 0
  lt : ∀ c ∈ C, ∀ d ∈ C, c.n < d.n → c.t < d.t
theorem cutP_from {α : Type} (xs : List α) (n : Nat) : cutD xs (some (n : Int)) none = xs.drop n := by
  unfold DL.cutD
  rw [HT.sIx_nat, HT.sIx_none]
  by_cases h : n ≤ xs.length
  · rw [Nat.min_eq_left h, List.take_of_length_le (by rw [List.length_drop]; omega)]
  · rw [Nat.min_eq_right (by omega), List.drop_eq_nil_of_le (by omega), List.drop_eq_nil_of_le (by omega), List.take_nil]
theorem cutP1 {α : Type} (xs : List α) : cutD xs (some 1) none = xs.drop 1 := cutP_from xs 1
theorem clo_mem {nm : Str} {ts : List Lt} {n t vs : Int} : .close nm n t vs ∈ ts → (⟨n, t, vs⟩ : Ct) ∈ clsO nm ts := fun h => List.mem_filterMap.mpr ⟨_, h, by simp [clO]⟩
theorem clo_of {nm : Str} {ts : List Lt} {c : Ct} (h : c ∈ clsO nm ts) : .close nm c.n c.t c.vs ∈ ts := by
  obtain ⟨t, h1, h2⟩ := List.mem_filterMap.mp h
  cases t with
  | close a n t vs =>
    unfold clO at h2
    dsimp only at h2
    split at h2
    · rename_i q; cases h2; subst q; exact h1
    · cases h2
  | _ => cases h2
theorem rdo_mem {nm : Str} {ts : List Lt} {j i t : Int} {v : Option Int} : .read nm j i t v ∈ ts → (⟨j, i, t, v⟩ : Rt) ∈ rdsO nm ts := fun h => List.mem_filterMap.mpr ⟨_, h, by simp [rdO]⟩
theorem rdo_of {nm : Str} {ts : List Lt} {r : Rt} (h : r ∈ rdsO nm ts) : .read nm r.j r.i r.t r.v ∈ ts := by
  obtain ⟨t, h1, h2⟩ := List.mem_filterMap.mp h
  cases t with
  | read a j i t v =>
    unfold rdO at h2
    dsimp only at h2
    split at h2
    · rename_i q; cases h2; subst q; exact h1
    · cases h2
  | _ => cases h2
/-- what is told of so many slots -/
def cxA (m : List (Int × Cx)) (n : Int) : Cx := (lkG m n).getD ⟨0, 0, 0⟩
section
variable {C : List Ct} {m : List (Int × Cx)}
theorem CloOk.le (ok : CloOk C m) (n : Int) : (cxA m n).ce ≤ (cxA m n).fl := by
  unfold cxA
  cases e : lkG m n with
  | none => simp
  | some x =>
    obtain ⟨c, h1, h2, h3⟩ := ok.ce n x e
    obtain ⟨y, e1, e2, e3⟩ := ok.top c h1
    rw [h2, e] at e1; cases e1
    simp
    omega
theorem CloOk.at (ok : CloOk C m) {c : Ct} (hc : c ∈ C) : ∃ x, lkG m c.n = some x ∧ cxA m c.n = x ∧ x.ce ≤ c.t ∧ c.t ≤ x.fl := by
  obtain ⟨x, h1, h2, h3⟩ := ok.top c hc
  exact ⟨x, h1, by unfold cxA; rw [h1]; rfl, h2, h3⟩
theorem CloOk.key (ok : CloOk C m) {n : Int} : n ∈ m.map (·.1) ↔ ∃ c ∈ C, c.n = n := by
  rw [← lkG_keys]
  constructor
  · rintro ⟨x, e⟩
    obtain ⟨c, h1, h2, _⟩ := ok.ce n x e
    exact ⟨c, h1, h2⟩
  · rintro ⟨c, h1, rfl⟩
    obtain ⟨x, e, _⟩ := ok.top c h1
    exact ⟨x, e⟩
end
theorem pw_of_lt {R : Int → Int → Prop} {a b : Int} : ∀ (N : List Int), N.Pairwise (· < ·) → N.Pairwise R → a ∈ N → b ∈ N → a < b → R a b
  | x :: l, h1, h2, ha, hb, lt => by
    rw [List.pairwise_cons] at h1 h2
    rcases List.mem_cons.mp ha with ea | ha'
    · rcases List.mem_cons.mp hb with eb | hb'
      · omega
      · rw [ea]; exact h2.1 b hb'
    · rcases List.mem_cons.mp hb with eb | hb'
      · have := h1.1 a ha'; omega
      · exact pw_of_lt l h1.2 h2.2 ha' hb' lt
/-- neighbours in order: all in order -/
theorem chain_pw {R : Int → Int → Prop} (tr : ∀ a b c, R a b → R b c → R a c) : ∀ (N : List Int), (∀ p ∈ N.zip (N.drop 1), R p.1 p.2) → N.Pairwise R
  | [], _ => .nil
  | [a], _ => by simp
  | a :: b :: l, h => by
    have h1 := h (a, b) (by simp)
    have h2 := chain_pw tr (b :: l) fun p hp => h p (by simp at hp ⊢; exact .inr hp)
    refine List.pairwise_cons.mpr ⟨fun x hx => ?_, h2⟩
    rcases List.mem_cons.mp hx with e | e
    · rw [e]; exact h1
    · exact tr a b x h1 ((List.pairwise_cons.mp h2).1 x e)
theorem pw_chain {R : Int → Int → Prop} : ∀ (N : List Int), N.Pairwise R → ∀ p ∈ N.zip (N.drop 1), R p.1 p.2
  | [], _, p, hp => by simp at hp
  | [a], _, p, hp => by simp at hp
  | a :: b :: l, h, p, hp => by
    simp at hp
    rcases hp with rfl | hp
    · exact (List.pairwise_cons.mp h).1 b (by simp)
    · exact pw_chain (b :: l) (List.pairwise_cons.mp h).2 p (by simpa using hp)
open Classical in
theorem closes_right_run (L : D) (ts : List Lt) (h : IsTs L ts) (hl : ts.length ≤ 100000) (nm : Str) (m : List (Int × Cx)) (ok : CloOk (clsO nm ts) m) : F_p_closes_right.run [.dat L, .dat (.str nm), .fro (.dct false (encI cxD m))] = some (.dat (.bool (decide (ClOk (clsO nm ts)))), [none, none, none]) := by
  refine Wp.eq ?_
  unfold F_p_closes_right
  refine fn_cut rfl rfl ?_
  generalize hA : some (Sv.dat L) = A
  have keep : ∀ c ∈ clsO nm ts, ∃ x, lkG m c.n = some x ∧ cxA m c.n = x ∧ x.ce ≤ c.t ∧ c.t ≤ x.fl := fun c hc => ok.at hc
  refine seq_cut (fun r => (∀ c ∈ clsO nm ts, c.vs = (cxA m c.n).vs) ∧ ∃ a, r = [A, some (.dat (.str nm)), some (.fro (.dct false (encI cxD m))), a, none, none, none]) ?_ ?_
  · subst hA
    simp [wX_ts h]
    refine for_map (f := ltD) (fun k r => (∀ c ∈ clsO nm k, c.vs = (cxA m c.n).vs) ∧ ∃ a, r = [some (.dat L), some (.dat (.str nm)), some (.fro (.dct false (encI cxD m))), a, none, none, none]) ?_ ?_ ⟨(by intro c hc; cases hc), none, rfl⟩
    · rintro k x l _ e0 ⟨hk, a, rfl⟩
      have skip : clO nm x = none → ∀ c ∈ clsO nm (k ++ [x]), c.vs = (cxA m c.n).vs := fun e => by
        have : clsO nm (k ++ [x]) = clsO nm k := by unfold clsO; simp [e]
        rw [this]; exact hk
      cases x with
      | read a j i t v =>
        simp [ltD, B_p_closes_right_1]
        exact skip rfl
      | clock a lo hi =>
        simp [ltD, B_p_closes_right_1]
        exact skip rfl
      | close a n t vs =>
        by_cases e : a = nm
        · subst e
          have mem : (⟨n, t, vs⟩ : Ct) ∈ clsO a ts := clo_mem (by rw [e0]; simp)
          obtain ⟨y, e1, e2, _⟩ := keep _ mem
          dsimp only at e1 e2
          have e3 : clsO a (k ++ [.close a n t vs]) = clsO a k ++ [⟨n, t, vs⟩] := by unfold clsO; simp [clO]
          simp [ltD, B_p_closes_right_1, e1]
          simp [cxD]
          by_cases c : y.vs = vs
          · simp [c]
            rw [e3]
            intro d hd
            rcases List.mem_append.mp hd with q | q
            · exact hk d q
            · rw [List.mem_singleton.mp q]
              show vs = (cxA m n).vs
              rw [e2, c]
          · simp [c]
            intro g
            obtain ⟨d, d1, d2, d3⟩ := ok.vs n y e1
            exact c (by rw [← d3]; exact g.vs d d1 _ mem d2)
        · have e' : (a == nm) = false := by simpa using e
          simp [ltD, B_p_closes_right_1, e']
          exact skip (by simp [clO, e])
    · rintro _ ⟨hk, a, rfl⟩
      simp
      exact hk
  rintro _ ⟨h1, a, rfl⟩
  have v1 : ∀ c ∈ clsO nm ts, ∀ d ∈ clsO nm ts, c.n = d.n → c.vs = d.vs := fun c hc d hd e => by rw [h1 c hc, h1 d hd, e]
  refine seq_cut (fun r => (∀ c ∈ clsO nm ts, c.n = 0 → c.vs = 0) ∧ r = [A, some (.dat (.str nm)), some (.fro (.dct false (encI cxD m))), a, none, none, none]) ?_ ?_
  · cases e : lkG m 0 with
    | none =>
      simp [e]
      intro c hc e2
      obtain ⟨y, e1, _⟩ := keep c hc
      rw [e2, e] at e1; cases e1
    | some x =>
      obtain ⟨d, d1, d2, d3⟩ := ok.vs 0 x e
      simp [e]
      simp [cxD]
      by_cases c : x.vs = 0
      · simp [c]
        intro c' hc' e2
        rw [v1 c' hc' d d1 (e2.trans d2.symm), d3, c]
      · simp [c]
        intro g
        exact c (by rw [← d3]; exact g.zero d d1 d2)
  rintro _ ⟨h2, rfl⟩
  refine seq_cut (fun r => r = [A, some (.dat (.str nm)), some (.fro (.dct false (encI cxD m))), a, some (.own (.lst ((srI (m.map (·.1))).map .int))), none, none]) (by simp [srI]) ?_
  rintro _ rfl
  have mlen : m.length ≤ 100000 := by
    have q1 : (m.map (·.1)).length ≤ ((clsO nm ts).map (·.n)).length := ok.nd.length_le_of_subset fun n hn => by
      obtain ⟨c, hc, e⟩ := ok.key.mp hn
      exact List.mem_map.mpr ⟨c, hc, e⟩
    have := clsO_len nm ts
    simp at q1
    omega
  have nlen : (srI (m.map (·.1))).length ≤ 100000 := by rw [srI_len]; simpa using mlen
  have nmem : ∀ n ∈ srI (m.map (·.1)), ∃ c ∈ clsO nm ts, c.n = n := fun n hn => ok.key.mp (srI_mem.mp hn)
  have nlt := srI_lt ok.nd
  generalize hN : srI (m.map (·.1)) = N at nlen nmem nlt
  have key : (∀ p ∈ N.zip (N.drop 1), (cxA m p.1).fl < (cxA m p.2).ce) ↔ ClOk (clsO nm ts) := by
    constructor
    · intro hz
      have pw := chain_pw (R := fun a b => (cxA m a).fl < (cxA m b).ce) (fun a b c h1 h2 => by have := ok.le b; omega) N hz
      refine ⟨v1, h2, fun c hc d hd lt => ?_⟩
      obtain ⟨x, e1, e2, e3, e4⟩ := keep c hc
      obtain ⟨y, f1, f2, f3, f4⟩ := keep d hd
      have hc' : c.n ∈ N := by rw [← hN]; exact srI_mem.mpr (ok.key.mpr ⟨c, hc, rfl⟩)
      have hd' : d.n ∈ N := by rw [← hN]; exact srI_mem.mpr (ok.key.mpr ⟨d, hd, rfl⟩)
      have r : (cxA m c.n).fl < (cxA m d.n).ce := by
        exact pw_of_lt (R := fun a b => (cxA m a).fl < (cxA m b).ce) N nlt pw hc' hd' lt
      rw [e2, f2] at r
      omega
    · intro g
      refine pw_chain (R := fun a b => (cxA m a).fl < (cxA m b).ce) N (nlt.imp_of_mem fun {a b} ha hb lt => ?_)
      obtain ⟨c, hc, e⟩ := nmem a ha
      obtain ⟨d, hd, f⟩ := nmem b hb
      obtain ⟨x, e1, e2, _⟩ := keep c hc
      obtain ⟨y, f1, f2, _⟩ := keep d hd
      subst e f
      obtain ⟨c', p1, p2, p3⟩ := ok.fl _ _ e1
      obtain ⟨d', q1, q2, q3⟩ := ok.ce _ _ f1
      rw [e2, f2, ← p3, ← q3]
      exact g.lt c' p1 d' q1 (by rw [p2, q2]; exact lt)
  have zl : (N.zip (N.drop 1)).length ≤ 100000 := by rw [List.length_zip]; omega
  simp [cutP1]
  rw [show (N.map PyData.int).tail = (N.drop 1).map PyData.int by rw [List.map_drop, List.drop_one], zipD_map]
  simp
  refine ⟨by omega, lc_ma (f := fun p : Int × Int => PyData.tuple [.int p.1, .int p.2]) (fun p => .bool (decide ((cxA m p.1).fl < (cxA m p.2).ce))) (fun p hp => ?_) ?_⟩
  · have hp' : p.1 ∈ N ∧ p.2 ∈ N := ⟨(List.of_mem_zip hp).1, List.mem_of_mem_tail (List.of_mem_zip hp).2⟩
    obtain ⟨c, hc, e⟩ := nmem _ hp'.1
    obtain ⟨d, hd, f⟩ := nmem _ hp'.2
    obtain ⟨x, e1, e2, _⟩ := keep c hc
    obtain ⟨y, f1, f2, _⟩ := keep d hd
    rw [e] at e1 e2
    rw [f] at f1 f2
    simp [e1, f1]
    simp [cxD, e1, f1, e2, f2]
  · simp
    rw [Bool.eq_iff_iff, decide_eq_true_iff, ← key, List.all_eq_true, List.drop_one]
    exact ⟨fun g p hp => by simpa using g p hp, fun g p hp => by simpa using g p hp⟩
end Lw
namespace Lw
open PySem PySem.Spec PyProof.Rows L2 DL
theorem filterP_one {ms : List Mt} {m : Mt} (nd : (ms.map (·.name)).Nodup) (h : m ∈ ms) : (ms.filter fun k => k.name == m.name) = [m] := by
  induction ms with
  | nil => cases h
  | cons k ms ih =>
    rw [List.map_cons, List.nodup_cons] at nd
    rcases List.mem_cons.mp h with e | h
    · subst e
      rw [List.filter_cons_of_pos (by simp)]
      congr 1
      rw [List.filter_eq_nil_iff]
      intro x hx e
      have : x.name = m.name := by simpa using e
      exact nd.1 (List.mem_map.mpr ⟨x, hx, this⟩)
    · have ne : ¬ k.name = m.name := fun e => nd.1 (by rw [e]; exact List.mem_map.mpr ⟨m, h, rfl⟩)
      rw [List.filter_cons_of_neg (by simpa using ne), ih nd.2 h]
theorem meterP_run {len : Int} {ms : List Mt} {m : Mt} (nd : (ms.map (·.name)).Nodup) (hl : ms.length ≤ 1000) (h : m ∈ ms) : F_p_meter_of.run [.dat (pD len ms), .dat (.str m.name)] = some (.dat (mD m), [none, none]) := by
  refine Wp.eq ?_
  unfold F_p_meter_of
  simp [pD]
  refine ⟨by omega, lc_fa (f := mD) (fun k => k.name == m.name) mD (fun k _ => by simp [mD]) ?_⟩
  rw [filterP_one nd h]
  simp
/-- some offset is left -/
def OffOk (err : Int) (K : List (Int × Int)) : Prop := ∃ o, -err ≤ o ∧ o ≤ err ∧ ∀ c ∈ K, c.1 ≤ o ∧ o ≤ c.2
structure LowOk (err : Int) (K : List (Int × Int)) (lo hi : Int) : Prop where
  l0 : -err ≤ lo
  h0 : hi ≤ err
  l1 : ∀ c ∈ K, c.1 ≤ lo
  h1 : ∀ c ∈ K, hi ≤ c.2
  l2 : lo = -err ∨ ∃ c ∈ K, lo = c.1
  h2 : hi = err ∨ ∃ c ∈ K, hi = c.2
theorem LowOk.off {err : Int} {K : List (Int × Int)} {lo hi : Int} (h : LowOk err K lo hi) : lo ≤ hi ↔ OffOk err K := by
  constructor
  · intro e
    exact ⟨lo, h.l0, Int.le_trans e h.h0, fun c hc => ⟨h.l1 c hc, Int.le_trans e (h.h1 c hc)⟩⟩
  · rintro ⟨o, o1, o2, o3⟩
    have a : lo ≤ o := by
      rcases h.l2 with e | ⟨c, hc, e⟩
      · omega
      · have := (o3 c hc).1; omega
    have b : o ≤ hi := by
      rcases h.h2 with e | ⟨c, hc, e⟩
      · omega
      · have := (o3 c hc).2; omega
    omega
theorem LowOk.nil (err : Int) : LowOk err [] (-err) err := ⟨Int.le_refl _, Int.le_refl _, nofun, nofun, .inl rfl, .inl rfl⟩
theorem LowOk.app {err : Int} {K : List (Int × Int)} {lo hi : Int} (h : LowOk err K lo hi) (a b : Int) : LowOk err (K ++ [(a, b)]) (if a > lo then a else lo) (if b < hi then b else hi) := by
  have l0 := h.l0
  have h0 := h.h0
  refine ⟨by split <;> omega, by split <;> omega, fun c hc => ?_, fun c hc => ?_, ?_, ?_⟩
  · rcases List.mem_append.mp hc with q | q
    · have := h.l1 c q; split <;> omega
    · rw [List.mem_singleton.mp q]; dsimp only; split <;> omega
  · rcases List.mem_append.mp hc with q | q
    · have := h.h1 c q; split <;> omega
    · rw [List.mem_singleton.mp q]; dsimp only; split <;> omega
  · split
    · exact .inr ⟨(a, b), by simp, rfl⟩
    · exact h.l2.imp id fun ⟨c, hc, e⟩ => ⟨c, by simp [hc], e⟩
  · split
    · exact .inr ⟨(a, b), by simp, rfl⟩
    · exact h.h2.imp id fun ⟨c, hc, e⟩ => ⟨c, by simp [hc], e⟩
theorem offsets_run {len : Int} {ms : List Mt} {mt : Mt} (nd : (ms.map (·.name)).Nodup) (hm : ms.length ≤ 1000) (hmt : mt ∈ ms) (L : D) (ts : List Lt) (h : IsTs L ts) : ∃ lo hi, LowOk mt.err (cksO mt.name ts) lo hi ∧ F_p_offsets_of.run [.dat (pD len ms), .dat L, .dat (.str mt.name)] = some (.dat (.tuple [.int lo, .int hi]), [none, none, none]) := by
  suffices g : Wp (F_p_offsets_of.run [.dat (pD len ms), .dat L, .dat (.str mt.name)]) fun q => ∃ lo hi, LowOk mt.err (cksO mt.name ts) lo hi ∧ q = (.dat (.tuple [.int lo, .int hi]), [none, none, none]) by
    obtain ⟨a, e, lo, hi, ok, rfl⟩ := g; exact ⟨lo, hi, ok, e⟩
  have mr := meterP_run (len := len) nd hm hmt
  unfold F_p_offsets_of
  refine fn_cut rfl rfl ?_
  generalize hP : Sv.dat (pD len ms) = plan at mr
  generalize hA : some (Sv.dat L) = A
  refine seq_cut (fun r => r = [some plan, A, some (.dat (.str mt.name)), some (.dat (.int mt.err)), none, none, none]) ?_ ?_
  · subst hP
    simp [mr]
    simp [mD, hA]
  rintro _ rfl
  refine seq_cut (fun r => r = [some plan, A, some (.dat (.str mt.name)), some (.dat (.int mt.err)), some (.dat (.int (-mt.err))), none, none]) (by simp) ?_
  rintro _ rfl
  refine seq_cut (fun r => r = [some plan, A, some (.dat (.str mt.name)), some (.dat (.int mt.err)), some (.dat (.int (-mt.err))), some (.dat (.int mt.err)), none]) (by simp) ?_
  rintro _ rfl
  refine seq_cut (fun r => ∃ lo hi a, LowOk mt.err (cksO mt.name ts) lo hi ∧ r = [some plan, A, some (.dat (.str mt.name)), some (.dat (.int mt.err)), some (.dat (.int lo)), some (.dat (.int hi)), a]) ?_ ?_
  · subst hA
    simp [wX_ts h]
    refine for_map (f := ltD) (fun k r => ∃ lo hi a, LowOk mt.err (cksO mt.name k) lo hi ∧ r = [some plan, some (.dat L), some (.dat (.str mt.name)), some (.dat (.int mt.err)), some (.dat (.int lo)), some (.dat (.int hi)), a]) ?_ ?_ ⟨_, _, none, .nil _, rfl⟩
    · rintro k x l _ e0 ⟨lo, hi, a, ok, rfl⟩
      have skip : ckO mt.name x = none → LowOk mt.err (cksO mt.name (k ++ [x])) lo hi := fun e => by
        have : cksO mt.name (k ++ [x]) = cksO mt.name k := by unfold cksO; simp [e]
        rw [this]; exact ok
      cases x with
      | read b j i t v =>
        simp [ltD, B_p_offsets_of_1]
        exact skip rfl
      | close b n t vs =>
        simp [ltD, B_p_offsets_of_1]
        exact skip rfl
      | clock b l1 h1 =>
        by_cases e : b = mt.name
        · have e2 : cksO mt.name (k ++ [.clock b l1 h1]) = cksO mt.name k ++ [(l1, h1)] := by unfold cksO; simp [ckO, e]
          have ok2 := ok.app l1 h1
          rw [← e2] at ok2
          simp [ltD, B_p_offsets_of_1, e]
          rw [e] at ok2
          simpa using ok2
        · have e' : (b == mt.name) = false := by simpa using e
          simp [ltD, B_p_offsets_of_1, e']
          exact skip (by simp [ckO, e])
    · rintro _ ⟨lo, hi, a, ok, rfl⟩
      simp
      exact ok
  rintro _ ⟨lo, hi, a, ok, rfl⟩
  simp
  exact ok
/-- a segment, or the tail -/
structure Sg where
  fs : Int
  la : Option Int
  le : Option Int
  gr : Option Int
  vs : Option Int
def sgD (s : Sg) : D := .tuple [.int s.fs, oD s.la, oD s.le, oD s.gr, oD s.vs]
def segs (A : Int → Cx) : Int → Option Int → Int → List Int → List Sg
  | b, l, t, [] => [⟨b + 1, none, l, none, none⟩]
  | b, l, t, n :: ns => ⟨b + 1, some n, l, some ((A n).ce - 1), some ((A n).vs - t)⟩ :: segs A n (some (A n).fl) (A n).vs ns
theorem segs_len (A : Int → Cx) : ∀ (ns : List Int) (b : Int) (l : Option Int) (t : Int), (segs A b l t ns).length = ns.length + 1
  | [], _, _, _ => rfl
  | n :: ns, _, _, _ => by rw [segs, List.length_cons, segs_len A ns, List.length_cons]
def posK (m : List (Int × Cx)) : List Int := (srI (m.map (·.1))).filter fun n => decide (0 < n)
def segsOf (m : List (Int × Cx)) : List Sg := segs (cxA m) 0 ((lkG m 0).map (·.fl)) 0 (posK m)
theorem limits_run (m : List (Int × Cx)) (hl : m.length ≤ 100000) : F_p_limits_of.run [.fro (.dct false (encI cxD m))] = some (.own (.lst ((segsOf m).map sgD)), [none]) := by
  refine Wp.eq ?_
  unfold F_p_limits_of
  refine fn_cut rfl rfl ?_
  refine seq_cut (fun r => r = [some (.fro (.dct false (encI cxD m))), some (.own (.lst [])), none, none, none, none, none, none, none]) (by simp) ?_
  rintro _ rfl
  refine seq_cut (fun r => r = [some (.fro (.dct false (encI cxD m))), some (.own (.lst [])), some (.dat (.int 0)), none, none, none, none, none, none]) (by simp) ?_
  rintro _ rfl
  refine seq_cut (fun r => r = [some (.fro (.dct false (encI cxD m))), some (.own (.lst [])), some (.dat (.int 0)), some (.dat (oD ((lkG m 0).map (·.fl)))), none, none, none, none, none]) ?_ ?_
  · cases e : lkG m 0 with
    | none => simp [e, oD]
    | some x =>
      simp [e]
      simp [e, cxD, oD]
  rintro _ rfl
  refine seq_cut (fun r => r = [some (.fro (.dct false (encI cxD m))), some (.own (.lst [])), some (.dat (.int 0)), some (.dat (oD ((lkG m 0).map (·.fl)))), some (.dat (.int 0)), none, none, none, none]) (by simp) ?_
  rintro _ rfl
  have nl : (srI (m.map (·.1))).length ≤ 100000 := by rw [srI_len]; simpa using hl
  have nk : ∀ n ∈ srI (m.map (·.1)), ∃ x, lkG m n = some x ∧ cxA m n = x := fun n hn => by
    obtain ⟨x, e⟩ := lkG_keys.mpr (srI_mem.mp hn)
    exact ⟨x, e, by unfold cxA; rw [e]; rfl⟩
  have eS : segsOf m = segs (cxA m) 0 ((lkG m 0).map (·.fl)) 0 ((srI (m.map (·.1))).filter fun n => decide (0 < n)) := rfl
  refine seq_cut (fun r => ∃ F b l t c d e f, F ++ [⟨b + 1, none, l, none, none⟩] = segsOf m ∧ F.length ≤ 100000 ∧ r = [some (.fro (.dct false (encI cxD m))), some (.own (.lst (F.map sgD))), some (.dat (.int b)), some (.dat (oD l)), some (.dat (.int t)), c, d, e, f]) ?_ ?_
  · simp
    refine for_map (f := PyData.int) (xs := srI (m.map (·.1))) (fun k r => ∃ F b l t c d e f, (∀ ns, F ++ segs (cxA m) b l t ns = segs (cxA m) 0 ((lkG m 0).map (·.fl)) 0 ((k.filter fun n => decide (0 < n)) ++ ns)) ∧ F.length ≤ k.length ∧ r = [some (.fro (.dct false (encI cxD m))), some (.own (.lst (F.map sgD))), some (.dat (.int b)), some (.dat (oD l)), some (.dat (.int t)), c, d, e, f]) ?_ ?_ ⟨[], 0, (lkG m 0).map (·.fl), 0, none, none, none, none, fun ns => rfl, by simp, rfl⟩
    · rintro k n q _ e0 ⟨F, b, l, t, c, d, e, f, hF, hlen, rfl⟩
      have hk : k.length < (srI (m.map (·.1))).length := by rw [e0]; simp
      obtain ⟨x, e1, e2⟩ := nk n (by rw [e0]; simp)
      simp [B_p_limits_of_1, e1]
      refine wIf_d (fun c1 => ?_) fun c1 => ?_
      · simp [e1]
        simp [cxD]
        refine ⟨by omega, F ++ [⟨b + 1, some n, l, some (x.ce - 1), some (x.vs - t)⟩], n, some x.fl, x.vs, ?_, by simp; omega, by simp [sgD, oD]⟩
        intro ns
        have := hF (n :: ns)
        rw [segs, e2] at this
        have fe : List.filter (fun n => decide (0 < n)) [n] = [n] := by simp [c1]
        simpa [fe] using this
      · simp
        refine ⟨F, b, l, t, ?_, by omega, rfl, rfl, rfl, rfl⟩
        intro ns
        have fe : List.filter (fun n => decide (0 < n)) [n] = [] := by simp; omega
        simpa [fe] using hF ns
    · rintro _ ⟨F, b, l, t, c, d, e, f, hF, hlen, rfl⟩
      simp
      refine ⟨F, b, l, ?_, by omega, rfl, rfl, rfl⟩
      have := hF []
      rw [segs, List.append_nil] at this
      exact this
  rintro _ ⟨F, b, l, t, c, d, e, f, hF, hlen, rfl⟩
  simp
  refine ⟨by omega, ?_⟩
  rw [← hF]
  simp [sgD, oD]
/-- the received slots from .. to .. -/
def upto (la : Option Int) (s : Int) : Bool := match la with
  | none => true
  | some z => decide (s ≤ z)
def within (m : List (Int × Rc)) (a : Int) (la : Option Int) : List Int := (srI (m.map (·.1))).filter fun s => decide (a ≤ s) && upto la s
theorem within_run (m : List (Int × Rc)) (hl : m.length ≤ 100000) (a : Int) (la : Option Int) : F_p_slots_within.run [.fro (.dct false (encI rcD m)), .dat (.int a), .dat (oD la)] = some (.own (.lst ((within m a la).map .int)), [none, none, none]) := by
  refine Wp.eq ?_
  unfold F_p_slots_within
  have nl : (srI (m.map (·.1))).length ≤ 100000 := by rw [srI_len]; simpa using hl
  have e : List.mergeSort (m.map (·.1)) leI = srI (m.map (·.1)) := rfl
  simp
  rw [e]
  refine ⟨by omega, lc_fa (f := PyData.int) (xs := srI (m.map (·.1))) (fun s => decide (a ≤ s) && upto la s) PyData.int (fun s _ => ?_) ?_⟩
  · cases la with
    | none => by_cases c : a ≤ s <;> simp [c, oD, upto]
    | some z => by_cases c : a ≤ s <;> by_cases c2 : s ≤ z <;> simp [c, c2, oD, upto]
  · simp [within]
def rcA (m : List (Int × Rc)) (j : Int) : Rc := (lkG m j).getD ⟨0, 0, none⟩
theorem within_at {m : List (Int × Rc)} {a : Int} {la : Option Int} {s : Int} (h : s ∈ within m a la) : lkG m s = some (rcA m s) ∧ a ≤ s ∧ upto la s = true := by
  obtain ⟨h1, h2⟩ := List.mem_filter.mp h
  obtain ⟨x, e⟩ := lkG_keys.mpr (srI_mem.mp h1)
  rw [Bool.and_eq_true, decide_eq_true_iff] at h2
  exact ⟨by unfold rcA; rw [e]; rfl, h2⟩
theorem within_len (m : List (Int × Rc)) (a : Int) (la : Option Int) : (within m a la).length ≤ m.length := by
  unfold within
  refine Nat.le_trans (List.length_filter_le ..) ?_
  rw [srI_len, List.length_map]; exact Nat.le_refl _
/-- hidden versions -/
def hid (m : List (Int × Rc)) (s : Sg) : Option Int := match s.la, s.vs with
  | some z, some w => some (w - (z - s.fs + 1 - ((within m s.fs s.la).length : Int)) - ((within m s.fs s.la).map fun j => (rcA m j).ver + 1).sum)
  | _, _ => none
theorem hidden_run (m : List (Int × Rc)) (hl : m.length ≤ 100000) (s : Sg) (hs : s.la = none ∨ ∃ z w, s.la = some z ∧ s.vs = some w) : F_p_hidden_in.run [.fro (.dct false (encI rcD m)), .dat (sgD s)] = some (.dat (oD (hid m s)), [none, none]) := by
  refine Wp.eq ?_
  unfold F_p_hidden_in
  rcases hs with e | ⟨z, w, e, e2⟩
  · simp [sgD, e, oD, hid]
  · have wr := within_run m hl s.fs (some z)
    have wl := within_len m s.fs (some z)
    have hd : hid m s = some (w - (z - s.fs + 1 - ((within m s.fs (some z)).length : Int)) - ((within m s.fs (some z)).map fun j => (rcA m j).ver + 1).sum) := by unfold hid; rw [e, e2]
    rw [hd]
    have wa := fun j (h : j ∈ within m s.fs (some z)) => (within_at h).1
    generalize hW : within m s.fs (some z) = W at wr wl wa
    simp [sgD, e, e2, oD] at wr ⊢
    simp [wr]
    refine ⟨by omega, lc_ma (f := PyData.int) (fun j => .int ((rcA m j).ver + 1)) (fun j hj => ?_) ?_⟩
    · have := wa j hj
      simp [this]
      simp [rcD]
    · simp
end Lw
namespace Lw
open PySem PySem.Spec PyProof.Rows L2 DL
/-- the greatest version that is read of a slot, or 0 -/
def mxV (R : List Rt) (j : Int) : Int := maxL ((R.filter fun r => decide (r.j = j)).map (·.i)) 0
/-- how many versions there must be at least of the first slots -/
def sN (R : List Rt) : Nat → Int
  | 0 => 0
  | k + 1 => sN R k + (1 + mxV R ((k : Int) + 1))
def gC (R : List Rt) (n vs : Int) : Int := vs - sN R n.toNat
structure VerOk (R : List Rt) (C : List Ct) : Prop where
  nn : ∀ c ∈ C, 0 < c.n → 0 ≤ gC R c.n c.vs
  up : ∀ c ∈ C, ∀ d ∈ C, 0 < c.n → c.n < d.n → gC R c.n c.vs ≤ gC R d.n d.vs
/-- some log of the meter agrees -/
structure PossM (m : Mt) (R : List Rt) (C : List Ct) (K : List (Int × Int)) : Prop where
  rd : RdOk m.low m.high R
  cl : ClOk C
  off : OffOk m.err K
  mono : ∀ r ∈ R, ∀ q ∈ R, r.j < q.j → r.t ≤ q.t
  sep : ∀ r ∈ R, ∀ c ∈ C, r.t < c.t ↔ r.j ≤ c.n
  ver : VerOk R C
/-! sums over the numbers of a list -/
def sumF (N : List Int) (p : Int → Bool) (f : Int → Int) : Int := ((N.filter p).map f).sum
theorem sumF_or {p q r : Int → Bool} (f : Int → Int) (h1 : ∀ x, r x = (p x || q x)) (h2 : ∀ x, p x = true → q x = false) : ∀ N, sumF N r f = sumF N p f + sumF N q f
  | [] => rfl
  | x :: N => by
    have ih := sumF_or f h1 h2 N
    unfold sumF at ih ⊢
    cases hp : p x with
    | true =>
      have := h2 x hp
      rw [List.filter_cons_of_pos (by rw [h1, hp]; rfl), List.filter_cons_of_pos hp, List.filter_cons_of_neg (by rw [this]; simp)]
      simp only [List.map_cons, List.sum_cons]
      omega
    | false =>
      cases hq : q x with
      | true =>
        rw [List.filter_cons_of_pos (by rw [h1, hp, hq]; rfl), List.filter_cons_of_neg (by rw [hp]; simp), List.filter_cons_of_pos hq]
        simp only [List.map_cons, List.sum_cons]
        omega
      | false =>
        rw [List.filter_cons_of_neg (by rw [h1, hp, hq]; simp), List.filter_cons_of_neg (by rw [hp]; simp), List.filter_cons_of_neg (by rw [hq]; simp)]
        exact ih
theorem sumF_none {p : Int → Bool} (f : Int → Int) : ∀ N : List Int, (∀ x ∈ N, p x = false) → sumF N p f = 0
  | [], _ => rfl
  | x :: N, h => by
    have ih := sumF_none f N fun y hy => h y (List.mem_cons_of_mem _ hy)
    unfold sumF at ih ⊢
    rw [List.filter_cons_of_neg (by rw [h x List.mem_cons_self]; simp)]
    exact ih
theorem sumF_one (J : Int) (f : Int → Int) : ∀ N : List Int, N.Nodup → sumF N (fun x => decide (x = J)) f = if J ∈ N then f J else 0
  | [], _ => rfl
  | x :: N, nd => by
    rw [List.nodup_cons] at nd
    by_cases e : x = J
    · subst e
      have := sumF_none (p := fun y => decide (y = x)) f N fun y hy => decide_eq_false fun z => nd.1 (z ▸ hy)
      unfold sumF at this ⊢
      rw [List.filter_cons_of_pos (by simp)]
      simp only [List.map_cons, List.sum_cons]
      rw [this, if_pos List.mem_cons_self]
      omega
    · have ih := sumF_one J f N nd.2
      unfold sumF at ih ⊢
      rw [List.filter_cons_of_neg (by simpa using e), ih]
      have : ¬ J = x := fun z => e z.symm
      simp [this]
section
variable {R : List Rt} {m : List (Int × Rc)}
theorem RecOk.at (ok : RecOk R m) {r : Rt} (hr : r ∈ R) : lkG m r.j = some (rcA m r.j) ∧ r.i ≤ (rcA m r.j).ver := by
  obtain ⟨x, e, h⟩ := ok.top r hr
  have : rcA m r.j = x := by unfold rcA; rw [e]; rfl
  rw [this]; exact ⟨e, h⟩
theorem RecOk.key (ok : RecOk R m) {n : Int} : n ∈ m.map (·.1) ↔ ∃ r ∈ R, r.j = n := by
  rw [← lkG_keys]
  constructor
  · rintro ⟨x, e⟩
    obtain ⟨c, h1, h2, _⟩ := ok.of n x e
    exact ⟨c, h1, h2⟩
  · rintro ⟨r, h1, rfl⟩
    exact ⟨_, (ok.at h1).1⟩
theorem RecOk.mx (ok : RecOk R m) (nn : ∀ r ∈ R, 0 ≤ r.i) (J : Int) : mxV R J = if J ∈ m.map (·.1) then (rcA m J).ver else 0 := by
  obtain ⟨s1, s2, s3⟩ := maxL_spec ((R.filter fun r => decide (r.j = J)).map (·.i)) 0
  have e : maxL ((R.filter fun r => decide (r.j = J)).map (·.i)) 0 = mxV R J := rfl
  rw [e] at s1 s2 s3
  have s2' : ∀ r ∈ R, r.j = J → r.i ≤ mxV R J := fun r hr hj => s2 _ (List.mem_map.mpr ⟨r, List.mem_filter.mpr ⟨hr, by simpa using hj⟩, rfl⟩)
  split
  · rename_i hk
    obtain ⟨r, hr, hj⟩ := ok.key.mp hk
    obtain ⟨x, ex⟩ := lkG_keys.mpr hk
    have ea : rcA m J = x := by unfold rcA; rw [ex]; rfl
    obtain ⟨q, q1, q2, q3, _⟩ := ok.of J x ex
    have a := s2' q q1 q2
    rw [ea, ← q3]
    rcases s3 with z | z
    · have := nn q q1; omega
    · obtain ⟨p, hp, ep⟩ := List.mem_map.mp z
      obtain ⟨p1, p2⟩ := List.mem_filter.mp hp
      have p3 : p.j = J := by simpa using p2
      have := (ok.at p1).2
      rw [p3, ea, ← q3, ep] at this
      omega
  · rename_i hk
    rcases s3 with z | z
    · exact z
    · obtain ⟨p, hp, ep⟩ := List.mem_map.mp z
      obtain ⟨p1, p2⟩ := List.mem_filter.mp hp
      exact absurd (ok.key.mpr ⟨p, p1, by simpa using p2⟩) hk
theorem RecOk.sums (ok : RecOk R m) (nn : ∀ r ∈ R, 0 ≤ r.i) (b : Int) (hb : 0 ≤ b) : ∀ k : Nat, ((within m (b + 1) (some (b + k))).map fun j => (rcA m j).ver).sum + k = sN R (b.toNat + k) - sN R b.toNat
  | 0 => by
    have : within m (b + 1) (some (b + (0 : Nat))) = [] := by
      unfold within
      rw [List.filter_eq_nil_iff]
      intro x _ h
      simp [upto] at h
      omega
    rw [this]
    simp
  | k + 1 => by
    have ih := RecOk.sums ok nn b hb k
    have e1 : ((within m (b + 1) (some (b + (k + 1 : Nat)))).map fun j => (rcA m j).ver).sum = ((within m (b + 1) (some (b + k))).map fun j => (rcA m j).ver).sum + mxV R (b + k + 1) := by
      have := sumF_or (p := fun s => decide (b + 1 ≤ s) && upto (some (b + k)) s) (q := fun s => decide (s = b + k + 1)) (r := fun s => decide (b + 1 ≤ s) && upto (some (b + (k + 1 : Nat))) s) (fun j => (rcA m j).ver) (fun x => by
        rw [Bool.eq_iff_iff]; simp [upto]; omega) (fun x h => by simp [upto] at h ⊢; omega) (srI (m.map (·.1)))
      rw [sumF_one _ _ _ (srI_nd ok.nd)] at this
      unfold sumF at this
      rw [ok.mx nn]
      simp only [srI_mem] at this
      exact this
    rw [e1, show b.toNat + (k + 1) = (b.toNat + k) + 1 by omega, sN]
    have : ((b.toNat + k : Nat) : Int) + 1 = b + k + 1 := by omega
    rw [this]
    omega
theorem sum_succ (f : Int → Int) : ∀ W : List Int, (W.map fun j => f j + 1).sum = (W.map f).sum + W.length
  | [] => rfl
  | x :: W => by
    simp only [List.map_cons, List.sum_cons, List.length_cons]
    have := sum_succ f W
    omega
theorem RecOk.hid (ok : RecOk R m) (nn : ∀ r ∈ R, 0 ≤ r.i) {b n : Int} (hb : 0 ≤ b) (h : b ≤ n) (l g : Option Int) (w : Int) : hid m ⟨b + 1, some n, l, g, some w⟩ = some (w - (sN R n.toNat - sN R b.toNat)) := by
  have s := RecOk.sums ok nn b hb (n - b).toNat
  rw [show b + ((n - b).toNat : Int) = n by omega, show b.toNat + (n - b).toNat = n.toNat by omega] at s
  show some (w - (n - (b + 1) + 1 - ((within m (b + 1) (some n)).length : Int)) - ((within m (b + 1) (some n)).map fun j => (rcA m j).ver + 1).sum) = _
  rw [sum_succ (fun j => (rcA m j).ver)]
  congr 1
  omega
end
/-! the segments -/
theorem seg_stamps (A : Int → Cx) (X : Int → Int) (J : Int → Prop) (ha : ∀ n, (A n).ce ≤ (A n).fl) : ∀ (ns : List Int) (b : Int) (l : Option Int) (t : Int), ns.Pairwise (fun a c => a < c ∧ (A a).fl < (A c).ce) → (∀ n ∈ ns, b < n ∧ ∀ y, l = some y → y < (A n).ce) →
    ((∀ s ∈ segs A b l t ns, ∀ j, J j → s.fs ≤ j → upto s.la j = true → (∀ y, s.le = some y → y ≤ X j) ∧ ∀ y, s.gr = some y → X j ≤ y) ↔
      ∀ j, J j → b < j → (∀ y, l = some y → y ≤ X j) ∧ ∀ n ∈ ns, (j ≤ n → X j < (A n).ce) ∧ (n < j → (A n).fl ≤ X j))
  | [], b, l, t, _, _ => by
    constructor
    · intro h j hj lt
      exact ⟨(h _ (List.mem_singleton_self _) j hj lt rfl).1, nofun⟩
    · intro h s hs j hj h1 _
      rw [List.mem_singleton.mp hs] at h1 ⊢
      exact ⟨(h j hj h1).1, nofun⟩
  | n :: ns, b, l, t, pw, hl => by
    rw [List.pairwise_cons] at pw
    have hn := hl n List.mem_cons_self
    have ih := seg_stamps A X J ha ns n (some (A n).fl) (A n).vs pw.2 (fun k hk => ⟨(pw.1 k hk).1, fun y hy => by cases hy; exact (pw.1 k hk).2⟩)
    rw [segs]
    constructor
    · intro h j hj lt
      have h1 := h _ List.mem_cons_self j hj lt
      have h2 := ih.mp (fun s hs => h s (List.mem_cons_of_mem _ hs)) j hj
      dsimp only at h1
      by_cases c : j ≤ n
      · obtain ⟨k1, k2⟩ := h1 (by simpa [upto] using c)
        have k3 := k2 _ rfl
        refine ⟨k1, fun k hk => ?_⟩
        rcases List.mem_cons.mp hk with e | hk
        · rw [e]; exact ⟨fun _ => by omega, fun z => by omega⟩
        · have := pw.1 k hk
          have := ha n
          exact ⟨fun _ => by omega, fun z => by omega⟩
      · obtain ⟨k1, k2⟩ := h2 (by omega)
        have k3 := k1 _ rfl
        refine ⟨fun y hy => ?_, fun k hk => ?_⟩
        · have := hn.2 y hy
          have := ha n
          omega
        · rcases List.mem_cons.mp hk with e | hk
          · rw [e]; exact ⟨fun z => absurd z c, fun _ => k3⟩
          · exact k2 k hk
    · intro h s hs j hj h1 h2
      rcases List.mem_cons.mp hs with e | hs
      · subst e
        dsimp only at h1 h2 ⊢
        have c : j ≤ n := by simpa [upto] using h2
        obtain ⟨k1, k2⟩ := h j hj (by omega)
        exact ⟨k1, fun y hy => by cases hy; have := (k2 n List.mem_cons_self).1 c; omega⟩
      · refine ih.mpr (fun j hj lt => ?_) s hs j hj h1 h2
        obtain ⟨k1, k2⟩ := h j hj (by omega)
        exact ⟨fun y hy => by cases hy; exact (k2 n List.mem_cons_self).2 lt, fun k hk => k2 k (List.mem_cons_of_mem _ hk)⟩
theorem segs_ne (A : Int → Cx) (b : Int) (l : Option Int) (t : Int) (ns : List Int) : segs A b l t ns ≠ [] := fun h => by
  have := segs_len A ns b l t
  rw [h] at this; simp at this
theorem seg_hid {R : List Rt} {m : List (Int × Rc)} (ok : RecOk R m) (nn : ∀ r ∈ R, 0 ≤ r.i) (A : Int → Cx) : ∀ (ns : List Int) (b : Int) (l : Option Int) (t : Int), ns.Pairwise (· < ·) → 0 ≤ b → (∀ n ∈ ns, b < n) →
    ((∀ s ∈ (segs A b l t ns).dropLast, ∃ h, hid m s = some h ∧ 0 ≤ h) ↔ (∀ n ∈ ns, gC R b t ≤ gC R n (A n).vs) ∧ ns.Pairwise fun n k => gC R n (A n).vs ≤ gC R k (A k).vs)
  | [], b, l, t, _, _, _ => by
    constructor
    · exact fun _ => ⟨nofun, .nil⟩
    · intro _ s hs
      simp [segs] at hs
  | n :: ns, b, l, t, pw, hb, hl => by
    rw [List.pairwise_cons] at pw
    have hn := hl n List.mem_cons_self
    have ih := seg_hid ok nn A ns n (some (A n).fl) (A n).vs pw.2 (by omega) pw.1
    rw [segs, List.dropLast_cons_of_ne_nil (segs_ne A _ _ _ _), List.pairwise_cons]
    have eh := ok.hid nn hb (Int.le_of_lt hn) l (some ((A n).ce - 1)) ((A n).vs - t)
    constructor
    · intro h
      obtain ⟨x, e1, e2⟩ := h _ List.mem_cons_self
      rw [eh] at e1; cases e1
      obtain ⟨i1, i2⟩ := ih.mp fun s hs => h s (List.mem_cons_of_mem _ hs)
      have b1 : gC R b t ≤ gC R n (A n).vs := by unfold gC; omega
      refine ⟨fun k hk => ?_, i1, i2⟩
      rcases List.mem_cons.mp hk with e | hk
      · rw [e]; exact b1
      · exact Int.le_trans b1 (i1 k hk)
    · rintro ⟨h1, h2, h3⟩ s hs
      rcases List.mem_cons.mp hs with e | hs
      · subst e
        refine ⟨_, eh, ?_⟩
        have := h1 n List.mem_cons_self
        unfold gC at this
        omega
      · exact ih.mpr ⟨h2, h3⟩ s hs
/-- of a segment but the tail something is told -/
theorem segs_la (A : Int → Cx) : ∀ (ns : List Int) (b : Int) (l : Option Int) (t : Int), ∀ s ∈ segs A b l t ns, s.la = none ∨ ∃ z w, s.la = some z ∧ s.vs = some w
  | [], b, l, t, s, hs => by rw [List.mem_singleton.mp hs]; exact .inl rfl
  | n :: ns, b, l, t, s, hs => by
    rcases List.mem_cons.mp hs with e | hs
    · subst e; exact .inr ⟨_, _, rfl, rfl⟩
    · exact segs_la A ns _ _ _ s hs
theorem segs_dl (A : Int → Cx) : ∀ (ns : List Int) (b : Int) (l : Option Int) (t : Int), ∀ s ∈ (segs A b l t ns).dropLast, ∃ z w, s.la = some z ∧ s.vs = some w
  | [], b, l, t, s, hs => by simp [segs] at hs
  | n :: ns, b, l, t, s, hs => by
    rw [segs, List.dropLast_cons_of_ne_nil (segs_ne A _ _ _ _)] at hs
    rcases List.mem_cons.mp hs with e | hs
    · subst e; exact ⟨_, _, rfl, rfl⟩
    · exact segs_dl A ns _ _ _ s hs
/-- as the program looks at it -/
structure StB (m : List (Int × Rc)) (S : List Sg) : Prop where
  up : ((srI (m.map (·.1))).map fun j => (rcA m j).st).Pairwise (· ≤ ·)
  seg : ∀ s ∈ S, ∀ j ∈ within m s.fs s.la, (∀ y, s.le = some y → y ≤ (rcA m j).st) ∧ ∀ y, s.gr = some y → (rcA m j).st ≤ y
section
variable {R : List Rt} {C : List Ct} {m : List (Int × Rc)} {cm : List (Int × Cx)} {lo hi : Int}
theorem st_of (rk : RecOk R m) (rd : RdOk lo hi R) {r : Rt} (hr : r ∈ R) : (rcA m r.j).st = r.t := by
  obtain ⟨q, q1, q2, _, q4, _⟩ := rk.of _ _ (rk.at hr).1
  rw [← q4]
  exact (rd.one q q1 r hr q2).1
theorem within_iff {a : Int} {la : Option Int} {j : Int} : j ∈ within m a la ↔ j ∈ m.map (·.1) ∧ a ≤ j ∧ upto la j = true := by
  unfold within
  rw [List.mem_filter, srI_mem, Bool.and_eq_true, decide_eq_true_iff]
theorem clo_pw (ck : CloOk C cm) (cl : ClOk C) : (posK cm).Pairwise (fun a c => a < c ∧ (cxA cm a).fl < (cxA cm c).ce) := by
  have h := srI_lt ck.nd
  refine List.Pairwise.imp_of_mem (fun {a b} ha hb lt => ⟨lt, ?_⟩) (h.sublist (List.filter_sublist ..))
  obtain ⟨c, c1, c2⟩ := ck.key.mp (srI_mem.mp (List.mem_filter.mp ha).1)
  obtain ⟨d, d1, d2⟩ := ck.key.mp (srI_mem.mp (List.mem_filter.mp hb).1)
  obtain ⟨x, e1, e2, _⟩ := ck.at c1
  obtain ⟨y, f1, f2, _⟩ := ck.at d1
  rw [c2] at e1 e2
  rw [d2] at f1 f2
  obtain ⟨c', p1, p2, p3⟩ := ck.fl _ _ e1
  obtain ⟨d', q1, q2, q3⟩ := ck.ce _ _ f1
  rw [e2, f2, ← p3, ← q3]
  exact cl.lt c' p1 d' q1 (by rw [p2, q2]; exact lt)
theorem posK_mem (ck : CloOk C cm) {n : Int} : n ∈ posK cm ↔ 0 < n ∧ ∃ c ∈ C, c.n = n := by
  unfold posK
  rw [List.mem_filter, srI_mem, ck.key, decide_eq_true_iff]
  exact And.comm
theorem clo0 (ck : CloOk C cm) (cl : ClOk C) : ∀ n ∈ posK cm, (0 : Int) < n ∧ ∀ y, (lkG cm 0).map (·.fl) = some y → y < (cxA cm n).ce := by
  intro n hn
  obtain ⟨p, d, d1, d2⟩ := (posK_mem ck).mp hn
  refine ⟨p, fun y hy => ?_⟩
  obtain ⟨x, ex, rfl⟩ := Option.map_eq_some_iff.mp hy
  obtain ⟨c', p1, p2, p3⟩ := ck.fl _ _ ex
  obtain ⟨z, f1, f2, _⟩ := ck.at d1
  rw [d2] at f1 f2
  obtain ⟨d', q1, q2, q3⟩ := ck.ce _ _ f1
  rw [f2, ← p3, ← q3]
  exact cl.lt c' p1 d' q1 (by rw [p2, q2]; exact p)
theorem stB_iff (rk : RecOk R m) (rd : RdOk lo hi R) (ck : CloOk C cm) (cl : ClOk C) (pos : ∀ r ∈ R, 1 ≤ r.j) (cn : ∀ c ∈ C, 0 ≤ c.n) : StB m (segsOf cm) ↔ (∀ r ∈ R, ∀ q ∈ R, r.j < q.j → r.t ≤ q.t) ∧ ∀ r ∈ R, ∀ c ∈ C, r.t < c.t ↔ r.j ≤ c.n := by
  have ss := seg_stamps (cxA cm) (fun j => (rcA m j).st) (fun j => j ∈ m.map (·.1)) ck.le (posK cm) 0 ((lkG cm 0).map (·.fl)) 0 (clo_pw ck cl) (clo0 ck cl)
  have e1 : (∀ s ∈ segsOf cm, ∀ j ∈ within m s.fs s.la, (∀ y, s.le = some y → y ≤ (rcA m j).st) ∧ ∀ y, s.gr = some y → (rcA m j).st ≤ y) ↔ ∀ r ∈ R, ∀ c ∈ C, r.t < c.t ↔ r.j ≤ c.n := by
    have e2 : (∀ s ∈ segsOf cm, ∀ j ∈ within m s.fs s.la, (∀ y, s.le = some y → y ≤ (rcA m j).st) ∧ ∀ y, s.gr = some y → (rcA m j).st ≤ y) ↔ ∀ s ∈ segs (cxA cm) 0 ((lkG cm 0).map (·.fl)) 0 (posK cm), ∀ j, j ∈ m.map (·.1) → s.fs ≤ j → upto s.la j = true → (∀ y, s.le = some y → y ≤ (rcA m j).st) ∧ ∀ y, s.gr = some y → (rcA m j).st ≤ y := by
      constructor
      · exact fun h s hs j h1 h2 h3 => h s hs j (within_iff.mpr ⟨h1, h2, h3⟩)
      · intro h s hs j hj
        obtain ⟨h1, h2, h3⟩ := within_iff.mp hj
        exact h s hs j h1 h2 h3
    rw [e2, ss]
    constructor
    · intro h r hr c hc
      have hk := rk.key.mpr ⟨r, hr, rfl⟩
      obtain ⟨h1, h2⟩ := h r.j hk (by have := pos r hr; omega)
      rw [st_of rk rd hr] at h1 h2
      obtain ⟨x, e1, e2, e3, e4⟩ := ck.at hc
      by_cases z : c.n = 0
      · have b := h1 x.fl (by rw [← z, e1]; rfl)
        have := pos r hr
        omega
      · have hp : c.n ∈ posK cm := (posK_mem ck).mpr ⟨by have := cn c hc; omega, c, hc, rfl⟩
        obtain ⟨k1, k2⟩ := h2 c.n hp
        rw [e2] at k1 k2
        constructor
        · intro lt
          by_cases q : r.j ≤ c.n
          · exact q
          · have := k2 (by omega); omega
        · intro le
          have := k1 le; omega
    · intro h j hk _
      obtain ⟨r, hr, e⟩ := rk.key.mp hk
      subst e
      rw [st_of rk rd hr]
      refine ⟨fun y hy => ?_, fun n hn => ?_⟩
      · obtain ⟨x, ex, rfl⟩ := Option.map_eq_some_iff.mp hy
        obtain ⟨c, c1, c2, c3⟩ := ck.fl _ _ ex
        have := (h r hr c c1)
        have p := pos r hr
        rw [← c3]
        have : ¬ r.t < c.t := fun q => by have := this.mp q; omega
        omega
      · obtain ⟨p, d, d1, d2⟩ := (posK_mem ck).mp hn
        obtain ⟨x, f1, f2, _⟩ := ck.at d1
        rw [d2] at f1 f2
        obtain ⟨c', p1, p2, p3⟩ := ck.ce _ _ f1
        obtain ⟨d', q1, q2, q3⟩ := ck.fl _ _ f1
        rw [f2, ← p3, ← q3]
        have w1 := h r hr c' p1
        have w2 := h r hr d' q1
        rw [p2] at w1
        rw [q2] at w2
        exact ⟨fun le => w1.mpr le, fun lt => by
          have : ¬ r.t < d'.t := fun q => by have := w2.mp q; omega
          omega⟩
  have e3 : ((srI (m.map (·.1))).map fun j => (rcA m j).st).Pairwise (· ≤ ·) ↔ ∀ r ∈ R, ∀ q ∈ R, r.j < q.j → r.t ≤ q.t := by
    rw [List.pairwise_map]
    constructor
    · intro h r hr q hq lt
      have := pw_of_lt (R := fun a b => (rcA m a).st ≤ (rcA m b).st) _ (srI_lt rk.nd) h (srI_mem.mpr (rk.key.mpr ⟨r, hr, rfl⟩)) (srI_mem.mpr (rk.key.mpr ⟨q, hq, rfl⟩)) lt
      rwa [st_of rk rd hr, st_of rk rd hq] at this
    · intro h
      refine (srI_lt rk.nd).imp_of_mem fun {a b} ha hb lt => ?_
      obtain ⟨r, hr, rfl⟩ := rk.key.mp (srI_mem.mp ha)
      obtain ⟨q, hq, rfl⟩ := rk.key.mp (srI_mem.mp hb)
      rw [st_of rk rd hr, st_of rk rd hq]
      exact h r hr q hq lt
  constructor
  · exact fun h => ⟨e3.mp h.up, e1.mp h.seg⟩
  · exact fun h => ⟨e3.mpr h.1, e1.mpr h.2⟩
theorem hid_iff (rk : RecOk R m) (nn : ∀ r ∈ R, 0 ≤ r.i) (ck : CloOk C cm) (cl : ClOk C) : (∀ s ∈ (segsOf cm).dropLast, ∃ h, hid m s = some h ∧ 0 ≤ h) ↔ VerOk R C := by
  have sh := seg_hid rk nn (cxA cm) (posK cm) 0 ((lkG cm 0).map (·.fl)) 0 ((clo_pw ck cl).imp fun h => h.1) (Int.le_refl _) (fun n hn => ((clo0 ck cl) n hn).1)
  have g0 : gC R 0 0 = 0 := rfl
  have vs1 : ∀ c ∈ C, (cxA cm c.n).vs = c.vs := fun c hc => by
    obtain ⟨x, e1, e2, _⟩ := ck.at hc
    obtain ⟨d, d1, d2, d3⟩ := ck.vs _ _ e1
    rw [e2, ← d3]
    exact cl.vs d d1 c hc d2
  refine sh.trans ?_
  rw [g0]
  constructor
  · rintro ⟨h1, h2⟩
    refine ⟨fun c hc p => ?_, fun c hc d hd p lt => ?_⟩
    · have := h1 c.n ((posK_mem ck).mpr ⟨p, c, hc, rfl⟩)
      rwa [vs1 c hc] at this
    · have := pw_of_lt (R := fun n k => gC R n (cxA cm n).vs ≤ gC R k (cxA cm k).vs) _ ((clo_pw ck cl).imp fun h => h.1) h2 ((posK_mem ck).mpr ⟨p, c, hc, rfl⟩) ((posK_mem ck).mpr ⟨by omega, d, hd, rfl⟩) lt
      rwa [vs1 c hc, vs1 d hd] at this
  · intro h
    refine ⟨fun n hn => ?_, (clo_pw ck cl).imp_of_mem fun {a b} ha hb lt => ?_⟩
    · obtain ⟨p, c, hc, rfl⟩ := (posK_mem ck).mp hn
      rw [vs1 c hc]
      exact h.nn c hc p
    · obtain ⟨p, c, hc, rfl⟩ := (posK_mem ck).mp ha
      obtain ⟨_, d, hd, rfl⟩ := (posK_mem ck).mp hb
      rw [vs1 c hc, vs1 d hd]
      exact h.up c hc d hd p lt.1
end
end Lw
namespace Lw
open PySem PySem.Spec PyProof.Rows L2 DL
theorem cutD_dl {α : Type} (xs : List α) : cutD xs none (some (-1)) = xs.dropLast := by
  unfold DL.cutD
  rw [HT.sIx_none, List.drop_zero, List.dropLast_eq_take]
  congr 1
  show (if (-1 : Int) < 0 then ((-1 : Int) + (xs.length : Int)).toNat else min (-1 : Int).toNat xs.length) - 0 = _
  rw [if_pos (by decide)]
  omega
theorem pw_self {ns : List Int} : ns = srI ns ↔ ns.Pairwise (· ≤ ·) := ⟨fun h => h ▸ srI_pw ns, fun h => (srI_id h).symm⟩
open Classical in
theorem stamps_run (m : List (Int × Rc)) (hl : m.length ≤ 100000) (S : List Sg) : F_p_stamps_right.run [.fro (.dct false (encI rcD m)), .dat (.list (S.map sgD))] = some (.dat (.bool (decide (StB m S))), [none, none]) := by
  refine Wp.eq ?_
  unfold F_p_stamps_right
  refine fn_cut rfl rfl ?_
  have nl : (srI (m.map (·.1))).length ≤ 100000 := by rw [srI_len]; simpa using hl
  have at1 : ∀ j ∈ srI (m.map (·.1)), lkG m j = some (rcA m j) := fun j hj => by
    obtain ⟨x, e⟩ := lkG_keys.mpr (srI_mem.mp hj)
    unfold rcA; rw [e]; rfl
  have eS : List.mergeSort (m.map (·.1)) leI = srI (m.map (·.1)) := rfl
  generalize hG : some (Sv.dat (PyData.list (S.map sgD))) = G
  refine seq_cut (fun r => r = [some (.fro (.dct false (encI rcD m))), G, some (.own (.lst (((srI (m.map (·.1))).map fun j => (rcA m j).st).map .int))), none, none, none, none, none, none, none]) ?_ ?_
  · simp
    rw [eS]
    refine ⟨by omega, lc_ma (f := PyData.int) (fun j => .int (rcA m j).st) (fun j hj => ?_) ?_⟩
    · simp [at1 j hj]
      simp [rcD]
    · simp [hG]
  rintro _ rfl
  have tl : ((srI (m.map (·.1))).map fun j => (rcA m j).st).length ≤ 100000 := by simpa using nl
  have bad : ¬ ((srI (m.map (·.1))).map fun j => (rcA m j).st).Pairwise (· ≤ ·) → decide (StB m S) = false := fun hn => decide_eq_false fun h => hn h.up
  generalize hT : ((srI (m.map (·.1))).map fun j => (rcA m j).st) = T at tl bad
  refine seq_cut (fun r => T.Pairwise (· ≤ ·) ∧ ∃ a, r = [some (.fro (.dct false (encI rcD m))), G, a, none, none, none, none, none, none, none]) ?_ ?_
  · have e2 : List.mergeSort T leI = srI T := rfl
    simp
    rw [e2]
    by_cases c : T = srI T
    · have := pw_self.mp c
      have e3 : decide (T = srI T) = true := decide_eq_true c
      simp [e3]
      exact this
    · have e3 : decide (T = srI T) = false := decide_eq_false c
      simp [e3]
      exact fun h => c (pw_self.mpr (hT ▸ h.up))
  rintro _ ⟨h1, a, rfl⟩
  refine seq_cut (fun r => (∀ s ∈ S, ∀ j ∈ within m s.fs s.la, (∀ y, s.le = some y → y ≤ (rcA m j).st) ∧ ∀ y, s.gr = some y → (rcA m j).st ≤ y) ∧ ∃ a b c d e f g h i, r = [some (.fro (.dct false (encI rcD m))), a, b, c, d, e, f, g, h, i]) ?_ ?_
  · subst hG
    have step : ∀ Q, Wp (forL (gTp 5 (gsCons (gN 3) (gsCons (gN 4) (gsCons (gN 5) (gsCons (gN 6) (gsCons (gN 7) (gsNil))))))) B_p_stamps_right_2 (S.map sgD) [some (.fro (.dct false (encI rcD m))), some (.dat (.list (S.map sgD))), a, none, none, none, none, none, none, none]) Q → Wp (sFor (iSeq (eVar 1)) (gTp 5 (gsCons (gN 3) (gsCons (gN 4) (gsCons (gN 5) (gsCons (gN 6) (gsCons (gN 7) (gsNil))))))) B_p_stamps_right_2 [some (.fro (.dct false (encI rcD m))), some (.dat (.list (S.map sgD))), a, none, none, none, none, none, none, none]) Q := fun Q h => by
      simp
      exact h
    refine step _ ?_
    refine for_map (f := sgD) (fun k r => (∀ s ∈ k, ∀ j ∈ within m s.fs s.la, (∀ y, s.le = some y → y ≤ (rcA m j).st) ∧ ∀ y, s.gr = some y → (rcA m j).st ≤ y) ∧ ∃ a b c d e f g h i, r = [some (.fro (.dct false (encI rcD m))), a, b, c, d, e, f, g, h, i]) ?_ ?_ ⟨nofun, _, _, _, _, _, _, _, _, _, rfl⟩
    · rintro k s l _ e0 ⟨hk, a, b, c, d, e, f, g, h, i, rfl⟩
      have wr := within_run m hl s.fs s.la
      have wl := within_len m s.fs s.la
      have wa : ∀ j ∈ within m s.fs s.la, lkG m j = some (rcA m j) := fun j hj => (within_at hj).1
      have bad : (∃ j ∈ within m s.fs s.la, ¬ ((∀ y, s.le = some y → y ≤ (rcA m j).st) ∧ ∀ y, s.gr = some y → (rcA m j).st ≤ y)) → ¬ StB m S := fun ⟨j, hj, hn⟩ h => hn (h.seg s (by rw [e0]; simp) j hj)
      have app : (∀ j ∈ within m s.fs s.la, (∀ y, s.le = some y → y ≤ (rcA m j).st) ∧ ∀ y, s.gr = some y → (rcA m j).st ≤ y) → ∀ t ∈ k ++ [s], ∀ j ∈ within m t.fs t.la, (∀ y, t.le = some y → y ≤ (rcA m j).st) ∧ ∀ y, t.gr = some y → (rcA m j).st ≤ y := fun h t ht => by
        rcases List.mem_append.mp ht with q | q
        · exact hk t q
        · rw [List.mem_singleton.mp q]; exact h
      generalize within m s.fs s.la = W at wr wl wa bad app
      obtain ⟨fs, la, le, gr, vs⟩ := s
      dsimp only at wr bad app
      generalize hI : (fun r => (∀ t ∈ k ++ [(⟨fs, la, le, gr, vs⟩ : Sg)], ∀ j ∈ within m t.fs t.la, (∀ y, t.le = some y → y ≤ (rcA m j).st) ∧ ∀ y, t.gr = some y → (rcA m j).st ≤ y) ∧ ∃ a b c d e f g h i, r = [some (Sv.fro (.dct false (encI rcD m))), a, b, c, d, e, f, g, h, i]) = I
      simp [sgD, B_p_stamps_right_2, wr]
      refine for_map (f := PyData.int) (fun z r => (∀ j ∈ z, (∀ y, le = some y → y ≤ (rcA m j).st) ∧ ∀ y, gr = some y → (rcA m j).st ≤ y) ∧ ∃ h i, r = [some (.fro (.dct false (encI rcD m))), a, b, some (.dat (.int fs)), some (.dat (oD la)), some (.dat (oD le)), some (.dat (oD gr)), some (.dat (oD vs)), h, i]) ?_ ?_ ⟨nofun, _, _, rfl⟩
      · rintro z j y _ e1 ⟨hz, h, i, rfl⟩
        have hj : j ∈ W := by rw [e1]; simp
        have aj := wa j hj
        unfold B_p_stamps_right_1
        refine gN_cut (by simp) rfl ?_
        refine seq_cut (fun r => r = [some (.fro (.dct false (encI rcD m))), a, b, some (.dat (.int fs)), some (.dat (oD la)), some (.dat (oD le)), some (.dat (oD gr)), some (.dat (oD vs)), some (.dat (.int j)), some (.dat (.int (rcA m j).st))]) ?_ ?_
        · simp [aj]
          simp [rcD]
        rintro _ rfl
        have add : (∀ y, le = some y → y ≤ (rcA m j).st) → (∀ y, gr = some y → (rcA m j).st ≤ y) → ∀ q ∈ z ++ [j], (∀ y, le = some y → y ≤ (rcA m q).st) ∧ ∀ y, gr = some y → (rcA m q).st ≤ y := fun h1 h2 q hq => by
          rcases List.mem_append.mp hq with p | p
          · exact hz q p
          · rw [List.mem_singleton.mp p]; exact ⟨h1, h2⟩
        have bad2 : ¬ ((∀ y, le = some y → y ≤ (rcA m j).st) ∧ ∀ y, gr = some y → (rcA m j).st ≤ y) → ¬ StB m S := fun h => bad ⟨j, hj, h⟩
        generalize hx : (rcA m j).st = x at *
        have c1 : (∃ y, le = some y ∧ x < y) ∨ ∀ y, le = some y → y ≤ x := by
          cases le with
          | none => exact .inr nofun
          | some y =>
            by_cases q : x < y
            · exact .inl ⟨y, rfl, q⟩
            · exact .inr fun z hz => by cases hz; omega
        have c2 : (∃ y, gr = some y ∧ y < x) ∨ ∀ y, gr = some y → x ≤ y := by
          cases gr with
          | none => exact .inr nofun
          | some y =>
            by_cases q : y < x
            · exact .inl ⟨y, rfl, q⟩
            · exact .inr fun z hz => by cases hz; omega
        rcases c1 with ⟨y, rfl, q⟩ | c1
        · simp [oD, q]
          exact bad2 fun h => by have := h.1 y rfl; omega
        · have e1 : le = none ∨ ∃ y, le = some y ∧ ¬ x < y := by
            cases le with
            | none => exact .inl rfl
            | some y => exact .inr ⟨y, rfl, by have := c1 y rfl; omega⟩
          rcases c2 with ⟨y, rfl, q⟩ | c2
          · have : ¬ StB m S := bad2 fun h => by have := h.2 y rfl; omega
            rcases e1 with rfl | ⟨w, rfl, nq⟩
            · simp [oD, q]; exact this
            · simp [oD, q, nq]; exact this
          · have e2 : gr = none ∨ ∃ y, gr = some y ∧ ¬ y < x := by
              cases gr with
              | none => exact .inl rfl
              | some y => exact .inr ⟨y, rfl, by have := c2 y rfl; omega⟩
            have ad := add c1 c2
            rcases e1 with rfl | ⟨w, rfl, nq⟩ <;> rcases e2 with rfl | ⟨w2, rfl, nq2⟩
            · simp [oD]
            · simp [oD, nq2]; exact fun q hq => by simpa using ad q (by simpa using hq)
            · simp [oD, nq]; exact fun q hq => by simpa using ad q (by simpa using hq)
            · simp [oD, nq, nq2]; exact fun q hq => by simpa using ad q (by simpa using hq)
      · rintro _ ⟨hz, h, i, rfl⟩
        subst hI
        simp
        exact fun t ht => app hz t (by simpa using ht)
    · rintro _ ⟨hk, a, b, c, d, e, f, g, h, i, rfl⟩
      rw [kO_nx]
      exact ⟨hk, _, _, _, _, _, _, _, _, _, rfl⟩
  rintro _ ⟨h2, a, b, c, d, e, f, g, h, i, rfl⟩
  have : StB m S := ⟨by rw [hT]; exact h1, h2⟩
  simp [this]
/-- valid letters: the numbers -/
structure TsOk (nm : Str) (ts : List Lt) : Prop where
  rj : ∀ r ∈ rdsO nm ts, 1 ≤ r.j ∧ 0 ≤ r.i
  cn : ∀ c ∈ clsO nm ts, 0 ≤ c.n ∧ 0 ≤ c.vs
theorem tsOk_of {nm : Str} {ts : List Lt} (h : ∀ t ∈ ts, LtOk t) : TsOk nm ts := ⟨fun r hr => h _ (rdo_of hr), fun c hc => h _ (clo_of hc)⟩
def PossT (m : Mt) (ts : List Lt) : Prop := PossM m (rdsO m.name ts) (clsO m.name ts) (cksO m.name ts)
open Classical in
theorem meter_possible_run {len : Int} {ms : List Mt} {mt : Mt} (nd : (ms.map (·.name)).Nodup) (hm : ms.length ≤ 1000) (hmt : mt ∈ ms) (L : D) (ts : List Lt) (h : IsTs L ts) (hl : ts.length ≤ 100000) (tok : TsOk mt.name ts) : F_p_meter_possible.run [.dat (pD len ms), .dat (mD mt), .dat L] = some (.dat (.bool (decide (PossT mt ts))), [none, none, none]) := by
  refine Wp.eq ?_
  unfold F_p_meter_possible
  refine fn_cut rfl rfl ?_
  obtain ⟨cm, ck, cr⟩ := closes_run L ts h hl mt.name
  obtain ⟨rm, rk, rr⟩ := received_run L ts h hl mt.name
  obtain ⟨lo, hi, lk, lr⟩ := offsets_run (len := len) nd hm hmt L ts h
  have ra := reads_about_run L ts h hl mt.name
  have rrr := reads_right_run mt.name mt (rdsO mt.name ts) (Nat.le_trans (rdsO_len _ _) hl)
  have crr := closes_right_run L ts h hl mt.name cm ck
  have cml : cm.length ≤ 100000 := by
    have q1 : (cm.map (·.1)).length ≤ ((clsO mt.name ts).map (·.n)).length := ck.nd.length_le_of_subset fun n hn => by
      obtain ⟨c, hc, e⟩ := ck.key.mp hn
      exact List.mem_map.mpr ⟨c, hc, e⟩
    have := clsO_len mt.name ts
    simp at q1
    omega
  have rml : rm.length ≤ 100000 := by
    have q1 : (rm.map (·.1)).length ≤ ((rdsO mt.name ts).map (·.j)).length := rk.nd.length_le_of_subset fun n hn => by
      obtain ⟨c, hc, e⟩ := rk.key.mp hn
      exact List.mem_map.mpr ⟨c, hc, e⟩
    have := rdsO_len mt.name ts
    simp at q1
    omega
  have lim := limits_run cm cml
  have str := stamps_run rm rml (segsOf cm)
  generalize hP : Sv.dat (pD len ms) = plan at lr
  generalize hA : Sv.dat L = A at cr rr lr ra crr
  have fA : frz A = A := by rw [← hA]; rfl
  have tA : ∀ j ρ, thaw A j ρ = ρ := fun j ρ => by rw [← hA]; rfl
  have fP : frz plan = plan := by rw [← hP]; rfl
  have tP : ∀ j ρ, thaw plan j ρ = ρ := fun j ρ => by rw [← hP]; rfl
  refine seq_cut (fun r => r = [some plan, some (.dat (mD mt)), some A, some (.dat (.str mt.name)), none, none, none, none, none, none]) (by simp [mD]) ?_
  rintro _ rfl
  refine seq_cut (fun r => r = [some plan, some (.dat (mD mt)), some A, some (.dat (.str mt.name)), some (.own (.dct false (encI cxD cm))), none, none, none, none, none]) (by simp [fA, tA, cr]) ?_
  rintro _ rfl
  refine seq_cut (fun r => ∃ a, RdOk mt.low mt.high (rdsO mt.name ts) ∧ ClOk (clsO mt.name ts) ∧ (a = .own (.dct false (encI cxD cm)) ∨ a = .fro (.dct false (encI cxD cm))) ∧ r = [some plan, some (.dat (mD mt)), some A, some (.dat (.str mt.name)), some a, none, none, none, none, none]) ?_ ?_
  · by_cases c1 : RdOk mt.low mt.high (rdsO mt.name ts)
    · by_cases c2 : ClOk (clsO mt.name ts)
      · simp [fA, tA, ra, rrr, crr, c1, c2]
      · simp [fA, tA, ra, rrr, crr, c1, c2]
        exact fun h => c2 h.cl
    · simp [fA, tA, ra, rrr, c1]
      exact fun h => c1 h.rd
  rintro _ ⟨cd, c1, c2, hcd, rfl⟩
  refine seq_cut (fun r => r = [some plan, some (.dat (mD mt)), some A, some (.dat (.str mt.name)), some cd, none, none, some (.dat (.int lo)), some (.dat (.int hi)), none]) (by simp [fA, tA, fP, tP, lr]) ?_
  rintro _ rfl
  refine seq_cut (fun r => r = [some plan, some (.dat (mD mt)), some A, some (.dat (.str mt.name)), some cd, some (.own (.dct false (encI rcD rm))), none, some (.dat (.int lo)), some (.dat (.int hi)), none]) (by simp [fA, tA, rr]) ?_
  rintro _ rfl
  refine seq_cut (fun r => ∃ cd, r = [some plan, some (.dat (mD mt)), some A, some (.dat (.str mt.name)), some cd, some (.own (.dct false (encI rcD rm))), some (.own (.lst ((segsOf cm).map sgD))), some (.dat (.int lo)), some (.dat (.int hi)), none]) ?_ ?_
  · rcases hcd with rfl | rfl <;> simp [lim]
  rintro _ ⟨cd, rfl⟩
  have stI := stB_iff rk c1 ck c2 (fun r hr => (tok.rj r hr).1) (fun c hc => (tok.cn c hc).1)
  have hiI := hid_iff rk (fun r hr => (tok.rj r hr).2) ck c2
  have off := lk.off
  refine seq_cut (fun r => lo ≤ hi ∧ StB rm (segsOf cm) ∧ r = [some plan, some (.dat (mD mt)), some A, some (.dat (.str mt.name)), some cd, some (.fro (.dct false (encI rcD rm))), some (.dat (.list ((segsOf cm).map sgD))), some (.dat (.int lo)), some (.dat (.int hi)), none]) ?_ ?_
  · by_cases c3 : lo ≤ hi
    · have n3 : ¬ hi < lo := by omega
      by_cases c4 : StB rm (segsOf cm)
      · simp [n3, str, c4, c3]
      · simp [n3, str, c4]
        exact fun h => c4 (stI.mpr ⟨h.mono, h.sep⟩)
    · have n3 : hi < lo := by omega
      simp [n3]
      exact fun h => c3 (off.mpr h.off)
  rintro _ ⟨c3, c4, rfl⟩
  have sl : (segsOf cm).length ≤ 100001 := by
    unfold segsOf posK
    rw [segs_len]
    have := List.length_filter_le (fun n => decide (0 < n)) (srI (cm.map (·.1)))
    rw [srI_len, List.length_map] at this
    omega
  have rest : PossT mt ts ↔ ∀ s ∈ (segsOf cm).dropLast, ∃ h, hid rm s = some h ∧ 0 ≤ h := by
    rw [hiI]
    obtain ⟨k1, k2⟩ := stI.mp c4
    exact ⟨fun h => h.ver, fun h => ⟨c1, c2, off.mp c3, k1, k2, h⟩⟩
  have dlm : ∀ s ∈ (segsOf cm).dropLast, ∃ z w, s.la = some z ∧ s.vs = some w := segs_dl _ _ _ _ _
  have dll : (segsOf cm).dropLast.length ≤ 100001 := by rw [List.length_dropLast]; omega
  have cut : cutD ((segsOf cm).map sgD) none (some (-1)) = ((segsOf cm).dropLast).map sgD := by rw [cutD_dl, List.map_dropLast]
  generalize (segsOf cm).dropLast = S at rest dlm dll cut
  -- what each part gives
  have each : ∀ s ∈ S, ∃ h, hid rm s = some h ∧ F_p_hidden_in.run [.fro (.dct false (encI rcD rm)), .dat (sgD s)] = some (.dat (.int h), [none, none]) := fun s hs => by
    obtain ⟨z, w, e1, e2⟩ := dlm s hs
    have hr := hidden_run rm rml s (.inr ⟨z, w, e1, e2⟩)
    have : ∃ h, hid rm s = some h := by unfold hid; rw [e1, e2]; exact ⟨_, rfl⟩
    obtain ⟨h, eh⟩ := this
    rw [eh] at hr
    exact ⟨h, eh, hr⟩
  have fin : decide (PossT mt ts) = S.all fun s => decide (0 ≤ (hid rm s).getD 0) := by
    rw [Bool.eq_iff_iff, decide_eq_true_iff, rest, List.all_eq_true]
    constructor
    · intro h s hs
      obtain ⟨x, e, hx⟩ := h s hs
      simp [e, hx]
    · intro h s hs
      obtain ⟨x, e, _⟩ := each s hs
      have := h s hs
      rw [e] at this
      exact ⟨x, e, by simpa using this⟩
  rw [fin]
  simp [cut]
  refine ⟨by omega, lc_ma (f := sgD) (fun s => .bool (decide (0 ≤ (hid rm s).getD 0))) (fun s hs => ?_) ?_⟩
  · obtain ⟨x, e1, e2⟩ := each s hs
    simp [e1, e2]
  · simp
open Classical in
theorem is_possible_run {c len : Int} {ms : List Mt} (pok : PlanOk c len ms) (L : D) (ts : List Lt) (h : IsTs L ts) (hl : ts.length ≤ 100000) (tok : ∀ t ∈ ts, LtOk t) : F_p_is_possible.run [.dat (pD len ms), .dat L] = some (.dat (.bool (decide (∀ m ∈ ms, PossT m ts))), [none, none]) := by
  refine Wp.eq ?_
  unfold F_p_is_possible
  have many := pok.many
  have each := fun m hm => meter_possible_run (len := len) pok.nd (by omega) (mt := m) hm L ts h hl (tsOk_of tok)
  simp [pD] at each ⊢
  refine ⟨by omega, lc_ma (f := mD) (fun m => .bool (decide (PossT m ts))) (fun m hm => ?_) ?_⟩
  · simp [each m hm]
  · simp
    rw [Bool.eq_iff_iff, decide_eq_true_iff, List.all_eq_true]
    simp
end Lw
namespace Lw
open PySem PySem.Spec PyProof.Rows L2 DL
/-- the truth of a statement -/
noncomputable def dB (P : Prop) : Bool := @decide P (Classical.propDecidable P)
theorem dB_eq {P : Prop} [i : Decidable P] : decide P = dB P := by unfold dB; congr
theorem dB_t {P : Prop} (h : P) : dB P = true := by unfold dB; exact @decide_eq_true P (Classical.propDecidable P) h
theorem dB_f {P : Prop} (h : ¬ P) : dB P = false := by unfold dB; exact @decide_eq_false P (Classical.propDecidable P) h
theorem dB_iff {P Q : Prop} (h : P ↔ Q) : dB P = dB Q := by rw [propext h]
theorem dB_true {P : Prop} : dB P = true ↔ P := by
  refine ⟨fun h => ?_, dB_t⟩
  by_cases c : P
  · exact c
  · rw [dB_f c] at h; cases h
theorem outsR_none : ∀ (n i : Nat) (ρ : Ev), outsR [] i n ρ = List.replicate n none
  | 0, i, ρ => by rw [outsR_zero]; rfl
  | n + 1, i, [] => by rw [outsR, outsR_none n]; rfl
  | n + 1, i, x :: ρ => by rw [outsR, outsR_none n]; rfl
/-- a round of a loop that looks for what is wrong -/
def Chk (P : Prop) (E : Ev → Prop) (o : Out) : Prop := (P ∧ ∃ r, o = .nx r ∧ E r) ∨ (¬ P ∧ ∃ r, o = .rt (.dat (.bool false)) r)
theorem chk_t {P : Prop} {E : Ev → Prop} {r : Ev} (h : P) (e : E r) : Chk P E (.nx r) := .inl ⟨h, r, rfl, e⟩
theorem chk_f {P : Prop} {E : Ev → Prop} {r : Ev} (h : ¬ P) : Chk P E (.rt (.dat (.bool false)) r) := .inr ⟨h, r, rfl⟩
theorem for_chk {α : Type} {f : α → D} {xs : List α} {P : α → Prop} {E : Ev → Prop} {g : D → Ev → Option Ev} {a : Ev → Option Out} {ρ : Ev} {Q : Out → Prop}
    (step : ∀ x ∈ xs, ∀ r, E r → Wp (g (f x) r) fun r1 => Wp (a r1) fun o => Chk (P x) E o) (hq : (∀ x ∈ xs, P x) → ∀ r, E r → Q (.nx r)) (hb : ¬ (∀ x ∈ xs, P x) → ∀ r, Q (.rt (.dat (.bool false)) r)) (h : E ρ) : Wp (forL g a (xs.map f) ρ) Q := by
  refine for_map (fun k r => (∀ x ∈ k, P x) ∧ E r) ?_ (fun r hr => hq hr.1 r hr.2) ⟨nofun, h⟩
  rintro l x m r e ⟨h1, h2⟩
  refine (step x (by rw [e]; simp) r h2).mono fun r1 w => w.mono fun o c => ?_
  rcases c with ⟨p, r2, rfl, e2⟩ | ⟨p, r2, rfl⟩
  · rw [rO_nx]
    refine ⟨fun y hy => ?_, e2⟩
    rcases List.mem_append.mp hy with q | q
    · exact h1 y q
    · rw [List.mem_singleton.mp q]; exact p
  · rw [rO_rt]
    exact hb (fun q => p (q x (by rw [e]; simp))) r2
def goodP (r q : Rt) : Prop := (r.j = q.j → r.t = q.t ∧ (r.i = q.i → r.v = q.v)) ∧ (r.j < q.j → r.t ≤ q.t)
theorem reads_fit_run (nm : Str) (mt : Mt) (R : List Rt) : F_l_reads_fit.run [.dat (mD mt), .dat (.list (R.map (rtD nm)))] = some (.dat (.bool (dB (RdOk mt.low mt.high R ∧ ∀ r ∈ R, ∀ q ∈ R, r.j < q.j → r.t ≤ q.t))), [none, none]) := by
  have key : (RdOk mt.low mt.high R ∧ ∀ r ∈ R, ∀ q ∈ R, r.j < q.j → r.t ≤ q.t) ↔ ∀ r ∈ R, bdV mt.low mt.high r ∧ ∀ q ∈ R, goodP r q := by
    constructor
    · exact fun h r hr => ⟨⟨h.1.first r hr, h.1.inn r hr⟩, fun q hq => ⟨h.1.one r hr q hq, h.2 r hr q hq⟩⟩
    · exact fun h => ⟨⟨fun r hr => (h r hr).1.1, fun r hr => (h r hr).1.2, fun r hr q hq => ((h r hr).2 q hq).1⟩, fun r hr q hq => ((h r hr).2 q hq).2⟩
  rw [dB_iff key]
  refine Wp.eq ?_
  unfold F_l_reads_fit
  refine fn_cut rfl rfl ?_
  generalize hA : Sv.dat (PyData.list (R.map (rtD nm))) = A
  refine seq_cut (fun r => (∀ r ∈ R, bdV mt.low mt.high r ∧ ∀ q ∈ R, goodP r q) ∧ ∃ x y, r = [some (.dat (mD mt)), some A, x, y]) ?_ ?_
  · have step : ∀ {t B x y} Q, Wp (forL t B (R.map (rtD nm)) [some (.dat (mD mt)), some A, x, y]) Q → Wp (sFor (iSeq (eVar 1)) t B [some (.dat (mD mt)), some A, x, y]) Q := fun Q h => by
      subst hA
      simp
      exact h
    refine step _ ?_
    refine for_chk (P := fun r => bdV mt.low mt.high r ∧ ∀ q ∈ R, goodP r q) (E := fun r => ∃ x y, r = [some (.dat (mD mt)), some A, x, y]) ?_ ?_ ?_ ⟨_, _, rfl⟩
    · rintro r hr _ ⟨x, y, rfl⟩
      refine gN_cut (by simp) rfl ?_
      unfold B_l_reads_fit_2
      refine seq_cut (fun ρ => (r.v = none → r.i ≠ 0) ∧ ρ = [some (.dat (mD mt)), some A, some (.dat (rtD nm r)), y]) ?_ ?_
      · cases ev : r.v with
        | none =>
          simp [rtD, ltD, ev, oD]
          by_cases c : r.i = 0
          · simp [c, rtD, ltD, mD, ev, oD]
            exact chk_f fun h => h.1.1 ev c
          · simp [c, rtD, ltD, mD, ev, oD]
        | some z => simp [rtD, ltD, ev, oD]
      rintro _ ⟨b1, rfl⟩
      refine seq_cut (fun ρ => bdV mt.low mt.high r ∧ ρ = [some (.dat (mD mt)), some A, some (.dat (rtD nm r)), y]) ?_ ?_
      · cases ev : r.v with
        | none =>
          simp [rtD, ltD, ev, oD]
          exact ⟨b1, fun z hz => by rw [ev] at hz; cases hz⟩
        | some z =>
          simp [rtD, ltD, ev, oD, mD]
          by_cases c : z < mt.low
          · simp [c, rtD, ltD, mD, ev, oD]
            exact chk_f fun h => by have := (h.1.2 z ev).1; omega
          · by_cases c2 : mt.high < z
            · simp [c, c2, rtD, ltD, mD, ev, oD]
              exact chk_f fun h => by have := (h.1.2 z ev).2; omega
            · simp [c, c2, rtD, ltD, mD, ev, oD]
              exact ⟨b1, fun w hw => by rw [ev] at hw; cases hw; omega⟩
      rintro _ ⟨b2, rfl⟩
      refine step _ ?_
      refine for_chk (P := goodP r) (E := fun ρ => ∃ y, ρ = [some (.dat (mD mt)), some A, some (.dat (rtD nm r)), y]) ?_ ?_ ?_ ⟨_, rfl⟩
      · rintro q hq _ ⟨y, rfl⟩
        refine gN_cut (by simp) rfl ?_
        unfold B_l_reads_fit_1
        refine seq_cut (fun ρ => (r.j = q.j → r.t = q.t ∧ (r.i = q.i → r.v = q.v)) ∧ ρ = [some (.dat (mD mt)), some A, some (.dat (rtD nm r)), some (.dat (rtD nm q))]) ?_ ?_
        · simp [rtD, ltD]
          by_cases c1 : r.j = q.j
          · by_cases c2 : r.t = q.t
            · by_cases c3 : r.i = q.i
              · by_cases c4 : r.v = q.v
                · simp [c1, c2, c3, c4, rtD, ltD]
                · simp [c1, c2, c3, c4, rtD, ltD]
                  exact chk_f fun h => c4 ((h.1 c1).2 c3)
              · simp [c1, c2, c3, rtD, ltD]
            · simp [c1, c2, rtD, ltD]
              exact chk_f fun h => c2 (h.1 c1).1
          · simp [c1, rtD, ltD]
        rintro _ ⟨g1, rfl⟩
        simp [rtD, ltD]
        by_cases c1 : r.j < q.j
        · by_cases c2 : q.t < r.t
          · simp [c1, c2, rtD, ltD]
            exact chk_f fun h => by have := h.2 c1; omega
          · simp [c1, c2, rtD, ltD]
            exact chk_t ⟨g1, fun _ => by omega⟩ ⟨some (.dat (rtD nm q)), by simp [rtD, ltD]⟩
        · simp [c1, rtD, ltD]
          exact chk_t ⟨g1, fun h => absurd h c1⟩ ⟨some (.dat (rtD nm q)), by simp [rtD, ltD]⟩
      · rintro h _ ⟨y, rfl⟩
        exact chk_t ⟨b2, h⟩ ⟨_, _, rfl⟩
      · intro h ρ
        exact chk_f fun k => h k.2
    · rintro h _ ⟨x, y, rfl⟩
      rw [kO_nx]
      exact ⟨h, _, _, rfl⟩
    · intro h ρ
      rw [kO_rt]
      simp [dB_f h, outsR_none]
  rintro _ ⟨h, x, y, rfl⟩
  have e := dB_t h
  simp [e]
end Lw
namespace Lw
open PySem PySem.Spec PyProof.Rows L2 DL
def goodC (c d : Ct) : Prop := (c.n = d.n → c.vs = d.vs) ∧ (c.n < d.n → c.t < d.t)
theorem closes_fit_run (nm : Str) (R : List Rt) (C : List Ct) : F_l_closes_fit.run [.dat (.list (R.map (rtD nm))), .dat (.list (C.map (ctD nm)))] = some (.dat (.bool (dB (ClOk C ∧ ∀ r ∈ R, ∀ c ∈ C, r.t < c.t ↔ r.j ≤ c.n))), [none, none]) := by
  have key : (ClOk C ∧ ∀ r ∈ R, ∀ c ∈ C, r.t < c.t ↔ r.j ≤ c.n) ↔ ∀ c ∈ C, (c.n = 0 → c.vs = 0) ∧ (∀ d ∈ C, goodC c d) ∧ ∀ r ∈ R, r.t < c.t ↔ r.j ≤ c.n := by
    constructor
    · exact fun h c hc => ⟨h.1.zero c hc, fun d hd => ⟨h.1.vs c hc d hd, h.1.lt c hc d hd⟩, fun r hr => h.2 r hr c hc⟩
    · exact fun h => ⟨⟨fun c hc d hd => ((h c hc).2.1 d hd).1, fun c hc => (h c hc).1, fun c hc d hd => ((h c hc).2.1 d hd).2⟩, fun r hr c hc => (h c hc).2.2 r hr⟩
  rw [dB_iff key]
  refine Wp.eq ?_
  unfold F_l_closes_fit
  refine fn_cut rfl rfl ?_
  generalize hA : Sv.dat (PyData.list (R.map (rtD nm))) = A
  generalize hB : Sv.dat (PyData.list (C.map (ctD nm))) = B
  have stepC : ∀ {t b x y z} Q, Wp (forL t b (C.map (ctD nm)) [some A, some B, x, y, z]) Q → Wp (sFor (iSeq (eVar 1)) t b [some A, some B, x, y, z]) Q := fun Q h => by
    subst hB
    simp
    exact h
  have stepR : ∀ {t b x y z} Q, Wp (forL t b (R.map (rtD nm)) [some A, some B, x, y, z]) Q → Wp (sFor (iSeq (eVar 0)) t b [some A, some B, x, y, z]) Q := fun Q h => by
    subst hA
    simp
    exact h
  refine seq_cut (fun r => (∀ c ∈ C, (c.n = 0 → c.vs = 0) ∧ (∀ d ∈ C, goodC c d) ∧ ∀ r ∈ R, r.t < c.t ↔ r.j ≤ c.n) ∧ ∃ x y z, r = [some A, some B, x, y, z]) ?_ ?_
  · refine stepC _ ?_
    refine for_chk (P := fun c => (c.n = 0 → c.vs = 0) ∧ (∀ d ∈ C, goodC c d) ∧ ∀ r ∈ R, r.t < c.t ↔ r.j ≤ c.n) (E := fun r => ∃ x y z, r = [some A, some B, x, y, z]) ?_ ?_ ?_ ⟨_, _, _, rfl⟩
    · rintro c hc _ ⟨x, y, z, rfl⟩
      refine gN_cut (by simp) rfl ?_
      unfold B_l_closes_fit_3
      refine seq_cut (fun ρ => (c.n = 0 → c.vs = 0) ∧ ρ = [some A, some B, some (.dat (ctD nm c)), y, z]) ?_ ?_
      · simp [ctD, ltD]
        by_cases c1 : c.n = 0
        · by_cases c2 : c.vs = 0
          · simp [c1, c2, ctD, ltD]
          · simp [c1, c2, ctD, ltD]
            exact chk_f (fun h => h)
        · simp [c1, ctD, ltD]
      rintro _ ⟨b1, rfl⟩
      refine seq_cut (fun ρ => (∀ d ∈ C, goodC c d) ∧ ∃ y, ρ = [some A, some B, some (.dat (ctD nm c)), y, z]) ?_ ?_
      · refine stepC _ ?_
        refine for_chk (P := goodC c) (E := fun ρ => ∃ y, ρ = [some A, some B, some (.dat (ctD nm c)), y, z]) ?_ ?_ ?_ ⟨_, rfl⟩
        · rintro d hd _ ⟨y, rfl⟩
          refine gN_cut (by simp) rfl ?_
          have nx : goodC c d → Chk (goodC c d) (fun ρ => ∃ y, ρ = [some A, some B, some (.dat (ctD nm c)), y, z]) (.nx [some A, some B, some (.dat (ctD nm c)), some (.dat (ctD nm d)), z]) := fun h => chk_t h ⟨_, rfl⟩
          simp [ctD, ltD] at nx
          unfold B_l_closes_fit_1
          simp [ctD, ltD]
          by_cases c1 : c.n = d.n
          · by_cases c2 : c.vs = d.vs
            · have c3 : ¬ c.n < d.n := by omega
              simp [c1, c2, c3, ctD, ltD]
              simp [c1, c2] at nx
              exact nx ⟨fun _ => c2, fun h => absurd h c3⟩
            · simp [c1, c2, ctD, ltD]
              exact chk_f fun h => c2 (h.1 c1)
          · by_cases c2 : c.n < d.n
            · by_cases c3 : d.t ≤ c.t
              · simp [c1, c2, c3, ctD, ltD]
                exact chk_f fun h => by have := h.2 c2; omega
              · simp [c1, c2, c3, ctD, ltD]
                exact nx ⟨fun h => absurd h c1, fun _ => by omega⟩
            · simp [c1, c2, ctD, ltD]
              exact nx ⟨fun h => absurd h c1, fun h => absurd h c2⟩
        · rintro h _ ⟨y, rfl⟩
          rw [kO_nx]
          exact ⟨h, _, rfl⟩
        · intro h ρ
          rw [kO_rt]
          exact chk_f fun k => h k.2.1
      rintro _ ⟨b2, y, rfl⟩
      refine stepR _ ?_
      refine for_chk (P := fun r => r.t < c.t ↔ r.j ≤ c.n) (E := fun ρ => ∃ z, ρ = [some A, some B, some (.dat (ctD nm c)), y, z]) ?_ ?_ ?_ ⟨_, rfl⟩
      · rintro r hr _ ⟨z, rfl⟩
        refine gN_cut (by simp) rfl ?_
        have nx : (r.t < c.t ↔ r.j ≤ c.n) → Chk (r.t < c.t ↔ r.j ≤ c.n) (fun ρ => ∃ z, ρ = [some A, some B, some (.dat (ctD nm c)), y, z]) (.nx [some A, some B, some (.dat (ctD nm c)), y, some (.dat (rtD nm r))]) := fun h => chk_t h ⟨_, rfl⟩
        simp only [ctD, ltD, rtD] at nx
        unfold B_l_closes_fit_2
        simp only [ctD, ltD, rtD]
        generalize hP : (r.t < c.t ↔ r.j ≤ c.n) = P at nx
        by_cases c1 : r.t < c.t
        · by_cases c2 : r.j ≤ c.n
          · simp [c1, c2]
            exact nx (hP ▸ by simp [c1, c2])
          · simp [c1, c2]
            exact chk_f (hP ▸ by simp [c1, c2])
        · by_cases c2 : r.j ≤ c.n
          · simp [c1, c2]
            exact chk_f (hP ▸ by simp [c1, c2])
          · simp [c1, c2]
            exact nx (hP ▸ by simp [c1, c2])
      · rintro h _ ⟨z, rfl⟩
        exact chk_t ⟨b1, b2, h⟩ ⟨_, _, _, rfl⟩
      · intro h ρ
        exact chk_f fun k => h k.2.2
    · rintro h _ ⟨x, y, z, rfl⟩
      rw [kO_nx]
      exact ⟨h, _, _, _, rfl⟩
    · intro h ρ
      rw [kO_rt]
      simp [dB_f h, outsR_none]
  rintro _ ⟨h, x, y, z, rfl⟩
  have e := dB_t h
  simp [e]
end Lw
namespace Lw
open PySem PySem.Spec PyProof.Rows L2 DL
/-- what is told, as pairs -/
def toldC (C : List Ct) : List (Int × Int) := srtP ((0, 0) :: C.map fun c => (c.n, c.vs))
def gP (R : List Rt) (p : Int × Int) : Int := gC R p.1 p.2
def tAt {α : Type} (d : α) (T : List α) (i : Nat) : α := T.getD i d
theorem chain_idx {α : Type} {S : α → α → Prop} (d : α) (tr : ∀ a b c, S a b → S b c → S a c) (T : List α) : (∀ i, i + 1 < T.length → S (tAt d T i) (tAt d T (i + 1))) ↔ T.Pairwise S := by
  have g : ∀ i, (h : i < T.length) → tAt d T i = T[i] := fun i h => by simp [tAt, List.getD, h]
  rw [List.pairwise_iff_getElem]
  constructor
  · intro h i j hi hj lt
    have gen : ∀ k, i + k + 1 < T.length → S (tAt d T i) (tAt d T (i + k + 1)) := by
      intro k
      induction k with
      | zero => intro hk; exact h i hk
      | succ k ih => intro hk; exact tr _ _ _ (ih (by omega)) (h (i + k + 1) hk)
    have := gen (j - i - 1) (by omega)
    rw [show i + (j - i - 1) + 1 = j by omega, g i hi, g j hj] at this
    exact this
  · intro h i hi
    rw [g i (by omega), g (i + 1) hi]
    exact h i (i + 1) (by omega) hi (by omega)
theorem pwP_of {S : Int × Int → Int × Int → Prop} {p q : Int × Int} : ∀ (T : List (Int × Int)), T.Pairwise (fun a b => lexL a b = true) → T.Pairwise S → p ∈ T → q ∈ T → p.1 < q.1 → S p q
  | x :: l, h1, h2, ha, hb, lt => by
    rw [List.pairwise_cons] at h1 h2
    rcases List.mem_cons.mp ha with ea | ha'
    · rcases List.mem_cons.mp hb with eb | hb'
      · rw [ea, eb] at lt; omega
      · rw [ea]; exact h2.1 q hb'
    · rcases List.mem_cons.mp hb with eb | hb'
      · have := h1.1 p ha'
        rw [← eb] at this
        unfold lexL at this
        simp at this
        omega
      · exact pwP_of l h1.2 h2.2 ha' hb' lt
theorem told_mem {C : List Ct} {p : Int × Int} : p ∈ toldC C ↔ p = (0, 0) ∨ ∃ c ∈ C, p = (c.n, c.vs) := by
  unfold toldC
  rw [srtP_mem, List.mem_cons, List.mem_map]
  exact or_congr Iff.rfl ⟨fun ⟨c, h, e⟩ => ⟨c, h, e.symm⟩, fun ⟨c, h, e⟩ => ⟨c, h, e.symm⟩⟩
theorem told_iff {R : List Rt} {C : List Ct} (cl : ClOk C) (cn : ∀ c ∈ C, 0 ≤ c.n) : (toldC C).Pairwise (fun p q => gP R p ≤ gP R q) ↔ VerOk R C := by
  have pw := srtP_pw ((0, 0) :: C.map fun c => (c.n, c.vs))
  have nd := srtP_nd ((0, 0) :: C.map fun c => (c.n, c.vs))
  have g0 : gP R (0, 0) = 0 := rfl
  have gm : ∀ c ∈ C, gP R (c.n, c.vs) = gC R c.n c.vs := fun _ _ => rfl
  constructor
  · intro h
    refine ⟨fun c hc p => ?_, fun c hc d hd p lt => ?_⟩
    · exact pwP_of (S := fun p q => gP R p ≤ gP R q) _ pw h (told_mem.mpr (.inl rfl)) (told_mem.mpr (.inr ⟨c, hc, rfl⟩)) p
    · exact pwP_of (S := fun p q => gP R p ≤ gP R q) _ pw h (told_mem.mpr (.inr ⟨c, hc, rfl⟩)) (told_mem.mpr (.inr ⟨d, hd, rfl⟩)) lt
  · intro h
    refine (List.Pairwise.and pw nd).imp_of_mem fun {p q} hp hq ⟨le, ne⟩ => ?_
    have one : ∀ a ∈ toldC C, a.1 = 0 → a = (0, 0) := fun a ha e => by
      rcases told_mem.mp ha with z | ⟨c, hc, z⟩
      · exact z
      · rw [z] at e ⊢
        have e' : c.n = 0 := e
        rw [e', cl.zero c hc e']
    have lt : p.1 < q.1 := by
      unfold lexL at le
      simp at le
      rcases le with z | z
      · exact z
      · exfalso
        apply ne
        rcases told_mem.mp hp with z1 | ⟨c, hc, z1⟩
        · rw [z1]; exact (one q hq (by rw [← z.1, z1])).symm
        · rcases told_mem.mp hq with z2 | ⟨d, hd, z2⟩
          · rw [z2]; exact one p hp (by rw [z.1, z2])
          · rw [z1, z2] at z ⊢
            have e1 : c.n = d.n := z.1
            rw [e1, cl.vs c hc d hd e1]
    rcases told_mem.mp hq with z2 | ⟨d, hd, z2⟩
    · rw [z2] at lt
      rcases told_mem.mp hp with z1 | ⟨c, hc, z1⟩
      · rw [z1] at lt; simp at lt
      · rw [z1] at lt; have := cn c hc; simp at lt; omega
    · rw [z2] at lt ⊢
      rcases told_mem.mp hp with z1 | ⟨c, hc, z1⟩
      · rw [z1] at lt ⊢
        exact h.nn d hd lt
      · rw [z1] at lt ⊢
        by_cases e : c.n = 0
        · have := one _ (told_mem.mpr (.inr ⟨c, hc, rfl⟩)) e
          rw [this]
          exact h.nn d hd (by have : c.n < d.n := lt; omega)
        · exact h.up c hc d hd (by have := cn c hc; omega) lt
/-- few of them, none too great -/
structure CFew (C : List Ct) : Prop where
  few : C.length < 63
  big : ∀ c ∈ C, 0 ≤ c.n ∧ c.n ≤ 100000 ∧ 0 ≤ c.vs
theorem maxL_cons (xs : List Int) (a : Int) : ∀ r, (match (0 :: xs : List Int) with | [] => none | m :: ys => some (maxL ys m)) = some r → r = maxL xs 0 := fun r h => by cases h; rfl
theorem intsD_c (a : Int) (l : List D) : intsD (.int a :: l) = (intsD l).map (a :: ·) := rfl
theorem versions_fit_run (nm : Str) (R : List Rt) (C : List Ct) (hl : R.length ≤ 100000) (cl : ClOk C) (few : CFew C) : F_l_versions_fit.run [.dat (.list (R.map (rtD nm))), .dat (.list (C.map (ctD nm)))] = some (.dat (.bool (dB (VerOk R C))), [none, none]) := by
  rw [← dB_iff (told_iff cl fun c hc => (few.big c hc).1), ← dB_iff (chain_idx (S := fun p q => gP R p ≤ gP R q) (0, 0) (fun a b c h1 h2 => Int.le_trans h1 h2) (toldC C))]
  refine Wp.eq ?_
  unfold F_l_versions_fit
  refine fn_cut rfl rfl ?_
  generalize hA : Sv.dat (PyData.list (R.map (rtD nm))) = A
  generalize hB : Sv.dat (PyData.list (C.map (ctD nm))) = B
  have fw := few.few
  refine seq_cut (fun r => r = [some A, some B, some (.own (.lst (((0, 0) :: C.map fun c => (c.n, c.vs)).map DL.prD))), none, none, none, none, none]) ?_ ?_
  · subst hB
    simp
    refine ⟨by omega, lc_ma (f := ctD nm) (fun c => DL.prD (c.n, c.vs)) (fun c _ => by simp [ctD, ltD, DL.prD]) ?_⟩
    simp [DL.prD, Function.comp_def, hA]
    omega
  rintro _ rfl
  have run := opSetT_run ((0, 0) :: C.map fun c => (c.n, c.vs)) (by simp; omega) (fun p hp => by
    rcases List.mem_cons.mp hp with e | hp
    · rw [e]; simp
    · obtain ⟨c, hc, e⟩ := List.mem_map.mp hp
      rw [← e]; have := few.big c hc; exact ⟨this.1, this.2.2⟩)
  have run2 : opSetT (.own (.lst (((0, 0) :: C.map fun c => (c.n, c.vs)).map DL.prD))) = some (.own (.lst ((toldC C).map DL.prD))) := by
    rw [show toldC C = srtP ((0, 0) :: C.map fun c => (c.n, c.vs)) from rfl, ← run]; rfl
  refine seq_cut (fun r => r = [some A, some B, some (.own (.lst ((toldC C).map DL.prD))), none, none, none, none, none]) ?_ ?_
  · generalize hU : ((0, 0) :: C.map fun c => (c.n, c.vs)).map DL.prD = U at run2
    simp [run2]
  rintro _ rfl
  have big : ∀ p ∈ toldC C, 0 ≤ p.1 ∧ p.1 ≤ 100000 := fun p hp => by
    rcases told_mem.mp hp with e | ⟨c, hc, e⟩
    · rw [e]; simp
    · rw [e]; have := few.big c hc; exact ⟨this.1, this.2.1⟩
  have pwl : (toldC C).Pairwise fun a b => lexL a b = true := srtP_pw _
  have ne : 0 < (toldC C).length := List.length_pos_of_mem (told_mem.mpr (.inl rfl) : ((0 : Int), (0 : Int)) ∈ toldC C)
  have sm : (toldC C).length ≤ 64 := by
    have := (srtP_nd ((0, 0) :: C.map fun c => (c.n, c.vs))).length_le_of_subset (fun p hp => srtP_mem.mp hp)
    simp at this
    show (srtP _).length ≤ 64
    omega
  have gD : ∀ i, (h : i < (toldC C).length) → tAt (0, 0) (toldC C) i = (toldC C)[i] := fun i h => by simp [tAt, List.getD, h]
  have up : ∀ i, i + 1 < (toldC C).length → (tAt (0, 0) (toldC C) i).1 ≤ (tAt (0, 0) (toldC C) (i + 1)).1 := fun i h => by
    have := List.pairwise_iff_getElem.mp pwl i (i + 1) (by omega) h (Nat.lt_succ_self i)
    unfold lexL at this
    simp at this
    rw [gD i (by omega), gD (i + 1) h]
    omega
  have big2 : ∀ i, i < (toldC C).length → 0 ≤ (tAt (0, 0) (toldC C) i).1 ∧ (tAt (0, 0) (toldC C) i).1 ≤ 100000 := fun i h => by
    rw [gD i h]
    exact big _ (List.getElem_mem h)
  have atD : ∀ i : Nat, i < (toldC C).length → atI ((toldC C).map DL.prD) (i : Int) = some (DL.prD (tAt (0, 0) (toldC C) i)) := fun i h => by
    unfold atI
    rw [ixN_pos (by omega) (by simp; omega), Option.bind_some, gD i h]
    simp [h]
  clear gD pwl big run run2
  generalize toldC C = T at *
  refine seq_cut (fun r => (∀ i, i + 1 < T.length → gP R (tAt (0, 0) T i) ≤ gP R (tAt (0, 0) T (i + 1))) ∧ ∃ a b c d e f, r = [some A, some B, a, b, c, d, e, f]) ?_ ?_
  · simp
    refine ⟨by omega, ?_⟩
    refine for_int (fun i r => (∀ j, j + 1 < T.length → j < i → gP R (tAt (0, 0) T j) ≤ gP R (tAt (0, 0) T (j + 1))) ∧ ∃ b c d e f, r = [some A, some B, some (.own (.lst (T.map DL.prD))), b, c, d, e, f]) ?_ ?_ ⟨(fun j h lt => by omega), _, _, _, _, _, rfl⟩
    · rintro i _ hi ⟨hj, b, c, d, e, f, rfl⟩
      refine gN_cut (by simp) rfl ?_
      rw [show (0 : Int) + (i : Int) = (i : Int) by omega]
      have h1 : i + 1 < T.length := by omega
      have u := up i h1
      have b1 := big2 i (by omega)
      have b2 := big2 (i + 1) h1
      have a1 := atD i (by omega)
      have a2 := atD (i + 1) h1
      rw [show ((i + 1 : Nat) : Int) = (i : Int) + 1 by omega] at a2
      have next : gP R (tAt (0, 0) T i) ≤ gP R (tAt (0, 0) T (i + 1)) → ∀ j, j + 1 < T.length → j < i + 1 → gP R (tAt (0, 0) T j) ≤ gP R (tAt (0, 0) T (j + 1)) := fun h j hj1 lt => by
        by_cases e : j = i
        · subst e; exact h
        · exact hj j hj1 (by omega)
      have bad : ¬ gP R (tAt (0, 0) T i) ≤ gP R (tAt (0, 0) T (i + 1)) → ¬ ∀ i, i + 1 < T.length → gP R (tAt (0, 0) T i) ≤ gP R (tAt (0, 0) T (i + 1)) := fun h k => h (k i h1)
      generalize tAt (0, 0) T i = p at *
      generalize tAt (0, 0) T (i + 1) = q at *
      unfold B_l_versions_fit_2
      refine seq_cut (fun r => r = [some A, some B, some (.own (.lst (T.map DL.prD))), some (.dat (.int (i : Int))), some (.dat (.int 0)), d, e, f]) (by simp) ?_
      rintro _ rfl
      refine seq_cut (fun r => ∃ d f, r = [some A, some B, some (.own (.lst (T.map DL.prD))), some (.dat (.int (i : Int))), some (.dat (.int (sN R q.1.toNat - sN R p.1.toNat))), d, e, f]) ?_ ?_
      · simp [a1, a2]
        simp [DL.prD, a1, a2]
        refine ⟨by omega, ?_⟩
        rw [show (q.1 + 1 - (p.1 + 1)).toNat = q.1.toNat - p.1.toNat by omega]
        refine for_int (fun k r => ∃ d f, r = [some A, some B, some (.own (.lst (T.map DL.prD))), some (.dat (.int (i : Int))), some (.dat (.int (sN R (p.1.toNat + k) - sN R p.1.toNat))), d, e, f]) ?_ ?_ ?_
        · rintro k _ hk ⟨d, f, rfl⟩
          refine gN_cut (by simp) rfl ?_
          have mx : ∀ z, z = maxL ((R.filter fun r => decide (r.j = p.1 + 1 + k)).map (·.i)) 0 → z = mxV R (p.1 + 1 + k) := fun z h => h
          have hs : sN R (p.1.toNat + (k + 1)) = sN R (p.1.toNat + k) + (1 + mxV R (p.1 + 1 + k)) := by
            rw [show p.1.toNat + (k + 1) = (p.1.toNat + k) + 1 by omega, sN]
            congr 3
            omega
          subst hA
          simp [B_l_versions_fit_1]
          refine ⟨by omega, lc_fa (f := rtD nm) (fun r => decide (r.j = p.1 + 1 + k)) (fun r => .int r.i) (fun r _ => ?_) ?_⟩
          · by_cases c : r.j = p.1 + 1 + k <;> simp [rtD, ltD, c]
          · have fl : (R.filter fun r => decide (r.j = p.1 + 1 + k)).length ≤ 100000 := Nat.le_trans (List.length_filter_le ..) hl
            have hs2 : sN R (p.1.toNat + k) - sN R p.1.toNat + maxL ((R.filter fun r => decide (r.j = p.1 + 1 + k)).map (·.i)) 0 + 1 = sN R (p.1.toNat + (k + 1)) - sN R p.1.toNat := by
              have : mxV R (p.1 + 1 + k) = maxL ((R.filter fun r => decide (r.j = p.1 + 1 + k)).map (·.i)) 0 := rfl
              rw [hs, this]; omega
            simp [intsD_c, intsD_mf]
            exact ⟨by omega, hs2⟩
        · rintro _ ⟨d, f, rfl⟩
          have : p.1.toNat + (q.1.toNat - p.1.toNat) = q.1.toNat := by omega
          simp [this]
        · exact ⟨d, f, by simp⟩
      rintro _ ⟨d, f, rfl⟩
      simp [a1, a2]
      simp [DL.prD, a1, a2]
      have gi : gP R p ≤ gP R q ↔ ¬ q.2 - p.2 < sN R q.1.toNat - sN R p.1.toNat := by unfold gP gC; omega
      by_cases c : q.2 - p.2 < sN R q.1.toNat - sN R p.1.toNat
      · simp [c]
        exact dB_f (bad fun h => gi.mp h c)
      · simp [c]
        exact next (gi.mpr c)
    · rintro _ ⟨hj, b, c, d, e, f, rfl⟩
      simp
      exact fun j h => hj j h (by omega)
  rintro _ ⟨h, a, b, c, d, e, f, rfl⟩
  have e0 := dB_t h
  simp [e0]
/-- what the law decides of the letters about a meter -/
structure LFew (ts : List Lt) : Prop where
  len : ts.length ≤ 100000
  ok : ∀ t ∈ ts, LtOk t
  few : ∀ nm, CFew (clsO nm ts)
theorem low_law (err : Int) (K : List (Int × Int)) : LowOk err K (maxL (K.map (·.1)) (-err)) (minL (K.map (·.2)) err) := by
  obtain ⟨a1, a2, a3⟩ := maxL_spec (K.map (·.1)) (-err)
  obtain ⟨b1, b2, b3⟩ := minL_spec (K.map (·.2)) err
  refine ⟨a1, b1, fun c hc => a2 _ (List.mem_map.mpr ⟨c, hc, rfl⟩), fun c hc => b2 _ (List.mem_map.mpr ⟨c, hc, rfl⟩), a3.imp id fun h => ?_, b3.imp id fun h => ?_⟩
  · obtain ⟨c, hc, e⟩ := List.mem_map.mp h
    exact ⟨c, hc, e.symm⟩
  · obtain ⟨c, hc, e⟩ := List.mem_map.mp h
    exact ⟨c, hc, e.symm⟩
theorem lmeter_run (mt : Mt) (ts : List Lt) (h : LFew ts) : F_l_meter_possible.run [.dat (mD mt), .dat (.list (ts.map ltD))] = some (.dat (.bool (dB (PossT mt ts))), [none, none]) := by
  refine Wp.eq ?_
  unfold F_l_meter_possible
  refine fn_cut rfl rfl ?_
  have hl := h.len
  have r1 := rdsO_len mt.name ts
  have r2 := clsO_len mt.name ts
  have r3 := cksO_len mt.name ts
  have fw := h.few mt.name
  generalize hA : Sv.dat (PyData.list (ts.map ltD)) = A
  refine seq_cut (fun r => r = [some (.dat (mD mt)), some A, some (.own (.lst ((rdsO mt.name ts).map (rtD mt.name)))), none, none, none, none, none]) ?_ ?_
  · subst hA
    simp
    refine ⟨by omega, lc_fa (f := ltD) (fun t => (rdO mt.name t).isSome) ltD (fun t _ => ?_) ?_⟩
    · cases t with
      | read a j i t v => by_cases e : a = mt.name <;> simp [ltD, rdO, e, mD]
      | close a n t vs => simp [ltD, rdO]
      | clock a lo hi => simp [ltD, rdO]
    · rw [rds_map]; simp
  rintro _ rfl
  refine seq_cut (fun r => r = [some (.dat (mD mt)), some A, some (.own (.lst ((rdsO mt.name ts).map (rtD mt.name)))), some (.own (.lst ((clsO mt.name ts).map (ctD mt.name)))), none, none, none, none]) ?_ ?_
  · subst hA
    simp
    refine ⟨by omega, lc_fa (f := ltD) (fun t => (clO mt.name t).isSome) ltD (fun t _ => ?_) ?_⟩
    · cases t with
      | close a n t vs => by_cases e : a = mt.name <;> simp [ltD, clO, e, mD]
      | read a j i t v => simp [ltD, clO]
      | clock a lo hi => simp [ltD, clO]
    · rw [cls_map]; simp
  rintro _ rfl
  refine seq_cut (fun r => ∃ L, (L = .own (.lst ((cksO mt.name ts).map (ckD mt.name))) ∨ L = .dat (.list ((cksO mt.name ts).map (ckD mt.name)))) ∧ r = [some (.dat (mD mt)), some A, some (.own (.lst ((rdsO mt.name ts).map (rtD mt.name)))), some (.own (.lst ((clsO mt.name ts).map (ctD mt.name)))), some L, none, none, none]) ?_ ?_
  · subst hA
    simp
    refine ⟨by omega, lc_fa (f := ltD) (fun t => (ckO mt.name t).isSome) ltD (fun t _ => ?_) ?_⟩
    · cases t with
      | clock a lo hi => by_cases e : a = mt.name <;> simp [ltD, ckO, e, mD]
      | read a j i t v => simp [ltD, ckO]
      | close a n t vs => simp [ltD, ckO]
    · rw [cks_map]; simp
  rintro _ ⟨L, hL, rfl⟩
  have lk := low_law mt.err (cksO mt.name ts)
  generalize hlo : maxL ((cksO mt.name ts).map (·.1)) (-mt.err) = lo at lk
  generalize hhi : minL ((cksO mt.name ts).map (·.2)) mt.err = hi at lk
  generalize hR : some (Sv.own (Ob.lst ((rdsO mt.name ts).map (rtD mt.name)))) = rr
  generalize hC : some (Sv.own (Ob.lst ((clsO mt.name ts).map (ctD mt.name)))) = cc
  refine seq_cut (fun r => r = [some (.dat (mD mt)), some A, rr, cc, some (.dat (.list ((cksO mt.name ts).map (ckD mt.name)))), some (.dat (.int lo)), none, none]) ?_ ?_
  · rcases hL with rfl | rfl
    all_goals
      simp [mD]
      refine ⟨by omega, lc_ma (f := ckD mt.name) (fun c => .int c.1) (fun c _ => by simp [ckD, ltD]) ?_⟩
      simp [intsD_c, intsD_mf, hlo]
      omega
  rintro _ rfl
  refine seq_cut (fun r => ∃ L, r = [some (.dat (mD mt)), some A, rr, cc, L, some (.dat (.int lo)), some (.dat (.int hi)), none]) ?_ ?_
  · simp [mD]
    refine ⟨by omega, lc_ma (f := ckD mt.name) (fun c => .int c.2) (fun c _ => by simp [ckD, ltD]) ?_⟩
    simp [intsD_c, intsD_mf, hhi]
    omega
  rintro _ ⟨L, rfl⟩
  subst hR hC
  have rf := reads_fit_run mt.name mt (rdsO mt.name ts)
  have cf := closes_fit_run mt.name (rdsO mt.name ts) (clsO mt.name ts)
  by_cases c1 : lo ≤ hi
  · have n1 : ¬ hi < lo := by omega
    by_cases c2 : RdOk mt.low mt.high (rdsO mt.name ts) ∧ ∀ r ∈ rdsO mt.name ts, ∀ q ∈ rdsO mt.name ts, r.j < q.j → r.t ≤ q.t
    · rw [dB_t c2] at rf
      by_cases c3 : ClOk (clsO mt.name ts) ∧ ∀ r ∈ rdsO mt.name ts, ∀ c ∈ clsO mt.name ts, r.t < c.t ↔ r.j ≤ c.n
      · rw [dB_t c3] at cf
        have vf := versions_fit_run mt.name (rdsO mt.name ts) (clsO mt.name ts) (by omega) c3.1 fw
        have e : PossT mt ts ↔ VerOk (rdsO mt.name ts) (clsO mt.name ts) := ⟨fun h => h.ver, fun h => ⟨c2.1, c3.1, lk.off.mp c1, c2.2, c3.2, h⟩⟩
        rw [dB_iff e]
        simp [n1, rf, cf, vf]
      · rw [dB_f c3] at cf
        rw [dB_f fun h => c3 ⟨h.cl, h.sep⟩]
        simp [n1, rf, cf]
    · rw [dB_f c2] at rf
      rw [dB_f fun h => c2 ⟨h.rd, h.mono⟩]
      simp [n1, rf]
  · have n1 : hi < lo := by omega
    rw [dB_f fun h => c1 (lk.off.mpr h.off)]
    simp [n1]
theorem lpossible_run {len : Int} {ms : List Mt} (ts : List Lt) (h : LFew ts) : F_l_possible.run [.dat (pD len ms), .dat (.list (ts.map ltD))] = some (.dat (.bool (dB (∀ m ∈ ms, PossT m ts))), [none, none]) := by
  refine Wp.eq ?_
  unfold F_l_possible
  refine fn_cut rfl rfl ?_
  have lm := fun m => lmeter_run m ts h
  generalize hA : Sv.dat (PyData.list (ts.map ltD)) = A at lm
  have fA : frz A = A := by rw [← hA]; rfl
  have tA : ∀ j ρ, thaw A j ρ = ρ := fun j ρ => by rw [← hA]; rfl
  refine seq_cut (fun r => (∀ m ∈ ms, PossT m ts) ∧ ∃ x, r = [some (.dat (pD len ms)), some A, x]) ?_ ?_
  · simp [pD]
    refine for_chk (f := mD) (P := fun m => PossT m ts) (E := fun r => ∃ x, r = [some (.dat (pD len ms)), some A, x]) ?_ ?_ ?_ ⟨_, rfl⟩
    · rintro m hm _ ⟨x, rfl⟩
      have l := lm m
      by_cases c : PossT m ts
      · rw [dB_t c] at l
        simp [B_l_possible_1, fA, tA, l]
        exact chk_t c ⟨_, rfl⟩
      · rw [dB_f c] at l
        simp [B_l_possible_1, fA, tA, l]
        exact chk_f c
    · rintro h _ ⟨x, rfl⟩
      simp [pD]
      exact h
    · intro h ρ
      simp [dB_f h, outsR_none]
  rintro _ ⟨h, x, rfl⟩
  simp [dB_t h]
end Lw
namespace Lw
open PySem PySem.Spec PyProof.Rows L2 DL
theorem gcut_map {α β : Type} (f : α → β) (xs : List α) (lo hi : Option Int) : cutD (xs.map f) lo hi = (cutD xs lo hi).map f := by
  unfold DL.cutD
  rw [List.length_map, List.map_take, List.map_drop]
theorem gcut_len {α : Type} (xs : List α) (lo hi : Option Int) : (cutD xs lo hi).length ≤ xs.length := by
  unfold DL.cutD
  rw [List.length_take, List.length_drop]
  omega
theorem gcut_fr {α : Type} (xs : List α) (k : Nat) : cutD xs (some (k : Int)) none = xs.drop k := cutP_from xs k
/-- the slot that a letter tells of -/
def cNm : Lt → Int
  | .close _ n _ _ => n
  | .read _ j _ _ _ => j
  | _ => 0
def isC : Lt → Bool
  | .close _ _ _ _ => true
  | _ => false
/-- a letter as the generators make it -/
structure GL (p : Str → Prop) (N : Int) (t : Lt) : Prop where
  ok : LtOk t
  nm : p t.nm
  le : cNm t ≤ N
def Lq (P : Lt → Prop) (n : Nat) (ts : List Lt) : Prop := (∀ t ∈ ts, P t) ∧ ts.length ≤ n
theorem Lq.app {P : Lt → Prop} {n : Nat} {ts : List Lt} (h : Lq P n ts) {t : Lt} (ok : P t) : Lq P (n + 1) (ts ++ [t]) := by
  refine ⟨fun x hx => ?_, by have := h.2; simp; omega⟩
  rcases List.mem_append.mp hx with k | k
  · exact h.1 x k
  · rw [List.mem_singleton.mp k]; exact ok
theorem Lq.up {P : Lt → Prop} {n m : Nat} {ts : List Lt} (h : Lq P n ts) (k : n ≤ m) : Lq P m ts := ⟨h.1, Nat.le_trans h.2 k⟩
/-- letters as the generators make them: so many at most, so many of them tell the closing of a log at most, none of a slot beyond N -/
structure Bq (p : Str → Prop) (n : Nat) (k : Str → Nat) (N : Int) (ts : List Lt) : Prop where
  all : ∀ t ∈ ts, GL p N t
  len : ts.length ≤ n
  few : ∀ nm, (clsO nm ts).length ≤ k nm
theorem cls_app (nm : Str) (a b : List Lt) : clsO nm (a ++ b) = clsO nm a ++ clsO nm b := List.filterMap_append
theorem cls_one (nm : Str) (t : Lt) : (clsO nm [t]).length ≤ if nm = t.nm then 1 else 0 := by
  unfold clsO
  cases t with
  | close a n s v =>
    by_cases c : a = nm
    · subst c; simp [clO, Lt.nm]
    · simp [clO, c]
  | _ => exact Nat.zero_le _
theorem GL.to {p q : Str → Prop} {N M : Int} {t : Lt} (h : GL p N t) (k : p t.nm → q t.nm) (le : N ≤ M) : GL q M t := ⟨h.ok, k h.nm, Int.le_trans h.le le⟩
theorem Bq.up {p : Str → Prop} {n m : Nat} {k j : Str → Nat} {N M : Int} {ts : List Lt} (h : Bq p n k N ts) (hn : n ≤ m) (hk : ∀ nm, k nm ≤ j nm) (le : N ≤ M) : Bq p m j M ts :=
  ⟨fun t ht => (h.all t ht).to id le, Nat.le_trans h.len hn, fun nm => Nat.le_trans (h.few nm) (hk nm)⟩
theorem Bq.app {p : Str → Prop} {n m : Nat} {k j : Str → Nat} {N : Int} {ts : List Lt} (h : Bq p n k N ts) {t : Lt} (ok : GL p N t) (hn : n + 1 ≤ m) (hk : ∀ nm, k nm + (if nm = t.nm then 1 else 0) ≤ j nm) : Bq p m j N (ts ++ [t]) := by
  refine ⟨fun x hx => ?_, by have := h.len; simp; omega, fun nm => ?_⟩
  · rcases List.mem_append.mp hx with q | q
    · exact h.all x q
    · rw [List.mem_singleton.mp q]; exact ok
  · rw [cls_app, List.length_append]
    exact Nat.le_trans (Nat.add_le_add (h.few nm) (cls_one nm t)) (hk nm)
theorem Bq.cat {p : Str → Prop} {n m o : Nat} {k j i : Str → Nat} {N : Int} {ts us : List Lt} (h : Bq p n k N ts) (h2 : Bq p m j N us) (hn : n + m ≤ o) (hk : ∀ nm, k nm + j nm ≤ i nm) : Bq p o i N (ts ++ us) := by
  refine ⟨fun x hx => ?_, by have := h.len; have := h2.len; simp; omega, fun nm => ?_⟩
  · rcases List.mem_append.mp hx with q | q
    · exact h.all x q
    · exact h2.all x q
  · rw [cls_app, List.length_append]
    exact Nat.le_trans (Nat.add_le_add (h.few nm) (h2.few nm)) (hk nm)
theorem Bq.sub {p : Str → Prop} {n : Nat} {k : Str → Nat} {N : Int} {ts us : List Lt} (h : Bq p n k N ts) (s : List.Sublist us ts) : Bq p n k N us :=
  ⟨fun t ht => h.all t (s.mem ht), Nat.le_trans s.length_le h.len, fun nm => Nat.le_trans (List.Sublist.length_le (List.Sublist.filterMap _ s)) (h.few nm)⟩
theorem Bq.nil {p : Str → Prop} {n : Nat} {k : Str → Nat} {N : Int} : Bq p n k N [] := ⟨by simp, by simp, fun _ => by simp [clsO]⟩
theorem Bq.rev {p : Str → Prop} {n : Nat} {k : Str → Nat} {N : Int} {ts : List Lt} (h : Bq p n k N ts) : Bq p n k N ts.reverse :=
  ⟨fun t ht => h.all t (List.mem_reverse.mp ht), by simpa using h.len, fun nm => by
    have := h.few nm
    unfold clsO at this ⊢
    rw [List.filterMap_reverse, List.length_reverse]
    exact this⟩
theorem Bq.any {p : Str → Prop} {n : Nat} {k : Str → Nat} {N : Int} {ts : List Lt} (h : Bq p n k N ts) (m : Nat) (hm : n ≤ m) : Bq p n (fun _ => m) N ts :=
  ⟨h.all, h.len, fun nm => Nat.le_trans (Nat.le_trans (List.length_filterMap_le _ _) h.len) hm⟩
theorem cls_no {nm : Str} {ts : List Lt} (h : ∀ t ∈ ts, clO nm t = none) : (clsO nm ts).length ≤ 0 := by
  unfold clsO
  rw [List.filterMap_eq_nil_iff.mpr h]
  simp
theorem of_reads {p : Str → Prop} {x : Str} (hx : p x) {n : Nat} {ts : List Lt} {N : Int} (hN : 100 ≤ N) (h : Lq (fun t => (LtOk t ∧ t.nm = x) ∧ isC t = false ∧ cNm t ≤ 100) n ts) : Bq p n (fun _ => 0) N ts :=
  ⟨fun t ht => by
    obtain ⟨⟨h1, h2⟩, h3, h4⟩ := h.1 t ht
    exact ⟨h1, h2 ▸ hx, Int.le_trans h4 hN⟩, h.2, fun nm => cls_no fun t ht => by
    have h3 := (h.1 t ht).2.1
    cases t <;> first | rfl | cases h3⟩
theorem of_log {p : Str → Prop} {x : Str} (hx : p x) {n : Nat} {ts : List Lt} {N : Int} (h : Lq (GL (· = x) N) n ts) : Bq p n (fun nm => if nm = x then n else 0) N ts :=
  ⟨fun t ht => (h.1 t ht).to (fun e => e ▸ hx) (Int.le_refl _), h.2, fun nm => by
    show _ ≤ if nm = x then n else 0
    split
    · exact Nat.le_trans (List.length_filterMap_le _ _) h.2
    · rename_i c
      refine cls_no fun t ht => ?_
      have e := (h.1 t ht).nm
      cases t with
      | close a _ _ _ =>
        have e : a = x := e
        exact if_neg fun (z : a = nm) => c (z.symm.trans e)
      | _ => rfl⟩
theorem fm_set {α β : Type} (f : α → Option β) (u : α) : ∀ (ts : List α) (i : Nat), ((ts.set i u).filterMap f).length ≤ (ts.filterMap f).length + 1
  | [], i => by simp
  | t :: ts, 0 => by
    rw [List.set_cons_zero, List.filterMap_cons, List.filterMap_cons]
    cases f u <;> cases f t <;> simp
    omega
  | t :: ts, i + 1 => by
    have ih := fm_set f u ts i
    rw [List.set_cons_succ, List.filterMap_cons, List.filterMap_cons]
    cases f t <;> simp <;> omega
theorem Bq.set {p : Str → Prop} {n m : Nat} {k j : Str → Nat} {N : Int} {ts : List Lt} (h : Bq p n k N ts) {t : Lt} (ok : GL p N t) (i : Nat) (hn : n ≤ m) (hk : ∀ nm, k nm + 1 ≤ j nm) : Bq p m j N (ts.set i t) :=
  ⟨fun x hx => by
    rcases List.mem_or_eq_of_mem_set hx with q | q
    · exact h.all x q
    · rw [q]; exact ok, by have := h.len; simp; omega, fun nm => Nat.le_trans (Nat.le_trans (fm_set _ t ts i) (Nat.succ_le_succ (h.few nm))) (hk nm)⟩
theorem Bq.lfew {p : Str → Prop} {n : Nat} {k : Str → Nat} {N : Int} {ts : List Lt} (h : Bq p n k N ts) (hn : n ≤ 100000) (hk : ∀ nm, k nm < 63) (hN : N ≤ 100000) : LFew ts := by
  refine ⟨Nat.le_trans h.len hn, fun t ht => (h.all t ht).ok, fun nm => ⟨Nat.lt_of_le_of_lt (h.few nm) (hk nm), fun c hc => ?_⟩⟩
  obtain ⟨t, ht, e⟩ := List.mem_filterMap.mp hc
  have g := h.all t ht
  cases t with
  | close a q s v =>
    by_cases q : a = nm
    · simp [clO, q] at e
      subst e
      have := g.le
      have := g.ok
      simp only [LtOk, cNm] at *
      omega
    · simp [clO, q] at e
  | _ => cases e
theorem gat_nat {α : Type} {f : α → D} {xs : List α} {i : Nat} (h : i < xs.length) : atI (xs.map f) (i : Int) = some (f xs[i]) := by
  unfold atI
  rw [ixN_pos (by omega) (by simp; omega), Option.bind_some]
  simp [h]
theorem gV_nn (ss : List Sl) : 0 ≤ nV ss := by
  unfold nV
  induction ss with
  | nil => simp
  | cons s ss ih => simp only [List.map_cons, List.sum_cons]; omega
theorem gsum_cut (ss : List Sl) (m : Int) (hm : 0 ≤ m) : cutD (ss.map slD) none (some m) = (ss.take m.toNat).map slD := by
  have cut := cutD_to (ss.map slD) m.toNat
  rwa [show ((m.toNat : Nat) : Int) = m by omega, ← List.map_take] at cut
theorem gsum_ints (ss : List Sl) (m : Int) : intsD (List.take m.toNat (ss.map fun s => .int (s.vers.length : Int))) = some ((ss.take m.toNat).map fun s => (s.vers.length : Int)) := by rw [← List.map_take, intsD_mf]
/-- a letter about a log, or none -/
def MayG (nm : Str) (d : D) : Prop := d = .none ∨ ∃ t, GL (· = nm) 100 t ∧ d = ltD t
theorem gclose_run (l : Lo) (hl : l.slots.length ≤ 100) (st : List Int) : ∃ st' d, MayG l.name d ∧ F_l_close_1.run [iL st, .dat (loD l)] = some (.dat d, [some (iL st'), none]) := by
  suffices h : Wp (F_l_close_1.run [iL st, .dat (loD l)]) fun q => ∃ st' d, MayG l.name d ∧ q = (.dat d, [some (iL st'), none]) by
    obtain ⟨a, e, st', ts, h, rfl⟩ := h; exact ⟨st', ts, h, e⟩
  unfold F_l_close_1
  refine fn_cut rfl rfl ?_
  refine seq_cut (fun r => r = [some (iL st), some (.dat (loD l)), some (.dat (.tuple (l.slots.map slD))), none, none, none, none, none, none]) (by simp [loD]) ?_
  rintro _ rfl
  refine seq_cut (fun r => ∃ st m, (0 ≤ m ∧ m ≤ (l.slots.length : Int)) ∧ r = [some (iL st), some (.dat (loD l)), some (.dat (.tuple (l.slots.map slD))), some (.dat (.int m)), none, none, none, none, none]) ?_ ?_
  · have p : 0 < (l.slots.length : Int) + 1 := by omega
    have q1 := tk_lo st p
    have q2 := tk_hi st p
    simp [l_take_run _ p, l_take_run]
    refine wO_at (tk_lo _ (by decide)) (tk_hi _ (by decide)) fun d hd => ?_
    simp at hd
    rcases hd with rfl | rfl <;> simp <;> omega
  rintro _ ⟨st, m, ⟨hm, hm2⟩, rfl⟩
  refine seq_cut (fun r => ∃ st f, r = [some (iL st), some (.dat (loD l)), some (.dat (.tuple (l.slots.map slD))), some (.dat (.int m)), some (.dat (.int f)), none, none, none, none]) ?_ ?_
  · simp [l_take_run]
    refine wO_at (tk_lo _ (by decide)) (tk_hi _ (by decide)) fun d hd => ?_
    simp at hd
    rcases hd with rfl | rfl | rfl | rfl <;> simp
  rintro _ ⟨st, f, rfl⟩
  obtain ⟨tot, ht⟩ : ∃ tot, tot = nV (l.slots.take m.toNat) := ⟨_, rfl⟩
  have h0 : 0 ≤ tot := by rw [ht]; exact gV_nn _
  refine seq_cut (fun r => r = [some (iL st), some (.dat (loD l)), some (.dat (.tuple (l.slots.map slD))), some (.dat (.int m)), some (.dat (.int f)), some (.dat (.int tot)), none, none, none]) ?_ ?_
  · simp [gsum_cut _ _ hm]
    rw [← List.map_take]
    refine ⟨by omega, lc_ma (f := slD) (fun s => .int (s.vers.length : Int)) (fun s _ => by simp [slD]) ?_⟩
    simp [gsum_ints, ht, nV]
  rintro _ rfl
  refine seq_cut (fun r => m < (l.slots.length : Int) ∧ r = [some (iL st), some (.dat (loD l)), some (.dat (.tuple (l.slots.map slD))), some (.dat (.int m)), some (.dat (.int f)), some (.dat (.int tot)), none, none, none]) ?_ ?_
  · simp
    refine wIf_d (fun h => ?_) fun h => ?_
    · simp
      refine wIf_d (fun h2 => ?_) fun h2 => ?_
      · simp [loD]
        exact ⟨_, _, .inr ⟨.close l.name 0 (f - 5) 0, ⟨⟨by omega, by omega⟩, rfl, by show (0 : Int) ≤ 100; omega⟩, rfl⟩, rfl, rfl⟩
      · obtain ⟨s, e1, e2⟩ := at_int (f := slD) (xs := l.slots) (i := m - 1) (by omega) (by omega)
        simp [loD, e2, slD]
        exact ⟨_, _, .inr ⟨.close l.name m (s.stamp + 1 + f) tot, ⟨⟨hm, h0⟩, rfl, by show m ≤ (100 : Int); omega⟩, rfl⟩, rfl, rfl⟩
    · simp
      omega
  rintro _ ⟨h1, rfl⟩
  refine seq_cut (fun r => 0 < m ∧ r = [some (iL st), some (.dat (loD l)), some (.dat (.tuple (l.slots.map slD))), some (.dat (.int m)), some (.dat (.int f)), some (.dat (.int tot)), none, none, none]) ?_ ?_
  · simp
    refine wIf_d (fun h => ?_) fun h => ?_
    · obtain ⟨s, e1, e2⟩ := at_int (f := slD) (xs := l.slots) (i := 0) (by omega) (by omega)
      simp [loD, e2, slD]
      exact ⟨_, _, .inr ⟨.close l.name 0 (s.stamp - f) 0, ⟨⟨by omega, by omega⟩, rfl, by show (0 : Int) ≤ 100; omega⟩, rfl⟩, rfl, rfl⟩
    · simp
      omega
  rintro _ ⟨h2, rfl⟩
  obtain ⟨s1, _, e1⟩ := at_int (f := slD) (xs := l.slots) (i := m - 1) (by omega) (by omega)
  obtain ⟨s2, _, e2⟩ := at_int (f := slD) (xs := l.slots) (i := m) (by omega) (by omega)
  refine seq_cut (fun r => ∃ lo, r = [some (iL st), some (.dat (loD l)), some (.dat (.tuple (l.slots.map slD))), some (.dat (.int m)), some (.dat (.int f)), some (.dat (.int tot)), some (.dat (.int lo)), none, none]) (by simp [e1, slD]) ?_
  rintro _ ⟨lo, rfl⟩
  refine seq_cut (fun r => ∃ hi, r = [some (iL st), some (.dat (loD l)), some (.dat (.tuple (l.slots.map slD))), some (.dat (.int m)), some (.dat (.int f)), some (.dat (.int tot)), some (.dat (.int lo)), some (.dat (.int hi)), none]) (by simp [e2, slD]) ?_
  rintro _ ⟨hi, rfl⟩
  simp
  refine wIf_d (fun h => ?_) fun h => ?_
  · simp
    exact ⟨_, .none, .inl rfl, rfl, rfl⟩
  · simp [l_take_run, loD]
    refine wO_at (tk_lo _ (by decide)) (tk_hi _ (by decide)) fun d hd => ?_
    have : ∃ x, d = PyData.int x := by
      simp at hd
      rcases hd with rfl | rfl | rfl <;> exact ⟨_, rfl⟩
    obtain ⟨x, rfl⟩ := this
    simp
    exact ⟨_, _, .inr ⟨.close l.name m x tot, ⟨⟨hm, h0⟩, rfl, by show m ≤ (100 : Int); omega⟩, rfl⟩, rfl, rfl⟩
def GRdI (L C : Option Sv) (nm : Str) (n : Nat) (r : Ev) : Prop := ∃ st ts a b d, Lq (fun t => (LtOk t ∧ t.nm = nm) ∧ isC t = false ∧ cNm t ≤ 100) n ts ∧ r = [some (iL st), L, C, some (.own (.lst (ts.map ltD))), a, b, d]
theorem greads_run (l : Lo) (hl : l.slots.length ≤ 100) (hv : ∀ s ∈ l.slots, s.vers.length ≤ 12) (sh : Int) (st : List Int) : ∃ st' ts, Lq (fun t => (LtOk t ∧ t.nm = l.name) ∧ isC t = false ∧ cNm t ≤ 100) 1200 ts ∧ F_l_reads_1.run [iL st, .dat (loD l), .dat (.int sh)] = some (.own (.lst (ts.map ltD)), [some (iL st'), none, none]) := by
  suffices h : Wp (F_l_reads_1.run [iL st, .dat (loD l), .dat (.int sh)]) fun q => ∃ st' ts, Lq (fun t => (LtOk t ∧ t.nm = l.name) ∧ isC t = false ∧ cNm t ≤ 100) 1200 ts ∧ q = (.own (.lst (ts.map ltD)), [some (iL st'), none, none]) by
    obtain ⟨a, e, st', ts, h, rfl⟩ := h; exact ⟨st', ts, h, e⟩
  unfold F_l_reads_1
  refine fn_cut rfl rfl ?_
  refine seq_cut (fun r => r = [some (iL st), some (.dat (loD l)), some (.dat (.int sh)), some (.own (.lst [])), none, none, none]) (by simp) ?_
  rintro _ rfl
  refine seq_cut (GRdI (some (.dat (loD l))) (some (.dat (.int sh))) l.name 1200) ?_ ?_
  · simp [loD]
    refine ⟨by omega, ?_⟩
    refine for_int (fun i r => GRdI (some (.dat (loD l))) (some (.dat (.int sh))) l.name (12 * i) r) ?_ ?_ ⟨st, [], none, none, none, ⟨by simp, by simp⟩, by simp [loD]⟩
    · rintro i _ hi ⟨st, ts, a, b, d, h, rfl⟩
      refine gN_cut (by simp) rfl ?_
      have q1 := gat_nat (f := slD) hi
      have fs := hv l.slots[i] (List.getElem_mem _)
      generalize l.slots[i] = s at q1 fs
      unfold B_l_reads_1_2
      rw [show (0 : Int) + (i : Int) = (i : Int) by omega]
      refine seq_cut (fun r => ∃ st k, r = [some (iL st), some (.dat (loD l)), some (.dat (.int sh)), some (.own (.lst (ts.map ltD))), some (.dat (.int (i : Int))), some (.dat (.int k)), d]) (by simp [l_take_run]) ?_
      rintro _ ⟨st, k, rfl⟩
      simp [loD, q1, slD]
      refine ⟨by omega, ?_⟩
      refine for_int (fun j r => ∃ ts d, Lq (fun t => (LtOk t ∧ t.nm = l.name) ∧ isC t = false ∧ cNm t ≤ 100) (12 * i + j) ts ∧ r = [some (iL st), some (.dat (loD l)), some (.dat (.int sh)), some (.own (.lst (ts.map ltD))), some (.dat (.int (i : Int))), some (.dat (.int k)), d]) ?_ ?_ ⟨ts, d, h, by simp [loD]⟩
      · rintro j _ hj ⟨ts, d, h, rfl⟩
        have q4 := gat_nat (f := oD) hj
        generalize s.vers[j] = v at q4
        have hb := h.2
        have pj : 0 < (j : Int) + 1 := by omega
        simp [B_l_reads_1_1, pj]
        refine wIf_d (fun _ => ?_) fun _ => ?_
        · simp [loD, q1, slD, q4]
          refine ⟨by omega, _, h.app (t := .read l.name ((i : Int) + 1) j s.stamp v) ⟨⟨⟨by show (1 : Int) ≤ i + 1; omega, by show (0 : Int) ≤ j; omega⟩, rfl⟩, rfl, by show (i : Int) + 1 ≤ 100; omega⟩, by simp [ltD]⟩
        · simp
          exact ⟨ts, h.up (by omega), rfl⟩
      · rintro _ ⟨ts, d, h, rfl⟩
        simp
        exact ⟨st, ts, _, _, _, h.up (by omega), rfl⟩
    · rintro _ ⟨st, ts, a, b, d, h, rfl⟩
      simp
      exact ⟨st, ts, a, b, d, h.up (by omega), rfl⟩
  rintro _ ⟨st, ts, a, b, d, h, rfl⟩
  simp
  exact ⟨_, ts, h, rfl, rfl⟩
theorem gevery_run (l : Lo) (hl : l.slots.length ≤ 100) : ∃ ts, Lq (GL (· = l.name) 100) l.slots.length ts ∧ F_l_every_close_1.run [.dat (loD l)] = some (.own (.lst (ts.map ltD)), [none]) := by
  suffices h : Wp (F_l_every_close_1.run [.dat (loD l)]) fun q => ∃ ts, Lq (GL (· = l.name) 100) l.slots.length ts ∧ q = (.own (.lst (ts.map ltD)), [none]) by
    obtain ⟨a, e, ts, h, rfl⟩ := h; exact ⟨ts, h, e⟩
  unfold F_l_every_close_1
  refine fn_cut rfl rfl ?_
  refine seq_cut (fun r => r = [some (.dat (loD l)), some (.own (.lst [])), none, none, none]) (by simp) ?_
  rintro _ rfl
  refine seq_cut (fun r => r = [some (.dat (loD l)), some (.own (.lst [])), some (.dat (.int 0)), none, none]) (by simp) ?_
  rintro _ rfl
  refine seq_cut (fun r => ∃ ts a b c, Lq (GL (· = l.name) 100) l.slots.length ts ∧ r = [some (.dat (loD l)), some (.own (.lst (ts.map ltD))), a, b, c]) ?_ ?_
  · simp [loD]
    refine ⟨by omega, ?_⟩
    refine for_int (fun i r => ∃ ts tot b c, 0 ≤ tot ∧ Lq (GL (· = l.name) 100) i ts ∧ r = [some (.dat (loD l)), some (.own (.lst (ts.map ltD))), some (.dat (.int tot)), b, c]) ?_ ?_ ⟨[], 0, none, none, by omega, ⟨by simp, by simp⟩, by simp [loD]⟩
    · rintro i _ hi ⟨ts, tot, b, c, h0, h, rfl⟩
      refine gN_cut (by simp) rfl ?_
      have q1 := gat_nat (f := slD) hi
      rw [show (0 : Int) + (i : Int) = (i : Int) by omega]
      unfold B_l_every_close_1_1
      refine seq_cut (fun r => ∃ tot, 0 ≤ tot ∧ r = [some (.dat (loD l)), some (.own (.lst (ts.map ltD))), some (.dat (.int tot)), some (.dat (.int (i : Int))), c]) ?_ ?_
      · simp [loD, q1, slD]
        omega
      rintro _ ⟨tot, h0, rfl⟩
      refine seq_cut (fun r => ∃ t, r = [some (.dat (loD l)), some (.own (.lst (ts.map ltD))), some (.dat (.int tot)), some (.dat (.int (i : Int))), some (.dat (.int t))]) (by simp [loD, q1, slD]) ?_
      rintro _ ⟨t, rfl⟩
      have hb := h.2
      have add : Wp (sExpr (eMut 1 opAppend (aCons (oNow (eTup (aCons (oNow (eC (.str "close"))) (aCons (oNow (eOp2 opIx (oVar 0) (oNow (eC (.int 0))))) (aCons (oNow (eOp2 opAdd (oVar 3) (oNow (eC (.int 1))))) (aCons (oNow (eVar 4)) (aCons (oNow (eVar 2)) (aNil)))))))) (aNil))) [some (.dat (loD l)), some (.own (.lst (ts.map ltD))), some (.dat (.int tot)), some (.dat (.int (i : Int))), some (.dat (.int t))]) fun o => ∃ ts, Lq (GL (· = l.name) 100) (i + 1) ts ∧ o = .nx [some (.dat (loD l)), some (.own (.lst (ts.map ltD))), some (.dat (.int tot)), some (.dat (.int (i : Int))), some (.dat (.int t))] := by
        simp [loD]
        refine ⟨by omega, _, h.app (t := .close l.name ((i : Int) + 1) t tot) ⟨⟨by show (0 : Int) ≤ i + 1; omega, h0⟩, rfl, by show (i : Int) + 1 ≤ 100; omega⟩, by simp [ltD]⟩
      have fin : ∀ {Q}, Wp (sExpr (eMut 1 opAppend (aCons (oNow (eTup (aCons (oNow (eC (.str "close"))) (aCons (oNow (eOp2 opIx (oVar 0) (oNow (eC (.int 0))))) (aCons (oNow (eOp2 opAdd (oVar 3) (oNow (eC (.int 1))))) (aCons (oNow (eVar 4)) (aCons (oNow (eVar 2)) (aNil)))))))) (aNil))) [some (.dat (loD l)), some (.own (.lst (ts.map ltD))), some (.dat (.int tot)), some (.dat (.int (i : Int))), some (.dat (.int t))]) fun o => rO o (fun r => ∃ ts tot b c, 0 ≤ tot ∧ Lq (GL (· = l.name) 100) (i + 1) ts ∧ r = [some (.dat (loD l)), some (.own (.lst (ts.map ltD))), some (.dat (.int tot)), b, c]) Q := by
        intro Q
        refine add.mono ?_
        rintro _ ⟨ts, h, rfl⟩
        rw [rO_nx]
        exact ⟨ts, tot, _, _, h0, h, rfl⟩
      generalize (sExpr (eMut 1 opAppend (aCons (oNow (eTup (aCons (oNow (eC (.str "close"))) (aCons (oNow (eOp2 opIx (oVar 0) (oNow (eC (.int 0))))) (aCons (oNow (eOp2 opAdd (oVar 3) (oNow (eC (.int 1))))) (aCons (oNow (eVar 4)) (aCons (oNow (eVar 2)) (aNil)))))))) (aNil)))) = app at fin
      simp [loD]
      refine wIf_d (fun h1 => ?_) fun h1 => ?_
      · simpa [loD] using fin
      · obtain ⟨s2, _, e2⟩ := at_int (f := slD) (xs := l.slots) (i := (i : Int) + 1) (by omega) (by omega)
        simp [e2, slD]
        refine wIf_d (fun h2 => ?_) fun h2 => ?_
        · simpa [loD, slD] using fin
        · simp
          exact ⟨ts, tot, h0, h.up (by omega), by simp [slD]⟩
    · rintro _ ⟨ts, tot, b, c, h0, h, rfl⟩
      simp
      exact ⟨ts, h.up (by omega), by simp [loD]⟩
  rintro _ ⟨ts, a, b, c, h, rfl⟩
  simp
  exact ⟨ts, h, rfl⟩
end Lw
namespace Lw
open PySem PySem.Spec PyProof.Rows L2 DL
def GBgI (hist : Option Sv) (p : Str → Prop) (n : Nat) (k : Str → Nat) (r : Ev) : Prop := ∃ st ts sh a b c d, Bq p n k 100 ts ∧ r = [some (iL st), hist, some (.own (.lst (ts.map ltD))), some (.dat (.int sh)), a, b, c, d]
theorem gbag_body (hist : Option Sv) (p : Str → Prop) (l : Lo) (hp : p l.name) (hl : l.slots.length ≤ 35) (hv : ∀ s ∈ l.slots, s.vers.length ≤ 12) (n : Nat) (k : Str → Nat) (hn : n ≤ 100000) (st : List Int) (ts : List Lt) (sh : Int) (b c d : Option Sv) (h : Bq p n k 100 ts) : Wp (B_l_bag_1_2 [some (iL st), hist, some (.own (.lst (ts.map ltD))), some (.dat (.int sh)), some (.dat (loD l)), b, c, d]) fun o => ∃ r, o = .nx r ∧ GBgI hist p (n + 1400) (fun nm => k nm + if nm = l.name then 40 else 0) r := by
  have hl1 : l.slots.length ≤ 100 := by omega
  unfold B_l_bag_1_2
  obtain ⟨st1, us, hu, e⟩ := greads_run l hl1 hv sh st
  have b1 := h.len
  have b2 := hu.2
  refine seq_cut (fun r => r = [some (iL st1), hist, some (.own (.lst ((ts ++ us).map ltD))), some (.dat (.int sh)), some (.dat (loD l)), b, c, d]) ?_ ?_
  · simp [e]
    omega
  rintro _ rfl
  have h := h.cat (of_reads hp (by omega) hu) (Nat.le_refl _) (i := k) (fun nm => Nat.le_refl _)
  generalize ts ++ us = ts at h
  refine seq_cut (fun r => ∃ st ts b d, Bq p (n + 1200 + 4) (fun nm => k nm + if nm = l.name then 4 else 0) 100 ts ∧ r = [some (iL st), hist, some (.own (.lst (ts.map ltD))), some (.dat (.int sh)), some (.dat (loD l)), b, c, d]) ?_ ?_
  · have t1 := tk_lo st1 (m := 4) (by decide)
    have t2 := tk_hi st1 (m := 4) (by decide)
    simp [l_take_run]
    refine ⟨by omega, for_int (fun i r => ∃ st ts b d, Bq p (n + 1200 + i) (fun nm => k nm + if nm = l.name then i else 0) 100 ts ∧ r = [some (iL st), hist, some (.own (.lst (ts.map ltD))), some (.dat (.int sh)), some (.dat (loD l)), b, c, d]) ?_ ?_ ⟨_, ts, b, d, h.up (Nat.le_refl _) (fun nm => Nat.le_add_right _ _) (Int.le_refl _), rfl⟩⟩
    · rintro i _ hi ⟨st, ts, b, d, h, rfl⟩
      refine gN_cut (by simp) rfl ?_
      generalize some (Sv.dat (PyData.int (0 + (i : Int)))) = kk
      obtain ⟨st', o, ho, e⟩ := gclose_run l hl1 st
      have b3 := h.len
      rcases ho with rfl | ⟨t, k1, rfl⟩
      · simp [B_l_bag_1_1, e]
        exact ⟨_, ts, h.up (by omega) (fun nm => by split <;> omega) (Int.le_refl _), rfl, rfl⟩
      · have h2 : Bq p (n + 1200 + (i + 1)) (fun nm => k nm + if nm = l.name then i + 1 else 0) 100 (ts ++ [t]) := h.app (k1.to (fun e => e ▸ hp) (Int.le_refl _)) (by omega) (fun nm => by have e : t.nm = l.name := k1.nm; rw [e]; split <;> omega)
        cases t <;>
        · simp [B_l_bag_1_1, e, ltD]
          exact ⟨by omega, _, _, h2, rfl, by simp [ltD]⟩
    · rintro _ ⟨st, ts, b, d, h, rfl⟩
      simp
      exact ⟨_, ts, h.up (by omega) (fun nm => by split <;> omega) (Int.le_refl _), rfl, rfl⟩
  rintro _ ⟨st, ts, b, d, h, rfl⟩
  have b3 := h.len
  obtain ⟨es, he, e⟩ := gevery_run l hl1
  have b4 := he.2
  refine seq_cut (fun r => ∃ st ts, Bq p (n + 1200 + 104) (fun nm => k nm + if nm = l.name then 40 else 0) 100 ts ∧ r = [some (iL st), hist, some (.own (.lst (ts.map ltD))), some (.dat (.int sh)), some (.dat (loD l)), b, c, d]) ?_ ?_
  · simp [l_take_run]
    refine wIf_d (fun _ => ?_) fun _ => ?_
    · simp [e]
      exact ⟨by omega, _, ts ++ es, h.cat (of_log hp he) (by omega) (fun nm => by split <;> omega), rfl, by simp⟩
    · simp
      exact ⟨_, ts, h.up (by omega) (fun nm => by split <;> omega) (Int.le_refl _), rfl, rfl⟩
  rintro _ ⟨st, ts, h, rfl⟩
  have b5 := h.len
  simp [l_take_run]
  refine wIf_d (fun _ => ?_) fun _ => ?_
  · simp [l_take_run, loD]
    refine ⟨by omega, tkS (tkS (tkS st)), ts ++ [.clock l.name (l.off - tkV (tkS st) 3) (l.off + tkV (tkS (tkS st)) 3)], sh, some (.dat (loD l)), b, c, d, ?_, ?_⟩
    · exact ⟨fun x hx => (List.mem_append.mp hx).elim (h.all x) fun q => by rw [List.mem_singleton.mp q]; exact ⟨trivial, hp, by show (0 : Int) ≤ 100; omega⟩, by simp; omega, fun nm => by
        have := h.few nm
        rw [cls_app, show clsO nm [Lt.clock l.name (l.off - tkV (tkS st) 3) (l.off + tkV (tkS (tkS st)) 3)] = [] from rfl, List.append_nil]
        exact this⟩
    simp [ltD, loD]
  · simp
    exact ⟨_, ts, sh, _, _, _, _, h.up (by omega) (fun _ => Nat.le_refl _) (Int.le_refl _), rfl⟩
theorem gbag_run (ls : List Lo) (p : Str → Prop) (hp : ∀ l ∈ ls, p l.name) (hn : ls.length ≤ 10) (nd : (ls.map (·.name)).Nodup) (hs : ∀ l ∈ ls, l.slots.length ≤ 35) (few : FewV ls) (st : List Int) : ∃ st' ts, Bq p 14010 (fun _ => 42) 100 ts ∧ F_l_bag_1.run [iL st, .dat (.tuple (ls.map loD))] = some (.own (.lst (ts.map ltD)), [some (iL st'), none]) := by
  suffices h : Wp (F_l_bag_1.run [iL st, .dat (.tuple (ls.map loD))]) fun q => ∃ st' ts, Bq p 14010 (fun _ => 42) 100 ts ∧ q = (.own (.lst (ts.map ltD)), [some (iL st'), none]) by
    obtain ⟨a, e, st', ts, h, rfl⟩ := h; exact ⟨st', ts, h, e⟩
  unfold F_l_bag_1
  refine fn_cut rfl rfl ?_
  generalize hH : Sv.dat (PyData.tuple (ls.map loD)) = hist
  refine seq_cut (fun r => r = [some (iL st), some hist, some (.own (.lst [])), none, none, none, none, none]) (by simp) ?_
  rintro _ rfl
  refine seq_cut (fun r => ∃ st sh, r = [some (iL st), some hist, some (.own (.lst [])), some (.dat (.int sh)), none, none, none, none]) (by simp [l_take_run]) ?_
  rintro _ ⟨st, sh, rfl⟩
  refine seq_cut (GBgI (some hist) p 14000 (fun _ => 40)) ?_ ?_
  · have : ∀ Q, Wp (forL (gN 4) B_l_bag_1_2 (ls.map loD) [some (iL st), some hist, some (.own (.lst [])), some (.dat (.int sh)), none, none, none, none]) Q → Wp (sFor (iSeq (eVar 1)) (gN 4) B_l_bag_1_2 [some (iL st), some hist, some (.own (.lst [])), some (.dat (.int sh)), none, none, none, none]) Q := by
      intro Q h
      subst hH
      simp
      simpa using h
    refine this _ ?_
    refine for_map (fun k r => GBgI (some hist) p (1400 * k.length) (fun nm => if nm ∈ k.map (·.name) then 40 else 0) r) ?_ ?_ ⟨st, [], sh, _, _, _, _, Bq.nil, rfl⟩
    · rintro k l m _ e ⟨st, ts, sh, a, b, c, d, h, rfl⟩
      refine gN_cut (by simp) rfl ?_
      have hl : l ∈ ls := by rw [e]; simp
      have hk : k.length ≤ 10 := by rw [e] at hn; simp at hn; omega
      have hx : l.name ∉ k.map (·.name) := by
        rw [e, List.map_append, List.map_cons] at nd
        intro q
        exact (List.nodup_append.mp nd).2.2 _ q _ (List.mem_cons_self) rfl
      refine (gbag_body (some hist) _ l (hp l hl) (hs l hl) (few l hl) (1400 * k.length) _ (by omega) st ts sh b c d h).mono ?_
      rintro _ ⟨r, rfl, st, ts, sh, a, b, c, d, h, rfl⟩
      rw [rO_nx]
      refine ⟨st, ts, sh, a, b, c, d, h.up (by simp; omega) (fun nm => ?_) (Int.le_refl _), rfl⟩
      by_cases q : nm = l.name
      · subst q
        rw [if_neg hx, if_pos rfl, if_pos (by simp)]
        omega
      · rw [if_neg q]
        by_cases q2 : nm ∈ k.map (·.name)
        · rw [if_pos q2, if_pos (by rw [List.map_append]; exact List.mem_append_left _ q2)]
          omega
        · rw [if_neg q2]
          omega
    · rintro _ ⟨st, ts, sh, a, b, c, d, h, rfl⟩
      rw [kO_nx]
      exact ⟨st, ts, sh, a, b, c, d, h.up (by omega) (fun nm => by split <;> omega) (Int.le_refl _), rfl⟩
  rintro _ ⟨st, ts, sh, a, b, c, d, h, rfl⟩
  have b1 := h.len
  refine seq_cut (GBgI (some hist) p 14010 (fun _ => 42)) ?_ ?_
  · simp
    refine wIf_d (fun h1 => ?_) fun h1 => ?_
    · have pp : 0 < (ts.length : Int) := by omega
      have q1 := tk_lo st pp
      have q2 := tk_lo (tkS st) (m := 3) (by decide)
      have q3 := tk_hi (tkS st) (m := 3) (by decide)
      have e1 := gcut_fr ts (tkV st ts.length).toNat
      have e2 := cutD_to ts (tkV st ts.length).toNat
      have e3 := cutD_to ts (tkV (tkS st) 3).toNat
      rw [show (((tkV st ts.length).toNat : Nat) : Int) = tkV st ts.length by omega] at e1 e2
      rw [show (((tkV (tkS st) 3).toNat : Nat) : Int) = tkV (tkS st) 3 by omega] at e3
      simp [l_take_run _ pp, l_take_run, gcut_map, e1, e2, e3]
      have b2 : (tkV (tkS st) 3).toNat ≤ 2 := by omega
      have key : Bq p 14010 (fun _ => 42) 100 (ts.drop (tkV st ts.length).toNat ++ (ts.take (tkV st ts.length).toNat ++ ts.take (tkV (tkS st) 3).toNat)) := by
        refine ⟨fun t ht => ?_, ?_, fun nm => ?_⟩
        · rcases List.mem_append.mp ht with q | q
          · exact h.all t (List.mem_of_mem_drop q)
          · rcases List.mem_append.mp q with q | q <;> exact h.all t (List.mem_of_mem_take q)
        · simp
          omega
        · have f1 := h.few nm
          have f2 : (clsO nm (ts.take (tkV (tkS st) 3).toNat)).length ≤ 2 := Nat.le_trans (List.length_filterMap_le _ _) (by rw [List.length_take]; omega)
          have f3 : clsO nm ts = clsO nm (ts.take (tkV st ts.length).toNat) ++ clsO nm (ts.drop (tkV st ts.length).toNat) := by rw [← cls_app, List.take_append_drop]
          rw [f3, List.length_append] at f1
          rw [cls_app, cls_app, List.length_append, List.length_append]
          omega
      exact ⟨by omega, by omega, tkS (tkS st), _, sh, a, b, some (.dat (.int (tkV st ts.length))), d, key, by simp⟩
    · simp
      exact ⟨_, ts, sh, _, _, _, _, h.up (by omega) (fun _ => by omega) (Int.le_refl _), rfl⟩
  rintro _ ⟨st, ts, sh, a, b, c, d, h, rfl⟩
  refine seq_cut (GBgI (some hist) p 14010 (fun _ => 42)) ?_ ?_
  · simp [l_take_run]
    refine wIf_d (fun h1 => ?_) fun h1 => ?_
    · simp
      exact ⟨tkS st, ts.reverse, sh, a, b, c, d, h.rev, by simp⟩
    · simp
      exact ⟨_, ts, sh, _, _, _, _, h, rfl⟩
  rintro _ ⟨st, ts, sh, a, b, c, d, h, rfl⟩
  simp
  exact ⟨_, ts, h, rfl, rfl⟩
end Lw
namespace Lw
open PySem PySem.Spec PyProof.Rows L2 DL
section
variable {a b c d e f : D}
theorem g6_2 : cutD [a, b, c, d, e, f] none (some 2) = [a, b] := rfl
theorem g6_3 : cutD [a, b, c, d, e, f] none (some 3) = [a, b, c] := rfl
theorem g6_4 : cutD [a, b, c, d, e, f] none (some 4) = [a, b, c, d] := rfl
theorem g6_5 : cutD [a, b, c, d, e, f] none (some 5) = [a, b, c, d, e] := rfl
theorem gs6_3 : cutD [a, b, c, d, e, f] (some 3) none = [d, e, f] := rfl
theorem gs6_4 : cutD [a, b, c, d, e, f] (some 4) none = [e, f] := rfl
theorem g5_2 : cutD [a, b, c, d, e] none (some 2) = [a, b] := rfl
theorem g5_3 : cutD [a, b, c, d, e] none (some 3) = [a, b, c] := rfl
theorem g5_4 : cutD [a, b, c, d, e] none (some 4) = [a, b, c, d] := rfl
theorem gs5_3 : cutD [a, b, c, d, e] (some 3) none = [d, e] := rfl
theorem g4_2 : cutD [a, b, c, d] none (some 2) = [a, b] := rfl
theorem g4_3 : cutD [a, b, c, d] none (some 3) = [a, b, c] := rfl
end
theorem gmax_lo (k x : Int) : k ≤ if x > k then x else k := by split <;> omega
theorem gspoilt_read_run (m : Mt) (hm : m.low ≤ m.high) (nm : Str) (j i t : Int) (v : Option Int) (ok : LtOk (.read nm j i t v)) (st : List Int) : ∃ st' u, (LtOk u ∧ cNm u ≤ j + 1) ∧ u.nm = nm ∧ F_l_spoilt_read.run [iL st, .dat (mD m), .dat (ltD (.read nm j i t v))] = some (.dat (ltD u), [some (iL st'), none, none]) := by
  suffices h : Wp (F_l_spoilt_read.run [iL st, .dat (mD m), .dat (ltD (.read nm j i t v))]) fun q => ∃ st' u, (LtOk u ∧ cNm u ≤ j + 1) ∧ u.nm = nm ∧ q = (.dat (ltD u), [some (iL st'), none, none]) by
    obtain ⟨a, e, st', u, h1, h2, rfl⟩ := h; exact ⟨st', u, h1, h2, e⟩
  obtain ⟨hj, hi⟩ := ok
  unfold F_l_spoilt_read
  refine fn_cut rfl rfl ?_
  refine seq_cut (fun r => ∃ st k, r = [some (iL st), some (.dat (mD m)), some (.dat (ltD (.read nm j i t v))), some (.dat (.int k)), none]) (by simp [l_take_run]) ?_
  rintro _ ⟨st, k, rfl⟩
  refine seq_cut (fun r => ∃ st s, (s = 1 ∨ s = -1) ∧ r = [some (iL st), some (.dat (mD m)), some (.dat (ltD (.read nm j i t v))), some (.dat (.int k)), some (.dat (.int s))]) ?_ ?_
  · simp [l_take_run]
    refine wO_at (tk_lo _ (by decide)) (tk_hi _ (by decide)) fun d hd => ?_
    simp at hd
    rcases hd with rfl | rfl <;> simp
  rintro _ ⟨st, s, hs, rfl⟩
  refine seq_cut (fun r => r = [some (iL st), some (.dat (mD m)), some (.dat (ltD (.read nm j i t v))), some (.dat (.int k)), some (.dat (.int s))]) ?_ ?_
  · simp
    refine wIf_d (fun _ => ?_) fun _ => ?_
    · simp [ltD, g6_2, gs6_3]
      exact ⟨_, .read nm (if j + s > 1 then j + s else 1) i t v, ⟨⟨gmax_lo 1 _, hi⟩, by show (if j + s > 1 then j + s else 1) ≤ j + 1; split <;> omega⟩, rfl, rfl, rfl⟩
    · simp
  rintro _ rfl
  refine seq_cut (fun r => r = [some (iL st), some (.dat (mD m)), some (.dat (ltD (.read nm j i t v))), some (.dat (.int k)), some (.dat (.int s))]) ?_ ?_
  · simp
    refine wIf_d (fun _ => ?_) fun _ => ?_
    · simp [ltD, g6_3, gs6_4]
      exact ⟨_, .read nm j (if i + s > 0 then i + s else 0) t v, ⟨⟨hj, gmax_lo 0 _⟩, by show j ≤ j + 1; omega⟩, rfl, rfl, rfl⟩
    · simp
  rintro _ rfl
  refine seq_cut (fun r => r = [some (iL st), some (.dat (mD m)), some (.dat (ltD (.read nm j i t v))), some (.dat (.int k)), some (.dat (.int s))]) ?_ ?_
  · simp
    refine wIf_d (fun _ => ?_) fun _ => ?_
    · simp [ltD, g6_4, l_take_run]
      refine wO_at (tk_lo _ (by decide)) (tk_hi _ (by decide)) fun d hd => ?_
      have : ∃ x, d = PyData.int x ∧ lg x ≤ 63 := by
        simp at hd
        rcases hd with rfl | rfl | rfl <;> exact ⟨_, rfl, lg_small (by decide)⟩
      obtain ⟨x, rfl, hx⟩ := this
      have b1 := lg_small (x := s) (by omega)
      have b2 : lg s + lg x < 100000000 := by omega
      simp [lg_fold, b2]
      exact ⟨_, .read nm j i (t + s * x) v, ⟨⟨hj, hi⟩, by show j ≤ j + 1; omega⟩, rfl, rfl, rfl⟩
    · simp
  rintro _ rfl
  obtain ⟨st', v2, _, e⟩ := reading_run st m hm
  simp [ltD, g6_5, mD] at e ⊢
  simp [e, l_take_run]
  refine wO_at (tk_lo _ (by decide)) (tk_hi _ (by decide)) fun d hd => ?_
  have : ∃ x : Option Int, d = oD x := by
    simp at hd
    rcases hd with rfl | rfl | rfl | rfl
    · exact ⟨none, rfl⟩
    · exact ⟨some _, rfl⟩
    · exact ⟨some _, rfl⟩
    · exact ⟨some _, rfl⟩
  obtain ⟨x, rfl⟩ := this
  simp
  exact ⟨_, .read nm j i t x, ⟨⟨hj, hi⟩, by show j ≤ j + 1; omega⟩, rfl, rfl, rfl⟩
theorem gspoilt_run (m : Mt) (hm : m.low ≤ m.high) (N : Int) (hN : 0 ≤ N) (t : Lt) (ok : LtOk t) (le : cNm t ≤ N) (st : List Int) : ∃ st' u, GL (· = t.nm) (N + 9) u ∧ F_l_spoilt_3.run [iL st, .dat (mD m), .dat (ltD t)] = some (.dat (ltD u), [some (iL st'), none, none]) := by
  suffices h : Wp (F_l_spoilt_3.run [iL st, .dat (mD m), .dat (ltD t)]) fun q => ∃ st' u, GL (· = t.nm) (N + 9) u ∧ q = (.dat (ltD u), [some (iL st'), none, none]) by
    obtain ⟨a, e, st', u, h1, rfl⟩ := h; exact ⟨st', u, h1, e⟩
  unfold F_l_spoilt_3
  refine fn_cut rfl rfl ?_
  refine seq_cut (fun r => ∃ st s, s ≤ 9 ∧ r = [some (iL st), some (.dat (mD m)), some (.dat (ltD t)), some (.dat (.int s)), none]) ?_ ?_
  · simp [l_take_run]
    refine wO_at (tk_lo _ (by decide)) (tk_hi _ (by decide)) fun d hd => ?_
    have : ∃ x, d = PyData.int x ∧ lg x ≤ 63 ∧ (x = 1 ∨ x = -1) := by
      simp at hd
      rcases hd with rfl | rfl <;> exact ⟨_, rfl, lg_small (by decide), by decide⟩
    obtain ⟨x, rfl, hx, hx2⟩ := this
    simp [l_take_run]
    refine wO_at (tk_lo _ (by decide)) (tk_hi _ (by decide)) fun d hd => ?_
    have : ∃ x, d = PyData.int x ∧ lg x ≤ 63 ∧ 0 ≤ x ∧ x ≤ 9 := by
      simp at hd
      rcases hd with rfl | rfl | rfl <;> exact ⟨_, rfl, lg_small (by decide), by decide, by decide⟩
    obtain ⟨y, rfl, hy, hy2, hy3⟩ := this
    have b2 : lg x + lg y < 100000000 := by omega
    simp [lg_fold, b2]
    rcases hx2 with rfl | rfl <;> omega
  rintro _ ⟨st, s, hs9, rfl⟩
  cases t with
  | read nm j i t v =>
    obtain ⟨st', u, ⟨h1, h3⟩, h2, e⟩ := gspoilt_read_run m hm nm j i t v ok st
    simp [ltD] at e
    simp [ltD, e]
    exact ⟨_, u, ⟨h1, h2, by have : j ≤ N := le; omega⟩, rfl, rfl⟩
  | clock nm lo hi =>
    refine seq_cut (fun r => r = [some (iL st), some (.dat (mD m)), some (.dat (ltD (.clock nm lo hi))), some (.dat (.int s)), none]) (by simp [ltD]) ?_
    rintro _ rfl
    simp [ltD, l_take_run]
    refine wIf_d (fun _ => ?_) fun _ => ?_
    · simp [g4_2]
      exact ⟨_, .clock nm (lo + s) hi, ⟨trivial, rfl, by show (0 : Int) ≤ N + 9; omega⟩, rfl, rfl⟩
    · simp [g4_3]
      exact ⟨_, .clock nm lo (hi + s), ⟨trivial, rfl, by show (0 : Int) ≤ N + 9; omega⟩, rfl, rfl⟩
  | close nm n t vs =>
    obtain ⟨hn, hvs⟩ := ok
    have le : n ≤ N := le
    refine seq_cut (fun r => r = [some (iL st), some (.dat (mD m)), some (.dat (ltD (.close nm n t vs))), some (.dat (.int s)), none]) (by simp [ltD]) ?_
    rintro _ rfl
    refine seq_cut (fun r => r = [some (iL st), some (.dat (mD m)), some (.dat (ltD (.close nm n t vs))), some (.dat (.int s)), none]) (by simp [ltD]) ?_
    rintro _ rfl
    refine seq_cut (fun r => ∃ st k, r = [some (iL st), some (.dat (mD m)), some (.dat (ltD (.close nm n t vs))), some (.dat (.int s)), some (.dat (.int k))]) (by simp [l_take_run]) ?_
    rintro _ ⟨st, k, rfl⟩
    refine seq_cut (fun r => r = [some (iL st), some (.dat (mD m)), some (.dat (ltD (.close nm n t vs))), some (.dat (.int s)), some (.dat (.int k))]) ?_ ?_
    · simp
      refine wIf_d (fun _ => ?_) fun _ => ?_
      · simp [ltD, g5_2, gs5_3]
        exact ⟨_, .close nm (if n + s > 0 then n + s else 0) t vs, ⟨⟨gmax_lo 0 _, hvs⟩, rfl, by show (if n + s > 0 then n + s else 0) ≤ N + 9; split <;> omega⟩, rfl, rfl⟩
      · simp
    rintro _ rfl
    refine seq_cut (fun r => r = [some (iL st), some (.dat (mD m)), some (.dat (ltD (.close nm n t vs))), some (.dat (.int s)), some (.dat (.int k))]) ?_ ?_
    · simp
      refine wIf_d (fun _ => ?_) fun _ => ?_
      · simp [ltD, g5_3]
        exact ⟨_, .close nm n (t + s) vs, ⟨⟨hn, hvs⟩, rfl, by show n ≤ N + 9; omega⟩, rfl, rfl⟩
      · simp
    rintro _ rfl
    simp [ltD, g5_4]
    exact ⟨_, .close nm n t (if vs + s > 0 then vs + s else 0), ⟨⟨hn, gmax_lo 0 _⟩, rfl, by show n ≤ N + 9; omega⟩, rfl, rfl⟩
end Lw
namespace Lw
open PySem PySem.Spec PyProof.Rows L2 DL
theorem ghist_loop (len : Int) (ms : List Mt) (c : Int) (P : Option Sv) (h : ∀ m ∈ ms, m.low ≤ m.high ∧ 0 ≤ m.err ∧ m.err ≤ 60) (hl : ms.length ≤ 10) (st : List Int) {Q : Out → Prop}
    (hq : ∀ st (ls : List Lo) a b d, ls.length = ms.length → (∀ p ∈ ms.zip ls, LoOk p.1 (c.natAbs + 400) p.2) → Q (.nx [some (iL st), P, some (.dat (.int 4)), some (.dat (.int c)), some (.own (.lst (ls.map loD))), a, b, d])) :
    Wp (forL (gN 5) B_l_history_1 (ms.map mD) [some (iL st), P, some (.dat (.int 4)), some (.dat (.int c)), some (.own (.lst [])), none, none, none]) Q := by
  refine for_inv (fun ys r => ∃ st, ∃ ls : List Lo, ∃ m1 m2 : List Mt, ∃ a b d, ms = m1 ++ m2 ∧ ys = m2.map mD ∧ ls.length = m1.length ∧ (∀ p ∈ m1.zip ls, LoOk p.1 (c.natAbs + 400) p.2) ∧ r = [some (iL st), P, some (.dat (.int 4)), some (.dat (.int c)), some (.own (.lst (ls.map loD))), a, b, d]) ?_ ?_ ?_
  · rintro x ys _ _ ⟨st, ls, m1, m2, a, b, d, em, ey, el, ok, rfl⟩
    obtain ⟨m, m3, rfl, rfl, rfl⟩ := List.map_eq_cons_iff.mp ey.symm
    obtain ⟨h1, h2, h3⟩ := h m (by rw [em]; simp)
    refine gN_cut (by simp) rfl ?_
    unfold B_l_history_1
    have lb : ls.length ≤ 10 := by rw [em] at hl; simp at hl; omega
    have p : 0 < 2 * m.err + 1 := by omega
    refine seq_cut (fun r => ∃ st o, (-m.err ≤ o ∧ o ≤ m.err) ∧ r = [some (iL st), P, some (.dat (.int 4)), some (.dat (.int c)), some (.own (.lst (ls.map loD))), some (.dat (mD m)), some (.dat (.int o)), d]) ?_ ?_
    · have t1 := tk_lo st p
      have t2 := tk_hi st p
      have b1 := lg_small (x := m.err) (by omega)
      have b2 : lg 2 ≤ 63 := lg_small (by decide)
      have b3 : lg 2 + lg m.err < 100000000 := by omega
      have b4 : Nat.log2 2 = 1 := by decide
      simp [lg_fold, mD, l_take_run _ p, b4]
      exact ⟨by omega, by omega, by omega⟩
    rintro _ ⟨st, o, ho, rfl⟩
    refine seq_cut (fun r => ∃ st o, (-m.err ≤ o ∧ o ≤ m.err) ∧ r = [some (iL st), P, some (.dat (.int 4)), some (.dat (.int c)), some (.own (.lst (ls.map loD))), some (.dat (mD m)), some (.dat (.int o)), d]) ?_ ?_
    · simp [mD, l_take_run]
      refine wIf_d (fun _ => ?_) fun _ => ?_
      · simp [l_take_run]
        refine wO_at (tk_lo _ (by decide)) (tk_hi _ (by decide)) fun d hd => ?_
        simp at hd
        rcases hd with rfl | rfl <;> simp <;> omega
      · simp
        exact ho
    rintro _ ⟨st, o, ho, rfl⟩
    obtain ⟨st', ss, s1, s2, s3, e⟩ := slots_run st m h1 4 (by decide) c
    simp at e
    refine seq_cut (fun r => r = [some (iL st'), P, some (.dat (.int 4)), some (.dat (.int c)), some (.own (.lst (ls.map loD))), some (.dat (mD m)), some (.dat (.int o)), some (.dat (.tuple (ss.map slD)))]) (by simp [e]) ?_
    rintro _ rfl
    refine seq_cut (fun r => ∃ ss : List Sl, ss.length ≤ 34 ∧ (∀ s ∈ ss, SlOk m (c.natAbs + 400) s) ∧ (ss.Pairwise fun a b => a.stamp ≤ b.stamp) ∧ r = [some (iL st'), P, some (.dat (.int 4)), some (.dat (.int c)), some (.own (.lst (ls.map loD))), some (.dat (mD m)), some (.dat (.int o)), some (.dat (.tuple (ss.map slD)))]) ?_ ?_
    · simp
      refine wIf_d (fun _ => ?_) fun _ => ?_
      · have := cutD_to (ss.map slD) 4
        simp at this
        simp [this]
        refine ⟨ss.take 4, by simp; omega, fun s hs => s2 s (List.mem_of_mem_take hs), s3.sublist (List.take_sublist _ _), ?_⟩
        rw [List.map_take]
      · simp
        exact ⟨ss, s1, s2, s3, rfl⟩
    rintro _ ⟨ss, s1, s2, s3, rfl⟩
    simp [mD]
    refine ⟨by omega, _, ls ++ [⟨m.name, o, ss⟩], m1 ++ [m], m3, by simp [em], rfl, by simp [el], ?_, rfl, by simp [loD]⟩
    intro q1 q2 hp
    rw [List.zip_append el.symm] at hp
    rcases List.mem_append.mp hp with h | h
    · exact ok (q1, q2) h
    · simp at h
      obtain ⟨rfl, rfl⟩ := h
      exact ⟨rfl, ho, Nat.le_trans s1 (by decide), s2, s3⟩
  · rintro _ ⟨st, ls, m1, m2, a, b, d, em, ey, el, ok, rfl⟩
    obtain rfl : m2 = [] := by simpa using ey.symm
    rw [List.append_nil] at em
    subst em
    exact hq _ _ _ _ _ el ok
  · exact ⟨st, [], [], ms, none, none, none, rfl, rfl, rfl, by simp, rfl⟩
theorem ghist_run (len : Int) (ms : List Mt) (c : Int) (h : ∀ m ∈ ms, m.low ≤ m.high ∧ 0 ≤ m.err ∧ m.err ≤ 60) (hl : ms.length ≤ 10) (st : List Int) : ∃ st', ∃ ls : List Lo, ls.length = ms.length ∧ (∀ p ∈ ms.zip ls, LoOk p.1 (c.natAbs + 400) p.2) ∧ F_l_history.run [iL st, .dat (pD len ms), .dat (.int 4), .dat (.int c)] = some (.dat (.tuple (ls.map loD)), [some (iL st'), none, none, none]) := by
  suffices h : Wp (F_l_history.run [iL st, .dat (pD len ms), .dat (.int 4), .dat (.int c)]) fun q => ∃ st', ∃ ls : List Lo, ls.length = ms.length ∧ (∀ p ∈ ms.zip ls, LoOk p.1 (c.natAbs + 400) p.2) ∧ q = (.dat (.tuple (ls.map loD)), [some (iL st'), none, none, none]) by
    obtain ⟨a, e, st', v, h1, h2, rfl⟩ := h; exact ⟨st', v, h1, h2, e⟩
  unfold F_l_history
  simp [pD]
  refine ghist_loop len ms c _ h hl st fun st ls a b d h1 h2 => ?_
  simp
  exact ⟨_, ls, h1, fun a b hab => h2 (a, b) hab, rfl, rfl⟩
def GChI (plan : Option Sv) (p : Str → Prop) (n : Nat) (j : Str → Nat) (N : Int) (r : Ev) : Prop := ∃ st ts k a b c d, Bq p n j N ts ∧ r = [some (iL st), plan, some (.own (.lst (ts.map ltD))), k, a, b, c, d]
theorem gchanged_run (c len : Int) (ms : List Mt) (pok : PlanOk c len ms) (p : Str → Prop) (hp : ∀ x, p x → x ∈ ms.map (·.name)) (n : Nat) (hn : n ≤ 100000) (j : Str → Nat) (N : Int) (hN : 0 ≤ N) (ts : List Lt) (h : Bq p n j N ts) (st : List Int) : ∃ st' us, Bq p (n + 3) (fun nm => j nm + 3) (N + 27) us ∧ F_l_changed.run [iL st, .dat (pD len ms), .dat (.list (ts.map ltD)), .dat (.int 3)] = some (.own (.lst (us.map ltD)), [some (iL st'), none, none, none]) := by
  suffices h : Wp (F_l_changed.run [iL st, .dat (pD len ms), .dat (.list (ts.map ltD)), .dat (.int 3)]) fun q => ∃ st' us, Bq p (n + 3) (fun nm => j nm + 3) (N + 27) us ∧ q = (.own (.lst (us.map ltD)), [some (iL st'), none, none, none]) by
    obtain ⟨a, e, st', u, h, rfl⟩ := h; exact ⟨st', u, h, e⟩
  unfold F_l_changed
  refine fn_cut rfl rfl ?_
  have hb := h.len
  have many := pok.many
  generalize hP : some (Sv.dat (pD len ms)) = plan
  refine seq_cut (fun r => r = [some (iL st), plan, some (.own (.lst (ts.map ltD))), some (.dat (.int 3)), none, none, none, none]) (by subst hP; simp) ?_
  rintro _ rfl
  refine seq_cut (GChI plan p (n + 3) (fun nm => j nm + 3) (N + 27)) ?_ ?_
  · have t1 := tk_lo st (m := 4) (by decide)
    have t2 := tk_hi st (m := 4) (by decide)
    simp [l_take_run]
    refine ⟨by omega, for_int (fun i r => GChI plan p (n + i) (fun nm => j nm + i) (N + 9 * i) r) ?_ ?_ ⟨_, ts, _, _, _, _, _, h.up (Nat.le_refl _) (fun nm => Nat.le_refl _) (by omega), rfl⟩⟩
    · rintro i _ hi ⟨st, ts, k, a, b, c, d, h, rfl⟩
      refine gN_cut (by simp) rfl ?_
      generalize some (Sv.dat (PyData.int (0 + (i : Int)))) = kk
      have hb := h.len
      simp [B_l_changed_1]
      refine wIf_d (fun h1 => ?_) fun h1 => ?_
      · have pp : 0 < (ts.length : Int) := by omega
        have q1 := tk_lo st pp
        have q2 := tk_hi st pp
        obtain ⟨t, e1, e2⟩ := at_int (f := ltD) (xs := ts) q1 q2
        obtain ⟨k1, k2, k3⟩ := h.all t (List.mem_of_getElem? e1)
        have e3 : ∃ m r, (ms.filter fun m => m.name == t.nm) = m :: r ∧ m ∈ ms := by
          obtain ⟨m, hm, e⟩ := List.mem_map.mp (hp _ k2)
          have hm2 : m ∈ ms.filter fun m => m.name == t.nm := List.mem_filter.mpr ⟨hm, by simpa using e⟩
          cases hc : ms.filter fun m => m.name == t.nm with
          | nil => rw [hc] at hm2; cases hm2
          | cons k r =>
            have : k ∈ ms.filter fun m => m.name == t.nm := by rw [hc]; simp
            exact ⟨k, r, rfl, (List.mem_filter.mp this).1⟩
        obtain ⟨m, r, em, hmm⟩ := e3
        obtain ⟨st', u, u1, e4⟩ := gspoilt_run m (pok.each m hmm).1 (N + 9 * i) (by omega) t k1 k3 (tkS st)
        have u2 : GL p (N + 9 * ((i + 1 : Nat) : Int)) u := u1.to (fun e => e ▸ k2) (by omega)
        have h2 : Bq p (n + i) (fun nm => j nm + i) (N + 9 * ((i + 1 : Nat) : Int)) ts := h.up (Nat.le_refl _) (fun nm => Nat.le_refl _) (by omega)
        have hu : Bq p (n + (i + 1)) (fun nm => j nm + (i + 1)) (N + 9 * ((i + 1 : Nat) : Int)) (ts ++ [u]) := h2.app u2 (by omega) (fun nm => by split <;> omega)
        have nmI : ∃ tl xs, ltD t = .tuple (tl :: .str t.nm :: xs) := by cases t <;> exact ⟨_, _, rfl⟩
        obtain ⟨tl, xs, e5⟩ := nmI
        refine seq_cut (fun r => r = [some (iL (tkS st)), plan, some (.own (.lst (ts.map ltD))), k, kk, some (.dat (.int (tkV st ts.length))), c, d]) (by simp [l_take_run _ pp]) ?_
        rintro _ rfl
        refine seq_cut (fun r => r = [some (iL (tkS st)), plan, some (.own (.lst (ts.map ltD))), k, kk, some (.dat (.int (tkV st ts.length))), some (.dat (mD m)), d]) ?_ ?_
        · subst hP
          simp [pD]
          refine ⟨by omega, lc_fa (f := mD) (fun m => m.name == t.nm) mD (fun m _ => ?_) ?_⟩
          · simp [mD, e2, e5]
          · simp [em]
        rintro _ rfl
        refine seq_cut (fun r => r = [some (iL st'), plan, some (.own (.lst (ts.map ltD))), k, kk, some (.dat (.int (tkV st ts.length))), some (.dat (mD m)), some (.dat (ltD u))]) (by simp [e2, e4]) ?_
        rintro _ rfl
        simp [l_take_run]
        refine wIf_d (fun _ => ?_) fun _ => ?_
        · have e6 : ixN (ts.map ltD).length (tkV st ts.length) = some (tkV st ts.length).toNat := ixN_pos q1 (by simpa using q2)
          simp at e6
          simp [e6]
          refine ⟨tkS st', ts.set (tkV st ts.length).toNat u, k, kk, some (.dat (.int (tkV st ts.length))), some (.dat (mD m)), some (.dat (ltD u)), h2.set u2 _ (by omega) (fun nm => by omega), ?_⟩
          rw [List.map_set]
        · simp
          refine ⟨by omega, tkS st', ts ++ [u], k, kk, some (.dat (.int (tkV st ts.length))), some (.dat (mD m)), some (.dat (ltD u)), hu, by simp⟩
      · simp
        exact ⟨st, ts, k, kk, b, c, d, h.up (by omega) (fun nm => by omega) (by omega), rfl⟩
    · rintro _ ⟨st, ts, k, a, b, c, d, h, rfl⟩
      simp
      exact ⟨st, ts, k, a, b, c, d, h.up (by omega) (fun nm => by omega) (by omega), rfl⟩
  rintro _ ⟨st, ts, k, a, b, c, d, h, rfl⟩
  simp
  exact ⟨_, ts, h, rfl, rfl⟩
end Lw
namespace Lw
open PySem PySem.Spec PyProof.Rows L2 DL
/-- a meter of the plan has this name -/
def NmI (ms : List Mt) (x : Str) : Prop := x ∈ ms.map (·.name)
def SmI (P M : Option Sv) (p : Str → Prop) (n : Nat) (r : Ev) : Prop := ∃ st ts k a b c d e f, Bq p n (fun _ => n) 400 ts ∧ r = [some (iL st), P, M, some (.own (.lst (ts.map ltD))), k, a, b, c, d, e, f]
theorem gmeter_at {c len : Int} {ms : List Mt} (pok : PlanOk c len ms) (st : List Int) : ∃ m, m ∈ ms ∧ atI (ms.map mD) (tkV st ms.length) = some (mD m) := by
  have many := pok.many
  have pp : 0 < (ms.length : Int) := by omega
  obtain ⟨m, e1, e2⟩ := at_int (f := mD) (xs := ms) (tk_lo st pp) (tk_hi st pp)
  exact ⟨m, List.mem_of_getElem? e1, e2⟩
theorem gsmall_body {c len : Int} {ms : List Mt} (pok : PlanOk c len ms) (M : Option Sv) (n : Nat) (hn : n ≤ 1000) (st : List Int) (ts : List Lt) (k x1 x2 x3 x4 x5 x6 : Option Sv) (h : Bq (NmI ms) n (fun _ => n) 400 ts) :
    Wp (B_l_small_bag_1 [some (iL st), some (.dat (pD len ms)), M, some (.own (.lst (ts.map ltD))), k, x1, x2, x3, x4, x5, x6]) fun o => ∃ r, o = .nx r ∧ SmI (some (.dat (pD len ms))) M (NmI ms) (n + 1) r := by
  unfold B_l_small_bag_1
  have many := pok.many
  have pp : 0 < (ms.length : Int) := by omega
  have hb := h.len
  obtain ⟨m, hm, e⟩ := gmeter_at pok st
  have hmn : NmI ms m.name := List.mem_map.mpr ⟨m, hm, rfl⟩
  refine seq_cut (fun r => r = [some (iL (tkS st)), some (.dat (pD len ms)), M, some (.own (.lst (ts.map ltD))), k, some (.dat (mD m)), x2, x3, x4, x5, x6]) ?_ ?_
  · simp [pD, l_take_run _ pp, e]
  rintro _ rfl
  generalize hP : some (Sv.dat (pD len ms)) = P
  generalize tkS st = st
  refine seq_cut (fun r => ∃ st x, r = [some (iL st), P, M, some (.own (.lst (ts.map ltD))), k, some (.dat (mD m)), some (.dat (.int x)), x3, x4, x5, x6]) (by simp [l_take_run]) ?_
  rintro _ ⟨st, x, rfl⟩
  refine seq_cut (fun r => ∃ st s, (0 ≤ s ∧ s ≤ 3) ∧ r = [some (iL st), P, M, some (.own (.lst (ts.map ltD))), k, some (.dat (mD m)), some (.dat (.int x)), some (.dat (.int s)), x4, x5, x6]) ?_ ?_
  · have t1 := tk_lo st (m := 4) (by decide)
    have t2 := tk_hi st (m := 4) (by decide)
    simp [l_take_run]
    omega
  rintro _ ⟨st, s, hs, rfl⟩
  refine seq_cut (fun r => ∃ st s, (0 ≤ s ∧ s ≤ 399) ∧ r = [some (iL st), P, M, some (.own (.lst (ts.map ltD))), k, some (.dat (mD m)), some (.dat (.int x)), some (.dat (.int s)), x4, x5, x6]) ?_ ?_
  · simp [l_take_run]
    refine wIf_d (fun _ => ?_) fun _ => ?_
    · simp
      refine wO_at (Int.emod_nonneg _ (by decide)) (Int.emod_lt_of_pos _ (by decide)) fun d hd => ?_
      simp at hd
      rcases hd with rfl | rfl | rfl <;> simp
    · simp
      omega
  rintro _ ⟨st, s, hs, rfl⟩
  refine seq_cut (fun r => ∃ st t, r = [some (iL st), P, M, some (.own (.lst (ts.map ltD))), k, some (.dat (mD m)), some (.dat (.int x)), some (.dat (.int s)), some (.dat (.int t)), x5, x6]) ?_ ?_
  · have b1 := lg_small (x := s) (by omega)
    have b2 : lg 2 ≤ 63 := lg_small (by decide)
    have b3 : lg s + lg 2 < 100000000 := by omega
    have b4 : Nat.log2 2 = 1 := by decide
    simp [lg_fold, l_take_run, b4]
    omega
  rintro _ ⟨st, t, rfl⟩
  simp
  refine wIf_d (fun _ => ?_) fun _ => ?_
  · simp [l_take_run, mD]
    refine ⟨by omega, tkS (tkS st), ts ++ [.clock m.name (tkV st 5 - 3) (tkV (tkS st) 5 - 1)], k, some (.dat (mD m)), some (.dat (.int x)), some (.dat (.int s)), some (.dat (.int t)), x5, x6, h.app (t := .clock m.name (tkV st 5 - 3) (tkV (tkS st) 5 - 1)) ⟨trivial, hmn, by show (0 : Int) ≤ 400; omega⟩ (Nat.le_refl _) (fun nm => by show _ + (if nm = m.name then 1 else 0) ≤ _; split <;> omega), by simp [ltD, mD]⟩
  simp
  refine wIf_d (fun _ => ?_) fun _ => ?_
  · have t1 := tk_lo st (m := 4) (by decide)
    have t2 := tk_hi st (m := 4) (by decide)
    simp [l_take_run, mD]
    refine ⟨by omega, tkS st, ts ++ [.close m.name s t (s + tkV st 4 - 1 + if s = 0 then 1 else 0)], k, some (.dat (mD m)), some (.dat (.int x)), some (.dat (.int s)), some (.dat (.int t)), x5, x6, h.app (t := .close m.name s t (s + tkV st 4 - 1 + if s = 0 then 1 else 0)) ⟨⟨by omega, by split <;> omega⟩, hmn, by show s ≤ 400; omega⟩ (Nat.le_refl _) (fun nm => by show _ + (if nm = m.name then 1 else 0) ≤ _; split <;> omega), by simp [ltD, mD]⟩
  refine seq_cut (fun r => ∃ st v, 0 ≤ v ∧ r = [some (iL st), P, M, some (.own (.lst (ts.map ltD))), k, some (.dat (mD m)), some (.dat (.int x)), some (.dat (.int s)), some (.dat (.int t)), some (.dat (.int v)), x6]) ?_ ?_
  · simp [l_take_run]
    refine wO_at (tk_lo _ (by decide)) (tk_hi _ (by decide)) fun d hd => ?_
    simp at hd
    rcases hd with rfl | rfl | rfl <;> simp
  rintro _ ⟨st, v, hv, rfl⟩
  obtain ⟨st1, v1, _, e1⟩ := reading_run st m (pok.each m hm).1
  obtain ⟨st2, v2, _, e2⟩ := reading_run st1 m (pok.each m hm).1
  refine seq_cut (fun r => ∃ st o, r = [some (iL st), P, M, some (.own (.lst (ts.map ltD))), k, some (.dat (mD m)), some (.dat (.int x)), some (.dat (.int s)), some (.dat (.int t)), some (.dat (.int v)), some (.dat (oD o))]) ?_ ?_
  · simp [e1, e2, l_take_run]
    refine wO_at (tk_lo _ (by decide)) (tk_hi _ (by decide)) fun d hd => ?_
    have : ∃ o, d = oD o := by
      simp at hd
      rcases hd with rfl | rfl | rfl
      · exact ⟨some _, rfl⟩
      · exact ⟨some _, rfl⟩
      · exact ⟨none, rfl⟩
    obtain ⟨o, rfl⟩ := this
    simp
    exact ⟨_, rfl⟩
  rintro _ ⟨st, o, rfl⟩
  simp [mD]
  refine ⟨by omega, st, ts ++ [.read m.name (s + 1) v t o], k, some (.dat (mD m)), some (.dat (.int x)), some (.dat (.int s)), some (.dat (.int t)), some (.dat (.int v)), some (.dat (oD o)), h.app (t := .read m.name (s + 1) v t o) ⟨⟨by omega, hv⟩, hmn, by show s + 1 ≤ 400; omega⟩ (Nat.le_refl _) (fun nm => by show _ + (if nm = m.name then 1 else 0) ≤ _; split <;> omega), by simp [ltD, mD]⟩
theorem gsmall_run {c len : Int} {ms : List Mt} (pok : PlanOk c len ms) (mo : Nat) (hmo : mo ≤ 10) (st : List Int) : ∃ st' ts, Bq (NmI ms) 10 (fun _ => 10) 400 ts ∧ F_l_small_bag.run [iL st, .dat (pD len ms), .dat (.int mo)] = some (.own (.lst (ts.map ltD)), [some (iL st'), none, none]) := by
  suffices h : Wp (F_l_small_bag.run [iL st, .dat (pD len ms), .dat (.int mo)]) fun q => ∃ st' ts, Bq (NmI ms) 10 (fun _ => 10) 400 ts ∧ q = (.own (.lst (ts.map ltD)), [some (iL st'), none, none]) by
    obtain ⟨a, e, st', ts, h, rfl⟩ := h; exact ⟨st', ts, h, e⟩
  unfold F_l_small_bag
  refine fn_cut rfl rfl ?_
  generalize hM : some (Sv.dat (PyData.int (mo : Int))) = M
  refine seq_cut (fun r => r = [some (iL st), some (.dat (pD len ms)), M, some (.own (.lst [])), none, none, none, none, none, none, none]) (by simp [hM]) ?_
  rintro _ rfl
  refine seq_cut (SmI (some (.dat (pD len ms))) M (NmI ms) 10) ?_ ?_
  · have p : 0 < (mo : Int) + 1 := by omega
    have t1 := tk_lo st p
    have t2 := tk_hi st p
    simp [← hM, l_take_run _ p]
    rw [hM]
    refine ⟨by omega, for_int (fun i r => SmI (some (.dat (pD len ms))) M (NmI ms) i r) ?_ ?_ ⟨_, [], _, _, _, _, _, _, _, Bq.nil, rfl⟩⟩
    · rintro i _ hi ⟨st, ts, k, x1, x2, x3, x4, x5, x6, h, rfl⟩
      refine gN_cut (by simp) rfl ?_
      refine (gsmall_body pok M i (by omega) st ts _ x1 x2 x3 x4 x5 x6 h).mono ?_
      rintro _ ⟨r, rfl, h⟩
      rw [rO_nx]
      exact h
    · rintro _ ⟨st, ts, k, x1, x2, x3, x4, x5, x6, h, rfl⟩
      rw [kO_nx]
      exact ⟨st, ts, k, x1, x2, x3, x4, x5, x6, h.up (by omega) (fun _ => by omega) (Int.le_refl _), rfl⟩
  rintro _ ⟨st, ts, k, x1, x2, x3, x4, x5, x6, h, rfl⟩
  simp
  exact ⟨_, ts, h, rfl, rfl⟩
theorem gfar_run {c len : Int} {ms : List Mt} (pok : PlanOk c len ms) (st : List Int) : ∃ st' ts, Bq (NmI ms) 2 (fun _ => 0) 100 ts ∧ F_l_far_clocks.run [iL st, .dat (pD len ms)] = some (.own (.lst (ts.map ltD)), [some (iL st'), none]) := by
  suffices h : Wp (F_l_far_clocks.run [iL st, .dat (pD len ms)]) fun q => ∃ st' ts, Bq (NmI ms) 2 (fun _ => 0) 100 ts ∧ q = (.own (.lst (ts.map ltD)), [some (iL st'), none]) by
    obtain ⟨a, e, st', ts, h, rfl⟩ := h; exact ⟨st', ts, h, e⟩
  unfold F_l_far_clocks
  refine fn_cut rfl rfl ?_
  refine seq_cut (fun r => ∃ st, r = [some (iL st), some (.dat (pD len ms)), none, none]) ?_ ?_
  · simp [l_take_run]
    refine wIf_d (fun _ => ?_) fun _ => ?_
    · simp
      exact ⟨_, [], Bq.nil, rfl, rfl⟩
    · simp
  rintro _ ⟨st, rfl⟩
  have many := pok.many
  have pp : 0 < (ms.length : Int) := by omega
  obtain ⟨m, hm, e⟩ := gmeter_at pok st
  have hmn : NmI ms m.name := List.mem_map.mpr ⟨m, hm, rfl⟩
  obtain ⟨_, k1, k2, _⟩ := pok.each m hm
  refine seq_cut (fun r => r = [some (iL (tkS st)), some (.dat (pD len ms)), some (.dat (mD m)), none]) ?_ ?_
  · simp [pD, l_take_run _ pp, e]
  rintro _ rfl
  generalize tkS st = st
  refine seq_cut (fun r => ∃ st o, r = [some (iL st), some (.dat (pD len ms)), some (.dat (mD m)), some (.dat (.int o))]) ?_ ?_
  · have p : 0 < 2 * m.err + 3 := by omega
    have b1 := lg_small (x := m.err) (by omega)
    have b2 : lg 2 ≤ 63 := lg_small (by decide)
    have b3 : lg 2 + lg m.err < 100000000 := by omega
    have b4 : Nat.log2 2 = 1 := by decide
    simp [lg_fold, mD, l_take_run _ p, b4]
    omega
  rintro _ ⟨st, o, rfl⟩
  simp [l_take_run, mD]
  refine ⟨_, [.clock m.name (o - 30) (o + tkV st 3), .clock m.name o (o + 40)], ⟨?_, Nat.le_refl 2, fun nm => Nat.le_refl 0⟩, rfl, rfl⟩
  intro t ht
  simp at ht
  rcases ht with rfl | rfl <;> exact ⟨trivial, hmn, by show (0 : Int) ≤ 100; omega⟩
theorem gany_run {c len : Int} {ms : List Mt} (pok : PlanOk c len ms) (st : List Int) : ∃ st' ts, Bq (NmI ms) 15000 (fun _ => 45) 400 ts ∧ F_l_any_bag.run [iL st, .dat (pD len ms), .dat (.int c)] = some (.own (.lst (ts.map ltD)), [some (iL st'), none, none]) := by
  suffices h : Wp (F_l_any_bag.run [iL st, .dat (pD len ms), .dat (.int c)]) fun q => ∃ st' ts, Bq (NmI ms) 15000 (fun _ => 45) 400 ts ∧ q = (.own (.lst (ts.map ltD)), [some (iL st'), none, none]) by
    obtain ⟨a, e, st', ts, h, rfl⟩ := h; exact ⟨st', ts, h, e⟩
  unfold F_l_any_bag
  refine fn_cut rfl rfl ?_
  have many := pok.many
  refine seq_cut (fun r => ∃ st, r = [some (iL st), some (.dat (pD len ms)), some (.dat (.int c)), none]) ?_ ?_
  · simp [l_take_run]
    refine wIf_d (fun _ => ?_) fun _ => ?_
    · obtain ⟨st1, ts, h1, e1⟩ := gsmall_run pok 7 (by decide) (tkS st)
      obtain ⟨st2, us, h2, e2⟩ := gfar_run pok st1
      simp at e1
      have l1 := h1.len
      have l2 := h2.len
      simp [e1, e2]
      exact ⟨by omega, _, ts ++ us, h1.cat (h2.up (Nat.le_refl _) (fun _ => Nat.le_refl _) (by omega)) (by omega) (fun _ => by omega), by simp, rfl⟩
    · simp
  rintro _ ⟨st, rfl⟩
  obtain ⟨st2, ls, l1, l2, e⟩ := ghist_run len ms c (fun m hm => ⟨(pok.each m hm).1, (pok.each m hm).2.1, (pok.each m hm).2.2.1⟩) (by omega) st
  refine seq_cut (fun r => r = [some (iL st2), some (.dat (pD len ms)), some (.dat (.int c)), some (.dat (.tuple (ls.map loD)))]) (by simp [e]) ?_
  rintro _ rfl
  have nms := zip_names l1 l2
  have few : FewV ls := zip_few l1 l2
  have hs : ∀ l ∈ ls, l.slots.length ≤ 35 := fun l hl => by
    obtain ⟨m, _, hz⟩ := zip_r (as := ms) (by omega) hl
    exact (l2 (m, l) hz).few
  obtain ⟨st3, ts, h3, e3⟩ := gbag_run ls (NmI ms) (fun l hl => (show l.name ∈ ms.map (·.name) from nms ▸ List.mem_map.mpr ⟨l, hl, rfl⟩)) (by omega) (nms ▸ pok.nd) hs few st2
  obtain ⟨st4, us, h4, e4⟩ := gfar_run pok st3
  have h5 : Bq (NmI ms) 14012 (fun _ => 42) 100 (ts ++ us) := h3.cat h4 (Nat.le_refl _) (fun _ => Nat.le_refl _)
  obtain ⟨st5, vs, h6, e5⟩ := gchanged_run c len ms pok (NmI ms) (fun _ h => h) 14012 (by omega) _ 100 (by omega) _ h5 st4
  have q1 := h3.len
  have q2 := h4.len
  rw [List.map_append] at e5
  simp [e3, e4, e5]
  exact ⟨by omega, _, vs, h6.up (by omega) (fun _ => by omega) (by omega), rfl, rfl⟩
end Lw
namespace Lw
open PySem PySem.Spec PyProof.Rows L2 DL
theorem mxV_mono {R S : List Rt} (h : ∀ r ∈ R, r ∈ S) (j : Int) : mxV R j ≤ mxV S j := by
  unfold mxV
  obtain ⟨a1, a2, a3⟩ := maxL_spec ((R.filter fun r => decide (r.j = j)).map (·.i)) 0
  obtain ⟨b1, b2, _⟩ := maxL_spec ((S.filter fun r => decide (r.j = j)).map (·.i)) 0
  rcases a3 with e | e
  · rw [e]; exact b1
  · obtain ⟨r, hr, e⟩ := List.mem_map.mp e
    rw [← e]
    refine b2 _ (List.mem_map.mpr ⟨r, ?_, rfl⟩)
    rw [List.mem_filter] at hr ⊢
    exact ⟨h r hr.1, hr.2⟩
theorem mxV_nn (R : List Rt) (j : Int) : 0 ≤ mxV R j := (maxL_spec _ 0).1
theorem sN_mono {R S : List Rt} (h : ∀ r ∈ R, r ∈ S) : ∀ a k : Nat, sN R (a + k) - sN R a ≤ sN S (a + k) - sN S a
  | a, 0 => by simp
  | a, k + 1 => by
    have ih := sN_mono h a k
    have q := mxV_mono h (((a + k : Nat) : Int) + 1)
    rw [← Nat.add_assoc]
    simp only [sN]
    omega
theorem sN_mono0 {R S : List Rt} (h : ∀ r ∈ R, r ∈ S) (k : Nat) : sN R k ≤ sN S k := by
  have := sN_mono h 0 k
  rw [Nat.zero_add] at this
  simp only [sN] at this
  omega
theorem possM_sub {m : Mt} {R R' : List Rt} {C C' : List Ct} {K K' : List (Int × Int)} (h : PossM m R C K) (hR : ∀ r ∈ R', r ∈ R) (hC : ∀ c ∈ C', c ∈ C) (hK : ∀ c ∈ K', c ∈ K) : PossM m R' C' K' where
  rd := ⟨fun r hr => h.rd.first r (hR r hr), fun r hr => h.rd.inn r (hR r hr), fun r hr q hq => h.rd.one r (hR r hr) q (hR q hq)⟩
  cl := ⟨fun c hc d hd => h.cl.vs c (hC c hc) d (hC d hd), fun c hc => h.cl.zero c (hC c hc), fun c hc d hd => h.cl.lt c (hC c hc) d (hC d hd)⟩
  off := by
    obtain ⟨o, a, b, k⟩ := h.off
    exact ⟨o, a, b, fun c hc => k c (hK c hc)⟩
  mono := fun r hr q hq => h.mono r (hR r hr) q (hR q hq)
  sep := fun r hr c hc => h.sep r (hR r hr) c (hC c hc)
  ver := by
    refine ⟨fun c hc p => ?_, fun c hc d hd p lt => ?_⟩
    · have := h.ver.nn c (hC c hc) p
      have q := sN_mono0 hR c.n.toNat
      unfold gC at this ⊢
      omega
    · have := h.ver.up c (hC c hc) d (hC d hd) p lt
      have q := sN_mono hR c.n.toNat (d.n.toNat - c.n.toNat)
      rw [show c.n.toNat + (d.n.toNat - c.n.toNat) = d.n.toNat by omega] at q
      unfold gC at this ⊢
      omega
theorem possT_sub {m : Mt} {ts us : List Lt} (h : PossT m ts) (s : ∀ t ∈ us, t ∈ ts) : PossT m us := by
  refine possM_sub h (fun r hr => ?_) (fun r hr => ?_) fun r hr => ?_ <;>
  · obtain ⟨t, ht, e⟩ := List.mem_filterMap.mp hr
    exact List.mem_filterMap.mpr ⟨t, s t ht, e⟩
theorem possM_nil {m : Mt} (h : 0 ≤ m.err) : PossM m [] [] [] where
  rd := RdOk.nil
  cl := ⟨nofun, nofun, nofun⟩
  off := ⟨0, by omega, h, nofun⟩
  mono := nofun
  sep := nofun
  ver := ⟨nofun, nofun⟩
theorem possT_none {m : Mt} (h : 0 ≤ m.err) {ts : List Lt} (hn : ∀ t ∈ ts, t.nm ≠ m.name) : PossT m ts := by
  have e1 : rdsO m.name ts = [] := List.filterMap_eq_nil_iff.mpr fun t ht => by
    have := hn t ht
    cases t with
    | read a _ _ _ _ => exact if_neg this
    | _ => rfl
  have e2 : clsO m.name ts = [] := List.filterMap_eq_nil_iff.mpr fun t ht => by
    have := hn t ht
    cases t with
    | close a _ _ _ => exact if_neg this
    | _ => rfl
  have e3 : cksO m.name ts = [] := List.filterMap_eq_nil_iff.mpr fun t ht => by
    have := hn t ht
    cases t with
    | clock a _ _ => exact if_neg this
    | _ => rfl
  unfold PossT
  rw [e1, e2, e3]
  exact possM_nil h
theorem fm_filter {α β : Type} (f : α → Option β) (p : α → Bool) (h : ∀ a b, f a = some b → p a = true) : ∀ ts : List α, (ts.filter p).filterMap f = ts.filterMap f
  | [] => rfl
  | t :: ts => by
    have ih := fm_filter f p h ts
    cases e : p t with
    | true => rw [List.filter_cons_of_pos e, List.filterMap_cons, List.filterMap_cons, ih]
    | false =>
      rw [List.filter_cons_of_neg (by rw [e]; simp), ih]
      cases q : f t with
      | none => rw [List.filterMap_cons_none q]
      | some b => rw [h t b q] at e; cases e
/-- only the letters about a meter count -/
theorem possT_about {m : Mt} {ts : List Lt} : PossT m (ts.filter fun t => t.nm == m.name) ↔ PossT m ts := by
  unfold PossT rdsO clsO cksO
  rw [fm_filter (rdO m.name), fm_filter (clO m.name), fm_filter (ckO m.name)]
  · intro t b e
    cases t with
    | clock a _ _ => simp [ckO] at e; exact beq_iff_eq.mpr e.1
    | _ => cases e
  · intro t b e
    cases t with
    | close a _ _ _ => simp [clO] at e; exact beq_iff_eq.mpr e.1
    | _ => cases e
  · intro t b e
    cases t with
    | read a _ _ _ _ => simp [rdO] at e; exact beq_iff_eq.mpr e.1
    | _ => cases e
theorem gcut_sub {α : Type} (xs : List α) (lo hi : Option Int) : List.Sublist (cutD xs lo hi) xs := by
  unfold DL.cutD
  exact (List.take_sublist _ _).trans (List.drop_sublist _ _)
/-- is_possible and the law's own decision, of letters that the generators make -/
theorem poss_run {c len : Int} {ms : List Mt} (pok : PlanOk c len ms) (L : D) (ts : List Lt) (h : IsTs L ts) (hl : ts.length ≤ 100000) (tok : ∀ t ∈ ts, LtOk t) : F_p_is_possible.run [.dat (pD len ms), .dat L] = some (.dat (.bool (dB (∀ m ∈ ms, PossT m ts))), [none, none]) := by
  have r := is_possible_run pok L ts h hl tok
  have e : ∀ i : Decidable (∀ m ∈ ms, PossT m ts), @decide _ i = dB (∀ m ∈ ms, PossT m ts) := fun i => @dB_eq _ i
  exact r.trans (by rw [e])
theorem gdpt {ts : List Lt} : dpt 40 (.list (ts.map ltD)) = true := by
  rw [dpt_l, List.all_eq_true]
  intro x hx
  obtain ⟨t, _, rfl⟩ := List.mem_map.mp hx
  cases t <;> simp [ltD]
end Lw
namespace Lw
open PySem PySem.Spec PyProof.Rows L2 DL
/-- a log of a meter, as a history has it -/
structure LgOk (m : Mt) (l : Lo) : Prop where
  name : l.name = m.name
  off : -m.err ≤ l.off ∧ l.off ≤ m.err
  len : l.slots.length ≤ 36
  each : ∀ s ∈ l.slots, s.vers ≠ [] ∧ s.vers.length ≤ 25 ∧ (∀ v ∈ s.vers, inV m v) ∧ ∃ x, s.vers.head? = some (some x)
  mono : l.slots.Pairwise fun a b => a.stamp ≤ b.stamp
theorem LoOk.lg {m : Mt} {b : Nat} {l : Lo} (h : LoOk m b l) : LgOk m l :=
  ⟨h.name, h.off, Nat.le_trans h.few (by decide), fun s hs => let q := h.each s hs; ⟨q.ne, Nat.le_trans q.few (by decide), q.inn, q.hd⟩, h.mono⟩
theorem clT_iff (m t : Int) : ∀ (k : Nat) (ss : List Sl), clT m t k ss = true ↔ ∀ i (h : i < ss.length), ss[i].stamp < t ↔ ((k + i : Nat) : Int) < m
  | k, [] => by simp [clT]
  | k, s :: ss => by
    rw [clT, Bool.and_eq_true, clT_iff m t (k + 1) ss]
    constructor
    · rintro ⟨h1, h2⟩ i hi
      cases i with
      | zero => simpa using h1
      | succ i =>
        have := h2 i (by simpa using hi)
        rw [List.getElem_cons_succ, show k + (i + 1) = k + 1 + i by omega]
        exact this
    · intro h
      refine ⟨?_, fun i hi => ?_⟩
      · have := h 0 (by simp)
        simpa using this
      · have := h (i + 1) (by simpa using hi)
        rw [List.getElem_cons_succ, show k + (i + 1) = k + 1 + i by omega] at this
        exact this
theorem trC_iff {ss : List Sl} {m t vs : Int} : trC ss m t vs = true ↔ m ≤ ss.length ∧ (∀ i (h : i < ss.length), ss[i].stamp < t ↔ (i : Int) < m) ∧ nV (ss.take m.toNat) = vs := by
  unfold trC
  rw [Bool.and_eq_true, Bool.and_eq_true, decide_eq_true_iff, decide_eq_true_iff, clT_iff]
  simp only [Nat.zero_add]
theorem trR_iff {ss : List Sl} {j i t : Int} {v : Option Int} (hj : 1 ≤ j) : trR ss j i t v = true ↔ ∃ h : j.toNat - 1 < ss.length, ss[j.toNat - 1].stamp = t ∧ i < ss[j.toNat - 1].vers.length ∧ ss[j.toNat - 1].vers[i.toNat]? = some v := by
  unfold trR
  by_cases h : j.toNat - 1 < ss.length
  · rw [List.getElem?_eq_getElem h]
    simp [h]
  · rw [List.getElem?_eq_none (by omega)]
    simp [h]
theorem nV_take {ss : List Sl} {k : Nat} (h : k < ss.length) : nV (ss.take (k + 1)) = nV (ss.take k) + ss[k].vers.length := by
  have e : ss.take (k + 1) = ss.take k ++ [ss[k]] := by rw [List.take_add_one, List.getElem?_eq_getElem h]; rfl
  unfold nV
  rw [e, List.map_append, List.sum_append, List.map_cons, List.map_nil, List.sum_cons, List.sum_nil, Int.add_zero]
theorem stamp_mono {ss : List Sl} (h : ss.Pairwise fun a b => a.stamp ≤ b.stamp) {i k : Nat} (hk : k < ss.length) (le : i ≤ k) : (ss[i]'(by omega)).stamp ≤ ss[k].stamp := by
  rcases Nat.lt_or_eq_of_le le with q | rfl
  · exact List.pairwise_iff_getElem.mp h i k (by omega) hk q
  · exact Int.le_refl _
theorem poss_true {m : Mt} {l : Lo} (ok : LgOk m l) {ts : List Lt} (h : ∀ t ∈ ts, LtOk t ∧ (t.nm = m.name → trL l t = true)) : PossT m ts := by
  have hr : ∀ r ∈ rdsO m.name ts, 1 ≤ r.j ∧ 0 ≤ r.i ∧ ∃ q : r.j.toNat - 1 < l.slots.length, l.slots[r.j.toNat - 1].stamp = r.t ∧ r.i < l.slots[r.j.toNat - 1].vers.length ∧ l.slots[r.j.toNat - 1].vers[r.i.toNat]? = some r.v := by
    intro r hr
    obtain ⟨h1, h2⟩ := h _ (rdo_of hr)
    have h1 : 1 ≤ r.j ∧ 0 ≤ r.i := h1
    have h2 : trR l.slots r.j r.i r.t r.v = true := h2 rfl
    exact ⟨h1.1, h1.2, (trR_iff h1.1).mp h2⟩
  have hc : ∀ c ∈ clsO m.name ts, 0 ≤ c.n ∧ c.n ≤ l.slots.length ∧ (∀ i (h : i < l.slots.length), l.slots[i].stamp < c.t ↔ (i : Int) < c.n) ∧ nV (l.slots.take c.n.toNat) = c.vs := by
    intro c hc
    obtain ⟨h1, h2⟩ := h _ (clo_of hc)
    have h1 : 0 ≤ c.n ∧ 0 ≤ c.vs := h1
    have h2 : trC l.slots c.n c.t c.vs = true := h2 rfl
    exact ⟨h1.1, trC_iff.mp h2⟩
  -- versions
  have mx : ∀ (k : Nat) (hk : k < l.slots.length), 1 + mxV (rdsO m.name ts) ((k : Int) + 1) ≤ (l.slots[k].vers.length : Int) := by
    intro k hk
    obtain ⟨_, _, a3⟩ := maxL_spec (((rdsO m.name ts).filter fun r => decide (r.j = (k : Int) + 1)).map (·.i)) 0
    have ne := (ok.each l.slots[k] (List.getElem_mem _)).1
    have pos : 0 < l.slots[k].vers.length := List.length_pos_iff.mpr ne
    rcases a3 with e | e
    · unfold mxV; rw [e]; omega
    · obtain ⟨r, hr1, e⟩ := List.mem_map.mp e
      obtain ⟨hr1, e2⟩ := List.mem_filter.mp hr1
      have e2 : r.j = (k : Int) + 1 := by simpa using e2
      obtain ⟨_, _, q, _, lt, _⟩ := hr r hr1
      have ek : r.j.toNat - 1 = k := by omega
      simp only [ek] at lt
      unfold mxV; rw [← e]; omega
  have seg : ∀ (a d : Nat), a + d ≤ l.slots.length → sN (rdsO m.name ts) (a + d) - sN (rdsO m.name ts) a ≤ nV (l.slots.take (a + d)) - nV (l.slots.take a) := by
    intro a d
    induction d with
    | zero => intro _; simp
    | succ d ih =>
      intro le
      have ih := ih (by omega)
      have q := mx (a + d) (by omega)
      rw [← Nat.add_assoc, nV_take (by omega)]
      simp only [sN]
      omega
  refine ⟨⟨fun r hr1 e1 e2 => ?_, fun r hr1 x e => ?_, fun r hr1 q hq e => ?_⟩, ⟨fun c h1 d h2 e => ?_, fun c h1 e => ?_, fun c h1 d h2 lt => ?_⟩, ⟨l.off, ok.off.1, ok.off.2, fun c hk => ?_⟩, fun r hr1 q hq lt => ?_, fun r hr1 c h1 => ?_, ⟨fun c h1 p => ?_, fun c h1 d h2 p lt => ?_⟩⟩
  · obtain ⟨_, _, q, _, _, e3⟩ := hr r hr1
    obtain ⟨x, hx⟩ := (ok.each _ (List.getElem_mem q)).2.2.2
    rw [e1, e2] at e3
    rw [List.head?_eq_getElem?] at hx
    have e3 : l.slots[r.j.toNat - 1].vers[0]? = some none := e3
    rw [hx] at e3
    cases e3
  · obtain ⟨_, _, q, _, _, e3⟩ := hr r hr1
    rw [e] at e3
    exact (ok.each _ (List.getElem_mem q)).2.2.1 _ (List.mem_of_getElem? e3) x rfl
  · obtain ⟨_, _, q1, a1, a2, a3⟩ := hr r hr1
    obtain ⟨_, _, q2, b1, b2, b3⟩ := hr q hq
    have ek : q.j.toNat - 1 = r.j.toNat - 1 := by omega
    simp only [ek] at b1 b2 b3
    refine ⟨by rw [← a1, ← b1], fun e4 => ?_⟩
    rw [e4] at a3
    rw [a3] at b3
    exact Option.some.inj b3
  · rw [← (hc c h1).2.2.2, ← (hc d h2).2.2.2, e]
  · rw [← (hc c h1).2.2.2, e]; rfl
  · obtain ⟨a1, a2, a3, _⟩ := hc c h1
    obtain ⟨b1, b2, b3, _⟩ := hc d h2
    have hk : c.n.toNat < l.slots.length := by omega
    have x1 := a3 c.n.toNat hk
    have x2 := b3 c.n.toNat hk
    omega
  · obtain ⟨t, ht, e⟩ := List.mem_filterMap.mp hk
    cases t with
    | clock a lo hi =>
      by_cases q : a = m.name
      · simp [ckO, q] at e
        have := (h _ ht).2 q
        simp only [trL, Bool.and_eq_true, decide_eq_true_iff] at this
        rw [← e]; exact this
      · simp [ckO, q] at e
    | _ => cases e
  · obtain ⟨j1, _, q1, a1, _⟩ := hr r hr1
    obtain ⟨j2, _, q2, b1, _⟩ := hr q hq
    rw [← a1, ← b1]
    exact stamp_mono ok.mono q2 (by omega)
  · obtain ⟨j1, _, q1, a1, _⟩ := hr r hr1
    obtain ⟨b1, b2, b3, _⟩ := hc c h1
    have := b3 _ q1
    rw [a1] at this
    omega
  · obtain ⟨b1, b2, _, b4⟩ := hc c h1
    have := seg 0 c.n.toNat (by omega)
    rw [Nat.zero_add, b4] at this
    simp [sN, nV] at this
    unfold gC
    omega
  · obtain ⟨a1, a2, _, a4⟩ := hc c h1
    obtain ⟨b1, b2, _, b4⟩ := hc d h2
    have := seg c.n.toNat (d.n.toNat - c.n.toNat) (by omega)
    rw [show c.n.toNat + (d.n.toNat - c.n.toNat) = d.n.toNat by omega, a4, b4] at this
    unfold gC
    omega
end Lw
namespace Lw
open PySem PySem.Spec PyProof.Rows L2 DL
/-- a true letter about a log -/
def TL (l : Lo) (t : Lt) : Prop := LtOk t ∧ t.nm = l.name ∧ trL l t = true
def TLq (l : Lo) (n : Nat) (ts : List Lt) : Prop := Lq (TL l) n ts
def MayT (l : Lo) (d : D) : Prop := d = .none ∨ ∃ t, TL l t ∧ d = ltD t
theorem tl_close {l : Lo} {m t vs : Int} (hm : 0 ≤ m) (le : m ≤ l.slots.length) (ev : vs = nV (l.slots.take m.toNat)) (h : ∀ i (hi : i < l.slots.length), l.slots[i].stamp < t ↔ (i : Int) < m) : TL l (.close l.name m t vs) :=
  ⟨⟨hm, by rw [ev]; exact gV_nn _⟩, rfl, trC_iff.mpr ⟨le, h, ev.symm⟩⟩
theorem at_some {α : Type} {xs : List α} {i : Int} {x : α} (h : xs[i.toNat]? = some x) : ∃ h : i.toNat < xs.length, xs[i.toNat] = x := List.getElem?_eq_some_iff.mp h
theorem Lq.to {P Q : Lt → Prop} {n : Nat} {ts : List Lt} (h : Lq P n ts) (k : ∀ t, P t → Q t) : Lq Q n ts := ⟨fun t m => k t (h.1 t m), h.2⟩
theorem Lq.cat {P : Lt → Prop} {n m : Nat} {ts us : List Lt} (h : Lq P n ts) (k : Lq P m us) : Lq P (n + m) (ts ++ us) := by
  refine ⟨fun x hx => ?_, by have := h.2; have := k.2; simp; omega⟩
  rcases List.mem_append.mp hx with q | q
  · exact h.1 x q
  · exact k.1 x q
theorem Lq.cut {P : Lt → Prop} {n : Nat} {ts : List Lt} (h : Lq P n ts) (lo hi : Option Int) : Lq P n (cutD ts lo hi) := ⟨fun t m => h.1 t ((gcut_sub _ _ _).mem m), Nat.le_trans (gcut_len _ _ _) h.2⟩
end Lw
namespace Lw
open PySem PySem.Spec PyProof.Rows L2 DL
/-- the number that a word stands for -/
def vl : List Nat → Nat
  | [] => 0
  | c :: cs => (c - 96) * 26 ^ cs.length + vl cs
theorem vl_app : ∀ a b : List Nat, vl (a ++ b) = vl a * 26 ^ b.length + vl b
  | [], b => by simp [vl]
  | c :: a, b => by
    rw [List.cons_append, vl, vl_app a b, vl, List.length_append, Nat.pow_add, Nat.add_mul, Nat.mul_assoc]
    omega
def wl (s : Str) : List Nat := s.cps.toList
theorem wl_app (a b : Str) : wl (a ++ b) = wl a ++ wl b := by
  show (a.cps ++ b.cps).toList = _
  rw [Array.toList_append]; rfl
theorem wl_len (s : Str) : (wl s).length = s.length := Array.length_toList
theorem abc_at : ∀ k : Nat, k < 26 → (Str.ofString "abcdefghijklmnopqrstuvwxyz").cps.toList[k]? = some (97 + k) := by decide +kernel
theorem vl_pos : ∀ {cs : List Nat}, (∀ c ∈ cs, 97 ≤ c) → cs ≠ [] → 1 ≤ vl cs
  | [], _, h => absurd rfl h
  | c :: cs, h, _ => by
    have h1 := h c (by simp)
    have p : 0 < 26 ^ cs.length := Nat.pow_pos (by decide)
    rw [vl]
    have : 1 * 26 ^ cs.length ≤ (c - 96) * 26 ^ cs.length := Nat.mul_le_mul_right _ (by omega)
    omega
theorem vl_big {c d : Nat} {cs : List Nat} (h : ∀ x ∈ c :: d :: cs, 97 ≤ x) : 27 ≤ vl (c :: d :: cs) := by
  have h1 := h c (by simp)
  have h2 := vl_pos (cs := d :: cs) (fun x hx => h x (List.mem_cons_of_mem _ hx)) (by simp)
  rw [vl]
  have p : 0 < 26 ^ cs.length := Nat.pow_pos (by decide)
  have : 1 * 26 ^ (d :: cs).length ≤ (c - 96) * 26 ^ (d :: cs).length := Nat.mul_le_mul_right _ (by omega)
  rw [List.length_cons, Nat.pow_succ] at this
  rw [List.length_cons, Nat.pow_succ]
  omega
def WdI (N : Int) (i : Nat) (r : Ev) : Prop := ∃ n w a, (0 ≤ n ∧ n * 26 ^ i + (vl (wl w) : Int) = N) ∧ w.length = i ∧ (∀ c ∈ wl w, 97 ≤ c) ∧ r = [some (.dat (.int n)), some (.dat (.str w)), a]
structure WdOk (N : Int) (w : Str) : Prop where
  val : (vl (wl w) : Int) = N
  len : w.length ≤ 60
  low : ∀ c ∈ wl w, 97 ≤ c
theorem l_word_val (N : Int) (h0 : 0 ≤ N) (h1 : N < 10 ^ 30) : ∃ w : Str, WdOk N w ∧ F_l_word.run [.dat (.int N)] = some (.dat (.str w), [none]) := by
  suffices h : Wp (F_l_word.run [.dat (.int N)]) fun q => ∃ w : Str, WdOk N w ∧ q = (.dat (.str w), [none]) by
    obtain ⟨a, e, w, h, rfl⟩ := h; exact ⟨w, h, e⟩
  unfold F_l_word
  refine fn_cut rfl rfl ?_
  refine seq_cut (fun r => r = [some (.dat (.int N)), some (.dat (.str "")), none]) (by simp) ?_
  rintro _ rfl
  refine seq_cut (fun r => ∃ n w a, WdOk N w ∧ r = [some (.dat (.int n)), some (.dat (.str w)), a]) ?_ ?_
  · have e0 : wl (Str.ofString "") = [] := by decide +kernel
    simp
    refine for_int (fun i r => WdI N i r) ?_ ?_ ⟨N, _, none, ⟨h0, by rw [e0]; simp [vl]⟩, by decide +kernel, by rw [e0]; simp, rfl⟩
    · rintro i _ hi ⟨n, w, a, ⟨hn, hv⟩, hw, hc, rfl⟩
      refine gN_cut (by simp) rfl ?_
      simp [B_l_word_1]
      refine wIf_d (fun h => ?_) fun h => ?_
      · simp
        have : n = 0 := by omega
        subst this
        exact ⟨by omega, by omega, hc⟩
      · have h1 : 0 ≤ (n - 1) % 26 := Int.emod_nonneg _ (by decide)
        have h2 : (n - 1) % 26 < 26 := Int.emod_lt_of_pos _ (by decide)
        obtain ⟨k, hk⟩ : ∃ k : Nat, (n - 1) % 26 = (k : Int) := ⟨((n - 1) % 26).toNat, by omega⟩
        have hk2 : k < 26 := by omega
        have h4 : atI (Str.ofString "abcdefghijklmnopqrstuvwxyz").cps.toList ((n - 1) % 26) = some (97 + k) := by
          unfold atI
          have len : (Str.ofString "abcdefghijklmnopqrstuvwxyz").cps.toList.length = 26 := by decide +kernel
          rw [ixN_pos h1 (by rw [len]; exact h2), Option.bind_some, hk]
          exact abc_at k hk2
        simp [abc_len, h4]
        have e : ∀ c, Str.length ⟨#[c]⟩ = 1 := fun _ => rfl
        refine ⟨by rw [e]; omega, ?_⟩
        have e2 : wl (⟨#[97 + k]⟩ ++ w) = (97 + k) :: wl w := by rw [wl_app]; rfl
        refine ⟨_, _, _, ⟨by omega, ?_⟩, by rw [str_len_app, e]; omega, ?_, rfl⟩
        · rw [e2, vl, wl_len, hw, ← hv]
          have e3 : 97 + k - 96 = k + 1 := by omega
          rw [e3, Int.pow_succ]
          have e4 : n = 26 * ((n - 1) / 26) + ((k : Int) + 1) := by omega
          push_cast
          generalize hq : (n - 1) / 26 = q at e4
          rw [e4]
          generalize (26 : Int) ^ i = p
          rw [Int.mul_comm 26 q, Int.add_mul (q * 26), Int.mul_assoc q 26 p, Int.mul_comm 26 p, Int.add_mul (k : Int)]
          omega
        · rw [e2]
          intro c hc2
          rcases List.mem_cons.mp hc2 with q | q
          · omega
          · exact hc c q
    · rintro _ ⟨n, w, a, ⟨hn, hv⟩, hw, hc, rfl⟩
      rw [kO_nx]
      have : n = 0 := by
        apply Classical.byContradiction
        intro z
        have p1 : (1 : Int) * 26 ^ 60 ≤ n * 26 ^ 60 := Int.mul_le_mul_of_nonneg_right (by omega) (by decide)
        have p2 : (10 : Int) ^ 30 < 26 ^ 60 := by decide
        omega
      subst this
      exact ⟨_, w, _, ⟨by omega, by omega, hc⟩, rfl⟩
  rintro _ ⟨n, w, a, h, rfl⟩
  simp
  exact h
end Lw
namespace Lw
open PySem PySem.Spec PyProof.Rows L2 DL
/-- the meters of a plan of this family -/
structure FPl (ms : List Mt) : Prop where
  many : 0 < ms.length ∧ ms.length ≤ 8
  nd : (ms.map (·.name)).Nodup
  each : ∀ m ∈ ms, (m.low ≤ m.high ∧ m.high ≤ m.low + 40) ∧ (0 ≤ m.err ∧ m.err ≤ 2) ∧ lg m.low ≤ 2 ^ 20 + 64
theorem fsort_ms (ms : List Mt) : ∃ ks : List Mt, ks.Perm ms ∧ srt (ms.map mD) = ks.map mD := by
  refine ⟨ms.mergeSort (PySem.W.dataLe false mD), List.mergeSort_perm _ _, ?_⟩
  unfold srt
  exact (List.map_mergeSort (r := PySem.W.dataLe false mD) (s := PySem.W.dataLe false id) (f := mD) (fun a _ b _ => rfl)).symm
theorem ford_ms (ms : List Mt) : ordB (ms.map mD) = true := by
  unfold ordB akB sbB
  rw [Bool.and_eq_true, Bool.and_eq_true]
  refine ⟨⟨?_, ?_⟩, ?_⟩
  · simp [mD, PySem.W.alike, PySem.W.alikeAll]
  · rw [Bool.or_eq_true]; left; simp [mD, DL.neT]
  · simp [mD, PyData.depth, PyData.depthAll]
theorem fints_ms (ms : List Mt) (h : ms ≠ []) : intsD (ms.map mD) = none := by
  cases ms with
  | nil => exact absurd rfl h
  | cons m ms => rfl
theorem FPl.perm {ms ks : List Mt} (h : FPl ms) (p : ks.Perm ms) : FPl ks :=
  ⟨by rw [p.length_eq]; exact h.many, (p.map _).nodup_iff.mpr h.nd, fun m hm => h.each m (p.mem_iff.mp hm)⟩
/-- the numbers that the names stand for -/
def NV (b : Nat) (bg : Bool) (i v : Nat) : Prop := (bg = true ∧ ((i = 0 ∧ v = b) ∨ (0 < i ∧ v = 26 * b + i))) ∨ (bg = false ∧ (v = b + 7 * i ∨ v = 26 * (b + 7 * i) + 1 ∨ v = 676 * (b + 7 * i) + 702))
theorem NV.inj {b : Nat} {bg : Bool} {i j v : Nat} (h : NV b bg i v) (k : NV b bg j v) (hb : 1 ≤ b ∧ b ≤ 700) (hi : i ≤ 8) (hj : j ≤ 8) : i = j := by
  unfold NV at h k
  rcases h with ⟨e, h⟩ | ⟨e, h⟩ <;> rcases k with ⟨e', k⟩ | ⟨e', k⟩
  · omega
  · rw [e] at e'; cases e'
  · rw [e] at e'; cases e'
  · omega
theorem wl_a : wl (Str.ofString "a") = [97] := by decide +kernel
theorem wl_zz : wl (Str.ofString "zz") = [122, 122] := by decide +kernel
theorem wl_e : wl (Str.ofString "") = [] := by decide +kernel
/-- the meters so far -/
structure PlI (b : Nat) (bg : Bool) (k : Nat) (ms : List Mt) : Prop where
  len : ms.length = k
  nv : ∀ (i : Nat) (m : Mt), ms[i]? = some m → NV b bg i (vl (wl m.name))
  each : ∀ m ∈ ms, (m.low ≤ m.high ∧ m.high ≤ m.low + 40) ∧ (0 ≤ m.err ∧ m.err ≤ 2) ∧ lg m.low ≤ 2 ^ 20 + 64
theorem PlI.app {b : Nat} {bg : Bool} {k : Nat} {ms : List Mt} (h : PlI b bg k ms) {m : Mt} (n : NV b bg k (vl (wl m.name))) (e : (m.low ≤ m.high ∧ m.high ≤ m.low + 40) ∧ (0 ≤ m.err ∧ m.err ≤ 2) ∧ lg m.low ≤ 2 ^ 20 + 64) : PlI b bg (k + 1) (ms ++ [m]) := by
  refine ⟨by simp [h.len], fun i x hx => ?_, fun x hx => ?_⟩
  · by_cases c : i < ms.length
    · rw [List.getElem?_append_left c] at hx
      exact h.nv i x hx
    · have : i = ms.length := by
        have := (List.getElem?_eq_some_iff.mp hx).1
        simp at this
        omega
      subst this
      rw [List.getElem?_append_right (Nat.le_refl _), Nat.sub_self] at hx
      simp at hx
      rw [← hx, h.len]
      exact n
  · rcases List.mem_append.mp hx with q | q
    · exact h.each x q
    · rw [List.mem_singleton.mp q]; exact e
theorem PlI.ok {b : Nat} {bg : Bool} {k : Nat} {ms : List Mt} (h : PlI b bg k ms) (hb : 1 ≤ b ∧ b ≤ 700) (hk : 0 < k ∧ k ≤ 8) : FPl ms := by
  refine ⟨by rw [h.len]; exact hk, ?_, h.each⟩
  rw [List.nodup_iff_pairwise_ne, List.pairwise_iff_getElem]
  intro i j hi hj lt e
  rw [List.length_map] at hi hj
  have n1 := h.nv i _ (List.getElem?_eq_getElem hi)
  have n2 := h.nv j _ (List.getElem?_eq_getElem hj)
  rw [List.getElem_map, List.getElem_map] at e
  rw [e] at n1
  have := n1.inj n2 hb (by have := h.len; omega) (by have := h.len; omega)
  omega
def FpI (S M : Option Sv) (b : Nat) (bg : Bool) (k : Nat) (r : Ev) : Prop := ∃ st ms x6 x7 x8 x9, PlI b bg k ms ∧ r = [some (iL st), S, M, some (.own (.lst (ms.map mD))), some (.dat (.int (b : Int))), some (.dat (.bool bg)), x6, x7, x8, x9]
theorem fplan_body (ns : List Int) (hl : ns.length ≤ 1000) (hb : ∀ n ∈ ns, n.natAbs.log2 < 2 ^ 20) (M : Option Sv) (b : Nat) (hb2 : 1 ≤ b ∧ b ≤ 700) (bg : Bool) (k : Nat) (hk : k < 8) (st : List Int) (ms : List Mt) (x7 x8 x9 : Option Sv) (h : PlI b bg k ms) :
    Wp (B_l_plan_3_1 [some (iL st), some (iS ns), M, some (.own (.lst (ms.map mD))), some (.dat (.int (b : Int))), some (.dat (.bool bg)), some (.dat (.int (k : Int))), x7, x8, x9]) fun o => ∃ r, o = .nx r ∧ FpI (some (iS ns)) M b bg (k + 1) r := by
  unfold B_l_plan_3_1
  obtain ⟨w1, k1, e1⟩ := l_word_val ((b : Int) + 7 * k) (by omega) (by omega)
  obtain ⟨w2, k2, e2⟩ := l_word_val (b : Int) (by omega) (by omega)
  obtain ⟨w3, k3, e3⟩ := l_word_val (k : Int) (by omega) (by omega)
  have ml : ms.length < 1000000 := by have := h.len; omega
  have b1 := lg_small (x := (k : Int)) (by omega)
  have b2 : lg 7 ≤ 63 := lg_small (by decide)
  have b3 : lg 7 + lg (k : Int) < 100000000 := by omega
  have b4 : Nat.log2 7 = 2 := by decide
  have b5 : Nat.log2 k ≤ 63 := b1
  have L1 := k1.len
  have L2 := k2.len
  have L3 := k3.len
  generalize hS : some (iS ns) = S
  refine seq_cut (fun r => ∃ st nm, (bg = false → NV b bg k (vl (wl nm))) ∧ r = [some (iL st), S, M, some (.own (.lst (ms.map mD))), some (.dat (.int (b : Int))), some (.dat (.bool bg)), some (.dat (.int (k : Int))), some (.dat (.str nm)), x8, x9]) ?_ ?_
  · simp [l_take_run, e1, lg_fold, b4]
    refine ⟨by omega, ?_⟩
    refine wO_at (tk_lo _ (by decide)) (tk_hi _ (by decide)) fun d hd => ?_
    have : ∃ s : Str, d = .str s ∧ s.length ≤ 2 ∧ (wl s = [] ∨ wl s = [97] ∨ wl s = [122, 122]) := by
      simp at hd
      rcases hd with rfl | rfl | rfl
      · exact ⟨_, rfl, by decide +kernel, .inl wl_e⟩
      · exact ⟨_, rfl, by decide +kernel, .inr (.inl wl_a)⟩
      · exact ⟨_, rfl, by decide +kernel, .inr (.inr wl_zz)⟩
    obtain ⟨s, rfl, hs, hv⟩ := this
    simp
    refine ⟨by omega, fun hbg => .inr ⟨hbg, ?_⟩⟩
    have v1 := k1.val
    rw [wl_app, vl_app]
    rcases hv with e | e | e <;> rw [e] <;> simp [vl] <;> omega
  rintro _ ⟨st, nm, hnm, rfl⟩
  refine seq_cut (fun r => ∃ nm, NV b bg k (vl (wl nm)) ∧ r = [some (iL st), S, M, some (.own (.lst (ms.map mD))), some (.dat (.int (b : Int))), some (.dat (.bool bg)), some (.dat (.int (k : Int))), some (.dat (.str nm)), x8, x9]) ?_ ?_
  · cases bg with
    | false => simp; exact hnm rfl
    | true =>
      simp [e2, e3]
      refine ⟨by omega, .inl ⟨rfl, ?_⟩⟩
      have v2 := k2.val
      have v3 := k3.val
      rw [wl_app, vl_app]
      cases c : wl w3 with
      | nil =>
        rw [c] at v3
        simp [vl] at v3
        simp [vl]
        omega
      | cons x xs =>
        cases xs with
        | nil =>
          have p := vl_pos k3.low (by rw [c]; simp)
          rw [c] at v3 p
          simp only [List.length_cons, List.length_nil] at *
          omega
        | cons y ys =>
          have p := vl_big (c := x) (d := y) (cs := ys) (by rw [← c]; exact k3.low)
          rw [c] at v3
          omega
  rintro _ ⟨nm, hnm, rfl⟩
  refine seq_cut (fun r => ∃ st lo, lg lo ≤ 63 ∧ r = [some (iL st), S, M, some (.own (.lst (ms.map mD))), some (.dat (.int (b : Int))), some (.dat (.bool bg)), some (.dat (.int (k : Int))), some (.dat (.str nm)), some (.dat (.int lo)), x9]) ?_ ?_
  · have t1 := tk_lo st (m := 7) (by decide)
    have t2 := tk_hi st (m := 7) (by decide)
    simp [l_take_run]
    exact lg_small (by omega)
  rintro _ ⟨st, lo, hlo, rfl⟩
  refine seq_cut (fun r => ∃ st lo, lg lo ≤ 2 ^ 20 + 64 ∧ r = [some (iL st), S, M, some (.own (.lst (ms.map mD))), some (.dat (.int (b : Int))), some (.dat (.bool bg)), some (.dat (.int (k : Int))), some (.dat (.str nm)), some (.dat (.int lo)), x9]) ?_ ?_
  · simp [l_take_run]
    refine wIf_d (fun _ => ?_) fun _ => ?_
    · simp [← hS, l_cell_run _ _ hl]
      have c1 := cell_lg hb (tkS st)
      have c2 := lg_add lo (clV ns (tkS st))
      omega
    · simp
      omega
  rintro _ ⟨st, lo, hlo, rfl⟩
  refine seq_cut (fun r => ∃ st wd, (0 ≤ wd ∧ wd ≤ 40) ∧ r = [some (iL st), S, M, some (.own (.lst (ms.map mD))), some (.dat (.int (b : Int))), some (.dat (.bool bg)), some (.dat (.int (k : Int))), some (.dat (.str nm)), some (.dat (.int lo)), some (.dat (.int wd))]) ?_ ?_
  · simp [l_take_run]
    refine wO_at (tk_lo _ (by decide)) (tk_hi _ (by decide)) fun d hd => ?_
    simp at hd
    rcases hd with rfl | rfl | rfl | rfl | rfl <;> simp
  rintro _ ⟨st, wd, hwd, rfl⟩
  simp [l_take_run]
  refine wO_at (tk_lo _ (by decide)) (tk_hi _ (by decide)) fun d hd => ?_
  have : ∃ e, d = PyData.int e ∧ 0 ≤ e ∧ e ≤ 2 := by
    simp at hd
    rcases hd with rfl | rfl | rfl <;> exact ⟨_, rfl, by omega, by omega⟩
  obtain ⟨e, rfl, he1, he2⟩ := this
  simp
  refine ⟨by omega, tkS st, ms ++ [⟨nm, lo, lo + wd, e⟩], some (.dat (.int k)), some (.dat (.str nm)), some (.dat (.int lo)), some (.dat (.int wd)), h.app hnm ⟨⟨by show lo ≤ lo + wd; omega, by show lo + wd ≤ lo + 40; omega⟩, ⟨he1, he2⟩, hlo⟩, ?_⟩
  simp [mD]
theorem fplan_run (ns : List Int) (hl : ns.length ≤ 1000) (hb : ∀ n ∈ ns, n.natAbs.log2 < 2 ^ 20) (st : List Int) (mo : Nat) (hmo : 1 ≤ mo ∧ mo ≤ 8) : ∃ st' len ms, FPl ms ∧ (0 < len ∧ len ≤ 91) ∧ F_l_plan_3.run [iL st, iS ns, .dat (.int mo)] = some (.dat (pD len ms), [some (iL st'), none, none]) := by
  suffices h : Wp (F_l_plan_3.run [iL st, iS ns, .dat (.int mo)]) fun q => ∃ st' len ms, FPl ms ∧ (0 < len ∧ len ≤ 91) ∧ q = (.dat (pD len ms), [some (iL st'), none, none]) by
    obtain ⟨a, e, st', len, ms, h, h2, rfl⟩ := h; exact ⟨st', len, ms, h, h2, e⟩
  unfold F_l_plan_3
  refine fn_cut rfl rfl ?_
  generalize hM : some (Sv.dat (PyData.int (mo : Int))) = M
  refine seq_cut (fun r => r = [some (iL st), some (iS ns), M, some (.own (.lst [])), none, none, none, none, none, none]) (by simp [hM]) ?_
  rintro _ rfl
  refine seq_cut (fun r => ∃ st, ∃ b : Nat, (1 ≤ b ∧ b ≤ 700) ∧ r = [some (iL st), some (iS ns), M, some (.own (.lst [])), some (.dat (.int (b : Int))), none, none, none, none, none]) ?_ ?_
  · have t1 := tk_lo st (m := 700) (by decide)
    have t2 := tk_hi st (m := 700) (by decide)
    simp [l_take_run]
    exact ⟨_, (1 + tkV st 700).toNat, by omega, rfl, by omega⟩
  rintro _ ⟨st, b, hb2, rfl⟩
  refine seq_cut (fun r => ∃ st, ∃ bg : Bool, r = [some (iL st), some (iS ns), M, some (.own (.lst [])), some (.dat (.int (b : Int))), some (.dat (.bool bg)), none, none, none, none]) (by simp [l_take_run]) ?_
  rintro _ ⟨st, bg, rfl⟩
  have pm : 0 < (mo : Int) := by omega
  refine seq_cut (fun r => ∃ k, (0 < k ∧ k ≤ 8) ∧ FpI (some (iS ns)) M b bg k r) ?_ ?_
  · have t1 := tk_lo st pm
    have t2 := tk_hi st pm
    simp [← hM, l_take_run _ pm]
    rw [hM]
    obtain ⟨k, hk⟩ : ∃ k : Nat, (1 + tkV st mo).toNat = k := ⟨_, rfl⟩
    rw [hk]
    refine ⟨by omega, for_int (fun i r => FpI (some (iS ns)) M b bg i r) ?_ ?_ ⟨_, [], _, _, _, _, ⟨rfl, by simp, by simp⟩, rfl⟩⟩
    · rintro i _ hi ⟨st, ms, x6, x7, x8, x9, h, rfl⟩
      refine gN_cut (by simp) rfl ?_
      rw [show (0 : Int) + (i : Int) = (i : Int) by omega]
      refine (fplan_body ns hl hb M b hb2 bg i (by omega) st ms x7 x8 x9 h).mono ?_
      rintro _ ⟨r, rfl, h⟩
      rw [rO_nx]
      exact h
    · rintro _ h
      rw [kO_nx]
      exact ⟨k, by omega, h⟩
  rintro _ ⟨k, hk, st, ms, x6, x7, x8, x9, h, rfl⟩
  have F := h.ok hb2 hk
  obtain ⟨ks, p, ek⟩ := fsort_ms ms
  have ne : ms ≠ [] := by intro e; have := F.many; rw [e] at this; simp at this
  have t1 := tk_lo st (m := 90) (by decide)
  have t2 := tk_hi st (m := 90) (by decide)
  have Fk := F.perm p
  have ml := F.many
  simp [l_take_run]
  refine wO_at (tk_lo _ (by decide)) (tk_hi _ (by decide)) fun d hd => ?_
  have : ∃ len, d = PyData.int len ∧ 0 < len ∧ len ≤ 91 := by
    simp at hd
    rcases hd with rfl | rfl | rfl | rfl | rfl <;> exact ⟨_, rfl, by omega, by omega⟩
  obtain ⟨len, rfl, hl1, hl2⟩ := this
  simp [fints_ms ms ne, ford_ms, ek]
  exact ⟨_, len, ks, Fk, ⟨hl1, hl2⟩, rfl, rfl⟩
end Lw
namespace Lw
open PySem PySem.Spec PyProof.Rows L2 DL
/-- a log of a meter, of the second family -/
structure FLg (m : Mt) (n : Nat) (l : Lo) : Prop where
  name : l.name = m.name
  off : -m.err ≤ l.off ∧ l.off ≤ m.err
  len : l.slots.length ≤ n
  each : ∀ s ∈ l.slots, s.vers ≠ [] ∧ s.vers.length ≤ 8 ∧ (∀ v ∈ s.vers, inV m v) ∧ ∃ x, s.vers.head? = some (some x)
  mono : l.slots.Pairwise fun a b => a.stamp ≤ b.stamp
structure FSl (m : Mt) (ss : List Sl) (t : Int) : Prop where
  each : ∀ s ∈ ss, s.vers ≠ [] ∧ s.vers.length ≤ 8 ∧ (∀ v ∈ s.vers, inV m v) ∧ ∃ x, s.vers.head? = some (some x)
  mono : ss.Pairwise fun a b => a.stamp ≤ b.stamp
  le : ∀ s ∈ ss, s.stamp ≤ t
theorem FSl.app {m : Mt} {ss : List Sl} {t u : Int} (h : FSl m ss t) (le : t ≤ u) {vs : List (Option Int)} (v : vs ≠ [] ∧ vs.length ≤ 8 ∧ (∀ v ∈ vs, inV m v) ∧ ∃ x, vs.head? = some (some x)) : FSl m (ss ++ [⟨u, vs⟩]) u := by
  refine ⟨fun s hs => ?_, List.pairwise_append.mpr ⟨h.mono, by simp, fun a ha b hb => ?_⟩, fun s hs => ?_⟩
  · rcases List.mem_append.mp hs with q | q
    · exact h.each s q
    · rw [List.mem_singleton.mp q]; exact v
  · rw [List.mem_singleton.mp hb]
    have := h.le a ha
    show a.stamp ≤ u
    omega
  · rcases List.mem_append.mp hs with q | q
    · have := h.le s q; omega
    · rw [List.mem_singleton.mp q]; exact Int.le_refl _
/-- the versions so far: a value, then values and voids -/
def VsF (m : Mt) (k : Nat) (vs : List (Option Int)) : Prop := vs ≠ [] ∧ vs.length ≤ k ∧ (∀ v ∈ vs, inV m v) ∧ ∃ x, vs.head? = some (some x)
theorem VsF.app {m : Mt} {k : Nat} {vs : List (Option Int)} (h : VsF m k vs) {v : Option Int} (hv : inV m v) : VsF m (k + 1) (vs ++ [v]) := by
  obtain ⟨h1, h2, h3, x, h4⟩ := h
  refine ⟨by simp, by simp; omega, fun w hw => ?_, x, by rw [List.head?_append, h4]; rfl⟩
  rcases List.mem_append.mp hw with q | q
  · exact h3 w q
  · rw [List.mem_singleton.mp q]; exact hv
def FsI (m : Mt) (A B : Option Sv) (k : Nat) (r : Ev) : Prop := ∃ st t ss x6 x7 x8 x9, FSl m ss t ∧ ss.length ≤ k ∧ r = [some (iL st), some (.dat (mD m)), A, B, some (.dat (.int t)), some (.own (.lst (ss.map slD))), x6, x7, x8, x9]
def FvI (m : Mt) (L : Ev) (R : Option Sv) (k : Nat) (r : Ev) : Prop := ∃ st vs x8 x9, VsF m (1 + k) vs ∧ r = some (iL st) :: L ++ [R, some (.own (.lst (vs.map oD))), x8, x9]
theorem fval (st : List Int) (m : Mt) (hm : m.low ≤ m.high) : 0 < m.high - m.low + 1 ∧ inV m (some (m.low + tkV st (m.high - m.low + 1))) := by
  have p : 0 < m.high - m.low + 1 := by omega
  refine ⟨p, fun x hx => ?_⟩
  cases hx
  have t1 := tk_lo st p
  have t2 := tk_hi st p
  omega
theorem fslots_body (m : Mt) (hm : m.low ≤ m.high) (A B : Option Sv) (k : Nat) (hk : k ≤ 100) (st : List Int) (t : Int) (ss : List Sl) (x6 x7 x8 x9 : Option Sv) (h : FSl m ss t) (hl : ss.length ≤ k) :
    Wp (B_l_slots_1_2 [some (iL st), some (.dat (mD m)), A, B, some (.dat (.int t)), some (.own (.lst (ss.map slD))), x6, x7, x8, x9]) fun o => ∃ r, o = .nx r ∧ FsI m A B (k + 1) r := by
  unfold B_l_slots_1_2
  refine seq_cut (fun r => ∃ st u, t ≤ u ∧ r = [some (iL st), some (.dat (mD m)), A, B, some (.dat (.int u)), some (.own (.lst (ss.map slD))), x6, x7, x8, x9]) ?_ ?_
  · simp [l_take_run]
    refine wO_at (tk_lo _ (by decide)) (tk_hi _ (by decide)) fun d hd => ?_
    simp at hd
    rcases hd with rfl | rfl | rfl | rfl <;> simp <;> omega
  rintro _ ⟨st, u, hu, rfl⟩
  generalize hT : some (Sv.dat (PyData.int u)) = T
  generalize hO : some (Sv.own (Ob.lst (ss.map slD))) = O
  refine seq_cut (fun r => ∃ st vs, VsF m 1 vs ∧ r = [some (iL st), some (.dat (mD m)), A, B, T, O, x6, some (.own (.lst (vs.map oD))), x8, x9]) ?_ ?_
  · obtain ⟨p, q⟩ := fval st m hm
    simp [mD, l_take_run _ p]
    exact ⟨_, [some (m.low + tkV st (m.high - m.low + 1))], ⟨by simp, by simp, by simpa using q, _, rfl⟩, rfl, rfl⟩
  rintro _ ⟨st, vs, hvs, rfl⟩
  refine seq_cut (fun r => ∃ st vs x8 x9, VsF m 8 vs ∧ r = [some (iL st), some (.dat (mD m)), A, B, T, O, x6, some (.own (.lst (vs.map oD))), x8, x9]) ?_ ?_
  · simp [l_take_run]
    refine wO_at (tk_lo _ (by decide)) (tk_hi _ (by decide)) fun d hd => ?_
    have : ∃ n : Nat, d = PyData.int (n : Int) ∧ n ≤ 7 := by
      simp at hd
      rcases hd with rfl | rfl | rfl | rfl | rfl | rfl
      all_goals first | exact ⟨0, rfl, by omega⟩ | exact ⟨1, rfl, by omega⟩ | exact ⟨2, rfl, by omega⟩ | exact ⟨7, rfl, by omega⟩
    obtain ⟨n, rfl, hn⟩ := this
    simp
    refine ⟨by omega, for_int (fun i r => ∃ st vs x8 x9, VsF m (1 + i) vs ∧ r = [some (iL st), some (.dat (mD m)), A, B, T, O, x6, some (.own (.lst (vs.map oD))), x8, x9]) ?_ ?_ ⟨_, vs, x8, x9, hvs, rfl⟩⟩
    · rintro i _ hi ⟨st, vs, x8, x9, hv, rfl⟩
      refine gN_cut (by simp) rfl ?_
      generalize some (Sv.dat (PyData.int (0 + (i : Int)))) = kk
      obtain ⟨p, q⟩ := fval st m hm
      unfold B_l_slots_1_1
      refine seq_cut (fun r => ∃ st x, inV m (some x) ∧ r = [some (iL st), some (.dat (mD m)), A, B, T, O, x6, some (.own (.lst (vs.map oD))), kk, some (.dat (.int x))]) ?_ ?_
      · simp [mD, l_take_run _ p]
        exact q
      rintro _ ⟨st, x, hx, rfl⟩
      have vl := hv.2.1
      simp [l_take_run]
      refine wO_at (tk_lo _ (by decide)) (tk_hi _ (by decide)) fun d hd => ?_
      have : ∃ o, d = oD o ∧ inV m o := by
        simp at hd
        rcases hd with rfl | rfl
        · exact ⟨some x, rfl, hx⟩
        · exact ⟨none, rfl, by intro i h; cases h⟩
      obtain ⟨o, rfl, ho⟩ := this
      simp
      exact ⟨by omega, _, vs ++ [o], by rw [← Nat.add_assoc]; exact hv.app ho, rfl, by simp⟩
    · rintro _ ⟨st, vs, x8, x9, hv, rfl⟩
      rw [kO_nx]
      obtain ⟨v1, v2, v3, v4⟩ := hv
      exact ⟨st, vs, x8, x9, ⟨v1, by omega, v3, v4⟩, rfl⟩
  rintro _ ⟨st, vs, x8, x9, hv, rfl⟩
  subst hT hO
  simp
  exact ⟨by omega, st, u, ss ++ [⟨u, vs⟩], x6, _, x8, x9, h.app hu hv, by simp; omega, by simp [slD]; rfl⟩
theorem fslots_run (st : List Int) (m : Mt) (hm : m.low ≤ m.high) (mo : Nat) (hmo : mo ≤ 50) (c : Int) : ∃ st', ∃ ss : List Sl, ss.length ≤ mo ∧ (∃ t, FSl m ss t) ∧ F_l_slots_1.run [iL st, .dat (mD m), .dat (.int mo), .dat (.int c)] = some (.dat (.tuple (ss.map slD)), [some (iL st'), none, none, none]) := by
  suffices h : Wp (F_l_slots_1.run [iL st, .dat (mD m), .dat (.int mo), .dat (.int c)]) fun q => ∃ st', ∃ ss : List Sl, ss.length ≤ mo ∧ (∃ t, FSl m ss t) ∧ q = (.dat (.tuple (ss.map slD)), [some (iL st'), none, none, none]) by
    obtain ⟨a, e, st', v, h1, h2, rfl⟩ := h; exact ⟨st', v, h1, h2, e⟩
  unfold F_l_slots_1
  refine fn_cut rfl rfl ?_
  generalize hC : some (Sv.dat (PyData.int c)) = C
  generalize hM : some (Sv.dat (PyData.int (mo : Int))) = M
  refine seq_cut (fun r => ∃ st t, r = [some (iL st), some (.dat (mD m)), M, C, some (.dat (.int t)), none, none, none, none, none]) (by subst hC; simp [l_take_run, hM]) ?_
  rintro _ ⟨st, t, rfl⟩
  refine seq_cut (fun r => r = [some (iL st), some (.dat (mD m)), M, C, some (.dat (.int t)), some (.own (.lst [])), none, none, none, none]) (by simp) ?_
  rintro _ rfl
  have p : 0 < (mo : Int) + 1 := by omega
  refine seq_cut (FsI m M C mo) ?_ ?_
  · have t1 := tk_lo st p
    have t2 := tk_hi st p
    simp [← hM, l_take_run _ p]
    rw [hM]
    refine ⟨by omega, for_int (fun i r => FsI m M C i r) ?_ ?_ ⟨_, t, [], _, _, _, _, ⟨by simp, by simp, by simp⟩, by simp, rfl⟩⟩
    · rintro i _ hi ⟨st, t, ss, x6, x7, x8, x9, h, hl, rfl⟩
      refine gN_cut (by simp) rfl ?_
      refine (fslots_body m hm M C i (by omega) st t ss _ x7 x8 x9 h hl).mono ?_
      rintro _ ⟨r, rfl, h⟩
      rw [rO_nx]
      exact h
    · rintro _ ⟨st, t, ss, x6, x7, x8, x9, h, hl, rfl⟩
      rw [kO_nx]
      exact ⟨st, t, ss, x6, x7, x8, x9, h, by omega, rfl⟩
  rintro _ ⟨st, t, ss, x6, x7, x8, x9, h, hl, rfl⟩
  simp
  exact ⟨_, ss, hl, ⟨t, h⟩, rfl, rfl⟩
/-- a history of these meters, of the second family -/
structure FHs (n : Nat) (ms : List Mt) (ls : List Lo) : Prop where
  len : ls.length = ms.length
  each : ∀ (i : Nat) (m : Mt) (l : Lo), ms[i]? = some m → ls[i]? = some l → FLg m n l
theorem fhist_run (len : Int) (ms : List Mt) (hms : ∀ m ∈ ms, m.low ≤ m.high ∧ 0 ≤ m.err ∧ m.err ≤ 100) (hl : ms.length ≤ 10) (mo : Nat) (hmo : mo ≤ 50) (c : Int) (st : List Int) : ∃ st' ls, FHs mo ms ls ∧ F_l_history_1.run [iL st, .dat (pD len ms), .dat (.int mo), .dat (.int c)] = some (.dat (.tuple (ls.map loD)), [some (iL st'), none, none, none]) := by
  suffices h : Wp (F_l_history_1.run [iL st, .dat (pD len ms), .dat (.int mo), .dat (.int c)]) fun q => ∃ st' ls, FHs mo ms ls ∧ q = (.dat (.tuple (ls.map loD)), [some (iL st'), none, none, none]) by
    obtain ⟨a, e, st', ls, h, rfl⟩ := h; exact ⟨st', ls, h, e⟩
  unfold F_l_history_1
  refine fn_cut rfl rfl ?_
  generalize hP : some (Sv.dat (pD len ms)) = P
  refine seq_cut (fun r => r = [some (iL st), P, some (.dat (.int mo)), some (.dat (.int c)), some (.own (.lst [])), none, none]) (by subst hP; simp) ?_
  rintro _ rfl
  refine seq_cut (fun r => ∃ st ls x y, FHs mo ms ls ∧ r = [some (iL st), P, some (.dat (.int mo)), some (.dat (.int c)), some (.own (.lst (ls.map loD))), x, y]) ?_ ?_
  · have key : ∀ Q, Wp (forL (gN 5) B_l_history_1_1 (ms.map mD) [some (iL st), P, some (.dat (.int mo)), some (.dat (.int c)), some (.own (.lst [])), none, none]) Q → Wp (sFor (iSeq (eOp2 opIx (oVar 1) (oNow (eC (.int 1))))) (gN 5) (B_l_history_1_1) [some (iL st), P, some (.dat (.int mo)), some (.dat (.int c)), some (.own (.lst [])), none, none]) Q := by
      intro Q h
      subst hP
      simp [pD]
      simpa [pD] using h
    refine key _ ?_
    refine for_map (f := mD) (fun k r => ∃ st, ∃ ls : List Lo, ∃ x y, (ls.length = k.length ∧ ∀ (i : Nat) (m : Mt) (l : Lo), ms[i]? = some m → ls[i]? = some l → FLg m mo l) ∧ r = [some (iL st), P, some (.dat (.int mo)), some (.dat (.int c)), some (.own (.lst (ls.map loD))), x, y]) ?_ ?_ ⟨st, [], none, none, ⟨rfl, by simp⟩, rfl⟩
    · rintro k m r _ e ⟨st, ls, x, y, ⟨h1, h2⟩, rfl⟩
      have hmm : m ∈ ms := by rw [e]; simp
      have em : ms[k.length]? = some m := by rw [e]; simp
      obtain ⟨lohi, e0, e1⟩ := hms m hmm
      refine gN_cut (by simp) rfl ?_
      unfold B_l_history_1_1
      have p : 0 < 2 * m.err + 1 := by omega
      refine seq_cut (fun r => ∃ st o, (-m.err ≤ o ∧ o ≤ m.err) ∧ r = [some (iL st), P, some (.dat (.int mo)), some (.dat (.int c)), some (.own (.lst (ls.map loD))), some (.dat (mD m)), some (.dat (.int o))]) ?_ ?_
      · have t1 := tk_lo st p
        have t2 := tk_hi st p
        have b1 := lg_small (x := m.err) (by omega)
        have b2 : lg 2 ≤ 63 := lg_small (by decide)
        have b3 : lg 2 + lg m.err < 100000000 := by omega
        have b4 : Nat.log2 2 = 1 := by decide
        simp [lg_fold, mD, l_take_run _ p, b4]
        exact ⟨by omega, by omega, by omega⟩
      rintro _ ⟨st, o, ho, rfl⟩
      obtain ⟨st', ss, s1, ⟨t, s2⟩, es⟩ := fslots_run st m lohi mo hmo c
      have kl : k.length < ms.length := (List.getElem?_eq_some_iff.mp em).1
      simp only [mD] at es
      simp [es, mD]
      refine ⟨by omega, st', ls ++ [⟨m.name, o, ss⟩], ⟨by simp [h1], fun i m' l a1 a2 => ?_⟩, rfl, by simp [loD]⟩
      by_cases hi : i < ls.length
      · rw [List.getElem?_append_left hi] at a2
        exact h2 i m' l a1 a2
      · have : i = ls.length := by
          have := (List.getElem?_eq_some_iff.mp a2).1
          simp at this
          omega
        subst this
        rw [List.getElem?_append_right (Nat.le_refl _), Nat.sub_self] at a2
        simp at a2
        rw [h1, em] at a1
        cases a1
        rw [← a2]
        exact ⟨rfl, ho, s1, s2.each, s2.mono⟩
    · rintro _ ⟨st, ls, x, y, ⟨h1, h2⟩, rfl⟩
      rw [kO_nx]
      exact ⟨st, ls, x, y, ⟨h1, h2⟩, rfl⟩
  rintro _ ⟨st, ls, x, y, h, rfl⟩
  simp
  exact ⟨_, ls, h, rfl, rfl⟩
theorem fshift_run (ns st : List Int) (hl : ns.length ≤ 1000) : ∃ st' c, F_l_shift.run [iL st, iS ns] = some (.dat (.int c), [some (iL st'), none]) := by
  suffices h : Wp (F_l_shift.run [iL st, iS ns]) fun q => ∃ st' c, q = (.dat (.int c), [some (iL st'), none]) by
    obtain ⟨a, e, st', c, rfl⟩ := h; exact ⟨st', c, e⟩
  unfold F_l_shift
  refine fn_cut rfl rfl ?_
  generalize hS : some (iS ns) = S
  refine seq_cut (fun r => ∃ st, r = [some (iL st), S]) ?_ ?_
  · simp [l_take_run]
    refine wIf_d (fun _ => ?_) fun _ => ?_
    · simp [← hS, l_cell_run _ _ hl]
    · simp [hS]
  rintro _ ⟨st, rfl⟩
  simp
end Lw
namespace Lw
open PySem PySem.Spec PyProof.Rows L2 DL
theorem fclose_run (l : Lo) (hl : l.slots.length ≤ 100) (mono : l.slots.Pairwise fun a b => a.stamp ≤ b.stamp) (n : Int) (hn : 0 ≤ n ∧ n ≤ l.slots.length) (more : Int) (hm : 0 ≤ more) : ∃ d, MayT l d ∧ F_l_close_2.run [.dat (loD l), .dat (.int n), .dat (.int more)] = some (.dat d, [none, none, none]) := by
  suffices h : Wp (F_l_close_2.run [.dat (loD l), .dat (.int n), .dat (.int more)]) fun q => ∃ d, MayT l d ∧ q = (.dat d, [none, none, none]) by
    obtain ⟨a, e, d, h, rfl⟩ := h; exact ⟨d, h, e⟩
  unfold F_l_close_2
  refine fn_cut rfl rfl ?_
  refine seq_cut (fun r => r = [some (.dat (loD l)), some (.dat (.int n)), some (.dat (.int more)), some (.dat (.int more)), none]) (by simp) ?_
  rintro _ rfl
  -- the stamp behind the slots that are closed
  refine seq_cut (fun r => ∃ t, (∀ i (hi : i < l.slots.length), (i : Int) < n → l.slots[i].stamp < t) ∧ r = [some (.dat (loD l)), some (.dat (.int n)), some (.dat (.int more)), some (.dat (.int t)), none]) ?_ ?_
  · simp
    refine wIf_d (fun h => ?_) fun h => ?_
    · obtain ⟨s, e1, e2⟩ := at_int (f := slD) (xs := l.slots) (i := n - 1) (by omega) (by omega)
      obtain ⟨q1, q2⟩ := at_some e1
      simp [loD, e2, slD]
      intro i hi h2
      have := stamp_mono mono q1 (i := i) (by omega)
      rw [q2] at this
      omega
    · simp
      intro i hi h2
      omega
  rintro _ ⟨t, ht, rfl⟩
  refine seq_cut (fun r => ∃ t, ((n = l.slots.length ∧ ∀ i (hi : i < l.slots.length), (i : Int) < n → l.slots[i].stamp < t) ∨ (n < l.slots.length ∧ ∀ i (hi : i < l.slots.length), n ≤ (i : Int) → t ≤ l.slots[i].stamp)) ∧ r = [some (.dat (loD l)), some (.dat (.int n)), some (.dat (.int more)), some (.dat (.int t)), none]) ?_ ?_
  · simp [loD]
    refine wIf_d (fun h => ?_) fun h => ?_
    · obtain ⟨s, e1, e2⟩ := at_int (f := slD) (xs := l.slots) (i := n) (by omega) (by omega)
      obtain ⟨q1, q2⟩ := at_some e1
      simp [loD, e2, slD]
      refine .inr ⟨h, fun i hi h2 => ?_⟩
      have := stamp_mono mono hi (i := n.toNat) (by omega)
      rw [q2] at this
      omega
    · simp
      exact .inl ⟨by omega, ht⟩
  rintro _ ⟨t2, ht2, rfl⟩
  refine seq_cut (fun r => (∀ i (hi : i < l.slots.length), l.slots[i].stamp < t2 ↔ (i : Int) < n) ∧ r = [some (.dat (loD l)), some (.dat (.int n)), some (.dat (.int more)), some (.dat (.int t2)), none]) ?_ ?_
  · rcases ht2 with ⟨e, h⟩ | ⟨lt, h⟩
    · have nlt : ¬ n < (l.slots.length : Int) := by omega
      simp [loD, nlt]
      intro i hi
      have := h i hi (by omega)
      omega
    · by_cases c : 0 < n
      · obtain ⟨s, e1, e2⟩ := at_int (f := slD) (xs := l.slots) (i := n - 1) (by omega) (by omega)
        obtain ⟨q1, q2⟩ := at_some e1
        by_cases c2 : t2 ≤ s.stamp
        · simp [loD, lt, c, e2, slD, c2]
          exact .inl rfl
        · simp [loD, lt, c, e2, slD, c2]
          intro i hi
          constructor
          · intro z
            apply Classical.byContradiction
            intro ng
            have := h i hi (by omega)
            omega
          · intro z
            have := stamp_mono mono q1 (i := i) (by omega)
            rw [q2] at this
            omega
      · simp [loD, lt, c]
        intro i hi
        have := h i hi (by omega)
        omega
  rintro _ ⟨h, rfl⟩
  have cut := gsum_cut l.slots n hn.1
  simp [loD, cut]
  rw [← List.map_take]
  refine ⟨by omega, lc_ma (f := slD) (fun s => .int (s.vers.length : Int)) (fun s _ => by simp [slD]) ?_⟩
  simp [gsum_ints]
  exact .inr ⟨.close l.name n t2 (nV (l.slots.take n.toNat)), tl_close hn.1 hn.2 rfl h, by simp [ltD, nV]⟩
def FlI (H : Option Sv) (sh : Int) (l : Lo) (P : Lt → Prop) (n : Nat) (r : Ev) : Prop := ∃ st ts x5 x6 x7 x8, Lq P n ts ∧ r = [some (iL st), H, some (.dat (.int sh)), some (.own (.lst (ts.map ltD))), some (.dat (loD l)), x5, x6, x7, x8]
theorem fletters_body (H : Option Sv) (sh : Int) (l : Lo) (P : Lt → Prop) (hp : ∀ t, TL l t → P t) (hl : l.slots.length ≤ 100) (hv : ∀ s ∈ l.slots, s.vers.length ≤ 8) (mono : l.slots.Pairwise fun a b => a.stamp ≤ b.stamp) (n : Nat) (hn : n ≤ 50000) (st : List Int) (ts : List Lt) (h : Lq P n ts) (x5 x6 x7 x8 : Option Sv) :
    Wp (B_l_letters_4 [some (iL st), H, some (.dat (.int sh)), some (.own (.lst (ts.map ltD))), some (.dat (loD l)), x5, x6, x7, x8]) fun o => ∃ r, o = .nx r ∧ FlI H sh l P (n + 900) r := by
  unfold B_l_letters_4
  refine seq_cut (FlI H sh l P (n + 800)) ?_ ?_
  · simp [loD]
    refine ⟨by omega, ?_⟩
    refine for_int (fun i r => FlI H sh l P (n + 8 * i) r) ?_ ?_ ⟨st, ts, x5, x6, x7, x8, h, by simp [loD]⟩
    · rintro i _ hi ⟨st, ts, x5, x6, x7, x8, h, rfl⟩
      refine gN_cut (by simp) rfl ?_
      have q1 := gat_nat (f := slD) hi
      have fs := hv l.slots[i] (List.getElem_mem _)
      obtain ⟨s, es⟩ : ∃ s, s = l.slots[i] := ⟨_, rfl⟩
      rw [← es] at q1 fs
      rw [show (0 : Int) + (i : Int) = (i : Int) by omega]
      unfold B_l_letters_2
      simp [loD, q1, slD]
      refine ⟨by omega, ?_⟩
      refine for_int (fun j r => ∃ st ts x6, Lq P (n + 8 * i + j) ts ∧ r = [some (iL st), H, some (.dat (.int sh)), some (.own (.lst (ts.map ltD))), some (.dat (loD l)), some (.dat (.int (i : Int))), x6, x7, x8]) ?_ ?_ ⟨st, ts, x6, h, by simp [loD]⟩
      · rintro j _ hj ⟨st, ts, x6, h, rfl⟩
        refine gN_cut (by simp) rfl ?_
        rw [show (0 : Int) + (j : Int) = (j : Int) by omega]
        have q4 := gat_nat (f := oD) hj
        obtain ⟨v, ev⟩ : ∃ v, v = s.vers[j] := ⟨_, rfl⟩
        rw [← ev] at q4
        have hb := h.2
        have tr : trR l.slots ((i : Int) + 1) j s.stamp v = true := (trR_iff (by omega)).mpr ⟨by omega, by simp only [show ((i : Int) + 1).toNat - 1 = i by omega]; rw [← es], by simp only [show ((i : Int) + 1).toNat - 1 = i by omega]; rw [← es]; omega, by simp only [show ((i : Int) + 1).toNat - 1 = i by omega]; rw [← es, ev]; simp [hj]⟩
        unfold B_l_letters_1
        simp [l_take_run]
        refine wIf_d (fun _ => ?_) fun _ => ?_
        · simp [loD, q1, slD, q4]
          exact ⟨by omega, _, ts ++ [.read l.name ((i : Int) + 1) j s.stamp v], Lq.app h (t := .read l.name ((i : Int) + 1) j s.stamp v) (hp (.read l.name ((i : Int) + 1) j s.stamp v) ⟨⟨by omega, by omega⟩, rfl, tr⟩), rfl, by simp [ltD]⟩
        · simp
          exact ⟨_, ts, Lq.up h (by omega), rfl, rfl⟩
      · rintro _ ⟨st, ts, x6, h, rfl⟩
        simp
        exact ⟨st, ts, some (.dat (.int (i : Int))), x6, x7, x8, Lq.up h (by omega), by simp [loD]⟩
    · rintro _ ⟨st, ts, x5, x6, x7, x8, h, rfl⟩
      simp
      exact ⟨st, ts, x5, x6, x7, x8, Lq.up h (by omega), rfl⟩
  rintro _ ⟨st, ts, x5, x6, x7, x8, h, rfl⟩
  refine seq_cut (FlI H sh l P (n + 804)) ?_ ?_
  · have t1 := tk_lo st (m := 4) (by decide)
    have t2 := tk_hi st (m := 4) (by decide)
    simp [l_take_run]
    refine ⟨by omega, for_int (fun i r => FlI H sh l P (n + 800 + i) r) ?_ ?_ ⟨_, ts, x5, x6, x7, x8, h, rfl⟩⟩
    · rintro i _ hi ⟨st, ts, x5, x6, x7, x8, h, rfl⟩
      refine gN_cut (by simp) rfl ?_
      generalize some (Sv.dat (PyData.int (0 + (i : Int)))) = kk
      have hb := h.2
      unfold B_l_letters_3
      have pl : 0 < (l.slots.length : Int) + 1 := by omega
      refine seq_cut (fun r => ∃ st, ∃ k : Int, (0 ≤ k ∧ k ≤ l.slots.length) ∧ r = [some (iL st), H, some (.dat (.int sh)), some (.own (.lst (ts.map ltD))), some (.dat (loD l)), kk, x6, some (.dat (.int k)), x8]) ?_ ?_
      · have t3 := tk_lo st pl
        have t4 := tk_hi st pl
        simp [loD, l_take_run _ pl, l_take_run]
        refine wO_at (tk_lo _ (by decide)) (tk_hi _ (by decide)) fun d hd => ?_
        simp at hd
        rcases hd with rfl | rfl <;> simp <;> omega
      rintro _ ⟨st, k, hk, rfl⟩
      have t5 := tk_lo st (m := 4) (by decide)
      obtain ⟨d, hd, ed⟩ := fclose_run l hl mono k hk (tkV st 4) t5
      refine seq_cut (fun r => r = [some (iL (tkS st)), H, some (.dat (.int sh)), some (.own (.lst (ts.map ltD))), some (.dat (loD l)), kk, x6, some (.dat (.int k)), some (.dat d)]) (by simp [l_take_run, ed]) ?_
      rintro _ rfl
      rcases hd with rfl | ⟨t, k1, rfl⟩
      · simp
        exact ⟨_, ts, _, _, _, _, Lq.up h (by omega), rfl⟩
      · have h2 := (Lq.app h (hp t k1)).up (m := n + 800 + (i + 1)) (by omega)
        have fin : FlI H sh l P (n + 800 + (i + 1)) [some (iL (tkS st)), H, some (.dat (.int sh)), some (.own (.lst (ts.map ltD ++ [ltD t]))), some (.dat (loD l)), kk, x6, some (.dat (.int k)), some (.dat (ltD t))] := ⟨tkS st, ts ++ [t], kk, x6, some (.dat (.int k)), some (.dat (ltD t)), h2, by simp⟩
        cases t <;>
        · simp [ltD] at fin ⊢
          exact ⟨by omega, fin⟩
    · rintro _ ⟨st, ts, x5, x6, x7, x8, h, rfl⟩
      rw [kO_nx]
      exact ⟨st, ts, x5, x6, x7, x8, Lq.up h (by omega), rfl⟩
  rintro _ ⟨st, ts, x5, x6, x7, x8, h, rfl⟩
  have hb := h.2
  have t1 := tk_lo (tkS st) (m := 2) (by decide)
  have t2 := tk_lo (tkS (tkS st)) (m := 3) (by decide)
  have tck : trL l (.clock l.name (l.off - tkV (tkS st) 2) (l.off + tkV (tkS (tkS st)) 3)) = true := by
    simp only [trL, Bool.and_eq_true, decide_eq_true_iff]
    omega
  simp [l_take_run]
  refine wIf_d (fun _ => ?_) fun _ => ?_
  · simp [l_take_run, loD]
    refine ⟨by omega, tkS (tkS (tkS st)), ts ++ [.clock l.name (l.off - tkV (tkS st) 2) (l.off + tkV (tkS (tkS st)) 3)], x5, x6, x7, x8, (Lq.app h (t := .clock l.name (l.off - tkV (tkS st) 2) (l.off + tkV (tkS (tkS st)) 3)) (hp (.clock l.name (l.off - tkV (tkS st) 2) (l.off + tkV (tkS (tkS st)) 3)) ⟨trivial, rfl, tck⟩)).up (by omega), ?_⟩
    simp [ltD, loD]
  · simp
    exact ⟨_, ts, x5, x6, x7, x8, Lq.up h (by omega), rfl⟩
theorem fletters_run (ls : List Lo) (P : Lt → Prop) (hp : ∀ l ∈ ls, ∀ t, TL l t → P t) (hn : ls.length ≤ 10) (hl : ∀ l ∈ ls, l.slots.length ≤ 100 ∧ (∀ s ∈ l.slots, s.vers.length ≤ 8) ∧ l.slots.Pairwise fun a b => a.stamp ≤ b.stamp) (sh : Int) (st : List Int) : ∃ st' ts, Lq P 9000 ts ∧ F_l_letters.run [iL st, .dat (.tuple (ls.map loD)), .dat (.int sh)] = some (.own (.lst (ts.map ltD)), [some (iL st'), none, none]) := by
  suffices h : Wp (F_l_letters.run [iL st, .dat (.tuple (ls.map loD)), .dat (.int sh)]) fun q => ∃ st' ts, Lq P 9000 ts ∧ q = (.own (.lst (ts.map ltD)), [some (iL st'), none, none]) by
    obtain ⟨a, e, st', ts, h, rfl⟩ := h; exact ⟨st', ts, h, e⟩
  unfold F_l_letters
  refine fn_cut rfl rfl ?_
  generalize hH : Sv.dat (PyData.tuple (ls.map loD)) = hist
  refine seq_cut (fun r => r = [some (iL st), some hist, some (.dat (.int sh)), some (.own (.lst [])), none, none, none, none, none]) (by simp) ?_
  rintro _ rfl
  refine seq_cut (fun r => ∃ st ts x4 x5 x6 x7 x8, Lq P 9000 ts ∧ r = [some (iL st), some hist, some (.dat (.int sh)), some (.own (.lst (ts.map ltD))), x4, x5, x6, x7, x8]) ?_ ?_
  · have : ∀ Q, Wp (forL (gN 4) B_l_letters_4 (ls.map loD) [some (iL st), some hist, some (.dat (.int sh)), some (.own (.lst [])), none, none, none, none, none]) Q → Wp (sFor (iSeq (eVar 1)) (gN 4) B_l_letters_4 [some (iL st), some hist, some (.dat (.int sh)), some (.own (.lst [])), none, none, none, none, none]) Q := by
      intro Q h
      subst hH
      simp
      simpa using h
    refine this _ ?_
    refine for_map (fun k r => ∃ st ts x4 x5 x6 x7 x8, Lq P (900 * k.length) ts ∧ r = [some (iL st), some hist, some (.dat (.int sh)), some (.own (.lst (ts.map ltD))), x4, x5, x6, x7, x8]) ?_ ?_ ⟨st, [], none, none, none, none, none, ⟨by simp, by simp⟩, rfl⟩
    · rintro k l m _ e ⟨st, ts, x4, x5, x6, x7, x8, h, rfl⟩
      refine gN_cut (by simp) rfl ?_
      have hlm : l ∈ ls := by rw [e]; simp
      have hk : k.length ≤ 10 := by rw [e] at hn; simp at hn; omega
      obtain ⟨q1, q2, q3⟩ := hl l hlm
      refine (fletters_body (some hist) sh l P (hp l hlm) q1 q2 q3 (900 * k.length) (by omega) st ts h x5 x6 x7 x8).mono ?_
      rintro _ ⟨r, rfl, st, ts, x5, x6, x7, x8, h, rfl⟩
      rw [rO_nx]
      exact ⟨st, ts, _, x5, x6, x7, x8, Lq.up h (by simp; omega), rfl⟩
    · rintro _ ⟨st, ts, x4, x5, x6, x7, x8, h, rfl⟩
      rw [kO_nx]
      exact ⟨st, ts, x4, x5, x6, x7, x8, Lq.up h (by omega), rfl⟩
  rintro _ ⟨st, ts, x4, x5, x6, x7, x8, h, rfl⟩
  simp
  exact ⟨_, ts, h, rfl, rfl⟩
/-- the same letters in some order, some twice -/
structure MxOk (ts us : List Lt) : Prop where
  mem : ∀ t, t ∈ us ↔ t ∈ ts
  len : us.length ≤ 2 * ts.length
theorem fmixed_run (ts : List Lt) (hl : ts.length ≤ 100000) (st : List Int) : ∃ st' us, MxOk ts us ∧ F_l_mixed.run [iL st, .dat (.list (ts.map ltD))] = some (.own (.lst (us.map ltD)), [some (iL st'), none]) := by
  suffices h : Wp (F_l_mixed.run [iL st, .dat (.list (ts.map ltD))]) fun q => ∃ st' us, MxOk ts us ∧ q = (.own (.lst (us.map ltD)), [some (iL st'), none]) by
    obtain ⟨a, e, st', us, h, rfl⟩ := h; exact ⟨st', us, h, e⟩
  unfold F_l_mixed
  refine fn_cut rfl rfl ?_
  generalize hA : Sv.dat (PyData.list (ts.map ltD)) = A
  refine seq_cut (fun r => r = [some (iL st), some A, some (.own (.lst [])), none]) (by simp) ?_
  rintro _ rfl
  refine seq_cut (fun r => ∃ st us x, MxOk ts us ∧ r = [some (iL st), some A, some (.own (.lst (us.map ltD))), x]) ?_ ?_
  · have : ∀ Q, Wp (forL (gN 3) B_l_mixed_1 (ts.map ltD) [some (iL st), some A, some (.own (.lst [])), none]) Q → Wp (sFor (iSeq (eVar 1)) (gN 3) B_l_mixed_1 [some (iL st), some A, some (.own (.lst [])), none]) Q := by
      intro Q h
      subst hA
      simp
      simpa using h
    refine this _ ?_
    refine for_map (fun k r => ∃ st us x, MxOk k us ∧ r = [some (iL st), some A, some (.own (.lst (us.map ltD))), x]) ?_ ?_ ⟨st, [], none, ⟨fun _ => Iff.rfl, by simp⟩, rfl⟩
    · rintro k t m _ e ⟨st, us, x, h, rfl⟩
      refine gN_cut (by simp) rfl ?_
      have hk : k.length ≤ 100000 := by rw [e] at hl; simp at hl; omega
      have ul := h.len
      have p : 0 < (us.length : Int) + 1 := by omega
      have t1 := tk_lo st p
      have t2 := tk_hi st p
      unfold B_l_mixed_1
      have b1 : tkV st ((us.length : Int) + 1) < 9223372036854775808 := by omega
      refine seq_cut (fun r => ∃ vs : List Lt, (∀ z, z ∈ vs ↔ z ∈ k ++ [t]) ∧ vs.length = us.length + 1 ∧ r = [some (iL (tkS st)), some A, some (.own (.lst (vs.map ltD))), some (.dat (ltD t))]) ?_ ?_
      · simp [l_take_run _ p, t1, b1]
        refine ⟨by omega, us.take (tkV st ((us.length : Int) + 1)).toNat ++ t :: us.drop (tkV st ((us.length : Int) + 1)).toNat, fun z => ?_, by simp; omega, by simp⟩
        rw [← h.mem z]
        have e9 := List.take_append_drop (tkV st ((us.length : Int) + 1)).toNat us
        constructor
        · intro q
          rcases List.mem_append.mp q with q | q
          · exact .inl (List.mem_of_mem_take q)
          · rcases List.mem_cons.mp q with q | q
            · exact .inr q
            · exact .inl (List.mem_of_mem_drop q)
        · rintro (q | q)
          · rw [← e9] at q
            rcases List.mem_append.mp q with q | q
            · exact List.mem_append_left _ q
            · exact List.mem_append_right _ (List.mem_cons_of_mem _ q)
          · exact List.mem_append_right _ (by rw [q]; exact List.mem_cons_self)
      rintro _ ⟨vs, v1, v2, rfl⟩
      simp [l_take_run]
      refine wIf_d (fun _ => ?_) fun _ => ?_
      · simp
        refine ⟨by omega, _, vs ++ [t], ⟨fun z => ?_, by simp; omega⟩, rfl, by simp⟩
        rw [List.mem_append, v1 z]
        simp
      · simp
        exact ⟨_, vs, ⟨v1, by simp; omega⟩, rfl, rfl⟩
    · rintro _ ⟨st, us, x, h, rfl⟩
      rw [kO_nx]
      exact ⟨st, us, x, h, rfl⟩
  rintro _ ⟨st, us, x, h, rfl⟩
  simp
  exact ⟨_, us, h, rfl, rfl⟩
end Lw
namespace Lw
open PySem PySem.Spec PyProof.Rows L2 DL
/-- data that is the same as itself, as the law looks at it -/
def okS : Nat → D → Prop
  | 0, _ => False
  | n + 1, .tuple xs => xs.length ≤ 1000000 ∧ ∀ x ∈ xs, okS n x
  | n + 1, .list xs => xs.length ≤ 1000000 ∧ ∀ x ∈ xs, okS n x
  | _ + 1, .dict _ => False
  | _ + 1, _ => True
theorem okS_int {n : Nat} {i : Int} : okS (n + 1) (.int i) := trivial
theorem okS_str {n : Nat} {i : Str} : okS (n + 1) (.str i) := trivial
theorem okS_none {n : Nat} : okS (n + 1) .none := trivial
theorem okS_bool {n : Nat} {b : Bool} : okS (n + 1) (.bool b) := trivial
theorem okS_oD {n : Nat} {o : Option Int} : okS (n + 1) (oD o) := by cases o <;> trivial
theorem same_loop (n : Nat) (A B : Option Sv) (xs : List D) (hA : A = some (.dat (.tuple xs)) ∨ A = some (.dat (.list xs))) (hB : B = A) (hl : xs.length ≤ 1000000) (h : ∀ x ∈ xs, (F_l_same_1 n).run [.dat x, .dat x] = some (.dat (.bool true), [none, none])) {Q : Out → Prop} (hq : ∀ x, Q (.nx [A, B, x])) :
    Wp (forL (gN 2) (sIf (tNt (tB (eCall (F_l_same_1 n) (aCons (oNow (eOp2 opIx (oVar 0) (oVar 2))) (aCons (oNow (eOp2 opIx (oVar 1) (oVar 2))) (aNil)))))) (sRet (eC (.bool false))) (sNil)) (intsR 0 xs.length) [A, B, none]) Q := by
  refine for_int (fun i r => ∃ x, r = [A, B, x]) ?_ ?_ ⟨none, rfl⟩
  · rintro i _ hi ⟨x, rfl⟩
    refine gN_cut (by simp) rfl ?_
    rw [show (0 : Int) + (i : Int) = (i : Int) by omega]
    have q : atI xs (i : Int) = some xs[i] := by
      unfold atI
      rw [ixN_pos (by omega) (by omega), Option.bind_some]
      simp [hi]
    have r := h xs[i] (List.getElem_mem _)
    generalize xs[i] = y at q r
    subst hB
    rcases hA with rfl | rfl <;> simp [q, r]
  · rintro _ ⟨x, rfl⟩
    exact hq x
theorem same_self : ∀ (n : Nat) (d : D), okS n d → (F_l_same_1 n).run [.dat d, .dat d] = some (.dat (.bool true), [none, none])
  | 0, _, h => h.elim
  | n + 1, d, h => by
    refine Wp.eq ?_
    cases d with
    | none => rw [F_l_same_1]; simp
    | bool b => rw [F_l_same_1]; simp
    | int i => rw [F_l_same_1]; simp
    | str s => rw [F_l_same_1]; simp
    | dict kv => exact h.elim
    | tuple xs =>
      obtain ⟨h1, h2⟩ := h
      rw [F_l_same_1]
      simp
      refine ⟨by omega, same_loop n _ _ xs (.inl rfl) rfl h1 (fun x hx => same_self n x (h2 x hx)) fun x => ?_⟩
      simp
    | list xs =>
      obtain ⟨h1, h2⟩ := h
      rw [F_l_same_1]
      simp
      refine ⟨by omega, same_loop n _ _ xs (.inr rfl) rfl h1 (fun x hx => same_self n x (h2 x hx)) fun x => ?_⟩
      simp
end Lw
namespace Lw
open PySem PySem.Spec PyProof.Rows L2 DL
theorem pl2 : F_l_plan_2 = F_l_plan_3 := rfl
theorem LowOk.uniq {err : Int} {K : List (Int × Int)} {lo hi lo' hi' : Int} (h : LowOk err K lo hi) (k : LowOk err K lo' hi') : lo = lo' ∧ hi = hi' := by
  have a1 := h.l0; have a2 := h.h0; have b1 := k.l0; have b2 := k.h0
  refine ⟨?_, ?_⟩
  · have x : lo ≤ lo' := by
      rcases h.l2 with e | ⟨c, hc, e⟩
      · omega
      · have := k.l1 c hc; omega
    have y : lo' ≤ lo := by
      rcases k.l2 with e | ⟨c, hc, e⟩
      · omega
      · have := h.l1 c hc; omega
    omega
  · have x : hi' ≤ hi := by
      rcases h.h2 with e | ⟨c, hc, e⟩
      · omega
      · have := k.h1 c hc; omega
    have y : hi ≤ hi' := by
      rcases k.h2 with e | ⟨c, hc, e⟩
      · omega
      · have := h.h1 c hc; omega
    omega
theorem LowOk.mem {err : Int} {K K' : List (Int × Int)} {lo hi : Int} (h : LowOk err K lo hi) (e : ∀ c, c ∈ K ↔ c ∈ K') : LowOk err K' lo hi :=
  ⟨h.l0, h.h0, fun c hc => h.l1 c ((e c).mpr hc), fun c hc => h.h1 c ((e c).mpr hc), h.l2.imp id fun ⟨c, hc, q⟩ => ⟨c, (e c).mp hc, q⟩, h.h2.imp id fun ⟨c, hc, q⟩ => ⟨c, (e c).mp hc, q⟩⟩
theorem left_run {len : Int} {ms : List Mt} {m : Mt} (nd : (ms.map (·.name)).Nodup) (hm : ms.length ≤ 1000) (hmt : m ∈ ms) (L : D) (ts : List Lt) (h : IsTs L ts) {lo hi : Int} (k : LowOk m.err (cksO m.name ts) lo hi) : F_p_offsets_left.run [.dat (pD len ms), .dat L, .dat (.str m.name)] = some (.dat (.tuple [.int lo, .int hi]), [none, none, none]) := by
  obtain ⟨lo', hi', k', e⟩ := offsets_run (len := len) nd hm hmt L ts h
  obtain ⟨rfl, rfl⟩ := k.uniq k'
  refine Wp.eq ?_
  unfold F_p_offsets_left
  simp [e]
def wide (m : Mt) : Mt := ⟨m.name, m.low, m.high, 60⟩
theorem wide_run (st : List Int) (len : Int) (ms : List Mt) (hm : FPl ms) : ∃ st' ks, (ks = ms ∨ ks = ms.map wide) ∧ F_l_wide.run [iL st, .dat (pD len ms)] = some (.dat (pD len ks), [some (iL st'), none]) := by
  suffices h : Wp (F_l_wide.run [iL st, .dat (pD len ms)]) fun q => ∃ st' ks, (ks = ms ∨ ks = ms.map wide) ∧ q = (.dat (pD len ks), [some (iL st'), none]) by
    obtain ⟨a, e, st', ks, h, rfl⟩ := h; exact ⟨st', ks, h, e⟩
  have many := hm.many
  unfold F_l_wide
  refine fn_cut rfl rfl ?_
  generalize hP : some (Sv.dat (pD len ms)) = P
  refine seq_cut (fun r => ∃ st, r = [some (iL st), P, none]) ?_ ?_
  · simp [l_take_run]
    refine wIf_d (fun _ => ?_) fun _ => ?_
    · subst hP
      simp
    · simp [hP]
  rintro _ ⟨st, rfl⟩
  subst hP
  simp [pD]
  refine ⟨by omega, lc_ma (f := mD) (fun m => mD (wide m)) (fun m _ => by simp [mD, wide]) ?_⟩
  simp
theorem clocks_run (ns : List Int) (hl : ns.length ≤ 1000) (ls : List Lo) (hls : 0 < ls.length ∧ ls.length ≤ 10) (P : Lt → Prop) (hp : ∀ l ∈ ls, ∀ t, TL l t → P t) (st : List Int) : ∃ st' ts, Lq P 6 ts ∧ F_l_clocks_1.run [iL st, iS ns, .dat (.tuple (ls.map loD))] = some (.own (.lst (ts.map ltD)), [some (iL st'), none, none]) := by
  suffices h : Wp (F_l_clocks_1.run [iL st, iS ns, .dat (.tuple (ls.map loD))]) fun q => ∃ st' ts, Lq P 6 ts ∧ q = (.own (.lst (ts.map ltD)), [some (iL st'), none, none]) by
    obtain ⟨a, e, st', ts, h, rfl⟩ := h; exact ⟨st', ts, h, e⟩
  unfold F_l_clocks_1
  refine fn_cut rfl rfl ?_
  generalize hS : some (iS ns) = S
  refine seq_cut (fun r => r = [some (iL st), S, some (.dat (.tuple (ls.map loD))), some (.own (.lst [])), none, none, none, none]) (by simp [hS]) ?_
  rintro _ rfl
  refine seq_cut (fun r => ∃ st ts a b c d, Lq P 6 ts ∧ r = [some (iL st), S, some (.dat (.tuple (ls.map loD))), some (.own (.lst (ts.map ltD))), a, b, c, d]) ?_ ?_
  · have t1 := tk_lo st (m := 6) (by decide)
    have t2 := tk_hi st (m := 6) (by decide)
    simp [l_take_run]
    refine ⟨by omega, for_int (fun i r => ∃ st ts a b c d, Lq P i ts ∧ r = [some (iL st), S, some (.dat (.tuple (ls.map loD))), some (.own (.lst (ts.map ltD))), a, b, c, d]) ?_ ?_ ⟨_, [], none, none, none, none, ⟨by simp, by simp⟩, rfl⟩⟩
    · rintro i _ hi ⟨st, ts, a, b, c, d, h, rfl⟩
      refine gN_cut (by simp) rfl ?_
      generalize some (Sv.dat (PyData.int (0 + (i : Int)))) = kk
      have hb := h.2
      have pp : 0 < (ls.length : Int) := by omega
      obtain ⟨l, x1, x2⟩ := at_int (f := loD) (xs := ls) (tk_lo st pp) (tk_hi st pp)
      have hlm := List.mem_of_getElem? x1
      unfold B_l_clocks_1_1
      refine seq_cut (fun r => r = [some (iL (tkS st)), S, some (.dat (.tuple (ls.map loD))), some (.own (.lst (ts.map ltD))), kk, some (.dat (loD l)), c, d]) (by simp [l_take_run _ pp, x2]) ?_
      rintro _ rfl
      generalize tkS st = st
      generalize hH : some (Sv.dat (PyData.tuple (ls.map loD))) = HH
      refine seq_cut (fun r => ∃ st k, k ≤ l.off ∧ r = [some (iL st), S, HH, some (.own (.lst (ts.map ltD))), kk, some (.dat (loD l)), some (.dat (.int k)), d]) ?_ ?_
      · simp [← hS, l_cell_run _ _ hl, l_take_run, loD]
        refine wO_at (tk_lo _ (by decide)) (tk_hi _ (by decide)) fun x hx => ?_
        simp at hx
        rcases hx with rfl | rfl | rfl | rfl <;> simp <;> omega
      rintro _ ⟨st, k, hk, rfl⟩
      refine seq_cut (fun r => ∃ st q, l.off ≤ q ∧ r = [some (iL st), S, HH, some (.own (.lst (ts.map ltD))), kk, some (.dat (loD l)), some (.dat (.int k)), some (.dat (.int q))]) ?_ ?_
      · simp [← hS, l_cell_run _ _ hl, l_take_run, loD]
        refine wO_at (tk_lo _ (by decide)) (tk_hi _ (by decide)) fun x hx => ?_
        simp at hx
        rcases hx with rfl | rfl | rfl | rfl <;> simp <;> omega
      rintro _ ⟨st, q, hq, rfl⟩
      have tr : trL l (.clock l.name k q) = true := by
        simp only [trL, Bool.and_eq_true, decide_eq_true_iff]
        exact ⟨hk, hq⟩
      simp [loD]
      exact ⟨by omega, st, ts ++ [Lt.clock l.name k q], Lq.app h (t := .clock l.name k q) (hp l hlm _ ⟨trivial, rfl, tr⟩), rfl, by simp [ltD]⟩
    · rintro _ ⟨st, ts, a, b, c, d, h, rfl⟩
      rw [kO_nx]
      exact ⟨st, ts, a, b, c, d, Lq.up h (by omega), rfl⟩
  rintro _ ⟨st, ts, a, b, c, d, h, rfl⟩
  simp
  exact ⟨_, ts, h, rfl, rfl⟩
theorem cks_map2 (nm : Str) (ts : List Lt) : (ts.filter fun t => (ckO nm t).isSome).map ltD = (cksO nm ts).map (ckD nm) := cks_map nm ts
theorem fms_one {ms : List Mt} (nd : (ms.map (·.name)).Nodup) {m : Mt} (h : m ∈ ms) : (ms.filter fun k => k.name == m.name) = [m] := by
  induction ms with
  | nil => cases h
  | cons k ms ih =>
    rw [List.map_cons, List.nodup_cons] at nd
    rcases List.mem_cons.mp h with rfl | h
    · rw [List.filter_cons_of_pos (by simp)]
      congr 1
      rw [List.filter_eq_nil_iff]
      intro x hx
      have : x.name ≠ m.name := fun e => nd.1 (List.mem_map.mpr ⟨x, hx, e⟩)
      simpa using this
    · have : k.name ≠ m.name := fun e => nd.1 (List.mem_map.mpr ⟨m, h, e.symm⟩)
      rw [List.filter_cons_of_neg (by simpa using this)]
      exact ih nd.2 h
theorem offs_run {len : Int} {ms : List Mt} {m : Mt} (nd : (ms.map (·.name)).Nodup) (hm : ms.length ≤ 1000) (hmt : m ∈ ms) (he : m.err ≤ 100) (ts : List Lt) (hl : ts.length ≤ 100000) {lo hi : Int} (k : LowOk m.err (cksO m.name ts) lo hi) (le : lo ≤ hi) : F_l_offsets.run [.dat (pD len ms), .dat (.list (ts.map ltD)), .dat (.str m.name)] = some (.own (.lst ((List.range (hi - lo + 1).toNat).map fun (i : Nat) => .int (lo + i))), [none, none, none]) := by
  obtain ⟨rfl, rfl⟩ := k.uniq (low_law m.err (cksO m.name ts))
  have k0 := k.l0
  have k1 := k.h0
  refine Wp.eq ?_
  unfold F_l_offsets
  refine fn_cut rfl rfl ?_
  have r3 := cksO_len m.name ts
  generalize hA : Sv.dat (PyData.list (ts.map ltD)) = A
  have em := fms_one nd hmt
  refine seq_cut (fun r => r = [some (.dat (pD len ms)), some A, some (.dat (.str m.name)), some (.dat (.int m.err)), none, none, none, none, none, none]) ?_ ?_
  · simp [pD]
    refine ⟨by omega, lc_fa (f := mD) (fun k => k.name == m.name) (fun k => .int k.err) (fun k _ => by simp [mD]) ?_⟩
    simp [em]
  rintro _ rfl
  generalize some (Sv.dat (pD len ms)) = PL
  refine seq_cut (fun r => ∃ L, (L = .own (.lst ((cksO m.name ts).map (ckD m.name))) ∨ L = .dat (.list ((cksO m.name ts).map (ckD m.name)))) ∧ r = [PL, some A, some (.dat (.str m.name)), some (.dat (.int m.err)), some L, none, none, none, none, none]) ?_ ?_
  · subst hA
    simp
    refine ⟨by omega, lc_fa (f := ltD) (fun t => (ckO m.name t).isSome) ltD (fun t _ => ?_) ?_⟩
    · cases t with
      | clock a lo hi => by_cases e : a = m.name <;> simp [ltD, ckO, e]
      | read a j i t v => simp [ltD, ckO]
      | close a n t vs => simp [ltD, ckO]
    · rw [cks_map]; simp
  rintro _ ⟨L, hL, rfl⟩
  generalize hlo : maxL ((cksO m.name ts).map (·.1)) (-m.err) = lo at k0 le
  generalize hhi : minL ((cksO m.name ts).map (·.2)) m.err = hi at k1 le
  refine seq_cut (fun r => r = [PL, some A, some (.dat (.str m.name)), some (.dat (.int m.err)), some (.dat (.list ((cksO m.name ts).map (ckD m.name)))), some (.dat (.int lo)), none, none, none, none]) ?_ ?_
  · rcases hL with rfl | rfl
    all_goals
      simp
      refine ⟨by omega, lc_ma (f := ckD m.name) (fun c => .int c.1) (fun c _ => by simp [ckD, ltD]) ?_⟩
      simp [intsD_c, intsD_mf, hlo]
      omega
  rintro _ rfl
  refine seq_cut (fun r => r = [PL, some A, some (.dat (.str m.name)), some (.dat (.int m.err)), some (.dat (.list ((cksO m.name ts).map (ckD m.name)))), some (.dat (.int lo)), some (.dat (.int hi)), none, none, none]) ?_ ?_
  · simp
    refine ⟨by omega, lc_ma (f := ckD m.name) (fun c => .int c.2) (fun c _ => by simp [ckD, ltD]) ?_⟩
    simp [intsD_c, intsD_mf, hhi]
    omega
  rintro _ rfl
  simp
  refine ⟨by omega, by simp [intsR]; omega, ?_⟩
  unfold intsR
  refine lc_ma (f := fun i : Nat => PyData.int (0 + (i : Int))) (fun (i : Nat) => .int (lo + i)) (fun i _ => by simp) ?_
  simp
end Lw
namespace Lw
open PySem PySem.Spec PyProof.Rows L2 DL
structure FPk (ks : List Mt) : Prop where
  many : 0 < ks.length ∧ ks.length ≤ 8
  nd : (ks.map (·.name)).Nodup
  each : ∀ m ∈ ks, m.low ≤ m.high ∧ 0 ≤ m.err ∧ m.err ≤ 100
theorem fpk_of {ms ks : List Mt} (h : FPl ms) (k : ks = ms ∨ ks = ms.map wide) : FPk ks := by
  rcases k with rfl | rfl
  · exact ⟨h.many, h.nd, fun m hm => ⟨(h.each m hm).1.1, (h.each m hm).2.1.1, by have := (h.each m hm).2.1.2; omega⟩⟩
  · refine ⟨by simpa using h.many, ?_, fun m hm => ?_⟩
    · rw [List.map_map]; exact h.nd
    · obtain ⟨k, hk, rfl⟩ := List.mem_map.mp hm
      exact ⟨(h.each k hk).1.1, by show (0 : Int) ≤ 60; omega, by show (60 : Int) ≤ 100; omega⟩
theorem FHs.names {n : Nat} {ms : List Mt} {ls : List Lo} (h : FHs n ms ls) : ls.map (·.name) = ms.map (·.name) := by
  refine List.ext_getElem? fun i => ?_
  rw [List.getElem?_map, List.getElem?_map]
  cases e1 : ms[i]? with
  | none => rw [List.getElem?_eq_none (by have := List.getElem?_eq_none_iff.mp e1; have := h.len; omega)]; rfl
  | some m =>
    have hi := (List.getElem?_eq_some_iff.mp e1).1
    have e2 := List.getElem?_eq_getElem (l := ls) (i := i) (by have := h.len; omega)
    rw [e2, Option.map_some, Option.map_some, (h.each i m _ e1 e2).name]
theorem FHs.log {n : Nat} {ms : List Mt} {ls : List Lo} (h : FHs n ms ls) {l : Lo} (hl : l ∈ ls) : ∃ m ∈ ms, FLg m n l := by
  obtain ⟨i, hi, e⟩ := List.getElem_of_mem hl
  have hi2 : i < ms.length := by have := h.len; omega
  exact ⟨ms[i], List.getElem_mem _, h.each i _ l (List.getElem?_eq_getElem hi2) (by rw [List.getElem?_eq_getElem hi, e])⟩
theorem FHs.meter {n : Nat} {ms : List Mt} {ls : List Lo} (h : FHs n ms ls) {m : Mt} (hm : m ∈ ms) : ∃ l ∈ ls, FLg m n l := by
  obtain ⟨i, hi, e⟩ := List.getElem_of_mem hm
  have hi2 : i < ls.length := by have := h.len; omega
  exact ⟨ls[i], List.getElem_mem _, h.each i m _ (by rw [List.getElem?_eq_getElem hi, e]) (List.getElem?_eq_getElem hi2)⟩
theorem fsame_log {ls : List Lo} (nd : (ls.map (·.name)).Nodup) {k m : Lo} (hk : k ∈ ls) (hm : m ∈ ls) (e : k.name = m.name) : k = m := by
  induction ls with
  | nil => cases hk
  | cons x xs ih =>
    rw [List.map_cons, List.nodup_cons] at nd
    obtain ⟨nd1, nd2⟩ := nd
    rcases List.mem_cons.mp hk with q1 | q1 <;> rcases List.mem_cons.mp hm with q2 | q2
    · rw [q1, q2]
    · exact absurd (show x.name ∈ xs.map (·.name) from List.mem_map.mpr ⟨m, q2, by rw [← q1, e]⟩) nd1
    · exact absurd (show x.name ∈ xs.map (·.name) from List.mem_map.mpr ⟨k, q1, by rw [← q2, e]⟩) nd1
    · exact ih nd2 q1 q2
/-- true letters about these logs -/
def TH (ls : List Lo) (t : Lt) : Prop := ∃ l ∈ ls, TL l t
theorem th_off {n : Nat} {ms : List Mt} {ls : List Lo} (h : FHs n ms ls) (nd : (ms.map (·.name)).Nodup) {ts : List Lt} (ht : ∀ t ∈ ts, TH ls t) {m : Mt} (hm : m ∈ ms) : OffOk m.err (cksO m.name ts) := by
  obtain ⟨l, hl, q⟩ := h.meter hm
  refine ⟨l.off, q.off.1, q.off.2, fun c hc => ?_⟩
  obtain ⟨t, htm, e⟩ := List.mem_filterMap.mp hc
  cases t with
  | clock a x y =>
    by_cases ea : a = m.name
    · simp [ckO, ea] at e
      obtain ⟨l2, hl2, _, en, tr⟩ := ht _ htm
      have en : a = l2.name := en
      have : l2 = l := fsame_log (by rw [h.names]; exact nd) hl2 hl (by rw [← en, ea, q.name])
      rw [this] at tr
      simp only [trL, Bool.and_eq_true, decide_eq_true_iff] at tr
      rw [← e]; exact tr
    · simp [ckO, ea] at e
  | _ => cases e
def PSt (us : List Lt) (X : Option Sv) : Prop := X = some (.own (.lst (us.map ltD))) ∨ X = some (.dat (.list (us.map ltD)))
theorem rng_at (lo hi : Int) (h : lo ≤ hi) : atI ((List.range (hi - lo + 1).toNat).map fun (i : Nat) => PyData.int (lo + i)) 0 = some (.int lo) ∧ atI ((List.range (hi - lo + 1).toNat).map fun (i : Nat) => PyData.int (lo + i)) (-1) = some (.int hi) := by
  have n : 0 < (hi - lo + 1).toNat := by omega
  constructor
  · unfold atI
    rw [ixN_pos (by omega) (by simp; omega), Option.bind_some, List.getElem?_map, List.getElem?_range (by simpa using n)]
    simp
  · unfold atI ixN
    rw [if_neg (by decide), if_pos (by simp; omega), Option.bind_some, List.length_map, List.length_range, List.getElem?_map, List.getElem?_range (by omega)]
    simp
    omega
theorem law_true (ns : List Int) (hl : ns.length ≤ 63) (hb : ∀ n ∈ ns, n.natAbs.log2 < 2 ^ 20) : ∃ outs, F_law_61.run [iS ns] = some (.dat (.bool true), outs) := by
  suffices h : Wp (F_law_61.run [iS ns]) fun q => q.1 = .dat (.bool true) by
    obtain ⟨⟨a, outs⟩, e, rfl⟩ := h; exact ⟨outs, e⟩
  unfold F_law_61
  refine fn_cut rfl rfl ?_
  have nl : ns.length ≤ 1000 := by omega
  generalize hS : some (iS ns) = S
  refine seq_cut (fun r => ∃ st, r = [S, some (iL st), none, none, none, none, none, none, none, none, none, none]) ?_ ?_
  · obtain ⟨st, e⟩ := l_draws_run ns (m := 420) (by decide) (by omega) hb
    simp at e
    simp [e, ← hS]
  rintro _ ⟨st, rfl⟩
  obtain ⟨st1, len, ms, hms, hlen, e1⟩ := fplan_run ns nl hb st 3 (by decide)
  obtain ⟨st2, ks, hks, e2⟩ := wide_run st1 len ms hms
  have K := fpk_of hms hks
  have many := K.many
  rw [← pl2] at e1
  simp at e1
  refine seq_cut (fun r => r = [S, some (iL st2), some (.dat (pD len ks)), none, none, none, none, none, none, none, none, none]) (by subst hS; simp [e1, e2]) ?_
  rintro _ rfl
  obtain ⟨st3, c, e3⟩ := fshift_run ns st2 nl
  obtain ⟨st4, ls, hls, e4⟩ := fhist_run len ks K.each (by omega) 5 (by decide) c st3
  simp at e4
  refine seq_cut (fun r => r = [S, some (iL st4), some (.dat (pD len ks)), some (.dat (.tuple (ls.map loD))), none, none, none, none, none, none, none, none]) (by subst hS; simp [e3, e4]) ?_
  rintro _ rfl
  have ll := hls.len
  have log : ∀ l ∈ ls, l.slots.length ≤ 100 ∧ (∀ s ∈ l.slots, s.vers.length ≤ 8) ∧ l.slots.Pairwise fun a b => a.stamp ≤ b.stamp := fun l hl => by
    obtain ⟨m, _, q⟩ := hls.log hl
    exact ⟨by have := q.len; omega, fun s hs => (q.each s hs).2.1, q.mono⟩
  obtain ⟨st5, ts, hts, e5⟩ := fletters_run ls (TH ls) (fun l hl t h => ⟨l, hl, h⟩) (by omega) log (tkV st4 9) (tkS st4)
  obtain ⟨st6, ck, hck, e6⟩ := clocks_run ns nl ls (by omega) (TH ls) (fun l hl t h => ⟨l, hl, h⟩) st5
  have tl := hts.2
  have cl := hck.2
  refine seq_cut (fun r => r = [S, some (iL st6), some (.dat (pD len ks)), some (.dat (.tuple (ls.map loD))), some (.own (.lst ((ts ++ ck).map ltD))), none, none, none, none, none, none, none]) ?_ ?_
  · subst hS
    simp [l_take_run, e5, e6]
    omega
  rintro _ rfl
  obtain ⟨st7, us, hus, e7⟩ := fmixed_run (ts ++ ck) (by simp; omega) st6
  refine seq_cut (fun r => r = [S, some (iL st7), some (.dat (pD len ks)), some (.dat (.tuple (ls.map loD))), some (.own (.lst (us.map ltD))), none, none, none, none, none, none, none]) ?_ ?_
  · generalize (ts ++ ck).map ltD = Z at e7
    simp [e7]
  rintro _ rfl
  have ul : us.length ≤ 30000 := by have := hus.len; simp at this; omega
  have uth : ∀ t ∈ us, TH ls t := fun t ht => by
    rcases List.mem_append.mp ((hus.mem t).mp ht) with q | q
    · exact hts.1 t q
    · exact hck.1 t q
  refine seq_cut (fun r => r = [S, some (iL st7), some (.dat (pD len ks)), some (.dat (.tuple (ls.map loD))), some (.own (.lst (us.map ltD))), some (.own (.lst (us.map ltD))), none, none, none, none, none, none]) (by simp) ?_
  rintro _ rfl
  generalize some (Sv.dat (PyData.tuple (ls.map loD))) = HH
  refine seq_cut (fun r => ∃ x4 x5 x6 x7 x8 x9 x10, r = [S, some (iL st7), some (.dat (pD len ks)), HH, x4, x5, x6, x7, x8, x9, x10, none]) ?_ ?_
  · have key : ∀ Q, Wp (forL (gN 6) B_law_61_2 (ks.map mD) [S, some (iL st7), some (.dat (pD len ks)), HH, some (.own (.lst (us.map ltD))), some (.own (.lst (us.map ltD))), none, none, none, none, none, none]) Q → Wp (sFor (iSeq (eOp2 opIx (oVar 2) (oNow (eC (.int 1))))) (gN 6) (B_law_61_2) [S, some (iL st7), some (.dat (pD len ks)), HH, some (.own (.lst (us.map ltD))), some (.own (.lst (us.map ltD))), none, none, none, none, none, none]) Q := by
      intro Q h
      simp [pD]
      simpa [pD] using h
    refine key _ ?_
    refine for_map (f := mD) (fun _ r => ∃ x4 x5 x6 x7 x8 x9 x10, PSt us x4 ∧ PSt us x5 ∧ r = [S, some (iL st7), some (.dat (pD len ks)), HH, x4, x5, x6, x7, x8, x9, x10, none]) ?_ ?_ ⟨_, _, none, none, none, none, none, .inl rfl, .inl rfl, rfl⟩
    · rintro k m r _ e ⟨x4, x5, x6, x7, x8, x9, x10, p4, p5, rfl⟩
      have hm : m ∈ ks := by rw [e]; simp
      refine gN_cut (by simp) rfl ?_
      have me := K.each m hm
      have lk := low_law m.err (cksO m.name us)
      have le := lk.off.mpr (th_off hls K.nd uth hm)
      generalize maxL ((cksO m.name us).map (·.1)) (-m.err) = lo at lk le
      generalize minL ((cksO m.name us).map (·.2)) m.err = hi at lk le
      have eo := offs_run (len := len) K.nd (by omega) hm me.2.2 us (by omega) lk le
      obtain ⟨r1, r2⟩ := rng_at lo hi le
      have sm : (F_l_same_1 10).run [.dat (.tuple [.int lo, .int hi]), .dat (.tuple [.int lo, .int hi])] = some (.dat (.bool true), [none, none]) := same_self 10 _ ⟨by simp, by simp; exact ⟨trivial, trivial⟩⟩
      have sm0 : (F_l_same_1 10).run [.dat (.tuple [.int (-m.err), .int m.err]), .dat (.tuple [.int (-m.err), .int m.err])] = some (.dat (.bool true), [none, none]) := same_self 10 _ ⟨by simp, by simp; exact ⟨trivial, trivial⟩⟩
      have a1 := left_run (len := len) K.nd (by omega) hm (.list (us.map ltD)) us (.inl rfl) lk
      have a2 := left_run (len := len) K.nd (by omega) hm (.tuple (us.reverse.map ltD)) us.reverse (.inr rfl) (lk.mem fun c => by unfold cksO; rw [List.filterMap_reverse, List.mem_reverse])
      have a3 := left_run (len := len) K.nd (by omega) hm (.list ((us.filter fun t => t.nm == m.name).map ltD)) (us.filter fun t => t.nm == m.name) (.inl rfl) (lk.mem fun c => by
        unfold cksO
        rw [fm_filter (ckO m.name)]
        intro t b e
        cases t with
        | clock a _ _ => simp [ckO] at e; exact beq_iff_eq.mpr e.1
        | _ => cases e)
      have a4 := left_run (len := len) K.nd (by omega) hm (.tuple []) [] (.inr rfl) (LowOk.nil m.err)
      generalize hR : ((List.range (hi - lo + 1).toNat).map fun (i : Nat) => PyData.int (lo + i)) = RR at eo r1 r2
      generalize hPL : some (Sv.dat (pD len ks)) = PL
      have fu : ∀ L : Sv, L = .dat (pD len ks) → True := fun _ _ => trivial
      unfold B_law_61_2
      refine seq_cut (fun r => r = [S, some (iL st7), PL, HH, some (.dat (.list (us.map ltD))), x5, some (.dat (mD m)), some (.own (.lst RR)), x8, x9, x10, none]) ?_ ?_
      · subst hPL
        rcases p4 with rfl | rfl <;> simp [mD, eo]
      rintro _ rfl
      refine seq_cut (fun r => r = [S, some (iL st7), PL, HH, some (.dat (.list (us.map ltD))), x5, some (.dat (mD m)), some (.own (.lst RR)), some (.dat (.tuple [.int lo, .int hi])), x9, x10, none]) (by simp [r1, r2]) ?_
      rintro _ rfl
      have d1 := gdpt (ts := us)
      have d2 := eqv_self d1
      refine seq_cut (fun r => r = [S, some (iL st7), PL, HH, some (.dat (.list (us.map ltD))), some (.dat (.list (us.map ltD))), some (.dat (mD m)), some (.own (.lst RR)), some (.dat (.tuple [.int lo, .int hi])), x9, x10, none]) ?_ ?_
      · subst hPL
        generalize hL : PyData.list (us.map ltD) = L at d1 d2 a1
        rcases p5 with rfl | rfl <;> simp [mD, hL, a1, sm, d1, d2]
      rintro _ rfl
      refine seq_cut (fun r => r = [S, some (iL st7), PL, HH, some (.dat (.list (us.map ltD))), some (.dat (.list (us.map ltD))), some (.dat (mD m)), some (.own (.lst RR)), some (.dat (.tuple [.int lo, .int hi])), some (.own (.lst ((us.filter fun t => t.nm == m.name).map ltD))), x10, none]) ?_ ?_
      · simp
        refine ⟨by omega, lc_fa (f := ltD) (fun t => t.nm == m.name) ltD (fun t _ => ?_) ?_⟩
        · cases t <;> simp [ltD, mD, Lt.nm]
        · simp
      rintro _ rfl
      refine seq_cut (fun r => ∃ x9 x10, r = [S, some (iL st7), PL, HH, some (.dat (.list (us.map ltD))), some (.dat (.list (us.map ltD))), some (.dat (mD m)), some (.own (.lst RR)), some (.dat (.tuple [.int lo, .int hi])), x9, x10, none]) ?_ ?_
      · have q : ∀ L ∈ [PyData.tuple (us.reverse.map ltD), PyData.list ((us.filter fun t => t.nm == m.name).map ltD)], F_p_offsets_left.run [.dat (pD len ks), .dat L, .dat (.str m.name)] = some (.dat (.tuple [.int lo, .int hi]), [none, none, none]) := by
          intro L hL
          simp only [List.mem_cons, List.not_mem_nil, or_false] at hL
          rcases hL with rfl | rfl
          · exact a2
          · exact a3
        subst hPL
        simp
        rw [← List.map_reverse]
        generalize [PyData.tuple (us.reverse.map ltD), PyData.list ((us.filter fun t => t.nm == m.name).map ltD)] = Ls at q
        generalize some (Sv.dat (PyData.list ((us.filter fun t => t.nm == m.name).map ltD))) = Y9
        have e : Ls = Ls.map id := by simp
        rw [e]
        refine for_map (f := id) (fun _ r => ∃ x10, r = [S, some (iL st7), some (.dat (pD len ks)), HH, some (.dat (.list (us.map ltD))), some (.dat (.list (us.map ltD))), some (.dat (mD m)), some (.own (.lst RR)), some (.dat (.tuple [.int lo, .int hi])), Y9, x10, none]) ?_ ?_ ⟨x10, rfl⟩
        · rintro l L r _ e ⟨x, rfl⟩
          have rr := q L (by rw [e]; simp)
          refine gN_cut (by simp) rfl ?_
          simp [B_law_61_1, mD, rr, sm]
        · rintro _ ⟨x, rfl⟩
          simp
      rintro _ ⟨x9, x10, rfl⟩
      subst hPL
      simp [mD, a4, sm0]
      exact .inr rfl
    · rintro _ ⟨x4, x5, x6, x7, x8, x9, x10, p4, p5, rfl⟩
      rw [kO_nx]
      exact ⟨_, _, _, _, _, _, _, rfl⟩
  rintro _ ⟨x4, x5, x6, x7, x8, x9, x10, rfl⟩
  simp
end Lw
namespace Lw
open PySem PySem.Spec PyProof.Rows L2 DL
def topS (i : Nat) : Stmt := PySem.Challenge.pw_toldwhensure_k33_offsets_that_are_left.main.body.getD i (.Pass ⟨0, 0, 0, 0⟩)
def tbl : List (Str × Stmt × List Str) := ("meter_of", topS 1, ["plan", "name"]) ::
  ("offsets_of", topS 3, ["plan", "letters", "name"]) ::
  ("offsets_left", topS 5, ["plan", "letters", "name"]) ::
  ("_law_draws", topS 7, ["_law_script", "_law_many"]) ::
  ("_law_take", topS 8, ["_law_draws_here", "_law_many"]) ::
  ("_law_word", topS 9, ["_law_number"]) ::
  ("_law_same", topS 10, ["_law_actual", "_law_due"]) ::
  ("_law_cell", topS 11, ["_law_script", "_law_draws_here"]) ::
  ("_law_plan", topS 12, ["_law_draws_here", "_law_script", "_law_most"]) ::
  ("_law_slots", topS 13, ["_law_draws_here", "_law_meter", "_law_most", "_law_shift_here"]) ::
  ("_law_history", topS 14, ["_law_draws_here", "_law_plan_here", "_law_most", "_law_shift_here"]) ::
  ("_law_shift", topS 15, ["_law_draws_here", "_law_script"]) ::
  ("_law_close", topS 16, ["_law_log", "_law_slots_here", "_law_more"]) ::
  ("_law_letters", topS 17, ["_law_draws_here", "_law_history_here", "_law_share"]) ::
  ("_law_mixed", topS 18, ["_law_draws_here", "_law_letters_here"]) ::
  ("_law_offsets", topS 19, ["_law_plan_here", "_law_letters_here", "_law_name"]) ::
  ("_law_wide", topS 20, ["_law_draws_here", "_law_plan_here"]) ::
  ("_law_clocks", topS 21, ["_law_draws_here", "_law_script", "_law_history_here"]) ::
  ("law", topS 22, ["_law_script"]) :: []
def blts : List Str := ["abs", "bool", "int", "isinstance", "len", "list", "max", "min", "range", "sorted", "str", "sum", "tuple"]
theorem sc_p_meter_of : FnScope ["plan", "name", "meter"] ["plan", "name"] (defScope (topS 1)) := ⟨rfl, rfl, rfl, by decide +kernel, rfl, by decide +kernel, by decide +kernel⟩
theorem t_p_meter_of {P : Program} {w : World} {K : PySem.W.Frag} {mg : Str → Option Value} {base : Heap} {adr : Nat → Addr} {fdd : Nat → FuncData} (T : Tx tbl blts P w K mg base adr fdd) : DefOk K mg ("meter_of", topS 1, ["plan", "name"]) (adr 0) (fdd 0) := T.fn 0 rfl
theorem ok_p_meter_of {P : Program} {w : World} {K : PySem.W.Frag} {mg : Str → Option Value} {base : Heap} {adr : Nat → Addr} {fdd : Nat → FuncData} (T : Tx tbl blts P w K mg base adr fdd) : FnOk P w K mg base CX0 41 (adr 0) (fdd 0) ["plan", "name"] (spF K F_p_meter_of) := by
  refine fn_ok (k := 40) (t_p_meter_of T).fn sc_p_meter_of rfl rfl fun cdv A outer s H E hr => ?_
  exact ss_one (ss_ret (se_ix ((se_lc 3 (own := [("meter", 2)]) (io := [0, 1]) rfl sc_p_meter_of.nd (si_seq (se_ix (so_var rfl (by first | exact Or.inl rfl | exact Or.inr (Or.inl rfl) | exact Or.inr (Or.inr rfl))) ((sf_int).o))) (blkOk_by (N := ["plan", "name", "meter"]) (sc := (defScope (topS 1))) (own := [("meter", 2)]) (by decide +kernel)) rfl (by decide) (fun _ _ _ _ _ => sg_name sc_p_meter_of.nd rfl (by first | exact Or.inl rfl | exact Or.inr rfl) (by decide) (by first | exact .inl rfl | exact .inr rfl)) (fun _ _ _ _ _ => sts_one (st_cmp (op_eqA hr.units) ok_eq ((se_ix (so_var rfl (by first | exact Or.inl rfl | exact Or.inr (Or.inl rfl) | exact Or.inr (Or.inr rfl))) ((sf_int).o)).o) (so_var rfl (by first | exact Or.inl rfl | exact Or.inr (Or.inl rfl) | exact Or.inr (Or.inr rfl))))) (fun _ _ _ _ _ => se_var rfl (by first | exact Or.inl rfl | exact Or.inr (Or.inl rfl) | exact Or.inr (Or.inr rfl)))).o) ((sf_int).o)))

theorem sc_p_offsets_of : FnScope ["plan", "letters", "name", "error", "low", "high", "letter"] ["plan", "letters", "name"] (defScope (topS 3)) := ⟨rfl, rfl, rfl, by decide +kernel, rfl, by decide +kernel, by decide +kernel⟩
theorem t_p_offsets_of {P : Program} {w : World} {K : PySem.W.Frag} {mg : Str → Option Value} {base : Heap} {adr : Nat → Addr} {fdd : Nat → FuncData} (T : Tx tbl blts P w K mg base adr fdd) : DefOk K mg ("offsets_of", topS 3, ["plan", "letters", "name"]) (adr 1) (fdd 1) := T.fn 1 rfl
theorem ok_p_offsets_of {P : Program} {w : World} {K : PySem.W.Frag} {mg : Str → Option Value} {base : Heap} {adr : Nat → Addr} {fdd : Nat → FuncData} (T : Tx tbl blts P w K mg base adr fdd) : FnOk P w K mg base CX0 42 (adr 1) (fdd 1) ["plan", "letters", "name"] (spF K F_p_offsets_of) := by
  refine fn_ok (k := 41) (t_p_offsets_of T).fn sc_p_offsets_of rfl rfl fun cdv A outer s H E hr => ?_
  exact ss_cons (ss_set sc_p_offsets_of.nd rfl (by first | exact Or.inl rfl | exact Or.inr rfl) (by decide) (by first | exact .inl rfl | exact .inr rfl) (se_ix ((se_call (ok_p_meter_of T) mkFn_np (hr.mono (by first | decide | omega)) (by rfl) (t_p_meter_of T).g (t_p_meter_of T).fn.kp (t_p_meter_of T).bd (sa_cons ((se_var rfl (by first | exact Or.inl rfl | exact Or.inr (Or.inl rfl) | exact Or.inr (Or.inr rfl))).o) (sa_cons ((se_var rfl (by first | exact Or.inl rfl | exact Or.inr (Or.inl rfl) | exact Or.inr (Or.inr rfl))).o) (sa_nil)))).o) ((sf_int).o)))
    (ss_cons (ss_set sc_p_offsets_of.nd rfl (by first | exact Or.inl rfl | exact Or.inr rfl) (by decide) (by first | exact .inl rfl | exact .inr rfl) (se_un un_neg ok_neg (so_var rfl (by first | exact Or.inl rfl | exact Or.inr (Or.inl rfl) | exact Or.inr (Or.inr rfl)))))
    (ss_cons (ss_set sc_p_offsets_of.nd rfl (by first | exact Or.inl rfl | exact Or.inr rfl) (by decide) (by first | exact .inl rfl | exact .inr rfl) (se_var rfl (by first | exact Or.inl rfl | exact Or.inr (Or.inl rfl) | exact Or.inr (Or.inr rfl))))
    (ss_cons (ss_for PassesOwn.never rfl (si_seq (se_var rfl (by first | exact Or.inl rfl | exact Or.inr (Or.inl rfl) | exact Or.inr (Or.inr rfl)))) (sg_name sc_p_offsets_of.nd rfl (by first | exact Or.inl rfl | exact Or.inr rfl) (by decide) (by first | exact .inl rfl | exact .inr rfl)) (ss_one (ss_if ((sw_and (st_cmp (op_eqA hr.units) ok_eq ((se_ix (so_var rfl (by first | exact Or.inl rfl | exact Or.inr (Or.inl rfl) | exact Or.inr (Or.inr rfl))) ((sf_int).o)).o) ((sf_str).o)) (sw_and1 (st_cmp (op_eqA hr.units) ok_eq ((se_ix (so_var rfl (by first | exact Or.inl rfl | exact Or.inr (Or.inl rfl) | exact Or.inr (Or.inr rfl))) ((sf_int).o)).o) (so_var rfl (by first | exact Or.inl rfl | exact Or.inr (Or.inl rfl) | exact Or.inr (Or.inr rfl)))))).t) (ss_cons (ss_set sc_p_offsets_of.nd rfl (by first | exact Or.inl rfl | exact Or.inr rfl) (by decide) (by first | exact .inl rfl | exact .inr rfl) (se_callB (call_max2 rfl) ok_max2.n (by rfl) (T.bl "max" (by decide +kernel)) (by decide +kernel) (sa_cons (so_var rfl (by first | exact Or.inl rfl | exact Or.inr (Or.inl rfl) | exact Or.inr (Or.inr rfl))) (sa_cons ((se_ix (so_var rfl (by first | exact Or.inl rfl | exact Or.inr (Or.inl rfl) | exact Or.inr (Or.inr rfl))) ((sf_int).o)).o) (sa_nil)))))
    (ss_one (ss_set sc_p_offsets_of.nd rfl (by first | exact Or.inl rfl | exact Or.inr rfl) (by decide) (by first | exact .inl rfl | exact .inr rfl) (se_callB (call_min2 rfl) ok_min2.n (by rfl) (T.bl "min" (by decide +kernel)) (by decide +kernel) (sa_cons (so_var rfl (by first | exact Or.inl rfl | exact Or.inr (Or.inl rfl) | exact Or.inr (Or.inr rfl))) (sa_cons ((se_ix (so_var rfl (by first | exact Or.inl rfl | exact Or.inr (Or.inl rfl) | exact Or.inr (Or.inr rfl))) ((sf_int).o)).o) (sa_nil))))))) (ss_nil))))
    (ss_one (ss_ret (se_tup (sa_cons ((se_var rfl (by first | exact Or.inl rfl | exact Or.inr (Or.inl rfl) | exact Or.inr (Or.inr rfl))).o) (sa_cons ((se_var rfl (by first | exact Or.inl rfl | exact Or.inr (Or.inl rfl) | exact Or.inr (Or.inr rfl))).o) (sa_nil)))))))))

theorem sc_p_offsets_left : FnScope ["plan", "letters", "name"] ["plan", "letters", "name"] (defScope (topS 5)) := ⟨rfl, rfl, rfl, by decide +kernel, rfl, by decide +kernel, by decide +kernel⟩
theorem t_p_offsets_left {P : Program} {w : World} {K : PySem.W.Frag} {mg : Str → Option Value} {base : Heap} {adr : Nat → Addr} {fdd : Nat → FuncData} (T : Tx tbl blts P w K mg base adr fdd) : DefOk K mg ("offsets_left", topS 5, ["plan", "letters", "name"]) (adr 2) (fdd 2) := T.fn 2 rfl
theorem ok_p_offsets_left {P : Program} {w : World} {K : PySem.W.Frag} {mg : Str → Option Value} {base : Heap} {adr : Nat → Addr} {fdd : Nat → FuncData} (T : Tx tbl blts P w K mg base adr fdd) : FnOk P w K mg base CX0 43 (adr 2) (fdd 2) ["plan", "letters", "name"] (spF K F_p_offsets_left) := by
  refine fn_ok (k := 42) (t_p_offsets_left T).fn sc_p_offsets_left rfl rfl fun cdv A outer s H E hr => ?_
  exact ss_one (ss_ret (se_call (ok_p_offsets_of T) mkFn_np (hr.mono (by first | decide | omega)) (by rfl) (t_p_offsets_of T).g (t_p_offsets_of T).fn.kp (t_p_offsets_of T).bd (sa_cons ((se_var rfl (by first | exact Or.inl rfl | exact Or.inr (Or.inl rfl) | exact Or.inr (Or.inr rfl))).o) (sa_cons ((se_var rfl (by first | exact Or.inl rfl | exact Or.inr (Or.inl rfl) | exact Or.inr (Or.inr rfl))).o) (sa_cons ((se_var rfl (by first | exact Or.inl rfl | exact Or.inr (Or.inl rfl) | exact Or.inr (Or.inr rfl))).o) (sa_nil))))))

theorem sc_l_draws : FnScope ["_law_script", "_law_many", "_law_cells", "_law_rest", "_law_draws_here", "_law_k", "_law_at", "_law_cell_here", "_law_once"] ["_law_script", "_law_many"] (defScope (topS 7)) := ⟨rfl, rfl, rfl, by decide +kernel, rfl, by decide +kernel, by decide +kernel⟩
theorem t_l_draws {P : Program} {w : World} {K : PySem.W.Frag} {mg : Str → Option Value} {base : Heap} {adr : Nat → Addr} {fdd : Nat → FuncData} (T : Tx tbl blts P w K mg base adr fdd) : DefOk K mg ("_law_draws", topS 7, ["_law_script", "_law_many"]) (adr 3) (fdd 3) := T.fn 3 rfl
theorem ok_l_draws {P : Program} {w : World} {K : PySem.W.Frag} {mg : Str → Option Value} {base : Heap} {adr : Nat → Addr} {fdd : Nat → FuncData} (T : Tx tbl blts P w K mg base adr fdd) : FnOk P w K mg base CX0 41 (adr 3) (fdd 3) ["_law_script", "_law_many"] (spF K F_l_draws) := by
  refine fn_ok (k := 40) (t_l_draws T).fn sc_l_draws rfl rfl fun cdv A outer s H E hr => ?_
  exact ss_cons (ss_setLc 9 (own := [("_law_cell_here", 7)]) (io := [0, 1, 2, 3, 4, 5, 6, 8]) rfl sc_l_draws.nd rfl rfl (by decide) (sw_true rfl rfl rfl (by decide +kernel)) (si_seq (se_var rfl (by first | exact Or.inl rfl | exact Or.inr (Or.inl rfl) | exact Or.inr (Or.inr rfl)))) (blkOk_by (N := ["_law_script", "_law_many", "_law_cells", "_law_rest", "_law_draws_here", "_law_k", "_law_at", "_law_cell_here", "_law_once"]) (sc := (defScope (topS 7))) (own := [("_law_cell_here", 7)]) (by decide +kernel)) rfl (by decide) (fun _ _ _ _ _ => sg_name sc_l_draws.nd rfl (by first | exact Or.inl rfl | exact Or.inr rfl) (by decide) (by first | exact .inl rfl | exact .inr rfl)) (fun _ _ _ _ _ => sts_nil) (fun _ _ _ _ _ => se_callTy (call_int1) ok_int.n (by rfl) (T.bl "int" (by decide +kernel)) (by decide +kernel) (sa_cons (so_var rfl (by first | exact Or.inl rfl | exact Or.inr (Or.inl rfl) | exact Or.inr (Or.inr rfl))) (sa_nil))))
    (ss_cons (ss_if (st_cmp (op_eqA hr.units) ok_eq ((se_callB (call_len) ok_len.n (by rfl) (T.bl "len" (by decide +kernel)) PySem.boot_len (sa_cons (so_var rfl (by first | exact Or.inl rfl | exact Or.inr (Or.inl rfl) | exact Or.inr (Or.inr rfl))) (sa_nil))).o) ((sf_int).o)) (ss_one (ss_expr (se_mut PySem.F.slot_list_append PySem.F.type_list_append mt_append mut_append rfl (by first | exact Or.inl rfl | exact Or.inr (Or.inl rfl) | exact Or.inr (Or.inr rfl)) (sa_cons ((sf_int).o) (sa_nil))))) (ss_nil))
    (ss_cons (ss_set sc_l_draws.nd rfl (by first | exact Or.inl rfl | exact Or.inr rfl) (by decide) (by first | exact .inl rfl | exact .inr rfl) (se_callTy (call_list_of) ok_list.n (by rfl) (T.bl "list" (by decide +kernel)) (by decide +kernel) (sa_cons (so_var rfl (by first | exact Or.inl rfl | exact Or.inr (Or.inl rfl) | exact Or.inr (Or.inr rfl))) (sa_nil))))
    (ss_cons (ss_set sc_l_draws.nd rfl (by first | exact Or.inl rfl | exact Or.inr rfl) (by decide) (by first | exact .inl rfl | exact .inr rfl) (se_lst (sa_nil)))
    (ss_cons (ss_for PassesOwn.never rfl (si_range1 (by rfl) (T.bl "range" (by decide +kernel)) (sa_cons (so_var rfl (by first | exact Or.inl rfl | exact Or.inr (Or.inl rfl) | exact Or.inr (Or.inr rfl))) (sa_nil))) (sg_name sc_l_draws.nd rfl (by first | exact Or.inl rfl | exact Or.inr rfl) (by decide) (by first | exact .inl rfl | exact .inr rfl)) (ss_cons (ss_set sc_l_draws.nd rfl (by first | exact Or.inl rfl | exact Or.inr rfl) (by decide) (by first | exact .inl rfl | exact .inr rfl) (se_op op_mod ok_mod (so_var rfl (by first | exact Or.inl rfl | exact Or.inr (Or.inl rfl) | exact Or.inr (Or.inr rfl))) ((se_callB (call_len) ok_len.n (by rfl) (T.bl "len" (by decide +kernel)) PySem.boot_len (sa_cons (so_var rfl (by first | exact Or.inl rfl | exact Or.inr (Or.inl rfl) | exact Or.inr (Or.inr rfl))) (sa_nil))).o)))
    (ss_one (ss_if (st_cmp op_geA ok_cmpI ((se_ix (so_var rfl (by first | exact Or.inl rfl | exact Or.inr (Or.inl rfl) | exact Or.inr (Or.inr rfl))) (so_var rfl (by first | exact Or.inl rfl | exact Or.inr (Or.inl rfl) | exact Or.inr (Or.inr rfl)))).o) ((se_op op_pow ok_pow ((sf_int).o) ((sf_int).o)).o)) (ss_cons (ss_expr (se_mut PySem.F.slot_list_append PySem.F.type_list_append mt_append mut_append rfl (by first | exact Or.inl rfl | exact Or.inr (Or.inl rfl) | exact Or.inr (Or.inr rfl)) (sa_cons ((se_op op_mod ok_mod ((se_callTy (call_int1) ok_int.n (by rfl) (T.bl "int" (by decide +kernel)) (by decide +kernel) (sa_cons ((se_ix (so_var rfl (by first | exact Or.inl rfl | exact Or.inr (Or.inl rfl) | exact Or.inr (Or.inr rfl))) (so_var rfl (by first | exact Or.inl rfl | exact Or.inr (Or.inl rfl) | exact Or.inr (Or.inr rfl)))).o) (sa_nil))).o) ((sf_int).o)).o) (sa_nil))))
    (ss_one (ss_asg (se_op op_fdiv ok_divS ((se_ix (so_var rfl (by first | exact Or.inl rfl | exact Or.inr (Or.inl rfl) | exact Or.inr (Or.inr rfl))) (so_var rfl (by first | exact Or.inl rfl | exact Or.inr (Or.inl rfl) | exact Or.inr (Or.inr rfl)))).o) ((sf_int).o)) (sg_ix rfl (by first | exact Or.inl rfl | exact Or.inr (Or.inl rfl) | exact Or.inr (Or.inr rfl)) (so_var rfl (by first | exact Or.inl rfl | exact Or.inr (Or.inl rfl) | exact Or.inr (Or.inr rfl))))))) (ss_cons (ss_set sc_l_draws.nd rfl (by first | exact Or.inl rfl | exact Or.inr rfl) (by decide) (by first | exact .inl rfl | exact .inr rfl) (se_op op_mod ok_mod ((se_callTy (call_int1) ok_int.n (by rfl) (T.bl "int" (by decide +kernel)) (by decide +kernel) (sa_cons ((se_op op_addA ok_add ((se_op op_addA ok_add ((se_op op_mulA ok_mul ((se_ix (so_var rfl (by first | exact Or.inl rfl | exact Or.inr (Or.inl rfl) | exact Or.inr (Or.inr rfl))) (so_var rfl (by first | exact Or.inl rfl | exact Or.inr (Or.inl rfl) | exact Or.inr (Or.inr rfl)))).o) ((sf_int).o)).o) ((se_op op_mulA ok_mul (so_var rfl (by first | exact Or.inl rfl | exact Or.inr (Or.inl rfl) | exact Or.inr (Or.inr rfl))) ((sf_int).o)).o)).o) ((sf_int).o)).o) (sa_nil))).o) ((sf_int).o)))
    (ss_one (ss_expr (se_mut PySem.F.slot_list_append PySem.F.type_list_append mt_append mut_append rfl (by first | exact Or.inl rfl | exact Or.inr (Or.inl rfl) | exact Or.inr (Or.inr rfl)) (sa_cons ((se_op op_mod ok_mod ((se_callTy (call_int1) ok_int.n (by rfl) (T.bl "int" (by decide +kernel)) (by decide +kernel) (sa_cons ((se_op op_addA ok_add ((se_op op_addA ok_add ((se_op op_mulA ok_mul (so_var rfl (by first | exact Or.inl rfl | exact Or.inr (Or.inl rfl) | exact Or.inr (Or.inr rfl))) (so_var rfl (by first | exact Or.inl rfl | exact Or.inr (Or.inl rfl) | exact Or.inr (Or.inr rfl)))).o) ((se_op op_mulA ok_mul ((sf_int).o) (so_var rfl (by first | exact Or.inl rfl | exact Or.inr (Or.inl rfl) | exact Or.inr (Or.inr rfl)))).o)).o) (so_var rfl (by first | exact Or.inl rfl | exact Or.inr (Or.inl rfl) | exact Or.inr (Or.inr rfl)))).o) (sa_nil))).o) ((sf_int).o)).o) (sa_nil))))))))))
    (ss_cons (ss_expr (se_mut0 PySem.F.slot_list_reverse PySem.F.type_list_reverse mt_reverse mut_reverse rfl (by first | exact Or.inl rfl | exact Or.inr (Or.inl rfl) | exact Or.inr (Or.inr rfl))))
    (ss_one (ss_ret (se_mov rfl (by first | exact Or.inl rfl | exact Or.inr (Or.inl rfl) | exact Or.inr (Or.inr rfl))))))))))

theorem sc_l_take : FnScope ["_law_draws_here", "_law_many"] ["_law_draws_here", "_law_many"] (defScope (topS 8)) := ⟨rfl, rfl, rfl, by decide +kernel, rfl, by decide +kernel, by decide +kernel⟩
theorem t_l_take {P : Program} {w : World} {K : PySem.W.Frag} {mg : Str → Option Value} {base : Heap} {adr : Nat → Addr} {fdd : Nat → FuncData} (T : Tx tbl blts P w K mg base adr fdd) : DefOk K mg ("_law_take", topS 8, ["_law_draws_here", "_law_many"]) (adr 4) (fdd 4) := T.fn 4 rfl
theorem ok_l_take {P : Program} {w : World} {K : PySem.W.Frag} {mg : Str → Option Value} {base : Heap} {adr : Nat → Addr} {fdd : Nat → FuncData} (T : Tx tbl blts P w K mg base adr fdd) : FnOk P w K mg base CX0 41 (adr 4) (fdd 4) ["_law_draws_here", "_law_many"] (spF K F_l_take) := by
  refine fn_ok (k := 40) (t_l_take T).fn sc_l_take rfl rfl fun cdv A outer s H E hr => ?_
  exact ss_cons (ss_if (st_cmp (op_eqA hr.units) ok_eq ((se_callB (call_len) ok_len.n (by rfl) (T.bl "len" (by decide +kernel)) PySem.boot_len (sa_cons (so_var rfl (by first | exact Or.inl rfl | exact Or.inr (Or.inl rfl) | exact Or.inr (Or.inr rfl))) (sa_nil))).o) ((sf_int).o)) (ss_one (ss_ret (sf_int))) (ss_nil))
    (ss_one (ss_ret (se_op op_mod ok_mod ((se_callTy (call_int1) ok_int.n (by rfl) (T.bl "int" (by decide +kernel)) (by decide +kernel) (sa_cons ((se_mut0 PySem.F.slot_list_pop PySem.F.type_list_pop mt_pop mut_pop rfl (by first | exact Or.inl rfl | exact Or.inr (Or.inl rfl) | exact Or.inr (Or.inr rfl))).o) (sa_nil))).o) (so_var rfl (by first | exact Or.inl rfl | exact Or.inr (Or.inl rfl) | exact Or.inr (Or.inr rfl))))))

theorem sc_l_word : FnScope ["_law_number", "_law_word_here", "_law_k"] ["_law_number"] (defScope (topS 9)) := ⟨rfl, rfl, rfl, by decide +kernel, rfl, by decide +kernel, by decide +kernel⟩
theorem t_l_word {P : Program} {w : World} {K : PySem.W.Frag} {mg : Str → Option Value} {base : Heap} {adr : Nat → Addr} {fdd : Nat → FuncData} (T : Tx tbl blts P w K mg base adr fdd) : DefOk K mg ("_law_word", topS 9, ["_law_number"]) (adr 5) (fdd 5) := T.fn 5 rfl
theorem ok_l_word {P : Program} {w : World} {K : PySem.W.Frag} {mg : Str → Option Value} {base : Heap} {adr : Nat → Addr} {fdd : Nat → FuncData} (T : Tx tbl blts P w K mg base adr fdd) : FnOk P w K mg base CX0 41 (adr 5) (fdd 5) ["_law_number"] (spF K F_l_word) := by
  refine fn_ok (k := 40) (t_l_word T).fn sc_l_word rfl rfl fun cdv A outer s H E hr => ?_
  exact ss_cons (ss_set sc_l_word.nd rfl (by first | exact Or.inl rfl | exact Or.inr rfl) (by decide) (by first | exact .inl rfl | exact .inr rfl) (sf_str))
    (ss_cons (ss_for PassesOwn.never rfl (si_range1 (by rfl) (T.bl "range" (by decide +kernel)) (sa_cons ((sf_int).o) (sa_nil))) (sg_name sc_l_word.nd rfl (by first | exact Or.inl rfl | exact Or.inr rfl) (by decide) (by first | exact .inl rfl | exact .inr rfl)) (ss_cons (ss_if (st_cmp op_ltA ok_cmpI (so_var rfl (by first | exact Or.inl rfl | exact Or.inr (Or.inl rfl) | exact Or.inr (Or.inr rfl))) ((sf_int).o)) (ss_one (ss_break)) (ss_nil))
    (ss_cons (ss_set sc_l_word.nd rfl (by first | exact Or.inl rfl | exact Or.inr rfl) (by decide) (by first | exact .inl rfl | exact .inr rfl) (se_op op_addA ok_add ((se_ix ((sf_str).o) ((se_op op_mod ok_mod ((se_callTy (call_int1) ok_int.n (by rfl) (T.bl "int" (by decide +kernel)) (by decide +kernel) (sa_cons ((se_op op_sub ok_sub (so_var rfl (by first | exact Or.inl rfl | exact Or.inr (Or.inl rfl) | exact Or.inr (Or.inr rfl))) ((sf_int).o)).o) (sa_nil))).o) ((sf_int).o)).o)).o) (so_var rfl (by first | exact Or.inl rfl | exact Or.inr (Or.inl rfl) | exact Or.inr (Or.inr rfl)))))
    (ss_one (ss_set sc_l_word.nd rfl (by first | exact Or.inl rfl | exact Or.inr rfl) (by decide) (by first | exact .inl rfl | exact .inr rfl) (se_op op_fdiv ok_divS ((se_op op_sub ok_sub (so_var rfl (by first | exact Or.inl rfl | exact Or.inr (Or.inl rfl) | exact Or.inr (Or.inr rfl))) ((sf_int).o)).o) ((sf_int).o)))))))
    (ss_one (ss_ret (se_mov rfl (by first | exact Or.inl rfl | exact Or.inr (Or.inl rfl) | exact Or.inr (Or.inr rfl))))))

theorem sc_l_same : FnScope ["_law_actual", "_law_due", "_law_k"] ["_law_actual", "_law_due"] (defScope (topS 10)) := ⟨rfl, rfl, rfl, by decide +kernel, rfl, by decide +kernel, by decide +kernel⟩
theorem t_l_same {P : Program} {w : World} {K : PySem.W.Frag} {mg : Str → Option Value} {base : Heap} {adr : Nat → Addr} {fdd : Nat → FuncData} (T : Tx tbl blts P w K mg base adr fdd) : DefOk K mg ("_law_same", topS 10, ["_law_actual", "_law_due"]) (adr 6) (fdd 6) := T.fn 6 rfl
theorem ok_l_same {P : Program} {w : World} {K : PySem.W.Frag} {mg : Str → Option Value} {base : Heap} {adr : Nat → Addr} {fdd : Nat → FuncData} (T : Tx tbl blts P w K mg base adr fdd) : ∀ n : Nat, FnOk P w K mg base CX0 (n + 40) (adr 6) (fdd 6) ["_law_actual", "_law_due"] (spF K (F_l_same_1 n))
  | 0 => ⟨fun vs H Q E h => h.1, fun A outer s H args us vs Q E hr he hb hv h => by
    obtain ⟨_, _, _, _, _, h, _⟩ := h
    cases h⟩
  | n + 1 => by
    have ih := ok_l_same T n
    refine fn_ok (k := n + 40) (t_l_same T).fn sc_l_same rfl rfl fun cdv A outer s H E hr => ?_
    exact ss_cons (ss_if (st_val (se_is (T := "bool") (by simp) (by rfl) (T.bl "isinstance" (by decide +kernel)) (by rfl) (T.bl "bool" (by decide +kernel)) (by decide +kernel) (so_var rfl (by first | exact Or.inl rfl | exact Or.inr (Or.inl rfl) | exact Or.inr (Or.inr rfl))))) (ss_one (ss_ret (se_and (se_is (T := "bool") (by simp) (by rfl) (T.bl "isinstance" (by decide +kernel)) (by rfl) (T.bl "bool" (by decide +kernel)) (by decide +kernel) (so_var rfl (by first | exact Or.inl rfl | exact Or.inr (Or.inl rfl) | exact Or.inr (Or.inr rfl)))) (se_one (se_cmp (op_eqA hr.units) ok_eq (so_var rfl (by first | exact Or.inl rfl | exact Or.inr (Or.inl rfl) | exact Or.inr (Or.inr rfl))) (so_var rfl (by first | exact Or.inl rfl | exact Or.inr (Or.inl rfl) | exact Or.inr (Or.inr rfl)))))))) (ss_nil))
      (ss_cons (ss_if (st_val (se_is (T := "int") (by simp) (by rfl) (T.bl "isinstance" (by decide +kernel)) (by rfl) (T.bl "int" (by decide +kernel)) (by decide +kernel) (so_var rfl (by first | exact Or.inl rfl | exact Or.inr (Or.inl rfl) | exact Or.inr (Or.inr rfl))))) (ss_one (ss_ret (se_and (se_is (T := "int") (by simp) (by rfl) (T.bl "isinstance" (by decide +kernel)) (by rfl) (T.bl "int" (by decide +kernel)) (by decide +kernel) (so_var rfl (by first | exact Or.inl rfl | exact Or.inr (Or.inl rfl) | exact Or.inr (Or.inr rfl)))) (se_and (se_not (se_is (T := "bool") (by simp) (by rfl) (T.bl "isinstance" (by decide +kernel)) (by rfl) (T.bl "bool" (by decide +kernel)) (by decide +kernel) (so_var rfl (by first | exact Or.inl rfl | exact Or.inr (Or.inl rfl) | exact Or.inr (Or.inr rfl))))) (se_one (se_cmp (op_eqA hr.units) ok_eq (so_var rfl (by first | exact Or.inl rfl | exact Or.inr (Or.inl rfl) | exact Or.inr (Or.inr rfl))) (so_var rfl (by first | exact Or.inl rfl | exact Or.inr (Or.inl rfl) | exact Or.inr (Or.inr rfl))))))))) (ss_nil))
      (ss_cons (ss_if (st_val (se_is (T := "str") (by simp) (by rfl) (T.bl "isinstance" (by decide +kernel)) (by rfl) (T.bl "str" (by decide +kernel)) (by decide +kernel) (so_var rfl (by first | exact Or.inl rfl | exact Or.inr (Or.inl rfl) | exact Or.inr (Or.inr rfl))))) (ss_one (ss_ret (se_and (se_is (T := "str") (by simp) (by rfl) (T.bl "isinstance" (by decide +kernel)) (by rfl) (T.bl "str" (by decide +kernel)) (by decide +kernel) (so_var rfl (by first | exact Or.inl rfl | exact Or.inr (Or.inl rfl) | exact Or.inr (Or.inr rfl)))) (se_one (se_cmp (op_eqA hr.units) ok_eq (so_var rfl (by first | exact Or.inl rfl | exact Or.inr (Or.inl rfl) | exact Or.inr (Or.inr rfl))) (so_var rfl (by first | exact Or.inl rfl | exact Or.inr (Or.inl rfl) | exact Or.inr (Or.inr rfl)))))))) (ss_nil))
      (ss_cons (ss_if (st_tN (so_var rfl (by first | exact Or.inl rfl | exact Or.inr (Or.inl rfl) | exact Or.inr (Or.inr rfl)))) (ss_one (ss_ret (st_isN (so_var rfl (by first | exact Or.inl rfl | exact Or.inr (Or.inl rfl) | exact Or.inr (Or.inr rfl)))))) (ss_nil))
      (ss_cons (ss_if ((sw_and (st_val (se_is (T := "tuple") (by simp) (by rfl) (T.bl "isinstance" (by decide +kernel)) (by rfl) (T.bl "tuple" (by decide +kernel)) (by decide +kernel) (so_var rfl (by first | exact Or.inl rfl | exact Or.inr (Or.inl rfl) | exact Or.inr (Or.inr rfl))))) (sw_and1 (st_not (st_val (se_is (T := "tuple") (by simp) (by rfl) (T.bl "isinstance" (by decide +kernel)) (by rfl) (T.bl "tuple" (by decide +kernel)) (by decide +kernel) (so_var rfl (by first | exact Or.inl rfl | exact Or.inr (Or.inl rfl) | exact Or.inr (Or.inr rfl)))))))).t) (ss_one (ss_ret (sf_bl))) (ss_nil))
      (ss_cons (ss_if ((sw_and (st_val (se_is (T := "list") (by simp) (by rfl) (T.bl "isinstance" (by decide +kernel)) (by rfl) (T.bl "list" (by decide +kernel)) (by decide +kernel) (so_var rfl (by first | exact Or.inl rfl | exact Or.inr (Or.inl rfl) | exact Or.inr (Or.inr rfl))))) (sw_and1 (st_not (st_val (se_is (T := "list") (by simp) (by rfl) (T.bl "isinstance" (by decide +kernel)) (by rfl) (T.bl "list" (by decide +kernel)) (by decide +kernel) (so_var rfl (by first | exact Or.inl rfl | exact Or.inr (Or.inl rfl) | exact Or.inr (Or.inr rfl)))))))).t) (ss_one (ss_ret (sf_bl))) (ss_nil))
      (ss_cons (ss_if (st_cmp (op_neA hr.units) ok_ne ((se_callB (call_len) ok_len.n (by rfl) (T.bl "len" (by decide +kernel)) PySem.boot_len (sa_cons (so_var rfl (by first | exact Or.inl rfl | exact Or.inr (Or.inl rfl) | exact Or.inr (Or.inr rfl))) (sa_nil))).o) ((se_callB (call_len) ok_len.n (by rfl) (T.bl "len" (by decide +kernel)) PySem.boot_len (sa_cons (so_var rfl (by first | exact Or.inl rfl | exact Or.inr (Or.inl rfl) | exact Or.inr (Or.inr rfl))) (sa_nil))).o)) (ss_one (ss_ret (sf_bl))) (ss_nil))
      (ss_cons (ss_for PassesOwn.never rfl (si_range1 (by rfl) (T.bl "range" (by decide +kernel)) (sa_cons ((se_callB (call_len) ok_len.n (by rfl) (T.bl "len" (by decide +kernel)) PySem.boot_len (sa_cons (so_var rfl (by first | exact Or.inl rfl | exact Or.inr (Or.inl rfl) | exact Or.inr (Or.inr rfl))) (sa_nil))).o) (sa_nil))) (sg_name sc_l_same.nd rfl (by first | exact Or.inl rfl | exact Or.inr rfl) (by decide) (by first | exact .inl rfl | exact .inr rfl)) (ss_one (ss_if (st_not (st_val (se_call ih np_l_same_1 (hr.mono (by first | decide | omega)) (by rfl) (t_l_same T).g (t_l_same T).fn.kp (t_l_same T).bd (sa_cons ((se_ix (so_var rfl (by first | exact Or.inl rfl | exact Or.inr (Or.inl rfl) | exact Or.inr (Or.inr rfl))) (so_var rfl (by first | exact Or.inl rfl | exact Or.inr (Or.inl rfl) | exact Or.inr (Or.inr rfl)))).o) (sa_cons ((se_ix (so_var rfl (by first | exact Or.inl rfl | exact Or.inr (Or.inl rfl) | exact Or.inr (Or.inr rfl))) (so_var rfl (by first | exact Or.inl rfl | exact Or.inr (Or.inl rfl) | exact Or.inr (Or.inr rfl)))).o) (sa_nil)))))) (ss_one (ss_ret (sf_bl))) (ss_nil))))
      (ss_one (ss_ret (sf_bl))))))))))

theorem sc_l_cell : FnScope ["_law_script", "_law_draws_here"] ["_law_script", "_law_draws_here"] (defScope (topS 11)) := ⟨rfl, rfl, rfl, by decide +kernel, rfl, by decide +kernel, by decide +kernel⟩
theorem t_l_cell {P : Program} {w : World} {K : PySem.W.Frag} {mg : Str → Option Value} {base : Heap} {adr : Nat → Addr} {fdd : Nat → FuncData} (T : Tx tbl blts P w K mg base adr fdd) : DefOk K mg ("_law_cell", topS 11, ["_law_script", "_law_draws_here"]) (adr 7) (fdd 7) := T.fn 7 rfl
theorem ok_l_cell {P : Program} {w : World} {K : PySem.W.Frag} {mg : Str → Option Value} {base : Heap} {adr : Nat → Addr} {fdd : Nat → FuncData} (T : Tx tbl blts P w K mg base adr fdd) : FnOk P w K mg base CX0 42 (adr 7) (fdd 7) ["_law_script", "_law_draws_here"] (spF K F_l_cell) := by
  refine fn_ok (k := 41) (t_l_cell T).fn sc_l_cell rfl rfl fun cdv A outer s H E hr => ?_
  exact ss_cons (ss_if (st_cmp (op_eqA hr.units) ok_eq ((se_callB (call_len) ok_len.n (by rfl) (T.bl "len" (by decide +kernel)) PySem.boot_len (sa_cons (so_var rfl (by first | exact Or.inl rfl | exact Or.inr (Or.inl rfl) | exact Or.inr (Or.inr rfl))) (sa_nil))).o) ((sf_int).o)) (ss_one (ss_ret (sf_int))) (ss_nil))
    (ss_one (ss_ret (se_callTy (call_int1) ok_int.n (by rfl) (T.bl "int" (by decide +kernel)) (by decide +kernel) (sa_cons ((se_ix (so_var rfl (by first | exact Or.inl rfl | exact Or.inr (Or.inl rfl) | exact Or.inr (Or.inr rfl))) ((se_call (ok_l_take T) mkFn_np (hr.mono (by first | decide | omega)) (by rfl) (t_l_take T).g (t_l_take T).fn.kp (t_l_take T).bd (sa_cons (so_var rfl (by first | exact Or.inl rfl | exact Or.inr (Or.inl rfl) | exact Or.inr (Or.inr rfl))) (sa_cons ((se_callB (call_len) ok_len.n (by rfl) (T.bl "len" (by decide +kernel)) PySem.boot_len (sa_cons (so_var rfl (by first | exact Or.inl rfl | exact Or.inr (Or.inl rfl) | exact Or.inr (Or.inr rfl))) (sa_nil))).o) (sa_nil)))).o)).o) (sa_nil)))))

theorem sc_l_plan : FnScope ["_law_draws_here", "_law_script", "_law_most", "_law_meters", "_law_base", "_law_begins", "_law_k", "_law_name", "_law_low", "_law_wide_here"] ["_law_draws_here", "_law_script", "_law_most"] (defScope (topS 12)) := ⟨rfl, rfl, rfl, by decide +kernel, rfl, by decide +kernel, by decide +kernel⟩
theorem t_l_plan {P : Program} {w : World} {K : PySem.W.Frag} {mg : Str → Option Value} {base : Heap} {adr : Nat → Addr} {fdd : Nat → FuncData} (T : Tx tbl blts P w K mg base adr fdd) : DefOk K mg ("_law_plan", topS 12, ["_law_draws_here", "_law_script", "_law_most"]) (adr 8) (fdd 8) := T.fn 8 rfl
theorem ok_l_plan {P : Program} {w : World} {K : PySem.W.Frag} {mg : Str → Option Value} {base : Heap} {adr : Nat → Addr} {fdd : Nat → FuncData} (T : Tx tbl blts P w K mg base adr fdd) : FnOk P w K mg base CX0 43 (adr 8) (fdd 8) ["_law_draws_here", "_law_script", "_law_most"] (spF K F_l_plan_2) := by
  refine fn_ok (k := 42) (t_l_plan T).fn sc_l_plan rfl rfl fun cdv A outer s H E hr => ?_
  exact ss_cons (ss_set sc_l_plan.nd rfl (by first | exact Or.inl rfl | exact Or.inr rfl) (by decide) (by first | exact .inl rfl | exact .inr rfl) (se_lst (sa_nil)))
    (ss_cons (ss_set sc_l_plan.nd rfl (by first | exact Or.inl rfl | exact Or.inr rfl) (by decide) (by first | exact .inl rfl | exact .inr rfl) (se_op op_addA ok_add ((sf_int).o) ((se_call (ok_l_take T) mkFn_np (hr.mono (by first | decide | omega)) (by rfl) (t_l_take T).g (t_l_take T).fn.kp (t_l_take T).bd (sa_cons (so_var rfl (by first | exact Or.inl rfl | exact Or.inr (Or.inl rfl) | exact Or.inr (Or.inr rfl))) (sa_cons ((sf_int).o) (sa_nil)))).o)))
    (ss_cons (ss_set sc_l_plan.nd rfl (by first | exact Or.inl rfl | exact Or.inr rfl) (by decide) (by first | exact .inl rfl | exact .inr rfl) (se_cmp (op_eqA hr.units) ok_eq ((se_call (ok_l_take T) mkFn_np (hr.mono (by first | decide | omega)) (by rfl) (t_l_take T).g (t_l_take T).fn.kp (t_l_take T).bd (sa_cons (so_var rfl (by first | exact Or.inl rfl | exact Or.inr (Or.inl rfl) | exact Or.inr (Or.inr rfl))) (sa_cons ((sf_int).o) (sa_nil)))).o) ((sf_int).o)))
    (ss_cons (ss_for PassesOwn.never rfl (si_range1 (by rfl) (T.bl "range" (by decide +kernel)) (sa_cons ((se_op op_addA ok_add ((sf_int).o) ((se_call (ok_l_take T) mkFn_np (hr.mono (by first | decide | omega)) (by rfl) (t_l_take T).g (t_l_take T).fn.kp (t_l_take T).bd (sa_cons (so_var rfl (by first | exact Or.inl rfl | exact Or.inr (Or.inl rfl) | exact Or.inr (Or.inr rfl))) (sa_cons ((se_var rfl (by first | exact Or.inl rfl | exact Or.inr (Or.inl rfl) | exact Or.inr (Or.inr rfl))).o) (sa_nil)))).o)).o) (sa_nil))) (sg_name sc_l_plan.nd rfl (by first | exact Or.inl rfl | exact Or.inr rfl) (by decide) (by first | exact .inl rfl | exact .inr rfl)) (ss_cons (ss_set sc_l_plan.nd rfl (by first | exact Or.inl rfl | exact Or.inr rfl) (by decide) (by first | exact .inl rfl | exact .inr rfl) (se_op op_addA ok_add ((se_call (ok_l_word T) mkFn_np (hr.mono (by first | decide | omega)) (by rfl) (t_l_word T).g (t_l_word T).fn.kp (t_l_word T).bd (sa_cons ((se_op op_addA ok_add (so_var rfl (by first | exact Or.inl rfl | exact Or.inr (Or.inl rfl) | exact Or.inr (Or.inr rfl))) ((se_op op_mulA ok_mul ((sf_int).o) (so_var rfl (by first | exact Or.inl rfl | exact Or.inr (Or.inl rfl) | exact Or.inr (Or.inr rfl)))).o)).o) (sa_nil))).o) ((se_ix ((se_lst (sa_cons ((sf_str).o) (sa_cons ((sf_str).o) (sa_cons ((sf_str).o) (sa_cons ((sf_str).o) (sa_nil)))))).o) ((se_call (ok_l_take T) mkFn_np (hr.mono (by first | decide | omega)) (by rfl) (t_l_take T).g (t_l_take T).fn.kp (t_l_take T).bd (sa_cons (so_var rfl (by first | exact Or.inl rfl | exact Or.inr (Or.inl rfl) | exact Or.inr (Or.inr rfl))) (sa_cons ((sf_int).o) (sa_nil)))).o)).o)))
    (ss_cons (ss_if (st_val (se_var rfl (by first | exact Or.inl rfl | exact Or.inr (Or.inl rfl) | exact Or.inr (Or.inr rfl)))) (ss_one (ss_set sc_l_plan.nd rfl (by first | exact Or.inl rfl | exact Or.inr rfl) (by decide) (by first | exact .inl rfl | exact .inr rfl) (se_op op_addA ok_add ((se_call (ok_l_word T) mkFn_np (hr.mono (by first | decide | omega)) (by rfl) (t_l_word T).g (t_l_word T).fn.kp (t_l_word T).bd (sa_cons ((se_var rfl (by first | exact Or.inl rfl | exact Or.inr (Or.inl rfl) | exact Or.inr (Or.inr rfl))).o) (sa_nil))).o) ((se_call (ok_l_word T) mkFn_np (hr.mono (by first | decide | omega)) (by rfl) (t_l_word T).g (t_l_word T).fn.kp (t_l_word T).bd (sa_cons ((se_var rfl (by first | exact Or.inl rfl | exact Or.inr (Or.inl rfl) | exact Or.inr (Or.inr rfl))).o) (sa_nil))).o)))) (ss_nil))
    (ss_cons (ss_set sc_l_plan.nd rfl (by first | exact Or.inl rfl | exact Or.inr rfl) (by decide) (by first | exact .inl rfl | exact .inr rfl) (se_op op_sub ok_sub ((se_call (ok_l_take T) mkFn_np (hr.mono (by first | decide | omega)) (by rfl) (t_l_take T).g (t_l_take T).fn.kp (t_l_take T).bd (sa_cons (so_var rfl (by first | exact Or.inl rfl | exact Or.inr (Or.inl rfl) | exact Or.inr (Or.inr rfl))) (sa_cons ((sf_int).o) (sa_nil)))).o) ((sf_int).o)))
    (ss_cons (ss_if (st_cmp (op_eqA hr.units) ok_eq ((se_call (ok_l_take T) mkFn_np (hr.mono (by first | decide | omega)) (by rfl) (t_l_take T).g (t_l_take T).fn.kp (t_l_take T).bd (sa_cons (so_var rfl (by first | exact Or.inl rfl | exact Or.inr (Or.inl rfl) | exact Or.inr (Or.inr rfl))) (sa_cons ((sf_int).o) (sa_nil)))).o) ((sf_int).o)) (ss_one (ss_set sc_l_plan.nd rfl (by first | exact Or.inl rfl | exact Or.inr rfl) (by decide) (by first | exact .inl rfl | exact .inr rfl) (se_op op_addA ok_add (so_var rfl (by first | exact Or.inl rfl | exact Or.inr (Or.inl rfl) | exact Or.inr (Or.inr rfl))) ((se_call (ok_l_cell T) mkFn_np (hr.mono (by first | decide | omega)) (by rfl) (t_l_cell T).g (t_l_cell T).fn.kp (t_l_cell T).bd (sa_cons ((se_var rfl (by first | exact Or.inl rfl | exact Or.inr (Or.inl rfl) | exact Or.inr (Or.inr rfl))).o) (sa_cons (so_var rfl (by first | exact Or.inl rfl | exact Or.inr (Or.inl rfl) | exact Or.inr (Or.inr rfl))) (sa_nil)))).o)))) (ss_nil))
    (ss_cons (ss_set sc_l_plan.nd rfl (by first | exact Or.inl rfl | exact Or.inr rfl) (by decide) (by first | exact .inl rfl | exact .inr rfl) (se_ix ((se_lst (sa_cons ((sf_int).o) (sa_cons ((sf_int).o) (sa_cons ((sf_int).o) (sa_cons ((sf_int).o) (sa_cons ((sf_int).o) (sa_cons ((sf_int).o) (sa_nil)))))))).o) ((se_call (ok_l_take T) mkFn_np (hr.mono (by first | decide | omega)) (by rfl) (t_l_take T).g (t_l_take T).fn.kp (t_l_take T).bd (sa_cons (so_var rfl (by first | exact Or.inl rfl | exact Or.inr (Or.inl rfl) | exact Or.inr (Or.inr rfl))) (sa_cons ((sf_int).o) (sa_nil)))).o)))
    (ss_one (ss_expr (se_mut PySem.F.slot_list_append PySem.F.type_list_append mt_append mut_append rfl (by first | exact Or.inl rfl | exact Or.inr (Or.inl rfl) | exact Or.inr (Or.inr rfl)) (sa_cons ((se_tup (sa_cons ((se_var rfl (by first | exact Or.inl rfl | exact Or.inr (Or.inl rfl) | exact Or.inr (Or.inr rfl))).o) (sa_cons ((se_var rfl (by first | exact Or.inl rfl | exact Or.inr (Or.inl rfl) | exact Or.inr (Or.inr rfl))).o) (sa_cons ((se_op op_addA ok_add (so_var rfl (by first | exact Or.inl rfl | exact Or.inr (Or.inl rfl) | exact Or.inr (Or.inr rfl))) (so_var rfl (by first | exact Or.inl rfl | exact Or.inr (Or.inl rfl) | exact Or.inr (Or.inr rfl)))).o) (sa_cons ((se_ix ((se_lst (sa_cons ((sf_int).o) (sa_cons ((sf_int).o) (sa_cons ((sf_int).o) (sa_cons ((sf_int).o) (sa_nil)))))).o) ((se_call (ok_l_take T) mkFn_np (hr.mono (by first | decide | omega)) (by rfl) (t_l_take T).g (t_l_take T).fn.kp (t_l_take T).bd (sa_cons (so_var rfl (by first | exact Or.inl rfl | exact Or.inr (Or.inl rfl) | exact Or.inr (Or.inr rfl))) (sa_cons ((sf_int).o) (sa_nil)))).o)).o) (sa_nil)))))).o) (sa_nil)))))))))))
    (ss_one (ss_ret (se_tup (sa_cons ((se_ix ((se_lst (sa_cons ((sf_int).o) (sa_cons ((sf_int).o) (sa_cons ((sf_int).o) (sa_cons ((sf_int).o) (sa_cons ((sf_int).o) (sa_cons ((se_op op_addA ok_add ((sf_int).o) ((se_call (ok_l_take T) mkFn_np (hr.mono (by first | decide | omega)) (by rfl) (t_l_take T).g (t_l_take T).fn.kp (t_l_take T).bd (sa_cons (so_var rfl (by first | exact Or.inl rfl | exact Or.inr (Or.inl rfl) | exact Or.inr (Or.inr rfl))) (sa_cons ((sf_int).o) (sa_nil)))).o)).o) (sa_nil)))))))).o) ((se_call (ok_l_take T) mkFn_np (hr.mono (by first | decide | omega)) (by rfl) (t_l_take T).g (t_l_take T).fn.kp (t_l_take T).bd (sa_cons (so_var rfl (by first | exact Or.inl rfl | exact Or.inr (Or.inl rfl) | exact Or.inr (Or.inr rfl))) (sa_cons ((sf_int).o) (sa_nil)))).o)).o) (sa_cons ((se_callTy (call_tuple_of) ok_tuple.n (by rfl) (T.bl "tuple" (by decide +kernel)) (by decide +kernel) (sa_cons ((se_callB (cr_sortedX hr.units) ok_sorted.n (by rfl) (T.bl "sorted" (by decide +kernel)) (by decide +kernel) (sa_cons (so_var rfl (by first | exact Or.inl rfl | exact Or.inr (Or.inl rfl) | exact Or.inr (Or.inr rfl))) (sa_nil))).o) (sa_nil))).o) (sa_nil)))))))))

theorem sc_l_slots : FnScope ["_law_draws_here", "_law_meter", "_law_most", "_law_shift_here", "_law_stamp", "_law_slots_here", "_law_k", "_law_versions", "_law_j", "_law_value"] ["_law_draws_here", "_law_meter", "_law_most", "_law_shift_here"] (defScope (topS 13)) := ⟨rfl, rfl, rfl, by decide +kernel, rfl, by decide +kernel, by decide +kernel⟩
theorem t_l_slots {P : Program} {w : World} {K : PySem.W.Frag} {mg : Str → Option Value} {base : Heap} {adr : Nat → Addr} {fdd : Nat → FuncData} (T : Tx tbl blts P w K mg base adr fdd) : DefOk K mg ("_law_slots", topS 13, ["_law_draws_here", "_law_meter", "_law_most", "_law_shift_here"]) (adr 9) (fdd 9) := T.fn 9 rfl
theorem ok_l_slots {P : Program} {w : World} {K : PySem.W.Frag} {mg : Str → Option Value} {base : Heap} {adr : Nat → Addr} {fdd : Nat → FuncData} (T : Tx tbl blts P w K mg base adr fdd) : FnOk P w K mg base CX0 42 (adr 9) (fdd 9) ["_law_draws_here", "_law_meter", "_law_most", "_law_shift_here"] (spF K F_l_slots_1) := by
  refine fn_ok (k := 41) (t_l_slots T).fn sc_l_slots rfl rfl fun cdv A outer s H E hr => ?_
  exact ss_cons (ss_set sc_l_slots.nd rfl (by first | exact Or.inl rfl | exact Or.inr rfl) (by decide) (by first | exact .inl rfl | exact .inr rfl) (se_op op_addA ok_add ((se_op op_sub ok_sub ((se_call (ok_l_take T) mkFn_np (hr.mono (by first | decide | omega)) (by rfl) (t_l_take T).g (t_l_take T).fn.kp (t_l_take T).bd (sa_cons (so_var rfl (by first | exact Or.inl rfl | exact Or.inr (Or.inl rfl) | exact Or.inr (Or.inr rfl))) (sa_cons ((sf_int).o) (sa_nil)))).o) ((sf_int).o)).o) (so_var rfl (by first | exact Or.inl rfl | exact Or.inr (Or.inl rfl) | exact Or.inr (Or.inr rfl)))))
    (ss_cons (ss_set sc_l_slots.nd rfl (by first | exact Or.inl rfl | exact Or.inr rfl) (by decide) (by first | exact .inl rfl | exact .inr rfl) (se_lst (sa_nil)))
    (ss_cons (ss_for PassesOwn.never rfl (si_range1 (by rfl) (T.bl "range" (by decide +kernel)) (sa_cons ((se_call (ok_l_take T) mkFn_np (hr.mono (by first | decide | omega)) (by rfl) (t_l_take T).g (t_l_take T).fn.kp (t_l_take T).bd (sa_cons (so_var rfl (by first | exact Or.inl rfl | exact Or.inr (Or.inl rfl) | exact Or.inr (Or.inr rfl))) (sa_cons ((se_op op_addA ok_add (so_var rfl (by first | exact Or.inl rfl | exact Or.inr (Or.inl rfl) | exact Or.inr (Or.inr rfl))) ((sf_int).o)).o) (sa_nil)))).o) (sa_nil))) (sg_name sc_l_slots.nd rfl (by first | exact Or.inl rfl | exact Or.inr rfl) (by decide) (by first | exact .inl rfl | exact .inr rfl)) (ss_cons (ss_set sc_l_slots.nd rfl (by first | exact Or.inl rfl | exact Or.inr rfl) (by decide) (by first | exact .inl rfl | exact .inr rfl) (se_op op_addA ok_add (so_var rfl (by first | exact Or.inl rfl | exact Or.inr (Or.inl rfl) | exact Or.inr (Or.inr rfl))) ((se_ix ((se_lst (sa_cons ((sf_int).o) (sa_cons ((sf_int).o) (sa_cons ((sf_int).o) (sa_cons ((sf_int).o) (sa_nil)))))).o) ((se_call (ok_l_take T) mkFn_np (hr.mono (by first | decide | omega)) (by rfl) (t_l_take T).g (t_l_take T).fn.kp (t_l_take T).bd (sa_cons (so_var rfl (by first | exact Or.inl rfl | exact Or.inr (Or.inl rfl) | exact Or.inr (Or.inr rfl))) (sa_cons ((sf_int).o) (sa_nil)))).o)).o)))
    (ss_cons (ss_set sc_l_slots.nd rfl (by first | exact Or.inl rfl | exact Or.inr rfl) (by decide) (by first | exact .inl rfl | exact .inr rfl) (se_lst (sa_cons ((se_op op_addA ok_add ((se_ix (so_var rfl (by first | exact Or.inl rfl | exact Or.inr (Or.inl rfl) | exact Or.inr (Or.inr rfl))) ((sf_int).o)).o) ((se_call (ok_l_take T) mkFn_np (hr.mono (by first | decide | omega)) (by rfl) (t_l_take T).g (t_l_take T).fn.kp (t_l_take T).bd (sa_cons (so_var rfl (by first | exact Or.inl rfl | exact Or.inr (Or.inl rfl) | exact Or.inr (Or.inr rfl))) (sa_cons ((se_op op_addA ok_add ((se_op op_sub ok_sub ((se_ix (so_var rfl (by first | exact Or.inl rfl | exact Or.inr (Or.inl rfl) | exact Or.inr (Or.inr rfl))) ((sf_int).o)).o) ((se_ix (so_var rfl (by first | exact Or.inl rfl | exact Or.inr (Or.inl rfl) | exact Or.inr (Or.inr rfl))) ((sf_int).o)).o)).o) ((sf_int).o)).o) (sa_nil)))).o)).o) (sa_nil))))
    (ss_cons (ss_for PassesOwn.never rfl (si_range1 (by rfl) (T.bl "range" (by decide +kernel)) (sa_cons ((se_ix ((se_lst (sa_cons ((sf_int).o) (sa_cons ((sf_int).o) (sa_cons ((sf_int).o) (sa_cons ((sf_int).o) (sa_cons ((sf_int).o) (sa_cons ((sf_int).o) (sa_cons ((sf_int).o) (sa_cons ((sf_int).o) (sa_nil)))))))))).o) ((se_call (ok_l_take T) mkFn_np (hr.mono (by first | decide | omega)) (by rfl) (t_l_take T).g (t_l_take T).fn.kp (t_l_take T).bd (sa_cons (so_var rfl (by first | exact Or.inl rfl | exact Or.inr (Or.inl rfl) | exact Or.inr (Or.inr rfl))) (sa_cons ((sf_int).o) (sa_nil)))).o)).o) (sa_nil))) (sg_name sc_l_slots.nd rfl (by first | exact Or.inl rfl | exact Or.inr rfl) (by decide) (by first | exact .inl rfl | exact .inr rfl)) (ss_cons (ss_set sc_l_slots.nd rfl (by first | exact Or.inl rfl | exact Or.inr rfl) (by decide) (by first | exact .inl rfl | exact .inr rfl) (se_op op_addA ok_add ((se_ix (so_var rfl (by first | exact Or.inl rfl | exact Or.inr (Or.inl rfl) | exact Or.inr (Or.inr rfl))) ((sf_int).o)).o) ((se_call (ok_l_take T) mkFn_np (hr.mono (by first | decide | omega)) (by rfl) (t_l_take T).g (t_l_take T).fn.kp (t_l_take T).bd (sa_cons (so_var rfl (by first | exact Or.inl rfl | exact Or.inr (Or.inl rfl) | exact Or.inr (Or.inr rfl))) (sa_cons ((se_op op_addA ok_add ((se_op op_sub ok_sub ((se_ix (so_var rfl (by first | exact Or.inl rfl | exact Or.inr (Or.inl rfl) | exact Or.inr (Or.inr rfl))) ((sf_int).o)).o) ((se_ix (so_var rfl (by first | exact Or.inl rfl | exact Or.inr (Or.inl rfl) | exact Or.inr (Or.inr rfl))) ((sf_int).o)).o)).o) ((sf_int).o)).o) (sa_nil)))).o)))
    (ss_one (ss_expr (se_mut PySem.F.slot_list_append PySem.F.type_list_append mt_append mut_append rfl (by first | exact Or.inl rfl | exact Or.inr (Or.inl rfl) | exact Or.inr (Or.inr rfl)) (sa_cons ((se_ix ((se_lst (sa_cons ((se_var rfl (by first | exact Or.inl rfl | exact Or.inr (Or.inl rfl) | exact Or.inr (Or.inr rfl))).o) (sa_cons ((se_var rfl (by first | exact Or.inl rfl | exact Or.inr (Or.inl rfl) | exact Or.inr (Or.inr rfl))).o) (sa_cons ((sf_non).o) (sa_nil))))).o) ((se_call (ok_l_take T) mkFn_np (hr.mono (by first | decide | omega)) (by rfl) (t_l_take T).g (t_l_take T).fn.kp (t_l_take T).bd (sa_cons (so_var rfl (by first | exact Or.inl rfl | exact Or.inr (Or.inl rfl) | exact Or.inr (Or.inr rfl))) (sa_cons ((sf_int).o) (sa_nil)))).o)).o) (sa_nil)))))))
    (ss_one (ss_expr (se_mut PySem.F.slot_list_append PySem.F.type_list_append mt_append mut_append rfl (by first | exact Or.inl rfl | exact Or.inr (Or.inl rfl) | exact Or.inr (Or.inr rfl)) (sa_cons ((se_tup (sa_cons ((se_var rfl (by first | exact Or.inl rfl | exact Or.inr (Or.inl rfl) | exact Or.inr (Or.inr rfl))).o) (sa_cons ((se_callTy (call_tuple_of) ok_tuple.n (by rfl) (T.bl "tuple" (by decide +kernel)) (by decide +kernel) (sa_cons (so_var rfl (by first | exact Or.inl rfl | exact Or.inr (Or.inl rfl) | exact Or.inr (Or.inr rfl))) (sa_nil))).o) (sa_nil)))).o) (sa_nil)))))))))
    (ss_one (ss_ret (se_callTy (call_tuple_of) ok_tuple.n (by rfl) (T.bl "tuple" (by decide +kernel)) (by decide +kernel) (sa_cons (so_var rfl (by first | exact Or.inl rfl | exact Or.inr (Or.inl rfl) | exact Or.inr (Or.inr rfl))) (sa_nil)))))))

theorem sc_l_history : FnScope ["_law_draws_here", "_law_plan_here", "_law_most", "_law_shift_here", "_law_logs", "_law_meter", "_law_offset"] ["_law_draws_here", "_law_plan_here", "_law_most", "_law_shift_here"] (defScope (topS 14)) := ⟨rfl, rfl, rfl, by decide +kernel, rfl, by decide +kernel, by decide +kernel⟩
theorem t_l_history {P : Program} {w : World} {K : PySem.W.Frag} {mg : Str → Option Value} {base : Heap} {adr : Nat → Addr} {fdd : Nat → FuncData} (T : Tx tbl blts P w K mg base adr fdd) : DefOk K mg ("_law_history", topS 14, ["_law_draws_here", "_law_plan_here", "_law_most", "_law_shift_here"]) (adr 10) (fdd 10) := T.fn 10 rfl
theorem ok_l_history {P : Program} {w : World} {K : PySem.W.Frag} {mg : Str → Option Value} {base : Heap} {adr : Nat → Addr} {fdd : Nat → FuncData} (T : Tx tbl blts P w K mg base adr fdd) : FnOk P w K mg base CX0 43 (adr 10) (fdd 10) ["_law_draws_here", "_law_plan_here", "_law_most", "_law_shift_here"] (spF K F_l_history_1) := by
  refine fn_ok (k := 42) (t_l_history T).fn sc_l_history rfl rfl fun cdv A outer s H E hr => ?_
  exact ss_cons (ss_set sc_l_history.nd rfl (by first | exact Or.inl rfl | exact Or.inr rfl) (by decide) (by first | exact .inl rfl | exact .inr rfl) (se_lst (sa_nil)))
    (ss_cons (ss_for PassesOwn.never rfl (si_seq (se_ix (so_var rfl (by first | exact Or.inl rfl | exact Or.inr (Or.inl rfl) | exact Or.inr (Or.inr rfl))) ((sf_int).o))) (sg_name sc_l_history.nd rfl (by first | exact Or.inl rfl | exact Or.inr rfl) (by decide) (by first | exact .inl rfl | exact .inr rfl)) (ss_cons (ss_set sc_l_history.nd rfl (by first | exact Or.inl rfl | exact Or.inr rfl) (by decide) (by first | exact .inl rfl | exact .inr rfl) (se_op op_sub ok_sub ((se_call (ok_l_take T) mkFn_np (hr.mono (by first | decide | omega)) (by rfl) (t_l_take T).g (t_l_take T).fn.kp (t_l_take T).bd (sa_cons (so_var rfl (by first | exact Or.inl rfl | exact Or.inr (Or.inl rfl) | exact Or.inr (Or.inr rfl))) (sa_cons ((se_op op_addA ok_add ((se_op op_mulA ok_mul ((sf_int).o) ((se_ix (so_var rfl (by first | exact Or.inl rfl | exact Or.inr (Or.inl rfl) | exact Or.inr (Or.inr rfl))) ((sf_int).o)).o)).o) ((sf_int).o)).o) (sa_nil)))).o) ((se_ix (so_var rfl (by first | exact Or.inl rfl | exact Or.inr (Or.inl rfl) | exact Or.inr (Or.inr rfl))) ((sf_int).o)).o)))
    (ss_one (ss_expr (se_mut PySem.F.slot_list_append PySem.F.type_list_append mt_append mut_append rfl (by first | exact Or.inl rfl | exact Or.inr (Or.inl rfl) | exact Or.inr (Or.inr rfl)) (sa_cons ((se_tup (sa_cons ((se_ix (so_var rfl (by first | exact Or.inl rfl | exact Or.inr (Or.inl rfl) | exact Or.inr (Or.inr rfl))) ((sf_int).o)).o) (sa_cons ((se_var rfl (by first | exact Or.inl rfl | exact Or.inr (Or.inl rfl) | exact Or.inr (Or.inr rfl))).o) (sa_cons ((se_call (ok_l_slots T) mkFn_np (hr.mono (by first | decide | omega)) (by rfl) (t_l_slots T).g (t_l_slots T).fn.kp (t_l_slots T).bd (sa_cons (so_var rfl (by first | exact Or.inl rfl | exact Or.inr (Or.inl rfl) | exact Or.inr (Or.inr rfl))) (sa_cons ((se_var rfl (by first | exact Or.inl rfl | exact Or.inr (Or.inl rfl) | exact Or.inr (Or.inr rfl))).o) (sa_cons ((se_var rfl (by first | exact Or.inl rfl | exact Or.inr (Or.inl rfl) | exact Or.inr (Or.inr rfl))).o) (sa_cons ((se_var rfl (by first | exact Or.inl rfl | exact Or.inr (Or.inl rfl) | exact Or.inr (Or.inr rfl))).o) (sa_nil)))))).o) (sa_nil))))).o) (sa_nil)))))))
    (ss_one (ss_ret (se_callTy (call_tuple_of) ok_tuple.n (by rfl) (T.bl "tuple" (by decide +kernel)) (by decide +kernel) (sa_cons (so_var rfl (by first | exact Or.inl rfl | exact Or.inr (Or.inl rfl) | exact Or.inr (Or.inr rfl))) (sa_nil))))))

theorem sc_l_shift : FnScope ["_law_draws_here", "_law_script"] ["_law_draws_here", "_law_script"] (defScope (topS 15)) := ⟨rfl, rfl, rfl, by decide +kernel, rfl, by decide +kernel, by decide +kernel⟩
theorem t_l_shift {P : Program} {w : World} {K : PySem.W.Frag} {mg : Str → Option Value} {base : Heap} {adr : Nat → Addr} {fdd : Nat → FuncData} (T : Tx tbl blts P w K mg base adr fdd) : DefOk K mg ("_law_shift", topS 15, ["_law_draws_here", "_law_script"]) (adr 11) (fdd 11) := T.fn 11 rfl
theorem ok_l_shift {P : Program} {w : World} {K : PySem.W.Frag} {mg : Str → Option Value} {base : Heap} {adr : Nat → Addr} {fdd : Nat → FuncData} (T : Tx tbl blts P w K mg base adr fdd) : FnOk P w K mg base CX0 43 (adr 11) (fdd 11) ["_law_draws_here", "_law_script"] (spF K F_l_shift) := by
  refine fn_ok (k := 42) (t_l_shift T).fn sc_l_shift rfl rfl fun cdv A outer s H E hr => ?_
  exact ss_cons (ss_if (st_cmp (op_eqA hr.units) ok_eq ((se_call (ok_l_take T) mkFn_np (hr.mono (by first | decide | omega)) (by rfl) (t_l_take T).g (t_l_take T).fn.kp (t_l_take T).bd (sa_cons (so_var rfl (by first | exact Or.inl rfl | exact Or.inr (Or.inl rfl) | exact Or.inr (Or.inr rfl))) (sa_cons ((sf_int).o) (sa_nil)))).o) ((sf_int).o)) (ss_one (ss_ret (se_call (ok_l_cell T) mkFn_np (hr.mono (by first | decide | omega)) (by rfl) (t_l_cell T).g (t_l_cell T).fn.kp (t_l_cell T).bd (sa_cons ((se_var rfl (by first | exact Or.inl rfl | exact Or.inr (Or.inl rfl) | exact Or.inr (Or.inr rfl))).o) (sa_cons (so_var rfl (by first | exact Or.inl rfl | exact Or.inr (Or.inl rfl) | exact Or.inr (Or.inr rfl))) (sa_nil)))))) (ss_nil))
    (ss_one (ss_ret (sf_int)))

theorem sc_l_close : FnScope ["_law_log", "_law_slots_here", "_law_more", "_law_stamp", "_law_slot"] ["_law_log", "_law_slots_here", "_law_more"] (defScope (topS 16)) := ⟨rfl, rfl, rfl, by decide +kernel, rfl, by decide +kernel, by decide +kernel⟩
theorem t_l_close {P : Program} {w : World} {K : PySem.W.Frag} {mg : Str → Option Value} {base : Heap} {adr : Nat → Addr} {fdd : Nat → FuncData} (T : Tx tbl blts P w K mg base adr fdd) : DefOk K mg ("_law_close", topS 16, ["_law_log", "_law_slots_here", "_law_more"]) (adr 12) (fdd 12) := T.fn 12 rfl
theorem ok_l_close {P : Program} {w : World} {K : PySem.W.Frag} {mg : Str → Option Value} {base : Heap} {adr : Nat → Addr} {fdd : Nat → FuncData} (T : Tx tbl blts P w K mg base adr fdd) : FnOk P w K mg base CX0 41 (adr 12) (fdd 12) ["_law_log", "_law_slots_here", "_law_more"] (spF K F_l_close_2) := by
  refine fn_ok (k := 40) (t_l_close T).fn sc_l_close rfl rfl fun cdv A outer s H E hr => ?_
  exact ss_cons (ss_set sc_l_close.nd rfl (by first | exact Or.inl rfl | exact Or.inr rfl) (by decide) (by first | exact .inl rfl | exact .inr rfl) (se_var rfl (by first | exact Or.inl rfl | exact Or.inr (Or.inl rfl) | exact Or.inr (Or.inr rfl))))
    (ss_cons (ss_if (st_cmp op_gtA ok_cmpI (so_var rfl (by first | exact Or.inl rfl | exact Or.inr (Or.inl rfl) | exact Or.inr (Or.inr rfl))) ((sf_int).o)) (ss_one (ss_set sc_l_close.nd rfl (by first | exact Or.inl rfl | exact Or.inr rfl) (by decide) (by first | exact .inl rfl | exact .inr rfl) (se_op op_addA ok_add ((se_op op_addA ok_add ((se_ix ((se_ix ((se_ix (so_var rfl (by first | exact Or.inl rfl | exact Or.inr (Or.inl rfl) | exact Or.inr (Or.inr rfl))) ((sf_int).o)).o) ((se_op op_sub ok_sub (so_var rfl (by first | exact Or.inl rfl | exact Or.inr (Or.inl rfl) | exact Or.inr (Or.inr rfl))) ((sf_int).o)).o)).o) ((sf_int).o)).o) ((sf_int).o)).o) (so_var rfl (by first | exact Or.inl rfl | exact Or.inr (Or.inl rfl) | exact Or.inr (Or.inr rfl)))))) (ss_nil))
    (ss_cons (ss_if (st_cmp op_ltA ok_cmpI (so_var rfl (by first | exact Or.inl rfl | exact Or.inr (Or.inl rfl) | exact Or.inr (Or.inr rfl))) ((se_callB (call_len) ok_len.n (by rfl) (T.bl "len" (by decide +kernel)) PySem.boot_len (sa_cons ((se_ix (so_var rfl (by first | exact Or.inl rfl | exact Or.inr (Or.inl rfl) | exact Or.inr (Or.inr rfl))) ((sf_int).o)).o) (sa_nil))).o)) (ss_one (ss_set sc_l_close.nd rfl (by first | exact Or.inl rfl | exact Or.inr rfl) (by decide) (by first | exact .inl rfl | exact .inr rfl) (se_op op_sub ok_sub ((se_ix ((se_ix ((se_ix (so_var rfl (by first | exact Or.inl rfl | exact Or.inr (Or.inl rfl) | exact Or.inr (Or.inr rfl))) ((sf_int).o)).o) (so_var rfl (by first | exact Or.inl rfl | exact Or.inr (Or.inl rfl) | exact Or.inr (Or.inr rfl)))).o) ((sf_int).o)).o) (so_var rfl (by first | exact Or.inl rfl | exact Or.inr (Or.inl rfl) | exact Or.inr (Or.inr rfl)))))) (ss_nil))
    (ss_cons (ss_if ((sw_and (st_cmp op_ltA ok_cmpI (so_var rfl (by first | exact Or.inl rfl | exact Or.inr (Or.inl rfl) | exact Or.inr (Or.inr rfl))) ((se_callB (call_len) ok_len.n (by rfl) (T.bl "len" (by decide +kernel)) PySem.boot_len (sa_cons ((se_ix (so_var rfl (by first | exact Or.inl rfl | exact Or.inr (Or.inl rfl) | exact Or.inr (Or.inr rfl))) ((sf_int).o)).o) (sa_nil))).o)) (sw_and (st_cmp op_gtA ok_cmpI (so_var rfl (by first | exact Or.inl rfl | exact Or.inr (Or.inl rfl) | exact Or.inr (Or.inr rfl))) ((sf_int).o)) (sw_and1 (st_cmp op_leA ok_cmpI (so_var rfl (by first | exact Or.inl rfl | exact Or.inr (Or.inl rfl) | exact Or.inr (Or.inr rfl))) ((se_ix ((se_ix ((se_ix (so_var rfl (by first | exact Or.inl rfl | exact Or.inr (Or.inl rfl) | exact Or.inr (Or.inr rfl))) ((sf_int).o)).o) ((se_op op_sub ok_sub (so_var rfl (by first | exact Or.inl rfl | exact Or.inr (Or.inl rfl) | exact Or.inr (Or.inr rfl))) ((sf_int).o)).o)).o) ((sf_int).o)).o))))).t) (ss_one (ss_ret (sf_non))) (ss_nil))
    (ss_one (ss_ret (se_tup (sa_cons ((sf_str).o) (sa_cons ((se_ix (so_var rfl (by first | exact Or.inl rfl | exact Or.inr (Or.inl rfl) | exact Or.inr (Or.inr rfl))) ((sf_int).o)).o) (sa_cons ((se_var rfl (by first | exact Or.inl rfl | exact Or.inr (Or.inl rfl) | exact Or.inr (Or.inr rfl))).o) (sa_cons ((se_var rfl (by first | exact Or.inl rfl | exact Or.inr (Or.inl rfl) | exact Or.inr (Or.inr rfl))).o) (sa_cons ((se_callB (cr_sumA rfl) ok_sumA.n (by rfl) (T.bl "sum" (by decide +kernel)) (by decide +kernel) (sa_cons ((se_lc 5 (own := [("_law_slot", 4)]) (io := [0, 1, 2, 3]) rfl sc_l_close.nd (si_seq (se_slice ((se_ix (so_var rfl (by first | exact Or.inl rfl | exact Or.inr (Or.inl rfl) | exact Or.inr (Or.inr rfl))) ((sf_int).o)).o) (sp_none) (sp_some (se_var rfl (by first | exact Or.inl rfl | exact Or.inr (Or.inl rfl) | exact Or.inr (Or.inr rfl)))))) (blkOk_by (N := ["_law_log", "_law_slots_here", "_law_more", "_law_stamp", "_law_slot"]) (sc := (defScope (topS 16))) (own := [("_law_slot", 4)]) (by decide +kernel)) rfl (by decide) (fun _ _ _ _ _ => sg_name sc_l_close.nd rfl (by first | exact Or.inl rfl | exact Or.inr rfl) (by decide) (by first | exact .inl rfl | exact .inr rfl)) (fun _ _ _ _ _ => sts_nil) (fun _ _ _ _ _ => se_callB (call_len) ok_len.n (by rfl) (T.bl "len" (by decide +kernel)) PySem.boot_len (sa_cons ((se_ix (so_var rfl (by first | exact Or.inl rfl | exact Or.inr (Or.inl rfl) | exact Or.inr (Or.inr rfl))) ((sf_int).o)).o) (sa_nil)))).o) (sa_nil))).o) (sa_nil))))))))))))

theorem sc_l_letters : FnScope ["_law_draws_here", "_law_history_here", "_law_share", "_law_letters_here", "_law_log", "_law_j", "_law_i", "_law_slots_here", "_law_close_here"] ["_law_draws_here", "_law_history_here", "_law_share"] (defScope (topS 17)) := ⟨rfl, rfl, rfl, by decide +kernel, rfl, by decide +kernel, by decide +kernel⟩
theorem t_l_letters {P : Program} {w : World} {K : PySem.W.Frag} {mg : Str → Option Value} {base : Heap} {adr : Nat → Addr} {fdd : Nat → FuncData} (T : Tx tbl blts P w K mg base adr fdd) : DefOk K mg ("_law_letters", topS 17, ["_law_draws_here", "_law_history_here", "_law_share"]) (adr 13) (fdd 13) := T.fn 13 rfl
theorem ok_l_letters {P : Program} {w : World} {K : PySem.W.Frag} {mg : Str → Option Value} {base : Heap} {adr : Nat → Addr} {fdd : Nat → FuncData} (T : Tx tbl blts P w K mg base adr fdd) : FnOk P w K mg base CX0 42 (adr 13) (fdd 13) ["_law_draws_here", "_law_history_here", "_law_share"] (spF K F_l_letters) := by
  refine fn_ok (k := 41) (t_l_letters T).fn sc_l_letters rfl rfl fun cdv A outer s H E hr => ?_
  exact ss_cons (ss_set sc_l_letters.nd rfl (by first | exact Or.inl rfl | exact Or.inr rfl) (by decide) (by first | exact .inl rfl | exact .inr rfl) (se_lst (sa_nil)))
    (ss_cons (ss_for PassesOwn.never rfl (si_seq (se_var rfl (by first | exact Or.inl rfl | exact Or.inr (Or.inl rfl) | exact Or.inr (Or.inr rfl)))) (sg_name sc_l_letters.nd rfl (by first | exact Or.inl rfl | exact Or.inr rfl) (by decide) (by first | exact .inl rfl | exact .inr rfl)) (ss_cons (ss_for PassesOwn.never rfl (si_range1 (by rfl) (T.bl "range" (by decide +kernel)) (sa_cons ((se_callB (call_len) ok_len.n (by rfl) (T.bl "len" (by decide +kernel)) PySem.boot_len (sa_cons ((se_ix (so_var rfl (by first | exact Or.inl rfl | exact Or.inr (Or.inl rfl) | exact Or.inr (Or.inr rfl))) ((sf_int).o)).o) (sa_nil))).o) (sa_nil))) (sg_name sc_l_letters.nd rfl (by first | exact Or.inl rfl | exact Or.inr rfl) (by decide) (by first | exact .inl rfl | exact .inr rfl)) (ss_one (ss_for PassesOwn.never rfl (si_range1 (by rfl) (T.bl "range" (by decide +kernel)) (sa_cons ((se_callB (call_len) ok_len.n (by rfl) (T.bl "len" (by decide +kernel)) PySem.boot_len (sa_cons ((se_ix ((se_ix ((se_ix (so_var rfl (by first | exact Or.inl rfl | exact Or.inr (Or.inl rfl) | exact Or.inr (Or.inr rfl))) ((sf_int).o)).o) (so_var rfl (by first | exact Or.inl rfl | exact Or.inr (Or.inl rfl) | exact Or.inr (Or.inr rfl)))).o) ((sf_int).o)).o) (sa_nil))).o) (sa_nil))) (sg_name sc_l_letters.nd rfl (by first | exact Or.inl rfl | exact Or.inr rfl) (by decide) (by first | exact .inl rfl | exact .inr rfl)) (ss_one (ss_if (st_cmp op_ltA ok_cmpI ((se_call (ok_l_take T) mkFn_np (hr.mono (by first | decide | omega)) (by rfl) (t_l_take T).g (t_l_take T).fn.kp (t_l_take T).bd (sa_cons (so_var rfl (by first | exact Or.inl rfl | exact Or.inr (Or.inl rfl) | exact Or.inr (Or.inr rfl))) (sa_cons ((sf_int).o) (sa_nil)))).o) (so_var rfl (by first | exact Or.inl rfl | exact Or.inr (Or.inl rfl) | exact Or.inr (Or.inr rfl)))) (ss_one (ss_expr (se_mut PySem.F.slot_list_append PySem.F.type_list_append mt_append mut_append rfl (by first | exact Or.inl rfl | exact Or.inr (Or.inl rfl) | exact Or.inr (Or.inr rfl)) (sa_cons ((se_tup (sa_cons ((sf_str).o) (sa_cons ((se_ix (so_var rfl (by first | exact Or.inl rfl | exact Or.inr (Or.inl rfl) | exact Or.inr (Or.inr rfl))) ((sf_int).o)).o) (sa_cons ((se_op op_addA ok_add (so_var rfl (by first | exact Or.inl rfl | exact Or.inr (Or.inl rfl) | exact Or.inr (Or.inr rfl))) ((sf_int).o)).o) (sa_cons ((se_var rfl (by first | exact Or.inl rfl | exact Or.inr (Or.inl rfl) | exact Or.inr (Or.inr rfl))).o) (sa_cons ((se_ix ((se_ix ((se_ix (so_var rfl (by first | exact Or.inl rfl | exact Or.inr (Or.inl rfl) | exact Or.inr (Or.inr rfl))) ((sf_int).o)).o) (so_var rfl (by first | exact Or.inl rfl | exact Or.inr (Or.inl rfl) | exact Or.inr (Or.inr rfl)))).o) ((sf_int).o)).o) (sa_cons ((se_ix ((se_ix ((se_ix ((se_ix (so_var rfl (by first | exact Or.inl rfl | exact Or.inr (Or.inl rfl) | exact Or.inr (Or.inr rfl))) ((sf_int).o)).o) (so_var rfl (by first | exact Or.inl rfl | exact Or.inr (Or.inl rfl) | exact Or.inr (Or.inr rfl)))).o) ((sf_int).o)).o) (so_var rfl (by first | exact Or.inl rfl | exact Or.inr (Or.inl rfl) | exact Or.inr (Or.inr rfl)))).o) (sa_nil)))))))).o) (sa_nil))))) (ss_nil))))))
    (ss_cons (ss_for PassesOwn.never rfl (si_range1 (by rfl) (T.bl "range" (by decide +kernel)) (sa_cons ((se_call (ok_l_take T) mkFn_np (hr.mono (by first | decide | omega)) (by rfl) (t_l_take T).g (t_l_take T).fn.kp (t_l_take T).bd (sa_cons (so_var rfl (by first | exact Or.inl rfl | exact Or.inr (Or.inl rfl) | exact Or.inr (Or.inr rfl))) (sa_cons ((sf_int).o) (sa_nil)))).o) (sa_nil))) (sg_name sc_l_letters.nd rfl (by first | exact Or.inl rfl | exact Or.inr rfl) (by decide) (by first | exact .inl rfl | exact .inr rfl)) (ss_cons (ss_set sc_l_letters.nd rfl (by first | exact Or.inl rfl | exact Or.inr rfl) (by decide) (by first | exact .inl rfl | exact .inr rfl) (se_op op_sub ok_sub ((se_callB (call_len) ok_len.n (by rfl) (T.bl "len" (by decide +kernel)) PySem.boot_len (sa_cons ((se_ix (so_var rfl (by first | exact Or.inl rfl | exact Or.inr (Or.inl rfl) | exact Or.inr (Or.inr rfl))) ((sf_int).o)).o) (sa_nil))).o) ((se_ix ((se_lst (sa_cons ((sf_int).o) (sa_cons ((sf_int).o) (sa_cons ((se_call (ok_l_take T) mkFn_np (hr.mono (by first | decide | omega)) (by rfl) (t_l_take T).g (t_l_take T).fn.kp (t_l_take T).bd (sa_cons (so_var rfl (by first | exact Or.inl rfl | exact Or.inr (Or.inl rfl) | exact Or.inr (Or.inr rfl))) (sa_cons ((se_op op_addA ok_add ((se_callB (call_len) ok_len.n (by rfl) (T.bl "len" (by decide +kernel)) PySem.boot_len (sa_cons ((se_ix (so_var rfl (by first | exact Or.inl rfl | exact Or.inr (Or.inl rfl) | exact Or.inr (Or.inr rfl))) ((sf_int).o)).o) (sa_nil))).o) ((sf_int).o)).o) (sa_nil)))).o) (sa_nil))))).o) ((se_call (ok_l_take T) mkFn_np (hr.mono (by first | decide | omega)) (by rfl) (t_l_take T).g (t_l_take T).fn.kp (t_l_take T).bd (sa_cons (so_var rfl (by first | exact Or.inl rfl | exact Or.inr (Or.inl rfl) | exact Or.inr (Or.inr rfl))) (sa_cons ((sf_int).o) (sa_nil)))).o)).o)))
    (ss_cons (ss_set sc_l_letters.nd rfl (by first | exact Or.inl rfl | exact Or.inr rfl) (by decide) (by first | exact .inl rfl | exact .inr rfl) (se_call (ok_l_close T) mkFn_np (hr.mono (by first | decide | omega)) (by rfl) (t_l_close T).g (t_l_close T).fn.kp (t_l_close T).bd (sa_cons ((se_var rfl (by first | exact Or.inl rfl | exact Or.inr (Or.inl rfl) | exact Or.inr (Or.inr rfl))).o) (sa_cons ((se_var rfl (by first | exact Or.inl rfl | exact Or.inr (Or.inl rfl) | exact Or.inr (Or.inr rfl))).o) (sa_cons ((se_call (ok_l_take T) mkFn_np (hr.mono (by first | decide | omega)) (by rfl) (t_l_take T).g (t_l_take T).fn.kp (t_l_take T).bd (sa_cons (so_var rfl (by first | exact Or.inl rfl | exact Or.inr (Or.inl rfl) | exact Or.inr (Or.inr rfl))) (sa_cons ((sf_int).o) (sa_nil)))).o) (sa_nil))))))
    (ss_one (ss_if (st_tNn (so_var rfl (by first | exact Or.inl rfl | exact Or.inr (Or.inl rfl) | exact Or.inr (Or.inr rfl)))) (ss_one (ss_expr (se_mut PySem.F.slot_list_append PySem.F.type_list_append mt_append mut_append rfl (by first | exact Or.inl rfl | exact Or.inr (Or.inl rfl) | exact Or.inr (Or.inr rfl)) (sa_cons ((se_var rfl (by first | exact Or.inl rfl | exact Or.inr (Or.inl rfl) | exact Or.inr (Or.inr rfl))).o) (sa_nil))))) (ss_nil))))))
    (ss_one (ss_if (st_cmp (op_eqA hr.units) ok_eq ((se_call (ok_l_take T) mkFn_np (hr.mono (by first | decide | omega)) (by rfl) (t_l_take T).g (t_l_take T).fn.kp (t_l_take T).bd (sa_cons (so_var rfl (by first | exact Or.inl rfl | exact Or.inr (Or.inl rfl) | exact Or.inr (Or.inr rfl))) (sa_cons ((sf_int).o) (sa_nil)))).o) ((sf_int).o)) (ss_one (ss_expr (se_mut PySem.F.slot_list_append PySem.F.type_list_append mt_append mut_append rfl (by first | exact Or.inl rfl | exact Or.inr (Or.inl rfl) | exact Or.inr (Or.inr rfl)) (sa_cons ((se_tup (sa_cons ((sf_str).o) (sa_cons ((se_ix (so_var rfl (by first | exact Or.inl rfl | exact Or.inr (Or.inl rfl) | exact Or.inr (Or.inr rfl))) ((sf_int).o)).o) (sa_cons ((se_op op_sub ok_sub ((se_ix (so_var rfl (by first | exact Or.inl rfl | exact Or.inr (Or.inl rfl) | exact Or.inr (Or.inr rfl))) ((sf_int).o)).o) ((se_call (ok_l_take T) mkFn_np (hr.mono (by first | decide | omega)) (by rfl) (t_l_take T).g (t_l_take T).fn.kp (t_l_take T).bd (sa_cons (so_var rfl (by first | exact Or.inl rfl | exact Or.inr (Or.inl rfl) | exact Or.inr (Or.inr rfl))) (sa_cons ((sf_int).o) (sa_nil)))).o)).o) (sa_cons ((se_op op_addA ok_add ((se_ix (so_var rfl (by first | exact Or.inl rfl | exact Or.inr (Or.inl rfl) | exact Or.inr (Or.inr rfl))) ((sf_int).o)).o) ((se_call (ok_l_take T) mkFn_np (hr.mono (by first | decide | omega)) (by rfl) (t_l_take T).g (t_l_take T).fn.kp (t_l_take T).bd (sa_cons (so_var rfl (by first | exact Or.inl rfl | exact Or.inr (Or.inl rfl) | exact Or.inr (Or.inr rfl))) (sa_cons ((sf_int).o) (sa_nil)))).o)).o) (sa_nil)))))).o) (sa_nil))))) (ss_nil))))))
    (ss_one (ss_ret (se_mov rfl (by first | exact Or.inl rfl | exact Or.inr (Or.inl rfl) | exact Or.inr (Or.inr rfl))))))

theorem sc_l_mixed : FnScope ["_law_draws_here", "_law_letters_here", "_law_mixed_here", "_law_letter"] ["_law_draws_here", "_law_letters_here"] (defScope (topS 18)) := ⟨rfl, rfl, rfl, by decide +kernel, rfl, by decide +kernel, by decide +kernel⟩
theorem t_l_mixed {P : Program} {w : World} {K : PySem.W.Frag} {mg : Str → Option Value} {base : Heap} {adr : Nat → Addr} {fdd : Nat → FuncData} (T : Tx tbl blts P w K mg base adr fdd) : DefOk K mg ("_law_mixed", topS 18, ["_law_draws_here", "_law_letters_here"]) (adr 14) (fdd 14) := T.fn 14 rfl
theorem ok_l_mixed {P : Program} {w : World} {K : PySem.W.Frag} {mg : Str → Option Value} {base : Heap} {adr : Nat → Addr} {fdd : Nat → FuncData} (T : Tx tbl blts P w K mg base adr fdd) : FnOk P w K mg base CX0 42 (adr 14) (fdd 14) ["_law_draws_here", "_law_letters_here"] (spF K F_l_mixed) := by
  refine fn_ok (k := 41) (t_l_mixed T).fn sc_l_mixed rfl rfl fun cdv A outer s H E hr => ?_
  exact ss_cons (ss_set sc_l_mixed.nd rfl (by first | exact Or.inl rfl | exact Or.inr rfl) (by decide) (by first | exact .inl rfl | exact .inr rfl) (se_lst (sa_nil)))
    (ss_cons (ss_for PassesOwn.never rfl (si_seq (se_var rfl (by first | exact Or.inl rfl | exact Or.inr (Or.inl rfl) | exact Or.inr (Or.inr rfl)))) (sg_name sc_l_mixed.nd rfl (by first | exact Or.inl rfl | exact Or.inr rfl) (by decide) (by first | exact .inl rfl | exact .inr rfl)) (ss_cons (ss_expr (se_mut PySem.F.slot_list_insert PySem.F.type_list_insert mt_insert mut_insert rfl (by first | exact Or.inl rfl | exact Or.inr (Or.inl rfl) | exact Or.inr (Or.inr rfl)) (sa_cons ((se_call (ok_l_take T) mkFn_np (hr.mono (by first | decide | omega)) (by rfl) (t_l_take T).g (t_l_take T).fn.kp (t_l_take T).bd (sa_cons (so_var rfl (by first | exact Or.inl rfl | exact Or.inr (Or.inl rfl) | exact Or.inr (Or.inr rfl))) (sa_cons ((se_op op_addA ok_add ((se_callB (call_len) ok_len.n (by rfl) (T.bl "len" (by decide +kernel)) PySem.boot_len (sa_cons (so_var rfl (by first | exact Or.inl rfl | exact Or.inr (Or.inl rfl) | exact Or.inr (Or.inr rfl))) (sa_nil))).o) ((sf_int).o)).o) (sa_nil)))).o) (sa_cons ((se_var rfl (by first | exact Or.inl rfl | exact Or.inr (Or.inl rfl) | exact Or.inr (Or.inr rfl))).o) (sa_nil)))))
    (ss_one (ss_if (st_cmp (op_eqA hr.units) ok_eq ((se_call (ok_l_take T) mkFn_np (hr.mono (by first | decide | omega)) (by rfl) (t_l_take T).g (t_l_take T).fn.kp (t_l_take T).bd (sa_cons (so_var rfl (by first | exact Or.inl rfl | exact Or.inr (Or.inl rfl) | exact Or.inr (Or.inr rfl))) (sa_cons ((sf_int).o) (sa_nil)))).o) ((sf_int).o)) (ss_one (ss_expr (se_mut PySem.F.slot_list_append PySem.F.type_list_append mt_append mut_append rfl (by first | exact Or.inl rfl | exact Or.inr (Or.inl rfl) | exact Or.inr (Or.inr rfl)) (sa_cons ((se_var rfl (by first | exact Or.inl rfl | exact Or.inr (Or.inl rfl) | exact Or.inr (Or.inr rfl))).o) (sa_nil))))) (ss_nil)))))
    (ss_one (ss_ret (se_mov rfl (by first | exact Or.inl rfl | exact Or.inr (Or.inl rfl) | exact Or.inr (Or.inr rfl))))))

theorem sc_l_offsets : FnScope ["_law_plan_here", "_law_letters_here", "_law_name", "_law_error", "_law_clocks_here", "_law_low", "_law_high", "_law_letter", "_law_k", "_law_meter"] ["_law_plan_here", "_law_letters_here", "_law_name"] (defScope (topS 19)) := ⟨rfl, rfl, rfl, by decide +kernel, rfl, by decide +kernel, by decide +kernel⟩
theorem t_l_offsets {P : Program} {w : World} {K : PySem.W.Frag} {mg : Str → Option Value} {base : Heap} {adr : Nat → Addr} {fdd : Nat → FuncData} (T : Tx tbl blts P w K mg base adr fdd) : DefOk K mg ("_law_offsets", topS 19, ["_law_plan_here", "_law_letters_here", "_law_name"]) (adr 15) (fdd 15) := T.fn 15 rfl
theorem ok_l_offsets {P : Program} {w : World} {K : PySem.W.Frag} {mg : Str → Option Value} {base : Heap} {adr : Nat → Addr} {fdd : Nat → FuncData} (T : Tx tbl blts P w K mg base adr fdd) : FnOk P w K mg base CX0 41 (adr 15) (fdd 15) ["_law_plan_here", "_law_letters_here", "_law_name"] (spF K F_l_offsets) := by
  refine fn_ok (k := 40) (t_l_offsets T).fn sc_l_offsets rfl rfl fun cdv A outer s H E hr => ?_
  exact ss_cons (ss_set sc_l_offsets.nd rfl (by first | exact Or.inl rfl | exact Or.inr rfl) (by decide) (by first | exact .inl rfl | exact .inr rfl) (se_ix ((se_lc 10 (own := [("_law_meter", 9)]) (io := [0, 1, 2, 3, 4, 5, 6, 7, 8]) rfl sc_l_offsets.nd (si_seq (se_ix (so_var rfl (by first | exact Or.inl rfl | exact Or.inr (Or.inl rfl) | exact Or.inr (Or.inr rfl))) ((sf_int).o))) (blkOk_by (N := ["_law_plan_here", "_law_letters_here", "_law_name", "_law_error", "_law_clocks_here", "_law_low", "_law_high", "_law_letter", "_law_k", "_law_meter"]) (sc := (defScope (topS 19))) (own := [("_law_meter", 9)]) (by decide +kernel)) rfl (by decide) (fun _ _ _ _ _ => sg_name sc_l_offsets.nd rfl (by first | exact Or.inl rfl | exact Or.inr rfl) (by decide) (by first | exact .inl rfl | exact .inr rfl)) (fun _ _ _ _ _ => sts_one (st_cmp (op_eqA hr.units) ok_eq ((se_ix (so_var rfl (by first | exact Or.inl rfl | exact Or.inr (Or.inl rfl) | exact Or.inr (Or.inr rfl))) ((sf_int).o)).o) (so_var rfl (by first | exact Or.inl rfl | exact Or.inr (Or.inl rfl) | exact Or.inr (Or.inr rfl))))) (fun _ _ _ _ _ => se_ix (so_var rfl (by first | exact Or.inl rfl | exact Or.inr (Or.inl rfl) | exact Or.inr (Or.inr rfl))) ((sf_int).o))).o) ((sf_int).o)))
    (ss_cons (ss_setLc 10 (own := [("_law_letter", 7)]) (io := [0, 1, 2, 3, 4, 5, 6, 8, 9]) rfl sc_l_offsets.nd rfl rfl (by decide) (sw_true rfl rfl rfl (by decide +kernel)) (si_seq (se_var rfl (by first | exact Or.inl rfl | exact Or.inr (Or.inl rfl) | exact Or.inr (Or.inr rfl)))) (blkOk_by (N := ["_law_plan_here", "_law_letters_here", "_law_name", "_law_error", "_law_clocks_here", "_law_low", "_law_high", "_law_letter", "_law_k", "_law_meter"]) (sc := (defScope (topS 19))) (own := [("_law_letter", 7)]) (by decide +kernel)) rfl (by decide) (fun _ _ _ _ _ => sg_name sc_l_offsets.nd rfl (by first | exact Or.inl rfl | exact Or.inr rfl) (by decide) (by first | exact .inl rfl | exact .inr rfl)) (fun _ _ _ _ _ => sts_one ((sw_and (st_cmp (op_eqA hr.units) ok_eq ((se_ix (so_var rfl (by first | exact Or.inl rfl | exact Or.inr (Or.inl rfl) | exact Or.inr (Or.inr rfl))) ((sf_int).o)).o) ((sf_str).o)) (sw_and1 (st_cmp (op_eqA hr.units) ok_eq ((se_ix (so_var rfl (by first | exact Or.inl rfl | exact Or.inr (Or.inl rfl) | exact Or.inr (Or.inr rfl))) ((sf_int).o)).o) (so_var rfl (by first | exact Or.inl rfl | exact Or.inr (Or.inl rfl) | exact Or.inr (Or.inr rfl)))))).t)) (fun _ _ _ _ _ => se_var rfl (by first | exact Or.inl rfl | exact Or.inr (Or.inl rfl) | exact Or.inr (Or.inr rfl))))
    (ss_cons (ss_set sc_l_offsets.nd rfl (by first | exact Or.inl rfl | exact Or.inr rfl) (by decide) (by first | exact .inl rfl | exact .inr rfl) (se_callB (cr_max rfl) ok_maxL.n (by rfl) (T.bl "max" (by decide +kernel)) (by decide +kernel) (sa_cons ((se_op op_addA ok_add ((se_lst (sa_cons ((se_un un_neg ok_neg (so_var rfl (by first | exact Or.inl rfl | exact Or.inr (Or.inl rfl) | exact Or.inr (Or.inr rfl)))).o) (sa_nil))).o) ((se_lc 10 (own := [("_law_letter", 7)]) (io := [0, 1, 2, 3, 4, 5, 6, 8, 9]) rfl sc_l_offsets.nd (si_seq (se_var rfl (by first | exact Or.inl rfl | exact Or.inr (Or.inl rfl) | exact Or.inr (Or.inr rfl)))) (blkOk_by (N := ["_law_plan_here", "_law_letters_here", "_law_name", "_law_error", "_law_clocks_here", "_law_low", "_law_high", "_law_letter", "_law_k", "_law_meter"]) (sc := (defScope (topS 19))) (own := [("_law_letter", 7)]) (by decide +kernel)) rfl (by decide) (fun _ _ _ _ _ => sg_name sc_l_offsets.nd rfl (by first | exact Or.inl rfl | exact Or.inr rfl) (by decide) (by first | exact .inl rfl | exact .inr rfl)) (fun _ _ _ _ _ => sts_nil) (fun _ _ _ _ _ => se_ix (so_var rfl (by first | exact Or.inl rfl | exact Or.inr (Or.inl rfl) | exact Or.inr (Or.inr rfl))) ((sf_int).o))).o)).o) (sa_nil))))
    (ss_cons (ss_set sc_l_offsets.nd rfl (by first | exact Or.inl rfl | exact Or.inr rfl) (by decide) (by first | exact .inl rfl | exact .inr rfl) (se_callB (cr_min rfl) ok_minL.n (by rfl) (T.bl "min" (by decide +kernel)) (by decide +kernel) (sa_cons ((se_op op_addA ok_add ((se_lst (sa_cons ((se_var rfl (by first | exact Or.inl rfl | exact Or.inr (Or.inl rfl) | exact Or.inr (Or.inr rfl))).o) (sa_nil))).o) ((se_lc 10 (own := [("_law_letter", 7)]) (io := [0, 1, 2, 3, 4, 5, 6, 8, 9]) rfl sc_l_offsets.nd (si_seq (se_var rfl (by first | exact Or.inl rfl | exact Or.inr (Or.inl rfl) | exact Or.inr (Or.inr rfl)))) (blkOk_by (N := ["_law_plan_here", "_law_letters_here", "_law_name", "_law_error", "_law_clocks_here", "_law_low", "_law_high", "_law_letter", "_law_k", "_law_meter"]) (sc := (defScope (topS 19))) (own := [("_law_letter", 7)]) (by decide +kernel)) rfl (by decide) (fun _ _ _ _ _ => sg_name sc_l_offsets.nd rfl (by first | exact Or.inl rfl | exact Or.inr rfl) (by decide) (by first | exact .inl rfl | exact .inr rfl)) (fun _ _ _ _ _ => sts_nil) (fun _ _ _ _ _ => se_ix (so_var rfl (by first | exact Or.inl rfl | exact Or.inr (Or.inl rfl) | exact Or.inr (Or.inr rfl))) ((sf_int).o))).o)).o) (sa_nil))))
    (ss_one (ss_ret (se_lc 10 (own := [("_law_k", 8)]) (io := [0, 1, 2, 3, 4, 5, 6, 7, 9]) rfl sc_l_offsets.nd (si_range1 (by rfl) (T.bl "range" (by decide +kernel)) (sa_cons ((se_op op_addA ok_add ((se_op op_sub ok_sub (so_var rfl (by first | exact Or.inl rfl | exact Or.inr (Or.inl rfl) | exact Or.inr (Or.inr rfl))) (so_var rfl (by first | exact Or.inl rfl | exact Or.inr (Or.inl rfl) | exact Or.inr (Or.inr rfl)))).o) ((sf_int).o)).o) (sa_nil))) (blkOk_by (N := ["_law_plan_here", "_law_letters_here", "_law_name", "_law_error", "_law_clocks_here", "_law_low", "_law_high", "_law_letter", "_law_k", "_law_meter"]) (sc := (defScope (topS 19))) (own := [("_law_k", 8)]) (by decide +kernel)) rfl (by decide) (fun _ _ _ _ _ => sg_name sc_l_offsets.nd rfl (by first | exact Or.inl rfl | exact Or.inr rfl) (by decide) (by first | exact .inl rfl | exact .inr rfl)) (fun _ _ _ _ _ => sts_nil) (fun _ _ _ _ _ => se_op op_addA ok_add (so_var rfl (by first | exact Or.inl rfl | exact Or.inr (Or.inl rfl) | exact Or.inr (Or.inr rfl))) (so_var rfl (by first | exact Or.inl rfl | exact Or.inr (Or.inl rfl) | exact Or.inr (Or.inr rfl))))))))))

theorem sc_l_wide : FnScope ["_law_draws_here", "_law_plan_here", "_law_meter"] ["_law_draws_here", "_law_plan_here"] (defScope (topS 20)) := ⟨rfl, rfl, rfl, by decide +kernel, rfl, by decide +kernel, by decide +kernel⟩
theorem t_l_wide {P : Program} {w : World} {K : PySem.W.Frag} {mg : Str → Option Value} {base : Heap} {adr : Nat → Addr} {fdd : Nat → FuncData} (T : Tx tbl blts P w K mg base adr fdd) : DefOk K mg ("_law_wide", topS 20, ["_law_draws_here", "_law_plan_here"]) (adr 16) (fdd 16) := T.fn 16 rfl
theorem ok_l_wide {P : Program} {w : World} {K : PySem.W.Frag} {mg : Str → Option Value} {base : Heap} {adr : Nat → Addr} {fdd : Nat → FuncData} (T : Tx tbl blts P w K mg base adr fdd) : FnOk P w K mg base CX0 42 (adr 16) (fdd 16) ["_law_draws_here", "_law_plan_here"] (spF K F_l_wide) := by
  refine fn_ok (k := 41) (t_l_wide T).fn sc_l_wide rfl rfl fun cdv A outer s H E hr => ?_
  exact ss_cons (ss_if (st_cmp op_gtA ok_cmpI ((se_call (ok_l_take T) mkFn_np (hr.mono (by first | decide | omega)) (by rfl) (t_l_take T).g (t_l_take T).fn.kp (t_l_take T).bd (sa_cons (so_var rfl (by first | exact Or.inl rfl | exact Or.inr (Or.inl rfl) | exact Or.inr (Or.inr rfl))) (sa_cons ((sf_int).o) (sa_nil)))).o) ((sf_int).o)) (ss_one (ss_ret (se_mov rfl (by first | exact Or.inl rfl | exact Or.inr (Or.inl rfl) | exact Or.inr (Or.inr rfl))))) (ss_nil))
    (ss_one (ss_ret (se_tup (sa_cons ((se_ix (so_var rfl (by first | exact Or.inl rfl | exact Or.inr (Or.inl rfl) | exact Or.inr (Or.inr rfl))) ((sf_int).o)).o) (sa_cons ((se_callTy (call_tuple_of) ok_tuple.n (by rfl) (T.bl "tuple" (by decide +kernel)) (by decide +kernel) (sa_cons ((se_lc 3 (own := [("_law_meter", 2)]) (io := [0, 1]) rfl sc_l_wide.nd (si_seq (se_ix (so_var rfl (by first | exact Or.inl rfl | exact Or.inr (Or.inl rfl) | exact Or.inr (Or.inr rfl))) ((sf_int).o))) (blkOk_by (N := ["_law_draws_here", "_law_plan_here", "_law_meter"]) (sc := (defScope (topS 20))) (own := [("_law_meter", 2)]) (by decide +kernel)) rfl (by decide) (fun _ _ _ _ _ => sg_name sc_l_wide.nd rfl (by first | exact Or.inl rfl | exact Or.inr rfl) (by decide) (by first | exact .inl rfl | exact .inr rfl)) (fun _ _ _ _ _ => sts_nil) (fun _ _ _ _ _ => se_tup (sa_cons ((se_ix (so_var rfl (by first | exact Or.inl rfl | exact Or.inr (Or.inl rfl) | exact Or.inr (Or.inr rfl))) ((sf_int).o)).o) (sa_cons ((se_ix (so_var rfl (by first | exact Or.inl rfl | exact Or.inr (Or.inl rfl) | exact Or.inr (Or.inr rfl))) ((sf_int).o)).o) (sa_cons ((se_ix (so_var rfl (by first | exact Or.inl rfl | exact Or.inr (Or.inl rfl) | exact Or.inr (Or.inr rfl))) ((sf_int).o)).o) (sa_cons ((sf_int).o) (sa_nil))))))).o) (sa_nil))).o) (sa_nil))))))

theorem sc_l_clocks : FnScope ["_law_draws_here", "_law_script", "_law_history_here", "_law_letters_here", "_law_k", "_law_log", "_law_low", "_law_high"] ["_law_draws_here", "_law_script", "_law_history_here"] (defScope (topS 21)) := ⟨rfl, rfl, rfl, by decide +kernel, rfl, by decide +kernel, by decide +kernel⟩
theorem t_l_clocks {P : Program} {w : World} {K : PySem.W.Frag} {mg : Str → Option Value} {base : Heap} {adr : Nat → Addr} {fdd : Nat → FuncData} (T : Tx tbl blts P w K mg base adr fdd) : DefOk K mg ("_law_clocks", topS 21, ["_law_draws_here", "_law_script", "_law_history_here"]) (adr 17) (fdd 17) := T.fn 17 rfl
theorem ok_l_clocks {P : Program} {w : World} {K : PySem.W.Frag} {mg : Str → Option Value} {base : Heap} {adr : Nat → Addr} {fdd : Nat → FuncData} (T : Tx tbl blts P w K mg base adr fdd) : FnOk P w K mg base CX0 43 (adr 17) (fdd 17) ["_law_draws_here", "_law_script", "_law_history_here"] (spF K F_l_clocks_1) := by
  refine fn_ok (k := 42) (t_l_clocks T).fn sc_l_clocks rfl rfl fun cdv A outer s H E hr => ?_
  exact ss_cons (ss_set sc_l_clocks.nd rfl (by first | exact Or.inl rfl | exact Or.inr rfl) (by decide) (by first | exact .inl rfl | exact .inr rfl) (se_lst (sa_nil)))
    (ss_cons (ss_for PassesOwn.never rfl (si_range1 (by rfl) (T.bl "range" (by decide +kernel)) (sa_cons ((se_call (ok_l_take T) mkFn_np (hr.mono (by first | decide | omega)) (by rfl) (t_l_take T).g (t_l_take T).fn.kp (t_l_take T).bd (sa_cons (so_var rfl (by first | exact Or.inl rfl | exact Or.inr (Or.inl rfl) | exact Or.inr (Or.inr rfl))) (sa_cons ((sf_int).o) (sa_nil)))).o) (sa_nil))) (sg_name sc_l_clocks.nd rfl (by first | exact Or.inl rfl | exact Or.inr rfl) (by decide) (by first | exact .inl rfl | exact .inr rfl)) (ss_cons (ss_set sc_l_clocks.nd rfl (by first | exact Or.inl rfl | exact Or.inr rfl) (by decide) (by first | exact .inl rfl | exact .inr rfl) (se_ix (so_var rfl (by first | exact Or.inl rfl | exact Or.inr (Or.inl rfl) | exact Or.inr (Or.inr rfl))) ((se_call (ok_l_take T) mkFn_np (hr.mono (by first | decide | omega)) (by rfl) (t_l_take T).g (t_l_take T).fn.kp (t_l_take T).bd (sa_cons (so_var rfl (by first | exact Or.inl rfl | exact Or.inr (Or.inl rfl) | exact Or.inr (Or.inr rfl))) (sa_cons ((se_callB (call_len) ok_len.n (by rfl) (T.bl "len" (by decide +kernel)) PySem.boot_len (sa_cons (so_var rfl (by first | exact Or.inl rfl | exact Or.inr (Or.inl rfl) | exact Or.inr (Or.inr rfl))) (sa_nil))).o) (sa_nil)))).o)))
    (ss_cons (ss_set sc_l_clocks.nd rfl (by first | exact Or.inl rfl | exact Or.inr rfl) (by decide) (by first | exact .inl rfl | exact .inr rfl) (se_op op_sub ok_sub ((se_ix (so_var rfl (by first | exact Or.inl rfl | exact Or.inr (Or.inl rfl) | exact Or.inr (Or.inr rfl))) ((sf_int).o)).o) ((se_ix ((se_lst (sa_cons ((sf_int).o) (sa_cons ((sf_int).o) (sa_cons ((sf_int).o) (sa_cons ((se_callB (call_abs) ok_abs.n (by rfl) (T.bl "abs" (by decide +kernel)) (by decide +kernel) (sa_cons ((se_call (ok_l_cell T) mkFn_np (hr.mono (by first | decide | omega)) (by rfl) (t_l_cell T).g (t_l_cell T).fn.kp (t_l_cell T).bd (sa_cons ((se_var rfl (by first | exact Or.inl rfl | exact Or.inr (Or.inl rfl) | exact Or.inr (Or.inr rfl))).o) (sa_cons (so_var rfl (by first | exact Or.inl rfl | exact Or.inr (Or.inl rfl) | exact Or.inr (Or.inr rfl))) (sa_nil)))).o) (sa_nil))).o) (sa_nil)))))).o) ((se_call (ok_l_take T) mkFn_np (hr.mono (by first | decide | omega)) (by rfl) (t_l_take T).g (t_l_take T).fn.kp (t_l_take T).bd (sa_cons (so_var rfl (by first | exact Or.inl rfl | exact Or.inr (Or.inl rfl) | exact Or.inr (Or.inr rfl))) (sa_cons ((sf_int).o) (sa_nil)))).o)).o)))
    (ss_cons (ss_set sc_l_clocks.nd rfl (by first | exact Or.inl rfl | exact Or.inr rfl) (by decide) (by first | exact .inl rfl | exact .inr rfl) (se_op op_addA ok_add ((se_ix (so_var rfl (by first | exact Or.inl rfl | exact Or.inr (Or.inl rfl) | exact Or.inr (Or.inr rfl))) ((sf_int).o)).o) ((se_ix ((se_lst (sa_cons ((sf_int).o) (sa_cons ((sf_int).o) (sa_cons ((sf_int).o) (sa_cons ((se_callB (call_abs) ok_abs.n (by rfl) (T.bl "abs" (by decide +kernel)) (by decide +kernel) (sa_cons ((se_call (ok_l_cell T) mkFn_np (hr.mono (by first | decide | omega)) (by rfl) (t_l_cell T).g (t_l_cell T).fn.kp (t_l_cell T).bd (sa_cons ((se_var rfl (by first | exact Or.inl rfl | exact Or.inr (Or.inl rfl) | exact Or.inr (Or.inr rfl))).o) (sa_cons (so_var rfl (by first | exact Or.inl rfl | exact Or.inr (Or.inl rfl) | exact Or.inr (Or.inr rfl))) (sa_nil)))).o) (sa_nil))).o) (sa_nil)))))).o) ((se_call (ok_l_take T) mkFn_np (hr.mono (by first | decide | omega)) (by rfl) (t_l_take T).g (t_l_take T).fn.kp (t_l_take T).bd (sa_cons (so_var rfl (by first | exact Or.inl rfl | exact Or.inr (Or.inl rfl) | exact Or.inr (Or.inr rfl))) (sa_cons ((sf_int).o) (sa_nil)))).o)).o)))
    (ss_one (ss_expr (se_mut PySem.F.slot_list_append PySem.F.type_list_append mt_append mut_append rfl (by first | exact Or.inl rfl | exact Or.inr (Or.inl rfl) | exact Or.inr (Or.inr rfl)) (sa_cons ((se_tup (sa_cons ((sf_str).o) (sa_cons ((se_ix (so_var rfl (by first | exact Or.inl rfl | exact Or.inr (Or.inl rfl) | exact Or.inr (Or.inr rfl))) ((sf_int).o)).o) (sa_cons ((se_var rfl (by first | exact Or.inl rfl | exact Or.inr (Or.inl rfl) | exact Or.inr (Or.inr rfl))).o) (sa_cons ((se_var rfl (by first | exact Or.inl rfl | exact Or.inr (Or.inl rfl) | exact Or.inr (Or.inr rfl))).o) (sa_nil)))))).o) (sa_nil)))))))))
    (ss_one (ss_ret (se_mov rfl (by first | exact Or.inl rfl | exact Or.inr (Or.inl rfl) | exact Or.inr (Or.inr rfl))))))

theorem sc_law : FnScope ["_law_script", "_law_draws_here", "_law_plan_here", "_law_history_here", "_law_letters_here", "_law_passed", "_law_meter", "_law_left", "_law_due", "_law_own", "_law_other", "_law_letter"] ["_law_script"] (defScope (topS 22)) := ⟨rfl, rfl, rfl, by decide +kernel, rfl, by decide +kernel, by decide +kernel⟩
theorem t_law {P : Program} {w : World} {K : PySem.W.Frag} {mg : Str → Option Value} {base : Heap} {adr : Nat → Addr} {fdd : Nat → FuncData} (T : Tx tbl blts P w K mg base adr fdd) : DefOk K mg ("law", topS 22, ["_law_script"]) (adr 18) (fdd 18) := T.fn 18 rfl
theorem ok_law {P : Program} {w : World} {K : PySem.W.Frag} {mg : Str → Option Value} {base : Heap} {adr : Nat → Addr} {fdd : Nat → FuncData} (T : Tx tbl blts P w K mg base adr fdd) : FnOk P w K mg base CX0 51 (adr 18) (fdd 18) ["_law_script"] (spF K F_law_61) := by
  refine fn_ok (k := 50) (t_law T).fn sc_law rfl rfl fun cdv A outer s H E hr => ?_
  exact ss_cons (ss_set sc_law.nd rfl (by first | exact Or.inl rfl | exact Or.inr rfl) (by decide) (by first | exact .inl rfl | exact .inr rfl) (se_call (ok_l_draws T) mkFn_np (hr.mono (by first | decide | omega)) (by rfl) (t_l_draws T).g (t_l_draws T).fn.kp (t_l_draws T).bd (sa_cons ((se_var rfl (by first | exact Or.inl rfl | exact Or.inr (Or.inl rfl) | exact Or.inr (Or.inr rfl))).o) (sa_cons ((sf_int).o) (sa_nil)))))
    (ss_cons (ss_set sc_law.nd rfl (by first | exact Or.inl rfl | exact Or.inr rfl) (by decide) (by first | exact .inl rfl | exact .inr rfl) (se_call (ok_l_wide T) mkFn_np (hr.mono (by first | decide | omega)) (by rfl) (t_l_wide T).g (t_l_wide T).fn.kp (t_l_wide T).bd (sa_cons (so_var rfl (by first | exact Or.inl rfl | exact Or.inr (Or.inl rfl) | exact Or.inr (Or.inr rfl))) (sa_cons ((se_call (ok_l_plan T) mkFn_np (hr.mono (by first | decide | omega)) (by rfl) (t_l_plan T).g (t_l_plan T).fn.kp (t_l_plan T).bd (sa_cons (so_var rfl (by first | exact Or.inl rfl | exact Or.inr (Or.inl rfl) | exact Or.inr (Or.inr rfl))) (sa_cons ((se_var rfl (by first | exact Or.inl rfl | exact Or.inr (Or.inl rfl) | exact Or.inr (Or.inr rfl))).o) (sa_cons ((sf_int).o) (sa_nil))))).o) (sa_nil)))))
    (ss_cons (ss_set sc_law.nd rfl (by first | exact Or.inl rfl | exact Or.inr rfl) (by decide) (by first | exact .inl rfl | exact .inr rfl) (se_call (ok_l_history T) mkFn_np (hr.mono (by first | decide | omega)) (by rfl) (t_l_history T).g (t_l_history T).fn.kp (t_l_history T).bd (sa_cons (so_var rfl (by first | exact Or.inl rfl | exact Or.inr (Or.inl rfl) | exact Or.inr (Or.inr rfl))) (sa_cons ((se_var rfl (by first | exact Or.inl rfl | exact Or.inr (Or.inl rfl) | exact Or.inr (Or.inr rfl))).o) (sa_cons ((sf_int).o) (sa_cons ((se_call (ok_l_shift T) mkFn_np (hr.mono (by first | decide | omega)) (by rfl) (t_l_shift T).g (t_l_shift T).fn.kp (t_l_shift T).bd (sa_cons (so_var rfl (by first | exact Or.inl rfl | exact Or.inr (Or.inl rfl) | exact Or.inr (Or.inr rfl))) (sa_cons ((se_var rfl (by first | exact Or.inl rfl | exact Or.inr (Or.inl rfl) | exact Or.inr (Or.inr rfl))).o) (sa_nil)))).o) (sa_nil)))))))
    (ss_cons (ss_set sc_law.nd rfl (by first | exact Or.inl rfl | exact Or.inr rfl) (by decide) (by first | exact .inl rfl | exact .inr rfl) (se_op op_addA ok_add ((se_call (ok_l_letters T) mkFn_np (hr.mono (by first | decide | omega)) (by rfl) (t_l_letters T).g (t_l_letters T).fn.kp (t_l_letters T).bd (sa_cons (so_var rfl (by first | exact Or.inl rfl | exact Or.inr (Or.inl rfl) | exact Or.inr (Or.inr rfl))) (sa_cons ((se_var rfl (by first | exact Or.inl rfl | exact Or.inr (Or.inl rfl) | exact Or.inr (Or.inr rfl))).o) (sa_cons ((se_call (ok_l_take T) mkFn_np (hr.mono (by first | decide | omega)) (by rfl) (t_l_take T).g (t_l_take T).fn.kp (t_l_take T).bd (sa_cons (so_var rfl (by first | exact Or.inl rfl | exact Or.inr (Or.inl rfl) | exact Or.inr (Or.inr rfl))) (sa_cons ((sf_int).o) (sa_nil)))).o) (sa_nil))))).o) ((se_call (ok_l_clocks T) mkFn_np (hr.mono (by first | decide | omega)) (by rfl) (t_l_clocks T).g (t_l_clocks T).fn.kp (t_l_clocks T).bd (sa_cons (so_var rfl (by first | exact Or.inl rfl | exact Or.inr (Or.inl rfl) | exact Or.inr (Or.inr rfl))) (sa_cons ((se_var rfl (by first | exact Or.inl rfl | exact Or.inr (Or.inl rfl) | exact Or.inr (Or.inr rfl))).o) (sa_cons ((se_var rfl (by first | exact Or.inl rfl | exact Or.inr (Or.inl rfl) | exact Or.inr (Or.inr rfl))).o) (sa_nil))))).o)))
    (ss_cons (ss_set sc_law.nd rfl (by first | exact Or.inl rfl | exact Or.inr rfl) (by decide) (by first | exact .inl rfl | exact .inr rfl) (se_call (ok_l_mixed T) mkFn_np (hr.mono (by first | decide | omega)) (by rfl) (t_l_mixed T).g (t_l_mixed T).fn.kp (t_l_mixed T).bd (sa_cons (so_var rfl (by first | exact Or.inl rfl | exact Or.inr (Or.inl rfl) | exact Or.inr (Or.inr rfl))) (sa_cons ((se_var rfl (by first | exact Or.inl rfl | exact Or.inr (Or.inl rfl) | exact Or.inr (Or.inr rfl))).o) (sa_nil)))))
    (ss_cons (ss_set sc_law.nd rfl (by first | exact Or.inl rfl | exact Or.inr rfl) (by decide) (by first | exact .inl rfl | exact .inr rfl) (se_callTy (call_list_of) ok_list.n (by rfl) (T.bl "list" (by decide +kernel)) (by decide +kernel) (sa_cons (so_var rfl (by first | exact Or.inl rfl | exact Or.inr (Or.inl rfl) | exact Or.inr (Or.inr rfl))) (sa_nil))))
    (ss_cons (ss_for PassesOwn.never rfl (si_seq (se_ix (so_var rfl (by first | exact Or.inl rfl | exact Or.inr (Or.inl rfl) | exact Or.inr (Or.inr rfl))) ((sf_int).o))) (sg_name sc_law.nd rfl (by first | exact Or.inl rfl | exact Or.inr rfl) (by decide) (by first | exact .inl rfl | exact .inr rfl)) (ss_cons (ss_set sc_law.nd rfl (by first | exact Or.inl rfl | exact Or.inr rfl) (by decide) (by first | exact .inl rfl | exact .inr rfl) (se_call (ok_l_offsets T) mkFn_np (hr.mono (by first | decide | omega)) (by rfl) (t_l_offsets T).g (t_l_offsets T).fn.kp (t_l_offsets T).bd (sa_cons ((se_var rfl (by first | exact Or.inl rfl | exact Or.inr (Or.inl rfl) | exact Or.inr (Or.inr rfl))).o) (sa_cons ((se_var rfl (by first | exact Or.inl rfl | exact Or.inr (Or.inl rfl) | exact Or.inr (Or.inr rfl))).o) (sa_cons ((se_ix (so_var rfl (by first | exact Or.inl rfl | exact Or.inr (Or.inl rfl) | exact Or.inr (Or.inr rfl))) ((sf_int).o)).o) (sa_nil))))))
    (ss_cons (ss_set sc_law.nd rfl (by first | exact Or.inl rfl | exact Or.inr rfl) (by decide) (by first | exact .inl rfl | exact .inr rfl) (se_tup (sa_cons ((se_ix (so_var rfl (by first | exact Or.inl rfl | exact Or.inr (Or.inl rfl) | exact Or.inr (Or.inr rfl))) ((sf_int).o)).o) (sa_cons ((se_ix (so_var rfl (by first | exact Or.inl rfl | exact Or.inr (Or.inl rfl) | exact Or.inr (Or.inr rfl))) ((se_un un_neg ok_neg ((sf_int).o)).o)).o) (sa_nil)))))
    (ss_cons (ss_if ((sw_or (st_not (st_val (se_call (ok_l_same T 10) np_l_same_1 (hr.mono (by first | decide | omega)) (by rfl) (t_l_same T).g (t_l_same T).fn.kp (t_l_same T).bd (sa_cons ((se_call (ok_p_offsets_left T) mkFn_np (hr.mono (by first | decide | omega)) (by rfl) (t_p_offsets_left T).g (t_p_offsets_left T).fn.kp (t_p_offsets_left T).bd (sa_cons ((se_var rfl (by first | exact Or.inl rfl | exact Or.inr (Or.inl rfl) | exact Or.inr (Or.inr rfl))).o) (sa_cons ((se_var rfl (by first | exact Or.inl rfl | exact Or.inr (Or.inl rfl) | exact Or.inr (Or.inr rfl))).o) (sa_cons ((se_ix (so_var rfl (by first | exact Or.inl rfl | exact Or.inr (Or.inl rfl) | exact Or.inr (Or.inr rfl))) ((sf_int).o)).o) (sa_nil))))).o) (sa_cons ((se_var rfl (by first | exact Or.inl rfl | exact Or.inr (Or.inl rfl) | exact Or.inr (Or.inr rfl))).o) (sa_nil)))))) (sw_or1 (st_cmp (op_neA hr.units) ok_ne (so_var rfl (by first | exact Or.inl rfl | exact Or.inr (Or.inl rfl) | exact Or.inr (Or.inr rfl))) (so_var rfl (by first | exact Or.inl rfl | exact Or.inr (Or.inl rfl) | exact Or.inr (Or.inr rfl)))))).t) (ss_one (ss_ret (sf_bl))) (ss_nil))
    (ss_cons (ss_setLc 12 (own := [("_law_letter", 11)]) (io := [0, 1, 2, 3, 4, 5, 6, 7, 8, 9, 10]) rfl sc_law.nd rfl rfl (by decide) (sw_true rfl rfl rfl (by decide +kernel)) (si_seq (se_var rfl (by first | exact Or.inl rfl | exact Or.inr (Or.inl rfl) | exact Or.inr (Or.inr rfl)))) (blkOk_by (N := ["_law_script", "_law_draws_here", "_law_plan_here", "_law_history_here", "_law_letters_here", "_law_passed", "_law_meter", "_law_left", "_law_due", "_law_own", "_law_other", "_law_letter"]) (sc := (defScope (topS 22))) (own := [("_law_letter", 11)]) (by decide +kernel)) rfl (by decide) (fun _ _ _ _ _ => sg_name sc_law.nd rfl (by first | exact Or.inl rfl | exact Or.inr rfl) (by decide) (by first | exact .inl rfl | exact .inr rfl)) (fun _ _ _ _ _ => sts_one (st_cmp (op_eqA hr.units) ok_eq ((se_ix (so_var rfl (by first | exact Or.inl rfl | exact Or.inr (Or.inl rfl) | exact Or.inr (Or.inr rfl))) ((sf_int).o)).o) ((se_ix (so_var rfl (by first | exact Or.inl rfl | exact Or.inr (Or.inl rfl) | exact Or.inr (Or.inr rfl))) ((sf_int).o)).o))) (fun _ _ _ _ _ => se_var rfl (by first | exact Or.inl rfl | exact Or.inr (Or.inl rfl) | exact Or.inr (Or.inr rfl))))
    (ss_cons (ss_for PassesOwn.never rfl (si_seq (se_lst (sa_cons ((se_callTy (call_tuple_of) ok_tuple.n (by rfl) (T.bl "tuple" (by decide +kernel)) (by decide +kernel) (sa_cons ((se_rev (so_var rfl (by first | exact Or.inl rfl | exact Or.inr (Or.inl rfl) | exact Or.inr (Or.inr rfl)))).o) (sa_nil))).o) (sa_cons ((se_var rfl (by first | exact Or.inl rfl | exact Or.inr (Or.inl rfl) | exact Or.inr (Or.inr rfl))).o) (sa_nil))))) (sg_name sc_law.nd rfl (by first | exact Or.inl rfl | exact Or.inr rfl) (by decide) (by first | exact .inl rfl | exact .inr rfl)) (ss_one (ss_if (st_not (st_val (se_call (ok_l_same T 10) np_l_same_1 (hr.mono (by first | decide | omega)) (by rfl) (t_l_same T).g (t_l_same T).fn.kp (t_l_same T).bd (sa_cons ((se_call (ok_p_offsets_left T) mkFn_np (hr.mono (by first | decide | omega)) (by rfl) (t_p_offsets_left T).g (t_p_offsets_left T).fn.kp (t_p_offsets_left T).bd (sa_cons ((se_var rfl (by first | exact Or.inl rfl | exact Or.inr (Or.inl rfl) | exact Or.inr (Or.inr rfl))).o) (sa_cons ((se_var rfl (by first | exact Or.inl rfl | exact Or.inr (Or.inl rfl) | exact Or.inr (Or.inr rfl))).o) (sa_cons ((se_ix (so_var rfl (by first | exact Or.inl rfl | exact Or.inr (Or.inl rfl) | exact Or.inr (Or.inr rfl))) ((sf_int).o)).o) (sa_nil))))).o) (sa_cons ((se_var rfl (by first | exact Or.inl rfl | exact Or.inr (Or.inl rfl) | exact Or.inr (Or.inr rfl))).o) (sa_nil)))))) (ss_one (ss_ret (sf_bl))) (ss_nil))))
    (ss_one (ss_if (st_not (st_val (se_call (ok_l_same T 10) np_l_same_1 (hr.mono (by first | decide | omega)) (by rfl) (t_l_same T).g (t_l_same T).fn.kp (t_l_same T).bd (sa_cons ((se_call (ok_p_offsets_left T) mkFn_np (hr.mono (by first | decide | omega)) (by rfl) (t_p_offsets_left T).g (t_p_offsets_left T).fn.kp (t_p_offsets_left T).bd (sa_cons ((se_var rfl (by first | exact Or.inl rfl | exact Or.inr (Or.inl rfl) | exact Or.inr (Or.inr rfl))).o) (sa_cons ((se_tup (sa_nil)).o) (sa_cons ((se_ix (so_var rfl (by first | exact Or.inl rfl | exact Or.inr (Or.inl rfl) | exact Or.inr (Or.inr rfl))) ((sf_int).o)).o) (sa_nil))))).o) (sa_cons ((se_tup (sa_cons ((se_un un_neg ok_neg ((se_ix (so_var rfl (by first | exact Or.inl rfl | exact Or.inr (Or.inl rfl) | exact Or.inr (Or.inr rfl))) ((sf_int).o)).o)).o) (sa_cons ((se_ix (so_var rfl (by first | exact Or.inl rfl | exact Or.inr (Or.inl rfl) | exact Or.inr (Or.inr rfl))) ((sf_int).o)).o) (sa_nil)))).o) (sa_nil)))))) (ss_one (ss_ret (sf_bl))) (ss_nil)))))))))
    (ss_one (ss_ret (sf_bl)))))))))
theorem all_mk {l : PySem.W.OpenLaw} {w : World} {K : PySem.W.Frag} {h : Heap} {mg : Str → Option Value} {fa : Addr} (X : K.In h) (G : h.Ns mainGlobals mg) (hfa : mg "law" = some (.ref fa)) (hth : l.prog.given.tree = none)
    {f0 f1 f2 f3 f4 f5 f6 f7 f8 f9 f10 f11 f12 f13 f14 f15 f16 f17 f18 : Addr} {od0 an0 od1 an1 od2 an2 od3 an3 od4 an4 od5 an5 od6 an6 od7 an7 od8 an8 od9 an9 od10 an10 od11 an11 od12 an12 od13 an13 od14 an14 od15 an15 od16 an16 od17 an17 od18 an18 : Option Addr} {sl0 sl1 sl2 sl3 sl4 sl5 sl6 sl7 sl8 sl9 sl10 sl11 sl12 sl13 sl14 sl15 sl16 sl17 sl18 : Array (Option Value)} {oc0 kV0 dc0 pm0 cd0 ct0 oc1 kV1 dc1 pm1 cd1 ct1 oc2 kV2 dc2 pm2 cd2 ct2 oc3 kV3 dc3 pm3 cd3 ct3 oc4 kV4 dc4 pm4 cd4 ct4 oc5 kV5 dc5 pm5 cd5 ct5 oc6 kV6 dc6 pm6 cd6 ct6 oc7 kV7 dc7 pm7 cd7 ct7 oc8 kV8 dc8 pm8 cd8 ct8 oc9 kV9 dc9 pm9 cd9 ct9 oc10 kV10 dc10 pm10 cd10 ct10 oc11 kV11 dc11 pm11 cd11 ct11 oc12 kV12 dc12 pm12 cd12 ct12 oc13 kV13 dc13 pm13 cd13 ct13 oc14 kV14 dc14 pm14 cd14 ct14 oc15 kV15 dc15 pm15 cd15 ct15 oc16 kV16 dc16 pm16 cd16 ct16 oc17 kV17 dc17 pm17 cd17 ct17 oc18 kV18 dc18 pm18 cd18 ct18 : Value}
    (a0 : PySem.W.nsIn K mainGlobals "meter_of" = some (some (.ref f0))) (l0 : K.lookup f0 = some ⟨oc0, od0, .func (PySem.W.fnOf "meter_of" "meter_of" (defArgs (topS 1)) (defBody (topS 1)) (defScope (topS 1)) .none kV0 dc0 pm0 an0 cd0 ct0), sl0⟩) (c0 : PySem.W.codeIn K cd0 "meter_of" = true) (k0 : PySem.W.keepIn K (.ref f0) = true)
    (a1 : PySem.W.nsIn K mainGlobals "offsets_of" = some (some (.ref f1))) (l1 : K.lookup f1 = some ⟨oc1, od1, .func (PySem.W.fnOf "offsets_of" "offsets_of" (defArgs (topS 3)) (defBody (topS 3)) (defScope (topS 3)) .none kV1 dc1 pm1 an1 cd1 ct1), sl1⟩) (c1 : PySem.W.codeIn K cd1 "offsets_of" = true) (k1 : PySem.W.keepIn K (.ref f1) = true)
    (a2 : PySem.W.nsIn K mainGlobals "offsets_left" = some (some (.ref f2))) (l2 : K.lookup f2 = some ⟨oc2, od2, .func (PySem.W.fnOf "offsets_left" "offsets_left" (defArgs (topS 5)) (defBody (topS 5)) (defScope (topS 5)) .none kV2 dc2 pm2 an2 cd2 ct2), sl2⟩) (c2 : PySem.W.codeIn K cd2 "offsets_left" = true) (k2 : PySem.W.keepIn K (.ref f2) = true)
    (a3 : PySem.W.nsIn K mainGlobals "_law_draws" = some (some (.ref f3))) (l3 : K.lookup f3 = some ⟨oc3, od3, .func (PySem.W.fnOf "_law_draws" "_law_draws" (defArgs (topS 7)) (defBody (topS 7)) (defScope (topS 7)) .none kV3 dc3 pm3 an3 cd3 ct3), sl3⟩) (c3 : PySem.W.codeIn K cd3 "_law_draws" = true) (k3 : PySem.W.keepIn K (.ref f3) = true)
    (a4 : PySem.W.nsIn K mainGlobals "_law_take" = some (some (.ref f4))) (l4 : K.lookup f4 = some ⟨oc4, od4, .func (PySem.W.fnOf "_law_take" "_law_take" (defArgs (topS 8)) (defBody (topS 8)) (defScope (topS 8)) .none kV4 dc4 pm4 an4 cd4 ct4), sl4⟩) (c4 : PySem.W.codeIn K cd4 "_law_take" = true) (k4 : PySem.W.keepIn K (.ref f4) = true)
    (a5 : PySem.W.nsIn K mainGlobals "_law_word" = some (some (.ref f5))) (l5 : K.lookup f5 = some ⟨oc5, od5, .func (PySem.W.fnOf "_law_word" "_law_word" (defArgs (topS 9)) (defBody (topS 9)) (defScope (topS 9)) .none kV5 dc5 pm5 an5 cd5 ct5), sl5⟩) (c5 : PySem.W.codeIn K cd5 "_law_word" = true) (k5 : PySem.W.keepIn K (.ref f5) = true)
    (a6 : PySem.W.nsIn K mainGlobals "_law_same" = some (some (.ref f6))) (l6 : K.lookup f6 = some ⟨oc6, od6, .func (PySem.W.fnOf "_law_same" "_law_same" (defArgs (topS 10)) (defBody (topS 10)) (defScope (topS 10)) .none kV6 dc6 pm6 an6 cd6 ct6), sl6⟩) (c6 : PySem.W.codeIn K cd6 "_law_same" = true) (k6 : PySem.W.keepIn K (.ref f6) = true)
    (a7 : PySem.W.nsIn K mainGlobals "_law_cell" = some (some (.ref f7))) (l7 : K.lookup f7 = some ⟨oc7, od7, .func (PySem.W.fnOf "_law_cell" "_law_cell" (defArgs (topS 11)) (defBody (topS 11)) (defScope (topS 11)) .none kV7 dc7 pm7 an7 cd7 ct7), sl7⟩) (c7 : PySem.W.codeIn K cd7 "_law_cell" = true) (k7 : PySem.W.keepIn K (.ref f7) = true)
    (a8 : PySem.W.nsIn K mainGlobals "_law_plan" = some (some (.ref f8))) (l8 : K.lookup f8 = some ⟨oc8, od8, .func (PySem.W.fnOf "_law_plan" "_law_plan" (defArgs (topS 12)) (defBody (topS 12)) (defScope (topS 12)) .none kV8 dc8 pm8 an8 cd8 ct8), sl8⟩) (c8 : PySem.W.codeIn K cd8 "_law_plan" = true) (k8 : PySem.W.keepIn K (.ref f8) = true)
    (a9 : PySem.W.nsIn K mainGlobals "_law_slots" = some (some (.ref f9))) (l9 : K.lookup f9 = some ⟨oc9, od9, .func (PySem.W.fnOf "_law_slots" "_law_slots" (defArgs (topS 13)) (defBody (topS 13)) (defScope (topS 13)) .none kV9 dc9 pm9 an9 cd9 ct9), sl9⟩) (c9 : PySem.W.codeIn K cd9 "_law_slots" = true) (k9 : PySem.W.keepIn K (.ref f9) = true)
    (a10 : PySem.W.nsIn K mainGlobals "_law_history" = some (some (.ref f10))) (l10 : K.lookup f10 = some ⟨oc10, od10, .func (PySem.W.fnOf "_law_history" "_law_history" (defArgs (topS 14)) (defBody (topS 14)) (defScope (topS 14)) .none kV10 dc10 pm10 an10 cd10 ct10), sl10⟩) (c10 : PySem.W.codeIn K cd10 "_law_history" = true) (k10 : PySem.W.keepIn K (.ref f10) = true)
    (a11 : PySem.W.nsIn K mainGlobals "_law_shift" = some (some (.ref f11))) (l11 : K.lookup f11 = some ⟨oc11, od11, .func (PySem.W.fnOf "_law_shift" "_law_shift" (defArgs (topS 15)) (defBody (topS 15)) (defScope (topS 15)) .none kV11 dc11 pm11 an11 cd11 ct11), sl11⟩) (c11 : PySem.W.codeIn K cd11 "_law_shift" = true) (k11 : PySem.W.keepIn K (.ref f11) = true)
    (a12 : PySem.W.nsIn K mainGlobals "_law_close" = some (some (.ref f12))) (l12 : K.lookup f12 = some ⟨oc12, od12, .func (PySem.W.fnOf "_law_close" "_law_close" (defArgs (topS 16)) (defBody (topS 16)) (defScope (topS 16)) .none kV12 dc12 pm12 an12 cd12 ct12), sl12⟩) (c12 : PySem.W.codeIn K cd12 "_law_close" = true) (k12 : PySem.W.keepIn K (.ref f12) = true)
    (a13 : PySem.W.nsIn K mainGlobals "_law_letters" = some (some (.ref f13))) (l13 : K.lookup f13 = some ⟨oc13, od13, .func (PySem.W.fnOf "_law_letters" "_law_letters" (defArgs (topS 17)) (defBody (topS 17)) (defScope (topS 17)) .none kV13 dc13 pm13 an13 cd13 ct13), sl13⟩) (c13 : PySem.W.codeIn K cd13 "_law_letters" = true) (k13 : PySem.W.keepIn K (.ref f13) = true)
    (a14 : PySem.W.nsIn K mainGlobals "_law_mixed" = some (some (.ref f14))) (l14 : K.lookup f14 = some ⟨oc14, od14, .func (PySem.W.fnOf "_law_mixed" "_law_mixed" (defArgs (topS 18)) (defBody (topS 18)) (defScope (topS 18)) .none kV14 dc14 pm14 an14 cd14 ct14), sl14⟩) (c14 : PySem.W.codeIn K cd14 "_law_mixed" = true) (k14 : PySem.W.keepIn K (.ref f14) = true)
    (a15 : PySem.W.nsIn K mainGlobals "_law_offsets" = some (some (.ref f15))) (l15 : K.lookup f15 = some ⟨oc15, od15, .func (PySem.W.fnOf "_law_offsets" "_law_offsets" (defArgs (topS 19)) (defBody (topS 19)) (defScope (topS 19)) .none kV15 dc15 pm15 an15 cd15 ct15), sl15⟩) (c15 : PySem.W.codeIn K cd15 "_law_offsets" = true) (k15 : PySem.W.keepIn K (.ref f15) = true)
    (a16 : PySem.W.nsIn K mainGlobals "_law_wide" = some (some (.ref f16))) (l16 : K.lookup f16 = some ⟨oc16, od16, .func (PySem.W.fnOf "_law_wide" "_law_wide" (defArgs (topS 20)) (defBody (topS 20)) (defScope (topS 20)) .none kV16 dc16 pm16 an16 cd16 ct16), sl16⟩) (c16 : PySem.W.codeIn K cd16 "_law_wide" = true) (k16 : PySem.W.keepIn K (.ref f16) = true)
    (a17 : PySem.W.nsIn K mainGlobals "_law_clocks" = some (some (.ref f17))) (l17 : K.lookup f17 = some ⟨oc17, od17, .func (PySem.W.fnOf "_law_clocks" "_law_clocks" (defArgs (topS 21)) (defBody (topS 21)) (defScope (topS 21)) .none kV17 dc17 pm17 an17 cd17 ct17), sl17⟩) (c17 : PySem.W.codeIn K cd17 "_law_clocks" = true) (k17 : PySem.W.keepIn K (.ref f17) = true)
    (a18 : PySem.W.nsIn K mainGlobals "law" = some (some (.ref f18))) (l18 : K.lookup f18 = some ⟨oc18, od18, .func (PySem.W.fnOf "law" "law" (defArgs (topS 22)) (defBody (topS 22)) (defScope (topS 22)) .none kV18 dc18 pm18 an18 cd18 ct18), sl18⟩) (c18 : PySem.W.codeIn K cd18 "law" = true) (k18 : PySem.W.keepIn K (.ref f18) = true)
    (z0 : PySem.W.nsIn K mainGlobals "abs" = some none)
    (z1 : PySem.W.nsIn K mainGlobals "bool" = some none)
    (z2 : PySem.W.nsIn K mainGlobals "int" = some none)
    (z3 : PySem.W.nsIn K mainGlobals "isinstance" = some none)
    (z4 : PySem.W.nsIn K mainGlobals "len" = some none)
    (z5 : PySem.W.nsIn K mainGlobals "list" = some none)
    (z6 : PySem.W.nsIn K mainGlobals "max" = some none)
    (z7 : PySem.W.nsIn K mainGlobals "min" = some none)
    (z8 : PySem.W.nsIn K mainGlobals "range" = some none)
    (z9 : PySem.W.nsIn K mainGlobals "sorted" = some none)
    (z10 : PySem.W.nsIn K mainGlobals "str" = some none)
    (z11 : PySem.W.nsIn K mainGlobals "sum" = some none)
    (z12 : PySem.W.nsIn K mainGlobals "tuple" = some none) :
    ∃ fd : FuncData, (∀ (s : Shared) (v : Value), BindsTo s fd ⟨[v], []⟩ [("_law_script", v)]) ∧ ∀ base : Heap, K.In base → base.Ns mainGlobals mg → base.NoSeer → FnOk l.prog w K mg base CX0 51 fa fd ["_law_script"] (spF K F_law_61) := by
  have e := hfa.symm.trans (PySem.W.mg_of X G a18)
  cases e
  have F0 := fun_mk (st := topS 1) l0 c0 k0
  have b0 := F0.binds (ps := ["plan", "name"]) fun _ _ _ _ _ _ us hl => match us, hl with | [_, _], _ => rfl
  have F1 := fun_mk (st := topS 3) l1 c1 k1
  have b1 := F1.binds (ps := ["plan", "letters", "name"]) fun _ _ _ _ _ _ us hl => match us, hl with | [_, _, _], _ => rfl
  have F2 := fun_mk (st := topS 5) l2 c2 k2
  have b2 := F2.binds (ps := ["plan", "letters", "name"]) fun _ _ _ _ _ _ us hl => match us, hl with | [_, _, _], _ => rfl
  have F3 := fun_mk (st := topS 7) l3 c3 k3
  have b3 := F3.binds (ps := ["_law_script", "_law_many"]) fun _ _ _ _ _ _ us hl => match us, hl with | [_, _], _ => rfl
  have F4 := fun_mk (st := topS 8) l4 c4 k4
  have b4 := F4.binds (ps := ["_law_draws_here", "_law_many"]) fun _ _ _ _ _ _ us hl => match us, hl with | [_, _], _ => rfl
  have F5 := fun_mk (st := topS 9) l5 c5 k5
  have b5 := F5.binds (ps := ["_law_number"]) fun _ _ _ _ _ _ us hl => match us, hl with | [_], _ => rfl
  have F6 := fun_mk (st := topS 10) l6 c6 k6
  have b6 := F6.binds (ps := ["_law_actual", "_law_due"]) fun _ _ _ _ _ _ us hl => match us, hl with | [_, _], _ => rfl
  have F7 := fun_mk (st := topS 11) l7 c7 k7
  have b7 := F7.binds (ps := ["_law_script", "_law_draws_here"]) fun _ _ _ _ _ _ us hl => match us, hl with | [_, _], _ => rfl
  have F8 := fun_mk (st := topS 12) l8 c8 k8
  have b8 := F8.binds (ps := ["_law_draws_here", "_law_script", "_law_most"]) fun _ _ _ _ _ _ us hl => match us, hl with | [_, _, _], _ => rfl
  have F9 := fun_mk (st := topS 13) l9 c9 k9
  have b9 := F9.binds (ps := ["_law_draws_here", "_law_meter", "_law_most", "_law_shift_here"]) fun _ _ _ _ _ _ us hl => match us, hl with | [_, _, _, _], _ => rfl
  have F10 := fun_mk (st := topS 14) l10 c10 k10
  have b10 := F10.binds (ps := ["_law_draws_here", "_law_plan_here", "_law_most", "_law_shift_here"]) fun _ _ _ _ _ _ us hl => match us, hl with | [_, _, _, _], _ => rfl
  have F11 := fun_mk (st := topS 15) l11 c11 k11
  have b11 := F11.binds (ps := ["_law_draws_here", "_law_script"]) fun _ _ _ _ _ _ us hl => match us, hl with | [_, _], _ => rfl
  have F12 := fun_mk (st := topS 16) l12 c12 k12
  have b12 := F12.binds (ps := ["_law_log", "_law_slots_here", "_law_more"]) fun _ _ _ _ _ _ us hl => match us, hl with | [_, _, _], _ => rfl
  have F13 := fun_mk (st := topS 17) l13 c13 k13
  have b13 := F13.binds (ps := ["_law_draws_here", "_law_history_here", "_law_share"]) fun _ _ _ _ _ _ us hl => match us, hl with | [_, _, _], _ => rfl
  have F14 := fun_mk (st := topS 18) l14 c14 k14
  have b14 := F14.binds (ps := ["_law_draws_here", "_law_letters_here"]) fun _ _ _ _ _ _ us hl => match us, hl with | [_, _], _ => rfl
  have F15 := fun_mk (st := topS 19) l15 c15 k15
  have b15 := F15.binds (ps := ["_law_plan_here", "_law_letters_here", "_law_name"]) fun _ _ _ _ _ _ us hl => match us, hl with | [_, _, _], _ => rfl
  have F16 := fun_mk (st := topS 20) l16 c16 k16
  have b16 := F16.binds (ps := ["_law_draws_here", "_law_plan_here"]) fun _ _ _ _ _ _ us hl => match us, hl with | [_, _], _ => rfl
  have F17 := fun_mk (st := topS 21) l17 c17 k17
  have b17 := F17.binds (ps := ["_law_draws_here", "_law_script", "_law_history_here"]) fun _ _ _ _ _ _ us hl => match us, hl with | [_, _, _], _ => rfl
  have F18 := fun_mk (st := topS 22) l18 c18 k18
  have b18 := F18.binds (ps := ["_law_script"]) fun _ _ _ _ _ _ us hl => match us, hl with | [_], _ => rfl
  have D : DefsOk K mg tbl _ _ := .cons ⟨F0, b0, PySem.W.mg_of X G a0⟩ (.cons ⟨F1, b1, PySem.W.mg_of X G a1⟩ (.cons ⟨F2, b2, PySem.W.mg_of X G a2⟩ (.cons ⟨F3, b3, PySem.W.mg_of X G a3⟩ (.cons ⟨F4, b4, PySem.W.mg_of X G a4⟩ (.cons ⟨F5, b5, PySem.W.mg_of X G a5⟩ (.cons ⟨F6, b6, PySem.W.mg_of X G a6⟩ (.cons ⟨F7, b7, PySem.W.mg_of X G a7⟩ (.cons ⟨F8, b8, PySem.W.mg_of X G a8⟩ (.cons ⟨F9, b9, PySem.W.mg_of X G a9⟩ (.cons ⟨F10, b10, PySem.W.mg_of X G a10⟩ (.cons ⟨F11, b11, PySem.W.mg_of X G a11⟩ (.cons ⟨F12, b12, PySem.W.mg_of X G a12⟩ (.cons ⟨F13, b13, PySem.W.mg_of X G a13⟩ (.cons ⟨F14, b14, PySem.W.mg_of X G a14⟩ (.cons ⟨F15, b15, PySem.W.mg_of X G a15⟩ (.cons ⟨F16, b16, PySem.W.mg_of X G a16⟩ (.cons ⟨F17, b17, PySem.W.mg_of X G a17⟩ (.cons ⟨F18, b18, PySem.W.mg_of X G a18⟩ (.nil)))))))))))))))))))
  refine ⟨PySem.W.fnOf "law" "law" (defArgs (topS 22)) (defBody (topS 22)) (defScope (topS 22)) .none kV18 dc18 pm18 an18 cd18 ct18, fun s v => .of_eq rfl, fun base hK hN hS => ?_⟩
  have T : Tx tbl blts l.prog w K mg base _ _ := ⟨D.get, fun x hx => ?_, hS, hth⟩
  · exact ok_law T
  · simp only [blts, List.mem_cons, List.not_mem_nil, or_false] at hx
    rcases hx with rfl | rfl | rfl | rfl | rfl | rfl | rfl | rfl | rfl | rfl | rfl | rfl | rfl <;> first | exact PySem.W.mg_none_of X G z0 | exact PySem.W.mg_none_of X G z1 | exact PySem.W.mg_none_of X G z2 | exact PySem.W.mg_none_of X G z3 | exact PySem.W.mg_none_of X G z4 | exact PySem.W.mg_none_of X G z5 | exact PySem.W.mg_none_of X G z6 | exact PySem.W.mg_none_of X G z7 | exact PySem.W.mg_none_of X G z8 | exact PySem.W.mg_none_of X G z9 | exact PySem.W.mg_none_of X G z10 | exact PySem.W.mg_none_of X G z11 | exact PySem.W.mg_none_of X G z12
end Lw
open PySem PySem.W PyProof.Rows
set_option maxRecDepth 100000 in
set_option maxHeartbeats 0 in
theorem PySem.Challenge.cw_toldwhensure_k33_offsets_that_are_left_holds : PySem.Challenge.rw_toldwhensure_k33_offsets_that_are_left.Holds := by
  w_on; o_law; k_head; (case hw => w_witness2)
  k_fill
  refine DL.law_end (l := PySem.Challenge.rw_toldwhensure_k33_offsets_that_are_left) (k := 51) (x := "_law_script") (F := Lw.F_law_61) rfl rfl ⟨rfl, by decide, by decide⟩ rfl (by decide +kernel) (fun w h Y => PySem.W.kIn_of Y) ?G Lw.law_true
  case G =>
    intro w mg fa h KX G hmg
    refine' Lw.all_mk KX G hmg rfl ?a0 ?l0 ?c0 ?k0 ?a1 ?l1 ?c1 ?k1 ?a2 ?l2 ?c2 ?k2 ?a3 ?l3 ?c3 ?k3 ?a4 ?l4 ?c4 ?k4 ?a5 ?l5 ?c5 ?k5 ?a6 ?l6 ?c6 ?k6 ?a7 ?l7 ?c7 ?k7 ?a8 ?l8 ?c8 ?k8 ?a9 ?l9 ?c9 ?k9 ?a10 ?l10 ?c10 ?k10 ?a11 ?l11 ?c11 ?k11 ?a12 ?l12 ?c12 ?k12 ?a13 ?l13 ?c13 ?k13 ?a14 ?l14 ?c14 ?k14 ?a15 ?l15 ?c15 ?k15 ?a16 ?l16 ?c16 ?k16 ?a17 ?l17 ?c17 ?k17 ?a18 ?l18 ?c18 ?k18 ?z0 ?z1 ?z2 ?z3 ?z4 ?z5 ?z6 ?z7 ?z8 ?z9 ?z10 ?z11 ?z12
    (case a0 => k_is); (case l0 => k_is); (case c0 => k_is); (case k0 => k_is)
    (case a1 => k_is); (case l1 => k_is); (case c1 => k_is); (case k1 => k_is)
    (case a2 => k_is); (case l2 => k_is); (case c2 => k_is); (case k2 => k_is)
    (case a3 => k_is); (case l3 => k_is); (case c3 => k_is); (case k3 => k_is)
    (case a4 => k_is); (case l4 => k_is); (case c4 => k_is); (case k4 => k_is)
    (case a5 => k_is); (case l5 => k_is); (case c5 => k_is); (case k5 => k_is)
    (case a6 => k_is); (case l6 => k_is); (case c6 => k_is); (case k6 => k_is)
    (case a7 => k_is); (case l7 => k_is); (case c7 => k_is); (case k7 => k_is)
    (case a8 => k_is); (case l8 => k_is); (case c8 => k_is); (case k8 => k_is)
    (case a9 => k_is); (case l9 => k_is); (case c9 => k_is); (case k9 => k_is)
    (case a10 => k_is); (case l10 => k_is); (case c10 => k_is); (case k10 => k_is)
    (case a11 => k_is); (case l11 => k_is); (case c11 => k_is); (case k11 => k_is)
    (case a12 => k_is); (case l12 => k_is); (case c12 => k_is); (case k12 => k_is)
    (case a13 => k_is); (case l13 => k_is); (case c13 => k_is); (case k13 => k_is)
    (case a14 => k_is); (case l14 => k_is); (case c14 => k_is); (case k14 => k_is)
    (case a15 => k_is); (case l15 => k_is); (case c15 => k_is); (case k15 => k_is)
    (case a16 => k_is); (case l16 => k_is); (case c16 => k_is); (case k16 => k_is)
    (case a17 => k_is); (case l17 => k_is); (case c17 => k_is); (case k17 => k_is)
    (case a18 => k_is); (case l18 => k_is); (case c18 => k_is); (case k18 => k_is)
    (case z0 => k_is); (case z1 => k_is); (case z2 => k_is); (case z3 => k_is)
    (case z4 => k_is); (case z5 => k_is); (case z6 => k_is); (case z7 => k_is)
    (case z8 => k_is); (case z9 => k_is); (case z10 => k_is); (case z11 => k_is)
    (case z12 => k_is)
