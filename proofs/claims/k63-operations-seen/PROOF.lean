import PyProof.Rows.All
import Wide.All
import OpenK.AllK
import Wide.FinOn
import HandS.ForMost
import HandS.Exc
import HandS.TryOnly
import HandS.ExcOwn
import HandS.CallSlots
import HandS.TupAny
import HandS.IsInst
import HandS.Style
import HandS.Flow
import HandS.StrMore
import HandS.Rev
import HandS.Codes
import HandS.GenList
import HandS.Text
import HandS.Iter
import HandS.AnyAll
import HandS.GenOver
import HandS.More
import HandS.Defaults
import HandS.Words
import KE.KNestM
import HandS.Ends
import HandS.EndTab
import HandS.Head0
import HandS.Head1
import HandS.Head2
import HandS.HeadEnd
import HandS.HeadHook1
import HandS.HeadHook2
import HandS.HeadHook3
import PySem.Challenge.RW_editsagree_k63_whole_operations_and_seen
set_option Elab.async false
set_option linter.all false
set_option maxRecDepth 100000
namespace PD
open PySem PySem.Spec PyProof.Rows L2

/-- a Python value, by value; obj n: the n-th object of the store (a list that changes); rol: a list that is only read (known, or the module's) -/
inductive D where
  | non | bl (b : Bool) | int (i : Int) | str (s : List Nat)
  | tup (ds : List D) | lst (ds : List D) | rol (ds : List D)
  | dic (ks vs : List D) | st (ks : List D)
  | obj (n : Nat)
  | exn (c : String)

mutual
def D.pure : D → Bool
  | .tup ds => D.pures ds
  | .lst ds => D.pures ds
  | .rol ds => D.pures ds
  | .dic ks vs => D.pures ks && D.pures vs
  | .st ks => D.pures ks
  | .obj _ => false
  | .exn _ => false
  | _ => true
def D.pures : List D → Bool
  | [] => true
  | d :: ds => d.pure && D.pures ds
end

/-- a cell of the store -/
inductive C where
  | lst (ds : List D)
  | dic (ks vs : List D)
  | st (ks : List D)

abbrev Store := List C
abbrev DEnv := List (Option D)

inductive Out (α : Type) where
  | ok (a : α) (S : Store)
  | exc (x : String) (S : Store)
  | bad

def Out.bind {α β : Type} : Out α → (α → Store → Out β) → Out β
  | .ok a S, g => g a S
  | .exc x S, _ => .exc x S
  | .bad, _ => .bad
@[simp] theorem Out.bind_ok {α β : Type} (a : α) (S : Store) (g : α → Store → Out β) : (Out.ok a S).bind g = g a S := rfl
@[simp] theorem Out.bind_exc {α β : Type} (x : String) (S : Store) (g : α → Store → Out β) : (Out.exc x S : Out α).bind g = .exc x S := rfl
@[simp] theorem Out.bind_bad {α β : Type} (g : α → Store → Out β) : (Out.bad : Out α).bind g = .bad := rfl

/-- what is fixed through a law -/
structure Wd where
  P : Program
  w : World
  K : PySem.W.Frag
  mg : Str → Option Value
  base : Heap
  /-- the code tables of the defs with generator expressions -/
  T : List Addr
  /-- the class of an error -/
  cls : String → Value

/-- where the cells of the store lie; hid: lists in the making, that nothing else may touch -/
structure Rn where
  at_ : Nat → Addr
  hid : List Addr
instance : CoeFun Rn (fun _ => Nat → Addr) := ⟨Rn.at_⟩

mutual
inductive RepV (K : PySem.W.Frag) (ρ : Rn) (N : Nat) (H : Hp) : D → V → Prop
  | non : RepV K ρ N H .non .non
  | bl (b : Bool) : RepV K ρ N H (.bl b) (.bl b)
  | int (i : Int) : RepV K ρ N H (.int i) (.int i)
  | str (s : List Nat) : (s.length ≤ sizeLine ∧ s.all (fun c => decide (c < 0x110000)) = true) → RepV K ρ N H (.str s) (.str ⟨s.toArray⟩)
  | tup {a : Addr} {vs : List V} {ds : List D} : SqT K H a vs → RepVs K ρ N H ds vs → RepV K ρ N H (.tup ds) (.ref a)
  | lst {a : Addr} {vs : List V} {ds : List D} : H a = some (.lst vs) → ((∀ i, i < N → ρ i ≠ a) ∧ a ∉ ρ.hid) → RepVs K ρ N H ds vs → RepV K ρ N H (.lst ds) (.ref a)
  | rol {a : Addr} {vs : List V} {ds : List D} : ((∃ o, H a = some (.frz o (.lst vs))) ∨ SqL K (fun _ => none) a vs) → RepVs K ρ N H ds vs → RepV K ρ N H (.rol ds) (.ref a)
  | obj {n : Nat} : n < N → RepV K ρ N H (.obj n) (.ref (ρ n))
inductive RepVs (K : PySem.W.Frag) (ρ : Rn) (N : Nat) (H : Hp) : List D → List V → Prop
  | nil : RepVs K ρ N H [] []
  | cons {d : D} {v : V} {ds : List D} {vs : List V} : RepV K ρ N H d v → RepVs K ρ N H ds vs → RepVs K ρ N H (d :: ds) (v :: vs)
end

/-- the heap has grown: what no cell of the store holds is as it was -/
structure Ext (ρ : Rn) (N : Nat) (H : Hp) (ρ' : Rn) (N' : Nat) (H' : Hp) : Prop where
  le : N ≤ N'
  agree : ∀ i, i < N → ρ' i = ρ i
  tups : ∀ a xs, H a = some (.tup xs) → H' a = some (.tup xs)
  frzs : ∀ a o u, H a = some (.frz o u) → H' a = some (.frz o u)
  keep : ∀ a o, H a = some o → (∀ i, i < N → ρ i ≠ a) → (∀ ps, o ≠ .tbl ps) → H' a = some o
  there : ∀ a, H a ≠ none → H' a ≠ none
  fresh : ∀ i, N ≤ i → i < N' → H (ρ' i) = none
  hid : ρ'.hid = ρ.hid

theorem Ext.refl {ρ : Rn} {N : Nat} {H : Hp} : Ext ρ N H ρ N H :=
  ⟨Nat.le_refl _, fun _ _ => rfl, fun _ _ h => h, fun _ _ _ h => h, fun _ _ h _ _ => h, fun _ h => h, fun i h1 h2 => absurd h2 (Nat.not_lt.mpr h1), rfl⟩
theorem Ext.trans {ρ ρ1 ρ2 : Rn} {N N1 N2 : Nat} {H H1 H2 : Hp} (a : Ext ρ N H ρ1 N1 H1) (b : Ext ρ1 N1 H1 ρ2 N2 H2) : Ext ρ N H ρ2 N2 H2 where
  le := Nat.le_trans a.le b.le
  agree := fun i h => (b.agree i (Nat.lt_of_lt_of_le h a.le)).trans (a.agree i h)
  tups := fun x xs h => b.tups x xs (a.tups x xs h)
  frzs := fun x o u h => b.frzs x o u (a.frzs x o u h)
  keep := fun x o h hn ht => b.keep x o (a.keep x o h hn ht) (fun i hi => by
    by_cases hN : i < N
    · rw [a.agree i hN]; exact hn i hN
    · intro e
      have f := a.fresh i (Nat.le_of_not_lt hN) hi
      rw [e, h] at f; cases f) ht
  there := fun x h => b.there x (a.there x h)
  fresh := fun i h1 h2 => by
    by_cases hN : i < N1
    · rw [b.agree i hN]; exact a.fresh i h1 hN
    · have f := b.fresh i (Nat.le_of_not_lt hN) h2
      cases e : H (ρ2 i) with
      | none => rfl
      | some o => exact absurd f (a.there _ (by rw [e]; simp))
  hid := b.hid.trans a.hid

theorem SqT.ext {K : PySem.W.Frag} {ρ ρ' : Rn} {N N' : Nat} {H H' : Hp} {a : Addr} {xs : List V} (e : Ext ρ N H ρ' N' H') (h : SqT K H a xs) : SqT K H' a xs := by
  rcases h with (h | ⟨o, h⟩) | h
  · exact .inl (.inl (e.tups _ _ h))
  · exact .inl (.inr ⟨o, e.frzs _ _ _ h⟩)
  · exact .inr h
mutual
theorem RepV.mono {K : PySem.W.Frag} {ρ ρ' : Rn} {N N' : Nat} {H H' : Hp} (e : Ext ρ N H ρ' N' H') : ∀ {d : D} {v : V}, RepV K ρ N H d v → RepV K ρ' N' H' d v
  | _, _, .non => .non
  | _, _, .bl b => .bl b
  | _, _, .int i => .int i
  | _, _, .str s h => .str s h
  | _, _, .tup h r => .tup (SqT.ext e h) (RepVs.mono e r)
  | _, _, .lst h hn r => .lst (e.keep _ _ h hn.1 fun _ z => nomatch z) ⟨fun i hi => by
      by_cases hN : i < N
      · rw [e.agree i hN]; exact hn.1 i hN
      · intro q
        have f := e.fresh i (Nat.le_of_not_lt hN) hi
        rw [q, h] at f
        exact (nomatch f), fun z => hn.2 (by rw [← e.hid]; exact z)⟩ (RepVs.mono e r)
  | _, _, .rol h r => .rol (by
      rcases h with ⟨o, h⟩ | h
      · exact .inl ⟨o, e.frzs _ _ _ h⟩
      · exact .inr h) (RepVs.mono e r)
  | _, _, .obj h => by
      rw [← e.agree _ h]
      exact .obj (Nat.lt_of_lt_of_le h e.le)
theorem RepVs.mono {K : PySem.W.Frag} {ρ ρ' : Rn} {N N' : Nat} {H H' : Hp} (e : Ext ρ N H ρ' N' H') : ∀ {ds : List D} {vs : List V}, RepVs K ρ N H ds vs → RepVs K ρ' N' H' ds vs
  | _, _, .nil => .nil
  | _, _, .cons r t => .cons (RepV.mono e r) (RepVs.mono e t)
end
section
variable {K : PySem.W.Frag} {ρ : Rn} {N : Nat} {H : Hp}
theorem RepVs.length : ∀ {ds : List D} {vs : List V}, RepVs K ρ N H ds vs → ds.length = vs.length
  | _, _, .nil => rfl
  | _, _, .cons _ t => by simp [RepVs.length t]
theorem RepVs.get : ∀ {ds : List D} {vs : List V} {i : Nat} {d : D}, RepVs K ρ N H ds vs → ds[i]? = some d → ∃ v, vs[i]? = some v ∧ RepV K ρ N H d v
  | _, _, _, _, .nil, h => by simp at h
  | _, _, 0, _, .cons r _, h => by simp at h; subst h; exact ⟨_, rfl, r⟩
  | _, _, i + 1, d, .cons _ t, h => by
    obtain ⟨v, h1, h2⟩ := RepVs.get (i := i) (d := d) t (by simpa using h)
    exact ⟨v, by simpa using h1, h2⟩
theorem RepVs.getV : ∀ {ds : List D} {vs : List V} {i : Nat} {v : V}, RepVs K ρ N H ds vs → vs[i]? = some v → ∃ d, ds[i]? = some d ∧ RepV K ρ N H d v
  | _, _, _, _, .nil, h => by simp at h
  | _, _, 0, _, .cons r _, h => by simp at h; subst h; exact ⟨_, rfl, r⟩
  | _, _, i + 1, v, .cons _ t, h => by
    obtain ⟨d, h1, h2⟩ := RepVs.getV (i := i) (v := v) t (by simpa using h)
    exact ⟨d, by simpa using h1, h2⟩
theorem RepVs.append : ∀ {ds es : List D} {vs us : List V}, RepVs K ρ N H ds vs → RepVs K ρ N H es us → RepVs K ρ N H (ds ++ es) (vs ++ us)
  | _, _, _, _, .nil, s => s
  | _, _, _, _, .cons r t, s => .cons r (RepVs.append t s)
theorem RepVs.take : ∀ {ds : List D} {vs : List V} (n : Nat), RepVs K ρ N H ds vs → RepVs K ρ N H (ds.take n) (vs.take n)
  | _, _, 0, _ => .nil
  | _, _, _ + 1, .nil => .nil
  | _, _, n + 1, .cons r t => .cons r (RepVs.take n t)
theorem RepVs.drop : ∀ {ds : List D} {vs : List V} (n : Nat), RepVs K ρ N H ds vs → RepVs K ρ N H (ds.drop n) (vs.drop n)
  | _, _, 0, r => r
  | _, _, _ + 1, .nil => .nil
  | _, _, n + 1, .cons _ t => RepVs.drop n t
theorem RepVs.one {d : D} {vs : List V} (r : RepVs K ρ N H [d] vs) : ∃ v, vs = [v] ∧ RepV K ρ N H d v := by
  cases r with | cons r t => cases t; exact ⟨_, rfl, r⟩
theorem RepVs.two {d e : D} {vs : List V} (r : RepVs K ρ N H [d, e] vs) : ∃ v u, vs = [v, u] ∧ RepV K ρ N H d v ∧ RepV K ρ N H e u := by
  cases r with | cons r t => cases t with | cons s t => cases t; exact ⟨_, _, rfl, r, s⟩
end

/-- how a cell lies at an address -/
def RepC (K : PySem.W.Frag) (ρ : Rn) (N : Nat) (H : Hp) (a : Addr) : C → Prop
  | .lst ds => ds.all D.pure = true ∧ ∃ vs, H a = some (.lst vs) ∧ RepVs K ρ N H ds vs
  | _ => False

structure RepS (W : Wd) (ρ : Rn) (S : Store) (H : Hp) : Prop where
  at_ : ∀ i c, S[i]? = some c → RepC W.K ρ S.length H (ρ i) c
  inj : ∀ i j, i < S.length → j < S.length → ρ i = ρ j → i = j
  tabs : ∀ p ∈ W.T, ∃ ps, H p = some (.tbl ps) ∧ TriplesOk ps.toList
  hid : ∀ a ∈ ρ.hid, (∃ xs, H a = some (.lst xs)) ∧ ∀ i, i < S.length → ρ i ≠ a

structure RepE (K : PySem.W.Frag) (ρ : Rn) (N : Nat) (H : Hp) (δ : DEnv) (σ : L2.St) : Prop where
  len : δ.length = σ.length
  at_ : ∀ (i : Nat) (d : D), δ[i]? = some (some d) → ∃ v, σ[i]? = some (some v) ∧ RepV K ρ N H d v

theorem RepE.mono {K : PySem.W.Frag} {ρ ρ' : Rn} {N N' : Nat} {H H' : Hp} {δ : DEnv} {σ : L2.St} (e : Ext ρ N H ρ' N' H') (r : RepE K ρ N H δ σ) : RepE K ρ' N' H' δ σ :=
  ⟨r.len, fun i d h => let ⟨v, h1, h2⟩ := r.at_ i d h; ⟨v, h1, h2.mono e⟩⟩
theorem RepE.set {K : PySem.W.Frag} {ρ : Rn} {N : Nat} {H : Hp} {δ : DEnv} {σ : L2.St} (r : RepE K ρ N H δ σ) (i : Nat) {d : D} {v : V} (h : RepV K ρ N H d v) : RepE K ρ N H (δ.set i (some d)) (σ.set i (some v)) := by
  refine ⟨by simpa using r.len, fun j e hj => ?_⟩
  by_cases q : j = i
  · subst q
    by_cases hl : j < δ.length
    · rw [List.getElem?_set_self hl] at hj
      simp only [Option.some.injEq] at hj
      subst hj
      exact ⟨v, by rw [List.getElem?_set_self (r.len ▸ hl)], h⟩
    · rw [List.getElem?_eq_none (by simpa using Nat.le_of_not_lt hl)] at hj
      cases hj
  · rw [List.getElem?_set_ne (Ne.symm q)] at hj
    rw [List.getElem?_set_ne (Ne.symm q)]
    exact r.at_ j e hj

/-- what an outcome asks of what follows -/
def Run {α : Type} (W : Wd) (X : WX) (σ : L2.St) (ρ : Rn) (N : Nat) (H : Hp) (r : Out α) (G : α → Store → Rn → Hp → Prop) : Prop :=
  match r with
  | .ok a S' => ∀ ρ' H', Ext ρ N H ρ' S'.length H' → RepS W ρ' S' H' → G a S' ρ' H'
  | .exc x S' => ∀ ρ' H', Ext ρ N H ρ' S'.length H' → RepS W ρ' S' H' → X (W.cls x) none σ H'
  | .bad => False

section
variable {W : Wd} {X : WX} {σ : L2.St} {ρ : Rn} {N : Nat} {H : Hp} {α β : Type}
theorem Run.bind {r : Out α} {g : α → Store → Out β} {G : β → Store → Rn → Hp → Prop} (h : Run W X σ ρ N H (r.bind g) G) :
    Run W X σ ρ N H r (fun a S1 ρ1 H1 => Ext ρ N H ρ1 S1.length H1 ∧ RepS W ρ1 S1 H1 ∧ Run W X σ ρ1 S1.length H1 (g a S1) G) := by
  cases r with
  | ok a S1 =>
    intro ρ1 H1 e1 s1
    refine ⟨e1, s1, ?_⟩
    have h' : Run W X σ ρ N H (g a S1) G := h
    cases hg : g a S1 with
    | ok b S2 => rw [hg] at h'; exact fun ρ2 H2 e2 s2 => h' ρ2 H2 (e1.trans e2) s2
    | exc x S2 => rw [hg] at h'; exact fun ρ2 H2 e2 s2 => h' ρ2 H2 (e1.trans e2) s2
    | bad => rw [hg] at h'; exact h'
  | exc x S1 => exact h
  | bad => exact h
theorem Run.imp {r : Out α} {G G' : α → Store → Rn → Hp → Prop} (h : Run W X σ ρ N H r G) (hG : ∀ a S ρ' H', G a S ρ' H' → G' a S ρ' H') : Run W X σ ρ N H r G' := by
  cases r with
  | ok a S1 => exact fun ρ' H' e s => hG _ _ _ _ (h ρ' H' e s)
  | exc x S1 => exact h
  | bad => exact h
/-- the outcome is a value, the state as it is -/
theorem Run.here {a : α} {S : Store} {G : α → Store → Rn → Hp → Prop} (h : Run W X σ ρ S.length H (.ok a S) G) (s : RepS W ρ S H) : G a S ρ H := h ρ H .refl s
/-- from another base -/
theorem Run.from {r : Out α} {ρ0 : Rn} {N0 : Nat} {H0 : Hp} {G : α → Store → Rn → Hp → Prop} (h : Run W X σ ρ0 N0 H0 r G) (e : Ext ρ0 N0 H0 ρ N H) : Run W X σ ρ N H r G := by
  cases r with
  | ok a S1 => exact fun ρ' H' e' s => h ρ' H' (e.trans e') s
  | exc x S1 => exact fun ρ' H' e' s => h ρ' H' (e.trans e') s
  | bad => exact h
end

/-- how a result lies: of data by values, of truths and numbers by themselves -/
abbrev Rl (α β : Type) := Rn → Nat → Hp → α → β → Prop
abbrev relD (W : Wd) : Rl D V := fun ρ N H d v => RepV W.K ρ N H d v
abbrev relL (W : Wd) : Rl (List D) (List V) := fun ρ N H d v => RepVs W.K ρ N H d v
abbrev relI {α : Type} : Rl α α := fun _ _ _ a b => a = b
/-- what an outcome asks of what follows it -/
def Cont {α β : Type} (W : Wd) (X : WX) (σ : L2.St) (rel : Rl α β) (r : Out α) (ρ : Rn) (N : Nat) (H : Hp) (Q : β → Hp → Prop) : Prop :=
  Run W X σ ρ N H r fun a S' ρ' H' => ∀ b, rel ρ' S'.length H' a b → Q b H'
/-- the reading of what f tells -/
def rdg {α β : Type} (W : Wd) (X : WX) (rel : Rl α β) (f : DEnv → Store → Out α) : L2.St → Hp → (β → Hp → Prop) → Prop := fun σ H Q =>
  ∃ δ S ρ, RepS W ρ S H ∧ RepE W.K ρ S.length H δ σ ∧ Cont W X σ rel (f δ S) ρ S.length H Q
abbrev tD (W : Wd) (X : WX) (f : DEnv → Store → Out D) : TE := rdg W X (relD W) f
abbrev tT (W : Wd) (X : WX) (f : DEnv → Store → Out Bool) : TT := rdg W X relI f
abbrev tA (W : Wd) (X : WX) (f : DEnv → Store → Out (List D)) : TA := rdg W X (relL W) f
abbrev tO (W : Wd) (X : WX) (f : DEnv → Store → Out (Option Int)) : TO := rdg W X relI f
section
variable {W : Wd} {X : WX} {σ : L2.St} {ρ : Rn} {S : Store} {N : Nat} {H : Hp} {α β γ ε : Type} {rel : Rl α β} {rel' : Rl γ ε} {δ : DEnv}
/-- what comes first, then the rest, at a state -/
theorem Cont.bind {r : Out α} {g : α → Store → Out γ} {Q : ε → Hp → Prop} (h : Cont W X σ rel' (r.bind g) ρ N H Q) :
    Cont W X σ rel r ρ N H (fun b H1 => ∃ a S1 ρ1, Ext ρ N H ρ1 S1.length H1 ∧ RepS W ρ1 S1 H1 ∧ rel ρ1 S1.length H1 a b ∧ Cont W X σ rel' (g a S1) ρ1 S1.length H1 Q) :=
  (Run.bind h).imp fun a S1 ρ1 H1 ⟨e1, s1, h1⟩ b hb => ⟨a, S1, ρ1, e1, s1, hb, h1⟩
theorem rdg.mk {f : DEnv → Store → Out α} {Q : β → Hp → Prop} (s : RepS W ρ S H) (e : RepE W.K ρ S.length H δ σ) (h : Cont W X σ rel (f δ S) ρ S.length H Q) : rdg W X rel f σ H Q := ⟨δ, S, ρ, s, e, h⟩
/-- at a state: the first part's reading -/
theorem rdg.bind {f : DEnv → Store → Out α} {g : α → Store → Out γ} {Q : ε → Hp → Prop} (s : RepS W ρ S H) (e : RepE W.K ρ S.length H δ σ) (h : Cont W X σ rel' ((f δ S).bind g) ρ S.length H Q) :
    rdg W X rel f σ H (fun b H1 => ∃ a S1 ρ1, Ext ρ S.length H ρ1 S1.length H1 ∧ RepS W ρ1 S1 H1 ∧ rel ρ1 S1.length H1 a b ∧ Cont W X σ rel' (g a S1) ρ1 S1.length H1 Q) :=
  ⟨δ, S, ρ, s, e, Cont.bind h⟩
theorem Cont.here {a : α} {Q : β → Hp → Prop} {b : β} (h : Cont W X σ rel (.ok a S) ρ S.length H Q) (s : RepS W ρ S H) (r : rel ρ S.length H a b) : Q b H := h ρ H .refl s b r
end

section
variable {W : Wd} {ρ : Rn} {N : Nat} {H : Hp} {p : Addr} {o : HO} {S : Store}
theorem Ext.new (h : H p = none) : Ext ρ N H ρ N (upd H p o) where
  le := Nat.le_refl _
  agree := fun _ _ => rfl
  tups := fun a xs e => by rw [upd_ne (ne_of_none e h)]; exact e
  frzs := fun a x u e => by rw [upd_ne (ne_of_none e h)]; exact e
  keep := fun a x e _ _ => by rw [upd_ne (ne_of_none e h)]; exact e
  there := fun a e => by
    by_cases q : a = p
    · rw [q, upd_same]; simp
    · rw [upd_ne q]; exact e
  fresh := fun i h1 h2 => absurd h2 (Nat.not_lt.mpr h1)
  hid := rfl
/-- a new cell of the store -/
def aux (ρ : Rn) (N : Nat) (p : Addr) : Rn := ⟨fun i => if i = N then p else ρ i, ρ.hid⟩
theorem aux_self : aux ρ N p N = p := by show (if N = N then p else ρ N) = p; rw [if_pos rfl]
theorem aux_ne {i : Nat} (h : i ≠ N) : aux ρ N p i = ρ i := by show (if i = N then p else ρ i) = ρ i; rw [if_neg h]
theorem Ext.cell (h : H p = none) : Ext ρ N H (aux ρ N p) (N + 1) (upd H p o) where
  le := Nat.le_succ _
  agree := fun i hi => aux_ne (Nat.ne_of_lt hi)
  tups := fun a xs e => by rw [upd_ne (ne_of_none e h)]; exact e
  frzs := fun a x u e => by rw [upd_ne (ne_of_none e h)]; exact e
  keep := fun a x e _ _ => by rw [upd_ne (ne_of_none e h)]; exact e
  there := fun a e => by
    by_cases q : a = p
    · rw [q, upd_same]; simp
    · rw [upd_ne q]; exact e
  fresh := fun i h1 h2 => by
    have : i = N := by omega
    rw [this, aux_self]; exact h
  hid := rfl
theorem RepC.mono {K : PySem.W.Frag} {ρ' : Rn} {N' : Nat} {H' : Hp} {a : Addr} {c : C} (e : Ext ρ N H ρ' N' H') (r : RepC K ρ N H a c) (k : ∀ o, H a = some o → H' a = some o) : RepC K ρ' N' H' a c := by
  cases c with
  | lst ds => obtain ⟨hp, vs, h, r⟩ := r; exact ⟨hp, vs, k _ h, r.mono e⟩
  | dic _ _ => exact r
  | st _ => exact r
theorem RepC.there {K : PySem.W.Frag} {a : Addr} {c : C} (r : RepC K ρ N H a c) : ∃ o, H a = some o ∧ Mut (some o) := by
  cases c with
  | lst ds => obtain ⟨_, vs, h, _⟩ := r; exact ⟨_, h, trivial⟩
  | dic _ _ => exact r.elim
  | st _ => exact r.elim
theorem RepS.addr (s : RepS W ρ S H) {i : Nat} (hi : i < S.length) : ∃ o, H (ρ i) = some o ∧ Mut (some o) := (s.at_ i S[i] (List.getElem?_eq_getElem hi)).there
/-- a new object that no cell holds -/
theorem RepS.new (s : RepS W ρ S H) (h : H p = none) : RepS W ρ S (upd H p o) where
  at_ := fun i c e => (s.at_ i c e).mono (Ext.new h) fun x q => by rw [upd_ne (ne_of_none q h)]; exact q
  inj := s.inj
  tabs := fun q hq => let ⟨ps, e, t⟩ := s.tabs q hq; ⟨ps, by rw [upd_ne (ne_of_none e h)]; exact e, t⟩
  hid := fun a ha => let ⟨⟨xs, e⟩, n⟩ := s.hid a ha; ⟨⟨xs, by rw [upd_ne (ne_of_none e h)]; exact e⟩, n⟩
/-- a new cell -/
theorem RepS.cell (s : RepS W ρ S H) (h : H p = none) {c : C} (hc : RepC W.K (aux ρ S.length p) (S.length + 1) (upd H p o) p c) : RepS W (aux ρ S.length p) (S ++ [c]) (upd H p o) where
  at_ := fun i c' e => by
    rw [List.length_append, List.length_singleton]
    by_cases hi : i < S.length
    · rw [List.getElem?_append_left hi] at e
      rw [aux_ne (Nat.ne_of_lt hi)]
      exact (s.at_ i c' e).mono (Ext.cell h) fun x q => by rw [upd_ne (ne_of_none q h)]; exact q
    · rw [List.getElem?_append_right (Nat.le_of_not_lt hi)] at e
      have hz : i = S.length := by
        by_cases z : i - S.length = 0
        · omega
        · obtain ⟨k, hk⟩ : ∃ k, i - S.length = k + 1 := ⟨i - S.length - 1, by omega⟩
          rw [hk] at e; simp at e
      subst hz
      simp at e
      subst e
      rw [aux_self]; exact hc
  inj := fun i j hi hj e => by
    rw [List.length_append, List.length_singleton] at hi hj
    by_cases h1 : i = S.length
    · by_cases h2 : j = S.length
      · omega
      · rw [h1, aux_self, aux_ne h2] at e
        obtain ⟨o, q, _⟩ := s.addr (i := j) (by omega)
        rw [← e, h] at q; cases q
    · by_cases h2 : j = S.length
      · rw [h2, aux_self, aux_ne h1] at e
        obtain ⟨o, q, _⟩ := s.addr (i := i) (by omega)
        rw [e, h] at q; cases q
      · rw [aux_ne h1, aux_ne h2] at e
        exact s.inj i j (by omega) (by omega) e
  tabs := fun q hq => let ⟨ps, e, t⟩ := s.tabs q hq; ⟨ps, by rw [upd_ne (ne_of_none e h)]; exact e, t⟩
  hid := fun a ha => by
    obtain ⟨⟨xs, e⟩, n⟩ := s.hid a ha
    refine ⟨⟨xs, by rw [upd_ne (ne_of_none e h)]; exact e⟩, fun i hi => ?_⟩
    rw [List.length_append, List.length_singleton] at hi
    by_cases h1 : i = S.length
    · rw [h1, aux_self]; exact (ne_of_none e h).symm
    · rw [aux_ne h1]; exact n i (by omega)
/-- a cell is written: the list behind the n-th object -/
theorem Ext.put {n : Nat} {xs ys : List V} (hn : n < N) (h : H (ρ n) = some (.lst xs)) : Ext ρ N H ρ N (upd H (ρ n) (.lst ys)) where
  le := Nat.le_refl _
  agree := fun _ _ => rfl
  tups := fun a zs e => by rw [upd_ne (ne_of e h (by intro z; cases z))]; exact e
  frzs := fun a x u e => by rw [upd_ne (ne_of e h (by intro z; cases z))]; exact e
  keep := fun a x e q _ => by rw [upd_ne (Ne.symm (q n hn))]; exact e
  there := fun a e => by
    by_cases q : a = ρ n
    · rw [q, upd_same]; simp
    · rw [upd_ne q]; exact e
  fresh := fun i h1 h2 => absurd h2 (Nat.not_lt.mpr h1)
  hid := rfl
mutual
/-- a pure value leans on no cell -/
theorem RepV.pure_at {K : PySem.W.Frag} {n : Nat} {ys : List V} {xs : List V} (hn : n < N) (h : H (ρ n) = some (.lst xs)) : ∀ {d : D} {v : V}, RepV K ρ N H d v → RepV K ρ N (upd H (ρ n) (.lst ys)) d v := fun r => r.mono (Ext.put hn h)
end
theorem RepS.put (s : RepS W ρ S H) {n : Nat} {xs ys : List V} {ds : List D} (hn : n < S.length) (h : H (ρ n) = some (.lst xs)) (hp : ds.all D.pure = true) (r : RepVs W.K ρ S.length H ds ys) : RepS W ρ (S.set n (.lst ds)) (upd H (ρ n) (.lst ys)) where
  at_ := fun i c e => by
    rw [List.length_set]
    by_cases q : i = n
    · subst q
      rw [List.getElem?_set_self hn] at e
      cases e
      exact ⟨hp, ys, upd_same, r.mono (Ext.put hn h)⟩
    · rw [List.getElem?_set_ne (Ne.symm q)] at e
      have hi : i < S.length := (List.getElem?_eq_some_iff.mp e).1
      exact (s.at_ i c e).mono (Ext.put hn h) fun x z => by rw [upd_ne (fun z => q (s.inj i n hi hn z))]; exact z
  inj := fun i j hi hj e => s.inj i j (by simpa using hi) (by simpa using hj) e
  tabs := fun q hq => let ⟨ps, e, t⟩ := s.tabs q hq; ⟨ps, by rw [upd_ne (ne_of e h (by intro z; cases z))]; exact e, t⟩
  hid := fun a ha => let ⟨⟨xs, e⟩, m⟩ := s.hid a ha; ⟨⟨xs, by rw [upd_ne (Ne.symm (m n hn))]; exact e⟩, fun i hi => m i (by simpa using hi)⟩
end
end PD

set_option Elab.async false
set_option linter.all false
set_option maxRecDepth 100000
namespace PD
open PySem PySem.Spec PyProof.Rows L2

mutual
def D.py : D → PyData
  | .non => .none
  | .bl b => .bool b
  | .int i => .int i
  | .str s => .str ⟨s.toArray⟩
  | .tup ds => .tuple (D.pys ds)
  | .lst ds => .list (D.pys ds)
  | .rol ds => .list (D.pys ds)
  | _ => .none
def D.pys : List D → List PyData
  | [] => []
  | d :: ds => d.py :: D.pys ds
end
mutual
/-- made of none, bools, ints, texts, tuples, lists -/
def D.plain : D → Bool
  | .non => true
  | .bl _ => true
  | .int _ => true
  | .str _ => true
  | .tup ds => D.plains ds
  | .lst ds => D.plains ds
  | .rol ds => D.plains ds
  | _ => false
def D.plains : List D → Bool
  | [] => true
  | d :: ds => d.plain && D.plains ds
end
mutual
def D.depth : D → Nat
  | .tup ds => D.depths ds + 1
  | .lst ds => D.depths ds + 1
  | .rol ds => D.depths ds + 1
  | _ => 0
def D.depths : List D → Nat
  | [] => 0
  | d :: ds => max d.depth (D.depths ds)
end
mutual
/-- Python's == -/
def D.eqv : D → D → Bool
  | .non, .non => true
  | .bl a, .bl b => a == b
  | .bl a, .int j => (if a then 1 else 0) == j
  | .int i, .bl b => i == (if b then 1 else 0)
  | .int i, .int j => decide (i = j)
  | .str x, .str y => decide (x = y)
  | .lst xs, .lst ys => D.eqvs xs ys
  | .lst xs, .rol ys => D.eqvs xs ys
  | .rol xs, .lst ys => D.eqvs xs ys
  | .rol xs, .rol ys => D.eqvs xs ys
  | .tup xs, .tup ys => D.eqvs xs ys
  | _, _ => false
def D.eqvs : List D → List D → Bool
  | [], [] => true
  | x :: xs, y :: ys => x.eqv y && D.eqvs xs ys
  | _, _ => false
end
theorem str_beq (x y : List Nat) : ((⟨x.toArray⟩ : Str) == ⟨y.toArray⟩) = decide (x = y) := by
  by_cases h : x = y
  · subst h; simp
  · rw [decide_eq_false h]
    apply beq_eq_false_iff_ne.mpr
    intro e
    injection e with e
    exact h (by simpa using congrArg Array.toList e)
mutual
theorem D.eqv_py : ∀ (a b : D), a.plain = true → b.plain = true → PyData.eqv a.py b.py = a.eqv b
  | .non, b, _, hb => by cases b <;> simp [D.py, D.eqv, PyData.eqv, D.plain] at hb ⊢
  | .bl x, b, _, hb => by cases b <;> simp [D.py, D.eqv, PyData.eqv, D.plain] at hb ⊢
  | .int i, b, _, hb => by cases b <;> simp [D.py, D.eqv, PyData.eqv, D.plain] at hb ⊢ <;> exact Bool.beq_eq_decide_eq _ _
  | .str x, b, _, hb => by cases b <;> simp [D.py, D.eqv, PyData.eqv, D.plain, str_beq] at hb ⊢
  | .tup xs, .tup ys, ha, hb => by
    simp only [D.py, D.eqv, PyData.eqv]
    exact D.eqvs_py xs ys (by simpa [D.plain] using ha) (by simpa [D.plain] using hb)
  | .lst xs, .lst ys, ha, hb => by
    simp only [D.py, D.eqv, PyData.eqv]
    exact D.eqvs_py xs ys (by simpa [D.plain] using ha) (by simpa [D.plain] using hb)
  | .lst xs, .rol ys, ha, hb => by
    simp only [D.py, D.eqv, PyData.eqv]
    exact D.eqvs_py xs ys (by simpa [D.plain] using ha) (by simpa [D.plain] using hb)
  | .rol xs, .lst ys, ha, hb => by
    simp only [D.py, D.eqv, PyData.eqv]
    exact D.eqvs_py xs ys (by simpa [D.plain] using ha) (by simpa [D.plain] using hb)
  | .rol xs, .rol ys, ha, hb => by
    simp only [D.py, D.eqv, PyData.eqv]
    exact D.eqvs_py xs ys (by simpa [D.plain] using ha) (by simpa [D.plain] using hb)
  | .tup xs, .non, _, _ => by simp [D.py, D.eqv, PyData.eqv]
  | .tup xs, .bl _, _, _ => by simp [D.py, D.eqv, PyData.eqv]
  | .tup xs, .int _, _, _ => by simp [D.py, D.eqv, PyData.eqv]
  | .tup xs, .str _, _, _ => by simp [D.py, D.eqv, PyData.eqv]
  | .tup xs, .lst _, _, _ => by simp [D.py, D.eqv, PyData.eqv]
  | .tup xs, .rol _, _, _ => by simp [D.py, D.eqv, PyData.eqv]
  | .lst xs, .non, _, _ => by simp [D.py, D.eqv, PyData.eqv]
  | .lst xs, .bl _, _, _ => by simp [D.py, D.eqv, PyData.eqv]
  | .lst xs, .int _, _, _ => by simp [D.py, D.eqv, PyData.eqv]
  | .lst xs, .str _, _, _ => by simp [D.py, D.eqv, PyData.eqv]
  | .lst xs, .tup _, _, _ => by simp [D.py, D.eqv, PyData.eqv]
  | .rol xs, .non, _, _ => by simp [D.py, D.eqv, PyData.eqv]
  | .rol xs, .bl _, _, _ => by simp [D.py, D.eqv, PyData.eqv]
  | .rol xs, .int _, _, _ => by simp [D.py, D.eqv, PyData.eqv]
  | .rol xs, .str _, _, _ => by simp [D.py, D.eqv, PyData.eqv]
  | .rol xs, .tup _, _, _ => by simp [D.py, D.eqv, PyData.eqv]
  | .tup _, .dic _ _, _, hb => by simp [D.plain] at hb
  | .tup _, .st _, _, hb => by simp [D.plain] at hb
  | .tup _, .obj _, _, hb => by simp [D.plain] at hb
  | .tup _, .exn _, _, hb => by simp [D.plain] at hb
  | .lst _, .dic _ _, _, hb => by simp [D.plain] at hb
  | .lst _, .st _, _, hb => by simp [D.plain] at hb
  | .lst _, .obj _, _, hb => by simp [D.plain] at hb
  | .lst _, .exn _, _, hb => by simp [D.plain] at hb
  | .rol _, .dic _ _, _, hb => by simp [D.plain] at hb
  | .rol _, .st _, _, hb => by simp [D.plain] at hb
  | .rol _, .obj _, _, hb => by simp [D.plain] at hb
  | .rol _, .exn _, _, hb => by simp [D.plain] at hb
  | .dic _ _, _, ha, _ => by simp [D.plain] at ha
  | .st _, _, ha, _ => by simp [D.plain] at ha
  | .obj _, _, ha, _ => by simp [D.plain] at ha
  | .exn _, _, ha, _ => by simp [D.plain] at ha
theorem D.eqvs_py : ∀ (a b : List D), D.plains a = true → D.plains b = true → PyData.eqvAll (D.pys a) (D.pys b) = D.eqvs a b
  | [], [], _, _ => rfl
  | [], _ :: _, _, _ => rfl
  | _ :: _, [], _, _ => rfl
  | x :: xs, y :: ys, ha, hb => by
    simp only [D.plains, Bool.and_eq_true] at ha hb
    simp only [D.pys, PyData.eqvAll, D.eqvs, D.eqv_py x y ha.1 hb.1, D.eqvs_py xs ys ha.2 hb.2]
end
mutual
theorem D.depth_py : ∀ a : D, a.plain = true → a.py.depth = a.depth
  | .non, _ => rfl
  | .bl _, _ => rfl
  | .int _, _ => rfl
  | .str _, _ => rfl
  | .tup ds, h => by simp only [D.py, D.depth, PyData.depth, D.depths_py ds (by simpa [D.plain] using h)]
  | .lst ds, h => by simp only [D.py, D.depth, PyData.depth, D.depths_py ds (by simpa [D.plain] using h)]
  | .rol ds, h => by simp only [D.py, D.depth, PyData.depth, D.depths_py ds (by simpa [D.plain] using h)]
  | .dic _ _, h => by simp [D.plain] at h
  | .st _, h => by simp [D.plain] at h
  | .obj _, h => by simp [D.plain] at h
  | .exn _, h => by simp [D.plain] at h
theorem D.depths_py : ∀ ds : List D, D.plains ds = true → PyData.depthAll (D.pys ds) = D.depths ds
  | [], _ => rfl
  | d :: ds, h => by
    simp only [D.plains, Bool.and_eq_true] at h
    simp only [D.pys, PyData.depthAll, D.depths, D.depth_py d h.1, D.depths_py ds h.2]
end

/-- a rol is a list that is read -/
theorem rol_sql {K : PySem.W.Frag} {H : Hp} {a : Addr} {vs : List V} (h : (∃ o, H a = some (.frz o (.lst vs))) ∨ SqL K (fun _ => none) a vs) : SqL K H a vs := by
  rcases h with h | h
  · exact .inl (.inr h)
  · rcases h with (h | ⟨o, h⟩) | h
    · cases h
    · cases h
    · exact .inr h
mutual
theorem RepV.dp {K : PySem.W.Frag} {ρ : Rn} {N : Nat} {H : Hp} : ∀ {d : D} {v : V}, RepV K ρ N H d v → d.plain = true → Dp K H v d.py
  | _, _, .non, _ => .non
  | _, _, .bl b, _ => .bl b
  | _, _, .int i, _ => .int i
  | _, _, .str s h, _ => .str _
  | _, _, .tup h r, p => .tup h (RepVs.dp r (by simpa [D.plain] using p))
  | _, _, .lst h _ r, p => .lst (SqL.of h) (RepVs.dp r (by simpa [D.plain] using p))
  | _, _, .rol h r, p => .lst (rol_sql h) (RepVs.dp r (by simpa [D.plain] using p))
  | _, _, .obj _, p => by simp [D.plain] at p
theorem RepVs.dp {K : PySem.W.Frag} {ρ : Rn} {N : Nat} {H : Hp} : ∀ {ds : List D} {vs : List V}, RepVs K ρ N H ds vs → D.plains ds = true → DpAll K H vs (D.pys ds)
  | _, _, .nil, _ => .nil
  | _, _, .cons r t, p => by
    simp only [D.plains, Bool.and_eq_true] at p
    exact .cons (RepV.dp r p.1) (RepVs.dp t p.2)
end

section
variable {K : PySem.W.Frag} {ρ : Rn} {N : Nat} {H : Hp}
theorem str_ok {s : List Nat} (h : s.all (fun c => decide (c < 0x110000)) = true) : PyData.strOk ⟨s.toArray⟩ = true := by
  unfold PyData.strOk
  simpa using h
mutual
theorem RepV.lay : ∀ {d : D} {v : V}, RepV K ρ N H d v → d.plain = true → d.py.canLay0 = true
  | _, _, .non, _ => rfl
  | _, _, .bl b, _ => rfl
  | _, _, .int i, _ => rfl
  | _, _, .str s h, _ => str_ok h.2
  | _, _, .tup h r, p => by simpa only [D.py, PyData.canLay0] using RepVs.lay r (by simpa [D.plain] using p)
  | _, _, .lst h _ r, p => by simpa only [D.py, PyData.canLay0] using RepVs.lay r (by simpa [D.plain] using p)
  | _, _, .rol h r, p => by simpa only [D.py, PyData.canLay0] using RepVs.lay r (by simpa [D.plain] using p)
  | _, _, .obj _, p => by simp [D.plain] at p
theorem RepVs.lay : ∀ {ds : List D} {vs : List V}, RepVs K ρ N H ds vs → D.plains ds = true → PyData.canLayAll0 (D.pys ds) = true
  | _, _, .nil, _ => rfl
  | _, _, .cons r t, p => by
    simp only [D.plains, Bool.and_eq_true] at p
    simp only [D.pys, PyData.canLayAll0, RepV.lay r p.1, RepVs.lay t p.2, Bool.and_self]
end
end

/-- the value d is handed on: in whatever heap has grown and bears the store -/
def OkTo (W : Wd) (ρ : Rn) (S : Store) (H : Hp) (d : D) (Q : VK) : Prop := ∀ H' z, Ext ρ S.length H ρ S.length H' → RepS W ρ S H' → RepV W.K ρ S.length H' d z → Q z H'
section
variable {W : Wd} {ρ : Rn} {S : Store} {H : Hp} {d : D} {Q : VK}
theorem OkTo.here (h : OkTo W ρ S H d Q) (s : RepS W ρ S H) {z : V} (r : RepV W.K ρ S.length H d z) : Q z H := h H z .refl s r
theorem RepS.ne (s : RepS W ρ S H) {p : Addr} (hp : H p = none) : ∀ i, i < S.length → ρ i ≠ p := fun i hi e => by
  obtain ⟨o, q, _⟩ := s.addr hi
  rw [e, hp] at q; cases q
theorem RepS.nhid (s : RepS W ρ S H) {p : Addr} (hp : H p = none) : p ∉ ρ.hid := fun h => by
  obtain ⟨⟨xs, e⟩, _⟩ := s.hid p h
  rw [hp] at e; cases e
theorem OkTo.tup {ds : List D} {vs : List V} {p : Addr} (h : OkTo W ρ S H (.tup ds) Q) (s : RepS W ρ S H) (r : RepVs W.K ρ S.length H ds vs) (hp : H p = none) : Q (.ref p) (upd H p (.tup vs)) :=
  h _ _ (Ext.new hp) (s.new hp) (.tup (SqT.of upd_same) (r.mono (Ext.new hp)))
theorem OkTo.lst {ds : List D} {vs : List V} {p : Addr} (h : OkTo W ρ S H (.lst ds) Q) (s : RepS W ρ S H) (r : RepVs W.K ρ S.length H ds vs) (hp : H p = none) : Q (.ref p) (upd H p (.lst vs)) :=
  h _ _ (Ext.new hp) (s.new hp) (.lst upd_same ⟨s.ne hp, s.nhid hp⟩ (r.mono (Ext.new hp)))
end
/-- a two-place operation on data, by the store, that leaves it as it is -/
abbrev Op2 := D → D → Store → Option D
def rP (W : Wd) (op : Op2) : R2 := fun x y H Q => ∃ dx dy ρ S d, RepS W ρ S H ∧ RepV W.K ρ S.length H dx x ∧ RepV W.K ρ S.length H dy y ∧ op dx dy S = some d ∧ OkTo W ρ S H d Q

/-- what the store's object stands for, read -/
def D.rd (S : Store) : D → D
  | .obj n => match S[n]? with
    | some (.lst ds) => .lst ds
    | some (.dic ks vs) => .dic ks vs
    | some (.st ks) => .st ks
    | none => .non
  | d => d
/-- a list or tuple that is read: its items -/
def D.seq (S : Store) : D → Option (List D)
  | .tup ds => some ds
  | .lst ds => some ds
  | .rol ds => some ds
  | .obj n => match S[n]? with
    | some (.lst ds) => some ds
    | _ => none
  | _ => none
/-- as a list alone -/
def D.lseq (S : Store) : D → Option (List D)
  | .lst ds => some ds
  | .rol ds => some ds
  | .obj n => match S[n]? with
    | some (.lst ds) => some ds
    | _ => none
  | _ => none
section
variable {W : Wd} {ρ : Rn} {S : Store} {H : Hp} {d : D} {v : V}
theorem RepS.list (s : RepS W ρ S H) {n : Nat} {ds : List D} (h : S[n]? = some (.lst ds)) : ds.all D.pure = true ∧ ∃ vs, H (ρ n) = some (.lst vs) ∧ RepVs W.K ρ S.length H ds vs := s.at_ n _ h
theorem lseq_rep (s : RepS W ρ S H) (r : RepV W.K ρ S.length H d v) {ds : List D} (h : d.lseq S = some ds) : ∃ a vs, v = .ref a ∧ SqL W.K H a vs ∧ RepVs W.K ρ S.length H ds vs := by
  cases r with
  | lst h1 h2 h3 => simp [D.lseq] at h; subst h; exact ⟨_, _, rfl, SqL.of h1, h3⟩
  | rol h1 h3 => simp [D.lseq] at h; subst h; exact ⟨_, _, rfl, rol_sql h1, h3⟩
  | @obj n hn =>
    simp only [D.lseq] at h
    cases q : S[n]? with
    | none => rw [q] at h; cases h
    | some c =>
      rw [q] at h
      cases c with
      | lst es =>
        simp at h; subst h
        obtain ⟨_, vs, h1, h2⟩ := s.list q
        exact ⟨_, vs, rfl, SqL.of h1, h2⟩
      | dic _ _ => cases h
      | st _ => cases h
  | _ => simp [D.lseq] at h
theorem seq_rep (s : RepS W ρ S H) (r : RepV W.K ρ S.length H d v) {ds : List D} (h : d.seq S = some ds) : ∃ a vs, v = .ref a ∧ (SqL W.K H a vs ∨ SqT W.K H a vs) ∧ RepVs W.K ρ S.length H ds vs := by
  cases r with
  | tup h1 h3 => simp [D.seq] at h; subst h; exact ⟨_, _, rfl, .inr h1, h3⟩
  | lst h1 h2 h3 => simp [D.seq] at h; subst h; exact ⟨_, _, rfl, .inl (SqL.of h1), h3⟩
  | rol h1 h3 => simp [D.seq] at h; subst h; exact ⟨_, _, rfl, .inl (rol_sql h1), h3⟩
  | obj hn =>
    obtain ⟨a, vs, e, h1, h2⟩ := lseq_rep (d := .obj _) s (.obj hn) (ds := ds) (by simpa [D.seq, D.lseq] using h)
    exact ⟨a, vs, e, .inl h1, h2⟩
  | _ => simp [D.seq] at h
/-- a store's object, read -/
theorem rd_rep (s : RepS W ρ S H) (r : RepV W.K ρ S.length H d v) (hp : (d.rd S).plain = true) : Dp W.K H v (d.rd S).py ∧ (d.rd S).py.canLay0 = true := by
  cases r with
  | @obj n hn =>
    simp only [D.rd] at hp ⊢
    cases q : S[n]? with
    | none => rw [List.getElem?_eq_none_iff] at q; omega
    | some c =>
      rw [q] at hp
      cases c with
      | lst es =>
        obtain ⟨_, vs, h1, h2⟩ := s.list q
        have hp' : D.plains es = true := by simpa [D.plain] using hp
        exact ⟨.lst (SqL.of h1) (h2.dp hp'), by simpa only [D.py, PyData.canLay0] using h2.lay hp'⟩
      | dic _ _ => simp [D.plain] at hp
      | st _ => simp [D.plain] at hp
  | non => exact ⟨.non, rfl⟩
  | bl b => exact ⟨.bl b, rfl⟩
  | int i => exact ⟨.int i, rfl⟩
  | str x h => exact ⟨(RepV.str (K := W.K) (ρ := ρ) (N := S.length) (H := H) x h).dp hp, (RepV.str (K := W.K) (ρ := ρ) (N := S.length) (H := H) x h).lay hp⟩
  | tup h r => exact ⟨(RepV.tup h r).dp hp, (RepV.tup h r).lay hp⟩
  | lst h h2 r => exact ⟨(RepV.lst h h2 r).dp hp, (RepV.lst h h2 r).lay hp⟩
  | rol h r => exact ⟨(RepV.rol h r).dp hp, (RepV.rol h r).lay hp⟩
end

def dAdd : Op2
  | .int i, .int j, _ => some (.int (i + j))
  | .str a, .str b, _ => if a.length + b.length ≤ sizeLine then some (.str (a ++ b)) else none
  | .lst a, .lst b, _ => if a.length + b.length ≤ sizeLine then some (.lst (a ++ b)) else none
  | .tup a, .tup b, _ => if a.length + b.length ≤ sizeLine then some (.tup (a ++ b)) else none
  | _, _, _ => none
def dSub : Op2
  | .int i, .int j, _ => some (.int (i - j))
  | _, _, _ => none
/-- one factor is small -/
def mulOk (i j : Int) : Bool := decide (i.natAbs < 18446744073709551616) || decide (j.natAbs < 18446744073709551616)
def rep {α : Type} (k : Nat) (xs : List α) : List α := (List.replicate k xs).flatten
def dMul : Op2
  | .int i, .int j, _ => if mulOk i j then some (.int (i * j)) else none
  | .str a, .int j, _ => if j < 9223372036854775808 ∧ -9223372036854775808 ≤ j ∧ a.length * j.toNat ≤ sizeLine then some (.str (rep j.toNat a)) else none
  | .lst a, .int j, _ => if j < 9223372036854775808 ∧ -9223372036854775808 ≤ j ∧ a.length * j.toNat ≤ sizeLine then some (.lst (rep j.toNat a)) else none
  | _, _, _ => none
def dDiv : Op2
  | .int i, .int j, _ => if 0 < j ∧ j < 1073741824 then some (.int (i / j)) else none
  | _, _, _ => none
def dMod : Op2
  | .int i, .int j, _ => if 0 < j then some (.int (i % j)) else none
  | _, _, _ => none
def dPow : Op2
  | .int i, .int j, _ => if 0 ≤ j ∧ j ≤ 1000000 ∧ i.natAbs < 18446744073709551616 then some (.int (i ^ j.toNat)) else none
  | _, _, _ => none
section
variable {X : Cx} {W : Wd}
theorem app_str (a b : List Nat) : (⟨a.toArray⟩ : Str) ++ ⟨b.toArray⟩ = ⟨(a ++ b).toArray⟩ := by
  show (⟨a.toArray ++ b.toArray⟩ : Str) = _
  simp
theorem all_app {a b : List Nat} {p : Nat → Bool} (h1 : a.all p = true) (h2 : b.all p = true) : (a ++ b).all p = true := by simp [h1, h2]
theorem op_pAdd (hK : X.K = W.K) : OpR X (binaryOp .Add) (rP W dAdd) := by
  intro pins s σ H x y v u Q I r1 r2 h
  obtain ⟨dx, dy, ρ, S, d, hS, hx, hy, e, q⟩ := h
  unfold dAdd at e
  split at e
  · cases e
    cases hx; cases hy
    exact op_add pins s σ H _ _ v u Q I r1 r2 ⟨_, _, rfl, rfl, q.here hS (.int _)⟩
  · rename_i a b _
    split at e
    · rename_i hz
      cases e
      cases hx with | str _ h1 => cases hy with | str _ h2 =>
      refine op_add_str pins s σ H _ _ v u Q I r1 r2 ⟨_, _, rfl, rfl, hz, ?_⟩
      rw [app_str]
      exact q.here hS (.str _ ⟨by simpa using hz, all_app h1.2 h2.2⟩)
    · cases e
  · split at e
    · rename_i hz
      cases e
      cases hx with | lst h1 n1 a1 => cases hy with | lst h2 n2 a2 =>
      exact op_cat pins s σ H _ _ v u Q I r1 r2 ⟨_, _, _, _, rfl, rfl, h1, h2, by rw [← a1.length, ← a2.length]; exact hz, fun p hp => q.lst hS (a1.append a2) hp⟩
    · cases e
  · split at e
    · rename_i hz
      cases e
      cases hx with | tup h1 a1 => cases hy with | tup h2 a2 =>
      rw [← hK] at h1 h2
      refine op_catA pins s σ H _ _ v u Q I r1 r2 ⟨_, _, _, _, rfl, rfl, h1, h2, by rw [← a1.length, ← a2.length]; exact hz, fun z => ?_, fun _ z => ?_, fun _ _ p hp => q.tup hS (a1.append a2) hp⟩
      · subst z
        cases a1
        exact q.here hS (.tup (hK ▸ h2) a2)
      · subst z
        cases a2
        rw [List.append_nil] at q
        exact q.here hS (.tup (hK ▸ h1) a1)
    · cases e
  · cases e
theorem op_pSub : OpR X (binaryOp .Sub) (rP W dSub) := by
  intro pins s σ H x y v u Q I r1 r2 h
  obtain ⟨dx, dy, ρ, S, d, hS, hx, hy, e, q⟩ := h
  unfold dSub at e
  split at e
  · cases e
    cases hx; cases hy
    exact op_sub pins s σ H _ _ v u Q I r1 r2 ⟨_, _, rfl, rfl, q.here hS (.int _)⟩
  · cases e
theorem mulOk_of {i j : Int} (h : mulOk i j = true) : CMul i j := by
  unfold mulOk at h
  rcases Bool.or_eq_true_iff.mp h with h | h
  · have := of_decide_eq_true h; exact .inl (by omega)
  · have := of_decide_eq_true h; exact .inr (by omega)
theorem op_pDiv : OpR X (binaryOp .FloorDiv) (rP W dDiv) := by
  intro pins s σ H x y v u Q I r1 r2 h
  obtain ⟨dx, dy, ρ, S, d, hS, hx, hy, e, q⟩ := h
  unfold dDiv at e
  split at e
  · split at e
    · rename_i hz
      cases e
      cases hx; cases hy
      exact op_fdiv pins s σ H _ _ v u Q I r1 r2 ⟨_, _, rfl, rfl, hz, q.here hS (.int _)⟩
    · cases e
  · cases e
theorem op_pMod : OpR X (binaryOp .Mod) (rP W dMod) := by
  intro pins s σ H x y v u Q I r1 r2 h
  obtain ⟨dx, dy, ρ, S, d, hS, hx, hy, e, q⟩ := h
  unfold dMod at e
  split at e
  · split at e
    · rename_i hz
      cases e
      cases hx; cases hy
      exact op_mod pins s σ H _ _ v u Q I r1 r2 ⟨_, _, rfl, rfl, hz, q.here hS (.int _)⟩
    · cases e
  · cases e
theorem op_pPow : OpR X (binaryOp .Pow) (rP W dPow) := by
  intro pins s σ H x y v u Q I r1 r2 h
  obtain ⟨dx, dy, ρ, S, d, hS, hx, hy, e, q⟩ := h
  unfold dPow at e
  split at e
  · split at e
    · rename_i hz
      cases e
      cases hx; cases hy
      exact op_pow pins s σ H _ _ v u Q I r1 r2 ⟨_, _, rfl, rfl, ⟨hz.1, hz.2.1, by omega⟩, q.here hS (.int _)⟩
    · cases e
  · cases e
end

section
variable {X : Cx} {W : Wd}
theorem sizeL : (sizeLine : Nat) = 16777216 := sizeLine_eq
theorem rep_str (a : List Nat) (n : Nat) : (List.replicate n a.toArray).foldl (· ++ ·) #[] = (rep n a).toArray := by
  have h : ∀ (k : Nat) (acc : List Nat), List.foldl (· ++ ·) acc.toArray (List.replicate k a.toArray) = (acc ++ (List.replicate k a).flatten).toArray := by
    intro k
    induction k with
    | zero => intro acc; simp
    | succ k ih =>
      intro acc
      rw [List.replicate_succ, List.foldl_cons]
      have e : acc.toArray ++ a.toArray = (acc ++ a).toArray := by simp
      rw [e, ih, List.replicate_succ, List.flatten_cons, List.append_assoc]
  simpa [rep] using h n []
theorem rep_len {α : Type} (n : Nat) (a : List α) : (rep n a).length = n * a.length := by
  unfold rep
  induction n with
  | zero => simp
  | succ n ih => rw [List.replicate_succ, List.flatten_cons, List.length_append, ih, Nat.succ_mul]; omega
theorem rep_all {p : Nat → Bool} {a : List Nat} (h : a.all p = true) (n : Nat) : (rep n a).all p = true := by
  unfold rep
  induction n with
  | zero => simp
  | succ n ih => rw [List.replicate_succ, List.flatten_cons, List.all_append, h, ih]; rfl
theorem rep_mul (a : List Nat) (j : Int) : Txt.mul ⟨a.toArray⟩ j = ⟨(rep j.toNat a).toArray⟩ := by
  unfold Txt.mul
  by_cases h1 : j < 1
  · rw [if_pos h1]
    have : j.toNat = 0 := by omega
    rw [this]; rfl
  · rw [if_neg h1]
    by_cases h2 : (j == 1 || (⟨a.toArray⟩ : Str).length == 0) = true
    · rw [if_pos h2]
      rcases Bool.or_eq_true_iff.mp h2 with h | h
      · have : j = 1 := by simpa using h
        subst this
        simp [rep]
      · have : a = [] := by simpa [Str.length] using h
        subst this
        have e : rep j.toNat ([] : List Nat) = [] := by
          apply List.eq_nil_of_length_eq_zero
          rw [rep_len]; simp
        rw [e]
    · rw [if_neg h2, rep_str]
theorem RepVs.rep {K : PySem.W.Frag} {ρ : Rn} {N : Nat} {H : Hp} {ds : List D} {vs : List V} (r : RepVs K ρ N H ds vs) : ∀ n : Nat, RepVs K ρ N H (rep n ds) (List.replicate n vs).flatten
  | 0 => .nil
  | n + 1 => by
    unfold PD.rep
    rw [List.replicate_succ, List.flatten_cons, List.replicate_succ, List.flatten_cons]
    exact r.append (RepVs.rep r n)
theorem op_pMul : OpR X (binaryOp .Mult) (rP W dMul) := by
  intro pins s σ H x y v u Q I r1 r2 h
  obtain ⟨dx, dy, ρ, S, d, hS, hx, hy, e, q⟩ := h
  unfold dMul at e
  split at e
  · split at e
    · rename_i hz
      cases e
      cases hx; cases hy
      exact op_mul pins s σ H _ _ v u Q I r1 r2 ⟨_, _, rfl, rfl, mulOk_of hz, q.here hS (.int _)⟩
    · cases e
  · rename_i _ a j
    split at e
    · rename_i hz
      cases e
      cases hx with | str _ h1 => cases hy with | int _ =>
      obtain ⟨t, rfl⟩ := r1
      obtain ⟨t', rfl⟩ := r2
      have hl : (⟨a.toArray⟩ : Str).length = a.length := by simp [Str.length]
      refine SB.mul ⟨?_, fun h1 h2 => ?_, fun _ _ => ?_⟩ fun t' k => ?_
      · rw [Bool.or_eq_false_iff]
        exact ⟨decide_eq_false (by omega), decide_eq_false (by omega)⟩
      · rw [hl]
        have hs := sizeL
        have hj : (1 : Int) ≤ j := by omega
        have hmul : (a.length : Int) * j ≤ 16777216 := by
          have : a.length * j.toNat ≤ 16777216 := by omega
          have e : ((a.length * j.toNat : Nat) : Int) = (a.length : Int) * j := by rw [Int.natCast_mul]; congr 1; omega
          omega
        intro hgt
        have h3 : (a.length : Int) * j ≤ (2 ^ 63 - 1) := by omega
        have h4 : (a.length : Int) ≤ (2 ^ 63 - 1) / j := (Int.le_ediv_iff_mul_le (by omega)).mpr h3
        omega
      · rw [hl]
        exact decide_eq_false (by have := sizeL; omega)
      · refine ⟨.str (Txt.mul ⟨a.toArray⟩ _), H, I.tok _, ⟨_, rfl⟩, ?_⟩
        rw [rep_mul]
        exact q.here hS (.str _ ⟨by rw [rep_len, Nat.mul_comm]; exact hz.2.2, rep_all h1.2 _⟩)
    · cases e
  · split at e
    · rename_i hz
      cases e
      cases hx with | lst h1 n1 a1 => cases hy with | int _ =>
      exact op_rep pins s σ H _ _ v u Q I r1 r2 ⟨_, _, _, rfl, rfl, h1, by omega, by omega, by rw [← a1.length]; exact hz.2.2, fun p hp => q.lst hS (a1.rep _) hp⟩
    · cases e
  · cases e

def dEq : Op2 := fun x y S => if (x.rd S).plain && (y.rd S).plain && decide (min (x.rd S).depth (y.rd S).depth ≤ 150) then some (.bl ((x.rd S).eqv (y.rd S))) else none
def dNe : Op2 := fun x y S => if (x.rd S).plain && (y.rd S).plain && decide (min (x.rd S).depth (y.rd S).depth ≤ 150) then some (.bl (!(x.rd S).eqv (y.rd S))) else none
theorem op_pEq (hK : X.K = W.K) (hu : X.A.units + 200 < cLine) : OpR X (compareOp .Eq) (rP W dEq) := by
  intro pins s σ H x y v u Q I r1 r2 h
  obtain ⟨dx, dy, ρ, S, d, hS, hx, hy, e, q⟩ := h
  unfold dEq at e
  split at e
  · rename_i hz
    cases e
    simp only [Bool.and_eq_true, decide_eq_true_eq] at hz
    obtain ⟨a1, c1⟩ := rd_rep hS hx hz.1.1
    obtain ⟨a2, c2⟩ := rd_rep hS hy hz.1.2
    rw [← hK] at a1 a2
    obtain ⟨as, e1⟩ := Dp.reads I _ _ _ a1 r1
    obtain ⟨bs, e2⟩ := Dp.reads I _ _ _ a2 r2
    refine SeqAt.compareEq_reads e1 e2 c1 c2 (by rw [D.depth_py _ hz.1.1, D.depth_py _ hz.1.2]; omega) ⟨.bl _, H, I, rfl, ?_⟩
    rw [D.eqv_py _ _ hz.1.1 hz.1.2]
    exact q.here hS (.bl _)
  · cases e
theorem op_pNe (hK : X.K = W.K) (hu : X.A.units + 200 < cLine) : OpR X (compareOp .NotEq) (rP W dNe) := by
  intro pins s σ H x y v u Q I r1 r2 h
  obtain ⟨dx, dy, ρ, S, d, hS, hx, hy, e, q⟩ := h
  unfold dNe at e
  split at e
  · rename_i hz
    cases e
    simp only [Bool.and_eq_true, decide_eq_true_eq] at hz
    obtain ⟨a1, c1⟩ := rd_rep hS hx hz.1.1
    obtain ⟨a2, c2⟩ := rd_rep hS hy hz.1.2
    rw [← hK] at a1 a2
    obtain ⟨as, e1⟩ := Dp.reads I _ _ _ a1 r1
    obtain ⟨bs, e2⟩ := Dp.reads I _ _ _ a2 r2
    refine SeqAt.compareNe_reads e1 e2 c1 c2 (by rw [D.depth_py _ hz.1.1, D.depth_py _ hz.1.2]; omega) ⟨.bl _, H, I, rfl, ?_⟩
    rw [D.eqv_py _ _ hz.1.1 hz.1.2]
    exact q.here hS (.bl _)
  · cases e
def dLt : Op2
  | .int i, .int j, _ => some (.bl (decide (i < j)))
  | .str a, .str b, _ => some (.bl (decide (a < b)))
  | _, _, _ => none
def dLe : Op2
  | .int i, .int j, _ => some (.bl (decide (i ≤ j)))
  | .str a, .str b, _ => some (.bl (!decide (b < a)))
  | _, _, _ => none
def dGt : Op2
  | .int i, .int j, _ => some (.bl (decide (j < i)))
  | .str a, .str b, _ => some (.bl (decide (b < a)))
  | _, _, _ => none
def dGe : Op2
  | .int i, .int j, _ => some (.bl (decide (j ≤ i)))
  | .str a, .str b, _ => some (.bl (!decide (a < b)))
  | _, _, _ => none
theorem op_pLt : OpR X (compareOp .Lt) (rP W dLt) := by
  intro pins s σ H x y v u Q I r1 r2 h
  obtain ⟨dx, dy, ρ, S, d, hS, hx, hy, e, q⟩ := h
  unfold dLt at e
  split at e
  · cases e
    cases hx; cases hy
    exact op_lt pins s σ H _ _ v u Q I r1 r2 ⟨_, _, rfl, rfl, q.here hS (.bl _)⟩
  · cases e
    cases hx; cases hy
    exact op_lt_str pins s σ H _ _ v u Q I r1 r2 ⟨_, _, rfl, rfl, q.here hS (.bl _)⟩
  · cases e
theorem op_pLe : OpR X (compareOp .LtE) (rP W dLe) := by
  intro pins s σ H x y v u Q I r1 r2 h
  obtain ⟨dx, dy, ρ, S, d, hS, hx, hy, e, q⟩ := h
  unfold dLe at e
  split at e
  · cases e
    cases hx; cases hy
    exact op_le pins s σ H _ _ v u Q I r1 r2 ⟨_, _, rfl, rfl, q.here hS (.bl _)⟩
  · cases e
    cases hx; cases hy
    exact op_le_str pins s σ H _ _ v u Q I r1 r2 ⟨_, _, rfl, rfl, q.here hS (.bl _)⟩
  · cases e
theorem op_pGt : OpR X (compareOp .Gt) (rP W dGt) := by
  intro pins s σ H x y v u Q I r1 r2 h
  obtain ⟨dx, dy, ρ, S, d, hS, hx, hy, e, q⟩ := h
  unfold dGt at e
  split at e
  · cases e
    cases hx; cases hy
    exact op_gt pins s σ H _ _ v u Q I r1 r2 ⟨_, _, rfl, rfl, q.here hS (.bl _)⟩
  · cases e
    cases hx; cases hy
    exact op_gt_str pins s σ H _ _ v u Q I r1 r2 ⟨_, _, rfl, rfl, q.here hS (.bl _)⟩
  · cases e
theorem op_pGe : OpR X (compareOp .GtE) (rP W dGe) := by
  intro pins s σ H x y v u Q I r1 r2 h
  obtain ⟨dx, dy, ρ, S, d, hS, hx, hy, e, q⟩ := h
  unfold dGe at e
  split at e
  · cases e
    cases hx; cases hy
    exact op_ge pins s σ H _ _ v u Q I r1 r2 ⟨_, _, rfl, rfl, q.here hS (.bl _)⟩
  · cases e
    cases hx; cases hy
    exact op_ge_str pins s σ H _ _ v u Q I r1 r2 ⟨_, _, rfl, rfl, q.here hS (.bl _)⟩
  · cases e
/-- is: with None, of bools -/
def D.isNon : D → Bool
  | .non => true
  | _ => false
def dIs : Op2
  | x, .non, _ => some (.bl x.isNon)
  | .bl a, .bl b, _ => some (.bl (decide (a = b)))
  | _, _, _ => none
def dIsNot : Op2
  | x, .non, _ => some (.bl (!x.isNon))
  | .bl a, .bl b, _ => some (.bl (!decide (a = b)))
  | _, _, _ => none
theorem isNon_rep {K : PySem.W.Frag} {ρ : Rn} {N : Nat} {H : Hp} {d : D} {v : V} (r : RepV K ρ N H d v) : decide (v = .non) = d.isNon := by
  cases r <;> simp [D.isNon]
theorem op_pIs : OpR X (compareOp .Is) (rP W dIs) := by
  intro pins s σ H x y v u Q I r1 r2 h
  obtain ⟨dx, dy, ρ, S, d, hS, hx, hy, e, q⟩ := h
  unfold dIs at e
  split at e
  · cases e
    cases hy
    exact op_isN pins s σ H _ _ v u Q I r1 r2 ⟨rfl, by rw [isNon_rep hx]; exact q.here hS (.bl _)⟩
  · cases e
    cases hx; cases hy
    exact op_isBl pins s σ H _ _ v u Q I r1 r2 ⟨_, _, rfl, rfl, q.here hS (.bl _)⟩
  · cases e
theorem op_pIsNot : OpR X (compareOp .IsNot) (rP W dIsNot) := by
  intro pins s σ H x y v u Q I r1 r2 h
  obtain ⟨dx, dy, ρ, S, d, hS, hx, hy, e, q⟩ := h
  unfold dIsNot at e
  split at e
  · cases e
    cases hy
    exact op_notN pins s σ H _ _ v u Q I r1 r2 ⟨rfl, by rw [isNon_rep hx]; exact q.here hS (.bl _)⟩
  · cases e
    cases hx; cases hy
    exact op_notBl pins s σ H _ _ v u Q I r1 r2 ⟨_, _, rfl, rfl, q.here hS (.bl _)⟩
  · cases e

def dIdx : Op2
  | .str s, .int i, _ => (atI s i).map fun c => .str [c]
  | x, .int i, S => match x.seq S with
    | some ds => atI ds i
    | none => none
  | _, _, _ => none
theorem RepVs.atI {K : PySem.W.Frag} {ρ : Rn} {N : Nat} {H : Hp} {ds : List D} {vs : List V} {i : Int} {d : D} (r : RepVs K ρ N H ds vs) (h : L2.atI ds i = some d) : ∃ v, L2.atI vs i = some v ∧ RepV K ρ N H d v := by
  unfold L2.atI at h ⊢
  rw [← r.length]
  cases q : ixN ds.length i with
  | none => rw [q] at h; cases h
  | some j =>
    rw [q] at h
    obtain ⟨v, h1, h2⟩ := r.get (show ds[j]? = some d from h)
    exact ⟨v, h1, h2⟩
theorem atI_all {p : Nat → Bool} {s : List Nat} {i : Int} {c : Nat} (h : s.all p = true) (e : L2.atI s i = some c) : p c = true := by
  unfold L2.atI at e
  cases q : ixN s.length i with
  | none => rw [q] at e; cases e
  | some j =>
    rw [q] at e
    have e' : s[j]? = some c := e
    exact List.all_eq_true.mp h c (List.mem_of_getElem? e')
theorem ix_p (hK : X.K = W.K) : IxR X (rP W dIdx) := by
  intro value slice pins s σ H x y v u Q I r1 r2 h hs
  obtain ⟨dx, dy, ρ, S, d, hS, hx, hy, e, q⟩ := h
  unfold dIdx at e
  split at e
  · rename_i _ a i
    cases hx with | str _ h1 => cases hy with | int _ =>
    cases qa : L2.atI a i with
    | none => rw [qa] at e; cases e
    | some c =>
      rw [qa] at e
      cases e
      refine ix_str value slice pins s σ H _ _ v u Q I r1 r2 ⟨_, _, c, rfl, rfl, by simpa [Str.length] using h1.1, by simpa using qa, ?_⟩ hs
      have : (⟨#[c]⟩ : Str) = ⟨[c].toArray⟩ := rfl
      rw [this]
      exact q.here hS (.str _ ⟨by have := sizeL; simp; omega, by simpa using atI_all h1.2 qa⟩)
  · rename_i x0 i _ _
    split at e
    · rename_i ds hd
      cases hy
      obtain ⟨a, vs, rfl, hq, hr⟩ := seq_rep hS hx hd
      obtain ⟨z, hz, rz⟩ := hr.atI e
      rw [← hK] at hq
      rcases hq with hq | hq
      · exact ix_list value slice pins s σ H _ _ v u Q I r1 r2 ⟨_, _, _, z, rfl, rfl, hq, hz, q.here hS rz⟩ hs
      · exact ix_tup value slice pins s σ H _ _ v u Q I r1 r2 ⟨_, _, _, z, rfl, rfl, hq, hz, q.here hS rz⟩ hs
    · cases e
  · cases e
/-- x[lo:hi] -/
def cutD {α : Type} (xs : List α) (lo hi : Option Int) : List α := (xs.drop (HT.sIx xs.length 0 lo)).take (HT.sIx xs.length xs.length hi - HT.sIx xs.length 0 lo)
def dCut (x : D) (lo hi : Option Int) (S : Store) : Option D := match x with
  | .str s => some (.str (cutD s lo hi))
  | .tup ds => some (.tup (cutD ds lo hi))
  | x => (x.lseq S).map fun ds => .lst (cutD ds lo hi)
end
end PD

set_option Elab.async false
set_option linter.all false
set_option maxRecDepth 100000
namespace PD
open PySem PySem.Spec PyProof.Rows L2

section
variable {X : Cx} {W : Wd}
theorem cutD_all {p : Nat → Bool} {s : List Nat} (h : s.all p = true) (lo hi : Option Int) : (cutD s lo hi).all p = true := by
  rw [List.all_eq_true] at h ⊢
  intro x hx
  exact h x (List.mem_of_mem_drop (List.mem_of_mem_take hx))
theorem cutD_len {α : Type} (s : List α) (lo hi : Option Int) : (cutD s lo hi).length ≤ s.length := by
  unfold cutD
  rw [List.length_take, List.length_drop]
  omega
theorem RepVs.cut {K : PySem.W.Frag} {ρ : Rn} {N : Nat} {H : Hp} {ds : List D} {vs : List V} (r : RepVs K ρ N H ds vs) (lo hi : Option Int) : RepVs K ρ N H (cutD ds lo hi) (cutV vs lo hi) := by
  unfold cutD cutV
  rw [r.length]
  exact (r.drop _).take _
def rCut (W : Wd) : V → Option Int → Option Int → Hp → VK → Prop := fun x lo hi H Q => ∃ dx ρ S d, RepS W ρ S H ∧ RepV W.K ρ S.length H dx x ∧ dCut dx lo hi S = some d ∧ OkTo W ρ S H d Q
theorem cutS_str (s : List Nat) (lo hi : Option Int) : cutS ⟨s.toArray⟩ lo hi = ⟨(cutD s lo hi).toArray⟩ := by
  unfold cutS cutD
  simp [Str.length]
theorem sl_p (hK : X.K = W.K) : SlR X (rCut W) := by
  intro pins s σ H x v vl vu lo hi sl Q I r1 hs pl pu h
  obtain ⟨dx, ρ, S, d, hS, hx, e, q⟩ := h
  unfold dCut at e
  split at e
  · rename_i a
    cases e
    cases hx with | str _ h1 =>
    refine sl_str pins s σ H _ v vl vu lo hi sl Q I r1 hs pl pu ⟨_, rfl, by simpa [Str.length] using h1.1, ?_⟩
    rw [cutS_str]
    exact q.here hS (.str _ ⟨Nat.le_trans (cutD_len _ _ _) h1.1, cutD_all h1.2 _ _⟩)
  · rename_i ds
    cases e
    cases hx with | tup h1 a1 =>
    rw [← hK] at h1
    refine sl_tupA pins s σ H _ v vl vu lo hi sl Q I r1 hs pl pu ⟨_, _, rfl, h1, fun z => ?_, fun _ p hp => q.tup hS (a1.cut lo hi) hp⟩
    have e2 : cutD ds lo hi = ds := by
      unfold cutD
      rw [a1.length, z.1, z.2, List.drop_zero, Nat.sub_zero, ← a1.length, List.take_length]
    rw [e2] at q
    exact q.here hS (.tup (hK ▸ h1) a1)
  · cases hd : dx.lseq S with
    | none => rw [hd] at e; cases e
    | some ds =>
      rw [hd] at e
      cases e
      obtain ⟨a, vs, rfl, hq, hr⟩ := lseq_rep hS hx hd
      rw [← hK] at hq
      exact sl_list pins s σ H _ v vl vu lo hi sl Q I r1 hs pl pu ⟨_, _, rfl, hq, fun p hp => q.lst hS (hr.cut lo hi) hp⟩
end

section
variable {prog : Program} {w : World} {A : Around} {E : Value → Shared → Prop} {s : Shared}
theorem list_rev_init {R : Result → Shared → Prop} {it l S : Addr} {items : Array Value} (hh : A.handled = none) (hit : s.heap.IsRevIter it l ((items.size : Int) - 1)) (hl : s.heap.IsList l items) (hne : l ≠ it) (hn : items.size ≤ sizeLine)
    (hSi : S ≠ it) (hSl : S ≠ l) (hS : s.heap.get? S = some { cls := .type "list", data := .seq #[] })
    (hR : ∀ h' tk acc' c', (∀ b o, b ≠ S → b ≠ it → s.heap.get? b = some o → h'.get? b = some o) → h'.get? S = some { cls := .type "list", dict := none, data := .seq acc' c', slots := #[] } → ItemsOf (fun i v => items[items.size - 1 - i]? = some v) acc' items.size → R (.ok (.ret .none)) { s with heap := h', toks := tk }) :
    wpAny (model prog w) A.in1 (Builtin.«list.__init__» ⟨[.ref S, .ref it], []⟩)
      (fun fin s' => match fin with | .done f => R (.ok f) s' | .again c' => c'.quiet = true ∧ codeAny (model prog w) A c' R s') (fun e s' => R (.error e) s') s := by
  have W := (Walks.listRev (prog := prog) (w := w) (A := A.in1) hh it l hne items).toS
  have hSf : S ∉ [it, l] := by simp only [List.mem_cons, List.not_mem_nil, or_false, not_or]; exact ⟨hSi, hSl⟩
  show wpAny _ _ (do let old ← Builtin.List.listItems (.ref S); Builtin.List.listUpdate (.ref S) (fun _ => #[]); letGo old.toList.reverse; Builtin.List.listExtendWith (.ref S) (.ref it) .none) _ _ s
  refine wpAny_bind ?_
  unfold Builtin.List.listItems
  refine wpAny_bind (wpAny_seqItems hS rfl (wpAny_pure ?_))
  show wpAny _ _ (updateSeq S (fun _ => #[]) >>= fun _ => letGo (#[] : Array Value).toList.reverse >>= fun _ => Builtin.List.listExtendWith (.ref S) (.ref it) .none) _ _ s
  refine wpAny_bind (wpAny_updateSeq hS rfl ?_)
  have hS₂ := Heap.get?_update_self (Obj.mapSeq (fun _ => (#[] : Array Value))) hS rfl
  have oth : ∀ b o, b ≠ S → s.heap.get? b = some o → (s.heap.update S (Obj.mapSeq (fun _ => (#[] : Array Value)))).get? b = some o :=
    fun b o hb e => (Heap.get?_update_other _ _ (Ne.symm hb)).trans e
  refine wpAny_bind (wpAny_letGo ?_)
  have hit1 : (s.heap.update S (Obj.mapSeq (fun _ => (#[] : Array Value)))).IsRevIter it l ((items.size : Int) - 1) := hit.at fun o e => oth it o hSi.symm e
  have hl1 : (s.heap.update S (Obj.mapSeq (fun _ => (#[] : Array Value)))).IsList l items := hl.at fun o e => oth l o hSl.symm e
  generalize (s.heap.update S (Obj.mapSeq (fun _ => (#[] : Array Value)))) = hp at hS₂ oth hit1 hl1 ⊢
  have hT : ({ s with heap := hp } : Shared).TypeIs (.ref it) "list_reverseiterator" := Heap.IsRevIter.typeIs (s := { s with heap := hp }) hit1
  have h1 : Builtin.List.listSameRef (.ref S) (.ref it) = false := by simp [Builtin.List.listSameRef, hSi]
  unfold Builtin.List.listExtendWith
  refine wpAny_bind (wpAny_typeOf hT ?_)
  rw [if_neg (by rw [h1]; decide)]
  refine wpAny_bind (wpAny_pyIter_revIter (s := { s with heap := hp }) hit1 ?_)
  refine wpAny_bind (wpAny_holding ?_)
  unfold Builtin.List.listLengthHint
  refine wpAny_bind (wpAny_specialOf hT RT.nolen_lri ?_)
  show wpAny _ A.in1 (specialOf (Value.ref it) (Str.ofString "__length_hint__") >>= _) _ _ _
  refine wpAny_bind (wpAny_specialOf hT RT.hint_lri ?_)
  generalize hid : ("list_reverseiterator.__length_hint__" : String) = id0
  wp_delta
  rw [show splitId id0 = some ("list_reverseiterator", "__length_hint__") from by subst hid; decide +kernel]
  subst hid
  refine wpAny_bind (wpAny_isInstance (b := true) hT (by rw [isSubtype_type]; kernel_rfl) ?_)
  refine wpAny_pure ?_
  rw [if_neg (by decide)]
  have e0 : ((items.size : Nat) : Int) - 1 - ((0 : Nat) : Int) = (items.size : Int) - 1 := by omega
  refine wpAny_pure ⟨plainId_quiet F.plain_extend_loop _, codeAny_extend_loopS W hn _ hSf _ items.size 0 _ _ _ rfl (Nat.zero_le _) ⟨Nat.zero_le _, by rw [e0]; exact hit1, hl1⟩ hS₂ (ItemsOf.nil _) fun s' acc' c' hm hS' hacc => ?_⟩
  rw [Moved.eq_with hm]
  refine hR s'.heap s'.toks acc' c' (fun b o hb hb2 e => hm.heap b o (fun hmem => ?_) (oth b o hb e)) hS' hacc
  rcases List.mem_cons.mp hmem with e' | hmem
  · exact hb e'
  · exact hb2 (List.mem_singleton.mp hmem)
theorem call_list_rev {it l : Addr} {items : Array Value} {Q : Value → Shared → Prop} (hh : A.handled = none) (hit : s.heap.IsRevIter it l ((items.size : Int) - 1)) (hl : s.heap.IsList l items) (hne : l ≠ it) (hn : items.size ≤ sizeLine)
    (hQ : ∀ h' tk acc c', (∀ b o, b ≠ it → s.heap.get? b = some o → h'.get? b = some o) → h'.get? s.heap.objs.size = some { cls := .type "list", dict := none, data := .seq acc c', slots := #[] } → ItemsOf (fun i v => items[items.size - 1 - i]? = some v) acc items.size → Q (.ref s.heap.objs.size) { s with heap := h', toks := tk }) :
    wpAny (model prog w) A (call (.type "list") [.ref it]) Q E s := by
  refine callType_codes (Q₁ := fun obj s₁ => obj = .ref s.heap.objs.size ∧ s₁ = { s with heap := s.heap.push { cls := .type "list", data := .seq #[] } }) PySem.F.called_list (PySem.F.typeCall_list_1 _) PySem.F.entry_list_init
    (code_list_new _ ⟨rfl, rfl⟩) fun obj s₁ h₁ => ?_
  obtain ⟨rfl, rfl⟩ := h₁
  have hS : (s.heap.push { cls := .type "list", data := .seq #[] }).get? s.heap.objs.size = some { cls := .type "list", data := .seq #[] } := Heap.get?_push_size _ rfl
  obtain ⟨oi, hoi, _⟩ := id hit
  obtain ⟨ol, hol, _⟩ := id hl
  refine ⟨⟨_, hS, rfl⟩, PySem.F.args_list_init_2 _ _, list_rev_init (A := A.in1) (s := { s with heap := s.heap.push { cls := .type "list", data := .seq #[] } }) hh (hit.at fun o e => Heap.get?_push_of_some _ e) (hl.push _) hne hn (Nat.ne_of_gt (Heap.lt_size hoi)) (Nat.ne_of_gt (Heap.lt_size hol)) hS (fun h' tk acc' c' hk hS' hacc => ?_)⟩
  exact ⟨rfl, hQ h' tk acc' c' (fun b o hb e => hk b o (Nat.ne_of_lt (Heap.lt_size e)) hb (Heap.get?_push_of_some _ e)) hS' hacc⟩
end
/-- list(reversed(x)), x a list: a new list -/
def tLstRev (K : PySem.W.Frag) (te : TE) : TE := fun σ H Q => te σ H fun v H1 => ∃ (a : Addr) (xs : List V), v = .ref a ∧ SqL K H1 a xs ∧ ∀ q, H1 q = none → Q (.ref q) (upd H1 q (.lst xs.reverse))
theorem pe_lstRev {X : Cx} {e : Expr} {te : TE} {p p2 pos pos2 : Pos} (hc : X.calm = true) (hg : Gl X "list") (hm : X.mg "list" = none) (hg2 : Gl X "reversed") (hm2 : X.mg "reversed" = none) (he : PE X e te)
    (hs : starEach [e] X.env = (false, eval e X.env) :: starEach [] X.env)
    (hs2 : starEach [.Call (.Name "reversed" p2) [e] [] pos2] X.env = (false, eval (.Call (.Name "reversed" p2) [e] [] pos2) X.env) :: starEach [] X.env := by rfl) :
    PE X (.Call (.Name "list" p) [.Call (.Name "reversed" p2) [e] [] pos2] [] pos) (tLstRev X.K te) := by
  refine ⟨fun pins s σ H Q I h => ?_⟩
  refine Call_ (ld_blt I hg hm boot_list (PyProof.Rows.callWith_type1 (args_cons (Call_ (ld_blt I hg2 hm2 PyProof.Rows.boot_reversed (PyProof.Rows.callWith_type1 (args_cons (thn (he.run pins s σ H _ I h) fun u s1 ⟨v, H1, I1, r1, q1⟩ => args_nil ?_) hs) hs rfl))) hs2) hs2 rfl))
  obtain ⟨a, xs, ev, hq, q⟩ := q1
  subst ev
  obtain rfl : u = Value.ref a := r1
  obtain ⟨its, rv, p', hz⟩ := I1.list hq
  refine call_reversed_list p'.isList (args_nil ?_)
  have k0 : ∀ b o, s1.heap.get? b = some o → (s1.heap.push (revObj a ((its.toArray.size : Int) - 1))).get? b = some o := fun b o e => Heap.get?_push_of_some _ e
  have I2 : Inv X pins σ H1 { s1 with heap := s1.heap.push (revObj a ((its.toArray.size : Int) - 1)) } := I1.kept (t' := s1.toks) k0
  obtain ⟨f0, f1, f2, f3, f4, f5⟩ := I1.fpOk (H' := H1) (b := s1.heap.objs.size) (Nat.le_refl _) (I1.hok.fresh (Nat.le_refl _))
  have hl := p'.isList
  obtain ⟨ol, hol, _⟩ := id hl
  have hne : a ≠ s1.heap.objs.size := Nat.ne_of_lt (Heap.lt_size hol)
  have hn : its.toArray.size ≤ sizeLine := by rw [List.size_toArray, ← rv.length]; exact hz
  refine call_list_rev (s := { s1 with heap := s1.heap.push (revObj a ((its.toArray.size : Int) - 1)) }) (I1.ok.hd hc) ⟨_, Heap.get?_push_size _ rfl, rfl, rfl⟩ (hl.push _) hne hn fun h' tk acc c' hk hS' hi => ?_
  generalize hA : (s1.heap.push (revObj a ((its.toArray.size : Int) - 1))).objs.size = S0 at hS' ⊢
  have hS0 : s1.heap.objs.size < S0 := by rw [← hA, Heap.size_push]; exact Nat.lt_succ_self _
  have fr : H1 S0 = none := I2.hok.fresh (by show (s1.heap.push _).objs.size ≤ S0; rw [hA]; exact Nat.le_refl _)
  refine ⟨.ref S0, upd H1 S0 (.lst xs.reverse), ?_, rfl, q _ fr⟩
  have nb : ∀ b, b ∉ [s1.heap.objs.size] → b ≠ s1.heap.objs.size := fun b hb e => hb (by rw [e]; exact List.mem_singleton.mpr rfl)
  have un : Un (frs X.stack) [s1.heap.objs.size] H1 H1 (s1.heap.push (revObj a ((its.toArray.size : Int) - 1))) h' :=
    ⟨fun b o e _ _ hx => hk b o (nb b hx) e, fun b o e _ _ hx => ⟨o.slots, hk b o (nb b hx) e⟩, fun _ _ _ n _ => n, fun b o e hx => ⟨o, hk b o (nb b hx) e⟩, fun _ _ e => e, fun _ _ _ e => e, fun b ps e => ⟨#[], by rw [e]; simp⟩⟩
  have hok : HOk X.prog X.w H1 h' := (I2.turned (t' := tk) (fun b o hb e => hk b o hb e) f0 f1 f3 f4 f5).hok
  exact I2.drained (s' := { s1 with heap := h', toks := tk }) (ex := [s1.heap.objs.size]) (by show (s1.heap.push _).objs.size ≤ S0; rw [hA]; exact Nat.le_refl _) (by rw [List.length_reverse]; exact hz) hS' (RT.vals_rev rv hi)
    (fun b hb => by rw [List.mem_singleton.mp hb]; exact ⟨f3, f1, f4, f5⟩) rfl I1.bare un hok fr

abbrev OpN := List D → Store → Option D
def rF (W : Wd) (f : OpN) : List V → Hp → VK → Prop := fun xs H Q => ∃ ds ρ S d, RepS W ρ S H ∧ RepVs W.K ρ S.length H ds xs ∧ f ds S = some d ∧ OkTo W ρ S H d Q
def dLen : OpN
  | [.str s], _ => some (.int s.length)
  | [x], S => (x.seq S).map fun ds => .int ds.length
  | _, _ => none
def dAbs : OpN
  | [.int i], _ => some (.int (if i < 0 then -i else i))
  | _, _ => none
def dInt : OpN
  | [.int i], _ => some (.int i)
  | [.bl b], _ => some (.int (if b then 1 else 0))
  | _, _ => none
def intStr (i : Int) : List Nat := (toString i).toList.map Char.toNat
def dStr : OpN
  | [.int i], _ => if i.natAbs.log2 < 1920 ∧ (intStr i).length ≤ sizeLine then some (.str (intStr i)) else none
  | _, _ => none
def dTuple : OpN
  | [x], S => (x.seq S).map .tup
  | _, _ => none
def dList : OpN
  | [x], S => (x.seq S).map .lst
  | _, _ => none
def dMin2 : OpN
  | [.int i, .int j], _ => some (.int (if j < i then j else i))
  | _, _ => none
def dMax2 : OpN
  | [.int i, .int j], _ => some (.int (if j > i then j else i))
  | _, _ => none
section
variable {X : Cx} {W : Wd}
theorem fn_len (hK : X.K = W.K) : CallR X (.builtin "len") (rF W dLen) := by
  intro pins s σ H xs us Q I r h
  obtain ⟨ds, ρ, S, d, hS, hx, e, q⟩ := h
  unfold dLen at e
  split at e
  · cases e
    obtain ⟨v, rfl, hv⟩ := hx.one
    cases hv with | str a h1 =>
    exact call_len_str pins s σ H _ us Q I r ⟨_, rfl, by simpa [Str.length] using h1.1, by simpa [Str.length] using q.here hS (.int _)⟩
  · rename_i x _
    obtain ⟨v, rfl, hv⟩ := hx.one
    cases hd : x.seq S with
    | none => rw [hd] at e; cases e
    | some ds =>
      rw [hd] at e
      cases e
      obtain ⟨a, vs, rfl, hq, hr⟩ := seq_rep hS hv hd
      rw [← hK] at hq
      exact call_len_seq pins s σ H _ us Q I r ⟨_, _, rfl, hq, by rw [← hr.length]; exact q.here hS (.int _)⟩
  · cases e
theorem fn_abs : CallR X (.builtin "abs") (rF W dAbs) := by
  intro pins s σ H xs us Q I r h
  obtain ⟨ds, ρ, S, d, hS, hx, e, q⟩ := h
  unfold dAbs at e
  split at e
  · cases e
    obtain ⟨v, rfl, hv⟩ := hx.one
    cases hv
    exact call_abs pins s σ H _ us Q I r ⟨_, rfl, q.here hS (.int _)⟩
  · cases e
theorem fn_int : CallR X (.type "int") (rF W dInt) := by
  intro pins s σ H xs us Q I r h
  obtain ⟨ds, ρ, S, d, hS, hx, e, q⟩ := h
  unfold dInt at e
  split at e
  · cases e
    obtain ⟨v, rfl, hv⟩ := hx.one
    cases hv
    exact call_int1 pins s σ H _ us Q I r (.inl ⟨_, rfl, q.here hS (.int _)⟩)
  · cases e
    obtain ⟨v, rfl, hv⟩ := hx.one
    cases hv
    exact call_int1 pins s σ H _ us Q I r (.inr ⟨_, rfl, q.here hS (.int _)⟩)
  · cases e
theorem toChars_all (i : Int) : (intStr i).all (fun c => decide (c < 0x110000)) = true := by
  unfold intStr
  rw [List.all_map, List.all_eq_true]
  intro c _
  have := c.valid
  have h2 : c.toNat = c.val.toNat := rfl
  simp only [Function.comp, decide_eq_true_eq]
  have h := c.valid
  simp only [UInt32.isValidChar, Nat.isValidChar] at h
  omega
theorem ofString_codes (s : String) : Str.ofString s = ⟨(s.toList.map Char.toNat).toArray⟩ := Str.ofString_eq_toList s
theorem fn_min2 (hc : X.calm = true) : CallR X (.builtin "min") (rF W dMin2) := by
  intro pins s σ H xs us Q I r h
  obtain ⟨ds, ρ, S, d, hS, hx, e, q⟩ := h
  unfold dMin2 at e
  split at e
  · cases e
    obtain ⟨v, u, rfl, hv, hu⟩ := hx.two
    cases hv; cases hu
    exact call_min2 hc pins s σ H _ us Q I r ⟨_, _, rfl, q.here hS (.int _)⟩
  · cases e
theorem fn_max2 (hc : X.calm = true) : CallR X (.builtin "max") (rF W dMax2) := by
  intro pins s σ H xs us Q I r h
  obtain ⟨ds, ρ, S, d, hS, hx, e, q⟩ := h
  unfold dMax2 at e
  split at e
  · cases e
    obtain ⟨v, u, rfl, hv, hu⟩ := hx.two
    cases hv; cases hu
    exact call_max2 hc pins s σ H _ us Q I r ⟨_, _, rfl, q.here hS (.int _)⟩
  · cases e
theorem fn_tuple (hK : X.K = W.K) : CallR X (.type "tuple") (rF W dTuple) := by
  intro pins s σ H xs us Q I r h
  obtain ⟨ds, ρ, S, d, hS, hx, e, q⟩ := h
  unfold dTuple at e
  split at e
  · rename_i x
    obtain ⟨v, rfl, hv⟩ := hx.one
    cases hd : x.seq S with
    | none => rw [hd] at e; cases e
    | some ds =>
      rw [hd] at e
      cases e
      obtain ⟨a, vs, rfl, hq, hr⟩ := seq_rep hS hv hd
      rw [← hK] at hq
      refine call_tuple_of pins s σ H _ us Q I r ⟨_, vs, rfl, ?_⟩
      rcases hq with hq | hq
      · exact .inl ⟨hq, fun p hp => q.tup hS hr hp⟩
      · exact .inr ⟨hq, q.here hS (.tup (hK ▸ hq) hr)⟩
  · cases e
theorem fn_list (hK : X.K = W.K) : CallR X (.type "list") (rF W dList) := by
  intro pins s σ H xs us Q I r h
  obtain ⟨ds, ρ, S, d, hS, hx, e, q⟩ := h
  unfold dList at e
  split at e
  · rename_i x
    obtain ⟨v, rfl, hv⟩ := hx.one
    cases hd : x.seq S with
    | none => rw [hd] at e; cases e
    | some ds =>
      rw [hd] at e
      cases e
      obtain ⟨a, vs, rfl, hq, hr⟩ := seq_rep hS hv hd
      rw [← hK] at hq
      exact call_list_of pins s σ H _ us Q I r ⟨_, _, rfl, hq, fun p hp => q.lst hS hr hp⟩
  · cases e
theorem fn_str : CallR X (.type "str") (rF W dStr) := by
  intro pins s σ H xs us Q I r h
  obtain ⟨ds, ρ, S, d, hS, hx, e, q⟩ := h
  unfold dStr at e
  split at e
  · rename_i i _
    split at e
    · rename_i hz
      cases e
      obtain ⟨v, rfl, hv⟩ := hx.one
      cases hv
      refine call_str_int pins s σ H _ us Q I r ⟨_, rfl, hz.1, ?_⟩
      rw [ofString_codes]
      exact q.here hS (.str _ ⟨hz.2, toChars_all _⟩)
    · cases e
  · cases e

def D.ty (S : Store) : D → Option String
  | .non => some "NoneType"
  | .bl _ => some "bool"
  | .int _ => some "int"
  | .str _ => some "str"
  | .tup _ => some "tuple"
  | .lst _ => some "list"
  | .rol _ => some "list"
  | .obj n => match S[n]? with
    | some (.lst _) => some "list"
    | some (.dic _ _) => some "dict"
    | some (.st _) => some "set"
    | none => none
  | _ => none
def isT (a b : String) : Bool := a == b || (a == "bool" && b == "int")
def tyNames : List String := ["NoneType", "bool", "int", "str", "tuple", "list", "dict", "set"]
theorem kit_all : tyNames.all (fun a => ["bool", "int", "str", "tuple", "list", "dict", "set"].all fun b => decide (kitB a b = some (isT a b))) = true := by decide +kernel
theorem ty_mem {S : Store} {d : D} {t : String} (h : d.ty S = some t) : t ∈ tyNames := by
  cases d with
  | obj n =>
    simp only [D.ty] at h
    split at h <;> first | (cases h; decide) | cases h
  | _ => simp [D.ty] at h <;> (subst h; decide)
theorem ty_rep {K : PySem.W.Frag} {ρ : Rn} {S : Store} {H : Hp} {d : D} {v : V} {t : String} (s : RepS W ρ S H) (hK : W.K = K) (r : RepV W.K ρ S.length H d v) (h : d.ty S = some t) : TyX K H v (.type t) := by
  subst hK
  cases r with
  | non => cases h; exact .base .non
  | bl b => cases h; exact .base (.bl _)
  | int i => cases h; exact .base (.int _)
  | str a h1 => cases h; exact .base (.str _)
  | tup h1 r =>
    cases h
    rcases h1 with (h1 | ⟨o, h1⟩) | ⟨o, its, n, hk, hc, _⟩
    · exact .base (.tup h1)
    · exact .fTuple h1
    · exact .kTuple hk hc
  | lst h1 h2 r => cases h; exact .base (.lst h1)
  | rol h1 r =>
    cases h
    rcases h1 with ⟨o, h1⟩ | h1
    · exact .base (.frz h1)
    · rcases h1 with (h1 | ⟨o, h1⟩) | ⟨o, its, n, hk, hc, _⟩
      · cases h1
      · cases h1
      · exact .kList hk hc
  | @obj n hn =>
    simp only [D.ty] at h
    cases q : S[n]? with
    | none => rw [q] at h; cases h
    | some c =>
      rw [q] at h
      cases c with
      | lst es =>
        cases h
        obtain ⟨_, vs, h1, h2⟩ := s.list q
        exact .base (.lst h1)
      | dic _ _ => exact (s.at_ n _ q).elim
      | st _ => exact (s.at_ n _ q).elim
end
end PD

set_option Elab.async false
set_option linter.all false
set_option maxRecDepth 100000
namespace PD
open PySem

inductive BinO where
  | add | sub | mul | div | mod | pow
  deriving DecidableEq
inductive CmpO where
  | eq | ne | lt | le | gt | ge | is_ | isNot | in_ | notIn
  deriving DecidableEq
inductive Bif where
  | len | abs | int | str | tuple | list | min2 | max2
  deriving DecidableEq
/-- a target: a name, names in a row -/
inductive Tg where
  | nm (i : Nat)
  | tp (is : List Nat)

mutual
inductive Ex where
  | cst (d : D)
  | var (i : Nat)
  | glb (i : Nat)
  | tup (es : Exs) | lst (es : Exs) | lstO (es : Exs)
  | bin (o : BinO) (a b : Ex)
  | neg (a : Ex) | not (a : Ex)
  | and (a b : Ex) | or (a b : Ex) | one (a : Ex)
  | ite (c a b : Ex)
  | cmp (o : CmpO) (a b : Ex)
  | chn (o o' : CmpO) (a b c : Ex)
  | idx (a i : Ex)
  | cut (a : Ex) (lo hi : Exo)
  | call (f : Nat) (es : Exs)
  | bif (b : Bif) (es : Exs)
  | isin (e : Ex) (t : String)
  | app (o e : Ex)
  | pop (o : Ex)
  | comp (el : Ex) (t : Tg) (it : It) (c : Exs) (isObj : Bool)
  | lrev (e : Ex) (isObj : Bool)
  | allG (isAny : Bool) (el : Ex) (t : Tg) (it : It) (c : Exs)
  | kin (neg : Bool) (i : Nat) (e : Ex)
  | kidx (i : Nat) (e : Ex)
inductive Exs where
  | nil | cons (e : Ex) (es : Exs)
inductive Exo where
  | no | ex (e : Ex)
/-- what is walked -/
inductive It where
  | seq (e : Ex)
  | rng1 (a : Ex)
  | rng2 (a b : Ex)
end

mutual
inductive St where
  | set (i : Nat) (e : Ex)
  | unp (t : Tg) (e : Ex)
  | par2 (i j : Nat) (a b : Ex)
  | par3 (i j k : Nat) (a b c : Ex)
  | aug (i : Nat) (o : BinO) (e : Ex)
  | exp (e : Ex)
  | ret (e : Ex)
  | iff (c : Ex) (a b : Sts)
  | forr (t : Tg) (it : It) (b : Sts)
  | whl (c : Ex) (b : Sts)
  | pass | brk | cnt
inductive Sts where
  | nil | cons (s : St) (ss : Sts)
end

/-- what the module and its defs mean -/
structure Dn where
  Γ : Nat → Option D
  Φ : Nat → List D → Store → Out D
  /-- the module's dicts, by text keys -/
  Δ : Nat → Option (List (List Nat × D)) := fun _ => none

def liftO {α : Type} (S : Store) : Option α → Out α
  | some d => .ok d S
  | none => .bad
@[simp] theorem liftO_some {α : Type} (S : Store) (d : α) : liftO S (some d) = .ok d S := rfl
@[simp] theorem liftO_none {α : Type} (S : Store) : liftO S (none : Option α) = .bad := rfl
def lift (S : Store) : Option D → Out D
  | some d => .ok d S
  | none => .bad
@[simp] theorem lift_some (S : Store) (d : D) : lift S (some d) = .ok d S := rfl
@[simp] theorem lift_none (S : Store) : lift S none = .bad := rfl
/-- a slot's value -/
def getD (δ : DEnv) (i : Nat) : Option D := match δ[i]? with
  | some (some d) => some d
  | _ => none
def binF : BinO → Op2
  | .add => dAdd | .sub => dSub | .mul => dMul | .div => dDiv | .mod => dMod | .pow => dPow
def dIn : Op2
  | .str [c], .str z, _ => some (.bl (decide (c ∈ z)))
  | x, y, S => match y.seq S with
    | some ds => if (x.rd S).plain && D.plains ds && decide ((x.rd S).depth ≤ 100) then some (.bl (ds.any fun d => d.eqv (x.rd S))) else none
    | none => none
def dNotIn : Op2 := fun x y S => match dIn x y S with
  | some (.bl b) => some (.bl (!b))
  | _ => none
def cmpF : CmpO → Op2
  | .eq => dEq | .ne => dNe | .lt => dLt | .le => dLe | .gt => dGt | .ge => dGe | .is_ => dIs | .isNot => dIsNot | .in_ => dIn | .notIn => dNotIn
def bifF : Bif → OpN
  | .len => dLen | .abs => dAbs | .int => dInt | .str => dStr | .tuple => dTuple | .list => dList | .min2 => dMin2 | .max2 => dMax2
/-- name op= value: numbers and texts alone -/
def augF : BinO → Op2
  | .add, .int i, .int j, _ => some (.int (i + j))
  | .add, .str a, .str b, _ => if a.length + b.length ≤ sizeLine then some (.str (a ++ b)) else none
  | .sub, .int i, .int j, _ => some (.int (i - j))
  | _, _, _, _ => none
/-- a value's truth -/
def D.tru (S : Store) : D → Option Bool
  | .non => some false
  | .bl b => some b
  | .int i => some (decide (i ≠ 0))
  | .str s => some (!s.isEmpty)
  | x => (x.seq S).map fun ds => !ds.isEmpty
def D.asB : D → Option Bool
  | .bl b => some b
  | _ => none
@[simp] theorem D.asB_bl (b : Bool) : (D.bl b).asB = some b := rfl
def liftB (S : Store) : Option Bool → Out Bool
  | some d => .ok d S
  | none => .bad
@[simp] theorem liftB_some (S : Store) (d : Bool) : liftB S (some d) = .ok d S := rfl
@[simp] theorem liftB_none (S : Store) : liftB S none = .bad := rfl
/-- the items that a walk gives -/
def D.iter (S : Store) : D → Option (List D)
  | .str s => some (s.map fun c => .str [c])
  | x => x.seq S
def setAll : List Nat → List D → DEnv → DEnv
  | i :: is, d :: ds, δ => setAll is ds (δ.set i (some d))
  | _, _, δ => δ
def tset : Tg → D → DEnv → Option DEnv
  | .nm i, d, δ => some (δ.set i (some d))
  | .tp is, .tup ds, δ => if ds.length = is.length then some (setAll is ds δ) else none
  | _, _, _ => none
def Tg.slots : Tg → List Nat
  | .nm i => [i]
  | .tp is => is
/-- the block's own names forgotten -/
def wipeD (δ : DEnv) : List Nat → DEnv
  | [] => δ
  | v :: vs => (wipeD δ vs).set v none
/-- nothing is raised -/
def nox {α : Type} : Out α → Out α
  | .exc _ _ => .bad
  | r => r
@[simp] theorem nox_ok {α : Type} (a : α) (S : Store) : nox (.ok a S) = .ok a S := rfl
@[simp] theorem nox_bad {α : Type} : nox (.bad : Out α) = .bad := rfl
@[simp] theorem nox_exc {α : Type} (x : String) (S : Store) : nox (.exc x S : Out α) = .bad := rfl
/-- a comprehension's items, one after another -/
def mapL (f : D → Store → Out (Option D)) : List D → Store → Out (List D)
  | [], S => .ok [] S
  | x :: xs, S => (f x S).bind fun r S1 => (mapL f xs S1).bind fun ys S2 => .ok (match r with | some y => y :: ys | none => ys) S2
/-- all(..), any(..): short -/
def allL (isAny : Bool) (F : D → Store → Out (Option D)) : List D → Store → Out Bool
  | [], S => .ok (!isAny) S
  | x :: xs, S => (F x S).bind fun r S1 => match r with
    | none => allL isAny F xs S1
    | some y => (liftB S1 y.asB).bind fun b S2 => if b = isAny then .ok isAny S2 else allL isAny F xs S2
def kinF (neg : Bool) (l : List (List Nat × D)) : D → Option D
  | .str s => some (.bl (if neg then !(l.lookup s).isSome else (l.lookup s).isSome))
  | _ => none
def kidxF (l : List (List Nat × D)) : D → Option D
  | .str s => l.lookup s
  | _ => none
/-- a new list: an object of the store, or a value -/
def mkList (isObj : Bool) (ds : List D) (S : Store) : Out D :=
  if ds.length ≤ sizeLine then (if isObj then (if ds.all D.pure then .ok (.obj S.length) (S ++ [.lst ds]) else .bad) else .ok (.lst ds) S) else .bad
def isinF (d : D) (t : String) (S : Store) : Option D :=
  if ["bool", "int", "str", "tuple", "list", "dict", "set"].contains t then (d.ty S).map fun a => .bl (isT a t) else none
def D.asO : D → Option Nat
  | .obj n => some n
  | _ => none
def appF (n : Nat) (d : D) (S : Store) : Out D := match S[n]? with
  | some (.lst ds) => if d.pure && decide (ds.length < sizeLine) then .ok .non (S.set n (.lst (ds ++ [d]))) else .bad
  | _ => .bad
def popF (n : Nat) (S : Store) : Out D := match S[n]? with
  | some (.lst ds) => match ds.getLast? with
    | some d => .ok d (S.set n (.lst ds.dropLast))
    | none => .bad
  | _ => .bad
def rngL (a b : Int) : List D := (List.range (b - a).toNat).map fun (k : Nat) => .int (a + (k : Int))
def rngOk (a b : Int) : Bool := decide (-4611686018427387904 ≤ a ∧ a < 4611686018427387904 ∧ -4611686018427387904 ≤ b ∧ b < 4611686018427387904)
/-- what a walk goes over: data as it stands, or a list of the store -/
inductive Src where
  | st (ds : List D)
  | lv (n : Nat)
def Src.items : Src → Option (List D)
  | .st ds => some ds
  | .lv _ => none
def srcOf (d : D) : Option Src := match d with
  | .obj n => some (.lv n)
  | d => (d.iter []).map .st
def D.asI : D → Option Int
  | .int i => some i
  | _ => none
def rngS (x y : D) : Option Src := match x, y with
  | .int a, .int b => if rngOk a b then some (.st (rngL a b)) else none
  | _, _ => none
def negF : D → Option D
  | .int i => some (.int (-i))
  | _ => none

mutual
def ev (G : Dn) : Ex → DEnv → Store → Out D
  | .cst d, _, S => .ok d S
  | .var i, δ, S => lift S (getD δ i)
  | .glb x, _, S => lift S (G.Γ x)
  | .tup es, δ, S => (evs G es δ S).bind fun ds S1 => if ds.length ≤ sizeLine then .ok (.tup ds) S1 else .bad
  | .lst es, δ, S => (evs G es δ S).bind fun ds S1 => mkList false ds S1
  | .lstO es, δ, S => (evs G es δ S).bind fun ds S1 => mkList true ds S1
  | .bin o a b, δ, S => (ev G a δ S).bind fun x S1 => (ev G b δ S1).bind fun y S2 => lift S2 (binF o x y S2)
  | .neg a, δ, S => (ev G a δ S).bind fun x S1 => lift S1 (negF x)
  | .not a, δ, S => (ev G a δ S).bind fun x S1 => (liftB S1 (x.tru S1)).bind fun b S2 => .ok (.bl (!b)) S2
  | .and a b, δ, S => (ev G a δ S).bind fun x S1 => (liftB S1 x.asB).bind fun t S2 => if t then ev G b δ S2 else .ok (.bl false) S2
  | .or a b, δ, S => (ev G a δ S).bind fun x S1 => (liftB S1 x.asB).bind fun t S2 => if t then .ok (.bl true) S2 else ev G b δ S2
  | .one a, δ, S => ev G a δ S
  | .ite c a b, δ, S => (tst G c δ S).bind fun t S1 => if t then ev G a δ S1 else ev G b δ S1
  | .cmp o a b, δ, S => (ev G a δ S).bind fun x S1 => (ev G b δ S1).bind fun y S2 => lift S2 (cmpF o x y S2)
  | .chn o o' a b c, δ, S => (ev G a δ S).bind fun x S1 => (ev G b δ S1).bind fun y S2 => (lift S2 (cmpF o x y S2)).bind fun t S3 => (liftB S3 t.asB).bind fun t S3 => if t then (ev G c δ S3).bind fun z S4 => lift S4 (cmpF o' y z S4) else .ok (.bl false) S3
  | .idx a i, δ, S => (ev G a δ S).bind fun x S1 => (ev G i δ S1).bind fun y S2 => lift S2 (dIdx x y S2)
  | .cut a lo hi, δ, S => (ev G a δ S).bind fun x S1 => (evo G lo δ S1).bind fun l S2 => (evo G hi δ S2).bind fun h S3 => lift S3 (dCut x l h S3)
  | .call f es, δ, S => (evs G es δ S).bind fun ds S1 => G.Φ f ds S1
  | .bif b es, δ, S => (evs G es δ S).bind fun ds S1 => lift S1 (bifF b ds S1)
  | .isin e t, δ, S => (ev G e δ S).bind fun x S1 => lift S1 (isinF x t S1)
  | .app o e, δ, S => (ev G o δ S).bind fun x S1 => (liftO S1 x.asO).bind fun n S1 => (ev G e δ S1).bind fun y S2 => appF n y S2
  | .pop o, δ, S => (ev G o δ S).bind fun x S1 => (liftO S1 x.asO).bind fun n S1 => popF n S1
  | .comp el t it c isObj, δ, S => (evI G it δ S).bind fun src S1 => (liftO S1 src.items).bind fun ds S1 =>
      (nox (mapL (fun x S => (liftO S (tset t x (wipeD δ t.slots))).bind fun δ' S => (tsts G c δ' S).bind fun b S2 => if b then (ev G el δ' S2).bind fun y S3 => .ok (some y) S3 else .ok none S2) ds S1)).bind fun ys S2 => mkList isObj ys S2
  | .lrev e isObj, δ, S => (ev G e δ S).bind fun x S1 => (liftO S1 (x.lseq S1)).bind fun ds S2 => mkList isObj ds.reverse S2
  | .allG isAny el t it c, δ, S => (evI G it δ S).bind fun src S1 => (liftO S1 src.items).bind fun ds S1 =>
      (nox (allL isAny (fun x S => (liftO S (tset t x (wipeD δ t.slots))).bind fun δ' S => (tsts G c δ' S).bind fun b S2 => if b then (ev G el δ' S2).bind fun y S3 => .ok (some y) S3 else .ok none S2) ds S1)).bind fun b S2 => .ok (.bl b) S2
  | .kin neg i e, δ, S => (liftO S (G.Δ i)).bind fun l S => (ev G e δ S).bind fun x S1 => lift S1 (kinF neg l x)
  | .kidx i e, δ, S => (liftO S (G.Δ i)).bind fun l S => (ev G e δ S).bind fun x S1 => lift S1 (kidxF l x)
/-- as a test -/
def tst (G : Dn) : Ex → DEnv → Store → Out Bool
  | .not a, δ, S => (tst G a δ S).bind fun b S1 => .ok (!b) S1
  | .and a b, δ, S => (tst G a δ S).bind fun t S1 => if t then tst G b δ S1 else .ok false S1
  | .or a b, δ, S => (tst G a δ S).bind fun t S1 => if t then .ok true S1 else tst G b δ S1
  | .one a, δ, S => tst G a δ S
  | .ite c a b, δ, S => (tst G c δ S).bind fun t S1 => if t then tst G a δ S1 else tst G b δ S1
  | .cmp o a b, δ, S => (ev G a δ S).bind fun x S1 => (ev G b δ S1).bind fun y S2 => (lift S2 (cmpF o x y S2)).bind fun z S3 => liftB S3 z.asB
  | .chn o o' a b c, δ, S => (ev G a δ S).bind fun x S1 => (ev G b δ S1).bind fun y S2 => (lift S2 (cmpF o x y S2)).bind fun t S3 => (liftB S3 t.asB).bind fun t S3 => if t then (ev G c δ S3).bind fun z S4 => (lift S4 (cmpF o' y z S4)).bind fun z S5 => liftB S5 z.asB else .ok false S3
  | .cst d, _, S => liftB S (d.tru S)
  | .var i, δ, S => (lift S (getD δ i)).bind fun z S1 => liftB S1 (z.tru S1)
  | .idx a i, δ, S => (ev G a δ S).bind fun x S1 => (ev G i δ S1).bind fun y S2 => (lift S2 (dIdx x y S2)).bind fun z S3 => liftB S3 (z.tru S3)
  | .call f es, δ, S => (evs G es δ S).bind fun ds S1 => (G.Φ f ds S1).bind fun z S2 => liftB S2 (z.tru S2)
  | .bif b es, δ, S => (evs G es δ S).bind fun ds S1 => (lift S1 (bifF b ds S1)).bind fun z S2 => liftB S2 (z.tru S2)
  | .isin e t, δ, S => (ev G e δ S).bind fun x S1 => (lift S1 (isinF x t S1)).bind fun z S2 => liftB S2 (z.tru S2)
  | .kin neg i e, δ, S => (liftO S (G.Δ i)).bind fun l S => (ev G e δ S).bind fun x S1 => (lift S1 (kinF neg l x)).bind fun z S2 => liftB S2 (z.tru S2)
  | .kidx i e, δ, S => (liftO S (G.Δ i)).bind fun l S => (ev G e δ S).bind fun x S1 => (lift S1 (kidxF l x)).bind fun z S2 => liftB S2 (z.tru S2)
  | .allG isAny el t it c, δ, S => (evI G it δ S).bind fun src S1 => (liftO S1 src.items).bind fun ds S1 =>
      (nox (allL isAny (fun x S => (liftO S (tset t x (wipeD δ t.slots))).bind fun δ' S => (tsts G c δ' S).bind fun b S2 => if b then (ev G el δ' S2).bind fun y S3 => .ok (some y) S3 else .ok none S2) ds S1)).bind fun b S2 => .ok b S2
  | _, _, _ => .bad
def evs (G : Dn) : Exs → DEnv → Store → Out (List D)
  | .nil, _, S => .ok [] S
  | .cons e es, δ, S => (ev G e δ S).bind fun x S1 => (evs G es δ S1).bind fun xs S2 => .ok (x :: xs) S2
/-- all of them hold -/
def tsts (G : Dn) : Exs → DEnv → Store → Out Bool
  | .nil, _, S => .ok true S
  | .cons e .nil, δ, S => tst G e δ S
  | .cons e es, δ, S => (tst G e δ S).bind fun b S1 => if b then tsts G es δ S1 else .ok false S1
def evo (G : Dn) : Exo → DEnv → Store → Out (Option Int)
  | .no, _, S => .ok none S
  | .ex e, δ, S => (ev G e δ S).bind fun x S1 => (liftO S1 x.asI).bind fun i S2 => .ok (some i) S2
def evI (G : Dn) : It → DEnv → Store → Out Src
  | .seq e, δ, S => (ev G e δ S).bind fun x S1 => liftO S1 (srcOf x)
  | .rng1 a, δ, S => (ev G a δ S).bind fun x S1 => liftO S1 (rngS (.int 0) x)
  | .rng2 a b, δ, S => (ev G a δ S).bind fun x S1 => (ev G b δ S1).bind fun y S2 => liftO S2 (rngS x y)
end

/-- how a statement ends -/
inductive Fl where
  | nx (δ : DEnv) | rt (d : D) | bk (δ : DEnv) | ct (δ : DEnv) | ex (x : String) (δ : DEnv)
/-- an expression's end, at the slots δ -/
def exS {α : Type} (δ : DEnv) (r : Out α) (g : α → Store → Out Fl) : Out Fl := match r with
  | .ok a S => g a S
  | .exc x S => .ok (.ex x δ) S
  | .bad => .bad
@[simp] theorem exS_ok {α : Type} (δ : DEnv) (a : α) (S : Store) (g : α → Store → Out Fl) : exS δ (.ok a S) g = g a S := rfl
@[simp] theorem exS_exc {α : Type} (δ : DEnv) (x : String) (S : Store) (g : α → Store → Out Fl) : exS δ (.exc x S) g = .ok (.ex x δ) S := rfl
@[simp] theorem exS_bad {α : Type} (δ : DEnv) (g : α → Store → Out Fl) : exS δ (.bad : Out α) g = .bad := rfl
/-- what follows a statement -/
def thenF (r : Out Fl) (g : DEnv → Store → Out Fl) : Out Fl := r.bind fun f S => match f with
  | .nx δ => g δ S
  | f => .ok f S
/-- what follows a turn -/
def turnF (r : Out Fl) (g : DEnv → Store → Out Fl) : Out Fl := r.bind fun f S => match f with
  | .nx δ => g δ S
  | .ct δ => g δ S
  | .bk δ => .ok (.nx δ) S
  | f => .ok f S
@[simp] theorem thenF_nx (δ : DEnv) (S : Store) (g : DEnv → Store → Out Fl) : thenF (.ok (.nx δ) S) g = g δ S := rfl
@[simp] theorem thenF_rt (d : D) (S : Store) (g : DEnv → Store → Out Fl) : thenF (.ok (.rt d) S) g = .ok (.rt d) S := rfl
@[simp] theorem thenF_bk (δ : DEnv) (S : Store) (g : DEnv → Store → Out Fl) : thenF (.ok (.bk δ) S) g = .ok (.bk δ) S := rfl
@[simp] theorem thenF_ct (δ : DEnv) (S : Store) (g : DEnv → Store → Out Fl) : thenF (.ok (.ct δ) S) g = .ok (.ct δ) S := rfl
@[simp] theorem thenF_ex (x : String) (δ : DEnv) (S : Store) (g : DEnv → Store → Out Fl) : thenF (.ok (.ex x δ) S) g = .ok (.ex x δ) S := rfl
@[simp] theorem thenF_bad (g : DEnv → Store → Out Fl) : thenF .bad g = .bad := rfl
@[simp] theorem turnF_nx (δ : DEnv) (S : Store) (g : DEnv → Store → Out Fl) : turnF (.ok (.nx δ) S) g = g δ S := rfl
@[simp] theorem turnF_ct (δ : DEnv) (S : Store) (g : DEnv → Store → Out Fl) : turnF (.ok (.ct δ) S) g = g δ S := rfl
@[simp] theorem turnF_bk (δ : DEnv) (S : Store) (g : DEnv → Store → Out Fl) : turnF (.ok (.bk δ) S) g = .ok (.nx δ) S := rfl
@[simp] theorem turnF_rt (d : D) (S : Store) (g : DEnv → Store → Out Fl) : turnF (.ok (.rt d) S) g = .ok (.rt d) S := rfl
@[simp] theorem turnF_ex (x : String) (δ : DEnv) (S : Store) (g : DEnv → Store → Out Fl) : turnF (.ok (.ex x δ) S) g = .ok (.ex x δ) S := rfl
@[simp] theorem turnF_bad (g : DEnv → Store → Out Fl) : turnF .bad g = .bad := rfl
def forL (body : D → DEnv → Store → Out Fl) : List D → DEnv → Store → Out Fl
  | [], δ, S => .ok (.nx δ) S
  | x :: xs, δ, S => turnF (body x δ S) fun δ1 S1 => forL body xs δ1 S1
/-- a list of the store that is read at each turn -/
def forV (n : Nat) (body : D → DEnv → Store → Out Fl) : Nat → Nat → DEnv → Store → Out Fl
  | 0, _, _, _ => .bad
  | k + 1, i, δ, S => match S[n]? with
    | some (.lst ds) => match ds[i]? with
      | some x => turnF (body x δ S) fun δ1 S1 => forV n body k (i + 1) δ1 S1
      | none => .ok (.nx δ) S
    | _ => .bad
def whileF (c : DEnv → Store → Out Bool) (body : DEnv → Store → Out Fl) : Nat → DEnv → Store → Out Fl
  | 0, _, _ => .bad
  | k + 1, δ, S => exS δ (c δ S) fun b S1 => if b then turnF (body δ S1) fun δ1 S2 => whileF c body k δ1 S2 else .ok (.nx δ) S1
/-- more turns than any loop takes -/
def manyT : Nat := 1000000000000

mutual
def evS (G : Dn) : St → DEnv → Store → Out Fl
  | .set i e, δ, S => exS δ (ev G e δ S) fun d S1 => .ok (.nx (δ.set i (some d))) S1
  | .unp t e, δ, S => exS δ (ev G e δ S) fun d S1 => (liftO S1 (tset t d δ)).bind fun δ' S1 => .ok (.nx δ') S1
  | .par2 i j a b, δ, S => exS δ (ev G a δ S) fun x S1 => exS δ (ev G b δ S1) fun y S2 => .ok (.nx ((δ.set i (some x)).set j (some y))) S2
  | .par3 i j k a b c, δ, S => exS δ (ev G a δ S) fun x S1 => exS δ (ev G b δ S1) fun y S2 => exS δ (ev G c δ S2) fun z S3 => .ok (.nx (((δ.set i (some x)).set j (some y)).set k (some z))) S3
  | .aug i o e, δ, S => (liftO S (getD δ i)).bind fun x S => exS δ (ev G e δ S) fun y S1 => (liftO S1 (augF o x y S1)).bind fun z S2 => .ok (.nx (δ.set i (some z))) S2
  | .exp e, δ, S => exS δ (ev G e δ S) fun _ S1 => .ok (.nx δ) S1
  | .ret e, δ, S => exS δ (ev G e δ S) fun d S1 => .ok (.rt d) S1
  | .iff c a b, δ, S => exS δ (tst G c δ S) fun t S1 => if t then evSs G a δ S1 else evSs G b δ S1
  | .forr t it b, δ, S => exS δ (evI G it δ S) fun src S1 => match src with
    | .st ds => forL (fun x δ S => (liftO S (tset t x δ)).bind fun δ' S => evSs G b δ' S) ds δ S1
    | .lv n => forV n (fun x δ S => (liftO S (tset t x δ)).bind fun δ' S => evSs G b δ' S) manyT 0 δ S1
  | .whl c b, δ, S => whileF (fun δ S => tst G c δ S) (fun δ S => evSs G b δ S) manyT δ S
  | .pass, δ, S => .ok (.nx δ) S
  | .brk, δ, S => .ok (.bk δ) S
  | .cnt, δ, S => .ok (.ct δ) S
def evSs (G : Dn) : Sts → DEnv → Store → Out Fl
  | .nil, δ, S => .ok (.nx δ) S
  | .cons s ss, δ, S => thenF (evS G s δ S) fun δ1 S1 => evSs G ss δ1 S1
end
end PD

set_option Elab.async false
set_option linter.all false
set_option maxRecDepth 100000
namespace PD
open PySem PySem.Spec PyProof.Rows L2

section
variable {X : Cx} {e : Expr}
theorem PE.of {t t' : TE} (h : PE X e t') (i : ∀ σ H Q, t σ H Q → t' σ H Q) : PE X e t := ⟨fun pins s σ H Q I q => h.run pins s σ H Q I (i _ _ _ q)⟩
theorem PT.of {t t' : TT} (h : PT X e t') (i : ∀ σ H Q, t σ H Q → t' σ H Q) : PT X e t := ⟨fun pins s σ H Q I q => h.run pins s σ H Q I (i _ _ _ q)⟩
theorem PW.of {t t' : TT} (h : PW X e t') (i : ∀ σ H Q, t σ H Q → t' σ H Q) : PW X e t := ⟨fun w pins s σ H Q I q => h.run w pins s σ H Q I (i _ _ _ q)⟩
theorem PA.of {es : List Expr} {t t' : TA} (h : PA X es t') (i : ∀ σ H Q, t σ H Q → t' σ H Q) : PA X es t := ⟨fun p pins s σ H Q I q => h.run p pins s σ H Q I (i _ _ _ q)⟩
theorem PO.of {es : Option Expr} {t t' : TO} (h : PO X es t') (i : ∀ σ H Q, t σ H Q → t' σ H Q) : PO X es t := ⟨fun pins s σ H Q I q => h.run pins s σ H Q I (i _ _ _ q)⟩
end

section
variable {W : Wd} {Wx : WX} {σ : L2.St} {ρ : Rn} {S : Store} {N : Nat} {H : Hp} {α β γ ε : Type} {rel : Rl α β} {rel' : Rl γ ε} {δ : DEnv}
/-- a first part, then the rest -/
theorem rdg.next {f : DEnv → Store → Out α} {g : α → Store → Out γ} {Q : ε → Hp → Prop} {Q' : β → Hp → Prop} (s : RepS W ρ S H) (e : RepE W.K ρ S.length H δ σ) (h : Cont W Wx σ rel' ((f δ S).bind g) ρ S.length H Q)
    (k : ∀ b H1 a S1 ρ1, Ext ρ S.length H ρ1 S1.length H1 → RepS W ρ1 S1 H1 → RepE W.K ρ1 S1.length H1 δ σ → rel ρ1 S1.length H1 a b → Cont W Wx σ rel' (g a S1) ρ1 S1.length H1 Q → Q' b H1) : rdg W Wx rel f σ H Q' :=
  ⟨δ, S, ρ, s, e, (Run.bind h).imp fun a S1 ρ1 H1 ⟨e1, s1, h1⟩ b hb => k b H1 a S1 ρ1 e1 s1 (e.mono e1) hb h1⟩
theorem Cont.from {r : Out α} {Q : β → Hp → Prop} {ρ' : Rn} {N' : Nat} {H' : Hp} (h : Cont W Wx σ rel r ρ N H Q) (e : Ext ρ N H ρ' N' H') : Cont W Wx σ rel r ρ' N' H' Q := Run.from h e
theorem Cont.oO {o : Option α} {g : α → Store → Out γ} {Q : ε → Hp → Prop} (h : Cont W Wx σ rel' ((liftO S o).bind g) ρ S.length H Q) : ∃ a, o = some a ∧ Cont W Wx σ rel' (g a S) ρ S.length H Q := by
  cases o with
  | none => exact h.elim
  | some a => exact ⟨a, rfl, h⟩
theorem Cont.oB {o : Option Bool} {g : Bool → Store → Out γ} {Q : ε → Hp → Prop} (h : Cont W Wx σ rel' ((liftB S o).bind g) ρ S.length H Q) : ∃ a, o = some a ∧ Cont W Wx σ rel' (g a S) ρ S.length H Q := by
  cases o with
  | none => exact h.elim
  | some a => exact ⟨a, rfl, h⟩
theorem Cont.oD {o : Option D} {g : D → Store → Out γ} {Q : ε → Hp → Prop} (h : Cont W Wx σ rel' ((lift S o).bind g) ρ S.length H Q) : ∃ a, o = some a ∧ Cont W Wx σ rel' (g a S) ρ S.length H Q := by
  cases o with
  | none => exact h.elim
  | some a => exact ⟨a, rfl, h⟩
theorem Cont.oK {o : Option D} {Q : V → Hp → Prop} (h : Cont W Wx σ (relD W) (lift S o) ρ S.length H Q) : ∃ d, o = some d ∧ OkTo W ρ S H d Q := by
  cases o with
  | none => exact h.elim
  | some d => exact ⟨d, rfl, fun H' z e s r => h ρ H' e s z r⟩
theorem Cont.oT {o : Option Bool} {Q : Bool → Hp → Prop} (h : Cont W Wx σ relI (liftB S o) ρ S.length H Q) : ∃ k, o = some k ∧ ∀ H', Ext ρ S.length H ρ S.length H' → RepS W ρ S H' → Q k H' := by
  cases o with
  | none => exact h.elim
  | some d => exact ⟨d, rfl, fun H' e s => h ρ H' e s d rfl⟩
theorem Cont.ok {a : α} {S' : Store} {Q : β → Hp → Prop} (h : Cont W Wx σ rel (.ok a S') ρ N H Q) {ρ' : Rn} {H' : Hp} (e : Ext ρ N H ρ' S'.length H') (s : RepS W ρ' S' H') {b : β} (r : rel ρ' S'.length H' a b) : Q b H' := h ρ' H' e s b r
end

section
variable {X : Cx} {W : Wd} {Wx : WX} {f g k : DEnv → Store → Out D} {a b c e : Expr} {pos : Pos}
theorem g_bin {op : Operator} {o : Op2} (ho : OpR X (binaryOp op) (rP W o)) (ha : PE X a (tD W Wx f)) (hb : PE X b (tD W Wx g)) :
    PE X (.BinOp a op b pos) (tD W Wx fun δ S => (f δ S).bind fun x S1 => (g δ S1).bind fun y S2 => lift S2 (o x y S2)) := by
  refine PE.of (pe_op ho ha hb) fun σ H Q ⟨δ, S, ρ, s, E, h⟩ => ?_
  refine rdg.next s E h fun x H1 dx S1 ρ1 e1 s1 E1 r1 h1 => rdg.next s1 E1 h1 fun y H2 dy S2 ρ2 e2 s2 E2 r2 h2 => ?_
  obtain ⟨d, ed, q⟩ := Cont.oK h2
  exact ⟨dx, dy, ρ2, S2, d, s2, RepV.mono e2 r1, r2, ed, q⟩
theorem g_ix (hr : IxR X (rP W dIdx)) (ha : PE X a (tD W Wx f)) (hb : PE X b (tD W Wx g)) (hs : PlainIx b) :
    PE X (.Subscript a b pos) (tD W Wx fun δ S => (f δ S).bind fun x S1 => (g δ S1).bind fun y S2 => lift S2 (dIdx x y S2)) := by
  refine PE.of (pe_ix hr ha hb hs) fun σ H Q ⟨δ, S, ρ, s, E, h⟩ => ?_
  refine rdg.next s E h fun x H1 dx S1 ρ1 e1 s1 E1 r1 h1 => rdg.next s1 E1 h1 fun y H2 dy S2 ρ2 e2 s2 E2 r2 h2 => ?_
  obtain ⟨d, ed, q⟩ := Cont.oK h2
  exact ⟨dx, dy, ρ2, S2, d, s2, RepV.mono e2 r1, r2, ed, q⟩
theorem g_cmp {op : CmpOp} {o : Op2} (ho : OpR X (compareOp op) (rP W o)) (ha : PE X a (tD W Wx f)) (hb : PE X b (tD W Wx g)) (hm : behindInMarks op b = false) :
    PE X (.Compare a [op] [b] pos) (tD W Wx fun δ S => (f δ S).bind fun x S1 => (g δ S1).bind fun y S2 => lift S2 (o x y S2)) := by
  refine PE.of (pe_cmpR ho ha hb hm) fun σ H Q ⟨δ, S, ρ, s, E, h⟩ => ?_
  refine rdg.next s E h fun x H1 dx S1 ρ1 e1 s1 E1 r1 h1 => rdg.next s1 E1 h1 fun y H2 dy S2 ρ2 e2 s2 E2 r2 h2 => ?_
  obtain ⟨d, ed, q⟩ := Cont.oK h2
  exact ⟨dx, dy, ρ2, S2, d, s2, RepV.mono e2 r1, r2, ed, q⟩
theorem asB_rep {ρ : Rn} {N : Nat} {H : Hp} {K : PySem.W.Frag} {d : D} {v : V} {b : Bool} (h : d.asB = some b) (r : RepV K ρ N H d v) : v = .bl b := by
  cases r <;> first | (cases h; done) | skip
  cases h; rfl
theorem g_cmpT {op : CmpOp} {o : Op2} (ho : OpR X (compareOp op) (rP W o)) (ha : PE X a (tD W Wx f)) (hb : PE X b (tD W Wx g)) (hm : behindInMarks op b = false) :
    PT X (.Compare a [op] [b] pos) (tT W Wx fun δ S => (f δ S).bind fun x S1 => (g δ S1).bind fun y S2 => (lift S2 (o x y S2)).bind fun z S3 => liftB S3 z.asB) := by
  refine PT.of (pt_cmpR ho ha hb hm) fun σ H Q ⟨δ, S, ρ, s, E, h⟩ => ?_
  refine rdg.next s E h fun x H1 dx S1 ρ1 e1 s1 E1 r1 h1 => rdg.next s1 E1 h1 fun y H2 dy S2 ρ2 e2 s2 E2 r2 h2 => ?_
  obtain ⟨d, ed, h3⟩ := Cont.oD h2
  obtain ⟨t, et, h4⟩ := Cont.oT h3
  exact ⟨dx, dy, ρ2, S2, d, s2, RepV.mono e2 r1, r2, ed, fun H' z e' s' r' => ⟨t, asB_rep et r', h4 H' e' s'⟩⟩
theorem chain_to {o o' : Op2} {σ : L2.St} {H : Hp} {Q : VK} (h : tD W Wx (fun δ S => (f δ S).bind fun x S1 => (g δ S1).bind fun y S2 => (lift S2 (o x y S2)).bind fun t S3 => (liftB S3 t.asB).bind fun t S3 => if t then (k δ S3).bind fun z S4 => lift S4 (o' y z S4) else .ok (.bl false) S3) σ H Q) :
    tChain (rP W o) (rP W o') (tD W Wx f) (tD W Wx g) (tD W Wx k) σ H Q := by
  obtain ⟨δ, S, ρ, s, E, h⟩ := h
  refine rdg.next s E h fun x H1 dx S1 ρ1 e1 s1 E1 r1 h1 => rdg.next s1 E1 h1 fun y H2 dy S2 ρ2 e2 s2 E2 r2 h2 => ?_
  obtain ⟨d, ed, h3⟩ := Cont.oD h2
  obtain ⟨t, et, h4⟩ := Cont.oB h3
  refine ⟨dx, dy, ρ2, S2, d, s2, RepV.mono e2 r1, r2, ed, fun H' z e' s' r' => ⟨t, asB_rep et r', ?_⟩⟩
  have h5 := Cont.from h4 e'
  cases t with
  | true =>
    refine rdg.next s' (E2.mono e') h5 fun w H3 dw S3 ρ3 e3 s3 E3 r3 h6 => ?_
    obtain ⟨d2, ed2, q⟩ := Cont.oK h6
    exact ⟨dy, dw, ρ3, S3, d2, s3, RepV.mono (e'.trans e3) r2, r3, ed2, q⟩
  | false => exact Cont.here h5 s' (.bl false)
theorem g_chn {op op' : CmpOp} {o o' : Op2} (ho : OpR X (compareOp op) (rP W o)) (ho' : OpR X (compareOp op') (rP W o')) (ha : PE X a (tD W Wx f)) (hb : PE X b (tD W Wx g)) (hc : PE X c (tD W Wx k)) (hm : lastMarks [op, op'] [b, c] = false) :
    PE X (.Compare a [op, op'] [b, c] pos) (tD W Wx (fun δ S => (f δ S).bind fun x S1 => (g δ S1).bind fun y S2 => (lift S2 (o x y S2)).bind fun t S3 => (liftB S3 t.asB).bind fun t S3 => if t then (k δ S3).bind fun z S4 => lift S4 (o' y z S4) else .ok (.bl false) S3)) :=
  PE.of (pe_chain ho ho' ha hb hc hm) fun σ H Q h => chain_to h
theorem Cont.asBQ {W : Wd} {Wx : WX} {σ : L2.St} {ρ : Rn} {N : Nat} {H : Hp} {r : Out D} {Q : Bool → Hp → Prop} (h : Cont W Wx σ relI (r.bind fun z S => liftB S z.asB) ρ N H Q) : Cont W Wx σ (relD W) r ρ N H (fun x H' => ∃ k, x = .bl k ∧ Q k H') :=
  (Run.bind h).imp fun d S1 ρ1 H1 ⟨e1, s1, h1⟩ v hv => by
    obtain ⟨t, et, h4⟩ := Cont.oT (show Cont W Wx σ relI (liftB S1 d.asB) ρ1 S1.length H1 Q from h1)
    exact ⟨t, asB_rep et hv, h4 H1 .refl s1⟩
theorem Out.bind_assoc {α β γ : Type} (r : Out α) (f : α → Store → Out β) (g : β → Store → Out γ) : (r.bind f).bind g = r.bind fun a S => (f a S).bind g := by cases r <;> rfl
theorem g_chnT {op op' : CmpOp} {o o' : Op2} (ho : OpR X (compareOp op) (rP W o)) (ho' : OpR X (compareOp op') (rP W o')) (ha : PE X a (tD W Wx f)) (hb : PE X b (tD W Wx g)) (hc : PE X c (tD W Wx k)) (hm : lastMarks [op, op'] [b, c] = false) :
    PT X (.Compare a [op, op'] [b, c] pos) (tT W Wx (fun δ S => (f δ S).bind fun x S1 => (g δ S1).bind fun y S2 => (lift S2 (o x y S2)).bind fun t S3 => (liftB S3 t.asB).bind fun t S3 => if t then (k δ S3).bind fun z S4 => (lift S4 (o' y z S4)).bind fun z S5 => liftB S5 z.asB else .ok false S3)) := by
  refine PT.of (pt_chain ho ho' ha hb hc hm) fun σ H Q ⟨δ, S, ρ, s, E, h⟩ => chain_to ⟨δ, S, ρ, s, E, Cont.asBQ ?_⟩
  have e : ∀ δ S, (((f δ S).bind fun x S1 => (g δ S1).bind fun y S2 => (lift S2 (o x y S2)).bind fun t S3 => (liftB S3 t.asB).bind fun t S3 => if t then (k δ S3).bind fun z S4 => lift S4 (o' y z S4) else .ok (.bl false) S3).bind fun z S => liftB S z.asB) =
      (f δ S).bind fun x S1 => (g δ S1).bind fun y S2 => (lift S2 (o x y S2)).bind fun t S3 => (liftB S3 t.asB).bind fun t S3 => if t then (k δ S3).bind fun z S4 => (lift S4 (o' y z S4)).bind fun z S5 => liftB S5 z.asB else .ok false S3 := by
    intro δ S
    simp only [Out.bind_assoc]
    congr 1; funext x S1; congr 1; funext y S2; congr 1; funext t S3; congr 1; funext t S4
    cases t <;> simp [Out.bind_assoc]
  rw [e]; exact h
theorem g_neg (ha : PE X a (tD W Wx f)) : PE X (.UnaryOp .USub a pos) (tD W Wx fun δ S => (f δ S).bind fun x S1 => lift S1 (negF x)) := by
  refine PE.of (pe_un un_neg ha) fun σ H Q ⟨δ, S, ρ, s, E, h⟩ => ?_
  refine rdg.next s E h fun x H1 dx S1 ρ1 e1 s1 E1 r1 h1 => ?_
  obtain ⟨d, ed, q⟩ := Cont.oK h1
  unfold negF at ed
  split at ed
  · cases ed; cases r1
    exact ⟨_, rfl, q.here s1 (.int _)⟩
  · cases ed
theorem g_notT {p : DEnv → Store → Out Bool} (ha : PT X a (tT W Wx p)) : PT X (.UnaryOp .Not a pos) (tT W Wx fun δ S => (p δ S).bind fun b S1 => .ok (!b) S1) := by
  refine PT.of (pt_not ha) fun σ H Q ⟨δ, S, ρ, s, E, h⟩ => ?_
  refine rdg.next s E h fun x H1 dx S1 ρ1 e1 s1 E1 r1 h1 => ?_
  subst r1
  exact Cont.here h1 s1 rfl
theorem g_andT {p q : DEnv → Store → Out Bool} {rest : List Expr} (ha : PT X a (tT W Wx p)) (hb : PW X (.BoolOp .And (b :: rest) pos) (tT W Wx q)) : PW X (.BoolOp .And (a :: b :: rest) pos) (tT W Wx fun δ S => (p δ S).bind fun t S1 => if t then q δ S1 else .ok false S1) := by
  refine PW.of (pw_and ha hb) fun σ H Q ⟨δ, S, ρ, s, E, h⟩ => ?_
  refine rdg.next s E h fun x H1 dx S1 ρ1 e1 s1 E1 r1 h1 => ?_
  subst r1
  cases dx with
  | true => exact ⟨δ, S1, ρ1, s1, E1, h1⟩
  | false => exact Cont.here h1 s1 rfl
theorem g_orT {p q : DEnv → Store → Out Bool} {rest : List Expr} (ha : PT X a (tT W Wx p)) (hb : PW X (.BoolOp .Or (b :: rest) pos) (tT W Wx q)) : PW X (.BoolOp .Or (a :: b :: rest) pos) (tT W Wx fun δ S => (p δ S).bind fun t S1 => if t then .ok true S1 else q δ S1) := by
  refine PW.of (pw_or ha hb) fun σ H Q ⟨δ, S, ρ, s, E, h⟩ => ?_
  refine rdg.next s E h fun x H1 dx S1 ρ1 e1 s1 E1 r1 h1 => ?_
  subst r1
  cases dx with
  | true => exact Cont.here h1 s1 rfl
  | false => exact ⟨δ, S1, ρ1, s1, E1, h1⟩
theorem g_and {rest : List Expr} (ha : PE X a (tD W Wx f)) (hb : PE X (.BoolOp .And (b :: rest) pos) (tD W Wx g)) : PE X (.BoolOp .And (a :: b :: rest) pos) (tD W Wx fun δ S => (f δ S).bind fun x S1 => (liftB S1 x.asB).bind fun t S2 => if t then g δ S2 else .ok (.bl false) S2) := by
  refine PE.of (pe_and ha hb) fun σ H Q ⟨δ, S, ρ, s, E, h⟩ => ?_
  refine rdg.next s E h fun x H1 dx S1 ρ1 e1 s1 E1 r1 h1 => ?_
  obtain ⟨t, et, h2⟩ := Cont.oB h1
  refine ⟨t, asB_rep et r1, ?_⟩
  cases t with
  | true => exact ⟨δ, S1, ρ1, s1, E1, h2⟩
  | false => exact Cont.here h2 s1 (.bl false)
theorem g_or {rest : List Expr} (ha : PE X a (tD W Wx f)) (hb : PE X (.BoolOp .Or (b :: rest) pos) (tD W Wx g)) : PE X (.BoolOp .Or (a :: b :: rest) pos) (tD W Wx fun δ S => (f δ S).bind fun x S1 => (liftB S1 x.asB).bind fun t S2 => if t then .ok (.bl true) S2 else g δ S2) := by
  refine PE.of (pe_or ha hb) fun σ H Q ⟨δ, S, ρ, s, E, h⟩ => ?_
  refine rdg.next s E h fun x H1 dx S1 ρ1 e1 s1 E1 r1 h1 => ?_
  obtain ⟨t, et, h2⟩ := Cont.oB h1
  refine ⟨t, asB_rep et r1, ?_⟩
  cases t with
  | true => exact Cont.here h2 s1 (.bl true)
  | false => exact ⟨δ, S1, ρ1, s1, E1, h2⟩
theorem g_ite {p : DEnv → Store → Out Bool} (hc : PT X c (tT W Wx p)) (ha : PE X a (tD W Wx f)) (hb : PE X b (tD W Wx g)) : PE X (.IfExp c a b pos) (tD W Wx fun δ S => (p δ S).bind fun t S1 => if t then f δ S1 else g δ S1) := by
  refine PE.of (pe_ifExp hc ha hb) fun σ H Q ⟨δ, S, ρ, s, E, h⟩ => ?_
  refine rdg.next s E h fun x H1 dx S1 ρ1 e1 s1 E1 r1 h1 => ?_
  subst r1
  cases dx with
  | true => exact ⟨δ, S1, ρ1, s1, E1, h1⟩
  | false => exact ⟨δ, S1, ρ1, s1, E1, h1⟩
theorem tru_rep {ρ : Rn} {S : Store} {H : Hp} {d : D} {v : V} {t : Bool} (s : RepS W ρ S H) (r : RepV W.K ρ S.length H d v) (h : d.tru S = some t) : TruV W.K v H t := by
  cases r with
  | non => cases h; rfl
  | bl b => cases h; rfl
  | int i =>
    cases h
    show decide (i ≠ 0) = (i != 0)
    by_cases z : i = 0 <;> simp [z]
  | str x hx =>
    cases h
    refine ⟨hx.1, ?_⟩
    cases x with
    | nil => rfl
    | cons c x =>
      show true = ((((c :: x).toArray.size : Nat) : Int) != 0)
      simp only [List.size_toArray, List.length_cons]
      symm
      simp only [bne_iff_ne, ne_eq]
      omega
  | tup h1 h2 =>
    cases h
    refine .inr (.inl ⟨_, h1, ?_⟩)
    cases h2 <;> rfl
  | lst h1 h2 h3 =>
    cases h
    refine .inl ⟨_, SqL.of h1, ?_⟩
    cases h3 <;> rfl
  | rol h1 h2 =>
    cases h
    refine .inl ⟨_, rol_sql h1, ?_⟩
    cases h2 <;> rfl
  | @obj n hn =>
    simp only [D.tru, D.seq, Option.map_eq_some_iff] at h
    obtain ⟨ds, hd, rfl⟩ := h
    split at hd
    · rename_i ds' hs
      cases hd
      obtain ⟨_, vs, h1, h2⟩ := s.list hs
      refine .inl ⟨vs, SqL.of h1, ?_⟩
      cases h2 <;> rfl
    · cases hd
theorem g_tru (hK : X.K = W.K) (ha : PE X a (tD W Wx f)) (he : ∀ whole, isTrue a X.env whole = (do let v ← whole; standAt a.pos; holding [v] (truthy v))) :
    PT X a (tT W Wx fun δ S => (f δ S).bind fun z S1 => liftB S1 (z.tru S1)) := by
  refine PT.of (pt_truth ha he) fun σ H Q ⟨δ, S, ρ, s, E, h⟩ => ?_
  refine rdg.next s E h fun x H1 dx S1 ρ1 e1 s1 E1 r1 h1 => ?_
  obtain ⟨t, et, h4⟩ := Cont.oT h1
  exact ⟨t, hK ▸ tru_rep s1 r1 et, h4 H1 .refl s1⟩

variable {es : List Expr} {l m : DEnv → Store → Out (List D)}
theorem g_nil : PA X [] (tA W Wx fun _ S => .ok [] S) := PA.of pa_nil fun σ H Q ⟨δ, S, ρ, s, E, h⟩ => Cont.here h s .nil
theorem g_cons (ha : PE X a (tD W Wx f)) (hr : PA X es (tA W Wx l)) (hs : starEach (a :: es) X.env = (false, eval a X.env) :: starEach es X.env) : PA X (a :: es) (tA W Wx fun δ S => (f δ S).bind fun x S1 => (l δ S1).bind fun xs S2 => .ok (x :: xs) S2) := by
  refine PA.of (pa_cons ha hr hs) fun σ H Q ⟨δ, S, ρ, s, E, h⟩ => ?_
  refine rdg.next s E h fun x H1 dx S1 ρ1 e1 s1 E1 r1 h1 => rdg.next s1 E1 h1 fun y H2 dy S2 ρ2 e2 s2 E2 r2 h2 => ?_
  exact Cont.here h2 s2 (.cons (RepV.mono e2 r1) r2)
theorem g_tup {x1} (h : PA X es (tA W Wx l)) : PE X (.Tuple es x1 pos) (tD W Wx fun δ S => (l δ S).bind fun ds S1 => if ds.length ≤ sizeLine then .ok (.tup ds) S1 else .bad) := by
  refine PE.of (pe_tup h) fun σ H Q ⟨δ, S, ρ, s, E, h⟩ => ?_
  refine rdg.next s E h fun x H1 dx S1 ρ1 e1 s1 E1 r1 h1 => ?_
  by_cases z : dx.length ≤ sizeLine
  · rw [if_pos z] at h1
    refine ⟨by rw [← RepVs.length r1]; exact z, fun p hp => ?_⟩
    exact OkTo.tup (fun H' z e s r => h1 _ H' e s z r) s1 r1 hp
  · rw [if_neg z] at h1; exact h1.elim
/-- a new list at p -/
theorem mkList_at {W : Wd} {Wx : WX} {σ : L2.St} {ρ : Rn} {S : Store} {H : Hp} {isO : Bool} {ds : List D} {vs : List V} {Q : VK} (h : Cont W Wx σ (relD W) (mkList isO ds S) ρ S.length H Q) (s : RepS W ρ S H) (r : RepVs W.K ρ S.length H ds vs) :
    vs.length ≤ sizeLine ∧ ∀ p, H p = none → Q (.ref p) (upd H p (.lst vs)) := by
  unfold mkList at h
  by_cases z : ds.length ≤ sizeLine
  · rw [if_pos z] at h
    refine ⟨by rw [← RepVs.length r]; exact z, fun p hp => ?_⟩
    cases isO with
    | false => exact OkTo.lst (fun H' z e s r => h _ H' e s z r) s r hp
    | true =>
      simp only [if_true] at h
      by_cases zp : ds.all D.pure = true
      · rw [if_pos zp] at h
        have hl : (S ++ [C.lst ds]).length = S.length + 1 := by simp
        have hc : RepC W.K (aux ρ S.length p) (S.length + 1) (upd H p (.lst vs)) p (.lst ds) := ⟨zp, vs, upd_same, r.mono (Ext.cell hp)⟩
        refine Cont.ok (ρ' := aux ρ S.length p) h (by rw [hl]; exact Ext.cell hp) (s.cell hp hc) ?_
        show RepV _ _ _ _ (.obj S.length) (.ref p)
        have := RepV.obj (K := W.K) (ρ := aux ρ S.length p) (H := upd H p (.lst vs)) (N := S.length + 1) (n := S.length) (Nat.lt_succ_self _)
        rw [aux_self] at this
        rw [hl]; exact this
      · rw [if_neg zp] at h; exact h.elim
  · rw [if_neg z] at h; exact h.elim
theorem g_lst {isO : Bool} (h : PA X es (tA W Wx l)) : PE X (.List es pos) (tD W Wx fun δ S => (l δ S).bind fun ds S1 => mkList isO ds S1) := by
  refine PE.of (pe_lst h) fun σ H Q ⟨δ, S, ρ, s, E, h⟩ => ?_
  refine rdg.next s E h fun x H1 dx S1 ρ1 e1 s1 E1 r1 h1 => mkList_at h1 s1 r1
theorem g_lrev {isO : Bool} {p p2 pos2 : Pos} (hK : X.K = W.K) (hc : X.calm = true) (hg : Gl X "list") (hm : X.mg "list" = none) (hg2 : Gl X "reversed") (hm2 : X.mg "reversed" = none) (he : PE X e (tD W Wx f))
    (hs : starEach [e] X.env = (false, eval e X.env) :: starEach [] X.env) :
    PE X (.Call (.Name "list" p) [.Call (.Name "reversed" p2) [e] [] pos2] [] pos) (tD W Wx fun δ S => (f δ S).bind fun x S1 => (liftO S1 (x.lseq S1)).bind fun ds S2 => mkList isO ds.reverse S2) := by
  refine PE.of (pe_lstRev hc hg hm hg2 hm2 he hs) fun σ H Q ⟨δ, S, ρ, s, E, h⟩ => ?_
  refine rdg.next s E h fun x H1 dx S1 ρ1 e1 s1 E1 r1 h1 => ?_
  obtain ⟨ds, ed, h2⟩ := Cont.oO h1
  obtain ⟨a, vs, rfl, hq, hr⟩ := lseq_rep s1 r1 ed
  refine ⟨a, vs, rfl, hK ▸ hq, ?_⟩
  have rr : ∀ {ds : List D} {vs : List V}, RepVs W.K ρ1 S1.length H1 ds vs → RepVs W.K ρ1 S1.length H1 ds.reverse vs.reverse := by
    intro ds vs r
    induction ds generalizing vs with
    | nil => cases r; exact .nil
    | cons d ds ih =>
      cases r with
      | cons r t =>
        rw [List.reverse_cons, List.reverse_cons]
        exact (ih t).append (.cons r .nil)
  exact fun q hq => (mkList_at h2 s1 (rr hr)).2 q hq
theorem g_slice {lo hi : Option Expr} {p2 : Pos} {l h : DEnv → Store → Out (Option Int)} (hK : X.K = W.K) (he : PE X e (tD W Wx f)) (hl : PO X lo (tO W Wx l)) (hh : PO X hi (tO W Wx h)) :
    PE X (.Subscript e (.Slice lo hi none p2) pos) (tD W Wx fun δ S => (f δ S).bind fun x S1 => (l δ S1).bind fun lv S2 => (h δ S2).bind fun hv S3 => lift S3 (dCut x lv hv S3)) := by
  refine PE.of (pe_slice (sl_p hK) he hl hh) fun σ H Q ⟨δ, S, ρ, s, E, h⟩ => ?_
  refine rdg.next s E h fun x H1 dx S1 ρ1 e1 s1 E1 r1 h1 => rdg.next s1 E1 h1 fun y H2 dy S2 ρ2 e2 s2 E2 r2 h2 => rdg.next s2 E2 h2 fun z H3 dz S3 ρ3 e3 s3 E3 r3 h3 => ?_
  subst r2 r3
  obtain ⟨d, ed, q⟩ := Cont.oK h3
  exact ⟨dx, ρ3, S3, d, s3, RepV.mono (e2.trans e3) r1, ed, q⟩
theorem g_partN : PO X none (tO W Wx fun _ S => .ok none S) := PO.of po_none fun σ H Q ⟨δ, S, ρ, s, E, h⟩ => Cont.here h s rfl
theorem asI_rep {ρ : Rn} {N : Nat} {H : Hp} {K : PySem.W.Frag} {d : D} {v : V} {b : Int} (h : d.asI = some b) (r : RepV K ρ N H d v) : v = .int b := by
  cases r <;> first | (cases h; done) | skip
  cases h; rfl
theorem g_part (he : PE X e (tD W Wx f)) : PO X (some e) (tO W Wx fun δ S => (f δ S).bind fun x S1 => (liftO S1 x.asI).bind fun i S2 => .ok (some i) S2) := by
  refine PO.of (po_some he) fun σ H Q ⟨δ, S, ρ, s, E, h⟩ => ?_
  refine rdg.next s E h fun x H1 dx S1 ρ1 e1 s1 E1 r1 h1 => ?_
  obtain ⟨i, ei, h2⟩ := Cont.oO h1
  exact ⟨i, asI_rep ei r1, Cont.here h2 s1 rfl⟩
theorem g_var {i : Nat} {x : Str} (hN : X.N[i]? = some x) (hv : Vis X.env.scope x) (hd : (x == ("__debug__" : Str)) = false) (hcd : (x == ("__classdict__" : Str)) = false) : PE X (.Name x pos) (tD W Wx fun δ S => lift S (getD δ i)) := by
  refine PE.of (pe_var hN hv hd hcd) fun σ H Q ⟨δ, S, ρ, s, E, h⟩ => ?_
  obtain ⟨d, ed, q⟩ := Cont.oK h
  unfold getD at ed
  split at ed
  · rename_i d' hd'
    cases ed
    obtain ⟨v, ev, r⟩ := E.at_ i d hd'
    exact ⟨v, ev, q.here s r⟩
  · cases ed
theorem g_const {d : D} {v : V} (hp : PE X e (tC v)) (hr : ∀ ρ N H, RepV W.K ρ N H d v) : PE X e (tD W Wx fun _ S => .ok d S) :=
  PE.of hp fun σ H Q ⟨δ, S, ρ, s, E, h⟩ => Cont.here h s (hr _ _ _)
theorem g_bad {t : DEnv → Store → Out D} (h : ∀ δ S, t δ S = .bad) : PE X e (tD W Wx t) := ⟨fun pins s σ H Q I ⟨δ, S, ρ, _, _, q⟩ => by rw [h] at q; exact q.elim⟩
theorem g_badT {t : DEnv → Store → Out Bool} (h : ∀ δ S, t δ S = .bad) : PT X e (tT W Wx t) := ⟨fun pins s σ H Q I ⟨δ, S, ρ, _, _, q⟩ => by rw [h] at q; exact q.elim⟩
theorem g_badW {t : DEnv → Store → Out Bool} (h : ∀ δ S, t δ S = .bad) : PW X e (tT W Wx t) := ⟨fun _ pins s σ H Q I ⟨δ, S, ρ, _, _, q⟩ => by rw [h] at q; exact q.elim⟩
/-- what a def promises: F by data -/
def spD (W : Wd) (F : List D → Store → Out D) (n : Nat) : Sp := fun vs H Q E => ∃ ds S ρ, ds.length = n ∧ RepS W ρ S H ∧ RepVs W.K ρ S.length H ds vs ∧ Cont W (fun cls d _ H' => E cls d H') [] (relD W) (F ds S) ρ S.length H Q
theorem cont_sp {r : Out D} {σ : L2.St} {ρ : Rn} {N : Nat} {H : Hp} {Q : VK} (h : Cont W Wx σ (relD W) r ρ N H Q) : Cont W (fun cls d _ H' => WE Wx σ cls d H') [] (relD W) r ρ N H Q := by
  cases r with
  | ok a S => exact h
  | exc x S => exact h
  | bad => exact h
theorem g_call {kk : Nat} {fa : Addr} {fd : FuncData} {ps : List Str} {F : List D → Store → Out D} {n : Nat} {x : Str} {p : Pos} (hF : FnOk X.prog X.w X.K X.mg X.base (L2.CX X.prog X.w) kk fa fd ps (spD W F n)) (hr : Room kk X.A) (hg : Gl X x) (hm : X.mg x = some (.ref fa)) (hk : PySem.W.keepIn X.K (.ref fa) = true)
    (hb : Binds X.K fd ps []) (hx : Takes X Wx) (ha : PA X (e :: es) (tA W Wx l)) (hl : ∀ δ S ds S', l δ S = .ok ds S' → ds.length = n) (hdb : (x == ("__debug__" : Str)) = false) (he : starEach (e :: es) X.env = (false, eval e X.env) :: starEach es X.env) (hpl : (backTo pos (starEach es X.env)).any (·.1) = false) :
    PE X (.Call (.Name x p) (e :: es) [] pos) (tD W Wx fun δ S => (l δ S).bind fun ds S1 => F ds S1) := by
  refine PE.of (pe_callSD (dvs := []) hF hr hg hm hk hb .nil (fun σ => passAt hx σ) ha hdb he hpl) fun σ H Q ⟨δ, S, ρ, s, E, h⟩ => ?_
  refine ⟨δ, S, ρ, s, E, ?_⟩
  replace h : Cont W Wx σ (relD W) ((l δ S).bind fun ds S1 => F ds S1) ρ S.length H Q := h
  cases el : l δ S with
  | bad => rw [el] at h; exact h.elim
  | exc x S1 => rw [el] at h; exact h
  | ok ds S1 =>
    rw [el] at h
    intro ρ1 H1 e1 s1 vs hv
    rw [List.append_nil]
    exact ⟨ds, S1, ρ1, hl _ _ _ _ el, s1, hv, cont_sp (Cont.from (show Cont W Wx σ (relD W) (F ds S1) ρ S.length H Q from h) e1)⟩
theorem fn_to {o : OpN} {σ : L2.St} {H : Hp} {Q : VK} (h : tD W Wx (fun δ S => (l δ S).bind fun ds S1 => lift S1 (o ds S1)) σ H Q) : tCB (rF W o) (tA W Wx l) σ H Q := by
  obtain ⟨δ, S, ρ, s, E, h⟩ := h
  refine rdg.next s E h fun x H1 dx S1 ρ1 e1 s1 E1 r1 h1 => ?_
  obtain ⟨d, ed, q⟩ := Cont.oK h1
  exact ⟨dx, ρ1, S1, d, s1, r1, ed, q⟩
end
end PD

set_option Elab.async false
set_option linter.all false
set_option maxRecDepth 100000
namespace PD
open PySem PySem.Spec PyProof.Rows L2

def Rn.hide (ρ : Rn) (p : Addr) : Rn := ⟨ρ.at_, p :: ρ.hid⟩
def Rn.unh (ρ : Rn) (l : List Addr) : Rn := ⟨ρ.at_, l⟩
section
variable {K : PySem.W.Frag} {ρ ρ' : Rn} {N N' : Nat} {H H' H1 : Hp} {p : Addr} {xs ys : List V} {W : Wd} {S : Store} {δ : DEnv} {σ : L2.St}
theorem SqT.mask {a : Addr} {vs : List V} (h : H p = some (.lst xs)) (r : SqT K H a vs) : SqT K (upd H p (.lst ys)) a vs := by
  rcases r with (e | ⟨o, e⟩) | e
  · exact .inl (.inl (by rw [upd_ne (ne_of e h (by intro z; cases z))]; exact e))
  · exact .inl (.inr ⟨o, by rw [upd_ne (ne_of e h (by intro z; cases z))]; exact e⟩)
  · exact .inr e
mutual
theorem RepV.mask (hp : p ∈ ρ.hid) (h : H p = some (.lst xs)) : ∀ {d : D} {v : V}, RepV K ρ N H d v → RepV K ρ N (upd H p (.lst ys)) d v
  | _, _, .non => .non
  | _, _, .bl b => .bl b
  | _, _, .int i => .int i
  | _, _, .str s h => .str s h
  | _, _, .tup e r => .tup (SqT.mask h e) (RepVs.mask hp h r)
  | _, _, .lst e n r => .lst (by rw [upd_ne (fun z => n.2 (by rw [z]; exact hp))]; exact e) n (RepVs.mask hp h r)
  | _, _, .rol e r => .rol (by
      rcases e with ⟨o, e⟩ | e
      · exact .inl ⟨o, by rw [upd_ne (ne_of e h (by intro z; cases z))]; exact e⟩
      · exact .inr e) (RepVs.mask hp h r)
  | _, _, .obj e => .obj e
theorem RepVs.mask (hp : p ∈ ρ.hid) (h : H p = some (.lst xs)) : ∀ {ds : List D} {vs : List V}, RepVs K ρ N H ds vs → RepVs K ρ N (upd H p (.lst ys)) ds vs
  | _, _, .nil => .nil
  | _, _, .cons r t => .cons (RepV.mask hp h r) (RepVs.mask hp h t)
end
theorem RepS.mask (s : RepS W ρ S H) (hp : p ∈ ρ.hid) (h : H p = some (.lst xs)) : RepS W ρ S (upd H p (.lst ys)) where
  at_ := fun i c e => by
    have hi : i < S.length := (List.getElem?_eq_some_iff.mp e).1
    have n := (s.hid p hp).2 i hi
    have r := s.at_ i c e
    cases c with
    | lst ds => obtain ⟨q, vs, e1, r1⟩ := r; exact ⟨q, vs, by rw [upd_ne n]; exact e1, RepVs.mask hp h r1⟩
    | dic _ _ => exact r
    | st _ => exact r
  inj := s.inj
  tabs := fun q hq => let ⟨ps, e, t⟩ := s.tabs q hq; ⟨ps, by rw [upd_ne (ne_of e h (by intro z; cases z))]; exact e, t⟩
  hid := fun a ha => by
    obtain ⟨⟨zs, e⟩, n⟩ := s.hid a ha
    refine ⟨?_, n⟩
    by_cases z : a = p
    · exact ⟨ys, by rw [z, upd_same]⟩
    · exact ⟨zs, by rw [upd_ne z]; exact e⟩
theorem Ext.mask (e : Ext ρ N H ρ' N' H') (h : H p = some (.lst xs)) (h' : H' p = some (.lst ys)) {zs : List V} : Ext ρ N (upd H p (.lst zs)) ρ' N' (upd H' p (.lst zs)) where
  le := e.le
  agree := e.agree
  tups := fun a vs q => by
    by_cases z : a = p
    · rw [z, upd_same] at q; cases q
    · rw [upd_ne z] at q ⊢; exact e.tups a vs q
  frzs := fun a o u q => by
    by_cases z : a = p
    · rw [z, upd_same] at q; cases q
    · rw [upd_ne z] at q ⊢; exact e.frzs a o u q
  keep := fun a o q n t => by
    by_cases z : a = p
    · rw [z, upd_same] at q ⊢; exact q
    · rw [upd_ne z] at q ⊢; exact e.keep a o q n t
  there := fun a q => by
    by_cases z : a = p
    · rw [z, upd_same]; simp
    · rw [upd_ne z] at q ⊢; exact e.there a q
  fresh := fun i h1 h2 => by
    have f := e.fresh i h1 h2
    rw [upd_ne (fun z => by rw [z, h] at f; cases f)]; exact f
  hid := e.hid
mutual
theorem RepV.hide (h : H p = none) : ∀ {d : D} {v : V}, RepV K ρ N H d v → RepV K (ρ.hide p) N (upd H p (.lst ys)) d v
  | _, _, .non => .non
  | _, _, .bl b => .bl b
  | _, _, .int i => .int i
  | _, _, .str s h => .str s h
  | _, _, .tup e r => .tup (SqT.ext (Ext.new (ρ := ρ) (N := N) h) e) (RepVs.hide h r)
  | _, _, .lst e n r => .lst (by rw [upd_ne (ne_of_none e h)]; exact e) ⟨n.1, fun z => by
      rcases List.mem_cons.mp z with z | z
      · exact ne_of_none e h z
      · exact n.2 z⟩ (RepVs.hide h r)
  | _, _, .rol e r => .rol (by
      rcases e with ⟨o, e⟩ | e
      · exact .inl ⟨o, by rw [upd_ne (ne_of_none e h)]; exact e⟩
      · exact .inr e) (RepVs.hide h r)
  | _, _, .obj (n := n) e => (RepV.obj (ρ := ρ.hide p) e : RepV K (ρ.hide p) N (upd H p (.lst ys)) (.obj n) (.ref ((ρ.hide p) n)))
theorem RepVs.hide (h : H p = none) : ∀ {ds : List D} {vs : List V}, RepVs K ρ N H ds vs → RepVs K (ρ.hide p) N (upd H p (.lst ys)) ds vs
  | _, _, .nil => .nil
  | _, _, .cons r t => .cons (RepV.hide h r) (RepVs.hide h t)
end
theorem RepS.hide (s : RepS W ρ S H) (h : H p = none) : RepS W (ρ.hide p) S (upd H p (.lst ys)) where
  at_ := fun i c e => by
    have hi : i < S.length := (List.getElem?_eq_some_iff.mp e).1
    have r := s.at_ i c e
    cases c with
    | lst ds => obtain ⟨q, vs, e1, r1⟩ := r; exact ⟨q, vs, (upd_ne (ne_of_none e1 h)).trans e1, RepVs.hide h r1⟩
    | dic _ _ => exact r
    | st _ => exact r
  inj := s.inj
  tabs := fun q hq => let ⟨ps, e, t⟩ := s.tabs q hq; ⟨ps, by rw [upd_ne (ne_of_none e h)]; exact e, t⟩
  hid := fun a ha => by
    rcases List.mem_cons.mp ha with z | z
    · subst z; exact ⟨⟨ys, upd_same⟩, fun i hi => s.ne h i hi⟩
    · obtain ⟨⟨zs, e⟩, n⟩ := s.hid a z
      exact ⟨⟨zs, by rw [upd_ne (ne_of_none e h)]; exact e⟩, n⟩
theorem RepE.hide (r : RepE K ρ N H δ σ) (h : H p = none) : RepE K (ρ.hide p) N (upd H p (.lst ys)) δ σ :=
  ⟨r.len, fun i d e => let ⟨v, h1, h2⟩ := r.at_ i d e; ⟨v, h1, h2.hide h⟩⟩
theorem RepE.mask (r : RepE K ρ N H δ σ) (hp : p ∈ ρ.hid) (h : H p = some (.lst xs)) : RepE K ρ N (upd H p (.lst ys)) δ σ :=
  ⟨r.len, fun i d e => let ⟨v, h1, h2⟩ := r.at_ i d e; ⟨v, h1, h2.mask hp h⟩⟩
theorem Ext.unh {ws zs : List V} (e : Ext (ρ.hide p) N (upd H1 p (.lst ws)) ρ' N' (upd H p (.lst ws))) (h1 : H1 p = none) (h : H p = some (.lst zs)) : Ext ρ N H1 (ρ'.unh ρ.hid) N' H where
  le := e.le
  agree := e.agree
  tups := fun a vs q => by
    have z := ne_of_none q h1
    have := e.tups a vs (by rw [upd_ne z]; exact q)
    rw [upd_ne z] at this; exact this
  frzs := fun a o u q => by
    have z := ne_of_none q h1
    have := e.frzs a o u (by rw [upd_ne z]; exact q)
    rw [upd_ne z] at this; exact this
  keep := fun a o q n t => by
    have z := ne_of_none q h1
    have := e.keep a o (by rw [upd_ne z]; exact q) n t
    rw [upd_ne z] at this; exact this
  there := fun a q => by
    by_cases z : a = p
    · rw [z, h]; simp
    · have := e.there a (by rw [upd_ne z]; exact q)
      rw [upd_ne z] at this; exact this
  fresh := fun i a b => by
    have f := e.fresh i a b
    by_cases z : ρ' i = p
    · rw [z, upd_same] at f; cases f
    · rw [upd_ne z] at f; exact f
  hid := rfl
mutual
theorem RepV.unh {l : List Addr} (hl : ∀ a ∈ l, a ∈ ρ.hid) : ∀ {d : D} {v : V}, RepV K ρ N H d v → RepV K (ρ.unh l) N H d v
  | _, _, .non => .non
  | _, _, .bl b => .bl b
  | _, _, .int i => .int i
  | _, _, .str s h => .str s h
  | _, _, .tup e r => .tup e (RepVs.unh hl r)
  | _, _, .lst e n r => .lst e ⟨n.1, fun z => n.2 (hl _ z)⟩ (RepVs.unh hl r)
  | _, _, .rol e r => .rol e (RepVs.unh hl r)
  | _, _, .obj (n := n) e => (RepV.obj (ρ := ρ.unh l) e : RepV K (ρ.unh l) N H (.obj n) (.ref ((ρ.unh l) n)))
theorem RepVs.unh {l : List Addr} (hl : ∀ a ∈ l, a ∈ ρ.hid) : ∀ {ds : List D} {vs : List V}, RepVs K ρ N H ds vs → RepVs K (ρ.unh l) N H ds vs
  | _, _, .nil => .nil
  | _, _, .cons r t => .cons (RepV.unh hl r) (RepVs.unh hl t)
end
theorem RepS.unh (s : RepS W ρ S H) {l : List Addr} (hl : ∀ a ∈ l, a ∈ ρ.hid) : RepS W (ρ.unh l) S H where
  at_ := fun i c e => by
    have r := s.at_ i c e
    cases c with
    | lst ds => obtain ⟨q, vs, e1, r1⟩ := r; exact ⟨q, vs, e1, RepVs.unh hl r1⟩
    | dic _ _ => exact r
    | st _ => exact r
  inj := s.inj
  tabs := s.tabs
  hid := fun a ha => s.hid a (hl a ha)
mutual
/-- a hidden list becomes a cell -/
theorem RepV.show_ {l : List Addr} (hl : ∀ a ∈ l, a ∈ ρ.hid) (hp : p ∈ ρ.hid) : ∀ {d : D} {v : V}, RepV K ρ N H d v → RepV K (aux (ρ.unh l) N p) (N + 1) H d v
  | _, _, .non => .non
  | _, _, .bl b => .bl b
  | _, _, .int i => .int i
  | _, _, .str s h => .str s h
  | _, _, .tup e r => .tup e (RepVs.show_ hl hp r)
  | _, _, .lst (a := a) e n r => .lst e ⟨fun i hi => by
      by_cases z : i = N
      · rw [z, aux_self]; exact fun q => n.2 (by rw [← q]; exact hp)
      · rw [aux_ne z]; exact n.1 i (by omega), fun z => n.2 (hl _ z)⟩ (RepVs.show_ hl hp r)
  | _, _, .rol e r => .rol e (RepVs.show_ hl hp r)
  | _, _, .obj (n := n) e => by
      have z : n ≠ N := Nat.ne_of_lt e
      have h := RepV.obj (K := K) (ρ := aux (ρ.unh l) N p) (N := N + 1) (H := H) (n := n) (by omega)
      rw [aux_ne z] at h
      exact h
theorem RepVs.show_ {l : List Addr} (hl : ∀ a ∈ l, a ∈ ρ.hid) (hp : p ∈ ρ.hid) : ∀ {ds : List D} {vs : List V}, RepVs K ρ N H ds vs → RepVs K (aux (ρ.unh l) N p) (N + 1) H ds vs
  | _, _, .nil => .nil
  | _, _, .cons r t => .cons (RepV.show_ hl hp r) (RepVs.show_ hl hp t)
end
theorem RepS.show_ (s : RepS W ρ S H) {l : List Addr} (hl : ∀ a ∈ l, a ∈ ρ.hid) (hp : p ∈ ρ.hid) (hpl : p ∉ l) {ds : List D} (hd : ds.all D.pure = true) (h : H p = some (.lst xs)) (r : RepVs W.K ρ S.length H ds xs) : RepS W (aux (ρ.unh l) S.length p) (S ++ [.lst ds]) H where
  at_ := fun i c e => by
    rw [List.length_append, List.length_singleton]
    by_cases hi : i < S.length
    · rw [List.getElem?_append_left hi] at e
      rw [aux_ne (Nat.ne_of_lt hi)]
      have r := s.at_ i c e
      cases c with
      | lst ds => obtain ⟨q, vs, e1, r1⟩ := r; exact ⟨q, vs, e1, RepVs.show_ hl hp r1⟩
      | dic _ _ => exact r
      | st _ => exact r
    · rw [List.getElem?_append_right (Nat.le_of_not_lt hi)] at e
      have hz : i = S.length := by
        by_cases z : i - S.length = 0
        · omega
        · obtain ⟨k, hk⟩ : ∃ k, i - S.length = k + 1 := ⟨i - S.length - 1, by omega⟩
          rw [hk] at e; simp at e
      subst hz
      simp at e
      subst e
      rw [aux_self]; exact ⟨hd, xs, h, RepVs.show_ hl hp r⟩
  inj := fun i j hi hj e => by
    rw [List.length_append, List.length_singleton] at hi hj
    have np := (s.hid p hp).2
    by_cases h1 : i = S.length
    · by_cases h2 : j = S.length
      · omega
      · rw [h1, aux_self, aux_ne h2] at e
        exact absurd e.symm (np j (by omega))
    · by_cases h2 : j = S.length
      · rw [h2, aux_self, aux_ne h1] at e
        exact absurd e (np i (by omega))
      · rw [aux_ne h1, aux_ne h2] at e
        exact s.inj i j (by omega) (by omega) e
  tabs := s.tabs
  hid := fun a ha => by
    obtain ⟨e, n⟩ := s.hid a (hl a ha)
    refine ⟨e, fun i hi => ?_⟩
    rw [List.length_append, List.length_singleton] at hi
    by_cases h1 : i = S.length
    · rw [h1, aux_self]; exact fun z => hpl (by rw [z]; exact ha)
    · rw [aux_ne h1]; exact n i (by omega)
end

structure Itm (W : Wd) (ρ : Rn) (N : Nat) (H : Hp) (ds : List D) (J : L2.It) : Prop where
  go : ∀ ρ' N' H' i, Ext ρ N H ρ' N' H' → i < ds.length → J.go i H'
  yld : ∀ ρ' N' H' i x H'', Ext ρ N H ρ' N' H' → i < ds.length → J.yld i H' x H'' → H'' = H' ∧ ∃ d, ds[i]? = some d ∧ RepV W.K ρ N H d x
  stop : ∀ ρ' N' H', Ext ρ N H ρ' N' H' → J.stop ds.length H'
abbrev relSrc (W : Wd) : Rl Src L2.It := fun ρ N H src J => match src with
  | .st ds => Itm W ρ N H ds J
  | .lv n => n < N ∧ J = Itl W.K (ρ n)
abbrev iI (W : Wd) (Wx : WX) (f : DEnv → Store → Out Src) : TI := rdg W Wx (relSrc W) f
section
variable {W : Wd} {ρ : Rn} {N : Nat} {H : Hp} {ds : List D} {vs : List V} {a : Addr}
theorem itm_list (h : ∀ ρ' N' H', Ext ρ N H ρ' N' H' → SqL W.K H' a vs) (r : RepVs W.K ρ N H ds vs) : Itm W ρ N H ds (Itl W.K a) where
  go := fun ρ' N' H' i e hi => ⟨vs, vs[i]'(by rw [← r.length]; exact hi), h _ _ _ e, List.getElem?_eq_getElem _⟩
  yld := fun ρ' N' H' i x H'' e hi hy => ⟨hy.1, r.getV (hy.2 vs (h _ _ _ e))⟩
  stop := fun ρ' N' H' e => ⟨vs, h _ _ _ e, by rw [r.length]; exact Nat.le_refl _⟩
theorem itm_tup (h : ∀ ρ' N' H', Ext ρ N H ρ' N' H' → SqT W.K H' a vs) (r : RepVs W.K ρ N H ds vs) : Itm W ρ N H ds (Itt W.K a) where
  go := fun ρ' N' H' i e hi => ⟨vs, vs[i]'(by rw [← r.length]; exact hi), h _ _ _ e, List.getElem?_eq_getElem _⟩
  yld := fun ρ' N' H' i x H'' e hi hy => ⟨hy.1, r.getV (hy.2 vs (h _ _ _ e))⟩
  stop := fun ρ' N' H' e => ⟨vs, h _ _ _ e, by rw [r.length]; exact Nat.le_refl _⟩
theorem itm_str {s : List Nat} (hs : s.all (fun c => decide (c < 0x110000)) = true) : Itm W ρ N H (s.map fun c => .str [c]) (Its ⟨s.toArray⟩) where
  go := fun ρ' N' H' i e hi => by
    show i < s.toArray.size
    simpa using hi
  yld := fun ρ' N' H' i x H'' e hi hy => by
    obtain ⟨h1, c, hc, rfl⟩ := hy
    have hc' : s[i]? = some c := by simpa using hc
    refine ⟨h1, .str [c], by simp [hc'], ?_⟩
    refine RepV.str [c] ⟨by rw [sizeLine_eq, List.length_singleton]; decide, ?_⟩
    simp only [List.all_cons, List.all_nil, Bool.and_true]
    exact List.all_eq_true.mp hs c (List.mem_of_getElem? hc')
  stop := fun ρ' N' H' e => by
    show s.toArray.size ≤ _
    simp
theorem rngL_length (x y : Int) : (rngL x y).length = (y - x).toNat := by simp [rngL]
theorem itm_rng (x y : Int) : Itm W ρ N H (rngL x y) (Itr x (y - x).toNat) where
  go := fun ρ' N' H' i e hi => by rw [rngL_length] at hi; exact hi
  yld := fun ρ' N' H' i v H'' e hi hy => by
    obtain ⟨h1, rfl⟩ := hy
    rw [rngL_length] at hi
    exact ⟨h1, .int (x + i), by simp [rngL, List.getElem?_range hi], .int _⟩
  stop := fun ρ' N' H' e => by rw [rngL_length]; exact Nat.le_refl _
end
section
variable {X : Cx} {W : Wd} {Wx : WX} {f g : DEnv → Store → Out D} {tg e a b : Expr} {pos p : Pos}
theorem pi_lst_at {pins : List (Addr × Obj)} {σ : L2.St} {H : Hp} {s : Shared} {R : L2.It → Hp → Prop} {a : Addr} {xs : List V} (I : Inv X pins σ H s) (hq : SqL X.K H a xs) (q : R (Itl X.K a) H) : wpAny (model X.prog X.w) X.A (pyIter (.ref a)) (PIE X pins σ tg R) X.xe s := by
  obtain ⟨its, rv, p, hz⟩ := I.list hq
  refine wpAny_pyIter_list p.isList ?_
  refine ⟨s.heap.objs.size, [s.heap.objs.size], _, _, H, rfl, I.kept (t' := s.toks) fun b o e => Heap.get?_push_of_some _ e, turn_list a _, ⟨_, Heap.get?_push_size _ rfl, rfl, rfl⟩, fun b hb => ?_, q⟩
  have e : b = s.heap.objs.size := by simpa using hb
  subst e
  exact I.fpOk (Nat.le_refl _) (I.hok.fresh (Nat.le_refl _))
theorem pi_tup_at {pins : List (Addr × Obj)} {σ : L2.St} {H : Hp} {s : Shared} {R : L2.It → Hp → Prop} {a : Addr} {xs : List V} (I : Inv X pins σ H s) (hq : SqT X.K H a xs) (q : R (Itt X.K a) H) : wpAny (model X.prog X.w) X.A (pyIter (.ref a)) (PIE X pins σ tg R) X.xe s := by
  obtain ⟨its, rv, p, hz⟩ := I.tuple hq
  refine wpAny_pyIter_tuple (show s.heap.IsTuple a its.toArray from p) ?_
  refine ⟨s.heap.objs.size, [s.heap.objs.size], _, _, H, rfl, I.kept (t' := s.toks) fun b o e => Heap.get?_push_of_some _ e, turn_tuple a _, ⟨_, Heap.get?_push_size _ rfl, rfl, rfl⟩, fun b hb => ?_, q⟩
  have e : b = s.heap.objs.size := by simpa using hb
  subst e
  exact I.fpOk (Nat.le_refl _) (I.hok.fresh (Nat.le_refl _))
theorem pi_str_at {pins : List (Addr × Obj)} {σ : L2.St} {H : Hp} {s : Shared} {R : L2.It → Hp → Prop} {x : Str} {t : Tok} (I : Inv X pins σ H s) (q : R (Its x) H) : wpAny (model X.prog X.w) X.A (pyIter (.str x t)) (PIE X pins σ tg R) X.xe s := by
  cases ha : x.cps.all (· < 128)
  · exact wpAny_pyIter_wide ha (pi_one (tk := s.toks) I _ (turn_str _ x t "str_iterator" (.inr rfl)) ⟨_, Heap.get?_push_size _ rfl, rfl, rfl⟩ q)
  · exact wpAny_pyIter_ascii ha (pi_one (tk := s.toks) I _ (turn_str _ x t "str_ascii_iterator" (.inl rfl)) ⟨_, Heap.get?_push_size _ rfl, rfl, rfl⟩ q)
theorem g_seq (hK : X.K = W.K) (he : PE X e (tD W Wx f)) : PI X tg e (iI W Wx fun δ S => (f δ S).bind fun x S1 => liftO S1 (srcOf x)) := by
  refine ⟨fun pins s σ H R I ⟨δ, S, ρ, s0, E, h⟩ => ?_⟩
  refine thn (he.run pins s σ H (fun v H1 => ∃ d S1 ρ1, RepS W ρ1 S1 H1 ∧ RepV W.K ρ1 S1.length H1 d v ∧ Cont W Wx σ (relSrc W) (liftO S1 (srcOf d)) ρ1 S1.length H1 R) I (rdg.next s0 E h fun x H1 dx S1 ρ1 e1 s1 E1 r1 h1 => ⟨dx, S1, ρ1, s1, r1, h1⟩)) fun v s1 ⟨y, H1, I1, rv, d, S1, ρ1, hs, hr, h1⟩ => ?_
  have key : ∀ {src J}, srcOf d = some src → relSrc W ρ1 S1.length H1 src J → R J H1 := fun {src J} e r => by
    rw [e] at h1
    exact h1 ρ1 H1 .refl hs J r
  cases hr with
  | non => exact h1.elim
  | bl b => exact h1.elim
  | int i => exact h1.elim
  | str x hx =>
    obtain ⟨t, rfl⟩ := rv
    exact pi_str_at I1 (key rfl (itm_str hx.2))
  | tup q1 q2 =>
    cases rv
    exact pi_tup_at I1 (hK ▸ q1) (hK ▸ key rfl (itm_tup (fun ρ' N' H' e => SqT.ext e q1) q2))
  | lst q1 qn q2 =>
    cases rv
    exact pi_lst_at I1 (SqL.of q1) (hK ▸ key rfl (itm_list (fun ρ' N' H' e => SqL.of (e.keep _ _ q1 qn.1 fun _ z => nomatch z)) q2))
  | rol q1 q2 =>
    cases rv
    refine pi_lst_at I1 (hK ▸ rol_sql q1) (hK ▸ key rfl (itm_list (fun ρ' N' H' e => ?_) q2))
    rcases q1 with ⟨o, q1⟩ | q1
    · exact rol_sql (.inl ⟨o, e.frzs _ _ _ q1⟩)
    · exact rol_sql (.inr q1)
  | @obj n hn =>
    cases rv
    have hc := hs.at_ n S1[n] (List.getElem?_eq_getElem hn)
    cases hcell : S1[n] with
    | lst ds =>
      rw [hcell] at hc
      obtain ⟨_, vs, q1, q2⟩ := hc
      exact pi_lst_at I1 (SqL.of q1) (hK ▸ key rfl ⟨hn, rfl⟩)
    | dic _ _ => rw [hcell] at hc; exact hc.elim
    | st _ => rw [hcell] at hc; exact hc.elim
theorem rngS_eq {x y : D} {src : Src} (h : rngS x y = some src) : ∃ i j, x = .int i ∧ y = .int j ∧ (-(2 ^ 62) ≤ i ∧ i < 2 ^ 62 ∧ -(2 ^ 62) ≤ j ∧ j < 2 ^ 62) ∧ src = .st (rngL i j) := by
  unfold rngS at h
  split at h
  · rename_i a b
    split at h
    · rename_i z
      cases h
      unfold rngOk at z
      rw [decide_eq_true_eq] at z
      refine ⟨_, _, rfl, rfl, ?_, rfl⟩
      have : (2 : Int) ^ 62 = 4611686018427387904 := by decide
      rw [this]; omega
    · cases h
  · cases h
theorem g_rng1 (hg : Gl X "range") (hm : X.mg "range" = none) (ha : PA X [a] (tA W Wx fun δ S => (f δ S).bind fun x S1 => .ok [x] S1)) (hs : starEach [a] X.env = [(false, eval a X.env)]) :
    PI X tg (.Call (.Name "range" p) [a] [] pos) (iI W Wx fun δ S => (f δ S).bind fun x S1 => liftO S1 (rngS (.int 0) x)) := by
  refine ⟨fun pins s σ H R I ⟨δ, S, ρ, s0, E, h⟩ => (pi_range1 hg hm ha hs).run pins s σ H R I ?_⟩
  have h' : Cont W Wx σ (relSrc W) (((f δ S).bind fun x S1 => .ok [x] S1).bind fun xs S2 => match xs with | [x] => liftO S2 (rngS (.int 0) x) | _ => .bad) ρ S.length H R := by rw [Out.bind_assoc]; exact h
  refine rdg.next (f := fun δ S => (f δ S).bind fun x S1 => .ok [x] S1) s0 E h' fun vs H1 ds S1 ρ1 e1 s1 E1 hv h1 => ?_
  match ds, hv, h1 with
  | [], _, h1 => exact h1.elim
  | _ :: _ :: _, _, h1 => exact h1.elim
  | [dx], hv, h1 =>
    cases er : rngS (.int 0) dx with
    | none => simp only [er] at h1; exact h1.elim
    | some src =>
      obtain ⟨i, j, ei, rfl, z, rfl⟩ := rngS_eq er
      cases ei
      cases hv with
      | cons r t =>
        cases t
        cases r
        simp only [er] at h1
        refine ⟨j, rfl, z.2.2.1, z.2.2.2, ?_⟩
        have := itm_rng (W := W) (ρ := ρ1) (N := S1.length) (H := H1) 0 j
        rw [Int.sub_zero] at this
        exact h1 ρ1 H1 .refl s1 _ this
theorem g_rng2 (hg : Gl X "range") (hm : X.mg "range" = none) (ha : PA X [a, b] (tA W Wx fun δ S => (f δ S).bind fun x S1 => (g δ S1).bind fun y S2 => .ok [x, y] S2)) (hs : starEach [a, b] X.env = [(false, eval a X.env), (false, eval b X.env)]) (hs2 : starEach [b] X.env = [(false, eval b X.env)]) :
    PI X tg (.Call (.Name "range" p) [a, b] [] pos) (iI W Wx fun δ S => (f δ S).bind fun x S1 => (g δ S1).bind fun y S2 => liftO S2 (rngS x y)) := by
  refine ⟨fun pins s σ H R I ⟨δ, S, ρ, s0, E, h⟩ => (pi_range2 hg hm ha hs hs2).run pins s σ H R I ?_⟩
  have h' : Cont W Wx σ (relSrc W) (((f δ S).bind fun x S1 => (g δ S1).bind fun y S2 => .ok [x, y] S2).bind fun xs S2 => match xs with | [x, y] => liftO S2 (rngS x y) | _ => .bad) ρ S.length H R := by
    simp only [Out.bind_assoc]; exact h
  refine rdg.next (f := fun δ S => (f δ S).bind fun x S1 => (g δ S1).bind fun y S2 => .ok [x, y] S2) s0 E h' fun vs H1 ds S1 ρ1 e1 s1 E1 hv h1 => ?_
  match ds, hv, h1 with
  | [], _, h1 => exact h1.elim
  | [_], _, h1 => exact h1.elim
  | _ :: _ :: _ :: _, _, h1 => exact h1.elim
  | [dx, dy], hv, h1 =>
    cases er : rngS dx dy with
    | none => simp only [er] at h1; exact h1.elim
    | some src =>
      obtain ⟨i, j, rfl, rfl, z, rfl⟩ := rngS_eq er
      obtain ⟨v, u, rfl, rv, ru⟩ := RepVs.two hv
      cases rv; cases ru
      simp only [er] at h1
      exact ⟨i, j, rfl, z, h1 ρ1 H1 .refl s1 _ (itm_rng i j)⟩
def gsR : List Nat → TGs
  | [] => gNil
  | i :: is => gCons (gName i) (gsR is)
def tgR (K : PySem.W.Frag) : Tg → TG
  | .nm i => gName i
  | .tp is => gTup K is.length (gsR is)
def setV : List Nat → List V → L2.St → L2.St
  | i :: is, v :: vs, σ => setV is vs (σ.set i (some v))
  | _, _, σ => σ
theorem gsR_ok {K : PySem.W.Frag} {ρ : Rn} {N : Nat} {H : Hp} {Q : L2.St → Hp → Prop} : ∀ {is : List Nat} {ds : List D} {vs : List V} {δ : DEnv} {σ : L2.St}, ds.length = is.length → RepVs K ρ N H ds vs → RepE K ρ N H δ σ → (RepE K ρ N H (setAll is ds δ) (setV is vs σ) → Q (setV is vs σ) H) → gsR is vs σ H Q
  | [], ds, vs, δ, σ, hl, r, e, q => by
    cases r with
    | nil => exact ⟨rfl, q e⟩
    | cons _ _ => simp at hl
  | i :: is, ds, vs, δ, σ, hl, r, e, q => by
    cases r with
    | nil => simp at hl
    | cons r t => exact ⟨_, _, rfl, gsR_ok (by simpa using hl) t (e.set i r) q⟩
theorem wipe_set {σ : L2.St} {vs : List Nat} {i : Nat} {v : Option V} (hi : i ∈ vs) : wipe (σ.set i v) vs = wipe σ vs := by
  induction vs with
  | nil => cases hi
  | cons j vs ih =>
    show (wipe (σ.set i v) vs).set j none = (wipe σ vs).set j none
    by_cases z : i ∈ vs
    · rw [ih z]
    · have hij : i = j := by
        rcases List.mem_cons.mp hi with h | h
        · exact h
        · exact absurd h z
      subst hij
      have : ∀ (us : List Nat) (τ : L2.St), i ∉ us → wipe (τ.set i v) us = (wipe τ us).set i v := by
        intro us
        induction us with
        | nil => intro τ _; rfl
        | cons k us ih2 =>
          intro τ hk
          show (wipe (τ.set i v) us).set k none = ((wipe τ us).set k none).set i v
          rw [ih2 τ (fun z => hk (List.mem_cons_of_mem _ z))]
          exact List.set_comm _ _ (fun z => hk (by rw [z]; exact List.mem_cons_self))
      rw [this vs σ z, List.set_set]
theorem wipe_setV {vs : List Nat} : ∀ {is : List Nat} {us : List V} {σ : L2.St}, (∀ i ∈ is, i ∈ vs) → wipe (setV is us σ) vs = wipe σ vs
  | [], _, _, _ => rfl
  | _ :: _, [], _, _ => rfl
  | i :: is, u :: us, σ, h => by
    show wipe (setV is us (σ.set i (some u))) vs = _
    rw [wipe_setV fun j hj => h j (List.mem_cons_of_mem _ hj), wipe_set (h i List.mem_cons_self)]
theorem wipe_wipe {σ : L2.St} : ∀ (vs : List Nat), wipe (wipe σ vs) vs = wipe σ vs := by
  have key : ∀ (us vs : List Nat) (τ : L2.St), (∀ i ∈ us, i ∈ vs) → wipe (wipe τ us) vs = wipe τ vs := by
    intro us
    induction us with
    | nil => intro vs τ _; rfl
    | cons k us ih =>
      intro vs τ h
      show wipe ((wipe τ us).set k none) vs = _
      rw [wipe_set (h k List.mem_cons_self), ih vs τ fun i hi => h i (List.mem_cons_of_mem _ hi)]
  exact fun vs => key vs vs σ fun _ h => h
theorem RepE.wipe {K : PySem.W.Frag} {ρ : Rn} {N : Nat} {H : Hp} {δ : DEnv} {σ : L2.St} (r : RepE K ρ N H δ σ) : ∀ vs : List Nat, RepE K ρ N H (wipeD δ vs) (wipe σ vs)
  | [] => r
  | j :: vs => by
    have ih := RepE.wipe r vs
    refine ⟨by show ((wipeD δ vs).set j none).length = ((L2.wipe σ vs).set j none).length; simpa using ih.len, fun i d h => ?_⟩
    change ((wipeD δ vs).set j none)[i]? = some (some d) at h
    show ∃ v, ((L2.wipe σ vs).set j none)[i]? = some (some v) ∧ _
    by_cases z : i = j
    · subst z
      by_cases hl : i < (wipeD δ vs).length
      · rw [List.getElem?_set_self hl] at h; cases h
      · rw [List.getElem?_eq_none (by simpa using Nat.le_of_not_lt hl)] at h; cases h
    · rw [List.getElem?_set_ne (Ne.symm z)] at h ⊢
      exact ih.at_ i d h
/-- a target, stored -/
theorem tg_ok {W : Wd} {K : PySem.W.Frag} {ρ : Rn} {N : Nat} {H : Hp} {t : Tg} {d : D} {v : V} {δ δ' : DEnv} {σ : L2.St} {Q : L2.St → Hp → Prop} (hK : K = W.K) (h : tset t d δ = some δ') (r : RepV W.K ρ N H d v) (e : RepE W.K ρ N H δ σ)
    (q : ∀ σ', RepE W.K ρ N H δ' σ' → (∀ vs : List Nat, (∀ i ∈ t.slots, i ∈ vs) → L2.wipe σ' vs = L2.wipe σ vs) → Q σ' H) : tgR K t v σ H Q := by
  subst hK
  cases t with
  | nm i =>
    cases h
    exact q _ (e.set i r) fun vs hv => wipe_set (hv i List.mem_cons_self)
  | tp is =>
    unfold tset at h
    split at h
    · rename_i h1; cases h1
    · rename_i is' ds h1 
      cases h1
      split at h
      · rename_i hl
        cases h
        cases r with
        | tup h1 h2 =>
          refine ⟨_, _, rfl, h1, by rw [← h2.length]; exact hl, gsR_ok hl h2 e fun e' => q _ e' fun vs hv => wipe_setV hv⟩
      · cases h
    · cases h
end
end PD

set_option Elab.async false
set_option linter.all false
set_option maxRecDepth 100000
namespace PD
open PySem PySem.Spec PyProof.Rows L2

/-- nothing is raised in a block -/
abbrev wNo : WX := fun _ _ _ _ => False
/-- a turn of a comprehension -/
def cBody (t : Tg) (vs : List Nat) (c : DEnv → Store → Out Bool) (el : DEnv → Store → Out D) (δ : DEnv) : D → Store → Out (Option D) := fun x S =>
  (liftO S (tset t x (wipeD δ vs))).bind fun δ' S => (c δ' S).bind fun b S2 => if b then (el δ' S2).bind fun y S3 => .ok (some y) S3 else .ok none S2
section
variable {W : Wd} {Wx : WX} {ρ : Rn} {N : Nat} {H1 : Hp} {p : Addr} {F : D → Store → Out (Option D)} {ds : List D} {R : Out D} {isO : Bool}
/-- behind i turns -/
def LI (W : Wd) (ρ : Rn) (N : Nat) (H1 : Hp) (p : Addr) (F : D → Store → Out (Option D)) (ds : List D) (isO : Bool) (R : Out D) (i : Nat) (H : Hp) : Prop :=
  ∃ S ρ' done acc, RepS W ρ' S H ∧ Ext (ρ.hide p) N (upd H1 p (.lst [])) ρ' S.length (upd H p (.lst [])) ∧ RepVs W.K ρ' S.length H done acc ∧ H p = some (.lst acc) ∧
    (nox (mapL F (ds.drop i) S)).bind (fun ys S2 => mkList isO (done ++ ys) S2) = R
theorem LI.hid {S : Store} {ρ' : Rn} {H : Hp} (e : Ext (ρ.hide p) N (upd H1 p (.lst [])) ρ' S.length (upd H p (.lst []))) : ρ'.hid = p :: ρ.hid := e.hid
theorem LI.end {σ : L2.St} {H : Hp} {Q : VK} (hN : H1 p = none) (hl : p ∉ ρ.hid) (h : LI W ρ N H1 p F ds isO R ds.length H) (q : Cont W Wx σ (relD W) R ρ N H1 Q) : Q (.ref p) H := by
  obtain ⟨S, ρ', done, acc, hS, e, r, hp, hR⟩ := h
  rw [List.drop_length] at hR
  simp only [mapL, nox_ok, Out.bind_ok, List.append_nil] at hR
  subst hR
  have hh : ∀ a ∈ ρ.hid, a ∈ ρ'.hid := fun a ha => by rw [e.hid]; exact List.mem_cons_of_mem _ ha
  have hpp : p ∈ ρ'.hid := by rw [e.hid]; exact List.mem_cons_self
  have e' := e.unh hN hp
  unfold mkList at q
  split at q
  · cases isO with
    | false =>
      refine Cont.ok (ρ' := ρ'.unh ρ.hid) q e' (hS.unh hh) ?_
      exact RepV.lst hp ⟨fun i hi => (hS.hid p hpp).2 i hi, hl⟩ (r.unh hh)
    | true =>
      simp only [if_true] at q
      split at q
      · rename_i hd
        have hl2 : (S ++ [C.lst done]).length = S.length + 1 := by simp
        refine Cont.ok (ρ' := aux (ρ'.unh ρ.hid) S.length p) q ?_ (hS.show_ hh hpp hl hd hp r) ?_
        · rw [hl2]
          exact ⟨Nat.le_succ_of_le e'.le, fun i hi => (aux_ne (Nat.ne_of_lt (Nat.lt_of_lt_of_le hi e'.le))).trans (e'.agree i hi), e'.tups, e'.frzs, e'.keep, e'.there, fun i h1 h2 => by
            by_cases z : i = S.length
            · rw [z, aux_self]; exact hN
            · rw [aux_ne z]; exact e'.fresh i h1 (by omega), rfl⟩
        · have := RepV.obj (K := W.K) (ρ := aux (ρ'.unh ρ.hid) S.length p) (H := H) (N := S.length + 1) (n := S.length) (Nat.lt_succ_self _)
          rw [aux_self] at this
          rw [hl2]; exact this
      · exact q.elim
  · exact q.elim
end
theorem nox_ok_of {α β : Type} {W : Wd} {Wx : WX} {σ : L2.St} {rel : Rl α β} {ρ : Rn} {N : Nat} {H : Hp} {γ : Type} {r : Out γ} {g : γ → Store → Out α} {Q : β → Hp → Prop} (h : Cont W Wx σ rel ((nox r).bind g) ρ N H Q) : ∃ a S, r = .ok a S := by
  cases r with
  | ok a S => exact ⟨a, S, rfl⟩
  | exc _ _ => exact h.elim
  | bad => exact h.elim
section
variable {X : Cx} {W : Wd} {Wx : WX} {el tg iter : Expr} {ifs : List Expr} {scope : Scope} {own : List (Str × Nat)} {pos : Pos} {isO : Bool} {t : Tg} {src : DEnv → Store → Out Src} {c : DEnv → Store → Out Bool} {f : DEnv → Store → Out D}
theorem lc_to (hK : X.K = W.K) {σ : L2.St} {H : Hp} {Q : VK} {vs : List Nat} (hv : ∀ i ∈ t.slots, i ∈ vs)
    (h : tD W Wx (fun δ S => (src δ S).bind fun s S1 => (liftO S1 s.items).bind fun ds S1 => (nox (mapL (cBody t vs c f δ) ds S1)).bind fun ys S2 => mkList isO ys S2) σ H Q) :
    tLc (iI W Wx src) (tgR X.K t) (tT W wNo c) (tD W wNo f) vs σ H Q := by
  obtain ⟨δ, S, ρ, s, E, h⟩ := h
  refine rdg.next s E h fun J H1 sr S1 ρ1 e1 s1 E1 r1 h1 => ?_
  obtain ⟨ds, eds, h2⟩ := Cont.oO h1
  have hsr : sr = .st ds := by cases sr with | st _ => cases eds; rfl | lv _ => cases eds
  subst hsr
  intro p hp
  generalize hR : ((nox (mapL (cBody t vs c f δ) ds S1)).bind fun ys S2 => mkList isO ys S2) = R at h2
  have hJ : Itm W ρ1 S1.length H1 ds J := r1
  have hl : p ∉ ρ1.hid := s1.nhid hp
  have E1h : RepE W.K (ρ1.hide p) S1.length (upd H1 p (.lst [])) δ σ := E1.hide hp
  refine ⟨fun i m H => m + i = ds.length ∧ LI W ρ1 S1.length H1 p (cBody t vs c f δ) ds isO R i H, ⟨ds.length, rfl, ?_⟩, fun i m H ⟨hm, hI⟩ => ?_⟩
  · have z : upd (upd H1 p (.lst [])) p (.lst []) = upd H1 p (.lst []) := by funext a; unfold upd; split <;> rfl
    exact ⟨S1, ρ1.hide p, [], [], s1.hide hp, by rw [z]; exact Ext.refl, .nil, upd_same, hR⟩
  · by_cases hi : i < ds.length
    · right
      obtain ⟨S', ρ', done, acc, hS, e, r, hpp, hRR⟩ := id hI
      have eu := e.unh hp hpp
      have hin : p ∈ ρ'.hid := by rw [e.hid]; exact List.mem_cons_self
      have zz : ∀ {xs : List V}, upd (upd H p (.lst xs)) p (.lst acc) = H := by
        intro xs; funext a; unfold upd
        split
        · rename_i q; rw [q, hpp]
        · rfl
      refine ⟨hJ.go _ _ _ _ eu hi, fun H' => ∃ m', m' + 1 = m ∧ (m' + (i + 1) = ds.length ∧ LI W ρ1 S1.length H1 p (cBody t vs c f δ) ds isO R (i + 1) H'), fun H' ⟨m', h1, h2⟩ => ⟨m', by omega, h2⟩, fun x H' hy => ?_⟩
      obtain ⟨rfl, d, hd, rd⟩ := hJ.yld _ _ _ _ _ _ eu hi hy
      have hdrop : ds.drop i = d :: ds.drop (i + 1) := by
        rw [List.drop_eq_getElem_cons hi]
        congr 1
        rw [List.getElem?_eq_getElem hi] at hd
        exact Option.some.inj hd
      rw [hdrop] at hRR
      rw [← hRR] at h2
      simp only [mapL] at hRR h2
      obtain ⟨ys, S9, hys⟩ := nox_ok_of h2
      -- the turn's own outcome
      have E2 : RepE W.K ρ' S'.length H' (wipeD δ vs) (L2.wipe σ vs) := by
        have e3 : RepE W.K ρ' S'.length (upd H' p (.lst [])) δ σ := E1h.mono e
        have e4 := e3.mask (ys := acc) hin upd_same
        rw [zz] at e4
        exact e4.wipe vs
      have R2 : RepV W.K ρ' S'.length H' d x := by
        have r3 : RepV W.K (ρ1.hide p) S1.length (upd H1 p (.lst [])) d x := rd.hide hp
        have r4 := (r3.mono e).mask (ys := acc) hin upd_same
        rw [zz] at r4
        exact r4
      cases hb : cBody t vs c f δ d S' with
      | bad => rw [hb] at hys; cases hys
      | exc x' S2 => rw [hb] at hys; cases hys
      | ok ry S2 =>
        rw [hb] at hys hRR
        simp only [Out.bind_ok] at hys hRR
        have hb0 := hb
        unfold cBody at hb
        cases hts : tset t d (wipeD δ vs) with
        | none => rw [hts] at hb; cases hb
        | some δ' =>
          rw [hts] at hb
          simp only [liftO_some, Out.bind_ok] at hb
          refine tg_ok hK hts R2 E2 fun σ' E' hw => ⟨by rw [hw vs hv, wipe_wipe], ?_⟩
          -- the test
          refine ⟨δ', S', ρ', hS, E', ?_⟩
          cases hc : c δ' S' with
          | bad => rw [hc] at hb; cases hb
          | exc x' S3 => rw [hc] at hb; cases hb
          | ok b S3 =>
            rw [hc] at hb
            simp only [Out.bind_ok] at hb
            intro ρ3 H3 e3 hS3 b' hb'
            subst hb'
            have hh3 : ρ3.hid = p :: ρ1.hid := e3.hid.trans e.hid
            have hin3 : p ∈ ρ3.hid := by rw [hh3]; exact List.mem_cons_self
            have hp3 : H3 p = some (.lst acc) := e3.keep p _ hpp (fun i hi => (hS.hid p hin).2 i hi) fun _ z => nomatch z
            have ext3 : Ext (ρ1.hide p) S1.length (upd H1 p (.lst [])) ρ3 S3.length (upd H3 p (.lst [])) := e.trans (e3.mask hpp hp3)
            cases b with
            | true =>
              simp only [if_true] at hb ⊢
              refine ⟨δ', S3, ρ3, hS3, E'.mono e3, ?_⟩
              cases hel : f δ' S3 with
              | bad => rw [hel] at hb; cases hb
              | exc x' S4 => rw [hel] at hb; cases hb
              | ok y S4 =>
                rw [hel] at hb
                simp only [Out.bind_ok, Out.ok.injEq] at hb
                obtain ⟨rfl, rfl⟩ := hb
                intro ρ4 H4 e4 hS4 v hv4
                have hin4 : p ∈ ρ4.hid := by rw [e4.hid]; exact hin3
                have hp4 : H4 p = some (.lst acc) := e4.keep p _ hp3 (fun i hi => (hS3.hid p hin3).2 i hi) fun _ z => nomatch z
                have racc : RepVs W.K ρ4 S4.length H4 done acc := (r.mono e3).mono e4
                refine ⟨acc, hp4, ?_, m - 1, by omega, by omega, S4, ρ4, done ++ [y], acc ++ [v], hS4.mask hin4 hp4, ?_, ?_, upd_same, ?_⟩
                · -- the room
                  rw [← racc.length]
                  cases hm2 : mapL (cBody t vs c f δ) (List.drop (i + 1) ds) S4 with
                  | bad => rw [hm2] at hys; cases hys
                  | exc _ _ => rw [hm2] at hys; cases hys
                  | ok ys2 S5 =>
                    rw [hm2] at hRR
                    simp only [Out.bind_ok, nox_ok] at hRR
                    have hq : Cont W Wx σ (relD W) (mkList isO (done ++ (y :: ys2)) S5) ρ1 S1.length H1 Q := by
                      simp only [hb0, hm2, Out.bind_ok, nox_ok] at h2
                      exact h2
                    unfold mkList at hq
                    split at hq
                    · rename_i hz
                      simp only [List.length_append, List.length_cons] at hz
                      omega
                    · exact hq.elim
                · have z5 : upd (upd H4 p (.lst (acc ++ [v]))) p (.lst []) = upd H4 p (.lst []) := by funext a; unfold upd; split <;> rfl
                  rw [z5]
                  exact ext3.trans (e4.mask hp3 hp4)
                · exact (racc.append (.cons hv4 .nil)).mask hin4 hp4
                · rw [← hRR]
                  cases hm2 : mapL (cBody t vs c f δ) (List.drop (i + 1) ds) S4 with
                  | bad => rfl
                  | exc _ _ => rfl
                  | ok ys2 S5 => simp only [Out.bind_ok, nox_ok, List.append_assoc, List.singleton_append]
            | false =>
              simp only [Bool.false_eq_true, if_false, Out.ok.injEq] at hb ⊢
              obtain ⟨rfl, rfl⟩ := hb
              refine ⟨m - 1, by omega, by omega, S3, ρ3, done, acc, hS3, ext3, r.mono e3, hp3, ?_⟩
              rw [← hRR]
              cases hm2 : mapL (cBody t vs c f δ) (List.drop (i + 1) ds) S3 <;> rfl
    · left
      have hi' : i = ds.length := by omega
      subst hi'
      obtain ⟨S', ρ', done, acc, hS, e, r, hpp, hRR⟩ := id hI
      exact ⟨hJ.stop _ _ _ (e.unh hp hpp), LI.end hp hl hI h2⟩
theorem g_comp (hK : X.K = W.K) (hc : X.calm = true) (hN : X.N.Nodup) (hi : PI X tg iter (iI W Wx src)) (ok : BlkOk X.N X.env.scope scope own) (hv : ∀ i ∈ t.slots, i ∈ own.map (·.2))
    (hg : ∀ (s : Shared) (H : Hp) (C : Addr) (cl : List (Str × Addr)) (fp : List Addr), PG (X.blk s H scope (compEnvC scope cl C X.env) fp) tg (tgR X.K t)) (ht : ∀ (s : Shared) (H : Hp) (C : Addr) (cl : List (Str × Addr)) (fp : List Addr), PTs (X.blk s H scope (compEnvC scope cl C X.env) fp) ifs (tT W wNo c))
    (he : ∀ (s : Shared) (H : Hp) (C : Addr) (cl : List (Str × Addr)) (fp : List Addr), PE (X.blk s H scope (compEnvC scope cl C X.env) fp) el (tD W wNo f)) (hs : ∀ x, foldedSetIterable iter X.env x = pure x) :
    PE X (.ListComp el [⟨tg, iter, ifs, 0⟩] scope pos) (tD W Wx (fun δ S => (src δ S).bind fun s S1 => (liftO S1 s.items).bind fun ds S1 => (nox (mapL (cBody t (own.map (·.2)) c f δ) ds S1)).bind fun ys S2 => mkList isO ys S2)) :=
  PE.of (pe_lc hc hN hi ok hg ht he hs) fun σ H Q h => lc_to hK hv h
end

theorem anys_py {d : D} (hd : d.plain = true) : ∀ {ds : List D}, D.plains ds = true → ((D.pys ds).any fun y => PyData.eqv y d.py) = ds.any fun y => y.eqv d
  | [], _ => rfl
  | x :: xs, h => by
    simp only [D.plains, Bool.and_eq_true] at h
    show (PyData.eqv x.py d.py || (D.pys xs).any fun y => PyData.eqv y d.py) = (x.eqv d || xs.any fun y => y.eqv d)
    rw [D.eqv_py x d h.1 hd, anys_py hd h.2]
section
variable {X : Cx} {W : Wd}
theorem in_core {pins : List (Addr × Obj)} {s : Shared} {σ : L2.St} {H : Hp} {x y : V} {v u : Value} {dx dy : D} {ρ : Rn} {S : Store} {ds : List D} (hK : X.K = W.K) (I : Inv X pins σ H s) (r1 : RelV x v) (r2 : RelV y u) (hS : RepS W ρ S H) (hx : RepV W.K ρ S.length H dx x) (hy : RepV W.K ρ S.length H dy y)
    (hd : dy.seq S = some ds) (z1 : (dx.rd S).plain = true) (z2 : D.plains ds = true) :
    (∃ as bs, Reads s.heap u (.list (D.pys ds)) bs ∧ Reads s.heap v (dx.rd S).py as) ∨ (∃ as bs, Reads s.heap u (.tuple (D.pys ds)) bs ∧ Reads s.heap v (dx.rd S).py as) := by
  obtain ⟨a1, c1⟩ := rd_rep hS hx z1
  rw [← hK] at a1
  obtain ⟨as, e1⟩ := Dp.reads I _ _ _ a1 r1
  obtain ⟨a, vs, rfl, hq, hr⟩ := seq_rep hS hy hd
  have ha := RepVs.dp hr z2
  rw [← hK] at hq ha
  rcases hq with hq | hq
  · obtain ⟨bs, e2⟩ := Dp.reads I (.list (D.pys ds)) _ _ (.lst hq ha) r2
    exact .inl ⟨as, bs, e2, e1⟩
  · obtain ⟨bs, e2⟩ := Dp.reads I (.tuple (D.pys ds)) _ _ (.tup hq ha) r2
    exact .inr ⟨as, bs, e2, e1⟩
theorem op_pIn (hK : X.K = W.K) (hu : X.A.units + 200 < cLine) : OpR X (compareOp .In) (rP W dIn) := by
  intro pins s σ H x y v u Q I r1 r2 h
  obtain ⟨dx, dy, ρ, S, d, hS, hx, hy, e, q⟩ := h
  unfold dIn at e
  split at e
  · cases e
    cases hx; cases hy
    exact op_in_sign pins s σ H _ _ v u Q I r1 r2 ⟨_, _, rfl, rfl, q.here hS (.bl _)⟩
  · split at e
    · rename_i ds hds
      split at e
      · rename_i hz
        cases e
        simp only [Bool.and_eq_true, decide_eq_true_eq] at hz
        obtain ⟨a1, c1⟩ := rd_rep hS hx hz.1.1
        obtain ⟨a, vs, _, hq, hr⟩ := seq_rep hS hy hds
        have lay := RepVs.lay hr hz.1.2
        have hu2 : X.A.units + 1 + min (PyData.depthAll (D.pys ds)) (dx.rd S).py.depth < cLine := by rw [D.depth_py _ hz.1.1]; have := hz.2; omega
        have fin : EP X pins σ Q (.bool ((D.pys ds).any fun y => PyData.eqv y (dx.rd S).py)) s := ⟨.bl _, H, I, rfl, by rw [anys_py hz.1.1 hz.1.2]; exact q.here hS (.bl _)⟩
        rcases in_core hK I r1 r2 hS hx hy hds hz.1.1 hz.1.2 with ⟨as, bs, e2, e1⟩ | ⟨as, bs, e2, e1⟩
        · exact SeqAt.in_list_reads e2 e1 lay c1 hu2 fin
        · exact SeqAt.in_tuple_reads e2 e1 lay c1 hu2 fin
      · cases e
    · cases e
theorem op_pNotIn (hK : X.K = W.K) (hu : X.A.units + 200 < cLine) : OpR X (compareOp .NotIn) (rP W dNotIn) := by
  intro pins s σ H x y v u Q I r1 r2 h
  obtain ⟨dx, dy, ρ, S, d, hS, hx, hy, e, q⟩ := h
  unfold dNotIn at e
  split at e
  · rename_i b hb
    cases e
    unfold dIn at hb
    split at hb
    · cases hb
      cases hx; cases hy
      exact op_notIn_sign pins s σ H _ _ v u Q I r1 r2 ⟨_, _, rfl, rfl, q.here hS (.bl _)⟩
    · split at hb
      · rename_i ds hds
        split at hb
        · rename_i hz
          cases hb
          simp only [Bool.and_eq_true, decide_eq_true_eq] at hz
          obtain ⟨a1, c1⟩ := rd_rep hS hx hz.1.1
          obtain ⟨a, vs, _, hq, hr⟩ := seq_rep hS hy hds
          have lay := RepVs.lay hr hz.1.2
          have hu2 : X.A.units + 1 + min (PyData.depthAll (D.pys ds)) (dx.rd S).py.depth < cLine := by rw [D.depth_py _ hz.1.1]; have := hz.2; omega
          have fin : EP X pins σ Q (.bool (!(D.pys ds).any fun y => PyData.eqv y (dx.rd S).py)) s := ⟨.bl _, H, I, rfl, by rw [anys_py hz.1.1 hz.1.2]; exact q.here hS (.bl _)⟩
          rcases in_core hK I r1 r2 hS hx hy hds hz.1.1 hz.1.2 with ⟨as, bs, e2, e1⟩ | ⟨as, bs, e2, e1⟩
          · exact SeqAt.notIn_list_reads e2 e1 lay c1 hu2 fin
          · exact SeqAt.notIn_tuple_reads e2 e1 lay c1 hu2 fin
        · cases hb
      · cases hb
  · cases e
end
section
variable {X : Cx} {W : Wd} {Wx : WX} {o e : Expr} {f g : DEnv → Store → Out D} {apos cpos pos p p2 : Pos}
theorem asO_rep {ρ : Rn} {N : Nat} {H : Hp} {K : PySem.W.Frag} {d : D} {v : V} {n : Nat} (h : d.asO = some n) (r : RepV K ρ N H d v) : v = .ref (ρ n) ∧ n < N := by
  cases r <;> first | (cases h; done) | skip
  rename_i hn
  cases h; exact ⟨rfl, hn⟩
theorem cell_at {ρ : Rn} {S : Store} {H : Hp} {n : Nat} (s : RepS W ρ S H) (h : n < S.length) : ∃ ds vs, S[n]? = some (.lst ds) ∧ ds.all D.pure = true ∧ H (ρ n) = some (.lst vs) ∧ RepVs W.K ρ S.length H ds vs := by
  have hc := s.at_ n S[n] (List.getElem?_eq_getElem h)
  cases hcell : S[n] with
  | lst ds =>
    rw [hcell] at hc
    obtain ⟨hp, vs, q1, q2⟩ := hc
    exact ⟨ds, vs, by rw [List.getElem?_eq_getElem h, hcell], hp, q1, q2⟩
  | dic _ _ => rw [hcell] at hc; exact hc.elim
  | st _ => rw [hcell] at hc; exact hc.elim
theorem g_app (hK : X.K = W.K) (ho : PE X o (tD W Wx f)) (he : PE X e (tD W Wx g)) (hs : starEach [e] X.env = (false, eval e X.env) :: starEach [] X.env) (hbase : attributeBase o "append" X.env (eval o X.env) = eval o X.env)
    (hline : (apos.endLine == cpos.line) = true) :
    PE X (.Call (.Attribute o "append" apos) [e] [] cpos) (tD W Wx fun δ S => (f δ S).bind fun x S1 => (liftO S1 x.asO).bind fun n S1 => (g δ S1).bind fun y S2 => appF n y S2) := by
  refine PE.of (pe_bm PySem.F.plainAttrs_list PySem.F.slot_list_append PySem.F.type_list_append mt_append ho (g_cons he g_nil hs) hbase (by rw [hs]; rfl) hline hs rfl) fun σ H Q ⟨δ, S, ρ, s, E, h⟩ => ?_
  refine rdg.next s E h fun x H1 dx S1 ρ1 e1 s1 E1 r1 h1 => ?_
  obtain ⟨n, en, h2⟩ := Cont.oO h1
  obtain ⟨rfl, hn⟩ := asO_rep en r1
  obtain ⟨ds, vs, _, _, hv, _⟩ := cell_at s1 hn
  refine ⟨.inl ⟨rfl, _, SqL.of hv⟩, ?_⟩
  have h3 : Cont W Wx σ (relD W) (((g δ S1).bind fun y S2 => (Out.ok [] S2).bind fun (xs : List D) S3 => Out.ok (y :: xs) S3).bind fun ys S2 => match ys with | [y] => appF n y S2 | _ => .bad) ρ1 S1.length H1 Q := by
    simp only [Out.bind_assoc, Out.bind_ok]; exact h2
  refine rdg.next (f := fun δ S => (g δ S).bind fun y S2 => (Out.ok [] S2).bind fun (xs : List D) S3 => Out.ok (y :: xs) S3) s1 E1 h3 fun ws H2 dys S2 ρ2 e2 s2 E2 r2 h4 => ?_
  match dys, r2, h4 with
  | [], _, h4 => exact h4.elim
  | _ :: _ :: _, _, h4 => exact h4.elim
  | [dy], r2, h4 =>
    obtain ⟨w, rfl, rw_⟩ := RepVs.one r2
    have hn2 : n < S2.length := Nat.lt_of_lt_of_le hn e2.le
    obtain ⟨ds2, vs2, hc, hp, hv2, hr2⟩ := cell_at s2 hn2
    have eρ : ρ1 n = ρ2 n := (e2.agree n hn).symm
    change Cont W Wx σ (relD W) (appF n dy S2) ρ2 S2.length H2 Q at h4
    unfold appF at h4
    rw [hc] at h4
    simp only at h4
    split at h4
    · rename_i hz
      simp only [Bool.and_eq_true, decide_eq_true_eq] at hz
      refine ⟨ρ1 n, vs2, w, rfl, rfl, by rw [eρ]; exact hv2, by rw [← hr2.length]; exact hz.2, ?_⟩
      rw [eρ]
      have rr : RepVs W.K ρ2 S2.length H2 (ds2 ++ [dy]) (vs2 ++ [w]) := hr2.append (.cons rw_ .nil)
      have := s2.put hn2 hv2 (ds := ds2 ++ [dy]) (by simp [hp, hz.1]) rr
      refine Cont.ok h4 ?_ this .non
      rw [List.length_set]
      exact Ext.put hn2 hv2
    · exact h4.elim
theorem RepVs.last {K : PySem.W.Frag} {ρ : Rn} {N : Nat} {H : Hp} {ds : List D} {vs : List V} {d : D} (r : RepVs K ρ N H ds vs) (h : ds.getLast? = some d) : ∃ v, vs[vs.length - 1]? = some v ∧ RepV K ρ N H d v ∧ RepVs K ρ N H ds.dropLast vs.dropLast := by
  rw [List.getLast?_eq_getElem?] at h
  obtain ⟨v, h1, h2⟩ := r.get h
  refine ⟨v, by rw [← r.length]; exact h1, h2, ?_⟩
  rw [List.dropLast_eq_take, List.dropLast_eq_take, r.length]
  exact r.take _
theorem g_pop (hK : X.K = W.K) (ho : PE X o (tD W Wx f)) (hbase : attributeBase o "pop" X.env (eval o X.env) = eval o X.env) (hline : (apos.endLine == cpos.line) = true) :
    PE X (.Call (.Attribute o "pop" apos) [] [] cpos) (tD W Wx fun δ S => (f δ S).bind fun x S1 => (liftO S1 x.asO).bind fun n S1 => popF n S1) := by
  refine PE.of (pe_bm0 PySem.F.plainAttrs_list PySem.F.slot_list_pop PySem.F.type_list_pop mt_pop ho hbase hline) fun σ H Q ⟨δ, S, ρ, s, E, h⟩ => ?_
  refine rdg.next s E h fun x H1 dx S1 ρ1 e1 s1 E1 r1 h1 => ?_
  obtain ⟨n, en, h4⟩ := Cont.oO h1
  obtain ⟨rfl, hn⟩ := asO_rep en r1
  obtain ⟨ds, vs, hc, hp, hv, hr⟩ := cell_at s1 hn
  refine ⟨.inl ⟨rfl, _, SqL.of hv⟩, ?_⟩
  unfold popF at h4
  rw [hc] at h4
  simp only at h4
  split at h4
  · rename_i d hd
    obtain ⟨w, h5, h6, h7⟩ := hr.last hd
    refine ⟨ρ1 n, vs, w, rfl, rfl, hv, h5, ?_⟩
    have hp2 : ds.dropLast.all D.pure = true := by
      rw [List.all_eq_true] at hp ⊢
      exact fun z hz => hp z (by rw [List.dropLast_eq_take] at hz; exact List.mem_of_mem_take hz)
    have := s1.put hn hv (ds := ds.dropLast) hp2 h7
    refine Cont.ok h4 ?_ this ?_
    · rw [List.length_set]; exact Ext.put hn hv
    · rw [List.length_set]; exact h6.mono (Ext.put hn hv)
  · exact h4.elim
theorem boot_ty {t : String} (h : t ∈ ["bool", "int", "str", "tuple", "list", "dict", "set"]) : bootBuiltins (Str.ofString t) = some (.type t) ∧ Str.ofString t ≠ "__name__" ∧ (Str.ofString t == ("__debug__" : Str)) = false := by
  simp only [List.mem_cons, List.not_mem_nil, or_false] at h
  rcases h with rfl | rfl | rfl | rfl | rfl | rfl | rfl <;> exact ⟨by decide +kernel, by decide +kernel, by decide +kernel⟩
theorem g_isin {t : String} (hK : X.K = W.K) (ht : t ∈ ["bool", "int", "str", "tuple", "list", "dict", "set"]) (hg : Gl X "isinstance") (hm : X.mg "isinstance" = none) (hg2 : Gl X (Str.ofString t)) (hm2 : X.mg (Str.ofString t) = none) (he : PE X e (tD W Wx f))
    (hs : starEach [e, .Name (Str.ofString t) p2] X.env = (false, eval e X.env) :: starEach [.Name (Str.ofString t) p2] X.env) :
    PE X (.Call (.Name "isinstance" p) [e, .Name (Str.ofString t) p2] [] pos) (tD W Wx fun δ S => (f δ S).bind fun x S1 => lift S1 (isinF x t S1)) := by
  obtain ⟨b1, b2, b3⟩ := boot_ty ht
  refine PE.of (pe_callB call_isi hg hm PyProof.Rows.boot_isinstance (pa_cons he (pa_cons (pe_bltn (v := .ty t) hg2 hm2 b1 rfl b2 b3) pa_nil) hs) (he := hs)) fun σ H Q ⟨δ, S, ρ, s, E, h⟩ => ?_
  refine rdg.next s E h fun x H1 dx S1 ρ1 e1 s1 E1 r1 h1 => ?_
  obtain ⟨d, ed, q⟩ := Cont.oK h1
  unfold isinF at ed
  split at ed
  · rw [Option.map_eq_some_iff] at ed
    obtain ⟨a, ea, rfl⟩ := ed
    have hk := kit_all
    rw [List.all_eq_true] at hk
    have hk1 := hk a (ty_mem ea)
    rw [List.all_eq_true] at hk1
    have hk2 := of_decide_eq_true (hk1 t ht)
    exact ⟨x, .ty t, .type a, .type t, isT a t, rfl, .ty t, ty_rep s1 hK.symm r1 ea, kit_ty hk2, q.here s1 (.bl _)⟩
  · cases ed
end
section
variable {X : Cx} {W : Wd} {Wx : WX} {a b c e : Expr} {pos : Pos} {f g : DEnv → Store → Out D} {G : Dn}
theorem g_notV (hK : X.K = W.K) (ha : PE X a (tD W Wx f)) : PE X (.UnaryOp .Not a pos) (tD W Wx fun δ S => (f δ S).bind fun x S1 => (liftB S1 (x.tru S1)).bind fun b S2 => .ok (.bl (!b)) S2) := by
  refine ⟨fun pins s σ H Q I ⟨δ, S, ρ, s0, E, h⟩ => ?_⟩
  refine UnaryOp_ (thn (ha.run pins s σ H (fun v H1 => ∃ k, TruV X.K v H1 k ∧ Q (.bl (!k)) H1) I (rdg.next s0 E h fun x H1 dx S1 ρ1 e1 s1 E1 r1 h1 => ?_)) fun v s1 ⟨x, H1, I1, r1, k, hk, q⟩ => ?_)
  · obtain ⟨t, et, h2⟩ := Cont.oB h1
    exact ⟨t, by rw [hK]; exact tru_rep s1 r1 et, Cont.here h2 s1 (.bl _)⟩
  · exact not_of (thn (tru_ok pins s1 σ H1 x v (fun b H2 => Q (.bl (!b)) H2) I1 r1 ⟨k, hk, q⟩) fun b s2 ⟨H2, I2, q2⟩ => ⟨.bl (!b), H2, I2, rfl, q2⟩)
theorem g_iteT {p q r : DEnv → Store → Out Bool} (hc : PT X c (tT W Wx p)) (ha : PT X a (tT W Wx q)) (hb : PT X b (tT W Wx r)) : PT X (.IfExp c a b pos) (tT W Wx fun δ S => (p δ S).bind fun t S1 => if t then q δ S1 else r δ S1) := by
  refine ⟨fun pins s σ H Q I ⟨δ, S, ρ, s0, E, h⟩ => ?_⟩
  show wpAny _ _ (do if ← isTrue c X.env (eval c X.env) then isTrue a X.env (eval a X.env) else isTrue b X.env (eval b X.env)) _ _ _
  refine wpAny_bind (thn (hc.run pins s σ H _ I (rdg.next (Q' := fun t H1 => ∃ S1 ρ1, RepS W ρ1 S1 H1 ∧ RepE W.K ρ1 S1.length H1 δ σ ∧ Cont W Wx σ relI (if t then q δ S1 else r δ S1) ρ1 S1.length H1 Q) s0 E h fun x H1 dx S1 ρ1 e1 s1 E1 r1 h1 => by subst r1; exact ⟨S1, ρ1, s1, E1, h1⟩)) fun t s1 ⟨H1, I1, S1, ρ1, hs, hE, hq⟩ => ?_)
  cases t with
  | true => exact ha.run pins s1 σ H1 Q I1 ⟨δ, S1, ρ1, hs, hE, hq⟩
  | false => exact hb.run pins s1 σ H1 Q I1 ⟨δ, S1, ρ1, hs, hE, hq⟩
theorem g_yes : PTs X [] (tT W Wx fun _ S => .ok true S) := ⟨fun pins s σ H Q I ⟨δ, S, ρ, s0, E, h⟩ => pts_nil.run pins s σ H Q I (Cont.here h s0 rfl)⟩
theorem PT.as {f g : DEnv → Store → Out Bool} (h : PT X e (tT W Wx f)) (q : ∀ δ S, g δ S = f δ S) : PT X e (tT W Wx g) := by
  have : g = f := by funext δ S; exact q δ S
  rw [this]; exact h
theorem g_idxT {x i : Ex} (h : PT X e (tT W Wx fun δ S => (ev G (.idx x i) δ S).bind fun z S1 => liftB S1 (z.tru S1))) : PT X e (tT W Wx (tst G (.idx x i))) := PT.as h fun δ S => by
  simp only [tst, ev, Out.bind_assoc]
theorem g_callT {x : Nat} {i : Exs} (h : PT X e (tT W Wx fun δ S => (ev G (.call x i) δ S).bind fun z S1 => liftB S1 (z.tru S1))) : PT X e (tT W Wx (tst G (.call x i))) := PT.as h fun δ S => by
  simp only [tst, ev, Out.bind_assoc]
theorem g_bifT {x : Bif} {i : Exs} (h : PT X e (tT W Wx fun δ S => (ev G (.bif x i) δ S).bind fun z S1 => liftB S1 (z.tru S1))) : PT X e (tT W Wx (tst G (.bif x i))) := PT.as h fun δ S => by
  simp only [tst, ev, Out.bind_assoc]
theorem g_isinT {x : Ex} {t : String} (h : PT X e (tT W Wx fun δ S => (ev G (.isin x t) δ S).bind fun z S1 => liftB S1 (z.tru S1))) : PT X e (tT W Wx (tst G (.isin x t))) := PT.as h fun δ S => by
  simp only [tst, ev, Out.bind_assoc]
theorem g_two (ha : PE X a (tD W Wx f)) (hb : PE X b (tD W Wx g)) (h1 : starEach [a, b] X.env = (false, eval a X.env) :: starEach [b] X.env) (h2 : starEach [b] X.env = (false, eval b X.env) :: starEach [] X.env) : PA X [a, b] (tA W Wx fun δ S => (f δ S).bind fun x S1 => (g δ S1).bind fun y S2 => .ok [x, y] S2) := by
  have h := g_cons ha (g_cons hb g_nil h2) h1
  have e : (fun δ S => (f δ S).bind fun x S1 => (g δ S1).bind fun y S2 => .ok [x, y] S2) = (fun (δ : DEnv) (S : Store) => (f δ S).bind fun x S1 => ((g δ S1).bind fun y S2 => (Out.ok [] S2).bind fun (xs : List D) S3 => Out.ok (y :: xs) S3).bind fun xs S2 => Out.ok (x :: xs) S2) := by
    funext δ S
    simp only [Out.bind_assoc, Out.bind_ok]
  rw [e]; exact h
end
end PD

set_option Elab.async false
set_option linter.all false
set_option maxRecDepth 100000
set_option maxHeartbeats 2000000
namespace PD
open PySem PySem.Spec PyProof.Rows L2

/-- the context of a generator expression's frame -/
abbrev gcx (X : Cx) (A' : Around) (s : Shared) (H : Hp) (cenv : Env) (fp : List Addr) (pn : List (Addr × Obj)) : Cx :=
  { X with A := A', s_0 := s, H_0 := H, env := cenv, outer := X.stack, stack := cenv :: X.stack, ex := fp, fn := fun _ => false, pn := pn, xe := fun _ _ => False }
/-- the names of a generator expression -/
structure GexOk (N : List Str) (sc scope : Scope) (own : List (Str × Nat)) : Prop where
  kind : scope.kind = .function
  co : scope.isCoroutine = false
  nocell : ∀ y ∈ scope.names, y.2 ≠ .cell
  dot : scope.names.lookup (".0" : Str) = some NameKind.local
  uniq : ∀ y ∈ scope.names, scope.names.lookup y.1 = some y.2
  ix : ∀ p ∈ own, N[p.2]? = some p.1
  free : ∀ y ∈ scope.names, y.2 = .free → sc.names.lookup y.1 = some .cell ∨ sc.names.lookup y.1 = some .free
  own : ∀ y ∈ scope.names, y.2 = .local → y.1 ∈ own.map (·.1) ∨ y.1 ∉ N
section
variable {X : Cx} {pins : List (Addr × Obj)} {σ : L2.St} {H : Hp} {s : Shared}
theorem gex_free {scope : Scope} {own : List (Str × Nat)} (I : Inv X pins σ H s) (ok : GexOk X.N X.env.scope scope own) : ∀ y ∈ scope.names, y.2 = .free → ∃ c, X.env.cells.lookup y.1 = some c := fun y hy e => by
  rcases ok.free y hy e with k | k
  · exact I.ok.has _ (.inl k)
  · exact I.ok.has _ (.inr k)
theorem gen_start {scope : Scope} {own : List (Str × Nat)} {fp : List Addr} {C a : Addr} {code : Value} {obj : Obj} {s5 : Shared} {m5 : Str → Option Value} {A' : Around} (I : Inv X pins σ H s) (ok : GexOk X.N X.env.scope scope own) (hN : X.N.Nodup) (hfp : ∀ b ∈ fp, FpOk X pins H b ∧ b < s.heap.objs.size)
    (hC : s.heap.objs.size ≤ C) (kp : ∀ b o, s.heap.get? b = some o → s5.heap.get? b = some o) (hos : s5.os = s.os) (hb : AllBare s5.gens) (hns : s5.heap.Ns C m5) (ha : s5.heap.get? a = some obj) (haC : a ≠ C) (han : s.heap.objs.size ≤ a) (hobj : ∀ v, obj.data ≠ .cell v)
    (hA : A'.handled = none) (hfr : A'.frames = some (genEnv scope (cloFrom X.env.cells scope.names []) C code builtinsNs X.env :: X.stack)) :
    Inv (gcx X A' s H (genEnv scope (cloFrom X.env.cells scope.names []) C code builtinsNs X.env) fp [(a, obj)]) [] (L2.wipe σ (own.map (·.2))) H s5 := by
  have hfree := gex_free I ok
  generalize hcenv : genEnv scope (cloFrom X.env.cells scope.names []) C code builtinsNs X.env = cenv at hfr ⊢
  have hL : cenv.locals = C := by rw [← hcenv]; rfl
  have hcl : cenv.cells = cloFrom X.env.cells scope.names [] := by rw [← hcenv]; rfl
  have hsc : cenv.scope = scope := by rw [← hcenv]; rfl
  have hff : cenv.frame = some cenv.locals := by rw [← hcenv]; rfl
  have mem : ∀ {y c}, cenv.cells.lookup y = some c → X.env.cells.lookup y = some c ∧ c < s.heap.objs.size := fun {y c} e => by
    rw [hcl] at e
    rcases cloFrom_mem (PySem.mem_of_lookup e) with hm | ⟨h1, rfl⟩
    · cases hm
    · obtain ⟨c, hc⟩ := hfree _ h1 rfl
      rw [hc]
      obtain ⟨w, z⟩ := I.cell _ _ hc
      exact ⟨rfl, z.lt⟩
  have look : ∀ {y}, scope.names.lookup y = some .free → ∃ c, cenv.cells.lookup y = some c ∧ X.env.cells.lookup y = some c := fun {y} hl => by
    have hy : (y, NameKind.free) ∈ scope.names := PySem.mem_of_lookup hl
    obtain ⟨c', e'⟩ := mem_lookup (cloFrom_has (cells := X.env.cells) (acc := []) hy)
    rw [← hcl] at e'
    exact ⟨c', e', (mem e').1⟩
  have okB : (gcx X A' s H cenv fp [(a, obj)]).Ok := by
    refine ⟨I.ok.mod, by show cenv.scope.kind = _; rw [hsc]; exact ok.kind, by show cenv.globals = _; rw [← hcenv]; exact I.ok.glob, by show cenv.builtins = _; rw [← hcenv]; rfl, by show s.heap.objs.size ≤ cenv.locals; rw [hL]; exact hC,
      fun y z c e1 e2 => I.ok.inj y z c (mem e1).1 (mem e2).1, fun y hy => ?_, fun y c z e => (nomatch z), fun _ => hA, hfr, .inr ⟨rfl, hff⟩, fun b hb => ⟨?_, fun y c e z => ?_⟩, I.bs, Nat.le_trans I.ok.bsz I.sz, fun b o e hb => ?_, fun b hb z => ?_, I.stack, I.stkFree⟩
    · show ∃ c, cenv.cells.lookup y = some c
      rcases hy with hy | hy
      · have hy : cenv.scope.names.lookup y = some .cell := hy
        rw [hsc] at hy
        exact absurd rfl (ok.nocell _ (PySem.mem_of_lookup hy))
      · have hy : cenv.scope.names.lookup y = some .free := hy
        rw [hsc] at hy
        obtain ⟨c, h1, _⟩ := look hy
        exact ⟨c, h1⟩
    · show b ≠ cenv.locals
      rw [hL]
      intro z
      have := (hfp b hb).2
      rw [z] at this
      exact absurd this (Nat.not_lt.mpr hC)
    · exact (hfp b hb).1.2.2.2.2.1 y c (mem e).1 z
    · rcases (hfp b hb).1.2.2.2.1 with z | z
      · exact I.ok.noex b o e z
      · exact absurd (Nat.lt_of_lt_of_le (Heap.lt_size e) (Nat.le_trans I.ok.bsz z)) (Nat.lt_irrefl _)
    · rcases List.mem_cons.mp (I.stkSub b z) with z | z
      · exact (hfp b hb).1.2.1 z
      · exact (hfp b hb).1.2.2.1 z
  have frC : H C = none := I.hok.fresh hC
  have fra : H a = none := I.hok.fresh han
  refine ⟨okB, hos, hb, Un.kept kp, ⟨m5, by show Heap.Ns _ cenv.locals _; rw [hL]; exact hns, fun i y av e1 e2 e3 => ?_⟩, fun y c e => ?_, by show H cenv.locals = none; rw [hL]; exact frC, fun y c e => I.freeC y c (mem e).1, fun p hp => ?_, I.hok.kept kp, by rw [wipe_length]; exact I.len⟩
  · obtain ⟨e2, hne⟩ := wipe_some e2
    have hfr : scope.names.lookup y = some .free := by
      have e3 : Vis cenv.scope y := e3
      rw [hsc] at e3
      rcases e3 with e3 | e3 | e3
      · rcases ok.own _ (PySem.mem_of_lookup e3) rfl with e' | e'
        · obtain ⟨p, hp, hpy⟩ := List.mem_map.mp e'
          have e4 := ok.ix p hp
          have : p.1 = y := hpy
          rw [this] at e4
          exact absurd (List.mem_map.mpr ⟨p, hp, nodup_ix hN e4 e1⟩) hne
        · exact absurd (List.mem_of_getElem? e1) e'
      · exact absurd rfl (ok.nocell _ (PySem.mem_of_lookup e3))
      · exact e3
    obtain ⟨m, hn, hl⟩ := I.loc
    have hvis : Vis X.env.scope y := (ok.free _ (PySem.mem_of_lookup hfr) rfl).elim (fun k => .inr (.inl k)) (fun k => .inr (.inr k))
    obtain ⟨w, r, q⟩ := hl i y av e1 e2 hvis
    refine ⟨w, r, .inr ⟨.inr (by show cenv.scope.names.lookup y = some .free; rw [hsc]; exact hfr), ?_⟩⟩
    obtain ⟨c, h1, h2⟩ := look hfr
    rcases q with ⟨k, _⟩ | ⟨_, c', e', z⟩
    · have k : X.env.scope.names.lookup y = some .local := k
      rcases ok.free _ (PySem.mem_of_lookup hfr) rfl with k' | k' <;> rw [show X.env.scope.names.lookup y = _ from k'] at k <;> cases k
    · rw [h2] at e'; cases e'
      exact ⟨c, h1, z.keeps kp⟩
  · obtain ⟨w, z⟩ := I.cell y c (mem e).1
    exact ⟨w, z.keeps kp⟩
  · have e : p = (a, obj) := by simpa using hp
    subst e
    refine ⟨ha, fra, by show a ≠ cenv.locals; rw [hL]; exact haC, fun z => ?_, hobj⟩
    have z' := I.stkSub a z
    rcases List.mem_cons.mp z' with z' | z'
    · exact absurd (by rw [z'] at han; exact han) (Nat.not_le.mpr I.lt)
    · exact I.nofs han z'
/-- another around -/
theorem Inv.around {A' A2 : Around} {s0 : Shared} {H0 H' : Hp} {cenv : Env} {fp : List Addr} {pn : List (Addr × Obj)} {σ' : L2.St} {s' : Shared} (I : Inv (gcx X A' s0 H0 cenv fp pn) pins σ' H' s') (hh : A2.handled = none) (hf : A2.frames = A'.frames) : Inv (gcx X A2 s0 H0 cenv fp pn) pins σ' H' s' := by
  obtain ⟨o, a1, a2, a3, a4, a5, a6, a7, a8, a9, a10⟩ := I
  exact ⟨⟨o.mod, o.kind, o.glob, o.blt, o.above, o.inj, o.has, o.cab, fun _ => hh, by show A2.frames = _; rw [hf]; exact o.frames, o.stk, o.exf, o.bs, o.bsz, o.noex, o.exfs, o.funs, o.frf⟩, a1, a2, a3, a4, a5, a6, a7, a8, a9, a10⟩
/-- the table of generators changes -/
theorem Inv.gens {Y : Cx} {σ' : L2.St} {s' : Shared} {G : Array GenState} (I : Inv Y pins σ' H s') (hg : AllBare G) : Inv Y pins σ' H { s' with gens := G } := by
  obtain ⟨o, a1, a2, a3, a4, a5, a6, a7, a8, a9, a10⟩ := I
  exact ⟨o, a1, hg, a3, a4, a5, a6, a7, a8, a9, a10⟩
end
end PD

set_option Elab.async false
set_option linter.all false
set_option maxRecDepth 100000
set_option maxHeartbeats 2000000
namespace PD
open PySem PySem.Spec PyProof.Rows L2

/-- all that a generator expression's run leans on -/
structure GEnvr where
  W : Wd
  X : Cx
  s : Shared
  H : Hp
  cenv : Env
  fp : List Addr
  it : Addr
  a : Addr
  g : Nat
  obj : Obj
  tn : Nat → Heap → Prop
  vs : List Nat
  σ : L2.St
  ρ1 : Rn
  N1 : Nat
  len : Nat
  Ok : Nat → Store → Prop
  Yld : Nat → D → Store → Prop
namespace GEnvr
variable (e : GEnvr)
/-- the frame's state, whatever the around is -/
def GInv (σ' : L2.St) (H' : Hp) (s' : Shared) : Prop := ∀ A' : Around, A'.handled = none → A'.frames = some (e.cenv :: e.X.stack) → Inv (gcx e.X A' e.s e.H e.cenv e.fp [(e.a, e.obj)]) [] σ' H' s'
def GSt (i : Nat) (S : Store) (ρ : Rn) (H' : Hp) (s' : Shared) : Prop :=
  e.GInv (L2.wipe e.σ e.vs) H' s' ∧ e.tn i s'.heap ∧ (∀ b ∈ e.fp, H' b = none) ∧ RepS e.W ρ S H' ∧ Ext e.ρ1 e.N1 e.H ρ S.length H'
theorem GSt.same {e : GEnvr} {i : Nat} {S : Store} {ρ : Rn} {H' : Hp} {s' s2 : Shared} (h : e.GSt i S ρ H' s') (hh : s2.heap = s'.heap) (ho : s2.os = s'.os) (hg : AllBare s2.gens) : e.GSt i S ρ H' s2 := by
  obtain ⟨h1, h2, h3, h4, h5⟩ := h
  refine ⟨fun A' q1 q2 => ?_, by rw [hh]; exact h2, h3, h4, h5⟩
  obtain ⟨o, a1, a2, a3, a4, a5, a6, a7, a8, a9, a10⟩ := h1 A' q1 q2
  exact ⟨o, ho.trans a1, hg, by rw [hh]; exact a3, by rw [hh]; exact a4, by rw [hh]; exact a5, a6, a7, by rw [hh]; exact a8, by rw [hh]; exact a9, a10⟩
def Y : Protocol := fun n _ v s' kap => ∃ i S d x ρ H', i < e.len ∧ e.len - (i + 1) + 1 ≤ n ∧ RelV x v ∧ RepV e.W.K ρ S.length H' d x ∧ e.GSt (i + 1) S ρ H' s' ∧ e.Yld i d S ∧
  ∀ s'' : Shared, s''.heap = s'.heap → s''.os = s'.os → AllBare s''.gens → e.Ok (i + 1) S → kap (.send .none) s''
def Fin (_ : Nat) (_ s' : Shared) : Prop := ∃ S ρ H', e.GInv (L2.wipe e.σ e.vs) H' s' ∧ RepS e.W ρ S H' ∧ Ext e.ρ1 e.N1 e.H ρ S.length H' ∧ e.Ok e.len S
def R : GenEnd := fun n s₀ r s₁ => ((r = .ok (.ret .none) ∨ r = .ok .next) ∧ e.Fin n s₀ s₁) ∨ ∃ x, r = .error x ∧ False
end GEnvr
theorem setAll_len : ∀ {is : List Nat} {ds : List D} {δ : DEnv}, (setAll is ds δ).length = δ.length
  | [], _, _ => by simp [setAll]
  | _ :: _, [], _ => by simp [setAll]
  | i :: is, d :: ds, δ => by simp [setAll, setAll_len (is := is)]
theorem tset_len {t : Tg} {d : D} {δ δ' : DEnv} (h : tset t d δ = some δ') : δ'.length = δ.length := by
  unfold tset at h
  split at h
  · cases h; simp
  · split at h
    · cases h; exact setAll_len
    · cases h
  · cases h
theorem over_gen {A : Around} {elt tg iter : Expr} {ifs : List Expr} {scope : Scope} {pos : Pos} {it acc : Value} {cenv : Env} {l : List Env} (hf : A.frames = some l) :
    (A.over (.compLoop (.GeneratorExp elt [⟨tg, iter, ifs, 0⟩] scope pos) 0 it acc cenv) []).frames = some (cenv :: l) := by
  show pushEnvs [cenv] (pushEnvs [] A.frames) = _
  rw [hf]; rfl
section
variable {e : GEnvr} {G : Dn} {elt tg iter : Expr} {ifs : List Expr} {scope : Scope} {pos : Pos} {J : L2.It} {ds : List D} {δ : DEnv} {t : Tg} {c : DEnv → Store → Out Bool} {f : DEnv → Store → Out D} {k : Nat}
/-- what the rules of its parts ask of an around -/
def AOk (e : GEnvr) (k : Nat) (A' : Around) : Prop := A'.handled = none ∧ A'.frames = some (e.cenv :: e.X.stack) ∧ Room k A'
theorem seg_gx (hK : e.X.K = e.W.K) (hcalm : e.X.calm = true) (hco : e.cenv.scope.isCoroutine = false) (T : Turn e.X.prog e.X.w e.X.K tg J e.fp e.it e.tn) (hJ : Itm e.W e.ρ1 e.N1 e.H ds J) (hlen : ds.length = e.len) (hE : RepE e.W.K e.ρ1 e.N1 e.H δ e.σ)
    (hv : ∀ i ∈ t.slots, i ∈ e.vs) (hafp : e.a ∉ e.fp)
    (hg : ∀ A', AOk e k A' → PG (gcx e.X A' e.s e.H e.cenv e.fp [(e.a, e.obj)]) tg (tgR e.X.K t))
    (ht : ∀ A', AOk e k A' → PTs (gcx e.X A' e.s e.H e.cenv e.fp [(e.a, e.obj)]) ifs (tT e.W wNo c))
    (he : ∀ A', AOk e k A' → PE (gcx e.X A' e.s e.H e.cenv e.fp [(e.a, e.obj)]) elt (tD e.W wNo f))
    (run : ∀ i S d, ds[i]? = some d → e.Ok i S → ∃ r S', cBody t e.vs c f δ d S = .ok r S' ∧ (match r with | none => e.Ok (i + 1) S' | some y => e.Yld i y S'))
    {A : Around} (hA : A.handled = none) (hAf : A.frames = some e.X.stack) (hroom : Room k (A.over (.compLoop (.GeneratorExp elt [⟨tg, iter, ifs, 0⟩] scope pos) 0 (.ref e.it) .none e.cenv) [])) :
    ∀ (r i n : Nat) (s₀ s' : Shared) (S : Store) (ρ : Rn) (H' : Hp), r + i = e.len → r + 1 ≤ n → e.GSt i S ρ H' s' → e.Ok i S →
      Seg (model e.X.prog e.X.w) A e.R e.Y n s₀ (.compLoop (.GeneratorExp elt [⟨tg, iter, ifs, 0⟩] scope pos) 0 (.ref e.it) .none e.cenv)
        ((model e.X.prog e.X.w).den (.compLoop (.GeneratorExp elt [⟨tg, iter, ifs, 0⟩] scope pos) 0 (.ref e.it) .none e.cenv)) [] s' := by
  have hh' : (A.over (.compLoop (.GeneratorExp elt [⟨tg, iter, ifs, 0⟩] scope pos) 0 (.ref e.it) .none e.cenv) []).handled = none := hA
  have hf' := over_gen (elt := elt) (tg := tg) (iter := iter) (ifs := ifs) (scope := scope) (pos := pos) (it := .ref e.it) (acc := .none) (cenv := e.cenv) hAf
  generalize hAA : A.over (.compLoop (.GeneratorExp elt [⟨tg, iter, ifs, 0⟩] scope pos) 0 (.ref e.it) .none e.cenv) [] = AA at hh' hf' hroom
  have aok : AOk e k AA := ⟨hh', hf', hroom⟩
  have fpo : ∀ {σ' : L2.St} {H' : Hp} {s' : Shared} {i : Nat}, Inv (gcx e.X AA e.s e.H e.cenv e.fp [(e.a, e.obj)]) [] σ' H' s' → e.tn i s'.heap → (∀ b ∈ e.fp, H' b = none) → ∀ b ∈ e.fp, FpOk (gcx e.X AA e.s e.H e.cenv e.fp [(e.a, e.obj)]) [] H' b := fun {σ' H' s' i} I' st hn b hb =>
    ⟨hn b hb, (I'.ok.exf b hb).1, I'.ok.exfs b hb, .inl hb, fun x c q => (I'.ok.exf b hb).2 x c q, fun p hp z => by
      have hp' : p = (e.a, e.obj) := by simpa using hp
      subst hp'
      exact hafp (by rw [show e.a = b from z]; exact hb)⟩
  intro r
  induction r with
  | zero =>
    intro i n s₀ s' S ρ H' hi hn hst hok
    have hil : i = e.len := by omega
    subst hil
    obtain ⟨h1, h2, h3, h4, h5⟩ := id hst
    have I' := h1 AA hh' hf'
    show Seg _ A _ _ _ s₀ _ ((compTurn (.GeneratorExp elt [⟨tg, iter, ifs, 0⟩] scope pos) 0 (.ref e.it) .none e.cenv).onRaise (leaving e.cenv)) [] s'
    rw [compTurn_gen, Sem.onRaise_eq_wrap]
    refine seg_bind_wrap (wpAny_standAt ?_)
    refine seg_bind_wrap ?_
    rw [hAA]
    have stop : J.stop e.len H' := by rw [← hlen]; exact hJ.stop _ _ _ h5
    refine thnF (T.done (gcx e.X AA e.s e.H e.cenv e.fp [(e.a, e.obj)]) rfl rfl rfl hcalm e.len [] s' _ H' (fun _ _ => False) I' (fpo I' h2 h3) h2 stop) fun r s1 ⟨hr, I1⟩ => ?_
    subst hr
    exact seg_end (.ok .next) (.inl ⟨.inr rfl, S, ρ, H', fun A' q1 q2 => Inv.around I1 q1 (q2.trans hf'.symm), h4, h5, hok⟩)
  | succ r ih =>
    intro i n s₀ s' S ρ H' hi hn hst hok
    have hlt : i < ds.length := by omega
    obtain ⟨h1, h2, h3, h4, h5⟩ := id hst
    have I' := h1 AA hh' hf'
    show Seg _ A _ _ _ s₀ _ ((compTurn (.GeneratorExp elt [⟨tg, iter, ifs, 0⟩] scope pos) 0 (.ref e.it) .none e.cenv).onRaise (leaving e.cenv)) [] s'
    rw [compTurn_gen, Sem.onRaise_eq_wrap]
    refine seg_bind_wrap (wpAny_standAt ?_)
    refine seg_bind_wrap ?_
    rw [hAA]
    refine thnF (T.item (gcx e.X AA e.s e.H e.cenv e.fp [(e.a, e.obj)]) rfl rfl rfl hcalm i [] s' _ H' (fun _ _ => False) I' (fpo I' h2 h3) h2 (hJ.go _ _ _ _ h5 hlt)) fun rr s1 ⟨u, hr, h6⟩ => ?_
    subst hr
    refine seg_bind_wrap ?_
    rw [hAA]
    refine thnF h6 fun _ s2 ⟨x, H2, I2, r2, y2, st2, n2⟩ => ?_
    obtain ⟨rfl, d, hd, rd⟩ := hJ.yld _ _ _ _ _ _ h5 hlt y2
    obtain ⟨ry, S', hrun, hry⟩ := run i S d hd hok
    have hrun0 := hrun
    unfold cBody at hrun
    have E2 : RepE e.W.K ρ S.length H2 (wipeD δ e.vs) (L2.wipe e.σ e.vs) := (hE.mono h5).wipe e.vs
    have R2 : RepV e.W.K ρ S.length H2 d x := rd.mono h5
    cases hts : tset t d (wipeD δ e.vs) with
    | none => rw [hts] at hrun; cases hrun
    | some δ' =>
      rw [hts] at hrun
      simp only [liftO_some, Out.bind_ok] at hrun
      have I2' := I2.pinned (fpo I2 st2 n2) (T.obj _ _ st2)
      -- what stands behind a part's run
      have back : ∀ {σ3 : L2.St} {H3 : Hp} {s3 : Shared}, Inv (gcx e.X AA e.s e.H e.cenv e.fp [(e.a, e.obj)]) ([] ++ pinsAt e.fp s2.heap) σ3 H3 s3 → L2.wipe σ3 e.vs = L2.wipe e.σ e.vs → σ3.length = (L2.wipe e.σ e.vs).length →
          e.GInv (L2.wipe e.σ e.vs) H3 s3 ∧ e.tn (i + 1) s3.heap ∧ ∀ b ∈ e.fp, H3 b = none := fun {σ3 H3 s3} I3 hw hwl => by
        have pin' : ∀ b ∈ e.fp, ∀ o, s2.heap.get? b = some o → s3.heap.get? b = some o ∧ H3 b = none := fun b hb o q =>
          let z := I3.pin (b, o) (List.mem_append_right _ (List.mem_append_right _ (mem_pinsAt hb q)))
          ⟨z.1, z.2.1⟩
        refine ⟨fun A' q1 q2 => Inv.around ((I3.unpinned (pins := [])).weak hwl.symm fun j v q => ?_) q1 (q2.trans hf'.symm), T.keep _ _ _ st2 fun b hb o q => (pin' b hb o q).1, fun b hb => ?_⟩
        · rw [← hw] at q
          exact (wipe_some q).1
        · obtain ⟨o, q, _⟩ := T.obj _ _ st2 b hb
          exact (pin' b hb o q).2
      refine seg_bind_wrap ?_
      rw [hAA]
      refine thnF ((hg AA aok).run _ s2 _ H2 x u (fun σ3 H3 => H3 = H2 ∧ RepE e.W.K ρ S.length H2 δ' σ3 ∧ L2.wipe σ3 e.vs = L2.wipe e.σ e.vs ∧ σ3.length = (L2.wipe e.σ e.vs).length) I2' r2 (tg_ok hK hts R2 E2 fun σ' E' hw => ⟨rfl, E', by rw [hw e.vs hv, wipe_wipe], by rw [← E'.len, ← E2.len]; exact (tset_len hts)⟩)) fun _ s3 ⟨σ3, H3, I3, hH3, E3, hw3, hl3⟩ => ?_
      subst hH3
      cases hc : c δ' S with
      | bad => rw [hc] at hrun; cases hrun
      | exc x' S3 => rw [hc] at hrun; cases hrun
      | ok b S3 =>
        rw [hc] at hrun
        simp only [Out.bind_ok] at hrun
        refine seg_bind_wrap ?_
        rw [hAA]
        refine thnF ((ht AA aok).run _ s3 σ3 H3 (fun b' H4 => b' = b ∧ ∃ ρ4, Ext ρ S.length H3 ρ4 S3.length H4 ∧ RepS e.W ρ4 S3 H4) I3 ⟨δ', S, ρ, h4, E3, by rw [hc]; exact fun ρ4 H4 e4 s4 b' hb' => ⟨hb'.symm, ρ4, e4, s4⟩⟩) fun b' s4 ⟨H4, I4, hb', ρ4, e4, hS4⟩ => ?_
        subst hb'
        cases b' with
        | false =>
          simp only [Bool.false_eq_true, if_false, Out.ok.injEq] at hrun ⊢
          obtain ⟨rfl, rfl⟩ := hrun
          obtain ⟨g1, g2, g3⟩ := back I4 hw3 hl3
          exact seg_again rfl (ih (i + 1) n s₀ s4 S3 ρ4 H4 (by omega) (by omega) ⟨g1, g2, g3, hS4, h5.trans e4⟩ hry)
        | true =>
          simp only [if_true] at hrun ⊢
          cases hel : f δ' S3 with
          | bad => rw [hel] at hrun; cases hrun
          | exc x' S4 => rw [hel] at hrun; cases hrun
          | ok y S4 =>
            rw [hel] at hrun
            simp only [Out.bind_ok, Out.ok.injEq] at hrun
            obtain ⟨rfl, rfl⟩ := hrun
            have hy : ∀ v, yieldOut e.cenv v = yieldValue v := fun v => by simp only [yieldOut, hco, Bool.false_eq_true, if_false]
            simp only [hy]
            rw [Sem.bind_eq_wrap', Sem.bind_eq_wrap', Sem.wrap_wrap, Sem.wrap_wrap]
            refine seg_wrap ?_
            rw [hAA]
            refine thnF ((he AA aok).run _ s4 σ3 H4 (fun v H5 => ∃ ρ5, Ext ρ4 S3.length H4 ρ5 S4.length H5 ∧ RepS e.W ρ5 S4 H5 ∧ RepV e.W.K ρ5 S4.length H5 y v) I4 ⟨δ', S3, ρ4, hS4, E3.mono e4, by rw [hel]; exact fun ρ5 H5 e5 s5 v hv => ⟨ρ5, e5, s5, hv⟩⟩) fun yv s5 ⟨v, H5, I5, r5, ρ5, e5, hS5, rv5⟩ => ?_
            obtain ⟨g1, g2, g3⟩ := back I5 hw3 hl3
            obtain ⟨n', rfl⟩ : ∃ n', n = n' + 1 := ⟨n - 1, by omega⟩
            have gst : e.GSt (i + 1) S4 ρ5 H5 s5 := ⟨g1, g2, g3, hS5, (h5.trans e4).trans e5⟩
            refine seg_at (seg_yield rfl rfl rfl ⟨i, S4, y, v, ρ5, H5, by omega, by omega, r5, rv5, gst, hry, fun s'' q1 q2 q3 q4 => ?_⟩)
            exact seg_again rfl (ih (i + 1) n' s'' s'' S4 ρ5 H5 (by omega) (by omega) (gst.same q1 q2 q3) q4)
end
end PD

set_option Elab.async false
set_option linter.all false
set_option maxRecDepth 100000
set_option maxHeartbeats 2000000
namespace PD
open PySem PySem.Spec PyProof.Rows L2

/-- where the consumer stands -/
structure Near (X : Cx) (A : Around) : Prop where
  hd : A.handled = none
  fr : A.frames = some X.stack
  dp : A.depth ≤ X.A.depth
  un : A.units ≤ X.A.units + 8
theorem Near.in1 {X : Cx} {A : Around} (h : Near X A) (hu : A.units + 1 ≤ X.A.units + 8) : Near X A.in1 := ⟨h.hd, h.fr, h.dp, hu⟩
theorem Near.room {X : Cx} {A : Around} {k : Nat} (h : Near X A) (r : Room (k + 1) X.A) {elt tg iter : Expr} {ifs : List Expr} {scope : Scope} {pos : Pos} {it acc : Value} {cenv : Env} : Room k (A.over (.compLoop (.GeneratorExp elt [⟨tg, iter, ifs, 0⟩] scope pos) 0 it acc cenv) []) := by
  have h1 := r.dp
  have h2 := r.un
  have h3 := h.dp
  have h4 := h.un
  refine ⟨h.hd, ?_, ?_⟩
  · show A.depth + 0 + 1 + 3 * k + 5 < recursionLimit
    omega
  · show A.units + 0 + 3 + 16 * k + 200 < cLine
    omega
/-- the generator sleeps ahead of turn i; nothing but the table of generators has changed since -/
def GEnvr.Rdy (e : GEnvr) (A : Around) (n i : Nat) (S : Store) (ρ : Rn) (H' : Hp) (s' : Shared) : Prop :=
  e.GSt i S ρ H' s' ∧ AllBare s'.gens ∧ ∃ gs, s'.gens[e.g]? = some gs ∧ ∀ s'' : Shared, s''.heap = s'.heap → s''.os = s'.os → AllBare s''.gens → e.Ok i S → gs.Goes (model e.X.prog e.X.w) A e.R e.Y n (.send .none) s''
section
variable {e : GEnvr} {k : Nat}
/-- in the consumer's context -/
theorem GEnvr.back (e : GEnvr) {pins : List (Addr × Obj)} {σ' : L2.St} {H' : Hp} {s' : Shared} (I : Inv e.X pins e.σ e.H e.s) (hfp : ∀ b ∈ e.fp, FpOk e.X pins e.H b) (h : e.GInv σ' H' s') : Inv e.X pins e.σ H' s' := by
  have I6 := h { e.X.A with handled := none, frames := some (e.cenv :: e.X.stack) } rfl rfl
  exact I.call' (ch := e.fp) I6.os I6.base I6.hok I6.bare fun b hb => ⟨(hfp b hb).2.2.2.1, (hfp b hb).2.1, (hfp b hb).2.2.2.2.1, (hfp b hb).2.2.2.2.2⟩
theorem GEnvr.pinned (e : GEnvr) {σ' : L2.St} {H' : Hp} {s' : Shared} (h : e.GInv σ' H' s') : s'.heap.get? e.a = some e.obj := by
  have I6 := h { e.X.A with handled := none, frames := some (e.cenv :: e.X.stack) } rfl rfl
  exact (I6.pin (e.a, e.obj) (by simp)).1
/-- THE TURN: the generator is woken -/
theorem gx_next {A : Around} {s' : Shared} {n i : Nat} {S : Store} {ρ : Rn} {H' : Hp} {Q : Option Value → Shared → Prop} {E : Value → Shared → Prop} {pins : List (Addr × Obj)} (I0 : Inv e.X pins e.σ e.H e.s) (hfp : ∀ b ∈ e.fp, FpOk e.X pins e.H b)
    (hobj : ∀ h : Heap, h.get? e.a = some e.obj → h.IsGen e.a e.g) (hroom : Room k e.X.A) (nr : Near e.X A.in1) (h : e.Rdy A.in1 n i S ρ H' s') (hok : e.Ok i S) (hn : e.len - i + 1 ≤ n)
    (hN : ∀ S1 ρ1 H1 s1, Inv e.X pins e.σ H1 s1 → RepS e.W ρ1 S1 H1 → Ext e.ρ1 e.N1 e.H ρ1 S1.length H1 → e.Ok e.len S1 → Q none s1)
    (hY : ∀ j S1 d x v ρ1 H1 s1, j < e.len → e.len - (j + 1) + 1 ≤ n - 1 → RelV x v → RepV e.W.K ρ1 S1.length H1 d x → e.Yld j d S1 → e.Rdy A.in1 (n - 1) (j + 1) S1 ρ1 H1 s1 → Inv e.X pins e.σ H1 s1 → Q (some v) s1) :
    wpAny (model e.X.prog e.X.w) A (pyNext (.ref e.a)) Q E s' := by
  obtain ⟨gst, hb, gs, hgs, hgo⟩ := id h
  have hg := hobj _ (e.pinned gst.1)
  have I1 := e.back I0 hfp gst.1
  have hglt : e.g < s'.gens.size := by
    rcases Nat.lt_or_ge e.g s'.gens.size with h' | h'
    · exact h'
    · rw [Array.getElem?_eq_none h'] at hgs; cases hgs
  refine GenW.wpAny_gsz (n := e.g + 1) hglt ?_
  refine next_genG (F := e.Fin) (Er := fun _ _ => False) (Y := e.Y) (n := n) nr.hd I1.nolimit ?_ hg hgs ?_ ?_ ?_ (fun _ _ z => z.elim)
  · have := hroom.depth
    exact Nat.lt_of_le_of_lt nr.dp this
  · exact hgo (s'.setGen e.g .running) rfl rfl (allBare_setGen hb rfl) hok
  · intro v s1 gs' hgb hy hsz
    obtain ⟨j, S1, d, x, ρ1, H1, hj, hjn, rv, rd, gst1, hyl, kap⟩ := hy
    have hsz' : e.g < s1.gens.size := by
      have : e.g + 1 ≤ (s1.setGen e.g gs').gens.size := hsz
      rw [GenW.setGen_size] at this
      exact this
    have hb1 : AllBare s1.gens := (gst1.1 { e.X.A with handled := none, frames := some (e.cenv :: e.X.stack) } rfl rfl).bare
    have hb2 : AllBare (s1.setGen e.g gs').gens := allBare_setGen hb1 hgb
    have gst2 : e.GSt (j + 1) S1 ρ1 H1 (s1.setGen e.g gs') := gst1.same rfl rfl hb2
    cases n with
    | zero => omega
    | succ m => exact hY j S1 d x v ρ1 H1 _ hj hjn rv rd hyl ⟨gst2, hb2, gs', setGen_at hsz', fun s2 q1 q2 q3 q4 => kap s2 q1 q2 q3 q4⟩ (e.back I0 hfp gst2.1)
  · intro s1 ⟨S1, ρ1, H1, gi, hS1, hX1, hok1⟩ h' hk hsz
    have hb1 : AllBare s1.gens := (gi { e.X.A with handled := none, frames := some (e.cenv :: e.X.stack) } rfl rfl).bare
    have I2 := e.back I0 hfp gi
    refine hN S1 ρ1 H1 _ ?_ hS1 hX1 hok1
    have I3 := (PD.Inv.gens I2 (G := (s1.setGen e.g .finished).gens) (allBare_setGen hb1 rfl)).kept (t' := s1.toks) hk
    exact I3
/-- the start of the frame's code -/
theorem seg_gx0 {elt tg iter : Expr} {ifs : List Expr} {scope : Scope} {pos : Pos} {J : L2.It} {ds : List D} {δ : DEnv} {t : Tg} {c : DEnv → Store → Out Bool} {f : DEnv → Store → Out D} (hK : e.X.K = e.W.K) (hcalm : e.X.calm = true) (hco : e.cenv.scope.isCoroutine = false) (T : Turn e.X.prog e.X.w e.X.K tg J e.fp e.it e.tn) (hJ : Itm e.W e.ρ1 e.N1 e.H ds J) (hlen : ds.length = e.len) (hE : RepE e.W.K e.ρ1 e.N1 e.H δ e.σ)
    (hv : ∀ i ∈ t.slots, i ∈ e.vs) (hafp : e.a ∉ e.fp)
    (hg : ∀ A', AOk e k A' → PG (gcx e.X A' e.s e.H e.cenv e.fp [(e.a, e.obj)]) tg (tgR e.X.K t))
    (ht : ∀ A', AOk e k A' → PTs (gcx e.X A' e.s e.H e.cenv e.fp [(e.a, e.obj)]) ifs (tT e.W wNo c))
    (he : ∀ A', AOk e k A' → PE (gcx e.X A' e.s e.H e.cenv e.fp [(e.a, e.obj)]) elt (tD e.W wNo f))
    (run : ∀ i S d, ds[i]? = some d → e.Ok i S → ∃ r S', cBody t e.vs c f δ d S = .ok r S' ∧ (match r with | none => e.Ok (i + 1) S' | some y => e.Yld i y S'))
    {A : Around} (nr : Near e.X A) (hroom : Room (k + 1) e.X.A) {n : Nat} {s₀ s' : Shared} {S : Store} {ρ : Rn} {H' : Hp} (hn : e.len + 1 ≤ n) (hst : e.GSt 0 S ρ H' s') (hok : e.Ok 0 S) :
      Seg (model e.X.prog e.X.w) A e.R e.Y n s₀ (.compStart (.GeneratorExp elt [⟨tg, iter, ifs, 0⟩] scope pos) 0 (.ref e.it) .none e.cenv)
        ((model e.X.prog e.X.w).den (.compStart (.GeneratorExp elt [⟨tg, iter, ifs, 0⟩] scope pos) 0 (.ref e.it) .none e.cenv)) [] s' := by
  have loop := seg_gx (iter := iter) (scope := scope) (pos := pos) hK hcalm hco T hJ hlen hE hv hafp hg ht he run nr.hd nr.fr (nr.room hroom) e.len 0 n s₀ s' S ρ H' (Nat.add_zero _) hn hst hok
  show Seg _ A _ _ _ s₀ _ ((compStart (.GeneratorExp elt [⟨tg, iter, ifs, 0⟩] scope pos) 0 (.ref e.it) .none e.cenv).onRaise (leaving e.cenv)) [] s'
  unfold compStart
  rw [Sem.onRaise_eq_wrap]
  show Seg _ A _ _ _ s₀ _ ((ask >>= _).wrap _ _ _ _) [] s'
  refine seg_bind_wrap (wpAny_askSetting ?_)
  split
  · exact seg_again rfl loop
  · first
      | exact seg_bind_wrap (wpAny_rule (seg_bind_wrap (wpAny_standAt (seg_bind_wrap (T.self _ 0 s' _ _ hst.2.1 (seg_again rfl loop))))))
      | (refine seg_bind_wrap (wpAny_rule ?_); show Seg _ A _ _ _ s₀ _ ((standAt iter.pos >>= _).wrap _ _ _ _) [] s'; exact seg_bind_wrap (wpAny_standAt (seg_bind_wrap (T.self _ 0 s' _ _ hst.2.1 (seg_again rfl loop)))))
variable {F : D → Store → Out (Option D)} {ds : List D} {b0 : Bool} {S0 : Store} {isAny : Bool}
theorem allL_run {i : Nat} {S : Store} {d : D} (hd : ds[i]? = some d) (h : allL isAny F (ds.drop i) S = .ok b0 S0) :
    ∃ r S', F d S = .ok r S' ∧ (match r with | none => allL isAny F (ds.drop (i + 1)) S' = .ok b0 S0 | some y => ((liftB S' y.asB).bind fun b S2 => if b = isAny then .ok isAny S2 else allL isAny F (ds.drop (i + 1)) S2) = .ok b0 S0) := by
  have hi : i < ds.length := (List.getElem?_eq_some_iff.mp hd).1
  have hdrop : ds.drop i = d :: ds.drop (i + 1) := by
    rw [List.drop_eq_getElem_cons hi]
    congr 1
    rw [List.getElem?_eq_getElem hi] at hd
    exact Option.some.inj hd
  rw [hdrop] at h
  simp only [allL] at h
  cases hF : F d S with
  | bad => rw [hF] at h; cases h
  | exc _ _ => rw [hF] at h; cases h
  | ok r S' =>
    rw [hF] at h
    refine ⟨r, S', rfl, ?_⟩
    cases r with
    | none => exact h
    | some y => exact h
/-- what the loops of all and any need -/
structure AllE (e : GEnvr) (isAny : Bool) (F : D → Store → Out (Option D)) (ds : List D) (b0 : Bool) (S0 : Store) : Prop where
  ok : e.Ok = fun i S => allL isAny F (ds.drop i) S = .ok b0 S0
  yl : e.Yld = fun j d S => ((liftB S d.asB).bind fun b S2 => if b = isAny then .ok isAny S2 else allL isAny F (ds.drop (j + 1)) S2) = .ok b0 S0
  len : ds.length = e.len
theorem all_loop {pins : List (Addr × Obj)} {Rr : Result → Shared → Prop} (ae : AllE e isAny F ds b0 S0) (I0 : Inv e.X pins e.σ e.H e.s) (hfp : ∀ b ∈ e.fp, FpOk e.X pins e.H b) (hobj : ∀ h : Heap, h.get? e.a = some e.obj → h.IsGen e.a e.g) (hcalm : e.X.calm = true) (hroom : Room k e.X.A)
    (hfr : e.X.A.frames = some e.X.stack)
    (fin : ∀ ρ1 H1 s1, Inv e.X pins e.σ H1 s1 → RepS e.W ρ1 S0 H1 → Ext e.ρ1 e.N1 e.H ρ1 S0.length H1 → Rr (.ok (.ret (.bool b0))) s1) :
    ∀ (n i : Nat) (s' : Shared) (S : Store) (ρ : Rn) (H' : Hp), e.len - i + 1 ≤ n → e.Rdy e.X.A.in1.in1 n i S ρ H' s' → e.Ok i S →
      codeAny (model e.X.prog e.X.w) e.X.A (.builtin (if isAny then "any.loop" else "all.loop") ⟨[.ref e.a], []⟩) Rr s' := by
  have nr : Near e.X e.X.A.in1.in1 := ⟨hroom.hd, hfr, Nat.le_refl _, by show e.X.A.units + 1 + 1 ≤ _; omega⟩
  intro n
  induction n with
  | zero => intro i s' S ρ H' hn; omega
  | succ n ih =>
    intro i s' S ρ H' hn hr hok
    have stop : ∀ S1 ρ1 H1 s1, Inv e.X pins e.σ H1 s1 → RepS e.W ρ1 S1 H1 → Ext e.ρ1 e.N1 e.H ρ1 S1.length H1 → e.Ok e.len S1 → Rr (.ok (.ret (.bool (!isAny)))) s1 := fun S1 ρ1 H1 s1 I1 hS1 hX1 hok1 => by
      rw [ae.ok] at hok1
      rw [← ae.len, List.drop_length] at hok1
      simp only [allL, Out.ok.injEq] at hok1
      obtain ⟨rfl, rfl⟩ := hok1
      exact fin ρ1 H1 s1 I1 hS1 hX1
    cases isAny with
    | false =>
      simp only [Bool.false_eq_true, if_false]
      refine codeAny_builtin PySem.F.entry_all_loop ?_
      rw [Around.under_plainId PySem.F.plain_all_loop _]
      show wpAny _ e.X.A.in1 (pyNext (.ref e.a) >>= _) _ _ s'
      refine wpAny_bind (gx_next (A := e.X.A.in1) I0 hfp hobj hroom nr hr hok hn (fun S1 ρ1 H1 s1 I1 hS1 hX1 hok1 => ?_) (fun j S1 d x v ρ1 H1 s1 hj hjn rv rd hy hr1 I1 => ?_))
      · refine wpAny_bind (wpAny_rule (wpAny_pure ?_))
        exact stop S1 ρ1 H1 s1 I1 hS1 hX1 hok1
      · rw [ae.yl] at hy
        cases hb : d.asB with
        | none => rw [hb] at hy; cases hy
        | some b =>
          rw [hb] at hy
          simp only [liftB_some, Out.bind_ok] at hy
          have := asB_rep hb rd
          subst this
          cases rv
          refine wpAny_bind (wpAny_holding (wpAny_truthy_bool ?_))
          refine wpAny_bind (wpAny_letGo ?_)
          cases b with
          | true =>
            simp only [if_true]
            simp only [Bool.true_eq_false, if_false] at hy
            refine wpAny_pure ⟨plainId_quiet PySem.F.plain_all_loop _, ?_⟩
            have z := ih (j + 1) s1 S1 ρ1 H1 (by omega) hr1 (by rw [ae.ok]; exact hy)
            simpa using z
          | false =>
            simp only [if_true, Out.ok.injEq] at hy
            obtain ⟨rfl, rfl⟩ := hy
            simp only [Bool.false_eq_true, if_false]
            refine wpAny_bind (wpAny_rule (wpAny_pure ?_))
            exact fin ρ1 H1 s1 I1 hr1.1.2.2.2.1 hr1.1.2.2.2.2
    | true =>
      simp only [if_true]
      refine codeAny_builtin PySem.F.entry_any_loop ?_
      rw [Around.under_plainId PySem.F.plain_any_loop _]
      show wpAny _ e.X.A.in1 (pyNext (.ref e.a) >>= _) _ _ s'
      refine wpAny_bind (gx_next (A := e.X.A.in1) I0 hfp hobj hroom nr hr hok hn (fun S1 ρ1 H1 s1 I1 hS1 hX1 hok1 => ?_) (fun j S1 d x v ρ1 H1 s1 hj hjn rv rd hy hr1 I1 => ?_))
      · refine wpAny_bind (wpAny_rule (wpAny_pure ?_))
        exact stop S1 ρ1 H1 s1 I1 hS1 hX1 hok1
      · rw [ae.yl] at hy
        cases hb : d.asB with
        | none => rw [hb] at hy; cases hy
        | some b =>
          rw [hb] at hy
          simp only [liftB_some, Out.bind_ok] at hy
          have := asB_rep hb rd
          subst this
          cases rv
          refine wpAny_bind (wpAny_holding (wpAny_truthy_bool ?_))
          refine wpAny_bind (wpAny_letGo ?_)
          cases b with
          | false =>
            simp only [Bool.false_eq_true, if_false] at hy ⊢
            refine wpAny_pure ⟨plainId_quiet PySem.F.plain_any_loop _, ?_⟩
            have z := ih (j + 1) s1 S1 ρ1 H1 (by omega) hr1 (by rw [ae.ok]; exact hy)
            simpa using z
          | true =>
            simp only [if_true, Out.ok.injEq] at hy
            obtain ⟨rfl, rfl⟩ := hy
            simp only [if_true]
            refine wpAny_bind (wpAny_rule (wpAny_pure ?_))
            exact fin ρ1 H1 s1 I1 hr1.1.2.2.2.1 hr1.1.2.2.2.2
theorem all_call {pins : List (Addr × Obj)} {Q : Value → Shared → Prop} {E : Value → Shared → Prop} (ae : AllE e isAny F ds b0 S0) (I0 : Inv e.X pins e.σ e.H e.s) (hfp : ∀ b ∈ e.fp, FpOk e.X pins e.H b) (hobj : ∀ h : Heap, h.get? e.a = some e.obj → h.IsGen e.a e.g) (hcalm : e.X.calm = true) (hroom : Room k e.X.A)
    (hfr : e.X.A.frames = some e.X.stack)
    (fin : ∀ ρ1 H1 s1, Inv e.X pins e.σ H1 s1 → RepS e.W ρ1 S0 H1 → Ext e.ρ1 e.N1 e.H ρ1 S0.length H1 → Q (.bool b0) s1)
    {n : Nat} {s' : Shared} {S : Store} {ρ : Rn} {H' : Hp} (hn : e.len + 1 ≤ n) (hr : e.Rdy e.X.A.in1.in1 n 0 S ρ H' s') (hok : e.Ok 0 S) :
    wpAny (model e.X.prog e.X.w) e.X.A (call (.builtin (if isAny then "any" else "all")) [.ref e.a]) Q E s' := by
  have loop := fun (Rr : Result → Shared → Prop) fin => all_loop (Rr := Rr) ae I0 hfp hobj hcalm hroom hfr fin n 0 s' S ρ H' (by omega) hr hok
  have hg := hobj _ (e.pinned hr.1.1)
  cases isAny with
  | false =>
    simp only [Bool.false_eq_true, if_false] at loop ⊢
    refine call_function_tree PySem.F.kind_all PySem.F.plain_all PySem.F.entry_all (PySem.F.args_all1 _) ?_
    unfold Builtin.«all»
    refine wpAny_bind (m := oneArg "all" _) (wpAny_pure ?_)
    refine wpAny_bind (wpAny_pyIter_gen hg ?_)
    exact wpAny_pure ⟨plainId_quiet PySem.F.plain_all_loop _, loop _ fin⟩
  | true =>
    simp only [if_true] at loop ⊢
    refine call_function_tree PySem.F.kind_any PySem.F.plain_any PySem.F.entry_any (PySem.F.args_any1 _) ?_
    unfold Builtin.«any»
    refine wpAny_bind (m := oneArg "any" _) (wpAny_pure ?_)
    refine wpAny_bind (wpAny_pyIter_gen hg ?_)
    exact wpAny_pure ⟨plainId_quiet PySem.F.plain_any_loop _, loop _ fin⟩
end
end PD

set_option Elab.async false
set_option linter.all false
set_option maxRecDepth 100000
set_option maxHeartbeats 2000000
namespace PD
open PySem PySem.Spec PyProof.Rows L2
open GxR (TabB TabG inv_tab sh_eta)

section
variable {W : Wd} {ρ : Rn} {S : Store} {H : Hp} {P : Addr} {ps ps' : Array Value} {N : Nat}
theorem Ext.tab (h : H P = some (.tbl ps)) : Ext ρ N H ρ N (upd H P (.tbl ps')) where
  le := Nat.le_refl _
  agree := fun _ _ => rfl
  tups := fun a xs e => by rw [upd_ne (ne_of e h (by intro z; cases z))]; exact e
  frzs := fun a x u e => by rw [upd_ne (ne_of e h (by intro z; cases z))]; exact e
  keep := fun a x e _ t => by rw [upd_ne (ne_of e h (fun z => t _ z))]; exact e
  there := fun a e => by
    by_cases q : a = P
    · rw [q, upd_same]; simp
    · rw [upd_ne q]; exact e
  fresh := fun i h1 h2 => absurd h2 (Nat.not_lt.mpr h1)
  hid := rfl
theorem RepS.tab (s : RepS W ρ S H) (h : H P = some (.tbl ps)) (ht : TriplesOk ps'.toList) : RepS W ρ S (upd H P (.tbl ps')) where
  at_ := fun i c e => (s.at_ i c e).mono (Ext.tab h) fun x q => by
    rw [upd_ne (ne_of q h (fun z => ?_))]; exact q
    subst z
    obtain ⟨o, q2, mu⟩ := (s.at_ i c e).there
    rw [q] at q2; cases q2
    exact mu
  inj := s.inj
  tabs := fun q hq => by
    obtain ⟨qs, e, t⟩ := s.tabs q hq
    by_cases z : q = P
    · subst z; exact ⟨ps', upd_same, ht⟩
    · exact ⟨qs, by rw [upd_ne z]; exact e, t⟩
  hid := fun a ha => let ⟨⟨xs, e⟩, n⟩ := s.hid a ha; ⟨⟨xs, by rw [upd_ne (ne_of e h (by intro z; cases z))]; exact e⟩, n⟩
end
section
variable {X : Cx} {W : Wd} {Wx : WX} {elt tg iter : Expr} {ifs : List Expr} {scope : Scope} {own : List (Str × Nat)} {p pos gpos : Pos} {t : Tg} {src : DEnv → Store → Out Src} {c : DEnv → Store → Out Bool} {f : DEnv → Store → Out D} {k : Nat} {isAny : Bool}
/-- a boot fact for both -/
theorem boot_aa : bootBuiltins (if isAny then ("any" : Str) else ("all" : Str)) = some (.builtin (if isAny then "any" else "all")) := by cases isAny <;> decide +kernel
theorem g_all (hK : X.K = W.K) (hr : Room (k + 1) X.A) (hcalm : X.calm = true) {nm : Str} (hnm : nm = if isAny then ("any" : Str) else ("all" : Str)) (hg : Gl X nm) (hm : X.mg nm = none) {cc P : Addr} (TB : TabB X.base X.mg cc P) (hPT : P ∈ W.T) (hcode : X.env.code = .ref cc) (hN : X.N.Nodup)
    (ok : GexOk X.N X.env.scope scope own) (hv : ∀ i ∈ t.slots, i ∈ own.map (·.2)) (hi : PI X tg iter (iI W Wx src)) (hs : ∀ v, genFold iter X.env v = pure v)
    (hgt : ∀ (A' : Around) (s : Shared) (H : Hp) (C : Addr) (code : Value) (fp : List Addr) (pn : List (Addr × Obj)), A'.handled = none → Room k A' → PG (gcx X A' s H (genEnv scope (cloFrom X.env.cells scope.names []) C code builtinsNs X.env) fp pn) tg (tgR X.K t))
    (ht : ∀ (A' : Around) (s : Shared) (H : Hp) (C : Addr) (code : Value) (fp : List Addr) (pn : List (Addr × Obj)), A'.handled = none → Room k A' → PTs (gcx X A' s H (genEnv scope (cloFrom X.env.cells scope.names []) C code builtinsNs X.env) fp pn) ifs (tT W wNo c))
    (he : ∀ (A' : Around) (s : Shared) (H : Hp) (C : Addr) (code : Value) (fp : List Addr) (pn : List (Addr × Obj)), A'.handled = none → Room k A' → PE (gcx X A' s H (genEnv scope (cloFrom X.env.cells scope.names []) C code builtinsNs X.env) fp pn) elt (tD W wNo f)) :
    PE X (.Call (.Name nm p) [.GeneratorExp elt [⟨tg, iter, ifs, 0⟩] scope gpos] [] pos)
      (tD W Wx fun δ S => (src δ S).bind fun s S1 => (liftO S1 s.items).bind fun ds S1 => (nox (allL isAny (cBody t (own.map (·.2)) c f δ) ds S1)).bind fun b S2 => .ok (.bl b) S2) := by
  have he0 : starEach [.GeneratorExp elt [⟨tg, iter, ifs, 0⟩] scope gpos] X.env = (false, eval (.GeneratorExp elt [⟨tg, iter, ifs, 0⟩] scope gpos) X.env) :: starEach [] X.env := rfl
  refine ⟨fun pins s σ H Q I ⟨δ, S, ρ, s0, E, h⟩ => ?_⟩
  have hbt : bootBuiltins nm = some (.builtin (if isAny then "any" else "all")) := by rw [hnm]; exact boot_aa
  refine wpAny_Call_Name_kw (ld_blt I hg hm hbt ?_ (by rw [hnm]; cases isAny <;> decide +kernel) (by rw [hnm]; cases isAny <;> decide +kernel))
  refine PyProof.Rows.callWith_builtin1 ?_ he0 (by rfl)
  rw [he0]
  show wpAny _ _ (spliced ((false, eval (.GeneratorExp elt [⟨tg, iter, ifs, 0⟩] scope gpos) X.env) :: backTo pos (starEach [] X.env))) _ _ s
  refine Calls.spliced_cons ?_
  refine wpAny_GeneratorExp_make ok.co (closure_ok (gex_free I ok)) ok.nocell ok.dot ok.kind hr.depth ?_ hs
  refine thn (hi.run pins s σ H _ I (rdg.next (rel := relSrc W) (Q' := fun J H1 => ∃ sr S1 ρ1, RepS W ρ1 S1 H1 ∧ RepE W.K ρ1 S1.length H1 δ σ ∧ relSrc W ρ1 S1.length H1 sr J ∧ Cont W Wx σ (relD W) ((liftO S1 sr.items).bind fun ds S1 => (nox (allL isAny (cBody t (own.map (·.2)) c f δ) ds S1)).bind fun b S2 => .ok (.bl b) S2) ρ1 S1.length H1 Q) s0 E h fun J H1 sr S1 ρ1 e1 s1 E1 r1 h1 => ⟨sr, S1, ρ1, s1, E1, r1, h1⟩)) fun xv s1 hx => thn hx fun itv s2 ⟨it, fp, tn, J, H2, eit, I2, T, st2, f2, sr, S1, ρ1, hS, hE, hrel, hC⟩ => ?_
  subst eit
  obtain ⟨ds, eds, hC2⟩ := Cont.oO hC
  have hsr : sr = .st ds := by cases sr with | st _ => cases eds; rfl | lv _ => cases eds
  subst hsr
  have hJ : Itm W ρ1 S1.length H2 ds J := hrel
  obtain ⟨b0, S0, hall⟩ := nox_ok_of hC2
  rw [hall] at hC2
  simp only [nox_ok, Out.bind_ok] at hC2
  obtain ⟨ps, hP, htr⟩ := hS.tabs P hPT
  have hPs : s2.heap.get? P = some { cls := .none, data := .fields ps } := I2.hok P _ hP
  have hPlt : P < s2.heap.objs.size := Heap.lt_size hPs
  have cd : PySem.W.CodeHd s2.heap cc P := TB.code.keeps fun b u q => I2.bk b u q
  have sz : ∀ b ∈ fp, b < s2.heap.objs.size := fun b hb => by
    obtain ⟨o, q, _⟩ := T.obj _ _ st2 b hb
    exact Heap.lt_size q
  refine ⟨I2.nolimit, ?_⟩
  -- behind the code object
  have cont : ∀ (code : Value) (h3 : Heap) (tk : Nat) (ps' : Array Value), (∀ b u, b ≠ P → s2.heap.get? b = some u → h3.get? b = some u) → h3.get? P = some { cls := .none, data := .fields ps' } → (∃ more, ps' = ps ++ more) → TriplesOk ps'.toList → s2.heap.objs.size ≤ h3.objs.size →
      wpAny (model X.prog X.w) X.A (builtinsFor X.env.globals X.env.builtins) (fun bi s₄ =>
        ∀ h', h'.Ns s₄.heap.objs.size (fun y => if y = ".0" then some (.ref it) else none) → Heap.SameBut s₄.heap.objs.size (s₄.heap.push { cls := .type "frame", data := .dict #[] }) h' →
          wpAny (model X.prog X.w) X.A (spliced (backTo pos (starEach [] X.env))) (fun vs s6 => wpAny (model X.prog X.w) X.A (call (.builtin (if isAny then "any" else "all")) (.ref h'.objs.size :: vs)) (EP X pins σ Q) X.xe s6) X.xe { s₄ with
            gens := s₄.gens.push (.fresh (.compStart (.GeneratorExp elt [⟨tg, iter, ifs, 0⟩] scope gpos) 0 (.ref it) .none (genEnv scope (cloFrom X.env.cells scope.names []) s₄.heap.objs.size code bi X.env))),
            toks := s₄.toks + 1 + 1 + 1,
            heap := h'.push { cls := .type "generator", data := .fields #[.int s₄.gens.size 0, .str "<genexpr>" (s₄.toks + 1), .str (X.env.qual ++ "<genexpr>") (s₄.toks + 1 + 1)] } }) X.xe { s2 with heap := h3, toks := tk } := by
    intro code h3 tk ps' keep3 hP3 ⟨more, em⟩ ht3 hsz3
    subst em
    obtain ⟨bm, ob, e1, e2, e3, e4, e5, e6, e7, e8⟩ := TB.bm
    have I3 : Inv X pins σ (upd H2 P (.tbl (ps ++ more))) { s2 with heap := h3, gens := s2.gens, drawn := s2.drawn, toks := tk } := inv_tab I2 hP keep3 hP3 I2.bare
    have gl3 : h3.Ns mainGlobals X.mg := by
      obtain ⟨o, es, ep, ho, hd, hr⟩ := I2.mod.glob
      have := I2.bk _ _ ho
      exact ⟨o, es, ep, keep3 _ _ TB.gP this, hd, hr⟩
    refine wpAny_builtinsFor (m := X.mg) (by rw [I.ok.glob]; exact gl3) e1 e2 (keep3 _ _ e4 (I2.bk _ _ e5)) e6 e7 e8 ?_
    intro h' hn' hs'
    have hsize : h'.objs.size = h3.objs.size + 1 := by rw [hs'.1, Heap.size_push]
    have keep' : ∀ b o, h3.get? b = some o → h'.get? b = some o := fun b o q => hs'.extBut b o (Nat.ne_of_lt (Heap.lt_size q)) (Heap.get?_push_of_some _ q)
    refine Calls.spliced_nil ?_
    generalize hobjE : ({ cls := .type "generator", data := .fields #[.int s2.gens.size 0, .str "<genexpr>" (tk + 1), .str (X.env.qual ++ "<genexpr>") (tk + 1 + 1)] } : Obj) = gobj
    generalize hs5 : ({ ({ s2 with heap := h3, toks := tk } : Shared) with
            gens := s2.gens.push (.fresh (.compStart (.GeneratorExp elt [⟨tg, iter, ifs, 0⟩] scope gpos) 0 (.ref it) .none (genEnv scope (cloFrom X.env.cells scope.names []) h3.objs.size code builtinsNs X.env))),
            toks := tk + 1 + 1 + 1,
            heap := h'.push gobj } : Shared) = s5
    have h5 : s5.heap = h'.push gobj := by rw [← hs5]
    have g5 : s5.gens = s2.gens.push (.fresh (.compStart (.GeneratorExp elt [⟨tg, iter, ifs, 0⟩] scope gpos) 0 (.ref it) .none (genEnv scope (cloFrom X.env.cells scope.names []) h3.objs.size code builtinsNs X.env))) := by rw [← hs5]
    have os5 : s5.os = s2.os := by rw [← hs5]
    have keep5 : ∀ b o, h3.get? b = some o → s5.heap.get? b = some o := fun b o q => by rw [h5]; exact Heap.get?_push_of_some _ (keep' b o q)
    let e : GEnvr := ⟨W, X, { s2 with heap := h3, toks := tk }, upd H2 P (.tbl (ps ++ more)), genEnv scope (cloFrom X.env.cells scope.names []) h3.objs.size code builtinsNs X.env, fp, it, h'.objs.size, s2.gens.size, gobj, tn, own.map (·.2), σ, ρ1, S1.length, ds.length,
      fun i S => allL isAny (cBody t (own.map (·.2)) c f δ) (ds.drop i) S = .ok b0 S0, fun j d S => ((liftB S d.asB).bind fun b S2 => if b = isAny then .ok isAny S2 else allL isAny (cBody t (own.map (·.2)) c f δ) (ds.drop (j + 1)) S2) = .ok b0 S0⟩
    have ne_P : ∀ b ∈ fp, b ≠ P := fun b hb z => by
      have q := (f2 b hb).1
      rw [z, hP] at q; cases q
    have hfp3 : ∀ b ∈ fp, FpOk X pins (upd H2 P (.tbl (ps ++ more))) b := fun b hb => ⟨by rw [upd_ne (ne_P b hb)]; exact (f2 b hb).1, (f2 b hb).2⟩
    have hAB : AllBare s5.gens := by rw [g5]; exact I2.bare.push rfl
    have eT : Ext ρ1 S1.length H2 ρ1 S1.length (upd H2 P (.tbl (ps ++ more))) := Ext.tab hP
    have gst : e.GSt 0 S1 ρ1 (upd H2 P (.tbl (ps ++ more))) s5 := by
      refine ⟨fun A' q1 q2 => ?_, T.keep _ _ _ st2 fun b hb o q => keep5 b o (keep3 b o (ne_P b hb) q), fun b hb => (hfp3 b hb).1, hS.tab hP ht3, .refl⟩
      refine gen_start (m5 := fun y => if y = ".0" then some (.ref it) else none) I3 ok hN (fun b hb => ⟨hfp3 b hb, Nat.lt_of_lt_of_le (sz b hb) hsz3⟩) (Nat.le_refl _) keep5 os5 hAB ?_ ?_ ?_ ?_ ?_ q1 q2
      · rw [h5]; exact hn'.push _
      · rw [h5]; exact Heap.get?_push_size _ (by rw [← hobjE]; rfl)
      · exact fun z => by have z' : h'.objs.size = h3.objs.size := z; omega
      · show h3.objs.size ≤ h'.objs.size
        omega
      · show ∀ v, gobj.data ≠ .cell v
        rw [← hobjE]; exact fun v z => nomatch z
    have hJ3 : Itm W ρ1 S1.length (upd H2 P (.tbl (ps ++ more))) ds J := ⟨fun ρ' N' H' i q => hJ.go ρ' N' H' i (eT.trans q), fun ρ' N' H' i x H'' q hi hy => let ⟨z1, d, z2, z3⟩ := hJ.yld ρ' N' H' i x H'' (eT.trans q) hi hy; ⟨z1, d, z2, z3.mono eT⟩, fun ρ' N' H' q => hJ.stop ρ' N' H' (eT.trans q)⟩
    have nr : Near X X.A.in1.in1 := ⟨hr.hd, I.ok.frames, Nat.le_refl _, by show X.A.units + 1 + 1 ≤ _; omega⟩
    have rdy : e.Rdy X.A.in1.in1 (ds.length + 1) 0 S1 ρ1 (upd H2 P (.tbl (ps ++ more))) s5 := by
      refine ⟨gst, hAB, .fresh (.compStart (.GeneratorExp elt [⟨tg, iter, ifs, 0⟩] scope gpos) 0 (.ref it) .none e.cenv), by rw [g5]; exact Array.getElem?_push_size .., fun s'' q1 q2 q3 q4 => ⟨rfl, ?_⟩⟩
      exact seg_gx0 (e := e) (k := k) hK hcalm ok.co T hJ3 rfl (hE.mono eT) hv (fun z => by have := sz _ z; have hh : h'.objs.size < s2.heap.objs.size := this; omega) (fun A' q => hgt A' _ _ _ _ _ _ q.1 q.2.2) (fun A' q => ht A' _ _ _ _ _ _ q.1 q.2.2) (fun A' q => he A' _ _ _ _ _ _ q.1 q.2.2)
        (fun i S d hd hok => allL_run hd hok) nr hr (Nat.le_refl _) (gst.same q1 q2 q3) q4
    refine all_call (e := e) (k := k + 1) (isAny := isAny) (F := cBody t (own.map (·.2)) c f δ) (ds := ds) (b0 := b0) (S0 := S0) ⟨rfl, rfl, rfl⟩ I3 hfp3 (fun h q => ⟨gobj, _, _, q, by rw [← hobjE], by rw [← hobjE], by rw [← hobjE]⟩) hcalm hr I.ok.frames (fun ρ2 H5 s6 I6 hS6 hX6 => ⟨.bl b0, H5, I6, rfl, Cont.ok hC2 (eT.trans hX6) hS6 (.bl b0)⟩) (Nat.le_refl _) rdy (by show allL _ _ (ds.drop 0) S1 = _; exact hall)
  cases hf : codeAmong gpos ps.toList with
  | none =>
    refine wpAny_genexprCodeX hcode (cd.code hPs htr) (cd.tab hPs) hf fun c' h' tk hx hge hlt hco' _ htab' _ => ?_
    obtain ⟨o1, vs, f1, tf, fl, tg', inF, tx, tt, op, _, _, _, _, _, _, _, _, _, htr', _⟩ := hco'
    exact cont _ h' tk _ (fun b u hb q => hx b u hb q) htab'.2 ⟨_, rfl⟩ htr' (Nat.le_trans hge (Nat.le_of_lt hlt))
  | some cv =>
    refine wpAny_genexprCode_hit hcode (cd.code hPs htr) hf ?_
    exact cont cv s2.heap s2.toks ps (fun b u _ q => q) hPs ⟨#[], by simp⟩ htr (Nat.le_refl _)
/-- as a test -/
theorem g_allT {e : Expr} {G : Dn} {el : Ex} {it : PD.It} {cs : Exs} (hK : X.K = W.K) (h : PE X e (tD W Wx (ev G (.allG isAny el t it cs)))) (he : ∀ whole, isTrue e X.env whole = (do let v ← whole; standAt e.pos; holding [v] (truthy v))) : PT X e (tT W Wx (tst G (.allG isAny el t it cs))) :=
  PT.as (g_tru hK h he) fun δ S => by
    simp only [tst, ev, Out.bind_assoc, Out.bind_ok, D.tru, liftB_some]
theorem g_kin {neg : Bool} {i : Nat} {e : Expr} {x : Str} {a : Addr} {es : Array DictEntry} {n : Nat} {G : Dn} {y : Ex} {op : CmpOp} {l : List (List Nat × D)} (hop : op = if neg then .NotIn else .In) (hK : X.K = W.K) (KD : KDict X.K X.w a es n) (hl : G.Δ i = some l)
    (hval : ∀ s : List Nat, ∃ r, PySem.W.nsIn X.K a ⟨s.toArray⟩ = some r ∧ r.isSome = (l.lookup s).isSome) (hg : Gl X x) (hm : X.mg x = some (.ref a)) (hd : (x == ("__debug__" : Str)) = false) (he : PE X e (tD W Wx (ev G y))) :
    PE X (.Compare e [op] [.Name x p] pos) (tD W Wx (ev G (.kin neg i y))) := by
  have hgl := pe_glob (pos := p) (v := .ref a) hg hm rfl hd
  cases neg with
  | false =>
    simp only [Bool.false_eq_true, if_false] at hop
    subst hop
    refine PE.of (pe_cmpR (op_in_kd KD) he hgl rfl) fun σ H Q ⟨δ, S, ρ, s, E, h⟩ => ?_
    obtain ⟨l', hl', h⟩ := Cont.oO h
    rw [hl] at hl'
    cases hl'
    refine rdg.next s E h fun v H1 dx S1 ρ1 e1 s1 E1 r1 h1 => ?_
    obtain ⟨d, ed, q⟩ := Cont.oK h1
    unfold kinF at ed
    split at ed
    · rename_i s'
      cases ed
      cases r1
      obtain ⟨r, hr, hrs⟩ := hval s'
      exact ⟨_, r, rfl, rfl, hr, by rw [hrs]; exact q.here s1 (.bl _)⟩
    · cases ed
  | true =>
    simp only [if_true] at hop
    subst hop
    refine PE.of (pe_cmpR (op_notIn_kd KD) he hgl rfl) fun σ H Q ⟨δ, S, ρ, s, E, h⟩ => ?_
    obtain ⟨l', hl', h⟩ := Cont.oO h
    rw [hl] at hl'
    cases hl'
    refine rdg.next s E h fun v H1 dx S1 ρ1 e1 s1 E1 r1 h1 => ?_
    obtain ⟨d, ed, q⟩ := Cont.oK h1
    unfold kinF at ed
    split at ed
    · rename_i s'
      cases ed
      cases r1
      obtain ⟨r, hr, hrs⟩ := hval s'
      exact ⟨_, r, rfl, rfl, hr, by rw [hrs]; exact q.here s1 (.bl _)⟩
    · cases ed
theorem g_kidx {i : Nat} {e : Expr} {x : Str} {a : Addr} {es : Array DictEntry} {n : Nat} {G : Dn} {y : Ex} {l : List (List Nat × D)} (hK : X.K = W.K) (KD : KDict X.K X.w a es n) (hl : G.Δ i = some l)
    (hval : ∀ (s : List Nat) (d : D), l.lookup s = some d → ∃ u v, PySem.W.nsIn X.K a ⟨s.toArray⟩ = some (some u) ∧ RelV v u ∧ ∀ ρ N H, RepV W.K ρ N H d v) (hg : Gl X x) (hm : X.mg x = some (.ref a)) (hd : (x == ("__debug__" : Str)) = false) (he : PE X e (tD W Wx (ev G y))) (hs : PlainIx e) :
    PE X (.Subscript (.Name x p) e pos) (tD W Wx (ev G (.kidx i y))) := by
  have hgl := pe_glob (pos := p) (v := .ref a) hg hm rfl hd
  refine PE.of (pe_ix ix_kdict hgl he hs) fun σ H Q ⟨δ, S, ρ, s, E, h⟩ => ?_
  show tD W Wx (ev G y) σ H _
  obtain ⟨l', hl', h⟩ := Cont.oO h
  rw [hl] at hl'
  cases hl'
  refine rdg.next s E h fun v H1 dx S1 ρ1 e1 s1 E1 r1 h1 => ?_
  obtain ⟨d, ed, q⟩ := Cont.oK h1
  unfold kidxF at ed
  split at ed
  · rename_i s'
    cases r1
    obtain ⟨u, v, h2, h3, h4⟩ := hval s' d ed
    exact ⟨a, _, v, rfl, rfl, ⟨es, n, u, KD.at_, KD.lit, h2, h3⟩, q.here s1 (h4 _ _ _)⟩
  · cases ed
end
end PD

set_option Elab.async false
set_option linter.all false
set_option maxRecDepth 100000
namespace PD
open PySem PySem.Spec PyProof.Rows L2

def xName : Expr → Option Str
  | .Name x _ => some x
  | _ => none
theorem xName_eq {e : Expr} {x : Str} (h : xName e = some x) : ∃ p, e = .Name x p := by
  unfold xName at h; split at h
  · cases h; exact ⟨_, rfl⟩
  · cases h
def xCst : Expr → Option Const
  | .Constant k _ _ => some k
  | _ => none
theorem xCst_eq {e : Expr} {x : Const} (h : xCst e = some x) : ∃ j p, e = .Constant x j p := by
  unfold xCst at h; split at h
  · cases h; exact ⟨_, _, rfl⟩
  · cases h
def xTup : Expr → Option (List Expr)
  | .Tuple es _ _ => some es
  | _ => none
theorem xTup_eq {e : Expr} {x : List Expr} (h : xTup e = some x) : ∃ j p, e = .Tuple x j p := by
  unfold xTup at h; split at h
  · cases h; exact ⟨_, _, rfl⟩
  · cases h
def xLst : Expr → Option (List Expr)
  | .List es _ => some es
  | _ => none
theorem xLst_eq {e : Expr} {x : List Expr} (h : xLst e = some x) : ∃ p, e = .List x p := by
  unfold xLst at h; split at h
  · cases h; exact ⟨_, rfl⟩
  · cases h
def xBin : Expr → Option (Expr × Operator × Expr)
  | .BinOp a o b _ => some (a, o, b)
  | _ => none
theorem xBin_eq {e a b : Expr} {o : Operator} (h : xBin e = some (a, o, b)) : ∃ p, e = .BinOp a o b p := by
  unfold xBin at h; split at h
  · cases h; exact ⟨_, rfl⟩
  · cases h
def xUn : Expr → Option (UnaryOp × Expr)
  | .UnaryOp o a _ => some (o, a)
  | _ => none
theorem xUn_eq {e a : Expr} {o : UnaryOp} (h : xUn e = some (o, a)) : ∃ p, e = .UnaryOp o a p := by
  unfold xUn at h; split at h
  · cases h; exact ⟨_, rfl⟩
  · cases h
def xBool : Expr → Option (BoolOp × List Expr × Pos)
  | .BoolOp o es p => some (o, es, p)
  | _ => none
theorem xBool_eq {e : Expr} {es : List Expr} {o : BoolOp} {p : Pos} (h : xBool e = some (o, es, p)) : e = .BoolOp o es p := by
  unfold xBool at h; split at h
  · cases h; rfl
  · cases h
def xIf : Expr → Option (Expr × Expr × Expr)
  | .IfExp a b c _ => some (a, b, c)
  | _ => none
theorem xIf_eq {e a b c : Expr} (h : xIf e = some (a, b, c)) : ∃ p, e = .IfExp a b c p := by
  unfold xIf at h; split at h
  · cases h; exact ⟨_, rfl⟩
  · cases h
def xCmp : Expr → Option (Expr × CmpOp × Expr)
  | .Compare a [o] [b] _ => some (a, o, b)
  | _ => none
theorem xCmp_eq {e a b : Expr} {o : CmpOp} (h : xCmp e = some (a, o, b)) : ∃ p, e = .Compare a [o] [b] p := by
  unfold xCmp at h; split at h
  · cases h; exact ⟨_, rfl⟩
  · cases h
def xChn : Expr → Option (Expr × CmpOp × Expr × CmpOp × Expr)
  | .Compare a [o, o'] [b, c] _ => some (a, o, b, o', c)
  | _ => none
theorem xChn_eq {e a b c : Expr} {o o' : CmpOp} (h : xChn e = some (a, o, b, o', c)) : ∃ p, e = .Compare a [o, o'] [b, c] p := by
  unfold xChn at h; split at h
  · cases h; exact ⟨_, rfl⟩
  · cases h
def xSub : Expr → Option (Expr × Expr)
  | .Subscript a i _ => some (a, i)
  | _ => none
theorem xSub_eq {e a i : Expr} (h : xSub e = some (a, i)) : ∃ p, e = .Subscript a i p := by
  unfold xSub at h; split at h
  · cases h; exact ⟨_, rfl⟩
  · cases h
def xSlc : Expr → Option (Option Expr × Option Expr)
  | .Slice a b none _ => some (a, b)
  | _ => none
theorem xSlc_eq {e : Expr} {a b : Option Expr} (h : xSlc e = some (a, b)) : ∃ p, e = .Slice a b none p := by
  unfold xSlc at h; split at h
  · cases h; exact ⟨_, rfl⟩
  · cases h
/-- f(e, ..), f a name -/
def xCall : Expr → Option (Str × List Expr × Pos)
  | .Call (.Name x _) es [] p => some (x, es, p)
  | _ => none
theorem xCall_eq {e : Expr} {x : Str} {es : List Expr} {pos : Pos} (h : xCall e = some (x, es, pos)) : ∃ p, e = .Call (.Name x p) es [] pos := by
  unfold xCall at h; split at h
  · cases h; exact ⟨_, rfl⟩
  · cases h
/-- o.m(e, ..) -/
def xMet : Expr → Option (Expr × Str × Pos × List Expr × Pos)
  | .Call (.Attribute o m ap) es [] p => some (o, m, ap, es, p)
  | _ => none
theorem xMet_eq {e o : Expr} {x : Str} {ap p : Pos} {es : List Expr} (h : xMet e = some (o, x, ap, es, p)) : e = .Call (.Attribute o x ap) es [] p := by
  unfold xMet at h; split at h
  · cases h; rfl
  · cases h
def xLc : Expr → Option (Expr × Expr × Expr × List Expr × Scope × Pos)
  | .ListComp el [⟨t, i, c, 0⟩] sc p => some (el, t, i, c, sc, p)
  | _ => none
theorem xLc_eq {e el t i : Expr} {c : List Expr} {sc : Scope} {p : Pos} (h : xLc e = some (el, t, i, c, sc, p)) : e = .ListComp el [⟨t, i, c, 0⟩] sc p := by
  unfold xLc at h; split at h
  · cases h; rfl
  · cases h
def notStar : Expr → Bool
  | .Starred _ _ => false
  | _ => true
theorem star_of {e : Expr} (h : notStar e = true) (es : List Expr) (env : Env) : starEach (e :: es) env = (false, eval e env) :: starEach es env := by
  cases e <;> first | (cases h; done) | rfl
def notSet : Expr → Bool
  | .Set _ _ _ => false
  | _ => true
theorem set_of {e : Expr} (h : notSet e = true) (env : Env) (x : Value) : foldedSetIterable e env x = pure x := by
  cases e <;> first | (cases h; done) | rfl
theorem mark_of {e : Expr} (h : notSet e = true) (op : CmpOp) : behindInMarks op e = false := by
  cases e <;> first | (cases h; done) | rfl
def notSlc : Expr → Bool
  | .Slice _ _ _ _ => false
  | _ => true
theorem ix_of {e : Expr} (h : notSlc e = true) : PlainIx e := by
  intro o i
  cases e <;> first | (cases h; done) | rfl
theorem plain_args : ∀ {es : List Expr}, es.all notStar = true → ∀ (pos : Pos) (env : Env), (backTo pos (starEach es env)).any (·.1) = false
  | [], _, _, _ => rfl
  | e :: es, h, pos, env => by
    simp only [List.all_cons, Bool.and_eq_true] at h
    rw [star_of h.1]
    show (false || (backTo pos (starEach es env)).any (·.1)) = false
    rw [plain_args h.2, Bool.false_or]
structure SC where
  N : List Str
  sc : Scope
  fn : Str → Bool
  gls : List Str
  fns : List (Str × Nat)
  /-- how deep generator expressions may lie; the frame's code has a table -/
  gd : Nat
  tab : Bool
/-- a generator expression's frame -/
def SC.gex (c : SC) (scope : Scope) : SC := { c with sc := scope, fn := fun _ => false, gd := c.gd - 1, tab := false }
def SC.blk (c : SC) (scope : Scope) : SC := { c with sc := relS scope c.sc, fn := fun x => scope.names.lookup x == some .cell }
def blts : List Str := ["len", "abs", "int", "str", "tuple", "list", "min", "max", "isinstance", "range", "reversed", "bool", "dict", "set", "all", "any"]
structure DnOk (W : Wd) (G : Dn) (gls : List Str) (fns : List (Str × Nat)) (k : Nat) : Prop where
  glb : ∀ (i : Nat) (x : Str) (d : D), gls[i]? = some x → G.Γ i = some d → ∃ u v, W.mg x = some u ∧ RelV v u ∧ ∀ ρ N H, RepV W.K ρ N H d v
  bare : ∀ x ∈ blts, W.mg x = none
  dic : ∀ (i : Nat) (x : Str) (l : List (List Nat × D)), gls[i]? = some x → G.Δ i = some l → ∃ a es n, W.mg x = some (.ref a) ∧ KDict W.K W.w a es n ∧ (∀ s : List Nat, ∃ r, PySem.W.nsIn W.K a ⟨s.toArray⟩ = some r ∧ r.isSome = (l.lookup s).isSome) ∧
    ∀ (s : List Nat) (d : D), l.lookup s = some d → ∃ u v, PySem.W.nsIn W.K a ⟨s.toArray⟩ = some (some u) ∧ RelV v u ∧ ∀ ρ N H, RepV W.K ρ N H d v
  fn : ∀ (i : Nat) (x : Str) (n : Nat), fns[i]? = some (x, n) → ∃ fa fd ps, W.mg x = some (.ref fa) ∧ PySem.W.keepIn W.K (.ref fa) = true ∧ Binds W.K fd ps [] ∧ FnOk W.P W.w W.K W.mg W.base (L2.CX W.P W.w) k fa fd ps (spD W (G.Φ i) n)
structure XOk (W : Wd) (G : Dn) (c : SC) (X : Cx) (Wx : WX) : Prop where
  P : X.prog = W.P
  w : X.w = W.w
  K : X.K = W.K
  mg : X.mg = W.mg
  base : X.base = W.base
  N : X.N = c.N
  nd : c.N.Nodup
  sc : X.env.scope = c.sc
  fn : X.fn = c.fn
  calm : X.calm = true
  tk : Takes X Wx
  dn : ∃ k, Room (k + c.gd) X.A ∧ DnOk W G c.gls c.fns k
  tab : c.tab = true → ∃ cc P, X.env.code = .ref cc ∧ GxR.TabB X.base X.mg cc P ∧ P ∈ W.T
theorem takes_no {X : Cx} : Takes X wNo := fun _ _ ⟨_, _, _, _, _, _, _, _, _, _, _, _, _, _, _, _, h⟩ => h.elim
theorem XOk.blk {W : Wd} {G : Dn} {c : SC} {X : Cx} {Wx : WX} (ok : XOk W G c X Wx) (scope : Scope) (s : Shared) (H : Hp) (C : Addr) (cl : List (Str × Addr)) (fp : List Addr) : XOk W G (c.blk scope) (X.blk s H scope (compEnvC scope cl C X.env) fp) wNo where
  P := ok.P
  w := ok.w
  K := ok.K
  mg := ok.mg
  base := ok.base
  N := ok.N
  nd := ok.nd
  sc := by
    show relabel scope X.env = relS scope c.sc
    rw [← ok.sc]; rfl
  fn := rfl
  calm := ok.calm
  tk := takes_no
  dn := ok.dn
  tab := ok.tab
theorem XOk.gex {W : Wd} {G : Dn} {c : SC} {X : Cx} {Wx : WX} (ok : XOk W G c X Wx) (scope : Scope) {k : Nat} (hk : Room k X.A → True) (hd : DnOk W G c.gls c.fns k) (A' : Around) (s : Shared) (H : Hp) (C : Addr) (code : Value) (fp : List Addr) (pn : List (Addr × Obj)) (hr : Room (k + (c.gd - 1)) A') :
    XOk W G (c.gex scope) (gcx X A' s H (genEnv scope (cloFrom X.env.cells scope.names []) C code builtinsNs X.env) fp pn) wNo where
  P := ok.P
  w := ok.w
  K := ok.K
  mg := ok.mg
  base := ok.base
  N := ok.N
  nd := ok.nd
  sc := rfl
  fn := rfl
  calm := ok.calm
  tk := takes_no
  dn := ⟨k, hr, hd⟩
  tab := fun h => nomatch h
/-- the names of a generator expression, decided -/
def gexC (N : List Str) (sc scope : Scope) (own : List (Str × Nat)) : Bool :=
  (match scope.kind with | .function => true | _ => false) && !scope.isCoroutine && (match scope.names.lookup (".0" : Str) with | some .local => true | _ => false) && (scope.names.all fun y => decide (scope.names.lookup y.1 = some y.2)) && (own.all fun p => decide (N[p.2]? = some p.1)) &&
    (scope.names.all fun y => match y.2 with
      | .free => (match sc.names.lookup y.1 with | some .cell => true | some .free => true | _ => false)
      | .local => decide (y.1 ∈ own.map (·.1)) || decide (y.1 ∉ N)
      | .cell => false
      | _ => true)
theorem gexC_ok {N : List Str} {sc scope : Scope} {own : List (Str × Nat)} (h : gexC N sc scope own = true) : GexOk N sc scope own := by
  unfold gexC at h
  simp only [Bool.and_eq_true] at h
  obtain ⟨⟨⟨⟨⟨h1, h2⟩, h3⟩, h4⟩, h5⟩, h6⟩ := h
  refine ⟨?_, by simpa using h2, fun y hy e => ?_, ?_, fun y hy => of_decide_eq_true (List.all_eq_true.mp h4 y hy), fun p hp => of_decide_eq_true (List.all_eq_true.mp h5 p hp), fun y hy e => ?_, fun y hy e => ?_⟩
  · split at h1
    · assumption
    · cases h1
  · have := List.all_eq_true.mp h6 y hy
    rw [e] at this
    cases this
  · split at h3
    · assumption
    · cases h3
  · have := List.all_eq_true.mp h6 y hy
    rw [e] at this
    simp only at this
    split at this
    · exact .inl (by assumption)
    · exact .inr (by assumption)
    · cases this
  · have := List.all_eq_true.mp h6 y hy
    rw [e] at this
    simp only [Bool.or_eq_true, decide_eq_true_eq] at this
    exact this
def notLst : Expr → Bool
  | .List _ _ => false
  | _ => true
theorem fold_of {e : Expr} (h : notSet e = true) (h2 : notLst e = true) (env : Env) (x : Value) : genFold e env x = pure x := by
  cases e <;> first | (cases h; done) | (cases h2; done) | rfl
def xGen : Expr → Option (Expr × Expr × Expr × List Expr × Scope)
  | .GeneratorExp el [⟨t, i, c, 0⟩] sc _ => some (el, t, i, c, sc)
  | _ => none
theorem xGen_eq {e el t i : Expr} {c : List Expr} {sc : Scope} (h : xGen e = some (el, t, i, c, sc)) : ∃ p, e = .GeneratorExp el [⟨t, i, c, 0⟩] sc p := by
  unfold xGen at h; split at h
  · cases h; exact ⟨_, rfl⟩
  · cases h
def visB (c : SC) (x : Str) : Bool := match c.sc.names.lookup x with
  | some .local => true
  | some .cell => true
  | some .free => true
  | _ => false
/-- a name that may be stored -/
def locB (c : SC) (x : Str) : Bool := match c.sc.names.lookup x with
  | some .local => true
  | some .cell => c.fn x
  | _ => false
def glB (c : SC) (x : Str) : Bool := match c.sc.names.lookup x with
  | some .globalImplicit => true
  | _ => false
def okN (x : Str) : Bool := !(x == ("__debug__" : Str)) && !(x == ("__classdict__" : Str))
def cstOk : Const → D → Bool
  | .none, .non => true
  | .bool a, .bl b => decide (a = b)
  | .int a, .int b => decide (a = b)
  | .str x, .str s => decide (x = ⟨s.toArray⟩) && decide (s.length ≤ sizeLine) && s.all fun c => decide (c < 0x110000)
  | _, _ => false
def opOk : BinO → Operator → Bool
  | .add, .Add => true
  | .sub, .Sub => true
  | .mul, .Mult => true
  | .div, .FloorDiv => true
  | .mod, .Mod => true
  | .pow, .Pow => true
  | _, _ => false
def cmpOk : CmpO → CmpOp → Bool
  | .eq, .Eq => true
  | .ne, .NotEq => true
  | .lt, .Lt => true
  | .le, .LtE => true
  | .gt, .Gt => true
  | .ge, .GtE => true
  | .is_, .Is => true
  | .isNot, .IsNot => true
  | .in_, .In => true
  | .notIn, .NotIn => true
  | _, _ => false
def bifN : Bif → Str
  | .len => "len"
  | .abs => "abs"
  | .int => "int"
  | .str => "str"
  | .tuple => "tuple"
  | .list => "list"
  | .min2 => "min"
  | .max2 => "max"
def chkNm (c : SC) (i : Nat) (e : Expr) : Bool := match xName e with
  | some n => decide (c.N[i]? = some n) && locB c n
  | none => false
def chkNms (c : SC) : List Nat → List Expr → Bool
  | [], [] => true
  | i :: is, e :: es => chkNm c i e && chkNms c is es
  | _, _ => false
def chkTg (c : SC) : Tg → Expr → Bool
  | .nm i, e => chkNm c i e
  | .tp is, e => match xTup e with
    | some es => chkNms c is es
    | none => false
def Tg.own (N : List Str) (t : Tg) : List (Str × Nat) := t.slots.map fun i => (N.getD i "", i)
def isAnd : BoolOp → Bool
  | .And => true
  | .Or => false
def len2 (n : Nat) : Exs → Bool
  | .nil => n == 0
  | .cons _ es => match n with
    | 0 => false
    | n + 1 => len2 n es
mutual
def chk : SC → Ex → Expr → Bool
  | c, .cst d, e => match xCst e with
    | some k => cstOk k d
    | none => false
  | c, .var i, e => match xName e with
    | some n => decide (c.N[i]? = some n) && visB c n && okN n
    | none => false
  | c, .glb i, e => match xName e with
    | some n => decide (c.gls[i]? = some n) && glB c n && okN n
    | none => false
  | c, .tup es, e => match xTup e with
    | some l => chks c es l
    | none => false
  | c, .lst es, e => match xLst e with
    | some l => chks c es l
    | none => false
  | c, .lstO es, e => match xLst e with
    | some l => chks c es l
    | none => false
  | c, .bin o a b, e => match xBin e with
    | some (ea, eo, eb) => opOk o eo && chk c a ea && chk c b eb
    | none => false
  | c, .neg a, e => match xUn e with
    | some (.USub, ea) => chk c a ea
    | _ => false
  | c, .not a, e => match xUn e with
    | some (.Not, ea) => chk c a ea
    | _ => false
  | c, .and a b, e => match xBool e with
    | some (.And, ea :: eb :: r, p) => chk c a ea && chk c b (.BoolOp .And (eb :: r) p)
    | _ => false
  | c, .or a b, e => match xBool e with
    | some (.Or, ea :: eb :: r, p) => chk c a ea && chk c b (.BoolOp .Or (eb :: r) p)
    | _ => false
  | c, .one a, e => match xBool e with
    | some (_, [ea], _) => chk c a ea
    | _ => false
  | c, .ite t a b, e => match xIf e with
    | some (et, ea, eb) => chk c t et && chk c a ea && chk c b eb
    | none => false
  | c, .cmp o a b, e => match xCmp e with
    | some (ea, eo, eb) => cmpOk o eo && notSet eb && chk c a ea && chk c b eb
    | none => false
  | c, .chn o o' a b d, e => match xChn e with
    | some (ea, eo, eb, eo', ed) => cmpOk o eo && cmpOk o' eo' && notSet ed && chk c a ea && chk c b eb && chk c d ed
    | none => false
  | c, .idx a i, e => match xSub e with
    | some (ea, ei) => notSlc ei && chk c a ea && chk c i ei
    | none => false
  | c, .cut a l h, e => match xSub e with
    | some (ea, es) => chk c a ea && match xSlc es with
      | some (el, eh) => chko c l el && chko c h eh
      | none => false
    | none => false
  | c, .call f es, e => match xCall e with
    | some (x, l, _) => (match c.fns[f]? with | some (y, n) => decide (x = y) && len2 n es | none => false) && glB c x && okN x && !l.isEmpty && l.all notStar && chks c es l
    | none => false
  | c, .bif b es, e => match xCall e with
    | some (x, l, _) => decide (x = bifN b) && glB c x && !l.isEmpty && l.all notStar && chks c es l
    | none => false
  | c, .isin a t, e => match xCall e with
    | some (x, [ea, et], _) => decide (x = ("isinstance" : Str)) && glB c x && notStar ea && chk c a ea && (match xName et with | some n => decide (n = Str.ofString t) && glB c n | none => false) &&
        ["bool", "int", "str", "tuple", "list", "dict", "set"].contains t
    | _ => false
  | c, .app o a, e => match xMet e with
    | some (eo, m, ap, [ea], p) => decide (m = ("append" : Str)) && (ap.endLine == p.line) && (xName eo).isSome && notStar ea && chk c o eo && chk c a ea
    | _ => false
  | c, .pop o, e => match xMet e with
    | some (eo, m, ap, [], p) => decide (m = ("pop" : Str)) && (ap.endLine == p.line) && (xName eo).isSome && chk c o eo
    | _ => false
  | c, .comp el t it cs isO, e => match xLc e with
    | some (eel, et, ei, ecs, scope, _) => blkC c.N c.sc scope (t.own c.N) && chkTg (c.blk scope) t et && notSet ei && chkI c it ei && chkT (c.blk scope) cs ecs && chk (c.blk scope) el eel
    | none => false
  | c, .lrev a isO, e => match xCall e with
    | some (x, [er], _) => decide (x = ("list" : Str)) && glB c x && (match xCall er with
      | some (y, [ea], _) => decide (y = ("reversed" : Str)) && glB c y && notStar ea && chk c a ea
      | _ => false)
    | _ => false
  | c, .allG isAny el t it cs, e => match xCall e with
    | some (x, [g], _) => decide (x = if isAny then ("any" : Str) else ("all" : Str)) && glB c x && c.tab && decide (0 < c.gd) && (match xGen g with
      | some (eel, et, ei, ecs, scope) => gexC c.N c.sc scope (t.own c.N) && chkTg (c.gex scope) t et && notSet ei && notLst ei && chkI c it ei && chkT (c.gex scope) cs ecs && chk (c.gex scope) el eel
      | none => false)
    | _ => false
  | c, .kin neg i a, e => match xCmp e with
    | some (ea, eo, eb) => (match eo with | .In => !neg | .NotIn => neg | _ => false) && (match xName eb with | some n => decide (c.gls[i]? = some n) && glB c n && okN n | none => false) && chk c a ea
    | none => false
  | c, .kidx i a, e => match xSub e with
    | some (ea, ei) => notSlc ei && (match xName ea with | some n => decide (c.gls[i]? = some n) && glB c n && okN n | none => false) && chk c a ei
    | none => false
def chks : SC → Exs → List Expr → Bool
  | c, .nil, l => l.isEmpty
  | c, .cons a as, l => match l with
    | e :: es => notStar e && chk c a e && chks c as es
    | [] => false
def chkT : SC → Exs → List Expr → Bool
  | c, .nil, l => l.isEmpty
  | c, .cons a as, l => match l, as with
    | [e], .nil => chk c a e
    | _, _ => false
def chko : SC → Exo → Option Expr → Bool
  | c, .no, e => e.isNone
  | c, .ex a, e => match e with
    | some e => chk c a e
    | none => false
def chkI : SC → PD.It → Expr → Bool
  | c, .seq a, e => chk c a e
  | c, .rng1 a, e => match xCall e with
    | some (x, [ea], _) => decide (x = ("range" : Str)) && glB c x && notStar ea && chk c a ea
    | _ => false
  | c, .rng2 a b, e => match xCall e with
    | some (x, [ea, eb], _) => decide (x = ("range" : Str)) && glB c x && notStar ea && notStar eb && chk c a ea && chk c b eb
    | _ => false
end
end PD

set_option Elab.async false
set_option linter.all false
set_option maxRecDepth 100000
namespace PD
open PySem PySem.Spec PyProof.Rows L2

section
variable {W : Wd} {G : Dn} {c : SC} {X : Cx} {Wx : WX}
theorem XOk.loc (ok : XOk W G c X Wx) {i : Nat} {x : Str} (hi : c.N[i]? = some x) (hl : locB c x = true) : X.N[i]? = some x ∧ Loc X.env.scope x ∧ (X.fn x = true ∨ X.env.scope.names.lookup x = some .local) := by
  rw [ok.N, ok.fn, ok.sc]
  refine ⟨hi, ?_⟩
  unfold locB at hl
  split at hl
  · rename_i h; exact ⟨.inl h, .inr h⟩
  · rename_i h; exact ⟨.inr h, .inl hl⟩
  · cases hl
theorem XOk.vis (ok : XOk W G c X Wx) {i : Nat} {x : Str} (hi : c.N[i]? = some x) (hl : visB c x = true) : X.N[i]? = some x ∧ Vis X.env.scope x := by
  rw [ok.N, ok.sc]
  refine ⟨hi, ?_⟩
  unfold visB at hl
  split at hl
  · rename_i h; exact .inl h
  · rename_i h; exact .inr (.inl h)
  · rename_i h; exact .inr (.inr h)
  · cases hl
theorem XOk.gl (ok : XOk W G c X Wx) {x : Str} (hl : glB c x = true) : Gl X x := by
  show X.env.scope.names.lookup x = some .globalImplicit
  rw [ok.sc]
  unfold glB at hl
  split at hl
  · rename_i h; exact h
  · cases hl
theorem okN_d {x : Str} (h : okN x = true) : (x == ("__debug__" : Str)) = false ∧ (x == ("__classdict__" : Str)) = false := by
  unfold okN at h
  simp only [Bool.and_eq_true, Bool.not_eq_true'] at h
  exact h
theorem XOk.bare (ok : XOk W G c X Wx) {x : Str} (h : x ∈ blts) : X.mg x = none := by
  obtain ⟨k, _, d⟩ := ok.dn
  rw [ok.mg]; exact d.bare x h
theorem XOk.units (ok : XOk W G c X Wx) : X.A.units + 200 < cLine := by
  obtain ⟨k, r, _⟩ := ok.dn
  have := r.un
  omega
theorem chkNm_ok (ok : XOk W G c X Wx) {i : Nat} {e : Expr} (h : chkNm c i e = true) : ∃ x p, e = .Name x p ∧ X.N[i]? = some x ∧ Loc X.env.scope x ∧ (X.fn x = true ∨ X.env.scope.names.lookup x = some .local) := by
  unfold chkNm at h
  split at h
  · rename_i n hn
    simp only [Bool.and_eq_true, decide_eq_true_eq] at h
    obtain ⟨p, rfl⟩ := xName_eq hn
    exact ⟨n, p, rfl, ok.loc h.1 h.2⟩
  · cases h
theorem chkNms_ok (ok : XOk W G c X Wx) : ∀ {is : List Nat} {es : List Expr}, chkNms c is es = true → PGs X es (gsR is) ∧ (assignEach es X.env).length = is.length ∧ (assignEach es X.env).findIdx? (·.1) = none
  | [], [], _ => ⟨pgs_nil, rfl, rfl⟩
  | [], _ :: _, h => by cases h
  | _ :: _, [], h => by cases h
  | i :: is, e :: es, h => by
    simp only [chkNms, Bool.and_eq_true] at h
    obtain ⟨x, p, rfl, h1, h2, h3⟩ := chkNm_ok ok h.1
    obtain ⟨g1, g2, g3⟩ := chkNms_ok ok h.2
    have nd : X.N.Nodup := by rw [ok.N]; exact ok.nd
    refine ⟨pgs_cons (pg_name nd h1 h2 h3) g1 rfl, ?_, ?_⟩
    · show (assignEach es X.env).length + 1 = is.length + 1
      rw [g2]
    · show List.findIdx? (fun x => x.1) ((false, assign (.Name x p) X.env) :: assignEach es X.env) = none
      rw [List.findIdx?_cons, g3]; rfl
theorem chkTg_ok (ok : XOk W G c X Wx) {t : Tg} {e : Expr} (h : chkTg c t e = true) : PG X e (tgR X.K t) := by
  have nd : X.N.Nodup := by rw [ok.N]; exact ok.nd
  cases t with
  | nm i =>
    obtain ⟨x, p, rfl, h1, h2, h3⟩ := chkNm_ok ok h
    exact pg_name nd h1 h2 h3
  | tp is =>
    unfold chkTg at h
    split at h
    · rename_i h0; cases h0
    · rename_i is' h0
      cases h0
      split at h
      · rename_i es he
        obtain ⟨j, p, rfl⟩ := xTup_eq he
        obtain ⟨g1, g2, g3⟩ := chkNms_ok ok h
        exact pg_tup ok.calm g1 g2 g3
      · cases h
theorem opOk_ok (ok : XOk W G c X Wx) {o : BinO} {eo : Operator} (h : opOk o eo = true) : OpR X (binaryOp eo) (rP W (binF o)) := by
  unfold opOk at h
  split at h
  · exact op_pAdd ok.K
  · exact op_pSub
  · exact op_pMul
  · exact op_pDiv
  · exact op_pMod
  · exact op_pPow
  · cases h
theorem cmpOk_ok (ok : XOk W G c X Wx) {o : CmpO} {eo : CmpOp} (h : cmpOk o eo = true) : OpR X (compareOp eo) (rP W (cmpF o)) := by
  unfold cmpOk at h
  split at h
  · exact op_pEq ok.K ok.units
  · exact op_pNe ok.K ok.units
  · exact op_pLt
  · exact op_pLe
  · exact op_pGt
  · exact op_pGe
  · exact op_pIs
  · exact op_pIsNot
  · exact op_pIn ok.K ok.units
  · exact op_pNotIn ok.K ok.units
  · cases h
theorem cst_ok {k : Const} {d : D} {j : Nat} {p : Pos} (h : cstOk k d = true) : PE X (.Constant k j p) (tD W Wx fun _ S => .ok d S) := by
  unfold cstOk at h
  split at h
  · exact g_const pe_non fun _ _ _ => .non
  · cases of_decide_eq_true h; exact g_const pe_bl fun _ _ _ => .bl _
  · cases of_decide_eq_true h; exact g_const pe_int fun _ _ _ => .int _
  · simp only [Bool.and_eq_true, decide_eq_true_eq] at h
    obtain ⟨⟨h1, h2⟩, h3⟩ := h
    subst h1
    exact g_const pe_str fun _ _ _ => .str _ ⟨h2, h3⟩
  · cases h
theorem len2_ok {n : Nat} {es : Exs} : len2 n es = true → ∀ δ S ds S', evs G es δ S = .ok ds S' → ds.length = n := by
  induction n generalizing es with
  | zero =>
    cases es with
    | nil => intro _ δ S ds S' h; rw [evs] at h; cases h; rfl
    | cons _ _ => intro h; simp [len2] at h
  | succ n ih =>
    cases es with
    | nil => intro h; simp [len2] at h
    | cons e es =>
      intro h δ S ds S' he
      simp only [len2] at h
      rw [evs] at he
      cases h1 : ev G e δ S with
      | bad => rw [h1] at he; cases he
      | exc _ _ => rw [h1] at he; cases he
      | ok x S1 =>
        rw [h1] at he
        simp only [Out.bind_ok] at he
        cases h2 : evs G es δ S1 with
        | bad => rw [h2] at he; cases he
        | exc _ _ => rw [h2] at he; cases he
        | ok xs S2 =>
          rw [h2] at he
          simp only [Out.bind_ok, Out.ok.injEq] at he
          rw [← he.1, List.length_cons, ih h _ _ _ _ h2]
def isBO : Expr → Bool
  | .BoolOp _ _ _ => true
  | _ => false
/-- as a value, as a test, as a test within and, or -/
def All3 (W : Wd) (G : Dn) (X : Cx) (Wx : WX) (x : Ex) (e : Expr) : Prop := PE X e (tD W Wx (ev G x)) ∧ PT X e (tT W Wx (tst G x)) ∧ (isBO e = true → PW X e (tT W Wx (tst G x)))
theorem all3 {x : Ex} {e : Expr} (hv : PE X e (tD W Wx (ev G x))) (ht : PT X e (tT W Wx (tst G x))) (hb : isBO e = false) : All3 W G X Wx x e := ⟨hv, ht, fun h => by rw [hb] at h; cases h⟩
theorem bif_ok (ok : XOk W G c X Wx) {b : Bif} {es : Exs} {e : Expr} {l : List Expr} {p pos : Pos} (hg : glB c (bifN b) = true) (hl : (e :: l).all notStar = true) (ha : PA X (e :: l) (tA W Wx (evs G es))) :
    PE X (.Call (.Name (bifN b) p) (e :: l) [] pos) (tD W Wx (ev G (.bif b es))) := by
  simp only [List.all_cons, Bool.and_eq_true] at hl
  have gl := ok.gl hg
  have hs := star_of hl.1 l X.env
  have hpl := plain_args hl.2 pos X.env
  cases b with
  | len => exact PE.of (pe_callB (fn_len ok.K) gl (ok.bare (by decide +kernel)) (by decide +kernel) ha (by decide +kernel) (by decide +kernel) hs hpl) fun σ H Q h => fn_to h
  | abs => exact PE.of (pe_callB fn_abs gl (ok.bare (by decide +kernel)) PyProof.Rows.boot_abs ha (by decide +kernel) (by decide +kernel) hs hpl) fun σ H Q h => fn_to h
  | min2 => exact PE.of (pe_callB (fn_min2 ok.calm) gl (ok.bare (by decide +kernel)) PyProof.Rows.boot_min ha (by decide +kernel) (by decide +kernel) hs hpl) fun σ H Q h => fn_to h
  | max2 => exact PE.of (pe_callB (fn_max2 ok.calm) gl (ok.bare (by decide +kernel)) PyProof.Rows.boot_max ha (by decide +kernel) (by decide +kernel) hs hpl) fun σ H Q h => fn_to h
  | int => exact PE.of (pe_callTy fn_int gl (ok.bare (by decide +kernel)) PyProof.Rows.boot_int ha (by decide +kernel) (by decide +kernel) hs hpl) fun σ H Q h => fn_to h
  | str => exact PE.of (pe_callTy fn_str gl (ok.bare (by decide +kernel)) PyProof.Rows.boot_str ha (by decide +kernel) (by decide +kernel) hs hpl) fun σ H Q h => fn_to h
  | tuple => exact PE.of (pe_callTy (fn_tuple ok.K) gl (ok.bare (by decide +kernel)) PyProof.Rows.boot_tuple ha (by decide +kernel) (by decide +kernel) hs hpl) fun σ H Q h => fn_to h
  | list => exact PE.of (pe_callTy (fn_list ok.K) gl (ok.bare (by decide +kernel)) PyProof.Rows.boot_list ha (by decide +kernel) (by decide +kernel) hs hpl) fun σ H Q h => fn_to h
theorem call_ok (ok : XOk W G c X Wx) {f : Nat} {x : Str} {n : Nat} {es : Exs} {e : Expr} {l : List Expr} {p pos : Pos} (hf : c.fns[f]? = some (x, n)) (hn : len2 n es = true) (hg : glB c x = true) (hx : okN x = true) (hl : (e :: l).all notStar = true) (ha : PA X (e :: l) (tA W Wx (evs G es))) :
    PE X (.Call (.Name x p) (e :: l) [] pos) (tD W Wx (ev G (.call f es))) := by
  simp only [List.all_cons, Bool.and_eq_true] at hl
  obtain ⟨k, r, dn⟩ := ok.dn
  obtain ⟨fa, fd, ps, h1, h2, h3, h4⟩ := dn.fn f x n hf
  rw [← ok.mg] at h1
  rw [← ok.K] at h2 h3
  rw [← ok.P, ← ok.w, ← ok.K, ← ok.mg, ← ok.base] at h4
  exact g_call h4 (r.mono (Nat.le_add_right _ _)) (ok.gl hg) h1 h2 h3 ok.tk ha (len2_ok hn) (okN_d hx).1 (star_of hl.1 l X.env) (plain_args hl.2 pos X.env)
end
theorem PT.none {X : Cx} {e : Expr} {W : Wd} {Wx : WX} {G : Dn} {x : Ex} (h : ∀ δ S, tst G x δ S = .bad) : PT X e (tT W Wx (tst G x)) := g_badT h

theorem kin_test {W : Wd} {Wx : WX} {X : Cx} {neg : Bool} {i : Nat} {e : Expr} {x : Str} {a : Addr} {es : Array DictEntry} {n : Nat} {G : Dn} {y : Ex} {op : CmpOp} {l : List (List Nat × D)} {p pos : Pos} (hop : op = if neg then .NotIn else .In) (KD : KDict X.K X.w a es n)
    (hval : ∀ s : List Nat, ∃ r, PySem.W.nsIn X.K a ⟨s.toArray⟩ = some r ∧ r.isSome = (l.lookup s).isSome) (hl : G.Δ i = some l) (hK : X.K = W.K) (hg : Gl X x) (hm : X.mg x = some (.ref a)) (hd : (x == ("__debug__" : Str)) = false) (he : PE X e (tD W Wx (ev G y))) :
    PT X (.Compare e [op] [.Name x p] pos) (tTest (tD W Wx (ev G (.kin neg i y)))) := by
  have hgl := pe_glob (pos := p) (v := .ref a) hg hm rfl hd
  have key : ∀ {σ : L2.St} {H : Hp} {Q : Bool → Hp → Prop}, tTest (tD W Wx (ev G (.kin neg i y))) σ H Q → tD W Wx (ev G y) σ H fun v H1 => ∃ s : List Nat, v = .str ⟨s.toArray⟩ ∧ Q (if neg then !(l.lookup s).isSome else (l.lookup s).isSome) H1 := by
    intro σ H Q ⟨δ, S, ρ, s, E, h⟩
    obtain ⟨l', hl', h⟩ := Cont.oO h
    rw [hl] at hl'
    cases hl'
    refine rdg.next s E h fun v H1 dx S1 ρ1 e1 s1 E1 r1 h1 => ?_
    obtain ⟨d, ed, q⟩ := Cont.oK h1
    unfold kinF at ed
    split at ed
    · rename_i s'
      cases ed
      cases r1
      obtain ⟨kb, hk, hq⟩ := q.here s1 (.bl _)
      cases hk
      exact ⟨s', rfl, hq⟩
    · cases ed
  have mono : ∀ {σ : L2.St} {H : Hp} {Q Q' : V → Hp → Prop}, tD W Wx (ev G y) σ H Q → (∀ v H1, Q v H1 → Q' v H1) → tD W Wx (ev G y) σ H Q' := fun ⟨δ, S, ρ, s, E, h⟩ hq => ⟨δ, S, ρ, s, E, Run.imp h fun a S' ρ' H' z b hb => hq b H' (z b hb)⟩
  cases neg with
  | false =>
    simp only [Bool.false_eq_true, if_false] at hop
    subst hop
    refine PT.of (pt_cmpR (op_in_kd KD) he hgl rfl) fun σ H Q h => mono (key h) fun v H1 ⟨s, hv, hq⟩ => ?_
    subst hv
    obtain ⟨r, hr, hrs⟩ := hval s
    exact ⟨_, r, rfl, rfl, hr, _, rfl, by rw [hrs]; exact hq⟩
  | true =>
    simp only [if_true] at hop
    subst hop
    refine PT.of (pt_cmpR (op_notIn_kd KD) he hgl rfl) fun σ H Q h => mono (key h) fun v H1 ⟨s, hv, hq⟩ => ?_
    subst hv
    obtain ⟨r, hr, hrs⟩ := hval s
    exact ⟨_, r, rfl, rfl, hr, _, rfl, by rw [hrs]; exact hq⟩
mutual
theorem ok_ev {W : Wd} {G : Dn} : ∀ (x : Ex) {c : SC} {X : Cx} {Wx : WX} {e : Expr}, XOk W G c X Wx → chk c x e = true → All3 W G X Wx x e
  | .cst d, c, X, Wx, e, ok, h => by
    unfold chk at h
    split at h
    · rename_i k hk
      obtain ⟨j, p, rfl⟩ := xCst_eq hk
      exact all3 (cst_ok h) (g_tru ok.K (cst_ok h) fun _ => rfl) rfl
    · cases h
  | .var i, c, X, Wx, e, ok, h => by
    unfold chk at h
    split at h
    · rename_i n hn
      simp only [Bool.and_eq_true, decide_eq_true_eq] at h
      obtain ⟨p, rfl⟩ := xName_eq hn
      obtain ⟨h1, h2⟩ := ok.vis h.1.1 h.1.2
      obtain ⟨h3, h4⟩ := okN_d h.2
      exact all3 (g_var h1 h2 h3 h4) (g_tru ok.K (g_var h1 h2 h3 h4) fun _ => rfl) rfl
    · cases h
  | .glb i, c, X, Wx, e, ok, h => by
    unfold chk at h
    split at h
    · rename_i n hn
      simp only [Bool.and_eq_true, decide_eq_true_eq] at h
      obtain ⟨p, rfl⟩ := xName_eq hn
      refine all3 ?_ (PT.none fun _ _ => rfl) rfl
      cases hd : G.Γ i with
      | none => exact g_bad fun δ S => by show lift S (G.Γ i) = .bad; rw [hd]; rfl
      | some d =>
        obtain ⟨k, r, dn⟩ := ok.dn
        obtain ⟨u, v, h1, h2, h3⟩ := dn.glb i n d h.1.1 hd
        have := g_const (W := W) (Wx := Wx) (d := d) (pe_glob (pos := p) (ok.gl h.1.2) (by rw [ok.mg]; exact h1) h2 (okN_d h.2).1) h3
        refine PE.of this fun σ H Q ⟨δ, S, ρ, s, E, q⟩ => ⟨δ, S, ρ, s, E, ?_⟩
        have e : ev G (.glb i) δ S = .ok d S := by show lift S (G.Γ i) = _; rw [hd]; rfl
        rw [e] at q; exact q
    · cases h
  | .tup es, c, X, Wx, e, ok, h => by
    unfold chk at h
    split at h
    · rename_i l hl
      obtain ⟨j, p, rfl⟩ := xTup_eq hl
      exact all3 (g_tup (ok_evs es ok h)) (PT.none fun _ _ => rfl) rfl
    · cases h
  | .lst es, c, X, Wx, e, ok, h => by
    unfold chk at h
    split at h
    · rename_i l hl
      obtain ⟨p, rfl⟩ := xLst_eq hl
      exact all3 (g_lst (ok_evs es ok h)) (PT.none fun _ _ => rfl) rfl
    · cases h
  | .lstO es, c, X, Wx, e, ok, h => by
    unfold chk at h
    split at h
    · rename_i l hl
      obtain ⟨p, rfl⟩ := xLst_eq hl
      exact all3 (g_lst (ok_evs es ok h)) (PT.none fun _ _ => rfl) rfl
    · cases h
  | .bin o a b, c, X, Wx, e, ok, h => by
    unfold chk at h
    split at h
    · rename_i ea eo eb hb
      simp only [Bool.and_eq_true] at h
      obtain ⟨p, rfl⟩ := xBin_eq hb
      exact all3 (g_bin (opOk_ok ok h.1.1) (ok_ev a ok h.1.2).1 (ok_ev b ok h.2).1) (PT.none fun _ _ => rfl) rfl
    · cases h
  | .neg a, c, X, Wx, e, ok, h => by
    unfold chk at h
    split at h
    · rename_i ea hb
      obtain ⟨p, rfl⟩ := xUn_eq hb
      exact all3 (g_neg (ok_ev a ok h).1) (PT.none fun _ _ => rfl) rfl
    · cases h
  | .not a, c, X, Wx, e, ok, h => by
    unfold chk at h
    split at h
    · rename_i ea hb
      obtain ⟨p, rfl⟩ := xUn_eq hb
      exact all3 (g_notV ok.K (ok_ev a ok h).1) (g_notT (ok_ev a ok h).2.1) rfl
    · cases h
  | .and a b, c, X, Wx, e, ok, h => by
    unfold chk at h
    split at h
    · rename_i ea eb r p hb
      simp only [Bool.and_eq_true] at h
      have := xBool_eq hb
      subst this
      have w := g_andT (ok_ev a ok h.1).2.1 ((ok_ev b ok h.2).2.2 rfl)
      exact ⟨g_and (ok_ev a ok h.1).1 (ok_ev b ok h.2).1, w.pt, fun _ => w⟩
    · cases h
  | .or a b, c, X, Wx, e, ok, h => by
    unfold chk at h
    split at h
    · rename_i ea eb r p hb
      simp only [Bool.and_eq_true] at h
      have := xBool_eq hb
      subst this
      have w := g_orT (ok_ev a ok h.1).2.1 ((ok_ev b ok h.2).2.2 rfl)
      exact ⟨g_or (ok_ev a ok h.1).1 (ok_ev b ok h.2).1, w.pt, fun _ => w⟩
    · cases h
  | .one a, c, X, Wx, e, ok, h => by
    unfold chk at h
    split at h
    · rename_i o ea p hb
      have := xBool_eq hb
      subst this
      have w : PW X (.BoolOp o [ea] p) (tT W Wx (tst G (.one a))) := by
        cases o with
        | And => exact pw_and1 (ok_ev a ok h).2.1
        | Or => exact pw_or1 (ok_ev a ok h).2.1
      exact ⟨pe_one (ok_ev a ok h).1, w.pt, fun _ => w⟩
    · cases h
  | .ite t a b, c, X, Wx, e, ok, h => by
    unfold chk at h
    split at h
    · rename_i et ea eb hb
      simp only [Bool.and_eq_true] at h
      obtain ⟨p, rfl⟩ := xIf_eq hb
      exact all3 (g_ite (ok_ev t ok h.1.1).2.1 (ok_ev a ok h.1.2).1 (ok_ev b ok h.2).1) (g_iteT (ok_ev t ok h.1.1).2.1 (ok_ev a ok h.1.2).2.1 (ok_ev b ok h.2).2.1) rfl
    · cases h
  | .cmp o a b, c, X, Wx, e, ok, h => by
    unfold chk at h
    split at h
    · rename_i ea eo eb hb
      simp only [Bool.and_eq_true] at h
      obtain ⟨p, rfl⟩ := xCmp_eq hb
      have m := mark_of h.1.1.2 eo
      exact all3 (g_cmp (cmpOk_ok ok h.1.1.1) (ok_ev a ok h.1.2).1 (ok_ev b ok h.2).1 m) (g_cmpT (cmpOk_ok ok h.1.1.1) (ok_ev a ok h.1.2).1 (ok_ev b ok h.2).1 m) rfl
    · cases h
  | .chn o o' a b d, c, X, Wx, e, ok, h => by
    unfold chk at h
    split at h
    · rename_i ea eo eb eo' ed hb
      simp only [Bool.and_eq_true] at h
      obtain ⟨⟨⟨⟨⟨h1, h2⟩, h3⟩, h4⟩, h5⟩, h6⟩ := h
      obtain ⟨p, rfl⟩ := xChn_eq hb
      have m : lastMarks [eo, eo'] [eb, ed] = false := mark_of h3 eo'
      exact all3 (g_chn (cmpOk_ok ok h1) (cmpOk_ok ok h2) (ok_ev a ok h4).1 (ok_ev b ok h5).1 (ok_ev d ok h6).1 m) (g_chnT (cmpOk_ok ok h1) (cmpOk_ok ok h2) (ok_ev a ok h4).1 (ok_ev b ok h5).1 (ok_ev d ok h6).1 m) rfl
    · cases h
  | .idx a i, c, X, Wx, e, ok, h => by
    unfold chk at h
    split at h
    · rename_i ea ei hb
      simp only [Bool.and_eq_true] at h
      obtain ⟨p, rfl⟩ := xSub_eq hb
      have v := g_ix (pos := p) (ix_p (W := W) ok.K) (ok_ev a ok h.1.2).1 (ok_ev i ok h.2).1 (ix_of h.1.1)
      exact all3 v (g_idxT (g_tru ok.K v fun _ => rfl)) rfl
    · cases h
  | .cut a l u, c, X, Wx, e, ok, h => by
    unfold chk at h
    split at h
    · rename_i ea es hb
      simp only [Bool.and_eq_true] at h
      obtain ⟨h1, h2⟩ := h
      split at h2
      · rename_i el eh hs
        simp only [Bool.and_eq_true] at h2
        obtain ⟨p, rfl⟩ := xSub_eq hb
        obtain ⟨p2, rfl⟩ := xSlc_eq hs
        exact all3 (g_slice ok.K (ok_ev a ok h1).1 (ok_evo l ok h2.1) (ok_evo u ok h2.2)) (PT.none fun _ _ => rfl) rfl
      · cases h2
    · cases h
  | .call f es, c, X, Wx, e, ok, h => by
    unfold chk at h
    split at h
    · rename_i x l pos hb
      simp only [Bool.and_eq_true, Bool.not_eq_true'] at h
      obtain ⟨⟨⟨⟨⟨h1, h2⟩, h3⟩, h4⟩, h5⟩, h6⟩ := h
      split at h1
      · rename_i y n hf
        simp only [Bool.and_eq_true, decide_eq_true_eq] at h1
        obtain ⟨p, rfl⟩ := xCall_eq hb
        cases l with
        | nil => cases h4
        | cons e l =>
          have v := call_ok (p := p) (pos := pos) ok (h1.1 ▸ hf) h1.2 h2 h3 h5 (ok_evs es ok h6)
          exact all3 v (g_callT (g_tru ok.K v fun _ => rfl)) rfl
      · cases h1
    · cases h
  | .bif b es, c, X, Wx, e, ok, h => by
    unfold chk at h
    split at h
    · rename_i x l pos hb
      simp only [Bool.and_eq_true, Bool.not_eq_true', decide_eq_true_eq] at h
      obtain ⟨⟨⟨⟨h1, h2⟩, h4⟩, h5⟩, h6⟩ := h
      obtain ⟨p, rfl⟩ := xCall_eq hb
      cases l with
      | nil => cases h4
      | cons e l =>
        subst h1
        have v := bif_ok (p := p) (pos := pos) ok h2 h5 (ok_evs es ok h6)
        exact all3 v (g_bifT (g_tru ok.K v fun _ => rfl)) rfl
    · cases h
  | .isin a t, c, X, Wx, e, ok, h => by
    unfold chk at h
    split at h
    · rename_i x ea et pos hb
      simp only [Bool.and_eq_true, decide_eq_true_eq] at h
      obtain ⟨⟨⟨⟨⟨h1, h2⟩, h3⟩, h4⟩, h5⟩, h6⟩ := h
      split at h5
      · rename_i n hn
        simp only [Bool.and_eq_true, decide_eq_true_eq] at h5
        obtain ⟨p, rfl⟩ := xCall_eq hb
        obtain ⟨p2, rfl⟩ := xName_eq hn
        subst h1
        obtain ⟨h7, h8⟩ := h5
        subst h7
        have ht : t ∈ ["bool", "int", "str", "tuple", "list", "dict", "set"] := by simpa using h6
        have hm2 : X.mg (Str.ofString t) = none := ok.bare (by
          simp only [List.mem_cons, List.not_mem_nil, or_false] at ht
          rcases ht with rfl | rfl | rfl | rfl | rfl | rfl | rfl <;> decide +kernel)
        have v := g_isin (p := p) (p2 := p2) (pos := pos) ok.K ht (ok.gl h2) (ok.bare (by decide +kernel)) (ok.gl h8) hm2 (ok_ev a ok h4).1 (star_of h3 _ _)
        exact all3 v (g_isinT (g_tru ok.K v fun _ => rfl)) rfl
      · cases h5
    · cases h
  | .app o a, c, X, Wx, e, ok, h => by
    unfold chk at h
    split at h
    · rename_i eo m ap ea p hb
      simp only [Bool.and_eq_true, decide_eq_true_eq] at h
      obtain ⟨⟨⟨⟨⟨h1, h2⟩, h3⟩, h4⟩, h5⟩, h6⟩ := h
      have := xMet_eq hb
      subst this h1
      rw [Option.isSome_iff_exists] at h3
      obtain ⟨n, hn⟩ := h3
      obtain ⟨p3, rfl⟩ := xName_eq hn
      exact all3 (g_app ok.K (ok_ev o ok h5).1 (ok_ev a ok h6).1 (star_of h4 _ _) rfl h2) (PT.none fun _ _ => rfl) rfl
    · cases h
  | .pop o, c, X, Wx, e, ok, h => by
    unfold chk at h
    split at h
    · rename_i eo m ap p hb
      simp only [Bool.and_eq_true, decide_eq_true_eq] at h
      obtain ⟨⟨⟨h1, h2⟩, h3⟩, h5⟩ := h
      have := xMet_eq hb
      subst this h1
      rw [Option.isSome_iff_exists] at h3
      obtain ⟨n, hn⟩ := h3
      obtain ⟨p3, rfl⟩ := xName_eq hn
      exact all3 (g_pop ok.K (ok_ev o ok h5).1 rfl h2) (PT.none fun _ _ => rfl) rfl
    · cases h
  | .comp el t it cs isO, c, X, Wx, e, ok, h => by
    unfold chk at h
    split at h
    · rename_i eel et ei ecs scope pos hb
      simp only [Bool.and_eq_true] at h
      obtain ⟨⟨⟨⟨⟨h1, h2⟩, h3⟩, h4⟩, h5⟩, h6⟩ := h
      have := xLc_eq hb
      subst this
      have nd : X.N.Nodup := by rw [ok.N]; exact ok.nd
      have hsl : (t.own c.N).map (·.2) = t.slots := by unfold Tg.own; rw [List.map_map]; exact List.map_id' _
      have v := g_comp (isO := isO) (pos := pos) (t := t) ok.K ok.calm nd (ok_evI it (tg := et) ok h4) (blkOk_by (by rw [ok.N, ok.sc]; exact h1)) (by rw [hsl]; exact fun _ h => h)
        (fun s H C cl fp => chkTg_ok (ok.blk scope s H C cl fp) h2) (fun s H C cl fp => ok_evT cs (ok.blk scope s H C cl fp) h5) (fun s H C cl fp => (ok_ev el (ok.blk scope s H C cl fp) h6).1) (set_of h3 X.env)
      rw [hsl] at v
      exact all3 v (PT.none fun _ _ => rfl) rfl
    · cases h
  | .lrev a isO, c, X, Wx, e, ok, h => by
    unfold chk at h
    split at h
    · rename_i x er pos hb
      simp only [Bool.and_eq_true, decide_eq_true_eq] at h
      obtain ⟨⟨h1, h2⟩, h3⟩ := h
      split at h3
      · rename_i y ea pos2 hb2
        simp only [Bool.and_eq_true, decide_eq_true_eq] at h3
        obtain ⟨⟨⟨h4, h5⟩, h6⟩, h7⟩ := h3
        obtain ⟨p, rfl⟩ := xCall_eq hb
        obtain ⟨p2, rfl⟩ := xCall_eq hb2
        subst h1 h4
        exact all3 (g_lrev ok.K ok.calm (ok.gl h2) (ok.bare (by decide +kernel)) (ok.gl h5) (ok.bare (by decide +kernel)) (ok_ev a ok h7).1 (star_of h6 _ _)) (PT.none fun _ _ => rfl) rfl
      · cases h3
    · cases h
  | .allG isAny el t it cs, c, X, Wx, e, ok, h => by
    unfold chk at h
    split at h
    · rename_i x g pos hb
      simp only [Bool.and_eq_true, decide_eq_true_eq] at h
      obtain ⟨⟨⟨⟨h1, h2⟩, h3⟩, h4⟩, h5⟩ := h
      split at h5
      · rename_i eel et ei ecs scope hx
        simp only [Bool.and_eq_true] at h5
        obtain ⟨⟨⟨⟨⟨⟨q1, q2⟩, q3⟩, q4⟩, q5⟩, q6⟩, q7⟩ := h5
        obtain ⟨p, rfl⟩ := xCall_eq hb
        obtain ⟨gp, rfl⟩ := xGen_eq hx
        obtain ⟨cc, P, t1, t2, t3⟩ := ok.tab h3
        obtain ⟨k, r, dn⟩ := ok.dn
        have nd : X.N.Nodup := by rw [ok.N]; exact ok.nd
        have hsl : (t.own c.N).map (·.2) = t.slots := by unfold Tg.own; rw [List.map_map]; exact List.map_id' _
        have hgd : k + c.gd = (k + (c.gd - 1)) + 1 := by omega
        rw [hgd] at r
        have mm : X.mg x = none := ok.bare (by rw [h1]; cases isAny <;> decide +kernel)
        have v := g_all (isAny := isAny) (p := p) (gpos := gp) (pos := pos) (t := t) (own := t.own c.N) ok.K r ok.calm h1 (ok.gl h2) mm t2 t3 t1 nd (by rw [ok.N, ok.sc]; exact gexC_ok q1) (by rw [hsl]; exact fun _ h => h) (ok_evI it (tg := et) ok q5) (fold_of q3 q4 _)
          (fun A' s H C code fp pn _ hr => chkTg_ok (XOk.gex ok scope (fun _ => trivial) dn A' s H C code fp pn hr) q2) (fun A' s H C code fp pn _ hr => ok_evT cs (XOk.gex ok scope (fun _ => trivial) dn A' s H C code fp pn hr) q6) (fun A' s H C code fp pn _ hr => (ok_ev el (XOk.gex ok scope (fun _ => trivial) dn A' s H C code fp pn hr) q7).1)
        rw [hsl] at v
        exact all3 v (g_allT ok.K v fun _ => rfl) rfl
      · cases h5
    · cases h
  | .kin neg i a, c, X, Wx, e, ok, h => by
    unfold chk at h
    split at h
    · rename_i ea eo eb hb
      simp only [Bool.and_eq_true] at h
      obtain ⟨⟨h1, h2⟩, h3⟩ := h
      split at h2
      · rename_i n hn
        simp only [Bool.and_eq_true, decide_eq_true_eq] at h2
        obtain ⟨p, rfl⟩ := xCmp_eq hb
        obtain ⟨p2, rfl⟩ := xName_eq hn
        have hop : eo = if neg then .NotIn else .In := by
          cases eo <;> first | (cases h1; done) | skip
          · cases neg <;> first | (cases h1; done) | rfl
          · cases neg <;> first | (cases h1; done) | rfl
        cases hl : G.Δ i with
        | none => exact all3 (g_bad fun δ S => by simp only [ev, hl]; rfl) (g_badT fun δ S => by simp only [tst, hl]; rfl) rfl
        | some l =>
          obtain ⟨k, r, dn⟩ := ok.dn
          obtain ⟨ad, es, m, d1, d2, d3, d4⟩ := dn.dic i n l h2.1.1 hl
          rw [← ok.K] at d2 d3
          rw [← ok.w] at d2
          have v := g_kin (p := p2) (pos := p) (W := W) (Wx := Wx) hop ok.K d2 hl d3 (ok.gl h2.1.2) (by rw [ok.mg]; exact d1) (okN_d h2.2).1 (ok_ev a ok h3).1
          refine all3 v ?_ rfl
          have tt : PT X (.Compare ea [eo] [.Name n p2] p) (tTest (tD W Wx (ev G (.kin neg i a)))) := kin_test hop d2 d3 hl ok.K (ok.gl h2.1.2) (by rw [ok.mg]; exact d1) (okN_d h2.2).1 (ok_ev a ok h3).1
          refine PT.of tt fun σ H Q ⟨δ, S, ρ, s, E, hh⟩ => ⟨δ, S, ρ, s, E, ?_⟩
          have e1 : tst G (.kin neg i a) δ S = (ev G (.kin neg i a) δ S).bind fun z S => liftB S z.asB := by
            simp only [tst, ev, Out.bind_assoc]
            congr 1; funext l S1; congr 1; funext x S2
            unfold kinF
            split <;> rfl
          rw [e1] at hh
          exact Cont.asBQ hh
      · cases h2
    · cases h
  | .kidx i a, c, X, Wx, e, ok, h => by
    unfold chk at h
    split at h
    · rename_i ea ei hb
      simp only [Bool.and_eq_true] at h
      obtain ⟨⟨h1, h2⟩, h3⟩ := h
      split at h2
      · rename_i n hn
        simp only [Bool.and_eq_true, decide_eq_true_eq] at h2
        obtain ⟨p, rfl⟩ := xSub_eq hb
        obtain ⟨p2, rfl⟩ := xName_eq hn
        cases hl : G.Δ i with
        | none => exact all3 (g_bad fun δ S => by simp only [ev, hl]; rfl) (g_badT fun δ S => by simp only [tst, hl]; rfl) rfl
        | some l =>
          obtain ⟨k, r, dn⟩ := ok.dn
          obtain ⟨ad, es, m, d1, d2, d3, d4⟩ := dn.dic i n l h2.1.1 hl
          rw [← ok.K] at d2 d4
          rw [← ok.w] at d2
          have d4' : ∀ (s : List Nat) (d : D), l.lookup s = some d → ∃ u v, PySem.W.nsIn X.K ad ⟨s.toArray⟩ = some (some u) ∧ RelV v u ∧ ∀ ρ N H, RepV W.K ρ N H d v := fun s d hd => by
            have := d4 s d hd
            rw [ok.K] at this
            rw [ok.K]; exact this
          have v := g_kidx (p := p2) (pos := p) (W := W) (Wx := Wx) ok.K d2 hl d4' (ok.gl h2.1.2) (by rw [ok.mg]; exact d1) (okN_d h2.2).1 (ok_ev a ok h3).1 (ix_of h1)
          exact all3 v (PT.as (g_tru ok.K v fun _ => rfl) fun δ S => by simp only [tst, ev, Out.bind_assoc]) rfl
      · cases h2
    · cases h
theorem ok_evs {W : Wd} {G : Dn} : ∀ (x : Exs) {c : SC} {X : Cx} {Wx : WX} {l : List Expr}, XOk W G c X Wx → chks c x l = true → PA X l (tA W Wx (evs G x))
  | .nil, c, X, Wx, l, ok, h => by
    unfold chks at h
    rw [List.isEmpty_iff] at h
    subst h
    exact g_nil
  | .cons a as, c, X, Wx, l, ok, h => by
    unfold chks at h
    split at h
    · rename_i e es
      simp only [Bool.and_eq_true] at h
      exact g_cons (ok_ev a ok h.1.2).1 (ok_evs as ok h.2) (star_of h.1.1 _ _)
    · cases h
theorem ok_evT {W : Wd} {G : Dn} : ∀ (x : Exs) {c : SC} {X : Cx} {Wx : WX} {l : List Expr}, XOk W G c X Wx → chkT c x l = true → PTs X l (tT W Wx (tsts G x))
  | .nil, c, X, Wx, l, ok, h => by
    unfold chkT at h
    rw [List.isEmpty_iff] at h
    subst h
    exact g_yes
  | .cons a as, c, X, Wx, l, ok, h => by
    unfold chkT at h
    split at h
    · rename_i e
      exact pts_one (ok_ev a ok h).2.1
    · cases h
theorem ok_evo {W : Wd} {G : Dn} : ∀ (x : Exo) {c : SC} {X : Cx} {Wx : WX} {l : Option Expr}, XOk W G c X Wx → chko c x l = true → PO X l (tO W Wx (evo G x))
  | .no, c, X, Wx, l, ok, h => by
    unfold chko at h
    rw [Option.isNone_iff_eq_none] at h
    subst h
    exact g_partN
  | .ex a, c, X, Wx, l, ok, h => by
    unfold chko at h
    split at h
    · exact g_part (ok_ev a ok h).1
    · cases h
theorem ok_evI {W : Wd} {G : Dn} : ∀ (x : PD.It) {c : SC} {X : Cx} {Wx : WX} {e tg : Expr}, XOk W G c X Wx → chkI c x e = true → PI X tg e (iI W Wx (evI G x))
  | .seq a, c, X, Wx, e, tg, ok, h => by
    unfold chkI at h
    exact g_seq ok.K (ok_ev a ok h).1
  | .rng1 a, c, X, Wx, e, tg, ok, h => by
    unfold chkI at h
    split at h
    · rename_i x ea pos hb
      simp only [Bool.and_eq_true, decide_eq_true_eq] at h
      obtain ⟨⟨⟨h1, h2⟩, h3⟩, h4⟩ := h
      obtain ⟨p, rfl⟩ := xCall_eq hb
      subst h1
      exact g_rng1 (ok.gl h2) (ok.bare (by decide +kernel)) (g_cons (ok_ev a ok h4).1 g_nil (star_of h3 _ _)) (star_of h3 _ _)
    · cases h
  | .rng2 a b, c, X, Wx, e, tg, ok, h => by
    unfold chkI at h
    split at h
    · rename_i x ea eb pos hb
      simp only [Bool.and_eq_true, decide_eq_true_eq] at h
      obtain ⟨⟨⟨⟨⟨h1, h2⟩, h3⟩, h4⟩, h5⟩, h6⟩ := h
      obtain ⟨p, rfl⟩ := xCall_eq hb
      subst h1
      have e1 := star_of h3 [eb] X.env
      have e2 := star_of h4 [] X.env
      rw [e2] at e1
      exact g_rng2 (ok.gl h2) (ok.bare (by decide +kernel)) (g_two (ok_ev a ok h5).1 (ok_ev b ok h6).1 (star_of h3 _ _) (star_of h4 _ _)) e1 e2
    · cases h
end
end PD

set_option Elab.async false
set_option linter.all false
set_option maxRecDepth 100000
namespace PD
open PySem PySem.Spec PyProof.Rows L2

def FlOk (W : Wd) (Wx : WX) (De : Ends) (ρ : Rn) (N : Nat) (H : Hp) : Fl → Prop
  | .nx δ => ∀ σ, RepE W.K ρ N H δ σ → De.nx σ H
  | .bk δ => ∀ σ, RepE W.K ρ N H δ σ → De.bk σ H
  | .ct δ => ∀ σ, RepE W.K ρ N H δ σ → De.ct σ H
  | .rt d => ∀ v, RepV W.K ρ N H d v → De.rt v H
  | .ex x δ => ∀ σ, RepE W.K ρ N H δ σ → Wx (W.cls x) none σ H
def FlC (W : Wd) (Wx : WX) (De : Ends) (ρ : Rn) (N : Nat) (H : Hp) (r : Out Fl) : Prop := match r with
  | .ok fl S' => ∀ ρ' H', Ext ρ N H ρ' S'.length H' → RepS W ρ' S' H' → FlOk W Wx De ρ' S'.length H' fl
  | .exc _ _ => False
  | .bad => False
def tSt (W : Wd) (Wx : WX) (f : DEnv → Store → Out Fl) : TS := fun De σ H => ∃ δ S ρ, RepS W ρ S H ∧ RepE W.K ρ S.length H δ σ ∧ FlC W Wx De ρ S.length H (f δ S)
section
variable {W : Wd} {Wx : WX} {De : Ends} {ρ : Rn} {N : Nat} {H : Hp} {S : Store} {δ : DEnv} {σ : L2.St} {α β : Type} {rel : Rl α β}
theorem FlC.from {r : Out Fl} {ρ' : Rn} {N' : Nat} {H' : Hp} (h : FlC W Wx De ρ N H r) (e : Ext ρ N H ρ' N' H') : FlC W Wx De ρ' N' H' r := by
  cases r with
  | ok fl S' => exact fun ρ1 H1 e1 s1 => h ρ1 H1 (e.trans e1) s1
  | exc _ _ => exact h
  | bad => exact h
/-- an expression first -/
theorem FlC.next {f : DEnv → Store → Out α} {g : α → Store → Out Fl} {Q' : β → Hp → Prop} (s : RepS W ρ S H) (e : RepE W.K ρ S.length H δ σ) (h : FlC W Wx De ρ S.length H (exS δ (f δ S) g))
    (k : ∀ b H1 a S1 ρ1, Ext ρ S.length H ρ1 S1.length H1 → RepS W ρ1 S1 H1 → RepE W.K ρ1 S1.length H1 δ σ → rel ρ1 S1.length H1 a b → FlC W Wx De ρ1 S1.length H1 (g a S1) → Q' b H1) : rdg W Wx rel f σ H Q' := by
  refine ⟨δ, S, ρ, s, e, ?_⟩
  cases hf : f δ S with
  | ok a S1 =>
    rw [hf] at h
    exact fun ρ1 H1 e1 s1 b hb => k b H1 a S1 ρ1 e1 s1 (e.mono e1) hb (FlC.from (r := g a S1) h e1)
  | exc x S1 =>
    rw [hf] at h
    exact fun ρ1 H1 e1 s1 => h ρ1 H1 e1 s1 σ (e.mono e1)
  | bad => rw [hf] at h; exact h.elim
theorem FlC.oO {α : Type} {o : Option α} {g : α → Store → Out Fl} (h : FlC W Wx De ρ N H ((liftO S o).bind g)) : ∃ a, o = some a ∧ FlC W Wx De ρ N H (g a S) := by
  cases o with
  | none => exact h.elim
  | some a => exact ⟨a, rfl, h⟩
theorem FlC.nx {δ' : DEnv} {σ' : L2.St} (h : FlC W Wx De ρ S.length H (.ok (.nx δ') S)) (s : RepS W ρ S H) (e : RepE W.K ρ S.length H δ' σ') : De.nx σ' H := h ρ H .refl s σ' e
/-- a statement first -/
theorem FlC.then {r : Out Fl} {g : DEnv → Store → Out Fl} (h : FlC W Wx De ρ N H (thenF r g)) : FlC W Wx { De with nx := tSt W Wx g De } ρ N H r := by
  cases r with
  | ok fl S1 =>
    cases fl with
    | nx δ1 => exact fun ρ1 H1 e1 s1 σ1 E1 => ⟨δ1, S1, ρ1, s1, E1, FlC.from (r := g δ1 S1) h e1⟩
    | rt d => exact h
    | bk d => exact h
    | ct d => exact h
    | ex x d => exact h
  | exc _ _ => exact h.elim
  | bad => exact h.elim
theorem FlC.turn {r : Out Fl} {g : DEnv → Store → Out Fl} {Nx : L2.St → Hp → Prop} (h : FlC W Wx De ρ N H (turnF r g)) (k : ∀ δ1 S1 ρ1 H1 σ1, Ext ρ N H ρ1 S1.length H1 → RepS W ρ1 S1 H1 → RepE W.K ρ1 S1.length H1 δ1 σ1 → FlC W Wx De ρ1 S1.length H1 (g δ1 S1) → Nx σ1 H1) :
    FlC W Wx { De with nx := Nx, ct := Nx, bk := De.nx } ρ N H r := by
  cases r with
  | ok fl S1 =>
    cases fl with
    | nx δ1 => exact fun ρ1 H1 e1 s1 σ1 E1 => k δ1 S1 ρ1 H1 σ1 e1 s1 E1 (FlC.from (r := g δ1 S1) h e1)
    | ct δ1 => exact fun ρ1 H1 e1 s1 σ1 E1 => k δ1 S1 ρ1 H1 σ1 e1 s1 E1 (FlC.from (r := g δ1 S1) h e1)
    | rt d => exact h
    | bk d => exact h
    | ex x d => exact h
  | exc _ _ => exact h.elim
  | bad => exact h.elim
end
section
variable {X : Cx} {W : Wd} {Wx : WX} {st : Stmt} {sts : List Stmt} {f g : DEnv → Store → Out Fl}
theorem PS.of {t t' : TS} (h : PS X st t') (i : ∀ De σ H, t De σ H → t' De σ H) : PS X st t := ⟨fun pins s σ H De I q => h.run pins s σ H De I (i _ _ _ q)⟩
theorem PSs.of {t t' : TS} (h : PSs X sts t') (i : ∀ De σ H, t De σ H → t' De σ H) : PSs X sts t := ⟨fun pins s σ H De I q => h.run pins s σ H De I (i _ _ _ q)⟩
theorem s_nil : PSs X [] (tSt W Wx fun δ S => .ok (.nx δ) S) := PSs.of pss_nil fun De σ H ⟨δ, S, ρ, s, e, h⟩ => FlC.nx h s e
theorem s_cons (h1 : PS X st (tSt W Wx f)) (h2 : PSs X sts (tSt W Wx g)) : PSs X (st :: sts) (tSt W Wx fun δ S => thenF (f δ S) fun δ1 S1 => g δ1 S1) :=
  PSs.of (pss_cons h1 h2) fun De σ H ⟨δ, S, ρ, s, e, h⟩ => ⟨δ, S, ρ, s, e, FlC.then h⟩
theorem s_pass {pos : Pos} : PS X (.Pass pos) (tSt W Wx fun δ S => .ok (.nx δ) S) := PS.of ps_pass fun De σ H ⟨δ, S, ρ, s, e, h⟩ => FlC.nx h s e
theorem s_doc {x j pos pos'} : PS X (.Expr (.Constant (.str x) j pos) pos') (tSt W Wx fun δ S => .ok (.nx δ) S) := PS.of ps_doc fun De σ H ⟨δ, S, ρ, s, e, h⟩ => FlC.nx h s e
theorem s_brk {pos : Pos} : PS X (.Break pos) (tSt W Wx fun δ S => .ok (.bk δ) S) := PS.of ps_break fun De σ H ⟨δ, S, ρ, s, e, h⟩ => h ρ H .refl s σ e
theorem s_cnt {pos : Pos} : PS X (.Continue pos) (tSt W Wx fun δ S => .ok (.ct δ) S) := PS.of ps_continue fun De σ H ⟨δ, S, ρ, s, e, h⟩ => h ρ H .refl s σ e
variable {e e2 e3 : Expr} {pos : Pos} {a b c : DEnv → Store → Out D} {i j k : Nat} {x : Str}
theorem asg_to {i : Nat} {De : Ends} {σ : L2.St} {H : Hp} (h : tSt W Wx (fun δ S => exS δ (a δ S) fun d S1 => .ok (.nx (δ.set i (some d))) S1) De σ H) : tAsg (tD W Wx a) (gName i) De σ H := by
  obtain ⟨δ, S, ρ, s, E, h⟩ := h
  exact FlC.next s E h fun v H1 d S1 ρ1 e1 s1 E1 r1 h1 => FlC.nx h1 s1 (E1.set i r1)
theorem s_set {pos' : Pos} (hN : X.N.Nodup) (hi : X.N[i]? = some x) (hx : Loc X.env.scope x) (he : PE X e (tD W Wx a)) (hs : swapsWith e (some (.Name x pos')) pos.line X.env = pure false) (hf : X.fn x = true ∨ X.env.scope.names.lookup x = some .local) :
    PS X (.Assign [.Name x pos'] e pos) (tSt W Wx fun δ S => exS δ (a δ S) fun d S1 => .ok (.nx (δ.set i (some d))) S1) := PS.of (ps_set hN hi hx he hs hf) fun De σ H h => asg_to h
theorem s_exp (he : PE X e (tD W Wx a)) (hs : swapsWith e none pos.line X.env = pure false) : PS X (.Expr e pos) (tSt W Wx fun δ S => exS δ (a δ S) fun _ S1 => .ok (.nx δ) S1) :=
  PS.of (ps_expr he hs) fun De σ H ⟨δ, S, ρ, s, E, h⟩ => FlC.next s E h fun v H1 d S1 ρ1 e1 s1 E1 r1 h1 => FlC.nx h1 s1 E1
theorem s_ret (he : PE X e (tD W Wx a)) : PS X (.Return (some e) pos) (tSt W Wx fun δ S => exS δ (a δ S) fun d S1 => .ok (.rt d) S1) :=
  PS.of (ps_ret he) fun De σ H ⟨δ, S, ρ, s, E, h⟩ => FlC.next s E h fun v H1 d S1 ρ1 e1 s1 E1 r1 h1 => h1 ρ1 H1 .refl s1 v r1
theorem s_retN : PS X (.Return none pos) (tSt W Wx fun δ S => exS δ (.ok .non S) fun d S1 => .ok (.rt d) S1) :=
  PS.of ps_retN fun De σ H ⟨δ, S, ρ, s, E, h⟩ => h ρ H .refl s .non .non
theorem s_if {l m : List Stmt} {p : DEnv → Store → Out Bool} (hc : PT X e (tT W Wx p)) (ha : PSs X l (tSt W Wx f)) (hb : PSs X m (tSt W Wx g)) : PS X (.If e l m pos) (tSt W Wx fun δ S => exS δ (p δ S) fun t S1 => if t then f δ S1 else g δ S1) :=
  PS.of (ps_if hc ha hb) fun De σ H ⟨δ, S, ρ, s, E, h⟩ => FlC.next s E h fun v H1 d S1 ρ1 e1 s1 E1 r1 h1 => by
    subst r1
    cases d with
    | true => exact ⟨δ, S1, ρ1, s1, E1, h1⟩
    | false => exact ⟨δ, S1, ρ1, s1, E1, h1⟩
theorem s_unp {tg : Expr} {t : Tg} (hK : X.K = W.K) (he : PE X e (tD W Wx a)) (hg : PG X tg (tgR X.K t)) (hs : swapsWithSole [tg] e pos.line X.env = pure false) (hw : swappedStores [tg] e X.env = pure none) (h1 : (assignEach [tg] X.env).map (·.2) = [assign tg X.env]) :
    PS X (.Assign [tg] e pos) (tSt W Wx fun δ S => exS δ (a δ S) fun d S1 => (liftO S1 (tset t d δ)).bind fun δ' S1 => .ok (.nx δ') S1) :=
  PS.of (ps_asg he hg hs hw h1) fun De σ H ⟨δ, S, ρ, s, E, h⟩ => FlC.next s E h fun v H1 d S1 ρ1 e1 s1 E1 r1 h1 => by
    obtain ⟨δ', hd, h2⟩ := FlC.oO h1
    exact tg_ok hK hd r1 E1 fun σ' E' _ => FlC.nx h2 s1 E'
theorem tA2 {l : DEnv → Store → Out (List D)} {g2 : DEnv → D → D → Store → Out Fl} {De : Ends} {σ : L2.St} {H : Hp} (h : tSt W Wx (fun δ S => exS δ (a δ S) fun x S1 => exS δ (b δ S1) fun y S2 => g2 δ x y S2) De σ H) {Q : List V → Hp → Prop}
    (k : ∀ δ S ρ H1 x y v w, RepS W ρ S H1 → RepE W.K ρ S.length H1 δ σ → RepV W.K ρ S.length H1 x v → RepV W.K ρ S.length H1 y w → FlC W Wx De ρ S.length H1 (g2 δ x y S) → Q [v, w] H1) :
    tA W Wx (fun δ S => (a δ S).bind fun x S1 => (b δ S1).bind fun y S2 => .ok [x, y] S2) σ H Q := by
  obtain ⟨δ, S, ρ, s, E, h⟩ := h
  refine ⟨δ, S, ρ, s, E, ?_⟩
  dsimp only at h ⊢
  cases ha : a δ S with
  | bad => rw [ha] at h; exact h.elim
  | exc x S1 => rw [ha] at h; exact fun ρ1 H1 e1 s1 => h ρ1 H1 e1 s1 σ (E.mono e1)
  | ok dx S1 =>
    simp only [ha, exS_ok, Out.bind_ok] at h ⊢
    cases hb : b δ S1 with
    | bad => rw [hb] at h; exact h.elim
    | exc x S1 => rw [hb] at h; exact fun ρ1 H1 e1 s1 => h ρ1 H1 e1 s1 σ (E.mono e1)
    | ok dy S2 =>
      simp only [hb, exS_ok, Out.bind_ok] at h ⊢
      intro ρ1 H1 e1 s1 vs hv
      obtain ⟨v, w, rfl, rv, rw_⟩ := RepVs.two hv
      exact k δ S2 ρ1 H1 dx dy v w s1 (E.mono e1) rv rw_ (FlC.from h e1)
theorem s_par2 {y : Str} {px py pt : Pos} {kt k2 pt2} (hc : X.calm = true) (hN : X.N.Nodup) (hi : X.N[i]? = some x) (hj : X.N[j]? = some y) (hij : i ≠ j) (hx : X.env.scope.names.lookup x = some .local) (hy : X.env.scope.names.lookup y = some .local)
    (ha : PA X [e, e2] (tA W Wx fun δ S => (a δ S).bind fun x S1 => (b δ S1).bind fun y S2 => .ok [x, y] S2)) (hw : swappedStores [.Tuple [.Name x px, .Name y py] kt pt] (.Tuple [e, e2] k2 pt2) X.env = pure (some [x, y])) :
    PS X (.Assign [.Tuple [.Name x px, .Name y py] kt pt] (.Tuple [e, e2] k2 pt2) pos) (tSt W Wx fun δ S => exS δ (a δ S) fun x S1 => exS δ (b δ S1) fun y S2 => .ok (.nx ((δ.set i (some x)).set j (some y))) S2) :=
  PS.of (ps_par hc hN hi hj hij hx hy ha hw) fun De σ H h => tA2 (l := fun _ S => .ok [] S) (g2 := fun δ x y S2 => .ok (.nx ((δ.set i (some x)).set j (some y))) S2) h fun δ S ρ H1 x y v w s E rv rw_ h1 => ⟨v, w, rfl, FlC.nx h1 s ((E.set i rv).set j rw_)⟩
theorem s_par3 {y z : Str} {px py pz pt : Pos} {kt k2 pt2} (hc : X.calm = true) (hN : X.N.Nodup) (hi : X.N[i]? = some x) (hj : X.N[j]? = some y) (hk : X.N[k]? = some z) (hij : i ≠ j) (hik : i ≠ k) (hjk : j ≠ k) (hx : X.env.scope.names.lookup x = some .local) (hy : X.env.scope.names.lookup y = some .local) (hz : X.env.scope.names.lookup z = some .local)
    (ha : PA X [e, e2, e3] (tA W Wx fun δ S => (a δ S).bind fun x S1 => (b δ S1).bind fun y S2 => (c δ S2).bind fun z S3 => .ok [x, y, z] S3)) (hw : swappedStores [.Tuple [.Name x px, .Name y py, .Name z pz] kt pt] (.Tuple [e, e2, e3] k2 pt2) X.env = pure (some [x, y, z])) :
    PS X (.Assign [.Tuple [.Name x px, .Name y py, .Name z pz] kt pt] (.Tuple [e, e2, e3] k2 pt2) pos) (tSt W Wx fun δ S => exS δ (a δ S) fun x S1 => exS δ (b δ S1) fun y S2 => exS δ (c δ S2) fun z S3 => .ok (.nx (((δ.set i (some x)).set j (some y)).set k (some z))) S3) := by
  refine PS.of (ps_par3 hc hN hi hj hk hij hik hjk hx hy hz ha hw) fun De σ H ⟨δ, S, ρ, s, E, h⟩ => ?_
  refine ⟨δ, S, ρ, s, E, ?_⟩
  dsimp only at h ⊢
  cases ha : a δ S with
  | bad => rw [ha] at h; exact h.elim
  | exc x S1 => rw [ha] at h; exact fun ρ1 H1 e1 s1 => h ρ1 H1 e1 s1 σ (E.mono e1)
  | ok dx S1 =>
    simp only [ha, exS_ok, Out.bind_ok] at h ⊢
    cases hb : b δ S1 with
    | bad => rw [hb] at h; exact h.elim
    | exc x S1 => rw [hb] at h; exact fun ρ1 H1 e1 s1 => h ρ1 H1 e1 s1 σ (E.mono e1)
    | ok dy S2 =>
      simp only [hb, exS_ok, Out.bind_ok] at h ⊢
      cases hc : c δ S2 with
      | bad => rw [hc] at h; exact h.elim
      | exc x S1 => rw [hc] at h; exact fun ρ1 H1 e1 s1 => h ρ1 H1 e1 s1 σ (E.mono e1)
      | ok dz S3 =>
        simp only [hc, exS_ok, Out.bind_ok] at h ⊢
        intro ρ1 H1 e1 s1 vs hv
        cases hv with
        | cons r1 t1 =>
          obtain ⟨v, w, rfl, rv, rw_⟩ := RepVs.two t1
          exact ⟨_, v, w, rfl, h ρ1 H1 e1 s1 _ ((((E.mono e1).set i r1).set j rv).set k rw_)⟩
theorem aug_ip {o : BinO} {op : Operator} (h : opOk o op = true) : PIp X op (rP W (augF o)) := by
  intro pins s σ H xx y v u Q I r1 r2 hq
  obtain ⟨dx, dy, ρ, S, d, hS, hx, hy, e, q⟩ := hq
  unfold augF at e
  split at e
  · unfold opOk at h
    split at h <;> first | (cases h; done) | skip
    all_goals first | (rename_i hh; cases hh; done) | skip
    cases e; cases hx; cases hy
    exact iop_add pins s σ H _ _ v u Q I r1 r2 ⟨_, _, rfl, rfl, q.here hS (.int _)⟩
  · split at e
    · rename_i aa bb hz
      unfold opOk at h
      split at h <;> first | (cases h; done) | skip
      all_goals first | (rename_i hh; cases hh; done) | skip
      cases e
      cases hx with | str _ ha => cases hy with | str _ hb =>
      refine iop_add_str pins s σ H _ _ v u Q I r1 r2 ⟨_, _, rfl, rfl, ?_, ?_⟩
      · simpa [Str.length] using hz
      · rw [app_str]
        exact q.here hS (.str _ ⟨by rw [List.length_append]; exact hz, all_app ha.2 hb.2⟩)
    · cases e
  · unfold opOk at h
    split at h <;> first | (cases h; done) | skip
    all_goals first | (rename_i hh; cases hh; done) | skip
    cases e; cases hx; cases hy
    exact iop_sub pins s σ H _ _ v u Q I r1 r2 ⟨_, _, rfl, rfl, q.here hS (.int _)⟩
  · cases e
theorem s_aug {o : BinO} {op : Operator} {pos' : Pos} (ho : opOk o op = true) (hN : X.N.Nodup) (hi : X.N[i]? = some x) (hx : Loc X.env.scope x) (he : PE X e (tD W Wx a)) (hf : X.fn x = true ∨ X.env.scope.names.lookup x = some .local) :
    PS X (.AugAssign (.Name x pos') op e pos) (tSt W Wx fun δ S => (liftO S (getD δ i)).bind fun x S => exS δ (a δ S) fun y S1 => (liftO S1 (augF o x y S1)).bind fun z S2 => .ok (.nx (δ.set i (some z))) S2) := by
  refine PS.of (ps_aug hN hi hx he (aug_ip (W := W) ho) hf) fun De σ H ⟨δ, S, ρ, s, E, h⟩ => ?_
  obtain ⟨dx, hdx, h1⟩ := FlC.oO h
  unfold getD at hdx
  split at hdx
  · rename_i d' hd'
    cases hdx
    obtain ⟨v, ev, r⟩ := E.at_ i dx hd'
    refine ⟨v, ev, FlC.next s E h1 fun w H1 d S1 ρ1 e1 s1 E1 r1 h2 => ?_⟩
    obtain ⟨z, hz, h3⟩ := FlC.oO h2
    exact ⟨dx, d, ρ1, S1, z, s1, r.mono e1, r1, hz, fun H' zz ez sz rz => h3 ρ1 H' ez sz _ ((E1.mono ez).set i rz)⟩
  · cases hdx
theorem s_while {body : List Stmt} {p : DEnv → Store → Out Bool} (hp : PassesOwn (model X.prog X.w) X.A X.env X.xe) (hc : PT X e (tT W Wx p)) (hb : PSs X body (tSt W Wx f)) : PS X (.While e body [] pos) (tSt W Wx fun δ S => whileF p f manyT δ S) := by
  refine PS.of (ps_while hp hc hb) fun De σ H ⟨δ, S, ρ, s, E, h⟩ => ?_
  refine ⟨fun m σ H => ∃ δ S ρ, RepS W ρ S H ∧ RepE W.K ρ S.length H δ σ ∧ FlC W Wx De ρ S.length H (whileF p f m δ S), ⟨manyT, δ, S, ρ, s, E, h⟩, fun m σ H ⟨δ, S, ρ, s, E, h⟩ => ?_⟩
  cases m with
  | zero => exact h.elim
  | succ m =>
    refine FlC.next s E h fun t H1 d S1 ρ1 e1 s1 E1 r1 h1 => ?_
    subst r1
    cases d with
    | true =>
      refine ⟨fun σ' H' => ∃ δ S ρ, RepS W ρ S H' ∧ RepE W.K ρ S.length H' δ σ' ∧ FlC W Wx De ρ S.length H' (whileF p f m δ S), fun σ' H' h => ⟨m, Nat.lt_succ_self _, h⟩, δ, S1, ρ1, s1, E1, FlC.turn h1 fun δ2 S2 ρ2 H2 σ2 e2 s2 E2 h2 => ⟨δ2, S2, ρ2, s2, E2, h2⟩⟩
    | false => exact FlC.nx h1 s1 E1
theorem s_for {iter tg : Expr} {body : List Stmt} {src : DEnv → Store → Out Src} {t : Tg} (hK : X.K = W.K) (hp : PassesOwn (model X.prog X.w) X.A X.env X.xe) (hc : X.calm = true) (hi : PI X tg iter (iI W Wx src)) (hg : PG X tg (tgR X.K t)) (hb : PSs X body (tSt W Wx f))
    (hs : ∀ x, foldedSetIterable iter X.env x = pure x) :
    PS X (.For tg iter body [] pos) (tSt W Wx fun δ S => exS δ (src δ S) fun sr S1 => match sr with
      | .st ds => forL (fun x δ S => (liftO S (tset t x δ)).bind fun δ' S => f δ' S) ds δ S1
      | .lv n => forV n (fun x δ S => (liftO S (tset t x δ)).bind fun δ' S => f δ' S) manyT 0 δ S1) := by
  refine PS.of (ps_for hp hc hi hg hb hs) fun De σ H ⟨δ, S, ρ, s, E, h⟩ => ?_
  refine FlC.next s E h fun J H1 sr S1 ρ1 e1 s1 E1 r1 h1 => ?_
  have body_ok : ∀ {d : D} {x : V} {δ : DEnv} {σ : L2.St} {ρ : Rn} {S : Store} {H : Hp} {k : DEnv → Store → Out Fl} {Nx : L2.St → Hp → Prop}, RepS W ρ S H → RepE W.K ρ S.length H δ σ → RepV W.K ρ S.length H d x → FlC W Wx De ρ S.length H (turnF ((liftO S (tset t d δ)).bind fun δ' S => f δ' S) k) →
      (∀ δ1 S1 ρ1 H1 σ1, Ext ρ S.length H ρ1 S1.length H1 → RepS W ρ1 S1 H1 → RepE W.K ρ1 S1.length H1 δ1 σ1 → FlC W Wx De ρ1 S1.length H1 (k δ1 S1) → Nx σ1 H1) → tgR X.K t x σ H fun σ2 H2 => tSt W Wx f { De with nx := Nx, ct := Nx, bk := De.nx } σ2 H2 := by
    intro d x δ σ ρ S H k Nx hS hE hr hF hk
    cases hts : tset t d δ with
    | none => rw [hts] at hF; exact hF.elim
    | some δ' =>
      rw [hts] at hF
      exact tg_ok hK hts hr hE fun σ' E' _ => ⟨δ', S, ρ, hS, E', FlC.turn hF hk⟩
  cases sr with
  | st ds =>
    have hJ : Itm W ρ1 S1.length H1 ds J := r1
    refine ⟨fun i m σ H => m + i = ds.length ∧ ∃ δ S ρ, RepS W ρ S H ∧ RepE W.K ρ S.length H δ σ ∧ Ext ρ1 S1.length H1 ρ S.length H ∧ FlC W Wx De ρ S.length H (forL (fun x δ S => (liftO S (tset t x δ)).bind fun δ' S => f δ' S) (ds.drop i) δ S), ⟨ds.length, rfl, δ, S1, ρ1, s1, E1, .refl, h1⟩, fun i m σ H ⟨hm, δ, S, ρ, hS, hE, hX, hF⟩ => ?_⟩
    by_cases hi : i < ds.length
    · right
      refine ⟨hJ.go _ _ _ _ hX hi, fun σ' H' => ∃ m', m' < m ∧ m' + (i + 1) = ds.length ∧ ∃ δ S ρ, RepS W ρ S H' ∧ RepE W.K ρ S.length H' δ σ' ∧ Ext ρ1 S1.length H1 ρ S.length H' ∧ FlC W Wx De ρ S.length H' (forL (fun x δ S => (liftO S (tset t x δ)).bind fun δ' S => f δ' S) (ds.drop (i + 1)) δ S), fun σ' H' ⟨m', h1, h2, h3⟩ => ⟨m', h1, h2, h3⟩, fun x H' hy => ?_⟩
      obtain ⟨rfl, d, hd, rd⟩ := hJ.yld _ _ _ _ _ _ hX hi hy
      have hdrop : ds.drop i = d :: ds.drop (i + 1) := by
        rw [List.drop_eq_getElem_cons hi]
        congr 1
        rw [List.getElem?_eq_getElem hi] at hd
        exact Option.some.inj hd
      rw [hdrop] at hF
      exact body_ok hS hE (rd.mono hX) hF fun δ2 S2 ρ2 H2 σ2 e2 s2 E2 h2 => ⟨m - 1, by omega, by omega, δ2, S2, ρ2, s2, E2, hX.trans e2, h2⟩
    · left
      have hi' : i = ds.length := by omega
      subst hi'
      rw [List.drop_length] at hF
      exact ⟨hJ.stop _ _ _ hX, FlC.nx hF hS hE⟩
  | lv n =>
    obtain ⟨hn, hJ⟩ : n < S1.length ∧ J = Itl W.K (ρ1 n) := r1
    subst hJ
    refine ⟨fun i m σ H => ∃ δ S ρ, RepS W ρ S H ∧ RepE W.K ρ S.length H δ σ ∧ Ext ρ1 S1.length H1 ρ S.length H ∧ FlC W Wx De ρ S.length H (forV n (fun x δ S => (liftO S (tset t x δ)).bind fun δ' S => f δ' S) m i δ S), ⟨manyT, δ, S1, ρ1, s1, E1, .refl, h1⟩, fun i m σ H ⟨δ, S, ρ, hS, hE, hX, hF⟩ => ?_⟩
    cases m with
    | zero => exact hF.elim
    | succ m =>
      obtain ⟨ds, vs, hc, hp, hv, hr⟩ := cell_at hS (Nat.lt_of_lt_of_le hn hX.le)
      have eρ : ρ n = ρ1 n := hX.agree n hn
      rw [eρ] at hv
      unfold forV at hF
      rw [hc] at hF
      simp only at hF
      cases hd : ds[i]? with
      | none =>
        rw [hd] at hF
        left
        refine ⟨⟨vs, SqL.of hv, ?_⟩, FlC.nx hF hS hE⟩
        rw [← hr.length]
        exact List.getElem?_eq_none_iff.mp hd
      | some d =>
        rw [hd] at hF
        simp only at hF
        right
        obtain ⟨v, hvi, rv⟩ := hr.get hd
        refine ⟨⟨vs, v, SqL.of hv, hvi⟩, fun σ' H' => ∃ δ S ρ, RepS W ρ S H' ∧ RepE W.K ρ S.length H' δ σ' ∧ Ext ρ1 S1.length H1 ρ S.length H' ∧ FlC W Wx De ρ S.length H' (forV n (fun x δ S => (liftO S (tset t x δ)).bind fun δ' S => f δ' S) m (i + 1) δ S), fun σ' H' h => ⟨m, Nat.lt_succ_self _, h⟩, fun x H' hy => ?_⟩
        obtain ⟨rfl, hy2⟩ := hy
        have := hy2 vs (SqL.of hv)
        rw [hvi] at this
        cases this
        exact body_ok hS hE rv hF fun δ2 S2 ρ2 H2 σ2 e2 s2 E2 h2 => ⟨δ2, S2, ρ2, s2, E2, hX.trans e2, h2⟩
end
end PD

set_option Elab.async false
set_option linter.all false
set_option maxRecDepth 100000
namespace PD
open PySem PySem.Spec PyProof.Rows L2

def xAsg : Stmt → Option (Expr × Expr × Pos)
  | .Assign [t] v p => some (t, v, p)
  | _ => none
theorem xAsg_eq {s : Stmt} {t v : Expr} {p : Pos} (h : xAsg s = some (t, v, p)) : s = .Assign [t] v p := by
  unfold xAsg at h; split at h
  · cases h; rfl
  · cases h
def xAug : Stmt → Option (Expr × Operator × Expr)
  | .AugAssign t o v _ => some (t, o, v)
  | _ => none
theorem xAug_eq {s : Stmt} {t v : Expr} {o : Operator} (h : xAug s = some (t, o, v)) : ∃ p, s = .AugAssign t o v p := by
  unfold xAug at h; split at h
  · cases h; exact ⟨_, rfl⟩
  · cases h
def xExp : Stmt → Option Expr
  | .Expr v _ => some v
  | _ => none
theorem xExp_eq {s : Stmt} {v : Expr} (h : xExp s = some v) : ∃ p, s = .Expr v p := by
  unfold xExp at h; split at h
  · cases h; exact ⟨_, rfl⟩
  · cases h
def xRet : Stmt → Option (Option Expr)
  | .Return v _ => some v
  | _ => none
theorem xRet_eq {s : Stmt} {v : Option Expr} (h : xRet s = some v) : ∃ p, s = .Return v p := by
  unfold xRet at h; split at h
  · cases h; exact ⟨_, rfl⟩
  · cases h
def xIfS : Stmt → Option (Expr × List Stmt × List Stmt)
  | .If c a b _ => some (c, a, b)
  | _ => none
theorem xIfS_eq {s : Stmt} {c : Expr} {a b : List Stmt} (h : xIfS s = some (c, a, b)) : ∃ p, s = .If c a b p := by
  unfold xIfS at h; split at h
  · cases h; exact ⟨_, rfl⟩
  · cases h
def xFor : Stmt → Option (Expr × Expr × List Stmt)
  | .For t i b [] _ => some (t, i, b)
  | _ => none
theorem xFor_eq {s : Stmt} {t i : Expr} {b : List Stmt} (h : xFor s = some (t, i, b)) : ∃ p, s = .For t i b [] p := by
  unfold xFor at h; split at h
  · cases h; exact ⟨_, rfl⟩
  · cases h
def xWhl : Stmt → Option (Expr × List Stmt)
  | .While c b [] _ => some (c, b)
  | _ => none
theorem xWhl_eq {s : Stmt} {c : Expr} {b : List Stmt} (h : xWhl s = some (c, b)) : ∃ p, s = .While c b [] p := by
  unfold xWhl at h; split at h
  · cases h; exact ⟨_, rfl⟩
  · cases h
def xSmall : Stmt → Nat
  | .Pass _ => 1
  | .Break _ => 2
  | .Continue _ => 3
  | .Expr (.Constant (.str _) _ _) _ => 4
  | _ => 0
def notComp : Expr → Bool
  | .ListComp _ _ _ _ => false
  | .SetComp _ _ _ _ => false
  | .DictComp _ _ _ _ _ => false
  | _ => true
theorem sw_of {e : Expr} (h : notComp e = true) (t : Option Expr) (l : Nat) (env : Env) : swapsWith e t l env = pure false := by
  cases e <;> first | (cases h; done) | rfl
def isTup : Expr → Bool
  | .Tuple _ _ _ => true
  | _ => false
/-- what swappedStores says, by the scope -/
def swPure (sc : Scope) (tg value : Expr) : Option (Option (List Str)) := match tg, value with
  | .Tuple ts _ _, .Tuple vs _ _ =>
    if (!(ts.length == 2 || ts.length == 3) || vs.length != ts.length) = true then some none
    else if (!(vs.all notStar)) = true then none
    else
      let line := (ts.head?.map (·.pos.line)).getD 0
      let names := ts.filterMap fun
        | .Name id pos => if sc.names.lookup id == some .local && pos.line == line then some id else none
        | _ => none
      if (names.length != ts.length || names.eraseDups.length != names.length) = true then some none
      else if vs.all (foldedForSure 8) = true then some none
      else if vs.all (constantsAlone 8) = true then none
      else some (some names)
  | .Tuple _ _ _, v => if isTup v = true then none else some none
  | _, _ => none
theorem blk_fn {env : Env} (hk : env.scope.kind = .function) : env.blockKind = .function := by
  unfold Env.blockKind
  rw [hk]; rfl
theorem swPure_ok {sc : Scope} {tg v : Expr} {r : Option (List Str)} {env : Env} (hs : env.scope = sc) (hk : sc.kind = .function) (h : swPure sc tg v = some r) : swappedStores [tg] v env = pure r := by
  unfold swPure at h
  split at h
  · rename_i ts k1 p1 vs k2 p2
    have bk : (env.blockKind != .function) = false := by rw [blk_fn (by rw [hs]; exact hk)]; rfl
    have st : ∀ {z : Expr}, notStar z = true → (match z with | .Starred .. => true | _ => false) = false := by
      intro z hz; cases z <;> first | (cases hz; done) | rfl
    have eN : (ts.filterMap fun | .Name id pos => if env.kindOf id == some .local && pos.line == (ts.head?.map (·.pos.line)).getD 0 then some id else none | _ => none) =
        (ts.filterMap fun | .Name id pos => if sc.names.lookup id == some .local && pos.line == (ts.head?.map (·.pos.line)).getD 0 then some id else none | _ => none) := by
      subst hs; rfl
    unfold swappedStores
    simp only [bk, Bool.or_false]
    split at h
    · rename_i hc
      cases h
      rw [if_pos hc]
    · rename_i hc
      rw [if_neg hc]
      split at h
      · cases h
      · rename_i hst
        have hst' : vs.all notStar = true := by simpa using hst
        have an : (vs.any fun | .Starred .. => true | _ => false) = false := by
          rw [List.any_eq_false]
          intro z hz
          rw [st (List.all_eq_true.mp hst' z hz)]
          exact Bool.false_ne_true
        refine (if_neg (fun hh => by have hh' := an.symm.trans hh; cases hh')).trans ?_
        dsimp only at h
        generalize hN : (ts.filterMap fun | .Name id pos => if sc.names.lookup id == some .local && pos.line == (ts.head?.map (·.pos.line)).getD 0 then some id else none | _ => none) = NN at h eN
        have eN' : (ts.filterMap fun | .Name id pos => if env.kindOf id == some .local && pos.line == (ts.head?.map (·.pos.line)).getD 0 then some id else none | _ => none) = NN := eN
        have main : (if (NN.length != ts.length || NN.eraseDups.length != NN.length) = true then (pure none : Sem (Option (List Str)))
            else if vs.all (foldedForSure 8) = true then pure none
            else if vs.all (constantsAlone 8) = true then (do unsupported "assign.tuple-of-constant-expressions:order-of-the-stores"; pure (some NN)) else pure (some NN)) = pure r := by
          split at h
          · rename_i hn; cases h; rw [if_pos hn]
          · rename_i hn
            rw [if_neg hn]
            split at h
            · rename_i hf; cases h; rw [if_pos hf]
            · rename_i hf
              rw [if_neg hf]
              split at h
              · cases h
              · rename_i hca; cases h; rw [if_neg hca]
        rw [← eN'] at main
        exact main
  · rename_i ts k p hv
    split at h
    · cases h
    · rename_i hi
      cases h
      cases v <;> first | (exact absurd rfl hi) | rfl
  · cases h
/-- swapsWith of a comprehension into a name: not, or so -/
def swF (sc : Scope) (tg v : Expr) : Bool := match tg, v with
  | .Name t tp, .ListComp _ _ s vp => !(sc.names.lookup t == some .local && tp.line == vp.line && !(s.names.any fun (n, k) => n == t && (k == .local || k == .cell)))
  | _, _ => false
theorem swF_ok {sc : Scope} {tg v : Expr} {l : Nat} {env : Env} (hs : env.scope = sc) (h : swF sc tg v = true) : swapsWith v (some tg) l env = pure false := by
  unfold swF at h
  split at h
  · rename_i t tp el gs s vp
    have e : env.kindOf t = sc.names.lookup t := by unfold Env.kindOf; rw [hs]
    show (pure (env.blockKind == .function && env.kindOf t == some .local && tp.line == vp.line && !(s.names.any fun (n, k) => n == t && (k == .local || k == .cell))) : Sem Bool) = pure false
    rw [e, Bool.and_assoc, Bool.and_assoc]
    rw [Bool.not_eq_true', Bool.and_assoc] at h
    rw [h, Bool.and_false]
  · cases h
def swT (sc : Scope) (tg v : Expr) : Bool := match tg, v with
  | .Name t tp, .ListComp _ _ s vp => (sc.names.lookup t == some .local && tp.line == vp.line && !(s.names.any fun (n, k) => n == t && (k == .local || k == .cell)))
  | _, _ => false
def kindF (sc : Scope) : Bool := match sc.kind with
  | .function => true
  | _ => false
theorem kindF_ok {sc : Scope} (h : kindF sc = true) : sc.kind = .function := by
  unfold kindF at h; split at h
  · assumption
  · cases h
theorem lk_local {sc : Scope} {t : Str} (h : (sc.names.lookup t == some .local) = true) : sc.names.lookup t = some .local := by
  cases e : sc.names.lookup t with
  | none => rw [e] at h; cases h
  | some k => cases k <;> first | rfl | (rw [e] at h; cases h)
def chkA (c : SC) (i : Nat) (e : Ex) (tg v : Expr) : Bool := chkNm c i tg && chk c e v && (notComp v || swF c.sc tg v || (swT c.sc tg v && kindF c.sc))
def locs (sc : Scope) (x : Str) : Bool := sc.names.lookup x == some .local
mutual
def chkS : SC → PD.St → Stmt → Bool
  | c, .set i e, s => match xAsg s with
    | some (tg, v, _) => chkA c i e tg v
    | none => false
  | c, .unp t e, s => match xAsg s with
    | some (tg, v, _) => kindF c.sc && isTup tg && chkTg c t tg && chk c e v && notComp v && decide (swPure c.sc tg v = some none)
    | none => false
  | c, .par2 i j a b, s => match xAsg s with
    | some (tg, v, _) => kindF c.sc && (match xTup tg, xTup v with
      | some [ti, tj], some [ea, eb] => match xName ti, xName tj with
        | some x, some y => decide (c.N[i]? = some x) && decide (c.N[j]? = some y) && decide (i ≠ j) && locs c.sc x && locs c.sc y && notStar ea && notStar eb && chk c a ea && chk c b eb && decide (swPure c.sc tg v = some (some [x, y]))
        | _, _ => false
      | _, _ => false)
    | none => false
  | c, .par3 i j k a b d, s => match xAsg s with
    | some (tg, v, _) => kindF c.sc && (match xTup tg, xTup v with
      | some [ti, tj, tk], some [ea, eb, ed] => match xName ti, xName tj, xName tk with
        | some x, some y, some z => decide (c.N[i]? = some x) && decide (c.N[j]? = some y) && decide (c.N[k]? = some z) && decide (i ≠ j) && decide (i ≠ k) && decide (j ≠ k) && locs c.sc x && locs c.sc y && locs c.sc z && notStar ea && notStar eb && notStar ed && chk c a ea && chk c b eb && chk c d ed && decide (swPure c.sc tg v = some (some [x, y, z]))
        | _, _, _ => false
      | _, _ => false)
    | none => false
  | c, .aug i o e, s => match xAug s with
    | some (tg, eo, v) => chkNm c i tg && opOk o eo && chk c e v
    | none => false
  | c, .exp e, s => match xExp s with
    | some v => chk c e v && notComp v
    | none => false
  | c, .ret e, s => match xRet s with
    | some (some v) => chk c e v
    | some none => match e with
      | .cst .non => true
      | _ => false
    | none => false
  | c, .iff e a b, s => match xIfS s with
    | some (ce, l, m) => chk c e ce && chkSs c a l && chkSs c b m
    | none => false
  | c, .forr t it b, s => match xFor s with
    | some (tg, ie, l) => chkTg c t tg && notSet ie && chkI c it ie && chkSs c b l
    | none => false
  | c, .whl e b, s => match xWhl s with
    | some (ce, l) => chk c e ce && chkSs c b l
    | none => false
  | c, .pass, s => xSmall s == 1 || xSmall s == 4
  | c, .brk, s => xSmall s == 2
  | c, .cnt, s => xSmall s == 3
def chkSs : SC → Sts → List Stmt → Bool
  | c, .nil, l => l.isEmpty
  | c, .cons s ss, l => match l with
    | st :: sts => chkS c s st && chkSs c ss sts
    | [] => false
end
section
variable {W : Wd} {G : Dn} {c : SC} {X : Cx} {Wx : WX}
theorem XOk.ndX (ok : XOk W G c X Wx) : X.N.Nodup := by rw [ok.N]; exact ok.nd
theorem chkA_ok (ok : XOk W G c X Wx) {i : Nat} {e : Ex} {tg v : Expr} {pos : Pos} (h : chkA c i e tg v = true) : PS X (.Assign [tg] v pos) (tSt W Wx (evS G (.set i e))) := by
  unfold chkA at h
  simp only [Bool.and_eq_true, Bool.or_eq_true] at h
  obtain ⟨⟨h1, h2⟩, h3⟩ := h
  obtain ⟨x, p, rfl, hi, hl, hf⟩ := chkNm_ok ok h1
  have ev_ := (ok_ev (W := W) (G := G) e ok h2).1
  rcases h3 with (h3 | h3) | ⟨h3, hk⟩
  · exact s_set ok.ndX hi hl ev_ (sw_of h3 _ _ _) hf
  · exact s_set ok.ndX hi hl ev_ (swF_ok ok.sc h3) hf
  · unfold swT at h3
    split at h3
    · rename_i t tp el gs s vp ht
      cases ht
      simp only [Bool.and_eq_true, Bool.not_eq_true'] at h3
      obtain ⟨⟨h4, h5⟩, h6⟩ := h3
      have hyl : X.env.scope.names.lookup x = some .local := by rw [ok.sc]; exact lk_local h4
      have hkX : X.env.scope.kind = .function := by rw [ok.sc]; exact kindF_ok hk
      cases e with
      | comp cel t it cs isO =>
        unfold chk at h2
        split at h2
        · rename_i eel et ei ecs scope vp' hb
          simp only [Bool.and_eq_true] at h2
          obtain ⟨⟨⟨⟨⟨q1, q2⟩, q3⟩, q4⟩, q5⟩, q6⟩ := h2
          have := xLc_eq hb
          cases this
          have hsl : (t.own c.N).map (·.2) = t.slots := by unfold Tg.own; rw [List.map_map]; exact List.map_id' _
          have v := ps_setLc (X := X) (g := tgR X.K t) (i := i) (y := x) (py := p) (spos := pos) ok.calm ok.ndX hi hyl (sw_true hkX hyl h5 h6) (ok_evI (W := W) (G := G) it (tg := et) ok q4) (blkOk_by (own := t.own c.N) (by rw [ok.N, ok.sc]; exact q1))
            (fun s H C cl fp => chkTg_ok (ok.blk _ s H C cl fp) q2) (fun s H C cl fp => ok_evT (W := W) (G := G) cs (ok.blk _ s H C cl fp) q5) (fun s H C cl fp => (ok_ev (W := W) (G := G) cel (ok.blk _ s H C cl fp) q6).1) (set_of q3 X.env)
          rw [hsl] at v
          refine PS.of v fun De σ H hh => ?_
          have z := asg_to (i := i) hh
          exact lc_to ok.K (fun _ h => h) z
        · cases h2
      | _ => simp [chk, xCst, xName, xTup, xLst, xBin, xUn, xBool, xIf, xCmp, xChn, xSub, xCall, xMet] at h2
    · cases h3
theorem locs_ok (ok : XOk W G c X Wx) {x : Str} (h : locs c.sc x = true) : X.env.scope.names.lookup x = some .local := by rw [ok.sc]; exact lk_local h
theorem g_three {a b d : DEnv → Store → Out D} {ea eb ed : Expr} (ha : PE X ea (tD W Wx a)) (hb : PE X eb (tD W Wx b)) (hd : PE X ed (tD W Wx d)) (h1 : notStar ea = true) (h2 : notStar eb = true) (h3 : notStar ed = true) : PA X [ea, eb, ed] (tA W Wx fun δ S => (a δ S).bind fun x S1 => (b δ S1).bind fun y S2 => (d δ S2).bind fun z S3 => .ok [x, y, z] S3) := by
  have h := g_cons ha (g_cons hb (g_cons hd g_nil (star_of h3 _ _)) (star_of h2 _ _)) (star_of h1 _ _)
  have e : (fun δ S => (a δ S).bind fun x S1 => (b δ S1).bind fun y S2 => (d δ S2).bind fun z S3 => .ok [x, y, z] S3) = (fun (δ : DEnv) (S : Store) => (a δ S).bind fun x S1 => ((b δ S1).bind fun y S2 => ((d δ S2).bind fun z S3 => (Out.ok [] S3).bind fun (xs : List D) S4 => Out.ok (z :: xs) S4).bind fun xs S3 => Out.ok (y :: xs) S3).bind fun xs S2 => Out.ok (x :: xs) S2) := by
    funext δ S
    simp only [Out.bind_assoc, Out.bind_ok]
  rw [e]; exact h
end
theorem xSmall_eq {s : Stmt} {n : Nat} (h : (xSmall s == n) = true) (hn : n ≠ 0) : (n = 1 ∧ ∃ p, s = .Pass p) ∨ (n = 2 ∧ ∃ p, s = .Break p) ∨ (n = 3 ∧ ∃ p, s = .Continue p) ∨ (n = 4 ∧ ∃ x j p p', s = .Expr (.Constant (.str x) j p) p') := by
  have h' : xSmall s = n := by simpa using h
  unfold xSmall at h'
  split at h'
  · exact .inl ⟨h'.symm, _, rfl⟩
  · exact .inr (.inl ⟨h'.symm, _, rfl⟩)
  · exact .inr (.inr (.inl ⟨h'.symm, _, rfl⟩))
  · exact .inr (.inr (.inr ⟨h'.symm, _, _, _, _, rfl⟩))
  · exact absurd h'.symm hn
mutual
theorem ok_S {W : Wd} {G : Dn} : ∀ (x : PD.St) {c : SC} {X : Cx} {Wx : WX} {s : Stmt}, XOk W G c X Wx → PassesOwn (model X.prog X.w) X.A X.env X.xe → chkS c x s = true → PS X s (tSt W Wx (evS G x))
  | .set i e, c, X, Wx, s, ok, po, h => by
    unfold chkS at h
    split at h
    · rename_i tg v pos hs
      have := xAsg_eq hs
      subst this
      exact chkA_ok ok h
    · cases h
  | .unp t e, c, X, Wx, s, ok, po, h => by
    unfold chkS at h
    split at h
    · rename_i tg v pos hs
      have := xAsg_eq hs
      subst this
      simp only [Bool.and_eq_true, decide_eq_true_eq] at h
      obtain ⟨⟨⟨⟨⟨h1, h2⟩, h3⟩, h4⟩, h5⟩, h6⟩ := h
      have h1r : (assignEach [tg] X.env).map (·.2) = [assign tg X.env] := by
        cases tg <;> first | (cases h2; done) | rfl
      exact s_unp ok.K (ok_ev e ok h4).1 (chkTg_ok ok h3) (sw_of h5 _ _ _) (swPure_ok ok.sc (kindF_ok h1) h6) h1r
    · cases h
  | .par2 i j a b, c, X, Wx, s, ok, po, h => by
    unfold chkS at h
    split at h
    · rename_i tg v pos hs
      have := xAsg_eq hs
      subst this
      simp only [Bool.and_eq_true] at h
      obtain ⟨hk, h⟩ := h
      split at h
      · rename_i ti tj ea eb e1 e2
        split at h
        · rename_i x y ex ey
          simp only [Bool.and_eq_true, decide_eq_true_eq] at h
          obtain ⟨⟨⟨⟨⟨⟨⟨⟨⟨h1, h2⟩, h3⟩, h4⟩, h5⟩, h6⟩, h7⟩, h8⟩, h9⟩, h10⟩ := h
          obtain ⟨k1, p1, rfl⟩ := xTup_eq e1
          obtain ⟨k2, p2, rfl⟩ := xTup_eq e2
          obtain ⟨p3, rfl⟩ := xName_eq ex
          obtain ⟨p4, rfl⟩ := xName_eq ey
          rw [← ok.N] at h1 h2
          exact s_par2 ok.calm ok.ndX h1 h2 h3 (locs_ok ok h4) (locs_ok ok h5) (g_two (ok_ev a ok h8).1 (ok_ev b ok h9).1 (star_of h6 _ _) (star_of h7 _ _)) (swPure_ok ok.sc (kindF_ok hk) h10)
        · cases h
      · cases h
    · cases h
  | .par3 i j k a b d, c, X, Wx, s, ok, po, h => by
    unfold chkS at h
    split at h
    · rename_i tg v pos hs
      have := xAsg_eq hs
      subst this
      simp only [Bool.and_eq_true] at h
      obtain ⟨hk, h⟩ := h
      split at h
      · rename_i ti tj tk ea eb ed e1 e2
        split at h
        · rename_i x y z ex ey ez
          simp only [Bool.and_eq_true, decide_eq_true_eq] at h
          obtain ⟨⟨⟨⟨⟨⟨⟨⟨⟨⟨⟨⟨⟨⟨⟨h1, h2⟩, h2'⟩, h3⟩, h3'⟩, h3''⟩, h4⟩, h5⟩, h5'⟩, h6⟩, h7⟩, h7'⟩, h8⟩, h9⟩, h9'⟩, h10⟩ := h
          obtain ⟨k1, p1, rfl⟩ := xTup_eq e1
          obtain ⟨k2, p2, rfl⟩ := xTup_eq e2
          obtain ⟨p3, rfl⟩ := xName_eq ex
          obtain ⟨p4, rfl⟩ := xName_eq ey
          obtain ⟨p5, rfl⟩ := xName_eq ez
          rw [← ok.N] at h1 h2 h2'
          exact s_par3 ok.calm ok.ndX h1 h2 h2' h3 h3' h3'' (locs_ok ok h4) (locs_ok ok h5) (locs_ok ok h5') (g_three (ok_ev a ok h8).1 (ok_ev b ok h9).1 (ok_ev d ok h9').1 h6 h7 h7') (swPure_ok ok.sc (kindF_ok hk) h10)
        · cases h
      · cases h
    · cases h
  | .aug i o e, c, X, Wx, s, ok, po, h => by
    unfold chkS at h
    split at h
    · rename_i tg eo v hs
      obtain ⟨p, rfl⟩ := xAug_eq hs
      simp only [Bool.and_eq_true] at h
      obtain ⟨⟨h1, h2⟩, h3⟩ := h
      obtain ⟨x, p, rfl, hi, hl, hf⟩ := chkNm_ok ok h1
      exact s_aug h2 ok.ndX hi hl (ok_ev e ok h3).1 hf
    · cases h
  | .exp e, c, X, Wx, s, ok, po, h => by
    unfold chkS at h
    split at h
    · rename_i v hs
      obtain ⟨p, rfl⟩ := xExp_eq hs
      simp only [Bool.and_eq_true] at h
      exact s_exp (ok_ev e ok h.1).1 (sw_of h.2 _ _ _)
    · cases h
  | .ret e, c, X, Wx, s, ok, po, h => by
    unfold chkS at h
    split at h
    · rename_i v hs
      obtain ⟨p, rfl⟩ := xRet_eq hs
      exact s_ret (ok_ev e ok h).1
    · rename_i hs
      obtain ⟨p, rfl⟩ := xRet_eq hs
      split at h
      · exact s_retN
      · cases h
    · cases h
  | .iff e a b, c, X, Wx, s, ok, po, h => by
    unfold chkS at h
    split at h
    · rename_i ce l m hs
      obtain ⟨p, rfl⟩ := xIfS_eq hs
      simp only [Bool.and_eq_true] at h
      exact s_if (ok_ev e ok h.1.1).2.1 (ok_Ss a ok po h.1.2) (ok_Ss b ok po h.2)
    · cases h
  | .forr t it b, c, X, Wx, s, ok, po, h => by
    unfold chkS at h
    split at h
    · rename_i tg ie l hs
      obtain ⟨p, rfl⟩ := xFor_eq hs
      simp only [Bool.and_eq_true] at h
      obtain ⟨⟨⟨h1, h2⟩, h3⟩, h4⟩ := h
      exact s_for ok.K po ok.calm (ok_evI it ok h3) (chkTg_ok ok h1) (ok_Ss b ok po h4) (set_of h2 X.env)
    · cases h
  | .whl e b, c, X, Wx, s, ok, po, h => by
    unfold chkS at h
    split at h
    · rename_i ce l hs
      obtain ⟨p, rfl⟩ := xWhl_eq hs
      simp only [Bool.and_eq_true] at h
      exact s_while po (ok_ev e ok h.1).2.1 (ok_Ss b ok po h.2)
    · cases h
  | .pass, c, X, Wx, s, ok, po, h => by
    unfold chkS at h
    rw [Bool.or_eq_true] at h
    rcases h with h | h
    · rcases xSmall_eq h (by decide) with ⟨_, p, rfl⟩ | ⟨z, _⟩ | ⟨z, _⟩ | ⟨z, _⟩
      · exact s_pass
      · cases z
      · cases z
      · cases z
    · rcases xSmall_eq h (by decide) with ⟨z, _⟩ | ⟨z, _⟩ | ⟨z, _⟩ | ⟨_, _, _, _, _, rfl⟩
      · cases z
      · cases z
      · cases z
      · exact s_doc
  | .brk, c, X, Wx, s, ok, po, h => by
    unfold chkS at h
    rcases xSmall_eq h (by decide) with ⟨z, _⟩ | ⟨_, p, rfl⟩ | ⟨z, _⟩ | ⟨z, _⟩
    · cases z
    · exact s_brk
    · cases z
    · cases z
  | .cnt, c, X, Wx, s, ok, po, h => by
    unfold chkS at h
    rcases xSmall_eq h (by decide) with ⟨z, _⟩ | ⟨z, _⟩ | ⟨_, p, rfl⟩ | ⟨z, _⟩
    · cases z
    · cases z
    · exact s_cnt
    · cases z
theorem ok_Ss {W : Wd} {G : Dn} : ∀ (x : Sts) {c : SC} {X : Cx} {Wx : WX} {l : List Stmt}, XOk W G c X Wx → PassesOwn (model X.prog X.w) X.A X.env X.xe → chkSs c x l = true → PSs X l (tSt W Wx (evSs G x))
  | .nil, c, X, Wx, l, ok, po, h => by
    unfold chkSs at h
    rw [List.isEmpty_iff] at h
    subst h
    exact s_nil
  | .cons s ss, c, X, Wx, l, ok, po, h => by
    unfold chkSs at h
    split at h
    · rename_i st sts
      simp only [Bool.and_eq_true] at h
      exact s_cons (ok_S s ok po h.1) (ok_Ss ss ok po h.2)
    · cases h
end
end PD

set_option Elab.async false
set_option linter.all false
set_option maxRecDepth 100000
namespace PD
open PySem PySem.Spec PyProof.Rows L2

mutual
/-- new objects of the store become values -/
def D.frz (N : Nat) (S : Store) : D → Option D
  | .tup ds => (D.frzs N S ds).map .tup
  | .lst ds => (D.frzs N S ds).map .lst
  | .rol ds => (D.frzs N S ds).map .rol
  | .obj n => if n < N then some (.obj n) else match S[n]? with
    | some (.lst ds) => some (.lst ds)
    | _ => none
  | d => some d
def D.frzs (N : Nat) (S : Store) : List D → Option (List D)
  | [] => some []
  | d :: ds => (D.frz N S d).bind fun x => (D.frzs N S ds).map fun xs => x :: xs
end
def fin (fz : Bool) (N : Nat) (d : D) (S : Store) : Out D :=
  if fz then (liftO S (d.frz N S)).bind fun d' S => .ok d' (S.take N)
  else match d with
    | .obj n => if n < N then .ok d (S.take N) else match S[n]? with
      | some c => .ok (.obj N) (S.take N ++ [c])
      | none => .bad
    | d => if d.pure then .ok d (S.take N) else .bad
def startD (len : Nat) (ds : List D) : DEnv := ds.map some ++ List.replicate (len - ds.length) none
def runF (G : Dn) (fz : Bool) (b : Sts) (len : Nat) : List D → Store → Out D := fun ds S => match evSs G b (startD len ds) S with
  | .ok (.rt d) S' => fin fz S.length d S'
  | .ok (.nx _) S' => .ok .non (S'.take S.length)
  | .ok (.ex x _) S' => .exc x (S'.take S.length)
  | _ => .bad
section
variable {W : Wd} {K : PySem.W.Frag} {ρ ρ' : Rn} {N N' : Nat} {H H' : Hp} {S S' : Store}
mutual
theorem RepV.low (hN : N ≤ N') : ∀ {d : D} {v : V}, RepV K ρ N' H d v → d.pure = true → RepV K ρ N H d v
  | _, _, .non, _ => .non
  | _, _, .bl b, _ => .bl b
  | _, _, .int i, _ => .int i
  | _, _, .str s h, _ => .str s h
  | _, _, .tup e r, p => .tup e (RepVs.low hN r (by simpa [D.pure] using p))
  | _, _, .lst e n r, p => .lst e ⟨fun i hi => n.1 i (Nat.lt_of_lt_of_le hi hN), n.2⟩ (RepVs.low hN r (by simpa [D.pure] using p))
  | _, _, .rol e r, p => .rol e (RepVs.low hN r (by simpa [D.pure] using p))
  | _, _, .obj h, p => by simp [D.pure] at p
theorem RepVs.low (hN : N ≤ N') : ∀ {ds : List D} {vs : List V}, RepVs K ρ N' H ds vs → D.pures ds = true → RepVs K ρ N H ds vs
  | _, _, .nil, _ => .nil
  | _, _, .cons r t, p => by
    simp only [D.pures, Bool.and_eq_true] at p
    exact .cons (RepV.low hN r p.1) (RepVs.low hN t p.2)
end
theorem pures_all : ∀ {ds : List D}, ds.all D.pure = D.pures ds
  | [] => rfl
  | d :: ds => by rw [List.all_cons, D.pures, pures_all (ds := ds)]
theorem RepC.low (hN : N ≤ N') {a : Addr} {c : C} (r : RepC K ρ N' H a c) : RepC K ρ N H a c := by
  cases c with
  | lst ds => obtain ⟨p, vs, h, r⟩ := r; exact ⟨p, vs, h, r.low hN (by rw [← pures_all]; exact p)⟩
  | dic _ _ => exact r
  | st _ => exact r
theorem RepS.cut (s : RepS W ρ S H) (h : N ≤ S.length) : RepS W ρ (S.take N) H where
  at_ := fun i c e => by
    rw [List.length_take, Nat.min_eq_left h]
    have hi : i < N := by
      have := (List.getElem?_eq_some_iff.mp e).1
      rw [List.length_take] at this
      omega
    rw [List.getElem?_take_of_lt hi] at e
    exact (s.at_ i c e).low h
  inj := fun i j hi hj => by
    rw [List.length_take] at hi hj
    exact s.inj i j (by omega) (by omega)
  tabs := s.tabs
  hid := fun a ha => by
    obtain ⟨e, n⟩ := s.hid a ha
    refine ⟨e, fun i hi => n i ?_⟩
    rw [List.length_take] at hi
    omega
theorem Ext.cut (e : Ext ρ N H ρ' N' H') : Ext ρ N H ρ' N H' := ⟨Nat.le_refl _, e.agree, e.tups, e.frzs, e.keep, e.there, fun i h1 h2 => absurd h2 (Nat.not_lt.mpr h1), e.hid⟩
mutual
theorem RepV.frz (s : RepS W ρ S H) (h : N ≤ S.length) : ∀ {d : D} {v : V} {d' : D}, RepV W.K ρ S.length H d v → d.frz N S = some d' → RepV W.K ρ N H d' v
  | _, _, _, .non, e => by simp only [D.frz, Option.some.injEq] at e; subst e; exact .non
  | _, _, _, .bl b, e => by simp only [D.frz, Option.some.injEq] at e; subst e; exact .bl b
  | _, _, _, .int i, e => by simp only [D.frz, Option.some.injEq] at e; subst e; exact .int i
  | _, _, _, .str x hx, e => by simp only [D.frz, Option.some.injEq] at e; subst e; exact .str x hx
  | _, _, _, .tup q r, e => by
    simp only [D.frz, Option.map_eq_some_iff] at e
    obtain ⟨xs, hx, rfl⟩ := e
    exact .tup q (RepVs.frz s h r hx)
  | _, _, _, .lst q n r, e => by
    simp only [D.frz, Option.map_eq_some_iff] at e
    obtain ⟨xs, hx, rfl⟩ := e
    exact .lst q ⟨fun i hi => n.1 i (Nat.lt_of_lt_of_le hi h), n.2⟩ (RepVs.frz s h r hx)
  | _, _, _, .rol q r, e => by
    simp only [D.frz, Option.map_eq_some_iff] at e
    obtain ⟨xs, hx, rfl⟩ := e
    exact .rol q (RepVs.frz s h r hx)
  | _, _, _, .obj (n := n) hn, e => by
    simp only [D.frz] at e
    split at e
    · rename_i hlt
      cases e
      exact .obj hlt
    · rename_i hge
      split at e
      · rename_i ds hds
        cases e
        obtain ⟨hp, vs, h1, h2⟩ := s.list hds
        refine .lst h1 ⟨fun i hi z => ?_, fun z => ?_⟩ (h2.low h (by rw [← pures_all]; exact hp))
        · have := s.inj i n (Nat.lt_of_lt_of_le hi h) hn z
          omega
        · exact (s.hid _ z).2 n hn rfl
      · cases e
theorem RepVs.frz (s : RepS W ρ S H) (h : N ≤ S.length) : ∀ {ds : List D} {vs : List V} {ds' : List D}, RepVs W.K ρ S.length H ds vs → D.frzs N S ds = some ds' → RepVs W.K ρ N H ds' vs
  | _, _, _, .nil, e => by simp only [D.frzs, Option.some.injEq] at e; subst e; exact .nil
  | _, _, _, .cons r t, e => by
    simp only [D.frzs, Option.bind_eq_some_iff, Option.map_eq_some_iff] at e
    obtain ⟨x, hx, xs, hxs, rfl⟩ := e
    exact .cons (RepV.frz s h r hx) (RepVs.frz s h t hxs)
end
mutual
theorem RepV.ren {n : Nat} (s : RepS W ρ' S' H') (hN : N ≤ S'.length) (hn : n < S'.length) (hge : N ≤ n) : ∀ {d : D} {v : V}, RepV W.K ρ' S'.length H' d v → d.pure = true → RepV W.K (aux ρ' N (ρ' n)) (N + 1) H' d v
  | _, _, .non, _ => .non
  | _, _, .bl b, _ => .bl b
  | _, _, .int i, _ => .int i
  | _, _, .str s h, _ => .str s h
  | _, _, .tup e r, p => .tup e (RepVs.ren s hN hn hge r (by simpa [D.pure] using p))
  | _, _, .lst e m r, p => .lst e ⟨fun i hi => by
      by_cases z : i = N
      · rw [z, aux_self]; exact m.1 n hn
      · rw [aux_ne z]; exact m.1 i (by omega), m.2⟩ (RepVs.ren s hN hn hge r (by simpa [D.pure] using p))
  | _, _, .rol e r, p => .rol e (RepVs.ren s hN hn hge r (by simpa [D.pure] using p))
  | _, _, .obj h, p => by simp [D.pure] at p
theorem RepVs.ren {n : Nat} (s : RepS W ρ' S' H') (hN : N ≤ S'.length) (hn : n < S'.length) (hge : N ≤ n) : ∀ {ds : List D} {vs : List V}, RepVs W.K ρ' S'.length H' ds vs → D.pures ds = true → RepVs W.K (aux ρ' N (ρ' n)) (N + 1) H' ds vs
  | _, _, .nil, _ => .nil
  | _, _, .cons r t, p => by
    simp only [D.pures, Bool.and_eq_true] at p
    exact .cons (RepV.ren s hN hn hge r p.1) (RepVs.ren s hN hn hge t p.2)
end
theorem fin_ok {Wx : WX} {σ : L2.St} {fz : Bool} {d : D} {v : V} {Q : VK} (hc : Cont W Wx σ (relD W) (fin fz N d S') ρ N H Q) (e : Ext ρ N H ρ' S'.length H') (s : RepS W ρ' S' H') (r : RepV W.K ρ' S'.length H' d v) : Q v H' := by
  have hN : N ≤ S'.length := e.le
  have hl : (S'.take N).length = N := by rw [List.length_take]; omega
  have ec : Ext ρ N H ρ' (S'.take N).length H' := by rw [hl]; exact e.cut
  unfold fin at hc
  split at hc
  · obtain ⟨d', hd, h2⟩ : ∃ d', d.frz N S' = some d' ∧ Cont W Wx σ (relD W) (.ok d' (S'.take N)) ρ N H Q := by
      cases hq : d.frz N S' with
      | none => rw [hq] at hc; exact hc.elim
      | some d' => rw [hq] at hc; exact ⟨d', rfl, hc⟩
    exact Cont.ok h2 ec (s.cut hN) (by show RepV _ _ _ _ _ _; rw [hl]; exact RepV.frz s hN r hd)
  · split at hc
    · rename_i n
      split at hc
      · rename_i hlt
        cases r
        exact Cont.ok hc ec (s.cut hN) (by show RepV _ _ _ _ _ _; rw [hl]; exact .obj hlt)
      · rename_i hge
        split at hc
        · rename_i c hcell
          cases r with | obj hn =>
          have hl2 : (S'.take N ++ [c]).length = N + 1 := by rw [List.length_append, hl]; rfl
          refine Cont.ok (ρ' := aux ρ' N (ρ' n)) hc ?_ ?_ ?_
          · rw [hl2]
            exact ⟨Nat.le_succ _, fun i hi => (aux_ne (Nat.ne_of_lt hi)).trans (e.agree i hi), e.tups, e.frzs, e.keep, e.there, fun i h1 h2 => by
              have : i = N := by omega
              rw [this, aux_self]; exact e.fresh n (by omega) hn, e.hid⟩
          · have sc := s.cut hN
            refine ⟨fun i c' ee => ?_, fun i j hi hj ee => ?_, s.tabs, fun a ha => ?_⟩
            · rw [hl2]
              by_cases hi : i < N
              · rw [List.getElem?_append_left (by rw [hl]; exact hi)] at ee
                rw [aux_ne (Nat.ne_of_lt hi)]
                have q := sc.at_ i c' ee
                rw [hl] at q
                cases c' with
                | lst ds =>
                  obtain ⟨p, vs, h1, h2⟩ := q
                  refine ⟨p, vs, h1, ?_⟩
                  have pp : D.pures ds = true := by rw [← pures_all]; exact p
                  have key := (s.at_ i (.lst ds) (by rw [List.getElem?_take_of_lt hi] at ee; exact ee))
                  obtain ⟨_, vs', h3, h4⟩ := key
                  rw [h1] at h3
                  cases h3
                  exact RepVs.ren s hN hn (by omega) h4 pp
                | dic _ _ => exact q
                | st _ => exact q
              · rw [List.getElem?_append_right (by rw [hl]; omega), hl] at ee
                have hz : i = N := by
                  by_cases z : i - N = 0
                  · omega
                  · obtain ⟨k, hk⟩ : ∃ k, i - N = k + 1 := ⟨i - N - 1, by omega⟩
                    rw [hk] at ee; simp at ee
                subst hz
                simp at ee
                subst ee
                rw [aux_self]
                have q := s.at_ n c hcell
                cases c with
                | lst ds =>
                  obtain ⟨p, vs, h1, h2⟩ := q
                  exact ⟨p, vs, h1, RepVs.ren s hN hn (by omega) h2 (by rw [← pures_all]; exact p)⟩
                | dic _ _ => exact q
                | st _ => exact q
            · rw [hl2] at hi hj
              by_cases h1 : i = N
              · by_cases h2 : j = N
                · omega
                · rw [h1, aux_self, aux_ne h2] at ee
                  have := s.inj n j hn (by omega) ee
                  omega
              · by_cases h2 : j = N
                · rw [h2, aux_self, aux_ne h1] at ee
                  have := s.inj i n (by omega) hn ee
                  omega
                · rw [aux_ne h1, aux_ne h2] at ee
                  exact s.inj i j (by omega) (by omega) ee
            · obtain ⟨q1, q2⟩ := s.hid a ha
              refine ⟨q1, fun i hi => ?_⟩
              rw [hl2] at hi
              by_cases h1 : i = N
              · rw [h1, aux_self]; exact q2 n hn
              · rw [aux_ne h1]; exact q2 i (by omega)
          · have z := RepV.obj (K := W.K) (ρ := aux ρ' N (ρ' n)) (H := H') (N := N + 1) (n := N) (Nat.lt_succ_self _)
            rw [aux_self] at z
            show RepV _ _ _ _ _ _
            rw [hl2]; exact z
        · exact hc.elim
    · split at hc
      · rename_i hp
        exact Cont.ok hc ec (s.cut hN) (by show RepV _ _ _ _ _ _; rw [hl]; exact r.low hN hp)
      · exact hc.elim
theorem run_ok {G : Dn} {fz : Bool} {b : Sts} {len : Nat} {ds : List D} {Q : VK} {E : XK} (hc : Cont W (fun cls d _ H' => E cls d H') [] (relD W) (runF G fz b len ds S) ρ S.length H Q) :
    FlC W (fun cls d _ H' => E cls d H') { nx := fun _ H' => Q .non H', rt := Q } ρ S.length H (evSs G b (startD len ds) S) := by
  unfold runF at hc
  cases h : evSs G b (startD len ds) S with
  | bad => rw [h] at hc; exact hc.elim
  | exc _ _ => rw [h] at hc; exact hc.elim
  | ok fl S' =>
    rw [h] at hc
    cases fl with
    | nx δ =>
      intro ρ' H' e s σ _
      have hl : (S'.take S.length).length = S.length := by rw [List.length_take]; have := e.le; omega
      exact Cont.ok hc (by rw [hl]; exact e.cut) (s.cut e.le) .non
    | rt d => exact fun ρ' H' e s v r => fin_ok hc e s r
    | bk _ => exact hc.elim
    | ct _ => exact hc.elim
    | ex x δ =>
      intro ρ' H' e s σ _
      have hl : (S'.take S.length).length = S.length := by rw [List.length_take]; have := e.le; omega
      exact hc ρ' H' (by rw [hl]; exact e.cut) (s.cut e.le)
theorem start_rep {ds : List D} {vs : List V} {Nm : List Str} (r : RepVs K ρ N H ds vs) : RepE K ρ N H (startD Nm.length ds) (L2.start Nm vs) := by
  refine ⟨by simp [startD, L2.start, r.length], fun i d h => ?_⟩
  unfold startD at h
  unfold L2.start
  by_cases hi : i < ds.length
  · rw [List.getElem?_append_left (by simpa using hi), List.getElem?_map] at h
    have hd : ds[i]? = some d := by
      cases q : ds[i]? with
      | none => rw [q] at h; cases h
      | some z => rw [q] at h; simp at h; rw [h]
    obtain ⟨v, h1, h2⟩ := r.get hd
    refine ⟨v, ?_, h2⟩
    rw [List.getElem?_append_left (by rw [List.length_map, ← r.length]; exact hi), List.getElem?_map, h1]; rfl
  · rw [List.getElem?_append_right (by simpa using Nat.le_of_not_lt hi)] at h
    rw [List.getElem?_replicate] at h
    split at h <;> cases h
end
structure Df where
  name : Str
  st : Stmt
  ps : List Str
  N : List Str
  fz : Bool
  /-- it holds generator expressions -/
  gen : Bool
  body : Sts
/-- the module's constants -/
structure Cs where
  Γ : Nat → Option D
  Δ : Nat → Option (List (List Nat × D))
def Phi (Γ : Cs) (dfs : List Df) : Nat → Nat → List D → Store → Out D
  | 0, _, _, _ => .bad
  | k + 1, f, ds, S => match dfs[f]? with
    | some d => runF ⟨Γ.Γ, Phi Γ dfs k, Γ.Δ⟩ d.fz d.body d.N.length ds S
    | none => .bad
abbrev gDn (Γ : Cs) (dfs : List Df) (k : Nat) : Dn := ⟨Γ.Γ, Phi Γ dfs k, Γ.Δ⟩
def fnsOf (dfs : List Df) : List (Str × Nat) := dfs.map fun d => (d.name, d.ps.length)
def nodupB : List Str → Bool
  | [] => true
  | x :: xs => !(xs.contains x) && nodupB xs
theorem nodupB_ok : ∀ {l : List Str}, nodupB l = true → l.Nodup
  | [], _ => List.nodup_nil
  | x :: xs, h => by
    simp only [nodupB, Bool.and_eq_true, Bool.not_eq_true'] at h
    refine List.nodup_cons.mpr ⟨fun z => ?_, nodupB_ok h.2⟩
    have : xs.contains x = true := List.contains_iff_mem.mpr z
    rw [this] at h; cases h.1
/-- what is to be decided of a def -/
def scOk (d : Df) : Bool := kindF (defScope d.st) && !(defScope d.st).isCoroutine && !(defScope d.st).isGenerator && nodupB d.N && decide (d.N.take d.ps.length = d.ps) &&
  d.ps.all (fun x => match (defScope d.st).names.lookup x with | some .local => true | some .cell => true | _ => false) && (defScope d.st).names.all fun y => match y.2 with | .free => false | _ => true
def dfOk (gls : List Str) (fns : List (Str × Nat)) (d : Df) : Bool := scOk d && chkSs ⟨d.N, defScope d.st, fun _ => true, gls, fns, 1, d.gen⟩ d.body (defBody d.st)
theorem scOk_ok {d : Df} (h : scOk d = true) : FnScope d.N d.ps (defScope d.st) := by
  unfold scOk at h
  simp only [Bool.and_eq_true, decide_eq_true_eq, Bool.not_eq_true'] at h
  obtain ⟨⟨⟨⟨⟨⟨h1, h2⟩, h3⟩, h4⟩, h5⟩, h6⟩, h7⟩ := h
  refine ⟨kindF_ok h1, h2, h3, nodupB_ok h4, h5, fun x hx => ?_, fun y hy z => ?_⟩
  · have := List.all_eq_true.mp h6 x hx
    split at this
    · exact .inl (by assumption)
    · exact .inr (by assumption)
    · cases this
  · have := List.all_eq_true.mp h7 y hy
    rw [z] at this
    cases this
/-- a def's code has its table -/
def TabAt (W : Wd) (f : Addr) : Prop := ∀ oc od fd osl, W.K.lookup f = some ⟨oc, od, .func fd, osl⟩ → ∃ cc P, fd.code = .ref cc ∧ GxR.TabB W.base W.mg cc P ∧ P ∈ W.T
/-- what the head tells of a def -/
structure DfAt (W : Wd) (d : Df) : Prop where
  at_ : ∃ f fd, W.mg d.name = some (.ref f) ∧ FunD W.K d.name d.name (defArgs d.st) (defBody d.st) (defScope d.st) [] [] f fd ∧ Binds W.K fd d.ps [] ∧ (d.gen = true → TabAt W f)
theorem fn_one {W : Wd} {Γ : Cs} {dfs : List Df} {gls : List Str} {k i : Nat} {d : Df} {f : Addr} {fd : FuncData} (hi : dfs[i]? = some d) (hdd : dfOk gls (fnsOf dfs) d = true) (ih : DnOk W (gDn Γ dfs k) gls (fnsOf dfs) (2 * k)) (h2 : FunD W.K d.name d.name (defArgs d.st) (defBody d.st) (defScope d.st) [] [] f fd) (ht : d.gen = true → TabAt W f) :
    FnOk W.P W.w W.K W.mg W.base (L2.CX W.P W.w) (2 * (k + 1)) f fd d.ps (spD W (Phi Γ dfs (k + 1) i) d.ps.length) := by
  unfold dfOk at hdd
  rw [Bool.and_eq_true] at hdd
  have S1 := scOk_ok hdd.1
  obtain ⟨oc, od, dV, kV, doc, pm, an, cdv, ct, osl, rfl, lk, hcd, _, _⟩ := h2.ex
  refine fn_of (k := 2 * k + 1) lk hcd S1 (fun vs H Q E ⟨ds, S, ρ, hl, _, hr, _⟩ => by rw [← hr.length]; exact hl) fun A outer s H vs Q E hroom ⟨ds, S, ρ, hl, hS, hr, hc⟩ => ?_
  have ok : XOk W (gDn Γ dfs k) ⟨d.N, defScope d.st, fun _ => true, gls, fnsOf dfs, 1, d.gen⟩ (cxOf (L2.CX W.P W.w) W.P W.w W.K W.mg W.base d.N d.name (defScope d.st) f cdv A outer s H E) (fun cls dd _ H' => E cls dd H') :=
    ⟨rfl, rfl, rfl, rfl, rfl, rfl, S1.nd, rfl, rfl, rfl, takes_of rfl rfl rfl rfl, ⟨2 * k, hroom, ih⟩, fun hg => by
      obtain ⟨cc, P, h3, h4, h5⟩ := ht hg _ _ _ _ lk
      exact ⟨cc, P, h3, h4, h5⟩⟩
  refine ⟨_, ok_Ss d.body ok (passes_of rfl) hdd.2, startD d.N.length ds, S, ρ, hS, start_rep hr, run_ok (fz := d.fz) ?_⟩
  have e : Phi Γ dfs (k + 1) i ds S = runF (gDn Γ dfs k) d.fz d.body d.N.length ds S := by
    show (match dfs[i]? with | some d => runF ⟨Γ.Γ, Phi Γ dfs k, Γ.Δ⟩ d.fz d.body d.N.length ds S | none => .bad) = _
    rw [hi]
  rw [e] at hc
  exact hc
/-- the constants stand as told -/
structure CsAt (W : Wd) (Γ : Cs) (gls : List Str) : Prop where
  glb : ∀ (i : Nat) (x : Str) (d : D), gls[i]? = some x → Γ.Γ i = some d → ∃ u v, W.mg x = some u ∧ RelV v u ∧ ∀ ρ N H, RepV W.K ρ N H d v
  bare : ∀ x ∈ blts, W.mg x = none
  dic : ∀ (i : Nat) (x : Str) (l : List (List Nat × D)), gls[i]? = some x → Γ.Δ i = some l → ∃ a es n, W.mg x = some (.ref a) ∧ KDict W.K W.w a es n ∧ (∀ s : List Nat, ∃ r, PySem.W.nsIn W.K a ⟨s.toArray⟩ = some r ∧ r.isSome = (l.lookup s).isSome) ∧
    ∀ (s : List Nat) (d : D), l.lookup s = some d → ∃ u v, PySem.W.nsIn W.K a ⟨s.toArray⟩ = some (some u) ∧ RelV v u ∧ ∀ ρ N H, RepV W.K ρ N H d v
theorem dn_all {W : Wd} {Γ : Cs} {dfs : List Df} {gls : List Str} (hd : dfs.all (dfOk gls (fnsOf dfs)) = true) (hf : ∀ d ∈ dfs, DfAt W d) (cs : CsAt W Γ gls) :
    ∀ k, DnOk W (gDn Γ dfs k) gls (fnsOf dfs) (2 * k)
  | 0 => ⟨cs.glb, cs.bare, cs.dic, fun i x n h => by
      unfold fnsOf at h
      rw [List.getElem?_map] at h
      cases hi : dfs[i]? with
      | none => rw [hi] at h; cases h
      | some d =>
        rw [hi] at h
        simp only [Option.map_some, Option.some.injEq, Prod.mk.injEq] at h
        obtain ⟨rfl, rfl⟩ := h
        obtain ⟨f, fd, h1, h2, h3, _⟩ := (hf d (List.mem_of_getElem? hi)).at_
        refine ⟨f, fd, d.ps, h1, h2.kp, h3, ⟨fun vs H Q E ⟨ds, S, ρ, _, _, _, hc⟩ => hc.elim, fun A outer s H args us vs Q E _ _ _ _ ⟨ds, S, ρ, _, _, _, hc⟩ => hc.elim⟩⟩⟩
  | k + 1 => ⟨cs.glb, cs.bare, cs.dic, fun i x n h => by
      have ih := dn_all hd hf cs k
      unfold fnsOf at h
      rw [List.getElem?_map] at h
      cases hi : dfs[i]? with
      | none => rw [hi] at h; cases h
      | some d =>
        rw [hi] at h
        simp only [Option.map_some, Option.some.injEq, Prod.mk.injEq] at h
        obtain ⟨rfl, rfl⟩ := h
        have hmem := List.mem_of_getElem? hi
        obtain ⟨f, fd, h1, h2, h3, h4⟩ := (hf d hmem).at_
        exact ⟨f, fd, d.ps, h1, h2.kp, h3, fn_one hi (List.all_eq_true.mp hd d hmem) ih h2 h4⟩⟩
end PD

set_option Elab.async false
set_option linter.all false
set_option maxRecDepth 100000
namespace PD
open PySem PySem.Spec PyProof.Rows L2

def plainArgs (p : Arguments) (ps : List Str) : Bool := p.posonlyargs.isEmpty && p.vararg.isNone && p.kwonlyargs.isEmpty && p.kwarg.isNone && decide (p.args.map (·.arg) = ps) && nodupB ps
theorem filterMap_congr' {α β : Type} {f g : α → Option β} : ∀ {l : List α}, (∀ a ∈ l, f a = g a) → l.filterMap f = l.filterMap g
  | [], _ => rfl
  | a :: l, h => by
    rw [List.filterMap_cons, List.filterMap_cons, h a List.mem_cons_self, filterMap_congr' fun b hb => h b (List.mem_cons_of_mem _ hb)]
theorem zip_lookup : ∀ {ps : List Str} {us : List Value} , ps.Nodup → us.length = ps.length → (ps.filterMap fun n => ((ps.zip us).lookup n).map (n, ·)) = ps.zip us
  | [], us, _, h => by simp
  | p :: ps, [], _, h => by simp at h
  | p :: ps, u :: us, nd, h => by
    have nd' := List.nodup_cons.mp nd
    have ih := zip_lookup (us := us) nd'.2 (by simpa using h)
    rw [List.zip_cons_cons, List.filterMap_cons, List.lookup_cons_self]
    simp only [Option.map_some]
    congr 1
    have : (ps.filterMap fun n => (((p, u) :: ps.zip us).lookup n).map (n, ·)) = ps.filterMap fun n => ((ps.zip us).lookup n).map (n, ·) := by
      refine filterMap_congr' fun n hn => ?_
      have hne : (n == p) = false := by
        rw [beq_eq_false_iff_ne]
        intro e; subst e; exact nd'.1 hn
      rw [List.lookup_cons, hne]
    rw [this]; exact ih
theorem zip_some : ∀ {ps : List Str} {us : List Value} {n : Str}, us.length = ps.length → n ∈ ps → ((ps.zip us).lookup n).isNone = false
  | [], _, _, _, h => by cases h
  | p :: ps, [], _, h, _ => by simp at h
  | p :: ps, u :: us, n, h, hn => by
    rw [List.zip_cons_cons, List.lookup_cons]
    cases e : n == p with
    | true => rfl
    | false =>
      simp only
      refine zip_some (by simpa using h) ?_
      rcases List.mem_cons.mp hn with z | z
      · subst z; simp at e
      · exact z
theorem bind_plain {x qual : Str} {params : Arguments} {body : List Stmt} {scope : Scope} {ps : List Str} {kV doc pm : Value} {an : Option Addr} {cdv ct : Value} {us : List Value} (h : plainArgs params ps = true) (hl : us.length = ps.length) :
    bindArgs (PySem.W.fnOf x qual params body scope .none kV doc pm an cdv ct) ⟨us, []⟩ = pure (ps.zip us) := by
  obtain ⟨po, as, va, ko, kd, ka, df⟩ := params
  unfold plainArgs at h
  simp only [Bool.and_eq_true, List.isEmpty_iff, Option.isNone_iff_eq_none, decide_eq_true_eq] at h
  obtain ⟨⟨⟨⟨⟨rfl, rfl⟩, rfl⟩, rfl⟩, h5⟩, h6⟩ := h
  have nd := nodupB_ok h6
  have z1 := zip_lookup nd hl
  have z2 : (ps.filter fun n => ((ps.zip us).lookup n).isNone) = [] := by
    rw [List.filter_eq_nil_iff]
    intro n hn
    rw [zip_some hl hn]; exact Bool.false_ne_true
  unfold bindArgs
  simp only [PySem.W.fnOf, List.map_nil, List.nil_append, h5, List.forIn_nil, pure_bind, List.append_nil]
  have z3 : seqItems? (Value.none) = (pure none : Sem (Option (Array Value))) := rfl
  rw [z3]
  simp only [pure_bind, Option.getD_none, List.length_nil, List.drop_nil, Nat.sub_zero, hl, List.take_length, z2, List.drop_length, List.zip_nil_left, List.forIn_nil, z1]
  simp

mutual
def repB (K : PySem.W.Frag) : D → Value → Bool
  | .non, v => match v with
    | .none => true
    | _ => false
  | .bl b, v => match v with
    | .bool c => decide (b = c)
    | _ => false
  | .int i, v => match v with
    | .int j _ => decide (i = j)
    | _ => false
  | .str s, v => match v with
    | .str y _ => decide (y = ⟨s.toArray⟩) && decide (s.length ≤ sizeLine) && s.all fun c => decide (c < 0x110000)
    | _ => false
  | .tup ds, v => match v with
    | .ref a => (match K.lookup a with
      | some ⟨.type c, _, .seq its _, _⟩ => decide (c = "tuple") && decide (its.size ≤ sizeLine) && repBs K ds its.toList
      | _ => false)
    | _ => false
  | .rol ds, v => match v with
    | .ref a => (match K.lookup a with
      | some ⟨.type c, none, .seq its _, _⟩ => decide (c = "list") && decide (its.size ≤ sizeLine) && repBs K ds its.toList
      | _ => false)
    | _ => false
  | _, _ => false
def repBs (K : PySem.W.Frag) : List D → List Value → Bool
  | [], l => l.isEmpty
  | d :: ds, l => match l with
    | v :: vs => repB K d v && repBs K ds vs
    | [] => false
end
mutual
theorem repB_ok {K : PySem.W.Frag} : ∀ (d : D) {v : Value}, repB K d v = true → ∃ u, RelV u v ∧ ∀ ρ N H, RepV K ρ N H d u
  | .non, v, h => by
    unfold repB at h; split at h
    · exact ⟨.non, rfl, fun _ _ _ => .non⟩
    · cases h
  | .bl b, v, h => by
    unfold repB at h; split at h
    · cases of_decide_eq_true h; exact ⟨.bl b, rfl, fun _ _ _ => .bl b⟩
    · cases h
  | .int i, v, h => by
    unfold repB at h; split at h
    · cases of_decide_eq_true h; exact ⟨.int i, ⟨_, rfl⟩, fun _ _ _ => .int i⟩
    · cases h
  | .str s, v, h => by
    unfold repB at h; split at h
    · simp only [Bool.and_eq_true, decide_eq_true_eq] at h
      obtain ⟨⟨rfl, h2⟩, h3⟩ := h
      exact ⟨.str ⟨s.toArray⟩, ⟨_, rfl⟩, fun _ _ _ => .str s ⟨h2, h3⟩⟩
    · cases h
  | .tup ds, v, h => by
    unfold repB at h
    split at h
    · rename_i a
      split at h
      · rename_i c od its n sl hl
        simp only [Bool.and_eq_true, decide_eq_true_eq] at h
        obtain ⟨⟨rfl, h2⟩, h3⟩ := h
        obtain ⟨us, h4, h5⟩ := repBs_ok ds h3
        exact ⟨.ref a, rfl, fun ρ N H => .tup (.inr ⟨_, its, n, hl, rfl, rfl, h2, h4⟩) (h5 ρ N H)⟩
      · cases h
    · cases h
  | .rol ds, v, h => by
    unfold repB at h
    split at h
    · rename_i a
      split at h
      · rename_i c its n sl hl
        simp only [Bool.and_eq_true, decide_eq_true_eq] at h
        obtain ⟨⟨rfl, h2⟩, h3⟩ := h
        obtain ⟨us, h4, h5⟩ := repBs_ok ds h3
        exact ⟨.ref a, rfl, fun ρ N H => .rol (.inr (.inr ⟨_, its, n, hl, rfl, rfl, rfl, h2, h4⟩)) (h5 ρ N H)⟩
      · cases h
    · cases h
  | .lst _, _, h => by unfold repB at h; cases h
  | .dic _ _, _, h => by unfold repB at h; cases h
  | .st _, _, h => by unfold repB at h; cases h
  | .obj _, _, h => by unfold repB at h; cases h
  | .exn _, _, h => by unfold repB at h; cases h
theorem repBs_ok {K : PySem.W.Frag} : ∀ (ds : List D) {vs : List Value}, repBs K ds vs = true → ∃ us, Vals us vs ∧ ∀ ρ N H, RepVs K ρ N H ds us
  | [], vs, h => by
    unfold repBs at h
    rw [List.isEmpty_iff] at h
    subst h
    exact ⟨[], .nil, fun _ _ _ => .nil⟩
  | d :: ds, vs, h => by
    unfold repBs at h
    split at h
    · simp only [Bool.and_eq_true] at h
      obtain ⟨u, h1, h2⟩ := repB_ok d h.1
      obtain ⟨us, h3, h4⟩ := repBs_ok ds h.2
      exact ⟨u :: us, .cons h1 h3, fun ρ N H => .cons (h2 ρ N H) (h4 ρ N H)⟩
    · cases h
end
def glbB (K : PySem.W.Frag) (x : Str) (d : D) : Bool := match PySem.W.nsIn K mainGlobals x with
  | some (some v) => repB K d v
  | _ => false
/-- a dict's keys and values, where it is one by texts -/
def dicOf : D → Option (List (List Nat × D))
  | .dic ks vs => some ((ks.filterMap fun k => match k with | .str s => some s | _ => none).zip vs)
  | _ => none
def gam (gts : List (Str × D)) : Cs := ⟨fun i => match gts[i]? with
  | some (_, d) => (match dicOf d with
    | none => some d
    | some _ => none)
  | none => none, fun i => (gts[i]?).bind fun p => dicOf p.2⟩
def dvB (K : PySem.W.Frag) (x : Str) (l : List (List Nat × D)) : Bool := l.all fun q => match PySem.W.nsIn K (He.ga K x) ⟨q.1.toArray⟩ with
  | some (some u) => repB K q.2 u
  | _ => false
def glbA (K : PySem.W.Frag) (x : Str) (d : D) : Bool := match dicOf d with
  | none => glbB K x d
  | some l => (match PySem.W.nsIn K mainGlobals x with
    | some (some (.ref _)) => true
    | _ => false) && dvB K x l
theorem find_keys {P : Params} {s : List Nat} : ∀ {es : List DictEntry} {l : List (List Nat × D)}, es.map He.keyOf = He.keysIn P (l.map fun q => ⟨q.1.toArray⟩) → (es.find? (·.key.isStr ⟨s.toArray⟩)).isSome = (l.lookup s).isSome ∧ es.any (·.refKey) = false
  | [], [], _ => ⟨rfl, rfl⟩
  | [], _ :: _, h => by cases h
  | _ :: _, [], h => by cases h
  | e :: es, q :: l, h => by
    have h1 : He.keyOf e :: es.map He.keyOf = some (⟨q.1.toArray⟩, PyData.keyHash P ⟨q.1.toArray⟩) :: He.keysIn P (l.map fun q => ⟨q.1.toArray⟩) := h
    injection h1 with h2 h3
    obtain ⟨i1, i2⟩ := find_keys (s := s) h3
    unfold He.keyOf at h2
    split at h2
    · rename_i x t hk
      have h4 := Option.some.inj h2
      obtain ⟨h5, h6⟩ := Prod.mk.inj h4
      subst h5
      have hr : e.refKey = false := by unfold DictEntry.refKey; rw [hk]
      refine ⟨?_, by rw [List.any_cons, hr, i2]; rfl⟩
      rw [List.find?_cons, hk]
      have hs : (Value.str (⟨q.1.toArray⟩ : Str) t).isStr ⟨s.toArray⟩ = decide (s = q.1) := by
        show ((⟨q.1.toArray⟩ : Str) == ⟨s.toArray⟩) = _
        rw [str_beq]
        by_cases z : s = q.1
        · subst z; simp
        · have z2 : ¬ q.1 = s := fun y => z y.symm
          simp [z, z2]
      rw [hs]
      rw [List.lookup_cons]
      by_cases z : s = q.1
      · subst z; simp
      · have : (s == q.1) = false := by simpa using z
        rw [this]; simp [z, i1]
    · cases h2
theorem ns_keys {K : PySem.W.Frag} {w : World} {a : Addr} {l : List (List Nat × D)} (h : He.dicW K a = some (He.keysIn w.params (l.map fun q => ⟨q.1.toArray⟩))) (s : List Nat) : ∃ r, PySem.W.nsIn K a ⟨s.toArray⟩ = some r ∧ r.isSome = (l.lookup s).isSome := by
  unfold He.dicW at h
  split at h
  · rename_i c es n sl hK
    split at h
    · have h1 := Option.some.inj h
      obtain ⟨i1, i2⟩ := find_keys (s := s) h1
      unfold PySem.W.nsIn
      rw [hK]
      simp only
      cases hf : es.toList.find? (·.key.isStr ⟨s.toArray⟩) with
      | some e => rw [hf] at i1; exact ⟨some e.val, rfl, by rw [← i1]; rfl⟩
      | none => rw [hf] at i1; rw [i2]; exact ⟨none, rfl, by rw [← i1]; rfl⟩
    · cases h
  · cases h
def tabOf (K : PySem.W.Frag) (x : Str) : Option (Addr × Addr) := match K.lookup (He.ga K x) with
  | some ⟨_, _, .func fd, _⟩ => (match fd.code with
    | .ref c => (match K.lookup c with
      | some ⟨_, _, .fields vs, _⟩ => (match (vs[11]? : Option Value) with
        | some (.ref P) => some (c, P)
        | _ => none)
      | _ => none)
    | _ => none)
  | _ => none
def hideK (ts : List Addr) (K : PySem.W.Frag) : PySem.W.Frag := K.filter fun p => !(ts.contains p.1)
theorem hideK_in {ts : List Addr} {K : PySem.W.Frag} : ∀ {a : Addr} {o : Obj}, (hideK ts K).lookup a = some o → K.lookup a = some o := by
  induction K with
  | nil => intro a o h; cases h
  | cons p K ih =>
    intro a o h
    unfold hideK at h ih
    rw [List.filter_cons] at h
    rw [List.lookup_cons]
    cases hp : ts.contains p.1 with
    | false =>
      rw [hp] at h
      simp only [Bool.not_false, if_true] at h
      rw [List.lookup_cons] at h
      cases e : a == p.1 with
      | true => rw [e] at h; exact h
      | false => rw [e] at h; exact ih h
    | true =>
      rw [hp] at h
      simp only [Bool.not_true, Bool.false_eq_true, if_false] at h
      cases e : a == p.1 with
      | false => exact ih h
      | true =>
        have ea : a = p.1 := by simpa using e
        subst ea
        exfalso
        have no : ∀ (L : PySem.W.Frag), (L.filter fun q => !(ts.contains q.1)).lookup p.1 = some o → False := by
          intro L
          induction L with
          | nil => intro h; cases h
          | cons q L ih2 =>
            intro h
            rw [List.filter_cons] at h
            cases hq : ts.contains q.1 with
            | true => rw [hq] at h; exact ih2 h
            | false =>
              rw [hq] at h
              simp only [Bool.not_false, if_true] at h
              rw [List.lookup_cons] at h
              cases e2 : p.1 == q.1 with
              | false => rw [e2] at h; exact ih2 h
              | true =>
                have : p.1 = q.1 := by simpa using e2
                rw [this, hq] at hp; cases hp
        exact no K h
theorem hideK_none {ts : List Addr} {K : PySem.W.Frag} {a : Addr} (ha : a ∈ ts) : (hideK ts K).lookup a = none := by
  unfold hideK
  induction K with
  | nil => rfl
  | cons q L ih =>
    rw [List.filter_cons]
    cases hq : ts.contains q.1 with
    | true => exact ih
    | false =>
      simp only [Bool.not_false, if_true]
      rw [List.lookup_cons]
      cases e2 : a == q.1 with
      | false => exact ih
      | true =>
        have : a = q.1 := by simpa using e2
        have c : ts.contains a = true := List.contains_iff_mem.mpr ha
        rw [this, hq] at c; cases c
def emptyTab (o : Option Obj) : Bool := match o with
  | some ⟨.none, none, .fields vs, sl⟩ => vs.isEmpty && sl.isEmpty
  | _ => false
theorem emptyTab_ok {o : Option Obj} (h : emptyTab o = true) : o = some { cls := .none, data := .fields #[] } := by
  unfold emptyTab at h
  split at h
  · rename_i vs sl
    simp only [Bool.and_eq_true, Array.isEmpty_iff] at h
    obtain ⟨rfl, rfl⟩ := h
    rfl
  · cases h
def bmB (K : PySem.W.Frag) : Bool := match PySem.W.nsIn K mainGlobals "__builtins__" with
  | some (some (.ref bm)) => !(bm == builtinsNs) && (match K.lookup bm with
    | some ⟨.type c, some d, .plain, _⟩ => decide (c = "module") && (d == builtinsNs)
    | _ => false)
  | _ => false
def tabsK (K : PySem.W.Frag) (gn : List Str) : List (Addr × Addr) := gn.filterMap (tabOf K)
structure Hk where
  gts : List (Str × D)
  dfs : List Df
def Df.dd (d : Df) : He.DefD := ⟨(d.name, none), d.name, d.name, defArgs d.st, defBody d.st, defScope d.st, [], []⟩
def Hk.fa (k : Hk) : List He.Fa := k.dfs.map (fun d => .glo d.name) ++ blts.map .free
def Hk.fn (k : Hk) : List He.DefD := k.dfs.map Df.dd
def Hk.gn (k : Hk) : List Str := (k.dfs.filter (·.gen)).map (·.name)
def Hk.dics (k : Hk) : List (Str × List (List Nat × D)) := k.gts.filterMap fun p => (dicOf p.2).map fun l => (p.1, l)
abbrev AlP : Type := Bool × List (Option (List (Option (Str × Int)))) × He.AlD
/-- what is looked at, in K, with the tables cs -/
def Hk.obs1 (k : Hk) (K : PySem.W.Frag) (cs : List (Addr × Addr)) (g : Addr → Option Obj) : AlP :=
  ((k.gts.all fun p => glbA K p.1 p.2) && (cs.all fun p => emptyTab (g p.2) && PySem.W.codeHdIn K p.1 p.2) && (k.gn.isEmpty || bmB K) && (k.gn.all fun x => match tabOf K x with | some p => cs.contains p | none => false), k.dics.map fun q => He.dicW K (He.ga K q.1), He.obsD k.fa k.fn K)
def Hk.val (k : Hk) (w : World) : AlP := (true, k.dics.map fun q => some (He.keysIn w.params (q.2.map fun r => ⟨r.1.toArray⟩)), He.valD k.fn)
def Hk.obsG (k : Hk) (n : Nat) (g : Addr → Option Obj) : AlP := k.obs1 (hideK ((tabsK (He.frG g (He.asD g n)) k.gn).map (·.2)) (He.frG g (He.asD g n))) (tabsK (He.frG g (He.asD g n)) k.gn) g
/-- the facts -/
structure Says (k : Hk) (w : World) (h : Heap) (K : PySem.W.Frag) (cs : List (Addr × Addr)) : Prop where
  kin : K.In h
  glb : (k.gts.all fun p => glbA K p.1 p.2) = true
  tab : ∀ p ∈ cs, h.get? p.2 = some { cls := .none, data := .fields #[] } ∧ K.lookup p.2 = none ∧ PySem.W.codeHdIn K p.1 p.2 = true
  bm : k.gn = [] ∨ bmB K = true
  all : ∀ x ∈ k.gn, ∃ p, tabOf K x = some p ∧ p ∈ cs
  dic : ∀ q ∈ k.dics, He.dicW K (He.ga K q.1) = some (He.keysIn w.params (q.2.map fun r => ⟨r.1.toArray⟩))
  def_ : He.SaysD k.fa k.fn K
theorem map_eq_at {α β : Type} {f g : α → β} : ∀ {l : List α}, l.map f = l.map g → ∀ a ∈ l, f a = g a
  | [], _, _, h => by cases h
  | b :: l, e, a, h => by
    have e' : f b :: l.map f = g b :: l.map g := e
    injection e' with e1 e2
    rcases List.mem_cons.mp h with rfl | h
    · exact e1
    · exact map_eq_at e2 a h
theorem says_of {k : Hk} {w : World} {h : Heap} {K : PySem.W.Frag} {cs : List (Addr × Addr)} (hK : K.In h) (hN : ∀ p ∈ cs, K.lookup p.2 = none) (e : k.obs1 K cs h.get? = k.val w) : Says k w h K cs := by
  unfold Hk.obs1 Hk.val at e
  injection e with e1 e4
  injection e4 with e2 e3
  simp only [Bool.and_eq_true] at e1
  obtain ⟨⟨⟨a1, a2⟩, a3⟩, a4⟩ := e1
  refine ⟨hK, a1, fun p hp => ?_, ?_, fun x hx => ?_, fun q hq => map_eq_at e2 q hq, e3⟩
  · have := List.all_eq_true.mp a2 p hp
    rw [Bool.and_eq_true] at this
    exact ⟨emptyTab_ok this.1, hN p hp, this.2⟩
  · rw [Bool.or_eq_true, List.isEmpty_iff] at a3
    exact a3
  · have := List.all_eq_true.mp a4 x hx
    split at this
    · rename_i p hp
      exact ⟨p, hp, List.contains_iff_mem.mp this⟩
    · cases this
def hookP (n : Nat) (k : Hk) : PySem.W.Hook where
  α := AlP
  obs := fun s => k.obsG n s.heap.get?
  val := fun w => k.val w
  says := fun w h => ∃ K cs, Says k w h K cs
  of := fun _ _ e => ⟨_, _, says_of (fun a o ho => He.frG_in a o (hideK_in ho)) (fun _ hp => hideK_none (List.mem_map_of_mem hp)) e⟩
  keeps := fun _ _ _ ⟨K, cs, s⟩ kp => ⟨K, cs, ⟨PySem.W.Frag.In.keeps s.kin kp, s.glb, fun p hp => ⟨kp _ _ (s.tab p hp).1, (s.tab p hp).2⟩, s.bm, s.all, s.dic, s.def_⟩⟩
theorem Hk.obsG_eq {n : Nat} {k : Hk} {g : Addr → Option Obj} {s : Shared} (h : ∀ a, g a = s.heap.get? a) : k.obsG n g = (hookP n k).obs s := by
  have e : g = s.heap.get? := funext h
  rw [e] <;> rfl
section
variable {k : Hk} {w : World} {K : PySem.W.Frag} {cs : List (Addr × Addr)} {h : Heap} {mg : Str → Option Value}
theorem says_def (s : Says k w h K cs) (G : h.Ns mainGlobals mg) {d : Df} (hd : d ∈ k.dfs) (hp : plainArgs (defArgs d.st) d.ps = true) :
    ∃ fd, mg d.name = some (.ref (He.ga K d.name)) ∧ FunD K d.name d.name (defArgs d.st) (defBody d.st) (defScope d.st) [] [] (He.ga K d.name) fd ∧ Binds K fd d.ps [] ∧ ∀ (s : Shared) (us : List Value), us.length = d.ps.length → BindsTo s fd ⟨us, []⟩ (d.ps.zip us) := by
  have c2 := s.def_
  obtain ⟨i, hi⟩ := List.mem_iff_getElem?.mp hd
  obtain ⟨fd, F⟩ := c2.def_ i (d := d.dd) (by unfold Hk.fn; rw [List.getElem?_map, hi]; rfl)
  have hl : i < k.dfs.length := (List.getElem?_eq_some_iff.mp hi).1
  have e := He.glo_ok s.kin G (c2.fact i (f := .glo d.name) (by unfold Hk.fa; rw [List.getElem?_append_left (by simpa using hl), List.getElem?_map, hi]; rfl))
  exact ⟨fd, e, F, FunD.bindsN F fun _ _ _ _ _ _ us hus => bind_plain hp hus, fun s us hus => FunD.bindsA F (fun _ _ _ _ _ _ us hus => bind_plain hp hus) s us hus⟩
theorem says_bare (s : Says k w h K cs) (G : h.Ns mainGlobals mg) {x : Str} (hx : x ∈ blts) : mg x = none := by
  obtain ⟨i, hi⟩ := List.mem_iff_getElem?.mp hx
  exact He.free_ok s.kin G (s.def_.fact (k.dfs.length + i) (f := .free x) (by unfold Hk.fa; rw [List.getElem?_append_right (by simp), List.length_map, Nat.add_sub_cancel_left, List.getElem?_map, hi]; rfl))
theorem lookup_mem {l : List (List Nat × D)} {s : List Nat} {d : D} (h : l.lookup s = some d) : (s, d) ∈ l := by
  induction l with
  | nil => cases h
  | cons q l ih =>
    rw [List.lookup_cons] at h
    cases e : s == q.1 with
    | true =>
      rw [e] at h
      have e1 : s = q.1 := by simpa using e
      have e2 : q.2 = d := Option.some.inj h
      rw [e1, ← e2]; exact List.mem_cons_self
    | false => rw [e] at h; exact List.mem_cons_of_mem _ (ih h)
theorem says_cs (s : Says k w h K cs) (G : h.Ns mainGlobals mg) (P : Program) (base : Heap) (T : List Addr) (cls : String → Value) : CsAt ⟨P, w, K, mg, base, T, cls⟩ (gam k.gts) (k.gts.map (·.1)) := by
  refine ⟨fun j y d h1 h2 => ?_, fun x hx => says_bare s G hx, fun j y l h1 h2 => ?_⟩
  · rw [List.getElem?_map] at h1
    cases hp : k.gts[j]? with
    | none => rw [hp] at h1; cases h1
    | some p =>
      rw [hp] at h1
      cases h1
      simp only [gam, hp] at h2
      split at h2
      · rename_i hn
        cases h2
        have c0 := List.all_eq_true.mp s.glb p (List.mem_of_getElem? hp)
        have c2 : glbB K p.1 p.2 = true := by rw [glbA, hn] at c0; exact c0
        unfold glbB at c2
        split at c2
        · rename_i v hv
          obtain ⟨u, q1, q2⟩ := repB_ok p.2 c2
          exact ⟨v, u, PySem.W.mg_of s.kin G hv, q1, q2⟩
        · cases c2
      · cases h2
  · rw [List.getElem?_map] at h1
    cases hp : k.gts[j]? with
    | none => rw [hp] at h1; cases h1
    | some p =>
      rw [hp] at h1
      cases h1
      simp only [gam, hp, Option.bind_some] at h2
      have hmem := List.mem_of_getElem? hp
      have c2 := List.all_eq_true.mp s.glb p hmem
      unfold glbA at c2
      rw [h2] at c2
      simp only [Bool.and_eq_true] at c2
      obtain ⟨c3, c4⟩ := c2
      have hd : (p.1, l) ∈ k.dics := List.mem_filterMap.mpr ⟨p, hmem, by rw [h2]; rfl⟩
      have hw := s.dic _ hd
      split at c3
      · rename_i a ha
        have hga : He.ga K p.1 = a := by unfold He.ga; rw [ha]
        have hmg := PySem.W.mg_of s.kin G ha
        obtain ⟨es, n, kd⟩ := He.dicW_ok hw
        rw [hga] at kd hw
        refine ⟨a, es, n, hmg, kd, fun s => ns_keys hw s, fun t d ht => ?_⟩
        have c5 := List.all_eq_true.mp c4 _ (lookup_mem ht)
        rw [hga] at c5
        simp only at c5
        split at c5
        · rename_i u hu
          obtain ⟨v, q1, q2⟩ := repB_ok d c5
          exact ⟨u, v, hu, q1, q2⟩
        · cases c5
      · cases c3
theorem says_tab (s : Says k w h K cs) {d : Df} (hd : d ∈ k.dfs) (hg : d.gen = true) {P : Program} {base : Heap} {mg : Str → Option Value} {cls : String → Value} (hT : ∀ p ∈ cs, GxR.TabB base mg p.1 p.2) : TabAt ⟨P, w, K, mg, base, cs.map (·.2), cls⟩ (He.ga K d.name) := by
  intro oc od fd osl hl
  obtain ⟨p, hp, hc⟩ := s.all d.name (List.mem_map_of_mem (List.mem_filter.mpr ⟨hd, hg⟩))
  unfold tabOf at hp
  have hl' : K.lookup (He.ga K d.name) = some ⟨oc, od, .func fd, osl⟩ := hl
  rw [hl'] at hp
  simp only at hp
  split at hp
  · rename_i c hcode
    split at hp
    · split at hp
      · cases hp
        exact ⟨_, _, hcode, hT _ hc, List.mem_map_of_mem hc⟩
      · cases hp
    · cases hp
  · cases hp
theorem says_bm (s : Says k w h K cs) (G : h.Ns mainGlobals mg) (hb : bmB K = true) : ∃ (bm : Addr) (ob : Obj), mg "__builtins__" = some (.ref bm) ∧ bm ≠ builtinsNs ∧ h.get? bm = some ob ∧ ob.cls = .type "module" ∧ ob.dict = some builtinsNs ∧ ob.data = .plain := by
  unfold bmB at hb
  split at hb
  · rename_i bm hn
    simp only [Bool.and_eq_true, Bool.not_eq_true'] at hb
    obtain ⟨h1, h2⟩ := hb
    split at h2
    · rename_i c d sl hl
      simp only [Bool.and_eq_true, decide_eq_true_eq] at h2
      obtain ⟨rfl, h3⟩ := h2
      have h3' : d = builtinsNs := by simpa using h3
      subst h3'
      exact ⟨bm, _, PySem.W.mg_of s.kin G hn, by simpa using h1, s.kin _ _ hl, rfl, rfl, rfl⟩
    · cases h2
  · cases hb
end
theorem cx_none {P : Program} {w : World} {H : Hp} {s : Shared} {e : Value} {s' : Shared} (h : L2.CX P w [] H s (fun _ _ _ => False) e s') : False := by
  obtain ⟨_, _, _, _, _, _, _, _, _, _, _, _, z⟩ := h
  exact z
/-- the script, as data: a list that is read, or one that is known -/
def IsScript (ns : List Int) (d : D) : Prop := d = .rol (ns.map .int) ∨ d = .lst (ns.map .int)
theorem script_rep {K : PySem.W.Frag} {H : Hp} {a : Addr} {ns : List Int} (hS : SqL K H a (ns.map V.int)) : ∃ d, IsScript ns d ∧ RepV K ⟨fun _ => 0, []⟩ 0 H d (.ref a) := by
  have hints : ∀ ns : List Int, RepVs K ⟨fun _ => 0, []⟩ 0 H (ns.map D.int) (ns.map V.int) := fun ns => by
    induction ns with
    | nil => exact .nil
    | cons n ns ih => exact .cons (.int n) ih
  rcases hS with (h | ⟨o, h⟩) | h
  · exact ⟨_, .inr rfl, .lst h ⟨fun i hi => absurd hi (Nat.not_lt_zero _), fun z => by cases z⟩ (hints ns)⟩
  · exact ⟨_, .inl rfl, .rol (.inl ⟨o, h⟩) (hints ns)⟩
  · exact ⟨_, .inl rfl, .rol (.inr (.inr h)) (hints ns)⟩
theorem walk_PD {l : PySem.W.OpenLaw} {n k i m : Nat} {q : Program} {loose : List Str} {XP : (Str → Option Value) → Heap → Prop} {d : DefRec} {x : Str} {hk : Hk} {dl : Df}
    (hn : l.most = some n) (hn2 : n ≤ sizeLine) (hdf : d.params.defaults = []) (hr : Room (2 * (k + 1)) callerA) (hdfs : hk.dfs.all (dfOk (hk.gts.map (·.1)) (fnsOf hk.dfs)) = true) (hpl : hk.dfs.all (fun d => plainArgs (defArgs d.st) d.ps) = true)
    (hi : hk.dfs[i]? = some dl) (hnm : dl.name = d.name) (hps : dl.ps = [x]) (hgn : hk.gn ≠ [])
    (law : ∀ (ns : List Int) (s : D), ns.length ≤ n → IsScript ns s → Phi (gam hk.gts) hk.dfs (k + 1) i [s] [] = .ok (.bl true) []) :
    PySem.W.WalkO q loose XP (hookP m hk).says l.row.toRowW d [] (fun f vs => PySem.call f vs) := by
  refine Att.attach_call hn hdf fun w s₀ s₁ mg mb fa o pm cd doc a vs ns G Y ho hd hcd hmg hobj hints hlen hg => ?_
  obtain ⟨K, cs, s⟩ := Y
  have hmem := List.mem_of_getElem? hi
  obtain ⟨fd, e1, F, B, BA⟩ := says_def s G.T.g hmem (List.all_eq_true.mp hpl dl hmem)
  have efa : fa = He.ga K dl.name := by
    rw [hnm] at e1 ⊢
    rw [hmg] at e1
    injection (Option.some.inj e1)
  have hbm := says_bm s G.T.g (s.bm.resolve_left hgn)
  have prom : ∀ base : Heap, K.In base → base.Ns mainGlobals mg → (∀ p ∈ cs, LamX.TabB base mg p.1 p.2) → FnOk l.prog w K mg base (L2.CX l.prog w) (2 * (k + 1)) fa fd [x] (fun vs H Q E => ∀ base : Heap, spD ⟨l.prog, w, K, mg, base, cs.map (·.2), fun _ => .none⟩ (Phi (gam hk.gts) hk.dfs (k + 1) i) 1 vs H Q E) := by
    intro base hB hG hT0
    have hT : ∀ p ∈ cs, GxR.TabB base mg p.1 p.2 := fun p hp => ⟨(hT0 p hp).code, (hT0 p hp).bm, (hT0 p hp).gP⟩
    have dn := dn_all (W := ⟨l.prog, w, K, mg, base, cs.map (·.2), fun _ => .none⟩) (Γ := gam hk.gts) (gls := hk.gts.map (·.1)) hdfs (fun d hd => by
        obtain ⟨fd, h1, h2, h3, _⟩ := says_def s G.T.g hd (List.all_eq_true.mp hpl d hd)
        exact ⟨_, fd, h1, h2, h3, fun hg => says_tab s hd hg hT⟩) (says_cs s G.T.g _ _ _ _) k
    have one := fn_one hi (List.all_eq_true.mp hdfs dl hmem) dn F (fun hg => says_tab s hmem hg hT)
    rw [hps, ← efa] at one
    exact FnOk.imp one fun vs H Q E h => h base
  refine LamX.law_callTs (CX := L2.CX l.prog w) (cs := cs) s.kin G.T.g G.T.b G.T.builtins G.T.nolimit hg (fun p hp => (s.tab p hp).1) (fun p hp => (s.tab p hp).2.1) (fun p hp => PySem.W.codeHd_of_K s.kin (s.tab p hp).2.2) hbm hobj hints (Nat.le_trans hlen hn2) hr prom
    (fun s u => by have := BA s [u] (by rw [hps]; rfl); rw [hps] at this; exact this) (fun H hTb hS base => ?_) fun H e s' => cx_none
  obtain ⟨ds, hds, rd⟩ := script_rep hS
  refine ⟨[ds], [], ⟨fun _ => 0, []⟩, rfl, ⟨(fun i c h => by simp at h), (fun i j h => by simp at h), (fun p hp => ?_), (fun a ha => nomatch ha)⟩, .cons rd .nil, ?_⟩
  · obtain ⟨c, hc, rfl⟩ := List.mem_map.mp hp
    exact ⟨#[], hTb c hc, by simp [TriplesOk]⟩
  · rw [law ns ds hlen hds]
    exact fun ρ' H' e s v r => by cases r; rfl
end PD

set_option Elab.async false
set_option linter.all false
set_option maxRecDepth 100000
namespace PD
open PySem
theorem sizeLine_lit : sizeLine = 16777216 := sizeLine_eq
@[simp] theorem tru_bl (S : Store) (b : Bool) : (D.bl b).tru S = some b := rfl
mutual
theorem frz_pure {N : Nat} {S : Store} : ∀ (d : D), d.pure = true → d.frz N S = some d
  | .non, _ => rfl
  | .bl _, _ => rfl
  | .int _, _ => rfl
  | .str _, _ => rfl
  | .tup ds, h => by simp only [D.pure] at h; simp only [D.frz, frzs_pure ds h, Option.map_some]
  | .lst ds, h => by simp only [D.pure] at h; simp only [D.frz, frzs_pure ds h, Option.map_some]
  | .rol ds, h => by simp only [D.pure] at h; simp only [D.frz, frzs_pure ds h, Option.map_some]
  | .dic _ _, _ => rfl
  | .st _, _ => rfl
  | .obj _, h => by simp [D.pure] at h
  | .exn _, h => by simp [D.pure] at h
theorem frzs_pure {N : Nat} {S : Store} : ∀ (ds : List D), D.pures ds = true → D.frzs N S ds = some ds
  | [], _ => rfl
  | d :: ds, h => by
    simp only [D.pures, Bool.and_eq_true] at h
    simp only [D.frzs, frz_pure d h.1, frzs_pure ds h.2, Option.bind_some, Option.map_some]
end
theorem fin_pure {b : Bool} {N : Nat} {d : D} {S : Store} (h : d.pure = true) : fin b N d S = .ok d (S.take N) := by
  cases b with
  | true => simp [fin, frz_pure d h]
  | false =>
    unfold fin
    cases d <;> first | rfl | (simp [h]; done) | (simp [D.pure] at h; done)
@[simp] theorem fin_bl {b c : Bool} {N : Nat} {S : Store} : fin b N (.bl c) S = .ok (.bl c) (S.take N) := fin_pure rfl
@[simp] theorem fin_int {b : Bool} {i : Int} {N : Nat} {S : Store} : fin b N (.int i) S = .ok (.int i) (S.take N) := fin_pure rfl
@[simp] theorem fin_str {b : Bool} {i : List Nat} {N : Nat} {S : Store} : fin b N (.str i) S = .ok (.str i) (S.take N) := fin_pure rfl
@[simp] theorem fin_non {b : Bool} {N : Nat} {S : Store} : fin b N .non S = .ok .non (S.take N) := fin_pure rfl
mutual
theorem plain_pure : ∀ {d : D}, d.plain = true → d.pure = true
  | .non, _ => rfl
  | .bl _, _ => rfl
  | .int _, _ => rfl
  | .str _, _ => rfl
  | .tup ds, h => by simp only [D.plain] at h; simp only [D.pure, plains_pures h]
  | .lst ds, h => by simp only [D.plain] at h; simp only [D.pure, plains_pures h]
  | .rol ds, h => by simp only [D.plain] at h; simp only [D.pure, plains_pures h]
  | .dic _ _, h => by simp [D.plain] at h
  | .st _, h => by simp [D.plain] at h
  | .obj _, h => by simp [D.plain] at h
  | .exn _, h => by simp [D.plain] at h
theorem plains_pures : ∀ {ds : List D}, D.plains ds = true → D.pures ds = true
  | [], _ => rfl
  | d :: ds, h => by
    simp only [D.plains, Bool.and_eq_true] at h
    simp only [D.pures, plain_pure h.1, plains_pures h.2, Bool.and_self]
end
theorem forL_inv {body : D → DEnv → Store → Out Fl} (P : Nat → DEnv → Store → Prop) {xs : List D} {δ : DEnv} {S : Store} (h0 : P 0 δ S)
    (step : ∀ i x δ S, xs[i]? = some x → P i δ S → ∃ δ' S', (body x δ S = .ok (.nx δ') S' ∨ body x δ S = .ok (.ct δ') S') ∧ P (i + 1) δ' S') : ∃ δ' S', forL body xs δ S = .ok (.nx δ') S' ∧ P xs.length δ' S' := by
  induction xs generalizing δ S P with
  | nil => exact ⟨δ, S, rfl, h0⟩
  | cons x xs ih =>
    obtain ⟨δ1, S1, hb, h1⟩ := step 0 x δ S rfl h0
    obtain ⟨δ2, S2, hf, h2⟩ := ih (fun i => P (i + 1)) h1 fun i y δ S hy hp => step (i + 1) y δ S (by simpa using hy) hp
    refine ⟨δ2, S2, ?_, h2⟩
    unfold forL
    rcases hb with hb | hb <;> rw [hb] <;> simpa using hf
/-- a comprehension whose parts change nothing -/
theorem mapL_pure {F : D → Store → Out (Option D)} {g : D → Option D} {S : Store} : ∀ {xs : List D}, (∀ x ∈ xs, F x S = .ok (g x) S) → mapL F xs S = .ok (xs.filterMap g) S
  | [], _ => rfl
  | x :: xs, h => by
    unfold mapL
    rw [h x List.mem_cons_self]
    simp only [Out.bind_ok]
    rw [mapL_pure fun y hy => h y (List.mem_cons_of_mem _ hy)]
    simp only [Out.bind_ok, List.filterMap_cons]
    cases g x <;> rfl
theorem allL_pure {F : D → Store → Out (Option D)} {g : D → Bool} {S : Store} {isAny : Bool} : ∀ {xs : List D}, (∀ x ∈ xs, F x S = .ok (some (.bl (g x))) S) → allL isAny F xs S = .ok (if isAny then xs.any g else xs.all g) S
  | [], _ => by cases isAny <;> rfl
  | x :: xs, h => by
    unfold allL
    rw [h x List.mem_cons_self]
    simp only [Out.bind_ok, D.asB_bl, liftB_some]
    have ih := allL_pure (isAny := isAny) (xs := xs) fun y hy => h y (List.mem_cons_of_mem _ hy)
    cases isAny <;> cases hg : g x <;> simp [hg, ih]
/-- a walk over what stays, one def's loop to its end -/
@[simp] theorem wipeD_nil (δ : DEnv) : wipeD δ [] = δ := rfl
@[simp] theorem wipeD_cons (δ : DEnv) (v : Nat) (vs : List Nat) : wipeD δ (v :: vs) = (wipeD δ vs).set v none := rfl
@[simp] theorem setAll_nil (ds : List D) (δ : DEnv) : setAll [] ds δ = δ := by cases ds <;> rfl
@[simp] theorem setAll_cons (i : Nat) (is : List Nat) (d : D) (ds : List D) (δ : DEnv) : setAll (i :: is) (d :: ds) δ = setAll is ds (δ.set i (some d)) := rfl
@[simp] theorem getD_zero (d : D) (δ : DEnv) : getD (some d :: δ) 0 = some d := rfl
@[simp] theorem getD_succ (x : Option D) (i : Nat) (δ : DEnv) : getD (x :: δ) (i + 1) = getD δ i := rfl
theorem run_rt {G : Dn} {fz : Bool} {b : Sts} {len : Nat} {ds : List D} {S S' : Store} {d : D} (h : evSs G b (startD len ds) S = .ok (.rt d) S') : runF G fz b len ds S = fin fz S.length d S' := by unfold runF; rw [h]
section
variable {G : Dn} {δ : DEnv} {S : Store} {a b c e : Ex} {es : Exs} {d : D}
@[simp] theorem ev_cst : ev G (.cst d) δ S = .ok d S := rfl
@[simp] theorem ev_var {i : Nat} : ev G (.var i) δ S = lift S (getD δ i) := rfl
@[simp] theorem ev_glb {i : Nat} : ev G (.glb i) δ S = lift S (G.Γ i) := rfl
@[simp] theorem ev_tup : ev G (.tup es) δ S = (evs G es δ S).bind fun ds S1 => if ds.length ≤ sizeLine then .ok (.tup ds) S1 else .bad := rfl
@[simp] theorem ev_lst : ev G (.lst es) δ S = (evs G es δ S).bind fun ds S1 => mkList false ds S1 := rfl
@[simp] theorem ev_lstO : ev G (.lstO es) δ S = (evs G es δ S).bind fun ds S1 => mkList true ds S1 := rfl
@[simp] theorem ev_bin {o : BinO} : ev G (.bin o a b) δ S = (ev G a δ S).bind fun x S1 => (ev G b δ S1).bind fun y S2 => lift S2 (binF o x y S2) := rfl
@[simp] theorem ev_neg : ev G (.neg a) δ S = (ev G a δ S).bind fun x S1 => lift S1 (negF x) := rfl
@[simp] theorem ev_not : ev G (.not a) δ S = (ev G a δ S).bind fun x S1 => (liftB S1 (x.tru S1)).bind fun b S2 => .ok (.bl (!b)) S2 := rfl
@[simp] theorem ev_and : ev G (.and a b) δ S = (ev G a δ S).bind fun x S1 => (liftB S1 x.asB).bind fun t S2 => if t then ev G b δ S2 else .ok (.bl false) S2 := rfl
@[simp] theorem ev_or : ev G (.or a b) δ S = (ev G a δ S).bind fun x S1 => (liftB S1 x.asB).bind fun t S2 => if t then .ok (.bl true) S2 else ev G b δ S2 := rfl
@[simp] theorem ev_one : ev G (.one a) δ S = ev G a δ S := rfl
@[simp] theorem ev_ite : ev G (.ite c a b) δ S = (tst G c δ S).bind fun t S1 => if t then ev G a δ S1 else ev G b δ S1 := rfl
@[simp] theorem ev_cmp {o : CmpO} : ev G (.cmp o a b) δ S = (ev G a δ S).bind fun x S1 => (ev G b δ S1).bind fun y S2 => lift S2 (cmpF o x y S2) := rfl
@[simp] theorem ev_chn {o o' : CmpO} : ev G (.chn o o' a b c) δ S = (ev G a δ S).bind fun x S1 => (ev G b δ S1).bind fun y S2 => (lift S2 (cmpF o x y S2)).bind fun t S3 => (liftB S3 t.asB).bind fun t S3 => if t then (ev G c δ S3).bind fun z S4 => lift S4 (cmpF o' y z S4) else .ok (.bl false) S3 := rfl
@[simp] theorem ev_idx : ev G (.idx a b) δ S = (ev G a δ S).bind fun x S1 => (ev G b δ S1).bind fun y S2 => lift S2 (dIdx x y S2) := rfl
@[simp] theorem ev_cut {l h : Exo} : ev G (.cut a l h) δ S = (ev G a δ S).bind fun x S1 => (evo G l δ S1).bind fun lv S2 => (evo G h δ S2).bind fun hv S3 => lift S3 (dCut x lv hv S3) := rfl
@[simp] theorem ev_call {f : Nat} : ev G (.call f es) δ S = (evs G es δ S).bind fun ds S1 => G.Φ f ds S1 := rfl
@[simp] theorem ev_bif {f : Bif} : ev G (.bif f es) δ S = (evs G es δ S).bind fun ds S1 => lift S1 (bifF f ds S1) := rfl
@[simp] theorem ev_isin {t : String} : ev G (.isin e t) δ S = (ev G e δ S).bind fun x S1 => lift S1 (isinF x t S1) := rfl
@[simp] theorem ev_app : ev G (.app a e) δ S = (ev G a δ S).bind fun x S1 => (liftO S1 x.asO).bind fun n S1 => (ev G e δ S1).bind fun y S2 => appF n y S2 := rfl
@[simp] theorem ev_pop : ev G (.pop a) δ S = (ev G a δ S).bind fun x S1 => (liftO S1 x.asO).bind fun n S1 => popF n S1 := rfl
@[simp] theorem ev_lrev {o : Bool} : ev G (.lrev e o) δ S = (ev G e δ S).bind fun x S1 => (liftO S1 (x.lseq S1)).bind fun ds S2 => mkList o ds.reverse S2 := rfl
@[simp] theorem ev_kin {n : Bool} {i : Nat} : ev G (.kin n i e) δ S = (liftO S (G.Δ i)).bind fun l S => (ev G e δ S).bind fun x S1 => lift S1 (kinF n l x) := rfl
@[simp] theorem ev_kidx {i : Nat} : ev G (.kidx i e) δ S = (liftO S (G.Δ i)).bind fun l S => (ev G e δ S).bind fun x S1 => lift S1 (kidxF l x) := rfl
@[simp] theorem tst_not : tst G (.not a) δ S = (tst G a δ S).bind fun b S1 => .ok (!b) S1 := rfl
@[simp] theorem tst_and : tst G (.and a b) δ S = (tst G a δ S).bind fun t S1 => if t then tst G b δ S1 else .ok false S1 := rfl
@[simp] theorem tst_or : tst G (.or a b) δ S = (tst G a δ S).bind fun t S1 => if t then .ok true S1 else tst G b δ S1 := rfl
@[simp] theorem tst_one : tst G (.one a) δ S = tst G a δ S := rfl
@[simp] theorem tst_ite : tst G (.ite c a b) δ S = (tst G c δ S).bind fun t S1 => if t then tst G a δ S1 else tst G b δ S1 := rfl
@[simp] theorem tst_cmp {o : CmpO} : tst G (.cmp o a b) δ S = (ev G a δ S).bind fun x S1 => (ev G b δ S1).bind fun y S2 => (lift S2 (cmpF o x y S2)).bind fun z S3 => liftB S3 z.asB := rfl
@[simp] theorem tst_chn {o o' : CmpO} : tst G (.chn o o' a b c) δ S = (ev G a δ S).bind fun x S1 => (ev G b δ S1).bind fun y S2 => (lift S2 (cmpF o x y S2)).bind fun t S3 => (liftB S3 t.asB).bind fun t S3 => if t then (ev G c δ S3).bind fun z S4 => (lift S4 (cmpF o' y z S4)).bind fun z S5 => liftB S5 z.asB else .ok false S3 := rfl
@[simp] theorem tst_cst : tst G (.cst d) δ S = liftB S (d.tru S) := rfl
@[simp] theorem tst_var {i : Nat} : tst G (.var i) δ S = (lift S (getD δ i)).bind fun z S1 => liftB S1 (z.tru S1) := rfl
@[simp] theorem tst_idx : tst G (.idx a b) δ S = (ev G a δ S).bind fun x S1 => (ev G b δ S1).bind fun y S2 => (lift S2 (dIdx x y S2)).bind fun z S3 => liftB S3 (z.tru S3) := rfl
@[simp] theorem tst_call {f : Nat} : tst G (.call f es) δ S = (evs G es δ S).bind fun ds S1 => (G.Φ f ds S1).bind fun z S2 => liftB S2 (z.tru S2) := rfl
@[simp] theorem tst_bif {f : Bif} : tst G (.bif f es) δ S = (evs G es δ S).bind fun ds S1 => (lift S1 (bifF f ds S1)).bind fun z S2 => liftB S2 (z.tru S2) := rfl
@[simp] theorem tst_isin {t : String} : tst G (.isin e t) δ S = (ev G e δ S).bind fun x S1 => (lift S1 (isinF x t S1)).bind fun z S2 => liftB S2 (z.tru S2) := rfl
@[simp] theorem tst_kin {n : Bool} {i : Nat} : tst G (.kin n i e) δ S = (liftO S (G.Δ i)).bind fun l S => (ev G e δ S).bind fun x S1 => (lift S1 (kinF n l x)).bind fun z S2 => liftB S2 (z.tru S2) := rfl
@[simp] theorem tst_kidx {i : Nat} : tst G (.kidx i e) δ S = (liftO S (G.Δ i)).bind fun l S => (ev G e δ S).bind fun x S1 => (lift S1 (kidxF l x)).bind fun z S2 => liftB S2 (z.tru S2) := rfl
@[simp] theorem evs_nil : evs G .nil δ S = .ok [] S := rfl
@[simp] theorem evs_cons : evs G (.cons e es) δ S = (ev G e δ S).bind fun x S1 => (evs G es δ S1).bind fun xs S2 => .ok (x :: xs) S2 := rfl
@[simp] theorem tsts_nil : tsts G .nil δ S = .ok true S := rfl
@[simp] theorem tsts_one : tsts G (.cons e .nil) δ S = tst G e δ S := rfl
@[simp] theorem evo_no : evo G .no δ S = .ok none S := rfl
@[simp] theorem evo_ex : evo G (.ex e) δ S = (ev G e δ S).bind fun x S1 => (liftO S1 x.asI).bind fun i S2 => .ok (some i) S2 := rfl
@[simp] theorem evI_seq : evI G (.seq e) δ S = (ev G e δ S).bind fun x S1 => liftO S1 (srcOf x) := rfl
@[simp] theorem evI_rng1 : evI G (.rng1 a) δ S = (ev G a δ S).bind fun x S1 => liftO S1 (rngS (.int 0) x) := rfl
@[simp] theorem evI_rng2 : evI G (.rng2 a b) δ S = (ev G a δ S).bind fun x S1 => (ev G b δ S1).bind fun y S2 => liftO S2 (rngS x y) := rfl
variable {s : PD.St} {ss sa sb : Sts} {t : Tg}
@[simp] theorem evS_set {i : Nat} : evS G (.set i e) δ S = exS δ (ev G e δ S) fun d S1 => .ok (.nx (δ.set i (some d))) S1 := rfl
@[simp] theorem evS_unp : evS G (.unp t e) δ S = exS δ (ev G e δ S) fun d S1 => (liftO S1 (tset t d δ)).bind fun δ' S1 => .ok (.nx δ') S1 := rfl
@[simp] theorem evS_par2 {i j : Nat} : evS G (.par2 i j a b) δ S = exS δ (ev G a δ S) fun x S1 => exS δ (ev G b δ S1) fun y S2 => .ok (.nx ((δ.set i (some x)).set j (some y))) S2 := rfl
@[simp] theorem evS_par3 {i j k : Nat} : evS G (.par3 i j k a b c) δ S = exS δ (ev G a δ S) fun x S1 => exS δ (ev G b δ S1) fun y S2 => exS δ (ev G c δ S2) fun z S3 => .ok (.nx (((δ.set i (some x)).set j (some y)).set k (some z))) S3 := rfl
@[simp] theorem evS_aug {i : Nat} {o : BinO} : evS G (.aug i o e) δ S = (liftO S (getD δ i)).bind fun x S => exS δ (ev G e δ S) fun y S1 => (liftO S1 (augF o x y S1)).bind fun z S2 => .ok (.nx (δ.set i (some z))) S2 := rfl
@[simp] theorem evS_exp : evS G (.exp e) δ S = exS δ (ev G e δ S) fun _ S1 => .ok (.nx δ) S1 := rfl
@[simp] theorem evS_ret : evS G (.ret e) δ S = exS δ (ev G e δ S) fun d S1 => .ok (.rt d) S1 := rfl
@[simp] theorem evS_iff : evS G (.iff e sa sb) δ S = exS δ (tst G e δ S) fun t S1 => if t then evSs G sa δ S1 else evSs G sb δ S1 := rfl
@[simp] theorem evS_pass : evS G .pass δ S = .ok (.nx δ) S := rfl
@[simp] theorem evS_brk : evS G .brk δ S = .ok (.bk δ) S := rfl
@[simp] theorem evS_cnt : evS G .cnt δ S = .ok (.ct δ) S := rfl
@[simp] theorem evSs_nil : evSs G .nil δ S = .ok (.nx δ) S := rfl
@[simp] theorem evSs_cons : evSs G (.cons s ss) δ S = thenF (evS G s δ S) fun δ1 S1 => evSs G ss δ1 S1 := rfl
/-- a turn of a comprehension, of a generator expression -/
def turnB (G : Dn) (el : Ex) (t : Tg) (cs : Exs) (δ : DEnv) : D → Store → Out (Option D) := fun x S => (liftO S (tset t x (wipeD δ t.slots))).bind fun δ' S => (tsts G cs δ' S).bind fun b S2 => if b then (ev G el δ' S2).bind fun y S3 => .ok (some y) S3 else .ok none S2
theorem ev_comp {el : Ex} {it : It} {cs : Exs} {o : Bool} : ev G (.comp el t it cs o) δ S = (evI G it δ S).bind fun src S1 => (liftO S1 src.items).bind fun ds S1 => (nox (mapL (turnB G el t cs δ) ds S1)).bind fun ys S2 => mkList o ys S2 := rfl
theorem ev_allG {el : Ex} {it : It} {cs : Exs} {o : Bool} : ev G (.allG o el t it cs) δ S = (evI G it δ S).bind fun src S1 => (liftO S1 src.items).bind fun ds S1 => (nox (allL o (turnB G el t cs δ) ds S1)).bind fun b S2 => .ok (.bl b) S2 := rfl
theorem tst_allG {el : Ex} {it : It} {cs : Exs} {o : Bool} : tst G (.allG o el t it cs) δ S = (evI G it δ S).bind fun src S1 => (liftO S1 src.items).bind fun ds S1 => (nox (allL o (turnB G el t cs δ) ds S1)).bind fun b S2 => .ok b S2 := rfl
/-- a loop's turn -/
def turnS (G : Dn) (t : Tg) (b : Sts) : D → DEnv → Store → Out Fl := fun x δ S => (liftO S (tset t x δ)).bind fun δ' S => evSs G b δ' S
theorem evS_forr {it : It} : evS G (.forr t it ss) δ S = exS δ (evI G it δ S) fun src S1 => match src with
    | .st ds => forL (turnS G t ss) ds δ S1
    | .lv n => forV n (turnS G t ss) manyT 0 δ S1 := rfl
theorem evS_whl : evS G (.whl c ss) δ S = whileF (fun δ S => tst G c δ S) (fun δ S => evSs G ss δ S) manyT δ S := rfl
end
theorem le_one (a b : Nat) : (!decide (([b] : List Nat) < [a])) = decide (a ≤ b) := by
  by_cases h : a ≤ b
  · have h2 : ¬ b < a := by omega
    simp [List.cons_lt_cons_iff, h, h2]
  · have h2 : b < a := by omega
    simp [List.cons_lt_cons_iff, h, h2]
@[simp] theorem tset_nm {i : Nat} {d : D} {δ : DEnv} : tset (.nm i) d δ = some (δ.set i (some d)) := rfl
@[simp] theorem slots_nm {i : Nat} : (Tg.nm i).slots = [i] := rfl
@[simp] theorem slots_tp {l : List Nat} : (Tg.tp l).slots = l := rfl
end PD

set_option Elab.async false
set_option linter.all false
set_option maxRecDepth 100000
set_option maxHeartbeats 0
namespace Law
open PySem PySem.Spec PyProof.Rows L2 PD
def top (i : Nat) : Stmt := PySem.Challenge.pw_editsagree_k63_whole_operations_and_seen.main.body.getD i (.Pass ⟨0, 0, 0, 0⟩)
/-- is_number: 0=value 1=least 2=most -/
def d_is_number_b : Sts := (.cons (.ret (.and (.isin (.var 0) "int") (.and (.not (.isin (.var 0) "bool")) (.one (.chn .le .le (.var 1) (.var 0) (.var 2)))))) .nil)
def d_is_number : Df := ⟨"is_number", top 1, ["value", "least", "most"], ["value", "least", "most"], true, false, d_is_number_b⟩
/-- is_name: 0=value 1=sign -/
def d_is_name_b : Sts := (.cons (.ret (.and (.isin (.var 0) "str") (.and (.chn .le .le (.cst (.int 1)) (.bif .len (.cons (.var 0) .nil)) (.cst (.int 16))) (.one (.allG false (.chn .le .le (.cst (.str [97])) (.var 1) (.cst (.str [122]))) (.nm 1) (.seq (.var 0)) .nil))))) .nil)
def d_is_name : Df := ⟨"is_name", top 2, ["value"], ["value", "sign"], true, true, d_is_name_b⟩
/-- is_id: 0=value -/
def d_is_id_b : Sts := (.cons (.iff (.or (.not (.isin (.var 0) "tuple")) (.one (.cmp .ne (.bif .len (.cons (.var 0) .nil)) (.cst (.int 2))))) (.cons (.ret (.cst (.bl false))) .nil) .nil) (.cons (.ret (.and (.call 0 (.cons (.idx (.var 0) (.cst (.int 0))) (.cons (.cst (.int 1)) (.cons (.glb 0) .nil)))) (.one (.call 1 (.cons (.idx (.var 0) (.cst (.int 1))) .nil))))) .nil))
def d_is_id : Df := ⟨"is_id", top 9, ["value"], ["value"], true, false, d_is_id_b⟩
/-- is_sign: 0=value -/
def d_is_sign_b : Sts := (.cons (.iff (.or (.not (.isin (.var 0) "str")) (.one (.cmp .ne (.bif .len (.cons (.var 0) .nil)) (.cst (.int 1))))) (.cons (.ret (.cst (.bl false))) .nil) .nil) (.cons (.ret (.or (.cmp .eq (.var 0) (.glb 3)) (.one (.chn .le .le (.glb 1) (.var 0) (.glb 2))))) .nil))
def d_is_sign : Df := ⟨"is_sign", top 10, ["value"], ["value"], true, false, d_is_sign_b⟩
/-- is_ahead: 0=value 1=own -/
def d_is_ahead_b : Sts := (.cons (.ret (.and (.call 2 (.cons (.var 0) .nil)) (.one (.cmp .lt (.idx (.var 0) (.cst (.int 0))) (.idx (.var 1) (.cst (.int 0))))))) .nil)
def d_is_ahead : Df := ⟨"is_ahead", top 11, ["value", "own"], ["value", "own"], true, false, d_is_ahead_b⟩
/-- is_operation: 0=value -/
def d_is_operation_b : Sts := (.cons (.iff (.or (.not (.isin (.var 0) "tuple")) (.or (.cmp .eq (.bif .len (.cons (.var 0) .nil)) (.cst (.int 0))) (.or (.not (.isin (.idx (.var 0) (.cst (.int 0))) "str")) (.one (.kin true 4 (.idx (.var 0) (.cst (.int 0)))))))) (.cons (.ret (.cst (.bl false))) .nil) .nil) (.cons (.iff (.or (.cmp .ne (.bif .len (.cons (.var 0) .nil)) (.kidx 4 (.idx (.var 0) (.cst (.int 0))))) (.or (.not (.call 2 (.cons (.idx (.var 0) (.cst (.int 1))) .nil))) (.one (.not (.call 0 (.cons (.idx (.var 0) (.cst (.int 2))) (.cons (.cst (.int 0)) (.cons (.bin .sub (.idx (.idx (.var 0) (.cst (.int 1))) (.cst (.int 0))) (.cst (.int 1))) .nil)))))))) (.cons (.ret (.cst (.bl false))) .nil) .nil) (.cons (.iff (.cmp .eq (.idx (.var 0) (.cst (.int 0))) (.cst (.str [112, 117, 116]))) (.cons (.ret (.and (.call 3 (.cons (.idx (.var 0) (.cst (.int 4))) .nil)) (.one (.or (.cmp .is_ (.idx (.var 0) (.cst (.int 3))) (.cst .non)) (.one (.call 4 (.cons (.idx (.var 0) (.cst (.int 3))) (.cons (.idx (.var 0) (.cst (.int 1))) .nil)))))))) .nil) .nil) (.cons (.ret (.call 4 (.cons (.idx (.var 0) (.cst (.int 3))) (.cons (.idx (.var 0) (.cst (.int 1))) .nil)))) .nil))))
def d_is_operation : Df := ⟨"is_operation", top 12, ["value"], ["value"], true, false, d_is_operation_b⟩
/-- is_seen: 0=value 1=row 2=at -/
def d_is_seen_b : Sts := (.cons (.iff (.not (.isin (.var 0) "tuple")) (.cons (.ret (.cst (.bl false))) .nil) .nil) (.cons (.forr (.nm 1) (.seq (.var 0)) (.cons (.iff (.or (.not (.isin (.var 1) "tuple")) (.or (.cmp .ne (.bif .len (.cons (.var 1) .nil)) (.cst (.int 2))) (.or (.not (.call 1 (.cons (.idx (.var 1) (.cst (.int 0))) .nil))) (.one (.not (.call 0 (.cons (.idx (.var 1) (.cst (.int 1))) (.cons (.cst (.int 1)) (.cons (.glb 0) .nil))))))))) (.cons (.ret (.cst (.bl false))) .nil) .nil) .nil)) (.cons (.ret (.allG false (.cmp .lt (.idx (.idx (.var 0) (.bin .sub (.var 2) (.cst (.int 1)))) (.cst (.int 0))) (.idx (.idx (.var 0) (.var 2)) (.cst (.int 0)))) (.nm 2) (.rng2 (.cst (.int 1)) (.bif .len (.cons (.var 0) .nil))) .nil)) .nil)))
def d_is_seen : Df := ⟨"is_seen", top 13, ["value"], ["value", "row", "at"], true, true, d_is_seen_b⟩
/-- _law_draws: 0=script 1=draws 2=cell 3=number 4=k 5=first 6=seed -/
def d_law_draws_b : Sts := (.cons (.set 1 (.lstO .nil)) (.cons (.forr (.nm 2) (.seq (.var 0)) (.cons (.set 3 (.bif .abs (.cons (.var 2) .nil))) (.cons (.iff (.cmp .lt (.var 3) (.bin .pow (.cst (.int 10)) (.cst (.int 18)))) (.cons (.set 5 (.bin .mod (.bif .int (.cons (.bin .add (.bin .mul (.var 3) (.cst (.int 48271))) (.cst (.int 11))) .nil)) (.cst (.int 2147483647)))) (.cons (.exp (.app (.var 1) (.bin .mod (.bif .int (.cons (.bin .add (.bin .mul (.var 5) (.cst (.int 69621))) (.var 3)) .nil)) (.cst (.int 2147483629))))) (.cons (.exp (.app (.var 1) (.bin .mod (.bif .int (.cons (.bin .add (.var 5) (.bin .div (.var 3) (.cst (.int 7)))) .nil)) (.cst (.int 1000003))))) (.cons (.set 3 (.cst (.int 0))) .nil)))) .nil) (.cons (.forr (.nm 4) (.rng1 (.cst (.int 60))) (.cons (.iff (.cmp .gt (.var 3) (.cst (.int 0))) (.cons (.exp (.app (.var 1) (.bin .mod (.bif .int (.cons (.var 3) .nil)) (.cst (.int 997))))) (.cons (.set 3 (.bin .div (.var 3) (.cst (.int 997)))) .nil)) .nil) .nil)) .nil)))) (.cons (.set 6 (.cst (.int 1))) (.cons (.iff (.cmp .gt (.bif .len (.cons (.var 0) .nil)) (.cst (.int 0))) (.cons (.set 6 (.bin .add (.cst (.int 1)) (.bif .abs (.cons (.idx (.var 0) (.cst (.int 0))) .nil)))) .nil) .nil) (.cons (.forr (.nm 4) (.rng1 (.cst (.int 900))) (.cons (.set 6 (.bin .mod (.bif .int (.cons (.bin .add (.bin .mul (.var 6) (.cst (.int 48271))) (.cst (.int 69621))) .nil)) (.cst (.int 2147483647)))) (.cons (.exp (.app (.var 1) (.bin .div (.var 6) (.cst (.int 5))))) .nil))) (.cons (.ret (.lrev (.var 1) true)) .nil))))))
def d_law_draws : Df := ⟨"_law_draws", top 15, ["script"], ["script", "draws", "cell", "number", "k", "first", "seed"], false, false, d_law_draws_b⟩
/-- _law_take: 0=draws 1=limit -/
def d_law_take_b : Sts := (.cons (.iff (.cmp .eq (.bif .len (.cons (.var 0) .nil)) (.cst (.int 0))) (.cons (.ret (.cst (.int 0))) .nil) .nil) (.cons (.ret (.bin .mod (.bif .int (.cons (.pop (.var 0)) .nil)) (.var 1))) .nil))
def d_law_take : Df := ⟨"_law_take", top 16, ["draws", "limit"], ["draws", "limit"], true, false, d_law_take_b⟩
/-- _law_rows: 0=draws 1=numb 2=site 3=other 4=ahead 5=tail 6=found -/
def d_law_rows_b : Sts := (.cons (.set 1 (.bin .add (.cst (.int 2)) (.call 8 (.cons (.var 0) (.cons (.cst (.int 50)) .nil))))) (.cons (.par2 2 3 (.idx (.lst (.cons (.cst (.str [97])) (.cons (.cst (.str [122, 122])) (.cons (.bin .mul (.cst (.str [122])) (.cst (.int 16))) .nil)))) (.call 8 (.cons (.var 0) (.cons (.cst (.int 3)) .nil)))) (.idx (.lst (.cons (.cst (.str [97])) (.cons (.cst (.str [98])) .nil))) (.call 8 (.cons (.var 0) (.cons (.cst (.int 2)) .nil))))) (.cons (.par2 4 5 (.call 8 (.cons (.var 0) (.cons (.var 1) .nil))) (.tup (.cons (.bin .add (.cst (.int 1)) (.call 8 (.cons (.var 0) (.cons (.bin .sub (.var 1) (.cst (.int 1))) .nil)))) (.cons (.var 3) .nil)))) (.cons (.set 6 (.lst (.cons (.tup (.cons (.cst (.str [112, 117, 116])) (.cons (.tup (.cons (.var 1) (.cons (.var 2) .nil))) (.cons (.var 4) (.cons (.var 5) (.cons (.idx (.cst (.str [32, 126, 10, 59, 97])) (.call 8 (.cons (.var 0) (.cons (.cst (.int 5)) .nil)))) .nil)))))) (.cons (.tup (.cons (.cst (.str [112, 117, 116])) (.cons (.tup (.cons (.var 1) (.cons (.var 2) .nil))) (.cons (.var 4) (.cons (.cst .non) (.cons (.cst (.str [120])) .nil)))))) (.cons (.tup (.cons (.cst (.str [99, 117, 116])) (.cons (.tup (.cons (.var 1) (.cons (.var 2) .nil))) (.cons (.var 4) (.cons (.var 5) .nil))))) .nil))))) (.cons (.set 6 (.bin .add (.var 6) (.lst (.cons (.tup (.cons (.cst (.str [117, 110, 100, 111])) (.cons (.tup (.cons (.var 1) (.cons (.var 2) .nil))) (.cons (.var 4) (.cons (.var 5) .nil))))) .nil)))) (.cons (.ret (.bin .add (.var 6) (.lst (.cons (.tup (.cons (.cst (.str [112, 117, 116])) (.cons (.tup (.cons (.cst (.int 1)) (.cons (.var 2) .nil))) (.cons (.cst (.int 0)) (.cons (.cst .non) (.cons (.cst (.str [97])) .nil)))))) (.cons (.tup (.cons (.cst (.str [99, 117, 116])) (.cons (.tup (.cons (.bin .pow (.cst (.int 10)) (.cst (.int 6))) (.cons (.var 2) .nil))) (.cons (.bin .sub (.bin .pow (.cst (.int 10)) (.cst (.int 6))) (.cst (.int 1))) (.cons (.tup (.cons (.bin .sub (.bin .pow (.cst (.int 10)) (.cst (.int 6))) (.cst (.int 1))) (.cons (.var 3) .nil))) .nil))))) (.cons (.tup (.cons (.cst (.str [117, 110, 100, 111])) (.cons (.tup (.cons (.cst (.int 2)) (.cons (.var 2) .nil))) (.cons (.cst (.int 0)) (.cons (.tup (.cons (.cst (.int 1)) (.cons (.var 3) .nil))) .nil))))) .nil)))))) .nil))))))
def d_law_rows : Df := ⟨"_law_rows", top 17, ["draws"], ["draws", "numb", "site", "other", "ahead", "tail", "found"], true, false, d_law_rows_b⟩
/-- _law_wrong: 0=operation 1=numb 2=site 3=found 4=ids 5=one -/
def d_law_wrong_b : Sts := (.cons (.unp (.tp [1, 2]) (.idx (.var 0) (.cst (.int 1)))) (.cons (.set 3 (.lst (.cons (.cst .non) (.cons (.cst (.int 5)) (.cons (.cst (.str [112, 117, 116])) (.cons (.tup .nil) (.cons (.bif .list (.cons (.var 0) .nil)) (.cons (.cut (.var 0) .no (.ex (.neg (.cst (.int 1))))) (.cons (.bin .add (.var 0) (.tup (.cons (.cst (.int 0)) .nil))) (.cons (.bin .add (.tup (.cons (.cst (.str [80, 117, 116])) .nil)) (.cut (.var 0) (.ex (.cst (.int 1))) .no)) (.cons (.bin .add (.tup (.cons (.cst .non) .nil)) (.cut (.var 0) (.ex (.cst (.int 1))) .no)) (.cons (.bin .add (.tup (.cons (.cst (.str [117, 110, 100, 111])) (.cons (.cst (.str [112, 117, 116])) .nil))) (.cut (.var 0) (.ex (.cst (.int 2))) .no)) .nil)))))))))))) (.cons (.set 4 (.lst (.cons (.cst .non) (.cons (.tup (.cons (.var 1) .nil)) (.cons (.tup (.cons (.var 1) (.cons (.var 2) (.cons (.cst (.int 0)) .nil)))) (.cons (.lst (.cons (.var 1) (.cons (.var 2) .nil))) (.cons (.tup (.cons (.cst (.int 0)) (.cons (.var 2) .nil))) (.cons (.tup (.cons (.bin .add (.bin .pow (.cst (.int 10)) (.cst (.int 6))) (.cst (.int 1))) (.cons (.var 2) .nil))) (.cons (.tup (.cons (.neg (.cst (.int 1))) (.cons (.var 2) .nil))) (.cons (.tup (.cons (.bif .str (.cons (.var 1) .nil)) (.cons (.var 2) .nil))) (.cons (.tup (.cons (.cst (.bl true)) (.cons (.var 2) .nil))) .nil))))))))))) (.cons (.set 4 (.bin .add (.var 4) (.lst (.cons (.tup (.cons (.var 1) (.cons (.cst (.str [])) .nil))) (.cons (.tup (.cons (.var 1) (.cons (.cst (.str [65])) .nil))) (.cons (.tup (.cons (.var 1) (.cons (.bin .mul (.cst (.str [122])) (.cst (.int 17))) .nil))) (.cons (.tup (.cons (.var 1) (.cons (.cst .non) .nil))) .nil))))))) (.cons (.set 3 (.bin .add (.var 3) (.comp (.bin .add (.bin .add (.cut (.var 0) .no (.ex (.cst (.int 1)))) (.tup (.cons (.var 5) .nil))) (.cut (.var 0) (.ex (.cst (.int 2))) .no)) (.nm 5) (.seq (.var 4)) .nil false))) (.cons (.set 3 (.bin .add (.var 3) (.comp (.bin .add (.bin .add (.cut (.var 0) .no (.ex (.cst (.int 2)))) (.tup (.cons (.var 5) .nil))) (.cut (.var 0) (.ex (.cst (.int 3))) .no)) (.nm 5) (.seq (.lst (.cons (.neg (.cst (.int 1))) (.cons (.var 1) (.cons (.bin .add (.var 1) (.cst (.int 1))) (.cons (.cst .non) (.cons (.bif .str (.cons (.idx (.var 0) (.cst (.int 2))) .nil)) (.cons (.tup (.cons (.cst (.int 0)) .nil)) (.cons (.cst (.bl false)) .nil))))))))) .nil false))) (.cons (.set 3 (.bin .add (.var 3) (.comp (.bin .add (.bin .add (.cut (.var 0) .no (.ex (.cst (.int 3)))) (.tup (.cons (.var 5) .nil))) (.cut (.var 0) (.ex (.cst (.int 4))) .no)) (.nm 5) (.seq (.lst (.cons (.tup (.cons (.var 1) (.cons (.var 2) .nil))) (.cons (.tup (.cons (.bin .add (.var 1) (.cst (.int 1))) (.cons (.cst (.str [97])) .nil))) (.cons (.cst (.int 5)) (.cons (.cst (.str [97])) (.cons (.tup .nil) (.cons (.tup (.cons (.cst (.int 0)) (.cons (.cst (.str [97])) .nil))) (.cons (.tup (.cons (.cst (.int 1)) .nil)) (.cons (.lst (.cons (.cst (.int 1)) (.cons (.cst (.str [97])) .nil))) .nil)))))))))) .nil false))) (.cons (.iff (.cmp .eq (.idx (.var 0) (.cst (.int 0))) (.cst (.str [112, 117, 116]))) (.cons (.ret (.bin .add (.var 3) (.comp (.bin .add (.cut (.var 0) .no (.ex (.cst (.int 4)))) (.tup (.cons (.var 5) .nil))) (.nm 5) (.seq (.lst (.cons (.cst (.str [])) (.cons (.cst (.str [97, 98])) (.cons (.cst .non) (.cons (.cst (.int 5)) (.cons (.cst (.str [9])) (.cons (.tup (.cons (.cst (.str [97])) .nil)) .nil)))))))) .nil false))) .nil) .nil) (.cons (.ret (.bin .add (.var 3) (.lst (.cons (.bin .add (.cut (.var 0) .no (.ex (.cst (.int 3)))) (.tup (.cons (.cst .non) .nil))) .nil)))) .nil)))))))))
def d_law_wrong : Df := ⟨"_law_wrong", top 18, ["operation"], ["operation", "numb", "site", "found", "ids", "one"], true, false, d_law_wrong_b⟩
/-- law: 0=script 1=draws 2=operation 3=value 4=rows 5=name 6=good 7=odd 8=numb -/
def d_law_b : Sts := (.cons (.set 1 (.call 7 (.cons (.var 0) .nil))) (.cons (.forr (.nm 2) (.seq (.call 9 (.cons (.var 1) .nil))) (.cons (.iff (.or (.cmp .isNot (.call 5 (.cons (.var 2) .nil)) (.cst (.bl true))) (.one (.cmp .ne (.comp (.var 3) (.nm 3) (.seq (.call 10 (.cons (.var 2) .nil))) (.cons (.cmp .isNot (.call 5 (.cons (.var 3) .nil)) (.cst (.bl false))) .nil) false) (.lst .nil)))) (.cons (.ret (.cst (.bl false))) .nil) .nil) .nil)) (.cons (.set 4 (.comp (.tup (.cons (.var 5) (.cons (.bin .add (.cst (.int 1)) (.call 8 (.cons (.var 1) (.cons (.bin .pow (.cst (.int 10)) (.cst (.int 6))) .nil)))) .nil))) (.nm 5) (.seq (.lst (.cons (.cst (.str [97])) (.cons (.cst (.str [98])) (.cons (.cst (.str [98, 97])) (.cons (.bin .mul (.cst (.str [122])) (.cst (.int 16))) .nil)))))) (.cons (.cmp .eq (.call 8 (.cons (.var 1) (.cons (.cst (.int 2)) .nil))) (.cst (.int 0))) .nil) false)) (.cons (.set 6 (.lst (.cons (.tup .nil) (.cons (.bif .tuple (.cons (.var 4) .nil)) (.cons (.tup (.cons (.tup (.cons (.cst (.str [97])) (.cons (.cst (.int 1)) .nil))) (.cons (.tup (.cons (.cst (.str [98])) (.cons (.bin .pow (.cst (.int 10)) (.cst (.int 6))) .nil))) .nil))) .nil))))) (.cons (.set 7 (.lst (.cons (.cst .non) (.cons (.lst .nil) (.cons (.cst (.int 5)) (.cons (.cst (.str [97, 58, 49])) (.cons (.var 4) (.cons (.tup (.cons (.tup (.cons (.cst (.str [97])) .nil)) .nil)) (.cons (.tup (.cons (.tup (.cons (.cst (.str [97])) (.cons (.cst (.int 1)) (.cons (.cst (.int 2)) .nil)))) .nil)) (.cons (.tup (.cons (.lst (.cons (.cst (.str [97])) (.cons (.cst (.int 1)) .nil))) .nil)) (.cons (.tup (.cons (.tup (.cons (.cst (.str [98])) (.cons (.cst (.int 1)) .nil))) (.cons (.tup (.cons (.cst (.str [97])) (.cons (.cst (.int 1)) .nil))) .nil))) (.cons (.tup (.cons (.tup (.cons (.cst (.str [97])) (.cons (.cst (.int 1)) .nil))) (.cons (.tup (.cons (.cst (.str [97])) (.cons (.cst (.int 2)) .nil))) .nil))) (.cons (.tup (.cons (.cst (.int 1)) (.cons (.cst (.str [97])) .nil))) .nil))))))))))))) (.cons (.set 7 (.bin .add (.bin .add (.var 7) (.comp (.tup (.cons (.tup (.cons (.var 5) (.cons (.cst (.int 1)) .nil))) .nil)) (.nm 5) (.seq (.lst (.cons (.cst (.str [])) (.cons (.cst (.str [65])) (.cons (.cst .non) (.cons (.bin .mul (.cst (.str [122])) (.cst (.int 17))) (.cons (.cst (.int 5)) .nil))))))) .nil false)) (.comp (.tup (.cons (.tup (.cons (.cst (.str [97])) (.cons (.var 8) .nil))) .nil)) (.nm 8) (.seq (.lst (.cons (.cst (.int 0)) (.cons (.neg (.cst (.int 1))) (.cons (.bin .add (.bin .pow (.cst (.int 10)) (.cst (.int 6))) (.cst (.int 1))) (.cons (.cst .non) (.cons (.cst (.str [49])) (.cons (.cst (.bl true)) .nil)))))))) .nil false))) (.cons (.ret (.and (.cmp .eq (.comp (.var 3) (.nm 3) (.seq (.var 6)) (.cons (.cmp .isNot (.call 6 (.cons (.var 3) .nil)) (.cst (.bl true))) .nil) false) (.lst .nil)) (.one (.cmp .eq (.comp (.var 3) (.nm 3) (.seq (.var 7)) (.cons (.cmp .isNot (.call 6 (.cons (.var 3) .nil)) (.cst (.bl false))) .nil) false) (.lst .nil))))) .nil)))))))
def d_law : Df := ⟨"law", top 19, ["script"], ["script", "draws", "operation", "value", "rows", "name", "good", "odd", "numb"], true, false, d_law_b⟩
def dfs : List Df := [d_is_number, d_is_name, d_is_id, d_is_sign, d_is_ahead, d_is_operation, d_is_seen, d_law_draws, d_law_take, d_law_rows, d_law_wrong, d_law]
def gts : List (Str × D) := [("MOST_COUNT", (.int 1000000)), ("FIRST_SIGN", (.str [32])), ("LAST_SIGN", (.str [126])), ("LINE_END", (.str [10])), ("LENGTHS", (.dic [.str [112, 117, 116], .str [99, 117, 116], .str [117, 110, 100, 111]] [.int 5, .int 4, .int 4]))]
theorem dfs_ok : dfs.all (dfOk (gts.map (·.1)) (fnsOf dfs)) = true := by kernel_rfl
theorem pl_ok : dfs.all (fun d => plainArgs (defArgs d.st) d.ps) = true := by kernel_rfl
def hk : Hk := ⟨gts, dfs⟩
abbrev R : PySem.W.OpenRow := PySem.W.OpenLaw.row PySem.Challenge.rw_editsagree_k63_whole_operations_and_seen
abbrev hook : PySem.W.Hook := hookP 2 hk
def ob (s : PySem.W.SharedT) : AlP := hk.obsG 2 (HandSHeadRun.getT s)
theorem ob_eq (s : PySem.W.SharedT) : ob s = hook.obs s.abs := Hk.obsG_eq (HandSHeadRun.getT_eq s)
theorem run (w : World) : HandSHeadRun.RunEq R (PySem.W.view R.prog [19]) hook ob 2000 ["is_number", "is_name", "FIRST_SIGN", "LAST_SIGN", "LINE_END", "MOST_COUNT", "LENGTHS", "is_id", "is_sign", "is_ahead", "is_operation", "is_seen", "_law_draws", "_law_take", "_law_rows", "_law_wrong"] w :=
  PySem.W.byRow2 "special-get-raises" (P := fun w => HandSHeadRun.RunEq R (PySem.W.view R.prog [19]) hook ob 2000 ["is_number", "is_name", "FIRST_SIGN", "LAST_SIGN", "LINE_END", "MOST_COUNT", "LENGTHS", "is_id", "is_sign", "is_ahead", "is_operation", "is_seen", "_law_draws", "_law_take", "_law_rows", "_law_wrong"] w) (fun w os => by kernel_rfl) (fun w os => by kernel_rfl) w
end Law

set_option Elab.async false
set_option linter.all false
set_option maxRecDepth 100000
set_option maxHeartbeats 0
namespace Law
open PySem PySem.Spec PyProof.Rows L2 PD
abbrev Ph (k : Nat) : Nat → List D → Store → Out D := Phi (gam hk.gts) hk.dfs k
theorem phi_eq {k i : Nat} {d : Df} (h : dfs[i]? = some d) (ds : List D) (S : Store) : Ph (k + 1) i ds S = runF (gDn (gam hk.gts) hk.dfs k) d.fz d.body d.N.length ds S := by
  show (match dfs[i]? with | some d => runF ⟨(gam hk.gts).Γ, Phi (gam hk.gts) hk.dfs k, (gam hk.gts).Δ⟩ d.fz d.body d.N.length ds S | none => .bad) = _
  rw [h]
def numB (v : D) (lo hi : Int) : Bool := match v with
  | .int i => decide (lo ≤ i) && decide (i ≤ hi)
  | _ => false
def nameB (v : D) : Bool := match v with
  | .str s => decide (1 ≤ s.length) && decide (s.length ≤ 16) && s.all fun c => decide (97 ≤ c) && decide (c ≤ 122)
  | _ => false
def idB (v : D) : Bool := match v with
  | .tup [a, b] => numB a 1 1000000 && nameB b
  | _ => false
def signB (v : D) : Bool := match v with
  | .str [c] => decide (c = 10) || (decide (32 ≤ c) && decide (c ≤ 126))
  | _ => false
def fst (v : D) : Int := match v with
  | .tup (.int i :: _) => i
  | _ => 0
def aheadB (v own : D) : Bool := idB v && decide (fst v < fst own)
theorem is_number_ok (k : Nat) {v : D} (hv : v.plain = true) (lo hi : Int) (S : Store) : Ph (k + 1) 0 [v, .int lo, .int hi] S = .ok (.bl (numB v lo hi)) S := by
  rw [phi_eq (d := d_is_number) rfl]
  cases v with
  | int i =>
    by_cases h1 : lo ≤ i <;> simp [runF, d_is_number, d_is_number_b, startD, isinF, D.ty, isT, D.tru, D.seq, cmpF, dLt, dLe, dGt, dGe, dEq, dNe, dIs, dIsNot, D.isNon, dIdx, binF, dAdd, dSub, dMul, dMod, dDiv, bifF, dLen, dTuple, dList, dAbs, dInt, D.asI, D.asO, D.rd, D.plain, D.plains, D.depth, D.depths, D.eqv, D.eqvs, negF, numB, h1]
  | dic _ _ => simp [D.plain] at hv
  | st _ => simp [D.plain] at hv
  | obj _ => simp [D.plain] at hv
  | exn _ => simp [D.plain] at hv
  | _ => simp [runF, d_is_number, d_is_number_b, startD, isinF, D.ty, isT, D.tru, D.seq, cmpF, dLt, dLe, dGt, dGe, dEq, dNe, dIs, dIsNot, D.isNon, dIdx, binF, dAdd, dSub, dMul, dMod, dDiv, bifF, dLen, dTuple, dList, dAbs, dInt, D.asI, D.asO, D.rd, D.plain, D.plains, D.depth, D.depths, D.eqv, D.eqvs, negF, numB]
theorem is_name_ok (k : Nat) {v : D} (hv : v.plain = true) (S : Store) : Ph (k + 1) 1 [v] S = .ok (.bl (nameB v)) S := by
  rw [phi_eq (d := d_is_name) rfl]
  cases v with
  | str s =>
    have key : ∀ (G : Dn), allL false (turnB G (.chn .le .le (.cst (.str [97])) (.var 1) (.cst (.str [122]))) (.nm 1) .nil [some (.str s), none]) (s.map fun c => D.str [c]) S = .ok ((s.map fun c => D.str [c]).all fun d => match d with | .str [c] => decide (97 ≤ c) && decide (c ≤ 122) | _ => false) S := fun G => by
      rw [allL_pure (g := fun d => match d with | .str [c] => decide (97 ≤ c) && decide (c ≤ 122) | _ => false)]
      · simp
      · intro x hx
        obtain ⟨c, hc, rfl⟩ := List.mem_map.mp hx
        by_cases h1 : 97 ≤ c <;> simp [turnB, isinF, D.ty, isT, D.tru, D.seq, cmpF, dLt, dLe, dGt, dGe, dEq, dNe, dIs, dIsNot, D.isNon, dIdx, binF, dAdd, dSub, dMul, dMod, dDiv, bifF, dLen, dTuple, dList, dAbs, dInt, D.asI, D.asO, D.rd, D.plain, D.plains, D.depth, D.depths, D.eqv, D.eqvs, negF, le_one, h1]
    by_cases h1 : 1 ≤ s.length
    · by_cases h2 : s.length ≤ 16
      · have h1' : (1 : Int) ≤ s.length := by omega
        have h2' : (s.length : Int) ≤ 16 := by omega
        simp [runF, d_is_name, d_is_name_b, startD, ev_allG, isinF, D.ty, isT, D.tru, D.seq, cmpF, dLt, dLe, dGt, dGe, dEq, dNe, dIs, dIsNot, D.isNon, dIdx, binF, dAdd, dSub, dMul, dMod, dDiv, bifF, dLen, dTuple, dList, dAbs, dInt, D.asI, D.asO, D.rd, D.plain, D.plains, D.depth, D.depths, D.eqv, D.eqvs, negF, nameB, h1, h2, h1', h2', srcOf, D.iter, Src.items, key, List.all_map, Function.comp_def]
      · have h1' : (1 : Int) ≤ s.length := by omega
        have h2' : ¬ (s.length : Int) ≤ 16 := by omega
        simp [runF, d_is_name, d_is_name_b, startD, isinF, D.ty, isT, D.tru, D.seq, cmpF, dLt, dLe, dGt, dGe, dEq, dNe, dIs, dIsNot, D.isNon, dIdx, binF, dAdd, dSub, dMul, dMod, dDiv, bifF, dLen, dTuple, dList, dAbs, dInt, D.asI, D.asO, D.rd, D.plain, D.plains, D.depth, D.depths, D.eqv, D.eqvs, negF, nameB, h1, h2, h1', h2']
    · have h1' : ¬ (1 : Int) ≤ s.length := by omega
      simp [runF, d_is_name, d_is_name_b, startD, isinF, D.ty, isT, D.tru, D.seq, cmpF, dLt, dLe, dGt, dGe, dEq, dNe, dIs, dIsNot, D.isNon, dIdx, binF, dAdd, dSub, dMul, dMod, dDiv, bifF, dLen, dTuple, dList, dAbs, dInt, D.asI, D.asO, D.rd, D.plain, D.plains, D.depth, D.depths, D.eqv, D.eqvs, negF, nameB, h1, h1']
  | dic _ _ => simp [D.plain] at hv
  | st _ => simp [D.plain] at hv
  | obj _ => simp [D.plain] at hv
  | exn _ => simp [D.plain] at hv
  | _ => simp [runF, d_is_name, d_is_name_b, startD, isinF, D.ty, isT, D.tru, D.seq, cmpF, dLt, dLe, dGt, dGe, dEq, dNe, dIs, dIsNot, D.isNon, dIdx, binF, dAdd, dSub, dMul, dMod, dDiv, bifF, dLen, dTuple, dList, dAbs, dInt, D.asI, D.asO, D.rd, D.plain, D.plains, D.depth, D.depths, D.eqv, D.eqvs, negF, nameB]
theorem is_sign_ok (k : Nat) {v : D} (hv : v.plain = true) (S : Store) : Ph (k + 1) 3 [v] S = .ok (.bl (signB v)) S := by
  rw [phi_eq (d := d_is_sign) rfl]
  cases v with
  | str s =>
    match s with
    | [] => simp [runF, d_is_sign, d_is_sign_b, startD, isinF, D.ty, isT, D.tru, D.seq, cmpF, dLt, dLe, dGt, dGe, dEq, dNe, dIs, dIsNot, D.isNon, dIdx, binF, dAdd, dSub, dMul, dMod, dDiv, bifF, dLen, dTuple, dList, dAbs, dInt, D.asI, D.asO, D.rd, D.plain, D.plains, D.depth, D.depths, D.eqv, D.eqvs, negF, signB, gam, hk, gts, dicOf]
    | [c] =>
      by_cases h : c = 10
      · subst h
        simp [runF, d_is_sign, d_is_sign_b, startD, isinF, D.ty, isT, D.tru, D.seq, cmpF, dLt, dLe, dGt, dGe, dEq, dNe, dIs, dIsNot, D.isNon, dIdx, binF, dAdd, dSub, dMul, dMod, dDiv, bifF, dLen, dTuple, dList, dAbs, dInt, D.asI, D.asO, D.rd, D.plain, D.plains, D.depth, D.depths, D.eqv, D.eqvs, negF, signB, gam, hk, gts, dicOf]
      · by_cases h1 : c < 32
        · have h2 : ¬ 32 ≤ c := by omega
          simp [runF, d_is_sign, d_is_sign_b, startD, isinF, D.ty, isT, D.tru, D.seq, cmpF, dLt, dLe, dGt, dGe, dEq, dNe, dIs, dIsNot, D.isNon, dIdx, binF, dAdd, dSub, dMul, dMod, dDiv, bifF, dLen, dTuple, dList, dAbs, dInt, D.asI, D.asO, D.rd, D.plain, D.plains, D.depth, D.depths, D.eqv, D.eqvs, negF, signB, gam, hk, gts, dicOf, h, h1, h2, le_one]
        · have h2 : 32 ≤ c := by omega
          simp [runF, d_is_sign, d_is_sign_b, startD, isinF, D.ty, isT, D.tru, D.seq, cmpF, dLt, dLe, dGt, dGe, dEq, dNe, dIs, dIsNot, D.isNon, dIdx, binF, dAdd, dSub, dMul, dMod, dDiv, bifF, dLen, dTuple, dList, dAbs, dInt, D.asI, D.asO, D.rd, D.plain, D.plains, D.depth, D.depths, D.eqv, D.eqvs, negF, signB, gam, hk, gts, dicOf, h, h1, h2, le_one]
    | c :: c2 :: s =>
      have : ¬ ((s.length : Int) + 1 + 1 = 1) := by omega
      simp [runF, d_is_sign, d_is_sign_b, startD, isinF, D.ty, isT, D.tru, D.seq, cmpF, dLt, dLe, dGt, dGe, dEq, dNe, dIs, dIsNot, D.isNon, dIdx, binF, dAdd, dSub, dMul, dMod, dDiv, bifF, dLen, dTuple, dList, dAbs, dInt, D.asI, D.asO, D.rd, D.plain, D.plains, D.depth, D.depths, D.eqv, D.eqvs, negF, signB, gam, hk, gts, dicOf, this]
  | dic _ _ => simp [D.plain] at hv
  | st _ => simp [D.plain] at hv
  | obj _ => simp [D.plain] at hv
  | exn _ => simp [D.plain] at hv
  | _ => simp [runF, d_is_sign, d_is_sign_b, startD, isinF, D.ty, isT, D.tru, D.seq, cmpF, dLt, dLe, dGt, dGe, dEq, dNe, dIs, dIsNot, D.isNon, dIdx, binF, dAdd, dSub, dMul, dMod, dDiv, bifF, dLen, dTuple, dList, dAbs, dInt, D.asI, D.asO, D.rd, D.plain, D.plains, D.depth, D.depths, D.eqv, D.eqvs, negF, signB]
theorem plain_tup2 {a b : D} (h : (D.tup [a, b]).plain = true) : a.plain = true ∧ b.plain = true := by
  simpa [D.plain, D.plains] using h
theorem is_id_ok (k : Nat) {v : D} (hv : v.plain = true) (S : Store) : Ph (k + 2) 2 [v] S = .ok (.bl (idB v)) S := by
  rw [phi_eq (d := d_is_id) rfl]
  cases v with
  | tup ds =>
    match ds with
    | [] => simp [runF, d_is_id, d_is_id_b, startD, isinF, D.ty, isT, D.tru, D.seq, cmpF, dLt, dLe, dGt, dGe, dEq, dNe, dIs, dIsNot, D.isNon, dIdx, binF, dAdd, dSub, dMul, dMod, dDiv, bifF, dLen, dTuple, dList, dAbs, dInt, D.asI, D.asO, D.rd, D.plain, D.plains, D.depth, D.depths, D.eqv, D.eqvs, negF, idB]
    | [a] => simp [runF, d_is_id, d_is_id_b, startD, isinF, D.ty, isT, D.tru, D.seq, cmpF, dLt, dLe, dGt, dGe, dEq, dNe, dIs, dIsNot, D.isNon, dIdx, binF, dAdd, dSub, dMul, dMod, dDiv, bifF, dLen, dTuple, dList, dAbs, dInt, D.asI, D.asO, D.rd, D.plain, D.plains, D.depth, D.depths, D.eqv, D.eqvs, negF, idB]
    | [a, b] =>
      obtain ⟨ha, hb⟩ := plain_tup2 hv
      have e1 := is_number_ok k ha 1 1000000 S
      have e2 := is_name_ok k hb S
      have i0 : L2.atI [a, b] 0 = some a := rfl
      have i1 : L2.atI [a, b] 1 = some b := rfl
      have g0 : (gam hk.gts).Γ 0 = some (.int 1000000) := rfl
      cases hn : numB a 1 1000000 <;> simp [runF, d_is_id, d_is_id_b, startD, isinF, D.ty, isT, D.tru, D.seq, cmpF, dLt, dLe, dGt, dGe, dEq, dNe, dIs, dIsNot, D.isNon, dIdx, binF, dAdd, dSub, dMul, dMod, dDiv, bifF, dLen, dTuple, dList, dAbs, dInt, D.asI, D.asO, D.rd, D.plain, D.plains, D.depth, D.depths, D.eqv, D.eqvs, negF, idB, e1, e2, i0, i1, g0, hn]
    | a :: b :: c :: ds =>
      have : ¬ ((ds.length : Int) + 1 + 1 + 1 = 2) := by omega
      simp [runF, d_is_id, d_is_id_b, startD, isinF, D.ty, isT, D.tru, D.seq, cmpF, dLt, dLe, dGt, dGe, dEq, dNe, dIs, dIsNot, D.isNon, dIdx, binF, dAdd, dSub, dMul, dMod, dDiv, bifF, dLen, dTuple, dList, dAbs, dInt, D.asI, D.asO, D.rd, D.plain, D.plains, D.depth, D.depths, D.eqv, D.eqvs, negF, idB, this]
  | dic _ _ => simp [D.plain] at hv
  | st _ => simp [D.plain] at hv
  | obj _ => simp [D.plain] at hv
  | exn _ => simp [D.plain] at hv
  | _ => simp [runF, d_is_id, d_is_id_b, startD, isinF, D.ty, isT, D.tru, D.seq, cmpF, dLt, dLe, dGt, dGe, dEq, dNe, dIs, dIsNot, D.isNon, dIdx, binF, dAdd, dSub, dMul, dMod, dDiv, bifF, dLen, dTuple, dList, dAbs, dInt, D.asI, D.asO, D.rd, D.plain, D.plains, D.depth, D.depths, D.eqv, D.eqvs, negF, idB]
theorem idB_eq {v : D} (h : idB v = true) : ∃ n s, v = .tup [.int n, .str s] ∧ 1 ≤ n ∧ n ≤ 1000000 := by
  unfold idB at h
  split at h
  · rename_i a b
    rw [Bool.and_eq_true] at h
    unfold numB nameB at h
    split at h
    · split at h
      · rename_i i _ s
        simp only [Bool.and_eq_true, decide_eq_true_eq] at h
        exact ⟨i, s, rfl, h.1.1, h.1.2⟩
      · simp at h
    · simp at h
  · cases h
theorem is_ahead_ok (k : Nat) {v own : D} (hv : v.plain = true) (ho : idB own = true) (S : Store) : Ph (k + 3) 4 [v, own] S = .ok (.bl (aheadB v own)) S := by
  rw [phi_eq (d := d_is_ahead) rfl]
  obtain ⟨m, t, rfl, _, _⟩ := idB_eq ho
  have e1 := is_id_ok k hv S
  cases hi : idB v with
  | false => simp [runF, d_is_ahead, d_is_ahead_b, startD, isinF, D.ty, isT, D.tru, D.seq, cmpF, dLt, dLe, dGt, dGe, dEq, dNe, dIs, dIsNot, D.isNon, dIdx, binF, dAdd, dSub, dMul, dMod, dDiv, bifF, dLen, dTuple, dList, dAbs, dInt, D.asI, D.asO, D.rd, D.plain, D.plains, D.depth, D.depths, D.eqv, D.eqvs, negF, aheadB, e1, hi]
  | true =>
    obtain ⟨n, s, rfl, _, _⟩ := idB_eq hi
    have i0 : L2.atI [D.int n, D.str s] 0 = some (D.int n) := rfl
    have i1 : L2.atI [D.int m, D.str t] 0 = some (D.int m) := rfl
    simp [runF, d_is_ahead, d_is_ahead_b, startD, isinF, D.ty, isT, D.tru, D.seq, cmpF, dLt, dLe, dGt, dGe, dEq, dNe, dIs, dIsNot, D.isNon, dIdx, binF, dAdd, dSub, dMul, dMod, dDiv, bifF, dLen, dTuple, dList, dAbs, dInt, D.asI, D.asO, D.rd, D.plain, D.plains, D.depth, D.depths, D.eqv, D.eqvs, negF, aheadB, e1, hi, i0, i1, fst] <;> rfl
/-- is_operation -/
def opB (v : D) : Bool := match v with
  | .tup [.str [112, 117, 116], i, p, a, c] => idB i && numB p 0 (fst i - 1) && signB c && (a.isNon || aheadB a i)
  | .tup [.str [99, 117, 116], i, p, a] => idB i && numB p 0 (fst i - 1) && aheadB a i
  | .tup [.str [117, 110, 100, 111], i, p, a] => idB i && numB p 0 (fst i - 1) && aheadB a i
  | _ => false
theorem dl4 : (gam hk.gts).Δ 4 = some [([112, 117, 116], .int 5), ([99, 117, 116], .int 4), ([117, 110, 100, 111], .int 4)] := rfl
theorem atI_zero {x : D} {xs : List D} : L2.atI (x :: xs) 0 = some x := by
  unfold L2.atI ixN
  simp
theorem opB_word {s : List Nat} {r : List D} (h1 : s ≠ [112, 117, 116]) (h2 : s ≠ [99, 117, 116]) (h3 : s ≠ [117, 110, 100, 111]) : opB (.tup (.str s :: r)) = false := by
  unfold opB
  split <;> simp_all
theorem opB_kind {x : D} {r : List D} (h : ∀ s, x ≠ .str s) : opB (.tup (x :: r)) = false := by
  unfold opB
  split <;> simp_all
theorem plain_cons {d : D} {ds : List D} (h : (D.tup (d :: ds)).plain = true) : d.plain = true ∧ D.plains ds = true := by
  simpa [D.plain, D.plains] using h
theorem is_operation_ok (k : Nat) {v : D} (hv : v.plain = true) (S : Store) : Ph (k + 4) 5 [v] S = .ok (.bl (opB v)) S := by
  rw [phi_eq (d := d_is_operation) rfl]
  cases v with
  | tup ds =>
    match ds with
    | [] => simp [runF, d_is_operation, d_is_operation_b, startD, isinF, D.ty, isT, D.tru, D.seq, cmpF, dLt, dLe, dGt, dGe, dEq, dNe, dIs, dIsNot, D.isNon, dIdx, binF, dAdd, dSub, dMul, dMod, dDiv, bifF, dLen, dTuple, dList, dAbs, dInt, D.asI, D.asO, D.rd, D.plain, D.plains, D.depth, D.depths, D.eqv, D.eqvs, negF, opB]
    | x :: r =>
      have hx := (plain_cons hv).1
      have nz : ¬ ((r.length : Int) + 1 = 0) := by omega
      cases x with
      | str s =>
        by_cases h1 : s = [112, 117, 116]
        · subst h1
          match r with
          | [i, p, a, c] =>
            have hp := (plain_cons hv).2
            simp only [D.plains, Bool.and_eq_true] at hp
            obtain ⟨hi, hpp, ha, hc, _⟩ := hp
            have e1 := is_id_ok (k + 1) hi S
            have i1 : L2.atI [D.str [112, 117, 116], i, p, a, c] 1 = some i := rfl
            have i2 : L2.atI [D.str [112, 117, 116], i, p, a, c] 2 = some p := rfl
            have i3 : L2.atI [D.str [112, 117, 116], i, p, a, c] 3 = some a := rfl
            have i4 : L2.atI [D.str [112, 117, 116], i, p, a, c] 4 = some c := rfl
            cases hid : idB i with
            | false => simp [runF, d_is_operation, d_is_operation_b, startD, isinF, D.ty, isT, D.tru, D.seq, cmpF, dLt, dLe, dGt, dGe, dEq, dNe, dIs, dIsNot, D.isNon, dIdx, binF, dAdd, dSub, dMul, dMod, dDiv, bifF, dLen, dTuple, dList, dAbs, dInt, D.asI, D.asO, D.rd, D.plain, D.plains, D.depth, D.depths, D.eqv, D.eqvs, negF, opB, atI_zero, dl4, kinF, kidxF, e1, i1, hid]
            | true =>
              have e4 := is_ahead_ok k ha hid S
              obtain ⟨n, t, rfl, _, _⟩ := idB_eq hid
              have e2 := is_number_ok (k + 2) hpp 0 (n - 1) S
              have e3 := is_sign_ok (k + 2) hc S
              have i5 : L2.atI [D.int n, D.str t] 0 = some (D.int n) := rfl
              cases hn : numB p 0 (n - 1) with
              | false => simp [runF, d_is_operation, d_is_operation_b, startD, isinF, D.ty, isT, D.tru, D.seq, cmpF, dLt, dLe, dGt, dGe, dEq, dNe, dIs, dIsNot, D.isNon, dIdx, binF, dAdd, dSub, dMul, dMod, dDiv, bifF, dLen, dTuple, dList, dAbs, dInt, D.asI, D.asO, D.rd, D.plain, D.plains, D.depth, D.depths, D.eqv, D.eqvs, negF, opB, atI_zero, dl4, kinF, kidxF, e1, i1, i2, i5, hid, e2, hn, fst]
              | true =>
                cases hs : signB c with
                | false => simp [runF, d_is_operation, d_is_operation_b, startD, isinF, D.ty, isT, D.tru, D.seq, cmpF, dLt, dLe, dGt, dGe, dEq, dNe, dIs, dIsNot, D.isNon, dIdx, binF, dAdd, dSub, dMul, dMod, dDiv, bifF, dLen, dTuple, dList, dAbs, dInt, D.asI, D.asO, D.rd, D.plain, D.plains, D.depth, D.depths, D.eqv, D.eqvs, negF, opB, atI_zero, dl4, kinF, kidxF, e1, i1, i2, i4, i5, hid, e2, hn, fst, e3, hs]
                | true =>
                  cases hnn : a.isNon with
                  | true => cases a <;> first | (simp [D.isNon] at hnn; done) | (simp [runF, d_is_operation, d_is_operation_b, startD, isinF, D.ty, isT, D.tru, D.seq, cmpF, dLt, dLe, dGt, dGe, dEq, dNe, dIs, dIsNot, D.isNon, dIdx, binF, dAdd, dSub, dMul, dMod, dDiv, bifF, dLen, dTuple, dList, dAbs, dInt, D.asI, D.asO, D.rd, D.plain, D.plains, D.depth, D.depths, D.eqv, D.eqvs, negF, opB, atI_zero, dl4, kinF, kidxF, e1, i1, i2, i3, i4, i5, hid, e2, hn, fst, e3, hs])
                  | false => cases a <;> first | (simp [D.isNon] at hnn; done) | (simp [runF, d_is_operation, d_is_operation_b, startD, isinF, D.ty, isT, D.tru, D.seq, cmpF, dLt, dLe, dGt, dGe, dEq, dNe, dIs, dIsNot, D.isNon, dIdx, binF, dAdd, dSub, dMul, dMod, dDiv, bifF, dLen, dTuple, dList, dAbs, dInt, D.asI, D.asO, D.rd, D.plain, D.plains, D.depth, D.depths, D.eqv, D.eqvs, negF, opB, atI_zero, dl4, kinF, kidxF, e1, i1, i2, i3, i4, i5, hid, e2, hn, fst, e3, hs, e4])
          | [] => simp [runF, d_is_operation, d_is_operation_b, startD, isinF, D.ty, isT, D.tru, D.seq, cmpF, dLt, dLe, dGt, dGe, dEq, dNe, dIs, dIsNot, D.isNon, dIdx, binF, dAdd, dSub, dMul, dMod, dDiv, bifF, dLen, dTuple, dList, dAbs, dInt, D.asI, D.asO, D.rd, D.plain, D.plains, D.depth, D.depths, D.eqv, D.eqvs, negF, opB, atI_zero, dl4, kinF, kidxF]
          | [_] => simp [runF, d_is_operation, d_is_operation_b, startD, isinF, D.ty, isT, D.tru, D.seq, cmpF, dLt, dLe, dGt, dGe, dEq, dNe, dIs, dIsNot, D.isNon, dIdx, binF, dAdd, dSub, dMul, dMod, dDiv, bifF, dLen, dTuple, dList, dAbs, dInt, D.asI, D.asO, D.rd, D.plain, D.plains, D.depth, D.depths, D.eqv, D.eqvs, negF, opB, atI_zero, dl4, kinF, kidxF]
          | [_, _] => simp [runF, d_is_operation, d_is_operation_b, startD, isinF, D.ty, isT, D.tru, D.seq, cmpF, dLt, dLe, dGt, dGe, dEq, dNe, dIs, dIsNot, D.isNon, dIdx, binF, dAdd, dSub, dMul, dMod, dDiv, bifF, dLen, dTuple, dList, dAbs, dInt, D.asI, D.asO, D.rd, D.plain, D.plains, D.depth, D.depths, D.eqv, D.eqvs, negF, opB, atI_zero, dl4, kinF, kidxF]
          | [_, _, _] => simp [runF, d_is_operation, d_is_operation_b, startD, isinF, D.ty, isT, D.tru, D.seq, cmpF, dLt, dLe, dGt, dGe, dEq, dNe, dIs, dIsNot, D.isNon, dIdx, binF, dAdd, dSub, dMul, dMod, dDiv, bifF, dLen, dTuple, dList, dAbs, dInt, D.asI, D.asO, D.rd, D.plain, D.plains, D.depth, D.depths, D.eqv, D.eqvs, negF, opB, atI_zero, dl4, kinF, kidxF]
          | _ :: _ :: _ :: _ :: _ :: r =>
            have : ¬ ((r.length : Int) + 1 + 1 + 1 + 1 + 1 + 1 = 5) := by omega
            have nz2 : ¬ ((r.length : Int) + 1 + 1 + 1 + 1 + 1 + 1 = 0) := by omega
            simp [runF, d_is_operation, d_is_operation_b, startD, isinF, D.ty, isT, D.tru, D.seq, cmpF, dLt, dLe, dGt, dGe, dEq, dNe, dIs, dIsNot, D.isNon, dIdx, binF, dAdd, dSub, dMul, dMod, dDiv, bifF, dLen, dTuple, dList, dAbs, dInt, D.asI, D.asO, D.rd, D.plain, D.plains, D.depth, D.depths, D.eqv, D.eqvs, negF, opB, atI_zero, dl4, kinF, kidxF, this, nz2]
        · by_cases h2 : s = [99, 117, 116] ∨ s = [117, 110, 100, 111]
          · have key : ∀ i p a, opB (.tup [.str s, i, p, a]) = (idB i && numB p 0 (fst i - 1) && aheadB a i) := by
              intro i p a
              rcases h2 with rfl | rfl <;> rfl
            have key2 : (∀ i p a, r ≠ [i, p, a]) → opB (.tup (.str s :: r)) = false := by
              intro hr
              unfold opB
              split <;> simp_all
            have lk : ([([112, 117, 116], D.int 5), ([99, 117, 116], .int 4), ([117, 110, 100, 111], .int 4)] : List (List Nat × D)).lookup s = some (.int 4) := by
              rcases h2 with rfl | rfl <;> rfl
            match r with
            | [i, p, a] =>
              rw [key]
              have hp := (plain_cons hv).2
              simp only [D.plains, Bool.and_eq_true] at hp
              obtain ⟨hi, hpp, ha, _⟩ := hp
              have e1 := is_id_ok (k + 1) hi S
              have i1 : L2.atI [D.str s, i, p, a] 1 = some i := rfl
              have i2 : L2.atI [D.str s, i, p, a] 2 = some p := rfl
              have i3 : L2.atI [D.str s, i, p, a] 3 = some a := rfl
              cases hid : idB i with
              | false => simp [runF, d_is_operation, d_is_operation_b, startD, isinF, D.ty, isT, D.tru, D.seq, cmpF, dLt, dLe, dGt, dGe, dEq, dNe, dIs, dIsNot, D.isNon, dIdx, binF, dAdd, dSub, dMul, dMod, dDiv, bifF, dLen, dTuple, dList, dAbs, dInt, D.asI, D.asO, D.rd, D.plain, D.plains, D.depth, D.depths, D.eqv, D.eqvs, negF, atI_zero, dl4, kinF, kidxF, lk, e1, i1, hid]
              | true =>
                have e4 := is_ahead_ok k ha hid S
                obtain ⟨n, t, rfl, _, _⟩ := idB_eq hid
                have e2 := is_number_ok (k + 2) hpp 0 (n - 1) S
                have i5 : L2.atI [D.int n, D.str t] 0 = some (D.int n) := rfl
                cases hn : numB p 0 (n - 1) with
                | false => simp [runF, d_is_operation, d_is_operation_b, startD, isinF, D.ty, isT, D.tru, D.seq, cmpF, dLt, dLe, dGt, dGe, dEq, dNe, dIs, dIsNot, D.isNon, dIdx, binF, dAdd, dSub, dMul, dMod, dDiv, bifF, dLen, dTuple, dList, dAbs, dInt, D.asI, D.asO, D.rd, D.plain, D.plains, D.depth, D.depths, D.eqv, D.eqvs, negF, atI_zero, dl4, kinF, kidxF, lk, e1, i1, i2, i5, hid, e2, hn, fst]
                | true => simp [runF, d_is_operation, d_is_operation_b, startD, isinF, D.ty, isT, D.tru, D.seq, cmpF, dLt, dLe, dGt, dGe, dEq, dNe, dIs, dIsNot, D.isNon, dIdx, binF, dAdd, dSub, dMul, dMod, dDiv, bifF, dLen, dTuple, dList, dAbs, dInt, D.asI, D.asO, D.rd, D.plain, D.plains, D.depth, D.depths, D.eqv, D.eqvs, negF, atI_zero, dl4, kinF, kidxF, lk, e1, i1, i2, i3, i5, hid, e2, hn, fst, h1, e4]
            | [] => rw [key2 (by simp)]; simp [runF, d_is_operation, d_is_operation_b, startD, isinF, D.ty, isT, D.tru, D.seq, cmpF, dLt, dLe, dGt, dGe, dEq, dNe, dIs, dIsNot, D.isNon, dIdx, binF, dAdd, dSub, dMul, dMod, dDiv, bifF, dLen, dTuple, dList, dAbs, dInt, D.asI, D.asO, D.rd, D.plain, D.plains, D.depth, D.depths, D.eqv, D.eqvs, negF, atI_zero, dl4, kinF, kidxF, lk]
            | [_] => rw [key2 (by simp)]; simp [runF, d_is_operation, d_is_operation_b, startD, isinF, D.ty, isT, D.tru, D.seq, cmpF, dLt, dLe, dGt, dGe, dEq, dNe, dIs, dIsNot, D.isNon, dIdx, binF, dAdd, dSub, dMul, dMod, dDiv, bifF, dLen, dTuple, dList, dAbs, dInt, D.asI, D.asO, D.rd, D.plain, D.plains, D.depth, D.depths, D.eqv, D.eqvs, negF, atI_zero, dl4, kinF, kidxF, lk]
            | [_, _] => rw [key2 (by simp)]; simp [runF, d_is_operation, d_is_operation_b, startD, isinF, D.ty, isT, D.tru, D.seq, cmpF, dLt, dLe, dGt, dGe, dEq, dNe, dIs, dIsNot, D.isNon, dIdx, binF, dAdd, dSub, dMul, dMod, dDiv, bifF, dLen, dTuple, dList, dAbs, dInt, D.asI, D.asO, D.rd, D.plain, D.plains, D.depth, D.depths, D.eqv, D.eqvs, negF, atI_zero, dl4, kinF, kidxF, lk]
            | _ :: _ :: _ :: _ :: r =>
              rw [key2 (by simp)]
              have : ¬ ((r.length : Int) + 1 + 1 + 1 + 1 + 1 = 4) := by omega
              have nz2 : ¬ ((r.length : Int) + 1 + 1 + 1 + 1 + 1 = 0) := by omega
              simp [runF, d_is_operation, d_is_operation_b, startD, isinF, D.ty, isT, D.tru, D.seq, cmpF, dLt, dLe, dGt, dGe, dEq, dNe, dIs, dIsNot, D.isNon, dIdx, binF, dAdd, dSub, dMul, dMod, dDiv, bifF, dLen, dTuple, dList, dAbs, dInt, D.asI, D.asO, D.rd, D.plain, D.plains, D.depth, D.depths, D.eqv, D.eqvs, negF, atI_zero, dl4, kinF, kidxF, lk, this, nz2]
          · have h3 : s ≠ [99, 117, 116] := fun e => h2 (.inl e)
            have h4 : s ≠ [117, 110, 100, 111] := fun e => h2 (.inr e)
            rw [opB_word h1 h3 h4]
            have lk : ([([112, 117, 116], D.int 5), ([99, 117, 116], .int 4), ([117, 110, 100, 111], .int 4)] : List (List Nat × D)).lookup s = none := by
              have b1 : (s == [112, 117, 116]) = false := by simpa using h1
              have b2 : (s == [99, 117, 116]) = false := by simpa using h3
              have b3 : (s == [117, 110, 100, 111]) = false := by simpa using h4
              rw [List.lookup_cons, b1, List.lookup_cons, b2, List.lookup_cons, b3]
              rfl
            simp [runF, d_is_operation, d_is_operation_b, startD, isinF, D.ty, isT, D.tru, D.seq, cmpF, dLt, dLe, dGt, dGe, dEq, dNe, dIs, dIsNot, D.isNon, dIdx, binF, dAdd, dSub, dMul, dMod, dDiv, bifF, dLen, dTuple, dList, dAbs, dInt, D.asI, D.asO, D.rd, D.plain, D.plains, D.depth, D.depths, D.eqv, D.eqvs, negF, atI_zero, dl4, kinF, kidxF, lk, nz]
      | dic _ _ => simp [D.plain] at hx
      | st _ => simp [D.plain] at hx
      | obj _ => simp [D.plain] at hx
      | exn _ => simp [D.plain] at hx
      | _ =>
        rw [opB_kind (by intro s h; cases h)]
        simp [runF, d_is_operation, d_is_operation_b, startD, isinF, D.ty, isT, D.tru, D.seq, cmpF, dLt, dLe, dGt, dGe, dEq, dNe, dIs, dIsNot, D.isNon, dIdx, binF, dAdd, dSub, dMul, dMod, dDiv, bifF, dLen, dTuple, dList, dAbs, dInt, D.asI, D.asO, D.rd, D.plain, D.plains, D.depth, D.depths, D.eqv, D.eqvs, negF, atI_zero, nz]
  | dic _ _ => simp [D.plain] at hv
  | st _ => simp [D.plain] at hv
  | obj _ => simp [D.plain] at hv
  | exn _ => simp [D.plain] at hv
  | _ => simp [runF, d_is_operation, d_is_operation_b, startD, isinF, D.ty, isT, D.tru, D.seq, cmpF, dLt, dLe, dGt, dGe, dEq, dNe, dIs, dIsNot, D.isNon, dIdx, binF, dAdd, dSub, dMul, dMod, dDiv, bifF, dLen, dTuple, dList, dAbs, dInt, D.asI, D.asO, D.rd, D.plain, D.plains, D.depth, D.depths, D.eqv, D.eqvs, negF, opB]
end Law

set_option Elab.async false
set_option linter.all false
set_option maxRecDepth 100000
set_option maxHeartbeats 0
namespace Law
open PySem PySem.Spec PyProof.Rows L2 PD
theorem atI_nat {ds : List D} {i : Nat} (h : i < ds.length) : L2.atI ds (i : Int) = ds[i]? := by
  unfold L2.atI ixN
  have h1 : (0 : Int) ≤ (i : Int) := by omega
  have h2 : ((i : Int) < (ds.length : Int)) := by omega
  have h3 : ¬ ((i : Int) < 0) := by omega
  simp [h1, h2, h3]
def rowB (r : D) : Bool := match r with
  | .tup [a, b] => nameB a && numB b 1 1000000
  | _ => false
def keyD (r : D) : List Nat := match r with
  | .tup (.str s :: _) => s
  | _ => []
def upB (ds : List D) : Bool := (List.range (ds.length - 1)).all fun i => decide (keyD (ds.getD i .non) < keyD (ds.getD (i + 1) .non))
def upF (ds : List D) (d : D) : Bool := match d with
  | .int i => decide (keyD (ds.getD (i - 1).toNat .non) < keyD (ds.getD i.toNat .non))
  | _ => false
def seenB (v : D) : Bool := match v with
  | .tup ds => ds.all rowB && upB ds
  | _ => false
theorem rowB_eq {v : D} (h : rowB v = true) : ∃ s n, v = .tup [.str s, .int n] := by
  unfold rowB at h
  split at h
  · rename_i a b
    rw [Bool.and_eq_true] at h
    unfold numB nameB at h
    split at h
    · split at h
      · exact ⟨_, _, rfl⟩
      · simp at h
    · simp at h
  · cases h
def seenTurn (k : Nat) := turnS (gDn (gam hk.gts) hk.dfs k) (.nm 1) (.cons (.iff (.or (.not (.isin (.var 1) "tuple")) (.or (.cmp .ne (.bif .len (.cons (.var 1) .nil)) (.cst (.int 2))) (.or (.not (.call 1 (.cons (.idx (.var 1) (.cst (.int 0))) .nil))) (.one (.not (.call 0 (.cons (.idx (.var 1) (.cst (.int 1))) (.cons (.cst (.int 1)) (.cons (.glb 0) .nil))))))))) (.cons (.ret (.cst (.bl false))) .nil) .nil) .nil)
theorem seen_turn (k : Nat) {v : D} (hv : v.plain = true) (x : D) (r c : Option D) (S : Store) : seenTurn (k + 1) v [some x, r, c] S = .ok (if rowB v then .nx [some x, some v, c] else .rt (.bl false)) S := by
  have g0 : (gam hk.gts).Γ 0 = some (.int 1000000) := rfl
  cases v with
  | tup ds =>
    match ds with
    | [] => simp [seenTurn, turnS, isinF, D.ty, isT, D.tru, D.seq, cmpF, dLt, dLe, dGt, dGe, dEq, dNe, dIs, dIsNot, D.isNon, dIdx, binF, dAdd, dSub, dMul, dMod, dDiv, bifF, dLen, dTuple, dList, dAbs, dInt, D.asI, D.asO, D.rd, D.plain, D.plains, D.depth, D.depths, D.eqv, D.eqvs, negF, rowB]
    | [a] => simp [seenTurn, turnS, isinF, D.ty, isT, D.tru, D.seq, cmpF, dLt, dLe, dGt, dGe, dEq, dNe, dIs, dIsNot, D.isNon, dIdx, binF, dAdd, dSub, dMul, dMod, dDiv, bifF, dLen, dTuple, dList, dAbs, dInt, D.asI, D.asO, D.rd, D.plain, D.plains, D.depth, D.depths, D.eqv, D.eqvs, negF, rowB]
    | [a, b] =>
      obtain ⟨ha, hb⟩ := plain_tup2 hv
      have e1 := is_number_ok k hb 1 1000000 S
      have e2 := is_name_ok k ha S
      have i0 : L2.atI [a, b] 0 = some a := rfl
      have i1 : L2.atI [a, b] 1 = some b := rfl
      cases hn : nameB a <;> cases hm : numB b 1 1000000 <;> simp [seenTurn, turnS, isinF, D.ty, isT, D.tru, D.seq, cmpF, dLt, dLe, dGt, dGe, dEq, dNe, dIs, dIsNot, D.isNon, dIdx, binF, dAdd, dSub, dMul, dMod, dDiv, bifF, dLen, dTuple, dList, dAbs, dInt, D.asI, D.asO, D.rd, D.plain, D.plains, D.depth, D.depths, D.eqv, D.eqvs, negF, rowB, e1, e2, i0, i1, g0, hn, hm]
    | a :: b :: c :: ds =>
      have : ¬ ((ds.length : Int) + 1 + 1 + 1 = 2) := by omega
      simp [seenTurn, turnS, isinF, D.ty, isT, D.tru, D.seq, cmpF, dLt, dLe, dGt, dGe, dEq, dNe, dIs, dIsNot, D.isNon, dIdx, binF, dAdd, dSub, dMul, dMod, dDiv, bifF, dLen, dTuple, dList, dAbs, dInt, D.asI, D.asO, D.rd, D.plain, D.plains, D.depth, D.depths, D.eqv, D.eqvs, negF, rowB, this]
  | dic _ _ => simp [D.plain] at hv
  | st _ => simp [D.plain] at hv
  | obj _ => simp [D.plain] at hv
  | exn _ => simp [D.plain] at hv
  | _ => simp [seenTurn, turnS, isinF, D.ty, isT, D.tru, D.seq, cmpF, dLt, dLe, dGt, dGe, dEq, dNe, dIs, dIsNot, D.isNon, dIdx, binF, dAdd, dSub, dMul, dMod, dDiv, bifF, dLen, dTuple, dList, dAbs, dInt, D.asI, D.asO, D.rd, D.plain, D.plains, D.depth, D.depths, D.eqv, D.eqvs, negF, rowB]
theorem seen_loop (k : Nat) (x : D) (c : Option D) (S : Store) : ∀ (ds : List D) (r : Option D), D.plains ds = true → ∃ r', forL (seenTurn (k + 1)) ds [some x, r, c] S = .ok (if ds.all rowB then .nx [some x, r', c] else .rt (.bl false)) S
  | [], r, _ => ⟨r, rfl⟩
  | d :: ds, r, h => by
    simp only [D.plains, Bool.and_eq_true] at h
    obtain ⟨r', e⟩ := seen_loop k x c S ds (some d) h.2
    refine ⟨r', ?_⟩
    unfold forL
    rw [seen_turn k h.1]
    cases hd : rowB d with
    | false => simp [hd]
    | true => simp [hd, e]
theorem rngOk_len {n : Nat} (h : n ≤ 1000) : rngOk 1 (n : Int) = true := by
  unfold rngOk
  rw [decide_eq_true_eq]
  omega
theorem up_eq (ds : List D) : ((rngL 1 (ds.length : Int)).all (upF ds)) = upB ds := by
  unfold rngL upB
  rw [List.all_map]
  have : ((ds.length : Int) - 1).toNat = ds.length - 1 := by omega
  rw [this]
  congr 1
  funext j
  have t1 : ((1 : Int) + (j : Int) - 1).toNat = j := by omega
  have t2 : ((1 : Int) + (j : Int)).toNat = j + 1 := by omega
  simp only [Function.comp_def, upF, t1, t2]
theorem seen_key (k : Nat) (ds : List D) (r' : Option D) (S : Store) (hrow : ∀ (i : Nat), i < ds.length → ∃ s n, ds[i]? = some (.tup [.str s, .int n])) : allL false (turnB (gDn (gam hk.gts) hk.dfs (k + 1)) (.cmp .lt (.idx (.idx (.var 0) (.bin .sub (.var 2) (.cst (.int 1)))) (.cst (.int 0))) (.idx (.idx (.var 0) (.var 2)) (.cst (.int 0)))) (.nm 2) .nil [some (.tup ds), r', none]) (rngL 1 (ds.length : Int)) S = .ok ((rngL 1 (ds.length : Int)).all (upF ds)) S := by
  rw [allL_pure (g := upF ds)]
  · simp
  · intro x hx
    unfold rngL at hx
    obtain ⟨j, hj, rfl⟩ := List.mem_map.mp hx
    have hj' : j + 1 < ds.length := by
      have := List.mem_range.mp hj
      omega
    obtain ⟨s1, n1, e1⟩ := hrow j (by omega)
    obtain ⟨s2, n2, e2⟩ := hrow (j + 1) hj'
    have a1 : L2.atI ds ((1 : Int) + (j : Int) - 1) = some (.tup [.str s1, .int n1]) := by
      have : (1 : Int) + (j : Int) - 1 = (j : Int) := by omega
      rw [this, atI_nat (by omega), e1]
    have a2 : L2.atI ds ((1 : Int) + (j : Int)) = some (.tup [.str s2, .int n2]) := by
      have : (1 : Int) + (j : Int) = ((j + 1 : Nat) : Int) := by omega
      rw [this, atI_nat hj', e2]
    have t1 : ((1 : Int) + (j : Int) - 1).toNat = j := by omega
    have t2 : ((1 : Int) + (j : Int)).toNat = j + 1 := by omega
    have q1 : ds.getD j .non = .tup [.str s1, .int n1] := by simp [List.getD, e1]
    have q2 : ds.getD (j + 1) .non = .tup [.str s2, .int n2] := by simp [List.getD, e2]
    have i0 : ∀ s n, L2.atI [D.str s, D.int n] 0 = some (D.str s) := fun _ _ => rfl
    simp only [turnB, slots_nm, wipeD_cons, wipeD_nil, tset_nm, liftO_some, Out.bind_ok, tsts_nil, if_true, ev_cmp, ev_idx, ev_var, ev_bin, ev_cst, List.set, getD_zero, getD_succ, lift_some, binF, dSub, dIdx, D.seq, a1, a2, i0, cmpF, dLt, upF, t1, t2, q1, q2, keyD]
theorem seen_for (k : Nat) (ds : List D) (r' : Option D) (S : Store) (e : forL (seenTurn (k + 1)) ds [some (.tup ds), none, none] S = .ok (if ds.all rowB then .nx [some (.tup ds), r', none] else .rt (.bl false)) S) : evS (gDn (gam hk.gts) hk.dfs (k + 1)) (.forr (.nm 1) (.seq (.var 0)) (.cons (.iff (.or (.not (.isin (.var 1) "tuple")) (.or (.cmp .ne (.bif .len (.cons (.var 1) .nil)) (.cst (.int 2))) (.or (.not (.call 1 (.cons (.idx (.var 1) (.cst (.int 0))) .nil))) (.one (.not (.call 0 (.cons (.idx (.var 1) (.cst (.int 1))) (.cons (.cst (.int 1)) (.cons (.glb 0) .nil))))))))) (.cons (.ret (.cst (.bl false))) .nil) .nil) .nil)) [some (.tup ds), none, none] S = .ok (if ds.all rowB then .nx [some (.tup ds), r', none] else .rt (.bl false)) S := by
  rw [evS_forr]
  simp only [evI_seq, ev_var, getD_zero, lift_some, Out.bind_ok, srcOf, D.iter, D.seq, Option.map_some, liftO_some, exS_ok]
  exact e
def seenS1 : PD.St := (.iff (.not (.isin (.var 0) "tuple")) (.cons (.ret (.cst (.bl false))) .nil) .nil)
def seenS2 : PD.St := (.forr (.nm 1) (.seq (.var 0)) (.cons (.iff (.or (.not (.isin (.var 1) "tuple")) (.or (.cmp .ne (.bif .len (.cons (.var 1) .nil)) (.cst (.int 2))) (.or (.not (.call 1 (.cons (.idx (.var 1) (.cst (.int 0))) .nil))) (.one (.not (.call 0 (.cons (.idx (.var 1) (.cst (.int 1))) (.cons (.cst (.int 1)) (.cons (.glb 0) .nil))))))))) (.cons (.ret (.cst (.bl false))) .nil) .nil) .nil))
def seenS3 : PD.St := (.ret (.allG false (.cmp .lt (.idx (.idx (.var 0) (.bin .sub (.var 2) (.cst (.int 1)))) (.cst (.int 0))) (.idx (.idx (.var 0) (.var 2)) (.cst (.int 0)))) (.nm 2) (.rng2 (.cst (.int 1)) (.bif .len (.cons (.var 0) .nil))) .nil))
theorem seen_body : d_is_seen_b = .cons seenS1 (.cons seenS2 (.cons seenS3 .nil)) := rfl
theorem seen_s1 (G : Dn) (v : D) (hv : v.plain = true) (S : Store) : evS G seenS1 [some v, none, none] S = .ok (match v with | .tup _ => .nx [some v, none, none] | _ => .rt (.bl false)) S := by
  unfold seenS1
  cases v with
  | dic _ _ => simp [D.plain] at hv
  | st _ => simp [D.plain] at hv
  | obj _ => simp [D.plain] at hv
  | exn _ => simp [D.plain] at hv
  | _ => simp [isinF, D.ty, isT, D.tru, D.seq, cmpF, dLt, dLe, dGt, dGe, dEq, dNe, dIs, dIsNot, D.isNon, dIdx, binF, dAdd, dSub, dMul, dMod, dDiv, bifF, dLen, dTuple, dList, dAbs, dInt, D.asI, D.asO, D.rd, D.plain, D.plains, D.depth, D.depths, D.eqv, D.eqvs, negF]
theorem seen_s2 (k : Nat) (ds : List D) (S : Store) (hv : (D.tup ds).plain = true) : ∃ r', evS (gDn (gam hk.gts) hk.dfs (k + 1)) seenS2 [some (.tup ds), none, none] S = .ok (if ds.all rowB then .nx [some (.tup ds), r', none] else .rt (.bl false)) S := by
  obtain ⟨r', e⟩ := seen_loop k (.tup ds) none S ds none (by simpa [D.plain] using hv)
  exact ⟨r', seen_for k ds r' S e⟩
theorem rngS_ok {a b : Int} (h : rngOk a b = true) : rngS (.int a) (.int b) = some (.st (rngL a b)) := by
  unfold rngS
  simp only [h, if_true]
theorem seen_it (G : Dn) (ds : List D) (r' : Option D) (S : Store) (rk : rngOk 1 (ds.length : Int) = true) : evI G (.rng2 (.cst (.int 1)) (.bif .len (.cons (.var 0) .nil))) [some (.tup ds), r', none] S = .ok (.st (rngL 1 ds.length)) S := by
  have e : bifF .len [.tup ds] S = some (.int ds.length) := rfl
  rw [evI_rng2, ev_cst, Out.bind_ok, ev_bif, evs_cons, ev_var, getD_zero, lift_some, Out.bind_ok, evs_nil, Out.bind_ok, Out.bind_ok, e, lift_some, Out.bind_ok, rngS_ok rk, liftO_some]
theorem seen_s3' (G : Dn) (ds : List D) (r' : Option D) (S : Store) (e : evI G (.rng2 (.cst (.int 1)) (.bif .len (.cons (.var 0) .nil))) [some (.tup ds), r', none] S = .ok (.st (rngL 1 ds.length)) S) (b : Bool) (key : allL false (turnB G (.cmp .lt (.idx (.idx (.var 0) (.bin .sub (.var 2) (.cst (.int 1)))) (.cst (.int 0))) (.idx (.idx (.var 0) (.var 2)) (.cst (.int 0)))) (.nm 2) .nil [some (.tup ds), r', none]) (rngL 1 (ds.length : Int)) S = .ok b S) : evS G seenS3 [some (.tup ds), r', none] S = .ok (.rt (.bl b)) S := by
  unfold seenS3
  rw [evS_ret, ev_allG, e]
  simp only [Out.bind_ok, Src.items, liftO_some, key, nox_ok, exS_ok]
theorem seen_s3 (k : Nat) (ds : List D) (r' : Option D) (S : Store) (hl : ds.length ≤ 1000) (hrow : ∀ (i : Nat), i < ds.length → ∃ s n, ds[i]? = some (.tup [.str s, .int n])) : evS (gDn (gam hk.gts) hk.dfs (k + 1)) seenS3 [some (.tup ds), r', none] S = .ok (.rt (.bl (upB ds))) S :=
  seen_s3' _ ds r' S (seen_it _ ds r' S (rngOk_len hl)) _ ((seen_key k ds r' S hrow).trans (by rw [up_eq]))
theorem seen_tup (G : Dn) (ds : List D) (S : Store) (hv : (D.tup ds).plain = true) : evS G seenS1 [some (.tup ds), none, none] S = .ok (.nx [some (.tup ds), none, none]) S := seen_s1 G (.tup ds) hv S
theorem seen_all (k : Nat) (ds : List D) (S : Store) (hv : (D.tup ds).plain = true) (hl : ds.length ≤ 1000) : evSs (gDn (gam hk.gts) hk.dfs (k + 1)) d_is_seen_b [some (.tup ds), none, none] S = .ok (.rt (.bl (ds.all rowB && upB ds))) S := by
  obtain ⟨r', e2⟩ := seen_s2 k ds S hv
  rw [seen_body, evSs_cons, seen_tup _ ds S hv, thenF_nx, evSs_cons, e2]
  cases hr : ds.all rowB with
  | false => rw [if_neg Bool.false_ne_true, thenF_rt, Bool.false_and]
  | true =>
    have hrow : ∀ (i : Nat), i < ds.length → ∃ s n, ds[i]? = some (.tup [.str s, .int n]) := fun i hi => by
      obtain ⟨s, n, e⟩ := rowB_eq (List.all_eq_true.mp hr ds[i] (List.getElem_mem hi))
      exact ⟨s, n, by rw [List.getElem?_eq_getElem hi, e]⟩
    rw [if_pos rfl, thenF_nx, evSs_cons, seen_s3 k ds r' S hl hrow, thenF_rt, Bool.true_and]
theorem seen_oth (k : Nat) (v : D) (S : Store) (hv : v.plain = true) (hn : ∀ ds, v ≠ .tup ds) : evSs (gDn (gam hk.gts) hk.dfs (k + 1)) d_is_seen_b [some v, none, none] S = .ok (.rt (.bl (seenB v))) S := by
  rw [seen_body, evSs_cons, seen_s1 _ v hv S]
  cases v with
  | tup ds => exact absurd rfl (hn ds)
  | _ => rfl
theorem is_seen_ok (k : Nat) {v : D} (hv : v.plain = true) (hz : ∀ ds, v = .tup ds → ds.length ≤ 1000) (S : Store) : Ph (k + 2) 6 [v] S = .ok (.bl (seenB v)) S := by
  have key : evSs (gDn (gam hk.gts) hk.dfs (k + 1)) d_is_seen_b [some v, none, none] S = .ok (.rt (.bl (seenB v))) S := by
    by_cases h : ∃ ds, v = .tup ds
    · obtain ⟨ds, rfl⟩ := h
      exact seen_all k ds S hv (hz ds rfl)
    · exact seen_oth k v S hv fun ds e => h ⟨ds, e⟩
  rw [phi_eq (d := d_is_seen) rfl]
  exact (run_rt (S' := S) key).trans (by rw [PD.fin_bl, List.take_length])
end Law

set_option Elab.async false
set_option linter.all false
set_option maxRecDepth 100000
set_option maxHeartbeats 0
namespace Law
open PySem PySem.Spec PyProof.Rows L2 PD
abbrev Sx (xs : List Int) : Store := [.lst (xs.map .int)]
theorem app_ok {xs : List Int} {v : Int} (h : xs.length ≤ 100000) : appF 0 (.int v) (Sx xs) = .ok .non (Sx (xs ++ [v])) := by
  have : xs.length < sizeLine := by rw [sizeLine_lit]; omega
  simp [appF, D.pure, this]
abbrev G7 (k : Nat) : Dn := gDn (gam hk.gts) hk.dfs k
def drInB : Sts := (.cons (.iff (.cmp .gt (.var 3) (.cst (.int 0))) (.cons (.exp (.app (.var 1) (.bin .mod (.bif .int (.cons (.var 3) .nil)) (.cst (.int 997))))) (.cons (.set 3 (.bin .div (.var 3) (.cst (.int 997)))) .nil)) .nil) .nil)
theorem dr_in (G : Dn) (xs : List Int) (h : xs.length ≤ 100000) (s : D) (c f sd k0 : Option D) (x : D) (n : Int) : ∃ ys n' k', turnS G (.nm 4) drInB x [some s, some (.obj 0), c, some (.int n), k0, f, sd] (Sx xs) = .ok (.nx [some s, some (.obj 0), c, some (.int n'), k', f, sd]) (Sx ys) ∧ ys.length ≤ xs.length + 1 := by
  by_cases hn : 0 < n
  · have e := app_ok (v := n % 997) h
    refine ⟨xs ++ [n % 997], n / 997, some x, ?_, by simp⟩
    simp [turnS, drInB, isinF, D.ty, isT, D.tru, D.seq, cmpF, dLt, dLe, dGt, dGe, dEq, dNe, dIs, dIsNot, D.isNon, dIdx, binF, dAdd, dSub, dMul, dMod, dDiv, bifF, dLen, dTuple, dList, dAbs, dInt, D.asI, D.asO, D.rd, D.plain, D.plains, D.depth, D.depths, D.eqv, D.eqvs, negF, hn, e]
  · exact ⟨xs, n, some x, by simp [turnS, drInB, isinF, D.ty, isT, D.tru, D.seq, cmpF, dLt, dLe, dGt, dGe, dEq, dNe, dIs, dIsNot, D.isNon, dIdx, binF, dAdd, dSub, dMul, dMod, dDiv, bifF, dLen, dTuple, dList, dAbs, dInt, D.asI, D.asO, D.rd, D.plain, D.plains, D.depth, D.depths, D.eqv, D.eqvs, negF, hn], by omega⟩
def drOutB : Sts := (.cons (.set 6 (.bin .mod (.bif .int (.cons (.bin .add (.bin .mul (.var 6) (.cst (.int 48271))) (.cst (.int 69621))) .nil)) (.cst (.int 2147483647)))) (.cons (.exp (.app (.var 1) (.bin .div (.var 6) (.cst (.int 5))))) .nil))
theorem dr_out (G : Dn) (xs : List Int) (h : xs.length ≤ 100000) (s : D) (c nb f k0 : Option D) (x : D) (n : Int) : ∃ ys n' k', turnS G (.nm 4) drOutB x [some s, some (.obj 0), c, nb, k0, f, some (.int n)] (Sx xs) = .ok (.nx [some s, some (.obj 0), c, nb, k', f, some (.int n')]) (Sx ys) ∧ ys.length ≤ xs.length + 1 := by
  have hm : mulOk n 48271 = true := by simp [mulOk]
  have e := app_ok (v := ((n * 48271 + 69621) % 2147483647) / 5) h
  refine ⟨xs ++ [((n * 48271 + 69621) % 2147483647) / 5], (n * 48271 + 69621) % 2147483647, some x, ?_, by simp⟩
  simp [turnS, drOutB, isinF, D.ty, isT, D.tru, D.seq, cmpF, dLt, dLe, dGt, dGe, dEq, dNe, dIs, dIsNot, D.isNon, dIdx, binF, dAdd, dSub, dMul, dMod, dDiv, bifF, dLen, dTuple, dList, dAbs, dInt, D.asI, D.asO, D.rd, D.plain, D.plains, D.depth, D.depths, D.eqv, D.eqvs, negF, hm, e]
def drOneB : PD.St := (.iff (.cmp .lt (.var 3) (.bin .pow (.cst (.int 10)) (.cst (.int 18)))) (.cons (.set 5 (.bin .mod (.bif .int (.cons (.bin .add (.bin .mul (.var 3) (.cst (.int 48271))) (.cst (.int 11))) .nil)) (.cst (.int 2147483647)))) (.cons (.exp (.app (.var 1) (.bin .mod (.bif .int (.cons (.bin .add (.bin .mul (.var 5) (.cst (.int 69621))) (.var 3)) .nil)) (.cst (.int 2147483629))))) (.cons (.exp (.app (.var 1) (.bin .mod (.bif .int (.cons (.bin .add (.var 5) (.bin .div (.var 3) (.cst (.int 7)))) .nil)) (.cst (.int 1000003))))) (.cons (.set 3 (.cst (.int 0))) .nil)))) .nil)
theorem pow18 (S : Store) : dPow (.int 10) (.int 18) S = some (.int 1000000000000000000) := rfl
theorem dr_one (G : Dn) (xs : List Int) (h : xs.length ≤ 90000) (s : D) (c k0 f sd : Option D) (n : Int) : ∃ ys n' f', evS G drOneB [some s, some (.obj 0), c, some (.int n), k0, f, sd] (Sx xs) = .ok (.nx [some s, some (.obj 0), c, some (.int n'), k0, f', sd]) (Sx ys) ∧ ys.length ≤ xs.length + 2 := by
  by_cases hn : n < 1000000000000000000
  · have hm : mulOk n 48271 = true := by simp [mulOk]
    have hm2 : mulOk ((n * 48271 + 11) % 2147483647) 69621 = true := by simp [mulOk]
    have e1 := app_ok (xs := xs) (v := ((n * 48271 + 11) % 2147483647 * 69621 + n) % 2147483629) (by omega)
    have e2 := app_ok (xs := xs ++ [((n * 48271 + 11) % 2147483647 * 69621 + n) % 2147483629]) (v := ((n * 48271 + 11) % 2147483647 + n / 7) % 1000003) (by simp; omega)
    refine ⟨xs ++ [((n * 48271 + 11) % 2147483647 * 69621 + n) % 2147483629] ++ [((n * 48271 + 11) % 2147483647 + n / 7) % 1000003], 0, some (.int ((n * 48271 + 11) % 2147483647)), ?_, by simp⟩
    have e2' := e2
    simp only [Sx] at e1 e2'
    simp [drOneB, isinF, D.ty, cmpF, dLt, binF, dAdd, dMul, dMod, dDiv, bifF, dInt, D.asO, pow18, hn, hm, hm2, e1] at e2' ⊢
    simp [e2']
  · exact ⟨xs, n, f, by simp [drOneB, cmpF, dLt, binF, pow18, hn], by omega⟩
theorem rng60 : rngS (.int 0) (.int 60) = some (.st (rngL 0 60)) := rngS_ok (by decide +kernel)
theorem rng900 : rngS (.int 0) (.int 900) = some (.st (rngL 0 900)) := rngS_ok (by decide +kernel)
theorem len60 : (rngL 0 60).length = 60 := by simp [rngL]
theorem len900 : (rngL 0 900).length = 900 := by simp [rngL]
theorem dr_60 (G : Dn) (xs : List Int) (h : xs.length ≤ 90000) (s : D) (c k0 f sd : Option D) (n : Int) : ∃ ys n' k', evS G (.forr (.nm 4) (.rng1 (.cst (.int 60))) drInB) [some s, some (.obj 0), c, some (.int n), k0, f, sd] (Sx xs) = .ok (.nx [some s, some (.obj 0), c, some (.int n'), k', f, sd]) (Sx ys) ∧ ys.length ≤ xs.length + 60 := by
  rw [evS_forr, evI_rng1, ev_cst, Out.bind_ok, rng60, liftO_some, exS_ok]
  obtain ⟨δ', S', e, n', k', ys, rfl, rfl, hl⟩ := forL_inv (body := turnS G (.nm 4) drInB) (xs := rngL 0 60) (P := fun i δ S => ∃ n' k' ys, δ = [some s, some (.obj 0), c, some (.int n'), k', f, sd] ∧ S = Sx ys ∧ ys.length ≤ xs.length + i) (δ := [some s, some (.obj 0), c, some (.int n), k0, f, sd]) (S := Sx xs) ⟨n, k0, xs, rfl, rfl, by omega⟩ fun i x δ S hx ⟨n', k', ys, e1, e2, hl⟩ => by
    subst e1; subst e2
    have hi : i < 60 := by
      have := (List.getElem?_eq_some_iff.mp hx).1
      rwa [len60] at this
    obtain ⟨zs, n2, k2, e, hz⟩ := dr_in G ys (by omega) s c f sd k' x n'
    exact ⟨_, _, .inl e, n2, k2, zs, rfl, rfl, by omega⟩
  exact ⟨ys, n', k', e, by rw [len60] at hl; omega⟩
theorem dr_900 (G : Dn) (xs : List Int) (h : xs.length ≤ 90000) (s : D) (c nb f k0 : Option D) (n : Int) : ∃ ys n' k', evS G (.forr (.nm 4) (.rng1 (.cst (.int 900))) drOutB) [some s, some (.obj 0), c, nb, k0, f, some (.int n)] (Sx xs) = .ok (.nx [some s, some (.obj 0), c, nb, k', f, some (.int n')]) (Sx ys) ∧ ys.length ≤ xs.length + 900 := by
  rw [evS_forr, evI_rng1, ev_cst, Out.bind_ok, rng900, liftO_some, exS_ok]
  obtain ⟨δ', S', e, n', k', ys, rfl, rfl, hl⟩ := forL_inv (body := turnS G (.nm 4) drOutB) (xs := rngL 0 900) (P := fun i δ S => ∃ n' k' ys, δ = [some s, some (.obj 0), c, nb, k', f, some (.int n')] ∧ S = Sx ys ∧ ys.length ≤ xs.length + i) (δ := [some s, some (.obj 0), c, nb, k0, f, some (.int n)]) (S := Sx xs) ⟨n, k0, xs, rfl, rfl, by omega⟩ fun i x δ S hx ⟨n', k', ys, e1, e2, hl⟩ => by
    subst e1; subst e2
    have hi : i < 900 := by
      have := (List.getElem?_eq_some_iff.mp hx).1
      rwa [len900] at this
    obtain ⟨zs, n2, k2, e, hz⟩ := dr_out G ys (by omega) s c nb f k' x n'
    exact ⟨_, _, .inl e, n2, k2, zs, rfl, rfl, by omega⟩
  exact ⟨ys, n', k', e, by rw [len900] at hl; omega⟩
def drCellB : Sts := .cons (.set 3 (.bif .abs (.cons (.var 2) .nil))) (.cons drOneB (.cons (.forr (.nm 4) (.rng1 (.cst (.int 60))) drInB) .nil))
theorem dr_cell (G : Dn) (xs : List Int) (h : xs.length ≤ 80000) (s : D) (c0 nb k0 f sd : Option D) (c : Int) : ∃ ys c' nb' k' f', turnS G (.nm 2) drCellB (.int c) [some s, some (.obj 0), c0, nb, k0, f, sd] (Sx xs) = .ok (.nx [some s, some (.obj 0), c', nb', k', f', sd]) (Sx ys) ∧ ys.length ≤ xs.length + 62 := by
  obtain ⟨ys, n1, f1, e1, h1⟩ := dr_one G xs (by omega) s (some (.int c)) k0 f sd (if c < 0 then -c else c)
  obtain ⟨zs, n2, k2, e2, h2⟩ := dr_60 G ys (by omega) s (some (.int c)) k0 f1 sd n1
  refine ⟨zs, some (.int c), some (.int n2), k2, f1, ?_, by omega⟩
  have e0 : ∀ δ : DEnv, δ = [some s, some (.obj 0), some (.int c), nb, k0, f, sd] → evS G (.set 3 (.bif .abs (.cons (.var 2) .nil))) δ (Sx xs) = .ok (.nx [some s, some (.obj 0), some (.int c), some (.int (if c < 0 then -c else c)), k0, f, sd]) (Sx xs) := by
    rintro _ rfl
    rfl
  have et : turnS G (.nm 2) drCellB (.int c) [some s, some (.obj 0), c0, nb, k0, f, sd] (Sx xs) = evSs G drCellB [some s, some (.obj 0), some (.int c), nb, k0, f, sd] (Sx xs) := by
    simp only [turnS, tset_nm, List.set, liftO_some, Out.bind_ok]
  rw [et]
  unfold drCellB
  rw [evSs_cons, e0 _ rfl, thenF_nx, evSs_cons, e1, thenF_nx, evSs_cons, e2, thenF_nx, evSs_nil]
theorem dr_cells (G : Dn) (s : D) (c0 nb k0 f sd : Option D) (xs : List Int) (cs : List Int) (hc : cs.length ≤ 1000) (hx : xs = []) : ∃ ys c' nb' k' f', forL (turnS G (.nm 2) drCellB) (cs.map .int) [some s, some (.obj 0), c0, nb, k0, f, sd] (Sx xs) = .ok (.nx [some s, some (.obj 0), c', nb', k', f', sd]) (Sx ys) ∧ ys.length ≤ 62000 := by
  subst hx
  obtain ⟨δ', S', e, c', nb', k', f', ys, rfl, rfl, hl⟩ := forL_inv (body := turnS G (.nm 2) drCellB) (xs := cs.map .int) (P := fun i δ S => ∃ c' nb' k' f' ys, δ = [some s, some (.obj 0), c', nb', k', f', sd] ∧ S = Sx ys ∧ ys.length ≤ 62 * i) (δ := [some s, some (.obj 0), c0, nb, k0, f, sd]) (S := Sx []) ⟨c0, nb, k0, f, [], rfl, rfl, by simp⟩ fun i x δ S hx ⟨c', nb', k', f', ys, e1, e2, hl⟩ => by
    subst e1; subst e2
    have hi := (List.getElem?_eq_some_iff.mp hx).1
    rw [List.length_map] at hi
    rw [List.getElem?_map] at hx
    obtain ⟨y, _, rfl⟩ := Option.map_eq_some_iff.mp hx
    obtain ⟨zs, c2, n2, k2, f2, e, hz⟩ := dr_cell G ys (by omega) s c' nb' k' f' sd y
    exact ⟨_, _, .inl e, c2, n2, k2, f2, zs, rfl, rfl, by omega⟩
  exact ⟨ys, c', nb', k', f', e, by rw [List.length_map] at hl; omega⟩
theorem draws_body : d_law_draws_b = .cons (.set 1 (.lstO .nil)) (.cons (.forr (.nm 2) (.seq (.var 0)) drCellB) (.cons (.set 6 (.cst (.int 1))) (.cons (.iff (.cmp .gt (.bif .len (.cons (.var 0) .nil)) (.cst (.int 0))) (.cons (.set 6 (.bin .add (.cst (.int 1)) (.bif .abs (.cons (.idx (.var 0) (.cst (.int 0))) .nil)))) .nil) .nil) (.cons (.forr (.nm 4) (.rng1 (.cst (.int 900))) drOutB) (.cons (.ret (.lrev (.var 1) true)) .nil))))) := rfl
theorem sc_iter {ns : List Int} {s : D} (hs : IsScript ns s) : srcOf s = some (.st (ns.map .int)) := by
  rcases hs with rfl | rfl <;> rfl
theorem dr_seed (G : Dn) {ns : List Int} {s : D} (hs : IsScript ns s) (c nb k0 f : Option D) (xs : List Int) : ∃ n, evS G (.iff (.cmp .gt (.bif .len (.cons (.var 0) .nil)) (.cst (.int 0))) (.cons (.set 6 (.bin .add (.cst (.int 1)) (.bif .abs (.cons (.idx (.var 0) (.cst (.int 0))) .nil)))) .nil) .nil) [some s, some (.obj 0), c, nb, k0, f, some (.int 1)] (Sx xs) = .ok (.nx [some s, some (.obj 0), c, nb, k0, f, some (.int n)]) (Sx xs) := by
  cases ns with
  | nil => exact ⟨1, by rcases hs with rfl | rfl <;> simp [isinF, D.ty, isT, D.tru, D.seq, cmpF, dLt, dLe, dGt, dGe, dEq, dNe, dIs, dIsNot, D.isNon, dIdx, binF, dAdd, dSub, dMul, dMod, dDiv, bifF, dLen, dTuple, dList, dAbs, dInt, D.asI, D.asO, D.rd, D.plain, D.plains, D.depth, D.depths, D.eqv, D.eqvs, negF]⟩
  | cons n ns => exact ⟨1 + (if n < 0 then -n else n), by
      have p : (0 : Int) < (ns.length : Int) + 1 := by omega
      rcases hs with rfl | rfl <;> simp [isinF, D.ty, isT, D.tru, D.seq, cmpF, dLt, dLe, dGt, dGe, dEq, dNe, dIs, dIsNot, D.isNon, dIdx, binF, dAdd, dSub, dMul, dMod, dDiv, bifF, dLen, dTuple, dList, dAbs, dInt, D.asI, D.asO, D.rd, D.plain, D.plains, D.depth, D.depths, D.eqv, D.eqvs, negF, p, atI_zero]⟩
theorem draws_ok (k : Nat) {ns : List Int} {s : D} (hn : ns.length ≤ 1000) (hs : IsScript ns s) : ∃ ys, Ph (k + 1) 7 [s] [] = .ok (.obj 0) (Sx ys) := by
  obtain ⟨ys, c1, n1, k1, f1, e1, h1⟩ := dr_cells (G7 k) s none none none none none [] ns hn rfl
  obtain ⟨n, e2⟩ := dr_seed (G7 k) hs c1 n1 k1 f1 ys
  obtain ⟨zs, n2, k2, e3, h2⟩ := dr_900 (G7 k) ys (by omega) s c1 n1 f1 k1 n
  refine ⟨zs.reverse, ?_⟩
  have hz : zs.length ≤ sizeLine := by rw [sizeLine_lit]; omega
  have key : evSs (G7 k) d_law_draws_b [some s, none, none, none, none, none, none] [] = .ok (.rt (.obj 1)) [.lst (zs.map .int), .lst ((zs.map .int).reverse)] := by
    have a1 : evS (G7 k) (.set 1 (.lstO .nil)) [some s, none, none, none, none, none, none] [] = .ok (.nx [some s, some (.obj 0), none, none, none, none, none]) (Sx []) := by
      simp [mkList]
    have a2 : evS (G7 k) (.set 6 (.cst (.int 1))) [some s, some (.obj 0), c1, n1, k1, f1, none] (Sx ys) = .ok (.nx [some s, some (.obj 0), c1, n1, k1, f1, some (.int 1)]) (Sx ys) := by
      simp
    have a3 : evS (G7 k) (.ret (.lrev (.var 1) true)) [some s, some (.obj 0), c1, n1, k2, f1, some (.int n2)] (Sx zs) = .ok (.rt (.obj 1)) [.lst (zs.map .int), .lst ((zs.map .int).reverse)] := by
      have ap : (zs.map D.int).all D.pure = true := by simp [D.pure]
      simp [mkList, D.lseq, hz, D.pure]
    have a4 : evS (G7 k) (.forr (.nm 2) (.seq (.var 0)) drCellB) [some s, some (.obj 0), none, none, none, none, none] (Sx []) = .ok (.nx [some s, some (.obj 0), c1, n1, k1, f1, none]) (Sx ys) := by
      rw [evS_forr, evI_seq, ev_var, getD_zero, lift_some, Out.bind_ok, sc_iter hs, liftO_some, exS_ok]
      exact e1
    rw [draws_body, evSs_cons, a1, thenF_nx, evSs_cons, a4, thenF_nx, evSs_cons, a2, thenF_nx, evSs_cons, e2, thenF_nx, evSs_cons, e3, thenF_nx, evSs_cons, a3, thenF_rt]
  rw [phi_eq (d := d_law_draws) rfl]
  refine (run_rt (S' := [.lst (zs.map .int), .lst ((zs.map .int).reverse)]) key).trans ?_
  simp [d_law_draws, fin]
theorem take_ok (k : Nat) (xs : List Int) {m : Int} (h : 0 < m) : ∃ (v : Int) (ys : List Int), 0 ≤ v ∧ v < m ∧ Ph (k + 1) 8 [.obj 0, .int m] (Sx xs) = .ok (.int v) (Sx ys) := by
  rw [phi_eq (d := d_law_take) rfl]
  rcases List.eq_nil_or_concat xs with rfl | ⟨ys, y, rfl⟩
  · exact ⟨0, [], by omega, h, by simp [runF, d_law_take, d_law_take_b, startD, isinF, D.ty, isT, D.tru, D.seq, cmpF, dLt, dLe, dGt, dGe, dEq, dNe, dIs, dIsNot, D.isNon, dIdx, binF, dAdd, dSub, dMul, dMod, dDiv, bifF, dLen, dTuple, dList, dAbs, dInt, D.asI, D.asO, D.rd, D.plain, D.plains, D.depth, D.depths, D.eqv, D.eqvs, negF]⟩
  · refine ⟨y % m, ys, Int.emod_nonneg _ (by omega), Int.emod_lt_of_pos _ h, ?_⟩
    have nz : ¬ ((ys.length : Int) + 1 = 0) := by omega
    simp [runF, d_law_take, d_law_take_b, startD, isinF, D.ty, isT, D.tru, D.seq, cmpF, dLt, dLe, dGt, dGe, dEq, dNe, dIs, dIsNot, D.isNon, dIdx, binF, dAdd, dSub, dMul, dMod, dDiv, bifF, dLen, dTuple, dList, dAbs, dInt, D.asI, D.asO, D.rd, D.plain, D.plains, D.depth, D.depths, D.eqv, D.eqvs, negF, nz, popF, h]
end Law

set_option Elab.async false
set_option linter.all false
set_option maxRecDepth 100000
set_option maxHeartbeats 0
namespace Law
open PySem PySem.Spec PyProof.Rows L2 PD
/-- the operations that the law draws -/
inductive Good : D → Prop
  | put (n p : Int) (s : List Nat) (a : D) (c : Nat) : (2 ≤ n ∧ n < 52 ∨ n = 1) → nameB (.str s) = true → 0 ≤ p → p < n → (a = .non ∨ ∃ m t, a = .tup [.int m, .str t] ∧ 1 ≤ m ∧ m < n ∧ nameB (.str t) = true) → signB (.str [c]) = true → Good (.tup [.str [112, 117, 116], .tup [.int n, .str s], .int p, a, .str [c]])
  | oth (w : List Nat) (n p m : Int) (s t : List Nat) : (w = [99, 117, 116] ∨ w = [117, 110, 100, 111]) → (2 ≤ n ∧ n < 52 ∨ n = 1000000) → nameB (.str s) = true → 0 ≤ p → p < n → (p < 52 ∨ p = 999999) → 1 ≤ m → m < n → nameB (.str t) = true → Good (.tup [.str w, .tup [.int n, .str s], .int p, .tup [.int m, .str t]])
theorem good_op {v : D} (h : Good v) : opB v = true := by
  cases h with
  | put n p s a c hn hs h0 h1 ha hc =>
    have hn1 : 1 ≤ n := by omega
    have hn2 : n ≤ 1000000 := by omega
    have hi : idB (.tup [.int n, .str s]) = true := by simp [idB, numB, hs, hn1, hn2]
    rcases ha with rfl | ⟨m, t, rfl, hm1, hm2, ht⟩
    · have : p ≤ n - 1 := by omega
      simp [opB, hi, fst, numB, h0, this, hc, D.isNon]
    · have : p ≤ n - 1 := by omega
      have hm3 : m ≤ 1000000 := by omega
      have hi2 : idB (.tup [.int m, .str t]) = true := by simp [idB, numB, ht, hm1, hm3]
      simp [opB, hi, fst, numB, h0, this, hc, D.isNon, aheadB, hi2, hm2]
  | oth w n p m s t hw hn hs h0 h1 hp hm1 hm2 ht =>
    have hn1 : 1 ≤ n := by omega
    have hn2 : n ≤ 1000000 := by omega
    have hi : idB (.tup [.int n, .str s]) = true := by simp [idB, numB, hs, hn1, hn2]
    have : p ≤ n - 1 := by omega
    have hm3 : m ≤ 1000000 := by omega
    have hi2 : idB (.tup [.int m, .str t]) = true := by simp [idB, numB, ht, hm1, hm3]
    rcases hw with rfl | rfl <;> simp [opB, hi, fst, numB, h0, this, D.isNon, aheadB, hi2, hm2]
theorem good_plain {v : D} (h : Good v) : v.plain = true := by
  cases h with
  | put n p s a c hn hs h0 h1 ha hc => rcases ha with rfl | ⟨m, t, rfl, _⟩ <;> rfl
  | oth => rfl
theorem strs_ok : ∀ i, i < 52 → (intStr (i : Nat)).length ≤ 100 := by decide +kernel
theorem str_small {i : Int} (h0 : 0 ≤ i) (h : i < 52 ∨ i = 1000000 ∨ i = 999999) (S : Store) : dStr [.int i] S = some (.str (intStr i)) := by
  have hl : (intStr i).length ≤ 100 := by
    rcases h with h | rfl | rfl
    · have := strs_ok i.toNat (by omega)
      rwa [Int.toNat_of_nonneg h0] at this
    · decide +kernel
    · decide +kernel
  have hb : i.natAbs.log2 < 1920 := by
    have : i.natAbs < 2 ^ 1920 := by
      have h3 : i.natAbs ≤ 1000000 := by omega
      exact Nat.lt_of_le_of_lt h3 (by decide +kernel)
    by_cases hz : i.natAbs = 0
    · rw [hz]; decide
    · exact (Nat.log2_lt hz).mpr this
  exact if_pos ⟨hb, by rw [sizeLine_lit]; omega⟩
theorem name_cases : nameB (.str [97]) = true ∧ nameB (.str [98]) = true ∧ nameB (.str [122, 122]) = true ∧ nameB (.str [98, 97]) = true ∧ nameB (.str (rep 16 [122])) = true := by decide +kernel
theorem rows_ok (k : Nat) (xs : List Int) : ∃ rows ys, Ph (k + 2) 9 [.obj 0] (Sx xs) = .ok (.lst rows) (Sx ys) ∧ ∀ r ∈ rows, Good r := by
  obtain ⟨v1, y1, a1, b1, e1⟩ := take_ok k xs (m := 50) (by omega)
  obtain ⟨v2, y2, a2, b2, e2⟩ := take_ok k y1 (m := 3) (by omega)
  obtain ⟨v3, y3, a3, b3, e3⟩ := take_ok k y2 (m := 2) (by omega)
  obtain ⟨v4, y4, a4, b4, e4⟩ := take_ok k y3 (m := 2 + v1) (by omega)
  obtain ⟨v5, y5, a5, b5, e5⟩ := take_ok k y4 (m := 2 + v1 - 1) (by omega)
  obtain ⟨v6, y6, a6, b6, e6⟩ := take_ok k y5 (m := 5) (by omega)
  obtain ⟨n1, n2, n3, n4, n5⟩ := name_cases
  obtain ⟨s, hs, es⟩ : ∃ s, nameB (.str s) = true ∧ L2.atI [D.str [97], D.str [122, 122], D.str (rep 16 [122])] v2 = some (.str s) := by
    obtain rfl | rfl | rfl : v2 = 0 ∨ v2 = 1 ∨ v2 = 2 := by omega
    · exact ⟨_, n1, rfl⟩
    · exact ⟨_, n3, rfl⟩
    · exact ⟨_, n5, rfl⟩
  obtain ⟨t, ht, et⟩ : ∃ s, nameB (.str s) = true ∧ L2.atI [D.str [97], D.str [98]] v3 = some (.str s) := by
    obtain rfl | rfl : v3 = 0 ∨ v3 = 1 := by omega
    · exact ⟨_, n1, rfl⟩
    · exact ⟨_, n2, rfl⟩
  obtain ⟨c, hc, ec⟩ : ∃ c, signB (.str [c]) = true ∧ L2.atI [32, 126, 10, 59, 97] v6 = some c := by
    obtain rfl | rfl | rfl | rfl | rfl : v6 = 0 ∨ v6 = 1 ∨ v6 = 2 ∨ v6 = 3 ∨ v6 = 4 := by omega
    · exact ⟨_, by decide, rfl⟩
    · exact ⟨_, by decide, rfl⟩
    · exact ⟨_, by decide, rfl⟩
    · exact ⟨_, by decide, rfl⟩
    · exact ⟨_, by decide, rfl⟩
  rw [phi_eq (d := d_law_rows) rfl]
  refine ⟨_, y6, (run_rt (d := .lst [.tup [.str [112, 117, 116], .tup [.int (2 + v1), .str s], .int v4, .tup [.int (1 + v5), .str t], .str [c]], .tup [.str [112, 117, 116], .tup [.int (2 + v1), .str s], .int v4, .non, .str [120]], .tup [.str [99, 117, 116], .tup [.int (2 + v1), .str s], .int v4, .tup [.int (1 + v5), .str t]], .tup [.str [117, 110, 100, 111], .tup [.int (2 + v1), .str s], .int v4, .tup [.int (1 + v5), .str t]], .tup [.str [112, 117, 116], .tup [.int 1, .str s], .int 0, .non, .str [97]], .tup [.str [99, 117, 116], .tup [.int 1000000, .str s], .int 999999, .tup [.int 999999, .str t]], .tup [.str [117, 110, 100, 111], .tup [.int 2, .str s], .int 0, .tup [.int 1, .str t]]]) (S' := Sx y6) ?_).trans (fin_pure rfl), ?_⟩
  · have z16 : dMul (.str [122]) (.int 16) = fun _ => some (.str (rep 16 [122])) := by funext S; simp [dMul, sizeLine_lit]
    have p6 : ∀ S, dPow (.int 10) (.int 6) S = some (.int 1000000) := fun _ => rfl
    simp [d_law_rows, d_law_rows_b, startD, binF, dAdd, dSub, z16, p6, dIdx, D.seq, mkList, sizeLine_lit, es, et, ec, e1, e2, e3, e4, e5, e6]
  · intro r hr
    simp only [List.mem_cons, List.not_mem_nil, or_false] at hr
    rcases hr with rfl | rfl | rfl | rfl | rfl | rfl | rfl
    · exact .put _ _ _ _ _ (by omega) hs a4 b4 (.inr ⟨_, _, rfl, by omega, by omega, ht⟩) hc
    · exact .put _ _ _ _ _ (by omega) hs a4 b4 (.inl rfl) (by decide)
    · exact .oth _ _ _ _ _ _ (.inl rfl) (by omega) hs a4 b4 (by omega) (by omega) (by omega) ht
    · exact .oth _ _ _ _ _ _ (.inr rfl) (by omega) hs a4 b4 (by omega) (by omega) (by omega) ht
    · exact .put _ _ _ _ _ (by omega) hs (by omega) (by omega) (.inl rfl) (by decide)
    · exact .oth _ _ _ _ _ _ (.inl rfl) (by omega) hs (by omega) (by omega) (by omega) (by omega) (by omega) ht
    · exact .oth _ _ _ _ _ _ (.inr rfl) (by omega) hs (by omega) (by omega) (by omega) (by omega) (by omega) ht
end Law

set_option Elab.async false
set_option linter.all false
set_option maxRecDepth 100000
set_option maxHeartbeats 0
namespace Law
open PySem PySem.Spec PyProof.Rows L2 PD
def wS1 : PD.St := (.unp (.tp [1, 2]) (.idx (.var 0) (.cst (.int 1))))
def wS2 : PD.St := (.set 3 (.lst (.cons (.cst .non) (.cons (.cst (.int 5)) (.cons (.cst (.str [112, 117, 116])) (.cons (.tup .nil) (.cons (.bif .list (.cons (.var 0) .nil)) (.cons (.cut (.var 0) .no (.ex (.neg (.cst (.int 1))))) (.cons (.bin .add (.var 0) (.tup (.cons (.cst (.int 0)) .nil))) (.cons (.bin .add (.tup (.cons (.cst (.str [80, 117, 116])) .nil)) (.cut (.var 0) (.ex (.cst (.int 1))) .no)) (.cons (.bin .add (.tup (.cons (.cst .non) .nil)) (.cut (.var 0) (.ex (.cst (.int 1))) .no)) (.cons (.bin .add (.tup (.cons (.cst (.str [117, 110, 100, 111])) (.cons (.cst (.str [112, 117, 116])) .nil))) (.cut (.var 0) (.ex (.cst (.int 2))) .no)) .nil))))))))))))
def wS3 : PD.St := (.set 4 (.lst (.cons (.cst .non) (.cons (.tup (.cons (.var 1) .nil)) (.cons (.tup (.cons (.var 1) (.cons (.var 2) (.cons (.cst (.int 0)) .nil)))) (.cons (.lst (.cons (.var 1) (.cons (.var 2) .nil))) (.cons (.tup (.cons (.cst (.int 0)) (.cons (.var 2) .nil))) (.cons (.tup (.cons (.bin .add (.bin .pow (.cst (.int 10)) (.cst (.int 6))) (.cst (.int 1))) (.cons (.var 2) .nil))) (.cons (.tup (.cons (.neg (.cst (.int 1))) (.cons (.var 2) .nil))) (.cons (.tup (.cons (.bif .str (.cons (.var 1) .nil)) (.cons (.var 2) .nil))) (.cons (.tup (.cons (.cst (.bl true)) (.cons (.var 2) .nil))) .nil)))))))))))
def wS4 : PD.St := (.set 4 (.bin .add (.var 4) (.lst (.cons (.tup (.cons (.var 1) (.cons (.cst (.str [])) .nil))) (.cons (.tup (.cons (.var 1) (.cons (.cst (.str [65])) .nil))) (.cons (.tup (.cons (.var 1) (.cons (.bin .mul (.cst (.str [122])) (.cst (.int 17))) .nil))) (.cons (.tup (.cons (.var 1) (.cons (.cst .non) .nil))) .nil)))))))
def wS5 : PD.St := (.set 3 (.bin .add (.var 3) (.comp (.bin .add (.bin .add (.cut (.var 0) .no (.ex (.cst (.int 1)))) (.tup (.cons (.var 5) .nil))) (.cut (.var 0) (.ex (.cst (.int 2))) .no)) (.nm 5) (.seq (.var 4)) .nil false)))
def wS6 : PD.St := (.set 3 (.bin .add (.var 3) (.comp (.bin .add (.bin .add (.cut (.var 0) .no (.ex (.cst (.int 2)))) (.tup (.cons (.var 5) .nil))) (.cut (.var 0) (.ex (.cst (.int 3))) .no)) (.nm 5) (.seq (.lst (.cons (.neg (.cst (.int 1))) (.cons (.var 1) (.cons (.bin .add (.var 1) (.cst (.int 1))) (.cons (.cst .non) (.cons (.bif .str (.cons (.idx (.var 0) (.cst (.int 2))) .nil)) (.cons (.tup (.cons (.cst (.int 0)) .nil)) (.cons (.cst (.bl false)) .nil))))))))) .nil false)))
def wS7 : PD.St := (.set 3 (.bin .add (.var 3) (.comp (.bin .add (.bin .add (.cut (.var 0) .no (.ex (.cst (.int 3)))) (.tup (.cons (.var 5) .nil))) (.cut (.var 0) (.ex (.cst (.int 4))) .no)) (.nm 5) (.seq (.lst (.cons (.tup (.cons (.var 1) (.cons (.var 2) .nil))) (.cons (.tup (.cons (.bin .add (.var 1) (.cst (.int 1))) (.cons (.cst (.str [97])) .nil))) (.cons (.cst (.int 5)) (.cons (.cst (.str [97])) (.cons (.tup .nil) (.cons (.tup (.cons (.cst (.int 0)) (.cons (.cst (.str [97])) .nil))) (.cons (.tup (.cons (.cst (.int 1)) .nil)) (.cons (.lst (.cons (.cst (.int 1)) (.cons (.cst (.str [97])) .nil))) .nil)))))))))) .nil false)))
def wS8 : PD.St := (.iff (.cmp .eq (.idx (.var 0) (.cst (.int 0))) (.cst (.str [112, 117, 116]))) (.cons (.ret (.bin .add (.var 3) (.comp (.bin .add (.cut (.var 0) .no (.ex (.cst (.int 4)))) (.tup (.cons (.var 5) .nil))) (.nm 5) (.seq (.lst (.cons (.cst (.str [])) (.cons (.cst (.str [97, 98])) (.cons (.cst .non) (.cons (.cst (.int 5)) (.cons (.cst (.str [9])) (.cons (.tup (.cons (.cst (.str [97])) .nil)) .nil)))))))) .nil false))) .nil) .nil)
def wS9 : PD.St := (.ret (.bin .add (.var 3) (.lst (.cons (.bin .add (.cut (.var 0) .no (.ex (.cst (.int 3)))) (.tup (.cons (.cst .non) .nil))) .nil))))
theorem wrong_body : d_law_wrong_b = (.cons wS1 (.cons wS2 (.cons wS3 (.cons wS4 (.cons wS5 (.cons wS6 (.cons wS7 (.cons wS8 (.cons wS9 .nil))))))))) := rfl
theorem comp_map {G : Dn} {el e : Ex} {i : Nat} {δ : DEnv} {S : Store} {ds : List D} (f : D → D) (he : ev G e δ S = .ok (.lst ds) S) (hl : ds.length ≤ 1000) (h : ∀ x, ev G el ((δ.set i none).set i (some x)) S = .ok (f x) S) : ev G (.comp el (.nm i) (.seq e) .nil false) δ S = .ok (.lst (ds.map f)) S := by
  have hz : ds.length ≤ sizeLine := by rw [sizeLine_lit]; omega
  have e1 : mapL (turnB G el (.nm i) .nil δ) ds S = .ok (ds.filterMap fun x => some (f x)) S := mapL_pure fun x _ => by
    simp only [turnB, slots_nm, wipeD_cons, wipeD_nil, tset_nm, liftO_some, Out.bind_ok, tsts_nil, if_true, h x]
  rw [ev_comp, evI_seq, he, Out.bind_ok]
  have e2 : srcOf (.lst ds) = some (.st ds) := rfl
  rw [e2, liftO_some, Out.bind_ok]
  have e3 : (Src.st ds).items = some ds := rfl
  rw [e3, liftO_some, Out.bind_ok, e1]
  have e4 : (ds.filterMap fun x => some (f x)) = ds.map f := by simp [List.filterMap_eq_map]
  rw [e4, nox_ok, Out.bind_ok]
  simp [mkList, hz]
theorem add_l {A B : List D} (hA : A.length ≤ 1000) (hB : B.length ≤ 1000) (S : Store) : binF .add (.lst A) (.lst B) S = some (.lst (A ++ B)) := if_pos (by rw [sizeLine_lit]; omega)
theorem w_add {G : Dn} {el e : Ex} {o n s i c : Option D} {S : Store} {F ds : List D} (f : D → D) (he : ev G e [o, n, s, some (.lst F), i, c] S = .ok (.lst ds) S) (hF : F.length ≤ 1000) (hl : ds.length ≤ 1000) (h : ∀ x, ev G el [o, n, s, some (.lst F), i, some x] S = .ok (f x) S) : ev G (.bin .add (.var 3) (.comp el (.nm 5) (.seq e) .nil false)) [o, n, s, some (.lst F), i, c] S = .ok (.lst (F ++ ds.map f)) S := by
  have e1 := comp_map (el := el) (i := 5) f he hl (fun x => h x)
  have e0 : getD [o, n, s, some (.lst F), i, c] 3 = some (.lst F) := rfl
  rw [ev_bin, ev_var, e0, lift_some, Out.bind_ok, e1, Out.bind_ok, add_l hF (by rw [List.length_map]; exact hl), lift_some]
def baseL (o : List D) : List D := [.non, .int 5, .str [112, 117, 116], .tup [], .lst o, .tup (cutD o none (some (-1))), .tup (o ++ [.int 0]), .tup (.str [80, 117, 116] :: cutD o (some 1) none), .tup (.non :: cutD o (some 1) none), .tup ([.str [117, 110, 100, 111], .str [112, 117, 116]] ++ cutD o (some 2) none)]
def idsL (n : Int) (s : List Nat) : List D := [.non, .tup [.int n], .tup [.int n, .str s, .int 0], .lst [.int n, .str s], .tup [.int 0, .str s], .tup [.int 1000001, .str s], .tup [.int (-1), .str s], .tup [.str (intStr n), .str s], .tup [.bl true, .str s], .tup [.int n, .str []], .tup [.int n, .str [65]], .tup [.int n, .str (rep 17 [122])], .tup [.int n, .non]]
def numsL (n p : Int) : List D := [.int (-1), .int n, .int (n + 1), .non, .str (intStr p), .tup [.int 0], .bl false]
def ahL (n : Int) (s : List Nat) : List D := [.tup [.int n, .str s], .tup [.int (n + 1), .str [97]], .int 5, .str [97], .tup [], .tup [.int 0, .str [97]], .tup [.int 1], .lst [.int 1, .str [97]]]
def sgL : List D := [.str [], .str [97, 98], .non, .int 5, .str [9], .tup [.str [97]]]
theorem ids_bad (n : Int) (s : List Nat) : ∀ x ∈ idsL n s, x.plain = true ∧ idB x = false := by
  intro x hx
  simp only [idsL, List.mem_cons, List.not_mem_nil, or_false] at hx
  rcases hx with rfl | rfl | rfl | rfl | rfl | rfl | rfl | rfl | rfl | rfl | rfl | rfl | rfl <;> refine ⟨rfl, ?_⟩ <;> simp [idB, numB, nameB, rep]
theorem nums_bad (n p : Int) : ∀ x ∈ numsL n p, x.plain = true ∧ numB x 0 (n - 1) = false := by
  intro x hx
  simp only [numsL, List.mem_cons, List.not_mem_nil, or_false] at hx
  rcases hx with rfl | rfl | rfl | rfl | rfl | rfl | rfl <;> refine ⟨rfl, ?_⟩ <;> simp [numB] <;> omega
theorem ah_bad (n : Int) (s : List Nat) : ∀ x ∈ ahL n s, x.plain = true ∧ x.isNon = false ∧ aheadB x (.tup [.int n, .str s]) = false := by
  intro x hx
  have h1 : ¬ (n + 1 < n) := by omega
  simp only [ahL, List.mem_cons, List.not_mem_nil, or_false] at hx
  rcases hx with rfl | rfl | rfl | rfl | rfl | rfl | rfl | rfl <;> refine ⟨rfl, rfl, ?_⟩ <;> simp [aheadB, idB, numB, fst, h1]
theorem sg_bad : ∀ x ∈ sgL, x.plain = true ∧ signB x = false := by
  intro x hx
  simp only [sgL, List.mem_cons, List.not_mem_nil, or_false] at hx
  rcases hx with rfl | rfl | rfl | rfl | rfl | rfl <;> refine ⟨rfl, ?_⟩ <;> simp [signB]
theorem put_id {i p a c : D} (h : idB i = false) : opB (.tup [.str [112, 117, 116], i, p, a, c]) = false := by simp [opB, h]
theorem put_num {i p a c : D} (h : numB p 0 (fst i - 1) = false) : opB (.tup [.str [112, 117, 116], i, p, a, c]) = false := by simp [opB, h]
theorem put_ah {i p a c : D} (h : a.isNon = false) (h2 : aheadB a i = false) : opB (.tup [.str [112, 117, 116], i, p, a, c]) = false := by simp [opB, h, h2]
theorem put_sg {i p a c : D} (h : signB c = false) : opB (.tup [.str [112, 117, 116], i, p, a, c]) = false := by simp [opB, h]
section
variable {w : List Nat} (hw : w = [99, 117, 116] ∨ w = [117, 110, 100, 111]) {i p a : D}
include hw
theorem oth_id (h : idB i = false) : opB (.tup [.str w, i, p, a]) = false := by rcases hw with rfl | rfl <;> simp [opB, h]
theorem oth_num (h : numB p 0 (fst i - 1) = false) : opB (.tup [.str w, i, p, a]) = false := by rcases hw with rfl | rfl <;> simp [opB, h]
theorem oth_ah (h2 : aheadB a i = false) : opB (.tup [.str w, i, p, a]) = false := by rcases hw with rfl | rfl <;> simp [opB, h2]
end

theorem p6 (S : Store) : dPow (.int 10) (.int 6) S = some (.int 1000000) := rfl
theorem z17 (S : Store) : dMul (.str [122]) (.int 17) S = some (.str (rep 17 [122])) := by simp [dMul, sizeLine_lit]
section
variable (G : Dn) (S : Store)
theorem cut_tup {o : List D} {lo hi : Option Int} : dCut (.tup o) lo hi S = some (.tup (cutD o lo hi)) := rfl
theorem add_t {A B : List D} (h : A.length + B.length ≤ 1000) : binF .add (.tup A) (.tup B) S = some (.tup (A ++ B)) := if_pos (by rw [sizeLine_lit]; omega)
theorem s_1 {x i : D} {r : List D} {n : Int} {s : List Nat} (hi : i = .tup [.int n, .str s]) : evS G wS1 [some (.tup (x :: i :: r)), none, none, none, none, none] S = .ok (.nx [some (.tup (x :: i :: r)), some (.int n), some (.str s), none, none, none]) S := by
  subst hi
  have e : L2.atI (x :: .tup [.int n, .str s] :: r) 1 = some (.tup [.int n, .str s]) := atI_nat (i := 1) (by simp)
  simp [wS1, dIdx, D.seq, e, tset]
def idsA (n : Int) (s : List Nat) : List D := (idsL n s).take 9
theorem s_3 {n : Int} (h0 : 0 ≤ n) (h : n < 52 ∨ n = 1000000 ∨ n = 999999) {s : List Nat} {o f : Option D} : evS G wS3 [o, some (.int n), some (.str s), f, none, none] S = .ok (.nx [o, some (.int n), some (.str s), f, some (.lst (idsA n s)), none]) S := by
  have e := str_small h0 h S
  simp [wS3, negF, binF, dAdd, p6, bifF, e, mkList, sizeLine_lit, idsL, idsA]
theorem s_4 {n : Int} {s : List Nat} {o f : Option D} : evS G wS4 [o, some (.int n), some (.str s), f, some (.lst (idsA n s)), none] S = .ok (.nx [o, some (.int n), some (.str s), f, some (.lst (idsL n s)), none]) S := by
  simp [wS4, binF, dAdd, mkList, sizeLine_lit, z17, idsL, idsA]
theorem pt_2 (w s : List Nat) (n p : Int) (a c : D) : evS G wS2 [some (.tup [.str w, .tup [.int n, .str s], .int p, a, c]), some (.int n), some (.str s), none, none, none] S = .ok (.nx [some (.tup [.str w, .tup [.int n, .str s], .int p, a, c]), some (.int n), some (.str s), some (.lst (baseL [.str w, .tup [.int n, .str s], .int p, a, c])), none, none]) S := by
  have q0 : cutD [.str w, .tup [.int n, .str s], .int p, a, c] none (some (-1)) = [.str w, .tup [.int n, .str s], .int p, a] := rfl
  have q1 : cutD [.str w, .tup [.int n, .str s], .int p, a, c] (some 1) none = [.tup [.int n, .str s], .int p, a, c] := rfl
  have q2 : cutD [.str w, .tup [.int n, .str s], .int p, a, c] (some 2) none = [.int p, a, c] := rfl
  have q3 : cutD [.str w, .tup [.int n, .str s], .int p, a, c] none (some 1) = [.str w] := rfl
  have q4 : cutD [.str w, .tup [.int n, .str s], .int p, a, c] none (some 2) = [.str w, .tup [.int n, .str s]] := rfl
  have q5 : cutD [.str w, .tup [.int n, .str s], .int p, a, c] (some 3) none = [a, c] := rfl
  have q6 : cutD [.str w, .tup [.int n, .str s], .int p, a, c] none (some 3) = [.str w, .tup [.int n, .str s], .int p] := rfl
  have q7 : cutD [.str w, .tup [.int n, .str s], .int p, a, c] (some 4) none = [c] := rfl
  have q8 : cutD [.str w, .tup [.int n, .str s], .int p, a, c] none (some 4) = [.str w, .tup [.int n, .str s], .int p, a] := rfl
  simp [wS2, cut_tup, q0, q1, q2, q3, q4, q5, q6, q7, q8, bifF, dList, D.seq, binF, dAdd, mkList, sizeLine_lit, negF, baseL, D.asI]
theorem pt_5 (w s : List Nat) (n p : Int) (a c : D) (F : List D) (hF : F.length ≤ 500) : evS G wS5 [some (.tup [.str w, .tup [.int n, .str s], .int p, a, c]), some (.int n), some (.str s), some (.lst F), some (.lst (idsL n s)), none] S = .ok (.nx [some (.tup [.str w, .tup [.int n, .str s], .int p, a, c]), some (.int n), some (.str s), some (.lst (F ++ (idsL n s).map (fun x => .tup [.str w, x, .int p, a, c]))), some (.lst (idsL n s)), none]) S := by
  have q0 : cutD [.str w, .tup [.int n, .str s], .int p, a, c] none (some (-1)) = [.str w, .tup [.int n, .str s], .int p, a] := rfl
  have q1 : cutD [.str w, .tup [.int n, .str s], .int p, a, c] (some 1) none = [.tup [.int n, .str s], .int p, a, c] := rfl
  have q2 : cutD [.str w, .tup [.int n, .str s], .int p, a, c] (some 2) none = [.int p, a, c] := rfl
  have q3 : cutD [.str w, .tup [.int n, .str s], .int p, a, c] none (some 1) = [.str w] := rfl
  have q4 : cutD [.str w, .tup [.int n, .str s], .int p, a, c] none (some 2) = [.str w, .tup [.int n, .str s]] := rfl
  have q5 : cutD [.str w, .tup [.int n, .str s], .int p, a, c] (some 3) none = [a, c] := rfl
  have q6 : cutD [.str w, .tup [.int n, .str s], .int p, a, c] none (some 3) = [.str w, .tup [.int n, .str s], .int p] := rfl
  have q7 : cutD [.str w, .tup [.int n, .str s], .int p, a, c] (some 4) none = [c] := rfl
  have q8 : cutD [.str w, .tup [.int n, .str s], .int p, a, c] none (some 4) = [.str w, .tup [.int n, .str s], .int p, a] := rfl
  unfold wS5
  rw [evS_set, w_add (fun x => .tup [.str w, x, .int p, a, c]) (ds := idsL n s) (rfl) (by omega) (by simp [idsL, numsL, ahL, sgL]) (fun x => by simp [D.asI, cut_tup, q0, q1, q2, q3, q4, q5, q6, q7, q8, binF, dAdd, sizeLine_lit]), exS_ok]
  rfl
theorem pt_6 (w s : List Nat) (n p : Int) (a c : D) (F : List D) (hF : F.length ≤ 500) (h0 : 0 ≤ p) (h : p < 52 ∨ p = 1000000 ∨ p = 999999) : evS G wS6 [some (.tup [.str w, .tup [.int n, .str s], .int p, a, c]), some (.int n), some (.str s), some (.lst F), some (.lst (idsL n s)), none] S = .ok (.nx [some (.tup [.str w, .tup [.int n, .str s], .int p, a, c]), some (.int n), some (.str s), some (.lst (F ++ (numsL n p).map (fun x => .tup [.str w, .tup [.int n, .str s], x, a, c]))), some (.lst (idsL n s)), none]) S := by
  have q0 : cutD [.str w, .tup [.int n, .str s], .int p, a, c] none (some (-1)) = [.str w, .tup [.int n, .str s], .int p, a] := rfl
  have q1 : cutD [.str w, .tup [.int n, .str s], .int p, a, c] (some 1) none = [.tup [.int n, .str s], .int p, a, c] := rfl
  have q2 : cutD [.str w, .tup [.int n, .str s], .int p, a, c] (some 2) none = [.int p, a, c] := rfl
  have q3 : cutD [.str w, .tup [.int n, .str s], .int p, a, c] none (some 1) = [.str w] := rfl
  have q4 : cutD [.str w, .tup [.int n, .str s], .int p, a, c] none (some 2) = [.str w, .tup [.int n, .str s]] := rfl
  have q5 : cutD [.str w, .tup [.int n, .str s], .int p, a, c] (some 3) none = [a, c] := rfl
  have q6 : cutD [.str w, .tup [.int n, .str s], .int p, a, c] none (some 3) = [.str w, .tup [.int n, .str s], .int p] := rfl
  have q7 : cutD [.str w, .tup [.int n, .str s], .int p, a, c] (some 4) none = [c] := rfl
  have q8 : cutD [.str w, .tup [.int n, .str s], .int p, a, c] none (some 4) = [.str w, .tup [.int n, .str s], .int p, a] := rfl
  have es := str_small h0 h S
  have ip : L2.atI ([.str w, .tup [.int n, .str s], .int p, a, c] : List D) 2 = some (.int p) := rfl
  unfold wS6
  rw [evS_set, w_add (fun x => .tup [.str w, .tup [.int n, .str s], x, a, c]) (ds := numsL n p) (by simp [negF, binF, dAdd, bifF, dIdx, D.seq, ip, es, mkList, sizeLine_lit, numsL]) (by omega) (by simp [idsL, numsL, ahL, sgL]) (fun x => by simp [D.asI, cut_tup, q0, q1, q2, q3, q4, q5, q6, q7, q8, binF, dAdd, sizeLine_lit]), exS_ok]
  rfl
theorem pt_7 (w s : List Nat) (n p : Int) (a c : D) (F : List D) (hF : F.length ≤ 500) : evS G wS7 [some (.tup [.str w, .tup [.int n, .str s], .int p, a, c]), some (.int n), some (.str s), some (.lst F), some (.lst (idsL n s)), none] S = .ok (.nx [some (.tup [.str w, .tup [.int n, .str s], .int p, a, c]), some (.int n), some (.str s), some (.lst (F ++ (ahL n s).map (fun x => .tup [.str w, .tup [.int n, .str s], .int p, x, c]))), some (.lst (idsL n s)), none]) S := by
  have q0 : cutD [.str w, .tup [.int n, .str s], .int p, a, c] none (some (-1)) = [.str w, .tup [.int n, .str s], .int p, a] := rfl
  have q1 : cutD [.str w, .tup [.int n, .str s], .int p, a, c] (some 1) none = [.tup [.int n, .str s], .int p, a, c] := rfl
  have q2 : cutD [.str w, .tup [.int n, .str s], .int p, a, c] (some 2) none = [.int p, a, c] := rfl
  have q3 : cutD [.str w, .tup [.int n, .str s], .int p, a, c] none (some 1) = [.str w] := rfl
  have q4 : cutD [.str w, .tup [.int n, .str s], .int p, a, c] none (some 2) = [.str w, .tup [.int n, .str s]] := rfl
  have q5 : cutD [.str w, .tup [.int n, .str s], .int p, a, c] (some 3) none = [a, c] := rfl
  have q6 : cutD [.str w, .tup [.int n, .str s], .int p, a, c] none (some 3) = [.str w, .tup [.int n, .str s], .int p] := rfl
  have q7 : cutD [.str w, .tup [.int n, .str s], .int p, a, c] (some 4) none = [c] := rfl
  have q8 : cutD [.str w, .tup [.int n, .str s], .int p, a, c] none (some 4) = [.str w, .tup [.int n, .str s], .int p, a] := rfl
  unfold wS7
  rw [evS_set, w_add (fun x => .tup [.str w, .tup [.int n, .str s], .int p, x, c]) (ds := ahL n s) (by simp [negF, binF, dAdd, mkList, sizeLine_lit, ahL]) (by omega) (by simp [idsL, numsL, ahL, sgL]) (fun x => by simp [D.asI, cut_tup, q0, q1, q2, q3, q4, q5, q6, q7, q8, binF, dAdd, sizeLine_lit]), exS_ok]
  rfl
theorem pt_8 (s : List Nat) (n p : Int) (a c : D) (F : List D) (hF : F.length ≤ 500) : evS G wS8 [some (.tup [.str [112, 117, 116], .tup [.int n, .str s], .int p, a, c]), some (.int n), some (.str s), some (.lst F), some (.lst (idsL n s)), none] S = .ok (.rt (.lst (F ++ (sgL).map (fun x => .tup [.str [112, 117, 116], .tup [.int n, .str s], .int p, a, x])))) S := by
  have q0 : cutD [.str [112, 117, 116], .tup [.int n, .str s], .int p, a, c] none (some (-1)) = [.str [112, 117, 116], .tup [.int n, .str s], .int p, a] := rfl
  have q1 : cutD [.str [112, 117, 116], .tup [.int n, .str s], .int p, a, c] (some 1) none = [.tup [.int n, .str s], .int p, a, c] := rfl
  have q2 : cutD [.str [112, 117, 116], .tup [.int n, .str s], .int p, a, c] (some 2) none = [.int p, a, c] := rfl
  have q3 : cutD [.str [112, 117, 116], .tup [.int n, .str s], .int p, a, c] none (some 1) = [.str [112, 117, 116]] := rfl
  have q4 : cutD [.str [112, 117, 116], .tup [.int n, .str s], .int p, a, c] none (some 2) = [.str [112, 117, 116], .tup [.int n, .str s]] := rfl
  have q5 : cutD [.str [112, 117, 116], .tup [.int n, .str s], .int p, a, c] (some 3) none = [a, c] := rfl
  have q6 : cutD [.str [112, 117, 116], .tup [.int n, .str s], .int p, a, c] none (some 3) = [.str [112, 117, 116], .tup [.int n, .str s], .int p] := rfl
  have q7 : cutD [.str [112, 117, 116], .tup [.int n, .str s], .int p, a, c] (some 4) none = [c] := rfl
  have q8 : cutD [.str [112, 117, 116], .tup [.int n, .str s], .int p, a, c] none (some 4) = [.str [112, 117, 116], .tup [.int n, .str s], .int p, a] := rfl
  unfold wS8
  have it : L2.atI ([.str [112, 117, 116], .tup [.int n, .str s], .int p, a, c] : List D) 0 = some (.str [112, 117, 116]) := rfl
  have ec : tst G (.cmp .eq (.idx (.var 0) (.cst (.int 0))) (.cst (.str [112, 117, 116]))) [some (.tup [.str [112, 117, 116], .tup [.int n, .str s], .int p, a, c]), some (.int n), some (.str s), some (.lst F), some (.lst (idsL n s)), none] S = .ok true S := by
    simp [cmpF, dEq, dIdx, D.seq, it, D.rd, D.plain, D.depth, D.eqv]
  rw [evS_iff, ec, exS_ok, if_pos rfl, evSs_cons, evS_ret, w_add (fun x => .tup [.str [112, 117, 116], .tup [.int n, .str s], .int p, a, x]) (ds := sgL) (by simp [mkList, sizeLine_lit, sgL]) (by omega) (by simp [idsL, numsL, ahL, sgL]) (fun x => by simp [D.asI, cut_tup, q0, q1, q2, q3, q4, q5, q6, q7, q8, binF, dAdd, sizeLine_lit]), exS_ok, thenF_rt]
theorem ot_2 (w s : List Nat) (n p : Int) (a : D) : evS G wS2 [some (.tup [.str w, .tup [.int n, .str s], .int p, a]), some (.int n), some (.str s), none, none, none] S = .ok (.nx [some (.tup [.str w, .tup [.int n, .str s], .int p, a]), some (.int n), some (.str s), some (.lst (baseL [.str w, .tup [.int n, .str s], .int p, a])), none, none]) S := by
  have q0 : cutD [.str w, .tup [.int n, .str s], .int p, a] none (some (-1)) = [.str w, .tup [.int n, .str s], .int p] := rfl
  have q1 : cutD [.str w, .tup [.int n, .str s], .int p, a] (some 1) none = [.tup [.int n, .str s], .int p, a] := rfl
  have q2 : cutD [.str w, .tup [.int n, .str s], .int p, a] (some 2) none = [.int p, a] := rfl
  have q3 : cutD [.str w, .tup [.int n, .str s], .int p, a] none (some 1) = [.str w] := rfl
  have q4 : cutD [.str w, .tup [.int n, .str s], .int p, a] none (some 2) = [.str w, .tup [.int n, .str s]] := rfl
  have q5 : cutD [.str w, .tup [.int n, .str s], .int p, a] (some 3) none = [a] := rfl
  have q6 : cutD [.str w, .tup [.int n, .str s], .int p, a] none (some 3) = [.str w, .tup [.int n, .str s], .int p] := rfl
  have q7 : cutD [.str w, .tup [.int n, .str s], .int p, a] (some 4) none = [] := rfl
  have q8 : cutD [.str w, .tup [.int n, .str s], .int p, a] none (some 4) = [.str w, .tup [.int n, .str s], .int p, a] := rfl
  simp [wS2, cut_tup, q0, q1, q2, q3, q4, q5, q6, q7, q8, bifF, dList, D.seq, binF, dAdd, mkList, sizeLine_lit, negF, baseL, D.asI]
theorem ot_5 (w s : List Nat) (n p : Int) (a : D) (F : List D) (hF : F.length ≤ 500) : evS G wS5 [some (.tup [.str w, .tup [.int n, .str s], .int p, a]), some (.int n), some (.str s), some (.lst F), some (.lst (idsL n s)), none] S = .ok (.nx [some (.tup [.str w, .tup [.int n, .str s], .int p, a]), some (.int n), some (.str s), some (.lst (F ++ (idsL n s).map (fun x => .tup [.str w, x, .int p, a]))), some (.lst (idsL n s)), none]) S := by
  have q0 : cutD [.str w, .tup [.int n, .str s], .int p, a] none (some (-1)) = [.str w, .tup [.int n, .str s], .int p] := rfl
  have q1 : cutD [.str w, .tup [.int n, .str s], .int p, a] (some 1) none = [.tup [.int n, .str s], .int p, a] := rfl
  have q2 : cutD [.str w, .tup [.int n, .str s], .int p, a] (some 2) none = [.int p, a] := rfl
  have q3 : cutD [.str w, .tup [.int n, .str s], .int p, a] none (some 1) = [.str w] := rfl
  have q4 : cutD [.str w, .tup [.int n, .str s], .int p, a] none (some 2) = [.str w, .tup [.int n, .str s]] := rfl
  have q5 : cutD [.str w, .tup [.int n, .str s], .int p, a] (some 3) none = [a] := rfl
  have q6 : cutD [.str w, .tup [.int n, .str s], .int p, a] none (some 3) = [.str w, .tup [.int n, .str s], .int p] := rfl
  have q7 : cutD [.str w, .tup [.int n, .str s], .int p, a] (some 4) none = [] := rfl
  have q8 : cutD [.str w, .tup [.int n, .str s], .int p, a] none (some 4) = [.str w, .tup [.int n, .str s], .int p, a] := rfl
  unfold wS5
  rw [evS_set, w_add (fun x => .tup [.str w, x, .int p, a]) (ds := idsL n s) (rfl) (by omega) (by simp [idsL, numsL, ahL, sgL]) (fun x => by simp [D.asI, cut_tup, q0, q1, q2, q3, q4, q5, q6, q7, q8, binF, dAdd, sizeLine_lit]), exS_ok]
  rfl
theorem ot_6 (w s : List Nat) (n p : Int) (a : D) (F : List D) (hF : F.length ≤ 500) (h0 : 0 ≤ p) (h : p < 52 ∨ p = 1000000 ∨ p = 999999) : evS G wS6 [some (.tup [.str w, .tup [.int n, .str s], .int p, a]), some (.int n), some (.str s), some (.lst F), some (.lst (idsL n s)), none] S = .ok (.nx [some (.tup [.str w, .tup [.int n, .str s], .int p, a]), some (.int n), some (.str s), some (.lst (F ++ (numsL n p).map (fun x => .tup [.str w, .tup [.int n, .str s], x, a]))), some (.lst (idsL n s)), none]) S := by
  have q0 : cutD [.str w, .tup [.int n, .str s], .int p, a] none (some (-1)) = [.str w, .tup [.int n, .str s], .int p] := rfl
  have q1 : cutD [.str w, .tup [.int n, .str s], .int p, a] (some 1) none = [.tup [.int n, .str s], .int p, a] := rfl
  have q2 : cutD [.str w, .tup [.int n, .str s], .int p, a] (some 2) none = [.int p, a] := rfl
  have q3 : cutD [.str w, .tup [.int n, .str s], .int p, a] none (some 1) = [.str w] := rfl
  have q4 : cutD [.str w, .tup [.int n, .str s], .int p, a] none (some 2) = [.str w, .tup [.int n, .str s]] := rfl
  have q5 : cutD [.str w, .tup [.int n, .str s], .int p, a] (some 3) none = [a] := rfl
  have q6 : cutD [.str w, .tup [.int n, .str s], .int p, a] none (some 3) = [.str w, .tup [.int n, .str s], .int p] := rfl
  have q7 : cutD [.str w, .tup [.int n, .str s], .int p, a] (some 4) none = [] := rfl
  have q8 : cutD [.str w, .tup [.int n, .str s], .int p, a] none (some 4) = [.str w, .tup [.int n, .str s], .int p, a] := rfl
  have es := str_small h0 h S
  have ip : L2.atI ([.str w, .tup [.int n, .str s], .int p, a] : List D) 2 = some (.int p) := rfl
  unfold wS6
  rw [evS_set, w_add (fun x => .tup [.str w, .tup [.int n, .str s], x, a]) (ds := numsL n p) (by simp [negF, binF, dAdd, bifF, dIdx, D.seq, ip, es, mkList, sizeLine_lit, numsL]) (by omega) (by simp [idsL, numsL, ahL, sgL]) (fun x => by simp [D.asI, cut_tup, q0, q1, q2, q3, q4, q5, q6, q7, q8, binF, dAdd, sizeLine_lit]), exS_ok]
  rfl
theorem ot_7 (w s : List Nat) (n p : Int) (a : D) (F : List D) (hF : F.length ≤ 500) : evS G wS7 [some (.tup [.str w, .tup [.int n, .str s], .int p, a]), some (.int n), some (.str s), some (.lst F), some (.lst (idsL n s)), none] S = .ok (.nx [some (.tup [.str w, .tup [.int n, .str s], .int p, a]), some (.int n), some (.str s), some (.lst (F ++ (ahL n s).map (fun x => .tup [.str w, .tup [.int n, .str s], .int p, x]))), some (.lst (idsL n s)), none]) S := by
  have q0 : cutD [.str w, .tup [.int n, .str s], .int p, a] none (some (-1)) = [.str w, .tup [.int n, .str s], .int p] := rfl
  have q1 : cutD [.str w, .tup [.int n, .str s], .int p, a] (some 1) none = [.tup [.int n, .str s], .int p, a] := rfl
  have q2 : cutD [.str w, .tup [.int n, .str s], .int p, a] (some 2) none = [.int p, a] := rfl
  have q3 : cutD [.str w, .tup [.int n, .str s], .int p, a] none (some 1) = [.str w] := rfl
  have q4 : cutD [.str w, .tup [.int n, .str s], .int p, a] none (some 2) = [.str w, .tup [.int n, .str s]] := rfl
  have q5 : cutD [.str w, .tup [.int n, .str s], .int p, a] (some 3) none = [a] := rfl
  have q6 : cutD [.str w, .tup [.int n, .str s], .int p, a] none (some 3) = [.str w, .tup [.int n, .str s], .int p] := rfl
  have q7 : cutD [.str w, .tup [.int n, .str s], .int p, a] (some 4) none = [] := rfl
  have q8 : cutD [.str w, .tup [.int n, .str s], .int p, a] none (some 4) = [.str w, .tup [.int n, .str s], .int p, a] := rfl
  unfold wS7
  rw [evS_set, w_add (fun x => .tup [.str w, .tup [.int n, .str s], .int p, x]) (ds := ahL n s) (by simp [negF, binF, dAdd, mkList, sizeLine_lit, ahL]) (by omega) (by simp [idsL, numsL, ahL, sgL]) (fun x => by simp [D.asI, cut_tup, q0, q1, q2, q3, q4, q5, q6, q7, q8, binF, dAdd, sizeLine_lit]), exS_ok]
  rfl
theorem ot_8 (w s : List Nat) (n p : Int) (a : D) (hw : w ≠ [112, 117, 116]) (F : List D) : evS G wS8 [some (.tup [.str w, .tup [.int n, .str s], .int p, a]), some (.int n), some (.str s), some (.lst F), some (.lst (idsL n s)), none] S = .ok (.nx [some (.tup [.str w, .tup [.int n, .str s], .int p, a]), some (.int n), some (.str s), some (.lst F), some (.lst (idsL n s)), none]) S := by
  have it : L2.atI ([.str w, .tup [.int n, .str s], .int p, a] : List D) 0 = some (.str w) := rfl
  simp [wS8, cmpF, dEq, dIdx, D.seq, it, D.rd, D.plain, D.depth, D.eqv, hw]
theorem ot_9 (w s : List Nat) (n p : Int) (a : D) (F : List D) (hF : F.length ≤ 500) : evS G wS9 [some (.tup [.str w, .tup [.int n, .str s], .int p, a]), some (.int n), some (.str s), some (.lst F), some (.lst (idsL n s)), none] S = .ok (.rt (.lst (F ++ [.tup [.str w, .tup [.int n, .str s], .int p, .non]]))) S := by
  have q0 : cutD [.str w, .tup [.int n, .str s], .int p, a] none (some (-1)) = [.str w, .tup [.int n, .str s], .int p] := rfl
  have q1 : cutD [.str w, .tup [.int n, .str s], .int p, a] (some 1) none = [.tup [.int n, .str s], .int p, a] := rfl
  have q2 : cutD [.str w, .tup [.int n, .str s], .int p, a] (some 2) none = [.int p, a] := rfl
  have q3 : cutD [.str w, .tup [.int n, .str s], .int p, a] none (some 1) = [.str w] := rfl
  have q4 : cutD [.str w, .tup [.int n, .str s], .int p, a] none (some 2) = [.str w, .tup [.int n, .str s]] := rfl
  have q5 : cutD [.str w, .tup [.int n, .str s], .int p, a] (some 3) none = [a] := rfl
  have q6 : cutD [.str w, .tup [.int n, .str s], .int p, a] none (some 3) = [.str w, .tup [.int n, .str s], .int p] := rfl
  have q7 : cutD [.str w, .tup [.int n, .str s], .int p, a] (some 4) none = [] := rfl
  have q8 : cutD [.str w, .tup [.int n, .str s], .int p, a] none (some 4) = [.str w, .tup [.int n, .str s], .int p, a] := rfl
  have hz : F.length + 1 ≤ 16777216 := by omega
  simp [wS9, D.asI, cut_tup, q0, q1, q2, q3, q4, q5, q6, q7, q8, binF, dAdd, mkList, sizeLine_lit, hz]
end
end Law

set_option Elab.async false
set_option linter.all false
set_option maxRecDepth 100000
set_option maxHeartbeats 0
namespace Law
open PySem PySem.Spec PyProof.Rows L2 PD
theorem plains_all : ∀ {ws : List D}, (∀ w ∈ ws, w.plain = true) → D.plains ws = true
  | [], _ => rfl
  | w :: ws, h => by
    simp only [D.plains, h w List.mem_cons_self, plains_all fun x hx => h x (List.mem_cons_of_mem _ hx), Bool.and_self]
theorem wrong_end {k : Nat} {S : Store} {o : D} {ws : List D} (e : evSs (G7 k) d_law_wrong_b [some o, none, none, none, none, none] S = .ok (.rt (.lst ws)) S) (h : ∀ w ∈ ws, w.plain = true) : Ph (k + 1) 10 [o] S = .ok (.lst ws) S := by
  rw [phi_eq (d := d_law_wrong) rfl]
  refine (run_rt (S' := S) e).trans ?_
  rw [fin_pure (by simp only [D.pure]; exact plains_pures (plains_all h)), List.take_length]
theorem wrong_put (k : Nat) (S : Store) {n p : Int} {s : List Nat} {a c : D} (hn : 0 ≤ n ∧ n < 52) (hp : 0 ≤ p ∧ p < 52) (ha : a.plain = true) (hc : c.plain = true) : ∃ ws, Ph (k + 1) 10 [.tup [.str [112, 117, 116], .tup [.int n, .str s], .int p, a, c]] S = .ok (.lst ws) S ∧ ∀ w ∈ ws, w.plain = true ∧ opB w = false := by
  have key : ∃ ws, evSs (G7 k) d_law_wrong_b [some (.tup [.str [112, 117, 116], .tup [.int n, .str s], .int p, a, c]), none, none, none, none, none] S = .ok (.rt (.lst ws)) S ∧ ∀ w ∈ ws, w.plain = true ∧ opB w = false := by
    refine ⟨_, by rw [wrong_body, evSs_cons, s_1 _ S rfl, thenF_nx, evSs_cons, pt_2, thenF_nx, evSs_cons, s_3 _ S hn.1 (.inl hn.2), thenF_nx, evSs_cons, s_4, thenF_nx, evSs_cons, pt_5 _ S _ _ _ _ _ _ _ (by simp [baseL]), thenF_nx, evSs_cons, pt_6 _ S _ _ _ _ _ _ _ (by simp [baseL, idsL]) hp.1 (.inl hp.2), thenF_nx, evSs_cons, pt_7 _ S _ _ _ _ _ _ _ (by simp [baseL, idsL, numsL]), thenF_nx, evSs_cons, pt_8 _ S _ _ _ _ _ _ (by simp [baseL, idsL, numsL, ahL]), thenF_rt], ?_⟩
    intro w hw
    rcases List.mem_append.mp hw with hw | hw
    · rcases List.mem_append.mp hw with hw | hw
      · rcases List.mem_append.mp hw with hw | hw
        · rcases List.mem_append.mp hw with hw | hw
          · have q0 : PD.cutD [.str [112, 117, 116], .tup [.int n, .str s], .int p, a, c] none (some (-1)) = [.str [112, 117, 116], .tup [.int n, .str s], .int p, a] := rfl
            have q1 : PD.cutD [.str [112, 117, 116], .tup [.int n, .str s], .int p, a, c] (some 1) none = [.tup [.int n, .str s], .int p, a, c] := rfl
            have q2 : PD.cutD [.str [112, 117, 116], .tup [.int n, .str s], .int p, a, c] (some 2) none = [.int p, a, c] := rfl
            simp only [baseL, q0, q1, q2, List.mem_cons, List.not_mem_nil, or_false] at hw
            rcases hw with rfl | rfl | rfl | rfl | rfl | rfl | rfl | rfl | rfl | rfl <;> refine ⟨by simp [D.plain, D.plains, ha, hc], ?_⟩ <;> simp [opB, idB]
          · obtain ⟨x, hx, rfl⟩ := List.mem_map.mp hw
            have := ids_bad n s x hx
            exact ⟨by simp [D.plain, D.plains, ha, hc, this.1], put_id this.2⟩
        · obtain ⟨x, hx, rfl⟩ := List.mem_map.mp hw
          have := nums_bad n p x hx
          exact ⟨by simp [D.plain, D.plains, ha, hc, this.1], put_num this.2⟩
      · obtain ⟨x, hx, rfl⟩ := List.mem_map.mp hw
        have := ah_bad n s x hx
        exact ⟨by simp [D.plain, D.plains, ha, hc, this.1], put_ah this.2.1 this.2.2⟩
    · obtain ⟨x, hx, rfl⟩ := List.mem_map.mp hw
      have := sg_bad x hx
      exact ⟨by simp [D.plain, D.plains, ha, hc, this.1], put_sg this.2⟩
  obtain ⟨ws, e, h⟩ := key
  exact ⟨ws, wrong_end e fun w hw => (h w hw).1, h⟩
theorem wrong_oth (k : Nat) (S : Store) {w : List Nat} (hw0 : w = [99, 117, 116] ∨ w = [117, 110, 100, 111]) {n p : Int} {s : List Nat} {a : D} (hn : 0 ≤ n ∧ (n < 52 ∨ n = 1000000)) (hp : 0 ≤ p ∧ (p < 52 ∨ p = 999999)) (ha : a.plain = true) : ∃ ws, Ph (k + 1) 10 [.tup [.str w, .tup [.int n, .str s], .int p, a]] S = .ok (.lst ws) S ∧ ∀ w ∈ ws, w.plain = true ∧ opB w = false := by
  have hne : w ≠ [112, 117, 116] := by rcases hw0 with rfl | rfl <;> decide
  have key : ∃ ws, evSs (G7 k) d_law_wrong_b [some (.tup [.str w, .tup [.int n, .str s], .int p, a]), none, none, none, none, none] S = .ok (.rt (.lst ws)) S ∧ ∀ w ∈ ws, w.plain = true ∧ opB w = false := by
    refine ⟨_, by rw [wrong_body, evSs_cons, s_1 _ S rfl, thenF_nx, evSs_cons, ot_2, thenF_nx, evSs_cons, s_3 _ S hn.1 (by omega), thenF_nx, evSs_cons, s_4, thenF_nx, evSs_cons, ot_5 _ S _ _ _ _ _ _ (by simp [baseL]), thenF_nx, evSs_cons, ot_6 _ S _ _ _ _ _ _ (by simp [baseL, idsL]) hp.1 (by omega), thenF_nx, evSs_cons, ot_7 _ S _ _ _ _ _ _ (by simp [baseL, idsL, numsL]), thenF_nx, evSs_cons, ot_8 _ S _ _ _ _ _ hne, thenF_nx, evSs_cons, ot_9 _ S _ _ _ _ _ _ (by simp [baseL, idsL, numsL, ahL]), thenF_rt], ?_⟩
    intro v hw
    rcases List.mem_append.mp hw with hw | hw
    · rcases List.mem_append.mp hw with hw | hw
      · rcases List.mem_append.mp hw with hw | hw
        · rcases List.mem_append.mp hw with hw | hw
          · have q0 : PD.cutD [.str w, .tup [.int n, .str s], .int p, a] none (some (-1)) = [.str w, .tup [.int n, .str s], .int p] := rfl
            have q1 : PD.cutD [.str w, .tup [.int n, .str s], .int p, a] (some 1) none = [.tup [.int n, .str s], .int p, a] := rfl
            have q2 : PD.cutD [.str w, .tup [.int n, .str s], .int p, a] (some 2) none = [.int p, a] := rfl
            simp only [baseL, q0, q1, q2, List.mem_cons, List.not_mem_nil, or_false] at hw
            rcases hw with rfl | rfl | rfl | rfl | rfl | rfl | rfl | rfl | rfl | rfl <;> refine ⟨by simp [D.plain, D.plains, ha], ?_⟩ <;> rcases hw0 with rfl | rfl <;> simp [opB, idB]
          · obtain ⟨x, hx, rfl⟩ := List.mem_map.mp hw
            have := ids_bad n s x hx
            exact ⟨by simp [D.plain, D.plains, ha, this.1], oth_id hw0 this.2⟩
        · obtain ⟨x, hx, rfl⟩ := List.mem_map.mp hw
          have := nums_bad n p x hx
          exact ⟨by simp [D.plain, D.plains, ha, this.1], oth_num hw0 this.2⟩
      · obtain ⟨x, hx, rfl⟩ := List.mem_map.mp hw
        have := ah_bad n s x hx
        exact ⟨by simp [D.plain, D.plains, this.1], oth_ah hw0 this.2.2⟩
    · simp only [List.mem_cons, List.not_mem_nil, or_false] at hw
      subst hw
      exact ⟨by simp [D.plain, D.plains], oth_ah hw0 (by simp [aheadB, idB])⟩
  obtain ⟨ws, e, h⟩ := key
  exact ⟨ws, wrong_end e fun w hw => (h w hw).1, h⟩
theorem wrong_ok (k : Nat) (S : Store) {o : D} (h : Good o) : ∃ ws, Ph (k + 1) 10 [o] S = .ok (.lst ws) S ∧ ∀ w ∈ ws, w.plain = true ∧ opB w = false := by
  cases h with
  | put n p s a c hn hs h0 h1 ha hc => exact wrong_put k S (by omega) (by omega) (by rcases ha with rfl | ⟨m, t, rfl, _⟩ <;> rfl) rfl
  | oth w n p m s t hw hn hs h0 h1 hp hm1 hm2 ht => exact wrong_oth k S hw (by omega) (by omega) rfl
end Law

set_option Elab.async false
set_option linter.all false
set_option maxRecDepth 100000
set_option maxHeartbeats 0
namespace Law
open PySem PySem.Spec PyProof.Rows L2 PD
def lS1 : PD.St := (.set 1 (.call 7 (.cons (.var 0) .nil)))
def lB : Sts := (.cons (.iff (.or (.cmp .isNot (.call 5 (.cons (.var 2) .nil)) (.cst (.bl true))) (.one (.cmp .ne (.comp (.var 3) (.nm 3) (.seq (.call 10 (.cons (.var 2) .nil))) (.cons (.cmp .isNot (.call 5 (.cons (.var 3) .nil)) (.cst (.bl false))) .nil) false) (.lst .nil)))) (.cons (.ret (.cst (.bl false))) .nil) .nil) .nil)
def lS2 : PD.St := (.forr (.nm 2) (.seq (.call 9 (.cons (.var 1) .nil))) lB)
def lS3 : PD.St := (.set 4 (.comp (.tup (.cons (.var 5) (.cons (.bin .add (.cst (.int 1)) (.call 8 (.cons (.var 1) (.cons (.bin .pow (.cst (.int 10)) (.cst (.int 6))) .nil)))) .nil))) (.nm 5) (.seq (.lst (.cons (.cst (.str [97])) (.cons (.cst (.str [98])) (.cons (.cst (.str [98, 97])) (.cons (.bin .mul (.cst (.str [122])) (.cst (.int 16))) .nil)))))) (.cons (.cmp .eq (.call 8 (.cons (.var 1) (.cons (.cst (.int 2)) .nil))) (.cst (.int 0))) .nil) false))
def lS4 : PD.St := (.set 6 (.lst (.cons (.tup .nil) (.cons (.bif .tuple (.cons (.var 4) .nil)) (.cons (.tup (.cons (.tup (.cons (.cst (.str [97])) (.cons (.cst (.int 1)) .nil))) (.cons (.tup (.cons (.cst (.str [98])) (.cons (.bin .pow (.cst (.int 10)) (.cst (.int 6))) .nil))) .nil))) .nil)))))
def lS5 : PD.St := (.set 7 (.lst (.cons (.cst .non) (.cons (.lst .nil) (.cons (.cst (.int 5)) (.cons (.cst (.str [97, 58, 49])) (.cons (.var 4) (.cons (.tup (.cons (.tup (.cons (.cst (.str [97])) .nil)) .nil)) (.cons (.tup (.cons (.tup (.cons (.cst (.str [97])) (.cons (.cst (.int 1)) (.cons (.cst (.int 2)) .nil)))) .nil)) (.cons (.tup (.cons (.lst (.cons (.cst (.str [97])) (.cons (.cst (.int 1)) .nil))) .nil)) (.cons (.tup (.cons (.tup (.cons (.cst (.str [98])) (.cons (.cst (.int 1)) .nil))) (.cons (.tup (.cons (.cst (.str [97])) (.cons (.cst (.int 1)) .nil))) .nil))) (.cons (.tup (.cons (.tup (.cons (.cst (.str [97])) (.cons (.cst (.int 1)) .nil))) (.cons (.tup (.cons (.cst (.str [97])) (.cons (.cst (.int 2)) .nil))) .nil))) (.cons (.tup (.cons (.cst (.int 1)) (.cons (.cst (.str [97])) .nil))) .nil)))))))))))))
def lS6 : PD.St := (.set 7 (.bin .add (.bin .add (.var 7) (.comp (.tup (.cons (.tup (.cons (.var 5) (.cons (.cst (.int 1)) .nil))) .nil)) (.nm 5) (.seq (.lst (.cons (.cst (.str [])) (.cons (.cst (.str [65])) (.cons (.cst .non) (.cons (.bin .mul (.cst (.str [122])) (.cst (.int 17))) (.cons (.cst (.int 5)) .nil))))))) .nil false)) (.comp (.tup (.cons (.tup (.cons (.cst (.str [97])) (.cons (.var 8) .nil))) .nil)) (.nm 8) (.seq (.lst (.cons (.cst (.int 0)) (.cons (.neg (.cst (.int 1))) (.cons (.bin .add (.bin .pow (.cst (.int 10)) (.cst (.int 6))) (.cst (.int 1))) (.cons (.cst .non) (.cons (.cst (.str [49])) (.cons (.cst (.bl true)) .nil)))))))) .nil false)))
def lS7 : PD.St := (.ret (.and (.cmp .eq (.comp (.var 3) (.nm 3) (.seq (.var 6)) (.cons (.cmp .isNot (.call 6 (.cons (.var 3) .nil)) (.cst (.bl true))) .nil) false) (.lst .nil)) (.one (.cmp .eq (.comp (.var 3) (.nm 3) (.seq (.var 7)) (.cons (.cmp .isNot (.call 6 (.cons (.var 3) .nil)) (.cst (.bl false))) .nil) false) (.lst .nil)))))
theorem law_body : d_law_b = (.cons lS1 (.cons lS2 (.cons lS3 (.cons lS4 (.cons lS5 (.cons lS6 (.cons lS7 .nil))))))) := rfl

theorem comp_none {G : Dn} {e : Ex} {i f : Nat} {b : Bool} {δ : DEnv} {S S0 : Store} {ds : List D} (he : ev G e δ S0 = .ok (.lst ds) S) (h : ∀ x ∈ ds, G.Φ f [x] S = .ok (.bl b) S) (hg : ∀ x, getD ((δ.set i none).set i (some x)) i = some x) : ev G (.comp (.var i) (.nm i) (.seq e) (.cons (.cmp .isNot (.call f (.cons (.var i) .nil)) (.cst (.bl b))) .nil) false) δ S0 = .ok (.lst []) S := by
  have e1 : mapL (turnB G (.var i) (.nm i) (.cons (.cmp .isNot (.call f (.cons (.var i) .nil)) (.cst (.bl b))) .nil) δ) ds S = .ok (ds.filterMap fun _ => none) S := mapL_pure fun x hx => by
    simp only [turnB, slots_nm, wipeD_cons, wipeD_nil, tset_nm, liftO_some, Out.bind_ok, tsts_one, tst_cmp, ev_call, evs_cons, evs_nil, ev_var, hg x, lift_some, h x hx, ev_cst, cmpF, dIsNot, decide_true, Bool.not_true, D.asB_bl, liftB_some, Bool.false_eq_true, if_false]
  rw [ev_comp, evI_seq, he, Out.bind_ok]
  have e2 : srcOf (.lst ds) = some (.st ds) := rfl
  rw [e2, liftO_some, Out.bind_ok]
  have e3 : (Src.st ds).items = some ds := rfl
  rw [e3, liftO_some, Out.bind_ok, e1]
  have e4 : (ds.filterMap fun _ => (none : Option D)) = [] := by simp
  rw [e4, nox_ok, Out.bind_ok]
  rfl
theorem ne_nil (S : Store) : cmpF .ne (.lst []) (.lst []) S = some (.bl false) := rfl
theorem eq_nil (S : Store) : cmpF .eq (.lst []) (.lst []) S = some (.bl true) := rfl
theorem ev_nil (G : Dn) (δ : DEnv) (S : Store) : ev G (.lst .nil) δ S = .ok (.lst []) S := rfl
theorem l_turn {o : D} (h : Good o) (a q r4 r5 r6 r7 r8 : Option D) (r3 : Option D) (S : Store) : turnS (G7 9) (.nm 2) lB o [a, q, r8, r3, r4, r5, r6, r7, none] S = .ok (.nx [a, q, some o, r3, r4, r5, r6, r7, none]) S := by
  obtain ⟨ws, e1, h1⟩ := wrong_ok 8 S h
  have e2 : Ph 9 5 [o] S = .ok (.bl true) S := by rw [is_operation_ok 5 (good_plain h), good_op h]
  have e3 : ev (G7 9) (.comp (.var 3) (.nm 3) (.seq (.call 10 (.cons (.var 2) .nil))) (.cons (.cmp .isNot (.call 5 (.cons (.var 3) .nil)) (.cst (.bl false))) .nil) false) [a, q, some o, r3, r4, r5, r6, r7, none] S = .ok (.lst []) S := by
    refine comp_none (ds := ws) ?_ (fun x hx => ?_) (fun x => rfl)
    · exact e1
    · have := is_operation_ok 5 (h1 x hx).1 S
      rw [(h1 x hx).2] at this
      exact this
  have e4 : ev (G7 9) (.call 5 (.cons (.var 2) .nil)) [a, q, some o, r3, r4, r5, r6, r7, none] S = .ok (.bl true) S := e2
  have et : turnS (G7 9) (.nm 2) lB o [a, q, r8, r3, r4, r5, r6, r7, none] S = evSs (G7 9) lB [a, q, some o, r3, r4, r5, r6, r7, none] S := by
    simp only [turnS, tset_nm, List.set, liftO_some, Out.bind_ok]
  have e5 : cmpF .isNot (.bl true) (.bl true) S = some (.bl false) := rfl
  rw [et]
  unfold lB
  rw [evSs_cons, evS_iff, tst_or, tst_cmp, e4, Out.bind_ok, ev_cst, Out.bind_ok, e5, lift_some, Out.bind_ok, D.asB_bl, liftB_some, Out.bind_ok, if_neg Bool.false_ne_true, tst_one, tst_cmp, e3, Out.bind_ok, ev_nil, Out.bind_ok, ne_nil, lift_some, Out.bind_ok, D.asB_bl, liftB_some, exS_ok, if_neg Bool.false_ne_true, evSs_nil, thenF_nx, evSs_nil]
theorem l_2 (a : D) (xs : List Int) : ∃ ys q, evS (G7 9) lS2 [some a, some (.obj 0), none, none, none, none, none, none, none] (Sx xs) = .ok (.nx [some a, some (.obj 0), q, none, none, none, none, none, none]) (Sx ys) := by
  obtain ⟨rows, ys, e, hg⟩ := rows_ok 7 xs
  obtain ⟨δ', S', e2, q, rfl, rfl⟩ := forL_inv (body := turnS (G7 9) (.nm 2) lB) (xs := rows) (P := fun _ δ S => ∃ q, δ = [some a, some (.obj 0), q, none, none, none, none, none, none] ∧ S = Sx ys) (δ := [some a, some (.obj 0), none, none, none, none, none, none, none]) (S := Sx ys) ⟨none, rfl, rfl⟩ fun i x δ S hx ⟨q, e1, e2⟩ => by
    subst e1; subst e2
    exact ⟨_, _, .inl (l_turn (hg x (List.mem_of_getElem? hx)) _ _ _ _ _ _ _ _ _), some x, rfl, rfl⟩
  refine ⟨ys, q, ?_⟩
  have ec : ev (G7 9) (.call 9 (.cons (.var 1) .nil)) [some a, some (.obj 0), none, none, none, none, none, none, none] (Sx xs) = .ok (.lst rows) (Sx ys) := e
  have es : srcOf (.lst rows) = some (.st rows) := rfl
  unfold lS2
  rw [evS_forr, evI_seq, ec, Out.bind_ok, es, liftO_some, exS_ok]
  exact e2
inductive RowsOf : List D → List D → Prop
  | nil : RowsOf [] []
  | skip {x xs r} : RowsOf xs r → RowsOf (x :: xs) r
  | take {x xs r} (v : Int) : 1 ≤ v → v ≤ 1000000 → RowsOf xs r → RowsOf (x :: xs) (.tup [x, .int v] :: r)
def lE : Ex := .tup (.cons (.var 5) (.cons (.bin .add (.cst (.int 1)) (.call 8 (.cons (.var 1) (.cons (.bin .pow (.cst (.int 10)) (.cst (.int 6))) .nil)))) .nil))
def lC : Exs := .cons (.cmp .eq (.call 8 (.cons (.var 1) (.cons (.cst (.int 2)) .nil))) (.cst (.int 0))) .nil
theorem l_rows (a : D) (q : Option D) : ∀ (names : List D) (xs : List Int), ∃ rows ys, mapL (turnB (G7 9) lE (.nm 5) lC [some a, some (.obj 0), q, none, none, none, none, none, none]) names (Sx xs) = .ok rows (Sx ys) ∧ RowsOf names rows
  | [], xs => ⟨[], xs, rfl, .nil⟩
  | x :: names, xs => by
    obtain ⟨v1, y1, a1, b1, e1⟩ := take_ok 8 xs (m := 2) (by omega)
    by_cases h : v1 = 0
    · subst h
      obtain ⟨v2, y2, a2, b2, e2⟩ := take_ok 8 y1 (m := 1000000) (by omega)
      obtain ⟨rows, ys, e, hr⟩ := l_rows a q names y2
      refine ⟨.tup [x, .int (1 + v2)] :: rows, ys, ?_, .take (1 + v2) (by omega) (by omega) hr⟩
      have t : turnB (G7 9) lE (.nm 5) lC [some a, some (.obj 0), q, none, none, none, none, none, none] x (Sx xs) = .ok (some (.tup [x, .int (1 + v2)])) (Sx y2) := by
        have ec : Ph 9 8 [.obj 0, .int 2] (Sx xs) = .ok (.int 0) (Sx y1) := e1
        have ed : Ph 9 8 [.obj 0, .int 1000000] (Sx y1) = .ok (.int (1 + v2 - 1)) (Sx y2) := by rw [e2]; congr 2; omega
        simp [turnB, lE, lC, cmpF, dEq, D.rd, D.plain, D.depth, D.eqv, binF, p6, dAdd, sizeLine_lit, e1, e2]
      unfold mapL
      rw [t, Out.bind_ok, e, Out.bind_ok]
    · obtain ⟨rows, ys, e, hr⟩ := l_rows a q names y1
      refine ⟨rows, ys, ?_, .skip hr⟩
      have t : turnB (G7 9) lE (.nm 5) lC [some a, some (.obj 0), q, none, none, none, none, none, none] x (Sx xs) = .ok none (Sx y1) := by
        simp [turnB, lE, lC, cmpF, dEq, D.rd, D.plain, D.depth, D.eqv, e1, h]
      unfold mapL
      rw [t, Out.bind_ok, e, Out.bind_ok]
def namesL : List D := [.str [97], .str [98], .str [98, 97], .str (rep 16 [122])]
theorem l_3 (a : D) (q : Option D) (xs : List Int) : ∃ rows ys, RowsOf namesL rows ∧ evS (G7 9) lS3 [some a, some (.obj 0), q, none, none, none, none, none, none] (Sx xs) = .ok (.nx [some a, some (.obj 0), q, none, some (.lst rows), none, none, none, none]) (Sx ys) := by
  obtain ⟨rows, ys, e, hr⟩ := l_rows a q namesL xs
  have hlen : rows.length ≤ sizeLine := by
    have : ∀ {n r : List D}, RowsOf n r → r.length ≤ n.length := fun h => by
      induction h with
      | nil => exact Nat.le_refl _
      | skip _ ih => rw [List.length_cons]; omega
      | take _ _ _ _ ih => rw [List.length_cons, List.length_cons]; omega
    have := this hr
    rw [sizeLine_lit]
    simp [namesL] at this
    omega
  refine ⟨rows, ys, hr, ?_⟩
  have z16 : ∀ S, dMul (.str [122]) (.int 16) S = some (.str (rep 16 [122])) := fun S => by simp [dMul, sizeLine_lit]
  have en : ev (G7 9) (.lst (.cons (.cst (.str [97])) (.cons (.cst (.str [98])) (.cons (.cst (.str [98, 97])) (.cons (.bin .mul (.cst (.str [122])) (.cst (.int 16))) .nil))))) [some a, some (.obj 0), q, none, none, none, none, none, none] (Sx xs) = .ok (.lst namesL) (Sx xs) := by
    simp [binF, z16, mkList, sizeLine_lit, namesL]
  have es : srcOf (.lst namesL) = some (.st namesL) := rfl
  have ei : (Src.st namesL).items = some namesL := rfl
  unfold lS3
  rw [evS_set, ev_comp, evI_seq, en, Out.bind_ok, es, liftO_some, Out.bind_ok, ei, liftO_some, Out.bind_ok]
  have e' := e
  unfold lE lC at e'
  rw [e', nox_ok, Out.bind_ok]
  simp [mkList, hlen]
theorem rows_seen {rows : List D} (h : RowsOf namesL rows) : seenB (.tup rows) = true ∧ D.plains rows = true ∧ rows.length ≤ 4 := by
  obtain ⟨n1, n2, n3, n4, n5⟩ := name_cases
  unfold namesL at h
  cases h <;> rename_i h <;> cases h <;> rename_i h <;> cases h <;> rename_i h <;> cases h <;> rename_i h <;> cases h <;> refine ⟨?_, rfl, by simp⟩ <;> (unfold seenB; rw [Bool.and_eq_true]; refine ⟨?_, by rfl⟩; simp [rowB, numB, n1, n2, n4, n5]; try omega)
end Law

set_option Elab.async false
set_option linter.all false
set_option maxRecDepth 100000
set_option maxHeartbeats 0
namespace Law
open PySem PySem.Spec PyProof.Rows L2 PD
def goodL (rows : List D) : List D := [.tup [], .tup rows, .tup [.tup [.str [97], .int 1], .tup [.str [98], .int 1000000]]]
def oddA (rows : List D) : List D := [.non, .lst [], .int 5, .str [97, 58, 49], .lst rows, .tup [.tup [.str [97]]], .tup [.tup [.str [97], .int 1, .int 2]], .tup [.lst [.str [97], .int 1]], .tup [.tup [.str [98], .int 1], .tup [.str [97], .int 1]], .tup [.tup [.str [97], .int 1], .tup [.str [97], .int 2]], .tup [.int 1, .str [97]]]
def oddB : List D := [.str [], .str [65], .non, .str (rep 17 [122]), .int 5]
def oddC : List D := [.int 0, .int (-1), .int 1000001, .non, .str [49], .bl true]
def oddL (rows : List D) : List D := oddA rows ++ oddB.map (fun x => .tup [.tup [x, .int 1]]) ++ oddC.map (fun x => .tup [.tup [.str [97], x]])
theorem good_seen {rows : List D} (h : RowsOf namesL rows) : ∀ x ∈ goodL rows, x.plain = true ∧ seenB x = true ∧ ∀ ds, x = .tup ds → ds.length ≤ 1000 := by
  obtain ⟨h1, h2, h3⟩ := rows_seen h
  obtain ⟨n1, n2, n3, n4, n5⟩ := name_cases
  intro x hx
  simp only [goodL, List.mem_cons, List.not_mem_nil, or_false] at hx
  rcases hx with rfl | rfl | rfl
  · exact ⟨rfl, rfl, fun ds e => by cases e; simp⟩
  · exact ⟨by simpa [D.plain] using h2, h1, fun ds e => by cases e; omega⟩
  · refine ⟨rfl, ?_, fun ds e => by cases e; simp⟩
    unfold seenB
    rw [Bool.and_eq_true]
    exact ⟨by simp [rowB, numB, n1, n2], rfl⟩
theorem odd_seen {rows : List D} (h : RowsOf namesL rows) : ∀ x ∈ oddL rows, x.plain = true ∧ seenB x = false ∧ ∀ ds, x = .tup ds → ds.length ≤ 1000 := by
  obtain ⟨h1, h2, h3⟩ := rows_seen h
  intro x hx
  rcases List.mem_append.mp hx with hx | hx
  · rcases List.mem_append.mp hx with hx | hx
    · simp only [oddA, List.mem_cons, List.not_mem_nil, or_false] at hx
      rcases hx with rfl | rfl | rfl | rfl | rfl | rfl | rfl | rfl | rfl | rfl | rfl <;> refine ⟨by simp [D.plain, D.plains, h2], ?_, fun ds e => by cases e <;> simp⟩ <;> first | rfl | (unfold seenB; rw [Bool.and_eq_false_iff]; exact .inr rfl) | simp [seenB, rowB]
    · obtain ⟨y, hy, rfl⟩ := List.mem_map.mp hx
      simp only [oddB, List.mem_cons, List.not_mem_nil, or_false] at hy
      rcases hy with rfl | rfl | rfl | rfl | rfl <;> refine ⟨rfl, ?_, fun ds e => by cases e; simp⟩ <;> simp [seenB, rowB, nameB, rep]
  · obtain ⟨y, hy, rfl⟩ := List.mem_map.mp hx
    simp only [oddC, List.mem_cons, List.not_mem_nil, or_false] at hy
    rcases hy with rfl | rfl | rfl | rfl | rfl | rfl <;> refine ⟨rfl, ?_, fun ds e => by cases e; simp⟩ <;> simp [seenB, rowB, numB]
section
variable (a : D) (q : Option D) (rows : List D) (S : Store)
theorem l_4 : evS (G7 9) lS4 [some a, some (.obj 0), q, none, some (.lst rows), none, none, none, none] S = .ok (.nx [some a, some (.obj 0), q, none, some (.lst rows), none, some (.lst (goodL rows)), none, none]) S := by
  simp [lS4, bifF, dTuple, D.seq, binF, p6, mkList, sizeLine_lit, goodL]
theorem l_5 : evS (G7 9) lS5 [some a, some (.obj 0), q, none, some (.lst rows), none, some (.lst (goodL rows)), none, none] S = .ok (.nx [some a, some (.obj 0), q, none, some (.lst rows), none, some (.lst (goodL rows)), some (.lst (oddA rows)), none]) S := by
  simp [lS5, mkList, sizeLine_lit, oddA]
theorem l_6 : evS (G7 9) lS6 [some a, some (.obj 0), q, none, some (.lst rows), none, some (.lst (goodL rows)), some (.lst (oddA rows)), none] S = .ok (.nx [some a, some (.obj 0), q, none, some (.lst rows), none, some (.lst (goodL rows)), some (.lst (oddL rows)), none]) S := by
  have e1 := comp_map (G := G7 9) (el := .tup (.cons (.tup (.cons (.var 5) (.cons (.cst (.int 1)) .nil))) .nil)) (e := .lst (.cons (.cst (.str [])) (.cons (.cst (.str [65])) (.cons (.cst .non) (.cons (.bin .mul (.cst (.str [122])) (.cst (.int 17))) (.cons (.cst (.int 5)) .nil)))))) (i := 5) (δ := [some a, some (.obj 0), q, none, some (.lst rows), none, some (.lst (goodL rows)), some (.lst (oddA rows)), none]) (S := S) (ds := oddB) (fun x => .tup [.tup [x, .int 1]]) (by simp [binF, z17, mkList, sizeLine_lit, oddB]) (by simp [oddB]) (fun x => by simp [sizeLine_lit])
  have e2 := comp_map (G := G7 9) (el := .tup (.cons (.tup (.cons (.cst (.str [97])) (.cons (.var 8) .nil))) .nil)) (e := .lst (.cons (.cst (.int 0)) (.cons (.neg (.cst (.int 1))) (.cons (.bin .add (.bin .pow (.cst (.int 10)) (.cst (.int 6))) (.cst (.int 1))) (.cons (.cst .non) (.cons (.cst (.str [49])) (.cons (.cst (.bl true)) .nil))))))) (i := 8) (δ := [some a, some (.obj 0), q, none, some (.lst rows), none, some (.lst (goodL rows)), some (.lst (oddA rows)), none]) (S := S) (ds := oddC) (fun x => .tup [.tup [.str [97], x]]) (by simp [negF, binF, p6, dAdd, mkList, sizeLine_lit, oddC]) (by simp [oddC]) (fun x => by simp [sizeLine_lit])
  have e0 : getD [some a, some (.obj 0), q, none, some (.lst rows), none, some (.lst (goodL rows)), some (.lst (oddA rows)), none] 7 = some (.lst (oddA rows)) := rfl
  unfold lS6
  rw [evS_set, ev_bin, ev_bin, ev_var, e0, lift_some, Out.bind_ok, e1, Out.bind_ok, add_l (by simp [oddA]) (by simp [oddB]), lift_some, Out.bind_ok, e2, Out.bind_ok, add_l (by simp [oddA, oddB]) (by simp [oddC]), lift_some, exS_ok]
  rfl
theorem l_7 {rows : List D} (h : RowsOf namesL rows) : evS (G7 9) lS7 [some a, some (.obj 0), q, none, some (.lst rows), none, some (.lst (goodL rows)), some (.lst (oddL rows)), none] S = .ok (.rt (.bl true)) S := by
  have e1 : ev (G7 9) (.comp (.var 3) (.nm 3) (.seq (.var 6)) (.cons (.cmp .isNot (.call 6 (.cons (.var 3) .nil)) (.cst (.bl true))) .nil) false) [some a, some (.obj 0), q, none, some (.lst rows), none, some (.lst (goodL rows)), some (.lst (oddL rows)), none] S = .ok (.lst []) S := by
    refine comp_none (ds := goodL rows) rfl (fun x hx => ?_) (fun x => rfl)
    obtain ⟨h1, h2, h3⟩ := good_seen h x hx
    have := is_seen_ok 7 h1 h3 S
    rw [h2] at this
    exact this
  have e2 : ev (G7 9) (.comp (.var 3) (.nm 3) (.seq (.var 7)) (.cons (.cmp .isNot (.call 6 (.cons (.var 3) .nil)) (.cst (.bl false))) .nil) false) [some a, some (.obj 0), q, none, some (.lst rows), none, some (.lst (goodL rows)), some (.lst (oddL rows)), none] S = .ok (.lst []) S := by
    refine comp_none (ds := oddL rows) rfl (fun x hx => ?_) (fun x => rfl)
    obtain ⟨h1, h2, h3⟩ := odd_seen h x hx
    have := is_seen_ok 7 h1 h3 S
    rw [h2] at this
    exact this
  unfold lS7
  rw [evS_ret, ev_and, ev_cmp, e1, Out.bind_ok, ev_nil, Out.bind_ok, eq_nil, lift_some, Out.bind_ok, D.asB_bl, liftB_some, Out.bind_ok, if_pos rfl, ev_one, ev_cmp, e2, Out.bind_ok, ev_nil, Out.bind_ok, eq_nil, lift_some, exS_ok]
end
theorem law_ok (ns : List Int) (s : D) (hn : ns.length ≤ 63) (hs : IsScript ns s) : Phi (gam hk.gts) hk.dfs (9 + 1) 11 [s] [] = .ok (.bl true) [] := by
  obtain ⟨xs, e1⟩ := draws_ok 8 (by omega : ns.length ≤ 1000) hs
  obtain ⟨ys, q, e2⟩ := l_2 s xs
  obtain ⟨rows, zs, hr, e3⟩ := l_3 s q ys
  have e0 : evS (G7 9) lS1 [some s, none, none, none, none, none, none, none, none] [] = .ok (.nx [some s, some (.obj 0), none, none, none, none, none, none, none]) (Sx xs) := by
    have ec : ev (G7 9) (.call 7 (.cons (.var 0) .nil)) [some s, none, none, none, none, none, none, none, none] [] = .ok (.obj 0) (Sx xs) := e1
    unfold lS1
    rw [evS_set, ec, exS_ok]
    rfl
  have key : evSs (G7 9) d_law_b [some s, none, none, none, none, none, none, none, none] [] = .ok (.rt (.bl true)) (Sx zs) := by
    rw [law_body, evSs_cons, e0, thenF_nx, evSs_cons, e2, thenF_nx, evSs_cons, e3, thenF_nx, evSs_cons, l_4, thenF_nx, evSs_cons, l_5, thenF_nx, evSs_cons, l_6, thenF_nx, evSs_cons, l_7 _ _ _ hr, thenF_rt]
  show Ph (9 + 1) 11 [s] [] = _
  rw [phi_eq (d := d_law) rfl]
  refine (run_rt (S' := Sx zs) key).trans ?_
  rw [PD.fin_bl]
  rfl
end Law

open PySem PySem.W PySem.Calls PyProof.Rows
theorem PySem.Challenge.cw_editsagree_k63_whole_operations_and_seen_holds : PySem.Challenge.rw_editsagree_k63_whole_operations_and_seen.Holds := by
  w_on; o_law
  refine HandSHeadRun.head_any (r := Law.R) (q := view Law.R.prog [19]) (H := Law.hook) (ob := Law.ob) (M := 2000) (loose := ["is_number", "is_name", "FIRST_SIGN", "LAST_SIGN", "LINE_END", "MOST_COUNT", "LENGTHS", "is_id", "is_sign", "is_ahead", "is_operation", "is_seen", "_law_draws", "_law_take", "_law_rows", "_law_wrong"]) (d := HandSHeadRun.topDef Law.R.prog 19) (kwd := []) Law.ob_eq
    (by kernel_rfl) (fun s => by kernel_rfl) Law.run (by kernel_rfl) (by kernel_rfl) (by kernel_rfl) (by rfl) (by first | assumption | decide +kernel) (by decide +kernel) ⟨rfl, rfl, rfl, rfl, rfl, by decide +kernel⟩ ?hw ?hc
  case hw => w_witness2
  case hc =>
    exact PD.walk_PD (l := PySem.Challenge.rw_editsagree_k63_whole_operations_and_seen) (n := 63) (k := 9) (i := 11) (x := "script") (hk := Law.hk) (dl := Law.d_law) rfl (by decide) (by kernel_rfl) ⟨rfl, by decide, by decide⟩ Law.dfs_ok Law.pl_ok rfl (by kernel_rfl) rfl (by decide +kernel) Law.law_ok

