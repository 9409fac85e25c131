import PyProof.Rows.All
import Wide.All
import OpenK.AllK
import Wide.FinOn
import HandS.ForMost
import HandS.Exc
import HandS.TryOnly
import HandS.ExcOwn
import HandS.CallSlots
import HandS.TupAny
import HandS.HotCalls
import HandS.Defaults
import HandS.ExcIs
import HandS.Style
import HandS.Zip
import HandS.Iter
import KE.GoesMore
import KE.KRevSl
import PyProof.CollectStr
import PyProof.Rows.SortShellAny
import HandS.List
import HandS.Dict
import KE.KDictPairs
import HandS.IsInst
import HandS.Flow
import HandS.StrMore
import HandS.Rev
import HandS.Codes
import HandS.GenList
import HandS.Text
import HandS.Replace
import HandS.Star
import HandS.Deep
import HandS.AnyAll
import HandS.GenOver
import HandS.More
import HandS.HeadHook1
import HandS.Words
import KE.KNestM
import HandS.Ends
import HandS.EndTab
import HandS.Head0
import HandS.Head1
import HandS.Head2
import HandS.HeadEnd
import HandS.HeadHook2
import HandS.HeadHook3
import PySem.Challenge.RW_editsagree_k08_whole_marks_that_move
set_option Elab.async false
set_option linter.all false
set_option maxRecDepth 100000
namespace PD
open PySem PySem.Spec PyProof.Rows L2

/-- a Python value, by value; obj n: the n-th object of the store (a list that changes); rol: a list that is only read (known, or the module's) -/
inductive D where
  | non | bl (b : Bool) | int (i : Int) | str (s : List Nat)
  | tup (ds : List D) | lst (ds : List D) | rol (ds : List D)
  | dic (ks vs : List D) | st (ks : List D)
  | obj (n : Nat)
  | dob (n : Nat)
  | exn (c : String)

mutual
def D.pure : D → Bool
  | .tup ds => D.pures ds
  | .lst ds => D.pures ds
  | .rol ds => D.pures ds
  | .dic ks vs => D.pures ks && D.pures vs
  | .st ks => D.pures ks
  | .obj _ => false
  | .dob _ => false
  | .exn _ => false
  | _ => true
def D.pures : List D → Bool
  | [] => true
  | d :: ds => d.pure && D.pures ds
end

/-- a cell of the store -/
inductive C where
  | lst (ds : List D)
  | dic (ks vs : List D)
  | st (ks : List D)

abbrev Store := List C
abbrev DEnv := List (Option D)

inductive Out (α : Type) where
  | ok (a : α) (S : Store)
  | exc (x : String) (S : Store)
  | bad

def Out.bind {α β : Type} : Out α → (α → Store → Out β) → Out β
  | .ok a S, g => g a S
  | .exc x S, _ => .exc x S
  | .bad, _ => .bad
@[simp] theorem Out.bind_ok {α β : Type} (a : α) (S : Store) (g : α → Store → Out β) : (Out.ok a S).bind g = g a S := id rfl
@[simp] theorem Out.bind_exc {α β : Type} (x : String) (S : Store) (g : α → Store → Out β) : (Out.exc x S : Out α).bind g = .exc x S := id rfl
@[simp] theorem Out.bind_bad {α β : Type} (g : α → Store → Out β) : (Out.bad : Out α).bind g = .bad := id rfl

/-- what is fixed through a law -/
structure Wd where
  P : Program
  w : World
  K : PySem.W.Frag
  mg : Str → Option Value
  base : Heap
  /-- the code tables of the defs with generator expressions -/
  T : List Addr
  /-- the class of an error -/
  cls : String → Value

/-- where the cells of the store lie; hid: lists in the making, that nothing else may touch -/
structure Rn where
  at_ : Nat → Addr
  hid : List Addr
instance : CoeFun Rn (fun _ => Nat → Addr) := ⟨Rn.at_⟩

mutual
inductive RepV (K : PySem.W.Frag) (ρ : Rn) (N : Nat) (H : Hp) : D → V → Prop
  | non : RepV K ρ N H .non .non
  | bl (b : Bool) : RepV K ρ N H (.bl b) (.bl b)
  | int (i : Int) : RepV K ρ N H (.int i) (.int i)
  | str (s : List Nat) : (s.length ≤ sizeLine ∧ s.all (fun c => decide (c < 0x110000)) = true) → RepV K ρ N H (.str s) (.str ⟨s.toArray⟩)
  | tup {a : Addr} {vs : List V} {ds : List D} : SqT K H a vs → RepVs K ρ N H ds vs → RepV K ρ N H (.tup ds) (.ref a)
  | lst {a : Addr} {vs : List V} {ds : List D} : H a = some (.lst vs) → ((∀ i, i < N → ρ i ≠ a) ∧ a ∉ ρ.hid) → RepVs K ρ N H ds vs → RepV K ρ N H (.lst ds) (.ref a)
  | rol {a : Addr} {vs : List V} {ds : List D} : ((∃ o, H a = some (.frz o (.lst vs))) ∨ SqL K (fun _ => none) a vs) → RepVs K ρ N H ds vs → RepV K ρ N H (.rol ds) (.ref a)
  | st {a : Addr} {vs : List V} {ds : List D} {o : Obj} : H a = some (.frz o (.tup vs)) → o.dict = none → RepVs K ρ N H ds vs → RepV K ρ N H (.st ds) (.ref a)
  | dic {a : Addr} {kvs : List (Key × V)} {ks vs : List D} : H a = some (.dK kvs) → ((∀ i, i < N → ρ i ≠ a) ∧ a ∉ ρ.hid) → RepVs K ρ N H ks (kvs.map fun p => kV p.1) → RepVs K ρ N H vs (kvs.map Prod.snd) → RepV K ρ N H (.dic ks vs) (.ref a)
  | obj {n : Nat} : n < N → (∃ xs, H (ρ n) = some (.lst xs)) → RepV K ρ N H (.obj n) (.ref (ρ n))
  | dob {n : Nat} : n < N → (∃ kvs, H (ρ n) = some (.dK kvs)) → RepV K ρ N H (.dob n) (.ref (ρ n))
inductive RepVs (K : PySem.W.Frag) (ρ : Rn) (N : Nat) (H : Hp) : List D → List V → Prop
  | nil : RepVs K ρ N H [] []
  | cons {d : D} {v : V} {ds : List D} {vs : List V} : RepV K ρ N H d v → RepVs K ρ N H ds vs → RepVs K ρ N H (d :: ds) (v :: vs)
end

/-- the heap has grown: what no cell of the store holds is as it was -/
structure Ext (ρ : Rn) (N : Nat) (H : Hp) (ρ' : Rn) (N' : Nat) (H' : Hp) : Prop where
  le : N ≤ N'
  agree : ∀ i, i < N → ρ' i = ρ i
  tups : ∀ a xs, H a = some (.tup xs) → H' a = some (.tup xs)
  frzs : ∀ a o u, H a = some (.frz o u) → H' a = some (.frz o u)
  keep : ∀ a o, H a = some o → (∀ i, i < N → ρ i ≠ a) → (∀ ps, o ≠ .tbl ps) → H' a = some o
  there : ∀ a, H a ≠ none → H' a ≠ none
  fresh : ∀ i, N ≤ i → i < N' → H (ρ' i) = none
  hid : ρ'.hid = ρ.hid
  kL : ∀ i, i < N → (∃ xs, H (ρ i) = some (.lst xs)) → ∃ xs, H' (ρ i) = some (.lst xs)
  kD : ∀ i, i < N → (∃ xs, H (ρ i) = some (.dK xs)) → ∃ xs, H' (ρ i) = some (.dK xs)

theorem Ext.refl {ρ : Rn} {N : Nat} {H : Hp} : Ext ρ N H ρ N H :=
  ⟨Nat.le_refl _, fun _ _ => rfl, fun _ _ h => h, fun _ _ _ h => h, fun _ _ h _ _ => h, fun _ h => h, fun i h1 h2 => absurd h2 (Nat.not_lt.mpr h1), rfl, fun _ _ h => h, fun _ _ h => h⟩
theorem Ext.trans {ρ ρ1 ρ2 : Rn} {N N1 N2 : Nat} {H H1 H2 : Hp} (a : Ext ρ N H ρ1 N1 H1) (b : Ext ρ1 N1 H1 ρ2 N2 H2) : Ext ρ N H ρ2 N2 H2 where
  le := Nat.le_trans a.le b.le
  agree := fun i h => (b.agree i (Nat.lt_of_lt_of_le h a.le)).trans (a.agree i h)
  tups := fun x xs h => b.tups x xs (a.tups x xs h)
  frzs := fun x o u h => b.frzs x o u (a.frzs x o u h)
  keep := fun x o h hn ht => b.keep x o (a.keep x o h hn ht) (fun i hi => by
    by_cases hN : i < N
    · rw [a.agree i hN]; exact hn i hN
    · intro e
      have f := a.fresh i (Nat.le_of_not_lt hN) hi
      rw [e, h] at f; cases f) ht
  there := fun x h => b.there x (a.there x h)
  fresh := fun i h1 h2 => by
    by_cases hN : i < N1
    · rw [b.agree i hN]; exact a.fresh i h1 hN
    · have f := b.fresh i (Nat.le_of_not_lt hN) h2
      cases e : H (ρ2 i) with
      | none => rfl
      | some o => exact absurd f (a.there _ (by rw [e]; simp))
  hid := b.hid.trans a.hid
  kL := fun i h k => by
    have := b.kL i (Nat.lt_of_lt_of_le h a.le) (by rw [a.agree i h]; exact a.kL i h k)
    rw [a.agree i h] at this; exact this
  kD := fun i h k => by
    have := b.kD i (Nat.lt_of_lt_of_le h a.le) (by rw [a.agree i h]; exact a.kD i h k)
    rw [a.agree i h] at this; exact this

theorem SqT.ext {K : PySem.W.Frag} {ρ ρ' : Rn} {N N' : Nat} {H H' : Hp} {a : Addr} {xs : List V} (e : Ext ρ N H ρ' N' H') (h : SqT K H a xs) : SqT K H' a xs := by
  rcases h with (h | ⟨o, h⟩) | h
  · exact .inl (.inl (e.tups _ _ h))
  · exact .inl (.inr ⟨o, e.frzs _ _ _ h⟩)
  · exact .inr h
mutual
theorem RepV.mono {K : PySem.W.Frag} {ρ ρ' : Rn} {N N' : Nat} {H H' : Hp} (e : Ext ρ N H ρ' N' H') : ∀ {d : D} {v : V}, RepV K ρ N H d v → RepV K ρ' N' H' d v
  | _, _, .non => .non
  | _, _, .bl b => .bl b
  | _, _, .int i => .int i
  | _, _, .str s h => .str s h
  | _, _, .tup h r => .tup (SqT.ext e h) (RepVs.mono e r)
  | _, _, .lst h hn r => .lst (e.keep _ _ h hn.1 fun _ z => nomatch z) ⟨fun i hi => by
      by_cases hN : i < N
      · rw [e.agree i hN]; exact hn.1 i hN
      · intro q
        have f := e.fresh i (Nat.le_of_not_lt hN) hi
        rw [q, h] at f
        exact (nomatch f), fun z => hn.2 (by rw [← e.hid]; exact z)⟩ (RepVs.mono e r)
  | _, _, .st h q r => .st (e.frzs _ _ _ h) q (RepVs.mono e r)
  | _, _, .rol h r => .rol (by
      rcases h with ⟨o, h⟩ | h
      · exact .inl ⟨o, e.frzs _ _ _ h⟩
      · exact .inr h) (RepVs.mono e r)
  | _, _, .dic h hn r t => .dic (e.keep _ _ h hn.1 fun _ z => nomatch z) ⟨fun i hi => by
      by_cases hN : i < N
      · rw [e.agree i hN]; exact hn.1 i hN
      · intro q
        have f := e.fresh i (Nat.le_of_not_lt hN) hi
        rw [q, h] at f
        exact (nomatch f), fun z => hn.2 (by rw [← e.hid]; exact z)⟩ (RepVs.mono e r) (RepVs.mono e t)
  | _, _, .obj h k => by
      have k' := e.kL _ h k
      rw [← e.agree _ h] at k' ⊢
      exact .obj (Nat.lt_of_lt_of_le h e.le) k'
  | _, _, .dob h k => by
      have k' := e.kD _ h k
      rw [← e.agree _ h] at k' ⊢
      exact .dob (Nat.lt_of_lt_of_le h e.le) k'
theorem RepVs.mono {K : PySem.W.Frag} {ρ ρ' : Rn} {N N' : Nat} {H H' : Hp} (e : Ext ρ N H ρ' N' H') : ∀ {ds : List D} {vs : List V}, RepVs K ρ N H ds vs → RepVs K ρ' N' H' ds vs
  | _, _, .nil => .nil
  | _, _, .cons r t => .cons (RepV.mono e r) (RepVs.mono e t)
end
section
variable {K : PySem.W.Frag} {ρ : Rn} {N : Nat} {H : Hp}
theorem RepVs.length : ∀ {ds : List D} {vs : List V}, RepVs K ρ N H ds vs → ds.length = vs.length
  | _, _, .nil => rfl
  | _, _, .cons _ t => by simp [RepVs.length t]
theorem RepVs.get : ∀ {ds : List D} {vs : List V} {i : Nat} {d : D}, RepVs K ρ N H ds vs → ds[i]? = some d → ∃ v, vs[i]? = some v ∧ RepV K ρ N H d v
  | _, _, _, _, .nil, h => by simp at h
  | _, _, 0, _, .cons r _, h => by simp at h; subst h; exact ⟨_, rfl, r⟩
  | _, _, i + 1, d, .cons _ t, h => by
    obtain ⟨v, h1, h2⟩ := RepVs.get (i := i) (d := d) t (by simpa using h)
    exact ⟨v, by simpa using h1, h2⟩
theorem RepVs.getV : ∀ {ds : List D} {vs : List V} {i : Nat} {v : V}, RepVs K ρ N H ds vs → vs[i]? = some v → ∃ d, ds[i]? = some d ∧ RepV K ρ N H d v
  | _, _, _, _, .nil, h => by simp at h
  | _, _, 0, _, .cons r _, h => by simp at h; subst h; exact ⟨_, rfl, r⟩
  | _, _, i + 1, v, .cons _ t, h => by
    obtain ⟨d, h1, h2⟩ := RepVs.getV (i := i) (v := v) t (by simpa using h)
    exact ⟨d, by simpa using h1, h2⟩
theorem RepVs.append : ∀ {ds es : List D} {vs us : List V}, RepVs K ρ N H ds vs → RepVs K ρ N H es us → RepVs K ρ N H (ds ++ es) (vs ++ us)
  | _, _, _, _, .nil, s => s
  | _, _, _, _, .cons r t, s => .cons r (RepVs.append t s)
theorem RepVs.take : ∀ {ds : List D} {vs : List V} (n : Nat), RepVs K ρ N H ds vs → RepVs K ρ N H (ds.take n) (vs.take n)
  | _, _, 0, _ => .nil
  | _, _, _ + 1, .nil => .nil
  | _, _, n + 1, .cons r t => .cons r (RepVs.take n t)
theorem RepVs.drop : ∀ {ds : List D} {vs : List V} (n : Nat), RepVs K ρ N H ds vs → RepVs K ρ N H (ds.drop n) (vs.drop n)
  | _, _, 0, r => r
  | _, _, _ + 1, .nil => .nil
  | _, _, n + 1, .cons _ t => RepVs.drop n t
theorem RepVs.one {d : D} {vs : List V} (r : RepVs K ρ N H [d] vs) : ∃ v, vs = [v] ∧ RepV K ρ N H d v := by
  cases r with | cons r t => cases t; exact ⟨_, rfl, r⟩
theorem RepVs.two {d e : D} {vs : List V} (r : RepVs K ρ N H [d, e] vs) : ∃ v u, vs = [v, u] ∧ RepV K ρ N H d v ∧ RepV K ρ N H e u := by
  cases r with | cons r t => cases t with | cons s t => cases t; exact ⟨_, _, rfl, r, s⟩
end

/-- how a cell lies at an address -/
def RepC (K : PySem.W.Frag) (ρ : Rn) (N : Nat) (H : Hp) (a : Addr) : C → Prop
  | .lst ds => ds.all D.pure = true ∧ ∃ vs, H a = some (.lst vs) ∧ RepVs K ρ N H ds vs
  | .dic ks vs => (ks.all D.pure && vs.all D.pure) = true ∧ ∃ kvs : List (Key × V), H a = some (.dK kvs) ∧ RepVs K ρ N H ks (kvs.map fun p => kV p.1) ∧ RepVs K ρ N H vs (kvs.map Prod.snd)
  | _ => False

structure RepS (W : Wd) (ρ : Rn) (S : Store) (H : Hp) : Prop where
  at_ : ∀ i c, S[i]? = some c → RepC W.K ρ S.length H (ρ i) c
  inj : ∀ i j, i < S.length → j < S.length → ρ i = ρ j → i = j
  tabs : ∀ p ∈ W.T, ∃ ps, H p = some (.tbl ps) ∧ TriplesOk ps.toList
  hid : ∀ a ∈ ρ.hid, (∃ xs, H a = some (.lst xs)) ∧ ∀ i, i < S.length → ρ i ≠ a

structure RepE (K : PySem.W.Frag) (ρ : Rn) (N : Nat) (H : Hp) (δ : DEnv) (σ : L2.St) : Prop where
  len : δ.length = σ.length
  at_ : ∀ (i : Nat) (d : D), δ[i]? = some (some d) → ∃ v, σ[i]? = some (some v) ∧ RepV K ρ N H d v

theorem RepE.mono {K : PySem.W.Frag} {ρ ρ' : Rn} {N N' : Nat} {H H' : Hp} {δ : DEnv} {σ : L2.St} (e : Ext ρ N H ρ' N' H') (r : RepE K ρ N H δ σ) : RepE K ρ' N' H' δ σ :=
  ⟨r.len, fun i d h => let ⟨v, h1, h2⟩ := r.at_ i d h; ⟨v, h1, h2.mono e⟩⟩
theorem RepE.set {K : PySem.W.Frag} {ρ : Rn} {N : Nat} {H : Hp} {δ : DEnv} {σ : L2.St} (r : RepE K ρ N H δ σ) (i : Nat) {d : D} {v : V} (h : RepV K ρ N H d v) : RepE K ρ N H (δ.set i (some d)) (σ.set i (some v)) := by
  refine ⟨by simpa using r.len, fun j e hj => ?_⟩
  by_cases q : j = i
  · subst q
    by_cases hl : j < δ.length
    · rw [List.getElem?_set_self hl] at hj
      simp only [Option.some.injEq] at hj
      subst hj
      exact ⟨v, by rw [List.getElem?_set_self (r.len ▸ hl)], h⟩
    · rw [List.getElem?_eq_none (by simpa using Nat.le_of_not_lt hl)] at hj
      cases hj
  · rw [List.getElem?_set_ne (Ne.symm q)] at hj
    rw [List.getElem?_set_ne (Ne.symm q)]
    exact r.at_ j e hj

/-- what an outcome asks of what follows -/
def Run {α : Type} (W : Wd) (X : WX) (σ : L2.St) (ρ : Rn) (N : Nat) (H : Hp) (r : Out α) (G : α → Store → Rn → Hp → Prop) : Prop :=
  match r with
  | .ok a S' => ∀ ρ' H', Ext ρ N H ρ' S'.length H' → RepS W ρ' S' H' → G a S' ρ' H'
  | .exc x S' => ∀ ρ' H', Ext ρ N H ρ' S'.length H' → RepS W ρ' S' H' → X (W.cls x) none σ H'
  | .bad => False

section
variable {W : Wd} {X : WX} {σ : L2.St} {ρ : Rn} {N : Nat} {H : Hp} {α β : Type}
theorem Run.bind {r : Out α} {g : α → Store → Out β} {G : β → Store → Rn → Hp → Prop} (h : Run W X σ ρ N H (r.bind g) G) :
    Run W X σ ρ N H r (fun a S1 ρ1 H1 => Ext ρ N H ρ1 S1.length H1 ∧ RepS W ρ1 S1 H1 ∧ Run W X σ ρ1 S1.length H1 (g a S1) G) := by
  cases r with
  | ok a S1 =>
    intro ρ1 H1 e1 s1
    refine ⟨e1, s1, ?_⟩
    have h' : Run W X σ ρ N H (g a S1) G := h
    cases hg : g a S1 with
    | ok b S2 => rw [hg] at h'; exact fun ρ2 H2 e2 s2 => h' ρ2 H2 (e1.trans e2) s2
    | exc x S2 => rw [hg] at h'; exact fun ρ2 H2 e2 s2 => h' ρ2 H2 (e1.trans e2) s2
    | bad => rw [hg] at h'; exact h'
  | exc x S1 => exact h
  | bad => exact h
theorem Run.imp {r : Out α} {G G' : α → Store → Rn → Hp → Prop} (h : Run W X σ ρ N H r G) (hG : ∀ a S ρ' H', G a S ρ' H' → G' a S ρ' H') : Run W X σ ρ N H r G' := by
  cases r with
  | ok a S1 => exact fun ρ' H' e s => hG _ _ _ _ (h ρ' H' e s)
  | exc x S1 => exact h
  | bad => exact h
/-- the outcome is a value, the state as it is -/
theorem Run.here {a : α} {S : Store} {G : α → Store → Rn → Hp → Prop} (h : Run W X σ ρ S.length H (.ok a S) G) (s : RepS W ρ S H) : G a S ρ H := h ρ H .refl s
/-- from another base -/
theorem Run.from {r : Out α} {ρ0 : Rn} {N0 : Nat} {H0 : Hp} {G : α → Store → Rn → Hp → Prop} (h : Run W X σ ρ0 N0 H0 r G) (e : Ext ρ0 N0 H0 ρ N H) : Run W X σ ρ N H r G := by
  cases r with
  | ok a S1 => exact fun ρ' H' e' s => h ρ' H' (e.trans e') s
  | exc x S1 => exact fun ρ' H' e' s => h ρ' H' (e.trans e') s
  | bad => exact h
end

/-- how a result lies: of data by values, of truths and numbers by themselves -/
abbrev Rl (α β : Type) := Rn → Nat → Hp → α → β → Prop
abbrev relD (W : Wd) : Rl D V := fun ρ N H d v => RepV W.K ρ N H d v
abbrev relL (W : Wd) : Rl (List D) (List V) := fun ρ N H d v => RepVs W.K ρ N H d v
abbrev relI {α : Type} : Rl α α := fun _ _ _ a b => a = b
/-- what an outcome asks of what follows it -/
def Cont {α β : Type} (W : Wd) (X : WX) (σ : L2.St) (rel : Rl α β) (r : Out α) (ρ : Rn) (N : Nat) (H : Hp) (Q : β → Hp → Prop) : Prop :=
  Run W X σ ρ N H r fun a S' ρ' H' => ∀ b, rel ρ' S'.length H' a b → Q b H'
/-- the reading of what f tells -/
def rdg {α β : Type} (W : Wd) (X : WX) (rel : Rl α β) (f : DEnv → Store → Out α) : L2.St → Hp → (β → Hp → Prop) → Prop := fun σ H Q =>
  ∃ δ S ρ, RepS W ρ S H ∧ RepE W.K ρ S.length H δ σ ∧ Cont W X σ rel (f δ S) ρ S.length H Q
abbrev tD (W : Wd) (X : WX) (f : DEnv → Store → Out D) : TE := rdg W X (relD W) f
abbrev tT (W : Wd) (X : WX) (f : DEnv → Store → Out Bool) : TT := rdg W X relI f
abbrev tA (W : Wd) (X : WX) (f : DEnv → Store → Out (List D)) : TA := rdg W X (relL W) f
abbrev tO (W : Wd) (X : WX) (f : DEnv → Store → Out (Option Int)) : TO := rdg W X relI f
section
variable {W : Wd} {X : WX} {σ : L2.St} {ρ : Rn} {S : Store} {N : Nat} {H : Hp} {α β γ ε : Type} {rel : Rl α β} {rel' : Rl γ ε} {δ : DEnv}
/-- what comes first, then the rest, at a state -/
theorem Cont.bind {r : Out α} {g : α → Store → Out γ} {Q : ε → Hp → Prop} (h : Cont W X σ rel' (r.bind g) ρ N H Q) :
    Cont W X σ rel r ρ N H (fun b H1 => ∃ a S1 ρ1, Ext ρ N H ρ1 S1.length H1 ∧ RepS W ρ1 S1 H1 ∧ rel ρ1 S1.length H1 a b ∧ Cont W X σ rel' (g a S1) ρ1 S1.length H1 Q) :=
  (Run.bind h).imp fun a S1 ρ1 H1 ⟨e1, s1, h1⟩ b hb => ⟨a, S1, ρ1, e1, s1, hb, h1⟩
theorem rdg.mk {f : DEnv → Store → Out α} {Q : β → Hp → Prop} (s : RepS W ρ S H) (e : RepE W.K ρ S.length H δ σ) (h : Cont W X σ rel (f δ S) ρ S.length H Q) : rdg W X rel f σ H Q := ⟨δ, S, ρ, s, e, h⟩
/-- at a state: the first part's reading -/
theorem rdg.bind {f : DEnv → Store → Out α} {g : α → Store → Out γ} {Q : ε → Hp → Prop} (s : RepS W ρ S H) (e : RepE W.K ρ S.length H δ σ) (h : Cont W X σ rel' ((f δ S).bind g) ρ S.length H Q) :
    rdg W X rel f σ H (fun b H1 => ∃ a S1 ρ1, Ext ρ S.length H ρ1 S1.length H1 ∧ RepS W ρ1 S1 H1 ∧ rel ρ1 S1.length H1 a b ∧ Cont W X σ rel' (g a S1) ρ1 S1.length H1 Q) :=
  ⟨δ, S, ρ, s, e, Cont.bind h⟩
theorem Cont.here {a : α} {Q : β → Hp → Prop} {b : β} (h : Cont W X σ rel (.ok a S) ρ S.length H Q) (s : RepS W ρ S H) (r : rel ρ S.length H a b) : Q b H := h ρ H .refl s b r
end

section
variable {W : Wd} {ρ : Rn} {N : Nat} {H : Hp} {p : Addr} {o : HO} {S : Store}
theorem Ext.new (h : H p = none) : Ext ρ N H ρ N (upd H p o) where
  le := Nat.le_refl _
  agree := fun _ _ => rfl
  tups := fun a xs e => by rw [upd_ne (ne_of_none e h)]; exact e
  frzs := fun a x u e => by rw [upd_ne (ne_of_none e h)]; exact e
  keep := fun a x e _ _ => by rw [upd_ne (ne_of_none e h)]; exact e
  there := fun a e => by
    by_cases q : a = p
    · rw [q, upd_same]; simp
    · rw [upd_ne q]; exact e
  fresh := fun i h1 h2 => absurd h2 (Nat.not_lt.mpr h1)
  hid := rfl
  kL := fun i _ ⟨xs, e⟩ => ⟨xs, by rw [upd_ne (ne_of_none e h)]; exact e⟩
  kD := fun i _ ⟨xs, e⟩ => ⟨xs, by rw [upd_ne (ne_of_none e h)]; exact e⟩
/-- a new cell of the store -/
def aux (ρ : Rn) (N : Nat) (p : Addr) : Rn := ⟨fun i => if i = N then p else ρ i, ρ.hid⟩
theorem aux_self : aux ρ N p N = p := by show (if N = N then p else ρ N) = p; rw [if_pos rfl]
theorem aux_ne {i : Nat} (h : i ≠ N) : aux ρ N p i = ρ i := by show (if i = N then p else ρ i) = ρ i; rw [if_neg h]
theorem Ext.cell (h : H p = none) : Ext ρ N H (aux ρ N p) (N + 1) (upd H p o) where
  le := Nat.le_succ _
  agree := fun i hi => aux_ne (Nat.ne_of_lt hi)
  tups := fun a xs e => by rw [upd_ne (ne_of_none e h)]; exact e
  frzs := fun a x u e => by rw [upd_ne (ne_of_none e h)]; exact e
  keep := fun a x e _ _ => by rw [upd_ne (ne_of_none e h)]; exact e
  there := fun a e => by
    by_cases q : a = p
    · rw [q, upd_same]; simp
    · rw [upd_ne q]; exact e
  fresh := fun i h1 h2 => by
    have : i = N := by omega
    rw [this, aux_self]; exact h
  hid := rfl
  kL := fun i _ ⟨xs, e⟩ => ⟨xs, by rw [upd_ne (ne_of_none e h)]; exact e⟩
  kD := fun i _ ⟨xs, e⟩ => ⟨xs, by rw [upd_ne (ne_of_none e h)]; exact e⟩
theorem RepC.mono {K : PySem.W.Frag} {ρ' : Rn} {N' : Nat} {H' : Hp} {a : Addr} {c : C} (e : Ext ρ N H ρ' N' H') (r : RepC K ρ N H a c) (k : ∀ o, H a = some o → H' a = some o) : RepC K ρ' N' H' a c := by
  cases c with
  | lst ds => obtain ⟨hp, vs, h, r⟩ := r; exact ⟨hp, vs, k _ h, r.mono e⟩
  | dic _ _ => obtain ⟨hp, kvs, h, r, t⟩ := r; exact ⟨hp, kvs, k _ h, r.mono e, t.mono e⟩
  | st _ => exact r
theorem RepC.there {K : PySem.W.Frag} {a : Addr} {c : C} (r : RepC K ρ N H a c) : ∃ o, H a = some o ∧ Mut (some o) := by
  cases c with
  | lst ds => obtain ⟨_, vs, h, _⟩ := r; exact ⟨_, h, trivial⟩
  | dic _ _ => obtain ⟨_, kvs, h, _⟩ := r; exact ⟨_, h, trivial⟩
  | st _ => exact r.elim
theorem RepS.addr (s : RepS W ρ S H) {i : Nat} (hi : i < S.length) : ∃ o, H (ρ i) = some o ∧ Mut (some o) := (s.at_ i S[i] (List.getElem?_eq_getElem hi)).there
/-- a new object that no cell holds -/
theorem RepS.new (s : RepS W ρ S H) (h : H p = none) : RepS W ρ S (upd H p o) where
  at_ := fun i c e => (s.at_ i c e).mono (Ext.new h) fun x q => by rw [upd_ne (ne_of_none q h)]; exact q
  inj := s.inj
  tabs := fun q hq => let ⟨ps, e, t⟩ := s.tabs q hq; ⟨ps, by rw [upd_ne (ne_of_none e h)]; exact e, t⟩
  hid := fun a ha => let ⟨⟨xs, e⟩, n⟩ := s.hid a ha; ⟨⟨xs, by rw [upd_ne (ne_of_none e h)]; exact e⟩, n⟩
/-- a new cell -/
theorem RepS.cell (s : RepS W ρ S H) (h : H p = none) {c : C} (hc : RepC W.K (aux ρ S.length p) (S.length + 1) (upd H p o) p c) : RepS W (aux ρ S.length p) (S ++ [c]) (upd H p o) where
  at_ := fun i c' e => by
    rw [List.length_append, List.length_singleton]
    by_cases hi : i < S.length
    · rw [List.getElem?_append_left hi] at e
      rw [aux_ne (Nat.ne_of_lt hi)]
      exact (s.at_ i c' e).mono (Ext.cell h) fun x q => by rw [upd_ne (ne_of_none q h)]; exact q
    · rw [List.getElem?_append_right (Nat.le_of_not_lt hi)] at e
      have hz : i = S.length := by
        by_cases z : i - S.length = 0
        · omega
        · obtain ⟨k, hk⟩ : ∃ k, i - S.length = k + 1 := ⟨i - S.length - 1, by omega⟩
          rw [hk] at e; simp at e
      subst hz
      simp at e
      subst e
      rw [aux_self]; exact hc
  inj := fun i j hi hj e => by
    rw [List.length_append, List.length_singleton] at hi hj
    by_cases h1 : i = S.length
    · by_cases h2 : j = S.length
      · omega
      · rw [h1, aux_self, aux_ne h2] at e
        obtain ⟨o, q, _⟩ := s.addr (i := j) (by omega)
        rw [← e, h] at q; cases q
    · by_cases h2 : j = S.length
      · rw [h2, aux_self, aux_ne h1] at e
        obtain ⟨o, q, _⟩ := s.addr (i := i) (by omega)
        rw [e, h] at q; cases q
      · rw [aux_ne h1, aux_ne h2] at e
        exact s.inj i j (by omega) (by omega) e
  tabs := fun q hq => let ⟨ps, e, t⟩ := s.tabs q hq; ⟨ps, by rw [upd_ne (ne_of_none e h)]; exact e, t⟩
  hid := fun a ha => by
    obtain ⟨⟨xs, e⟩, n⟩ := s.hid a ha
    refine ⟨⟨xs, by rw [upd_ne (ne_of_none e h)]; exact e⟩, fun i hi => ?_⟩
    rw [List.length_append, List.length_singleton] at hi
    by_cases h1 : i = S.length
    · rw [h1, aux_self]; exact (ne_of_none e h).symm
    · rw [aux_ne h1]; exact n i (by omega)
/-- a cell is written: the object behind the n-th -/
theorem Ext.putO {n : Nat} {o o' : HO} (hn : n < N) (h : H (ρ n) = some o) (h1 : ∀ xs, HO.tup xs ≠ o) (h2 : ∀ x u, HO.frz x u ≠ o) (h3 : (∃ xs, o = .lst xs) → ∃ xs, o' = .lst xs) (h4 : (∃ xs, o = .dK xs) → ∃ xs, o' = .dK xs) : Ext ρ N H ρ N (upd H (ρ n) o') where
  le := Nat.le_refl _
  agree := fun _ _ => rfl
  tups := fun a zs e => by rw [upd_ne (ne_of e h (h1 _))]; exact e
  frzs := fun a x u e => by rw [upd_ne (ne_of e h (h2 _ _))]; exact e
  keep := fun a x e q _ => by rw [upd_ne (Ne.symm (q n hn))]; exact e
  there := fun a e => by
    by_cases q : a = ρ n
    · rw [q, upd_same]; simp
    · rw [upd_ne q]; exact e
  fresh := fun i h1 h2 => absurd h2 (Nat.not_lt.mpr h1)
  hid := rfl
  kL := fun i hi ⟨xs, e⟩ => by
    by_cases q : ρ i = ρ n
    · rw [q, h] at e
      obtain ⟨ys, hy⟩ := h3 ⟨xs, Option.some.inj e⟩
      exact ⟨ys, by rw [q, upd_same, hy]⟩
    · exact ⟨xs, by rw [upd_ne q]; exact e⟩
  kD := fun i hi ⟨xs, e⟩ => by
    by_cases q : ρ i = ρ n
    · rw [q, h] at e
      obtain ⟨ys, hy⟩ := h4 ⟨xs, Option.some.inj e⟩
      exact ⟨ys, by rw [q, upd_same, hy]⟩
    · exact ⟨xs, by rw [upd_ne q]; exact e⟩
theorem Ext.put {n : Nat} {xs ys : List V} (hn : n < N) (h : H (ρ n) = some (.lst xs)) : Ext ρ N H ρ N (upd H (ρ n) (.lst ys)) := Ext.putO hn h (fun _ z => by cases z) (fun _ _ z => by cases z) (fun _ => ⟨_, rfl⟩) fun ⟨_, z⟩ => by cases z
theorem Ext.putD {n : Nat} {xs ys : List (Key × V)} (hn : n < N) (h : H (ρ n) = some (.dK xs)) : Ext ρ N H ρ N (upd H (ρ n) (.dK ys)) := Ext.putO hn h (fun _ z => by cases z) (fun _ _ z => by cases z) (fun ⟨_, z⟩ => by cases z) fun _ => ⟨_, rfl⟩
mutual
/-- a pure value leans on no cell -/
theorem RepV.pure_at {K : PySem.W.Frag} {n : Nat} {ys : List V} {xs : List V} (hn : n < N) (h : H (ρ n) = some (.lst xs)) : ∀ {d : D} {v : V}, RepV K ρ N H d v → RepV K ρ N (upd H (ρ n) (.lst ys)) d v := fun r => r.mono (Ext.put hn h)
end
theorem RepS.put (s : RepS W ρ S H) {n : Nat} {xs ys : List V} {ds : List D} (hn : n < S.length) (h : H (ρ n) = some (.lst xs)) (hp : ds.all D.pure = true) (r : RepVs W.K ρ S.length H ds ys) : RepS W ρ (S.set n (.lst ds)) (upd H (ρ n) (.lst ys)) where
  at_ := fun i c e => by
    rw [List.length_set]
    by_cases q : i = n
    · subst q
      rw [List.getElem?_set_self hn] at e
      cases e
      exact ⟨hp, ys, upd_same, r.mono (Ext.put hn h)⟩
    · rw [List.getElem?_set_ne (Ne.symm q)] at e
      have hi : i < S.length := (List.getElem?_eq_some_iff.mp e).1
      exact (s.at_ i c e).mono (Ext.put hn h) fun x z => by rw [upd_ne (fun z => q (s.inj i n hi hn z))]; exact z
  inj := fun i j hi hj e => s.inj i j (by simpa using hi) (by simpa using hj) e
  tabs := fun q hq => let ⟨ps, e, t⟩ := s.tabs q hq; ⟨ps, by rw [upd_ne (ne_of e h (by intro z; cases z))]; exact e, t⟩
  hid := fun a ha => let ⟨⟨xs, e⟩, m⟩ := s.hid a ha; ⟨⟨xs, by rw [upd_ne (Ne.symm (m n hn))]; exact e⟩, fun i hi => m i (by simpa using hi)⟩
theorem RepS.putD (s : RepS W ρ S H) {n : Nat} {xs ys : List (Key × V)} {ks vs : List D} (hn : n < S.length) (h : H (ρ n) = some (.dK xs)) (hp : (ks.all D.pure && vs.all D.pure) = true) (r : RepVs W.K ρ S.length H ks (ys.map fun p => kV p.1)) (t : RepVs W.K ρ S.length H vs (ys.map Prod.snd)) :
    RepS W ρ (S.set n (.dic ks vs)) (upd H (ρ n) (.dK ys)) where
  at_ := fun i c e => by
    rw [List.length_set]
    by_cases q : i = n
    · subst q
      rw [List.getElem?_set_self hn] at e
      cases e
      exact ⟨hp, ys, upd_same, r.mono (Ext.putD hn h), t.mono (Ext.putD hn h)⟩
    · rw [List.getElem?_set_ne (Ne.symm q)] at e
      have hi : i < S.length := (List.getElem?_eq_some_iff.mp e).1
      exact (s.at_ i c e).mono (Ext.putD hn h) fun x z => by rw [upd_ne (fun z => q (s.inj i n hi hn z))]; exact z
  inj := fun i j hi hj e => s.inj i j (by simpa using hi) (by simpa using hj) e
  tabs := fun q hq => let ⟨ps, e, t⟩ := s.tabs q hq; ⟨ps, by rw [upd_ne (ne_of e h (by intro z; cases z))]; exact e, t⟩
  hid := fun a ha => let ⟨⟨xs, e⟩, m⟩ := s.hid a ha; ⟨⟨xs, by rw [upd_ne (Ne.symm (m n hn))]; exact e⟩, fun i hi => m i (by simpa using hi)⟩
/-- an object of the store that is a list -/
theorem RepS.lstAt (s : RepS W ρ S H) {n : Nat} (hn : n < S.length) (k : ∃ xs, H (ρ n) = some (.lst xs)) : ∃ ds, S[n]? = some (.lst ds) := by
  have r := s.at_ n S[n] (List.getElem?_eq_getElem hn)
  rw [List.getElem?_eq_getElem hn]
  obtain ⟨xs, k⟩ := k
  cases hc : S[n] with
  | lst ds => exact ⟨ds, rfl⟩
  | dic _ _ =>
    rw [hc] at r
    obtain ⟨_, kvs, h, _⟩ := r
    rw [k] at h; cases h
  | st _ => rw [hc] at r; exact r.elim
theorem RepS.dicAt (s : RepS W ρ S H) {n : Nat} (hn : n < S.length) (k : ∃ xs, H (ρ n) = some (.dK xs)) : ∃ ks vs, S[n]? = some (.dic ks vs) := by
  have r := s.at_ n S[n] (List.getElem?_eq_getElem hn)
  rw [List.getElem?_eq_getElem hn]
  obtain ⟨xs, k⟩ := k
  cases hc : S[n] with
  | lst ds =>
    rw [hc] at r
    obtain ⟨_, vs, h, _⟩ := r
    rw [k] at h; cases h
  | dic ks vs => exact ⟨ks, vs, rfl⟩
  | st _ => rw [hc] at r; exact r.elim
end
end PD

set_option Elab.async false
set_option linter.all false
set_option maxRecDepth 100000
set_option maxHeartbeats 2000000
namespace PD
open PySem PySem.Spec PyProof.Rows HotX
section
variable {prog : Program} {w : World} {A : Around} {E : Value → Shared → Prop} {s : Shared}
theorem list_end_hot {it l x1 : Addr} {i : Nat} {items : Array Value} {Q : Option Value → Shared → Prop} (hot : HotAt A x1 s.heap)
    (hit : s.heap.IsListIter it l i) (hl : s.heap.IsList l items) (hx : items[i]? = none)
    (hQ : ∀ h', (∀ b o, b ≠ it → s.heap.get? b = some o → h'.get? b = some o) → Q none { s with heap := h' }) : wpAny (model prog w) A (pyNext (.ref it)) Q E s := by
  obtain ⟨o, ho, hc, hd⟩ := id hit
  obtain ⟨ol, hol, _, nl, hdl⟩ := hl
  obtain ⟨hh, o1, vs1, h1, d1, c1⟩ := hot
  have hne : x1 ≠ it := by
    rintro rfl
    rw [ho] at h1
    cases h1
    rw [hd] at d1
    cases d1
    simp at c1
  unfold pyNext
  refine wpAny_bind (wpAny_attempt (wpAny_callSpecial?_slot (name := Str.ofString "__next__") hit.typeIs slot_listiter_next
    (wpAny_call_entry slot_listiter_next hit.typeIs entry_listiter_next ?_ (args_listiter_next _))))
  show wpAny _ _ (field (.ref it) 0 >>= _) _ _ s
  refine wpAny_bind (wpAny_field ho hd (x := .ref l) rfl ?_)
  show wpAny _ _ (if (Value.ref l == Value.none) = true then _ else _) _ _ s
  rw [if_neg (show ¬ ((Value.ref l == Value.none) = true) from Bool.false_ne_true)]
  show wpAny _ _ (field (.ref it) 1 >>= _) _ _ s
  refine wpAny_bind (wpAny_field ho hd (x := .int i 0) rfl ?_)
  show wpAny _ _ (seqItems? (.ref l) >>= _) _ _ s
  refine wpAny_bind (wpAny_seqItems hol hdl ?_)
  simp only [Int.toNat_natCast, hx]
  refine wpAny_bind (wpAny_rule (wpAny_bind (wpAny_setField ho hd (by simp) ?_)))
  show wpAny _ _ (newExc (.type "StopIteration") [] >>= _) _ _ _
  refine wpAny_bind ?_
  simp only [newExc, newTuple]
  refine wpAny_bind (wpAny_newObj_type ?_ (by size_fits))
  refine wpAny_bind (m := firstArgMember _ _) (wpAny_of_eq (a := Value.none) (by first | rfl | (simp only [firstArgMember]; rfl)) ?_)
  refine wpAny_newObj_type ?_ (by size_fits)
  have h2 := (Heap.get?_update_other s.heap (Obj.mapFields (·.setIfInBounds 0 Value.none)) (Ne.symm hne)).trans h1
  refine raiseNew_hot ⟨hh, o1, vs1, Heap.get?_push_of_some _ (Heap.get?_push_of_some _ h2), d1, c1⟩ (Nat.ne_of_lt (Heap.lt_size (Heap.get?_push_of_some _ h2))) (Heap.get?_push_size _ rfl) rfl (by first | (simp; done) | (simp; omega) | (simp only [Array.size_append]; simp; omega)) ?_
  refine wpAny_bind (wpAny_isInstance (T := "StopIteration") (b := true) ⟨_, Heap.get?_update_self _ (Heap.get?_push_size _ rfl) rfl, rfl⟩ isSubtype_stop ?_)
  refine wpAny_pure (hQ _ fun b o hb e => ?_)
  have e2 := (Heap.get?_update_other s.heap (Obj.mapFields (·.setIfInBounds 0 Value.none)) (Ne.symm hb)).trans e
  rw [Heap.get?_update_other _ _ (Nat.ne_of_gt (Heap.lt_size (Heap.get?_push_of_some _ e2)))]
  exact Heap.get?_push_of_some _ (Heap.get?_push_of_some _ e2)
end
open L2 L2H in
theorem turn_listH {P : Program} {w : World} {K : PySem.W.Frag} {tg : Expr} (a it : Addr) : TurnH P w K tg (Itl K a) [it] it (fun i h => h.IsListIter it a i) := by
  have T := turn_list (P := P) (w := w) (K := K) (tg := tg) a it
  refine ⟨T.mem, T.obj, T.keep, ?_, ?_, T.self⟩
  · intro X hP hw hK _ i pins s σ H E I hf st hg
    subst hP hw hK
    obtain ⟨xs, x, hq, hx⟩ := hg
    obtain ⟨its, rv, p, hz⟩ := I.list hq
    obtain ⟨u, hu, ru⟩ := rv.get hx
    obtain ⟨g0, g1, _, g3, g4, g5⟩ := hf it T.mem
    refine wpAny_pyNext_list_item st p.isList (x := u) (by simpa using hu) fun h' st' sb => ?_
    have J : Inv X pins σ H { s with heap := h' } := I.turned (t' := s.toks) (fun b o hb e => (sb.2 b hb).trans e) g0 g1 g3 g4 g5
    obtain ⟨o, e, c, d⟩ := id st'
    refine ⟨u, rfl, go_of (s := { s with heap := h' }) e c d (by decide) ⟨x, H, J, ru, ⟨rfl, fun ys hy => ?_⟩, st', fun b hb => (hf b hb).1⟩⟩
    rw [I.list_inj hy hq]; exact hx
  · intro X hP hw hK hc i pins s σ H E I hf st hg
    subst hP hw hK
    obtain ⟨xs, hq, hx⟩ := hg
    obtain ⟨its, rv, p, hz⟩ := I.list hq
    obtain ⟨g0, g1, _, g3, g4, g5⟩ := hf it T.mem
    have hl := rv.length
    obtain ⟨x1, hot⟩ := hc.at I
    exact list_end_hot hot st p.isList (by simp; omega) fun h' eb => ⟨rfl, I.turned (t' := s.toks) eb g0 g1 g3 g4 g5⟩
end PD

set_option Elab.async false
set_option linter.all false
set_option maxRecDepth 100000
set_option maxHeartbeats 2000000
namespace PD
open PySem PySem.Spec PyProof.Rows HotX L2 L2H
section
variable {X : Cx} {pins : List (Addr × Obj)} {σ : L2.St} {H : Hp} {s : Shared}
/-- one more pin that every state bears -/
theorem inv_pn {p : Addr × Obj} (I : Inv X pins σ H s) (h0 : X.pn = []) (h : s.heap.get? p.1 = some p.2 ∧ H p.1 = none ∧ p.1 ≠ X.env.locals ∧ p.1 ∉ X.fs ∧ ∀ v, p.2.data ≠ .cell v) : Inv (X.tr [p] X.xe) pins σ H s :=
  ⟨I.ok.toTry _ _, I.os, I.bare, I.base, I.loc, I.cell, I.free, I.freeC, fun q hq => by
    have hq' : q = p ∨ q ∈ pins := by simpa using (show q ∈ [p] ++ pins from hq)
    rcases hq' with rfl | hq'
    · exact h
    · exact I.pin q (List.mem_append_right _ hq'), I.hok, I.len⟩
/-- the block's context, that bears the handled exception -/
abbrev blkH (X : Cx) (s : Shared) (H : Hp) (scope : Scope) (ce : Env) (fp : List Addr) (p : Addr × Obj) : Cx := (X.blk s H scope ce fp).tr [p] fun _ _ => False
theorem lcH_core {p : Addr × Obj} {Q : VK} {elt tg iter : Expr} {ifs : List Expr} {scope : Scope} {own : List (Str × Nat)} {pos pos' : Pos} {wi : TI} {g : TG} {tt : TT} {te : TE} {Qf : Value → Shared → Prop}
    (hot : Hot1 X.A p) (hp : p ∈ X.pn) (hN : X.N.Nodup) (I : Inv X pins σ H s) (hi : PIH X tg iter wi) (ok : BlkOk X.N X.env.scope scope own)
    (hg : ∀ (s : Shared) (H : Hp) (C : Addr) (cl : List (Str × Addr)) (fp : List Addr), PG (blkH X s H scope (compEnvC scope cl C X.env) fp p) tg g)
    (ht : ∀ (s : Shared) (H : Hp) (C : Addr) (cl : List (Str × Addr)) (fp : List Addr), PTs (blkH X s H scope (compEnvC scope cl C X.env) fp p) ifs tt)
    (he : ∀ (s : Shared) (H : Hp) (C : Addr) (cl : List (Str × Addr)) (fp : List Addr), PE (blkH X s H scope (compEnvC scope cl C X.env) fp p) elt te) (hs : ∀ x, foldedSetIterable iter X.env x = pure x)
    (h : tLc wi g tt te (own.map (·.2)) σ H Q)
    (hR : ∀ D C s' m H', Inv X pins σ H' s' → Q (.ref D) H' → s'.heap.Ns C m → FpOk X pins H' C → compPost (model X.prog X.w) X.A X.xe none Qf (.ref D) C (.ok .next) s') :
    wpAny (model X.prog X.w) X.A (comprehension (.ListComp elt [⟨tg, iter, ifs, 0⟩] scope pos) scope X.env pos' (newList []) false (eval iter X.env) none) Qf X.xe s := by
  have free : ∀ y ∈ scope.names, y.2 = .free → ∃ c, X.env.cells.lookup y.1 = some c := fun y hy e => (ok.free y hy e).elim (fun k => I.ok.has _ (.inl k)) fun k => I.ok.has _ (.inr k)
  refine wpAny_comprehension_free (use := none) rfl hs (closure_ok free) ok.kind (fun y hy e => (ok.uniq y hy).trans (by rw [e])) (thn (hi.run pins s σ H _ I h) fun xv s1 hx => thn hx fun itv s2 h2 => ?_)
  obtain ⟨it, fp, tn, J, H2, rfl, I2, T, st2, f2, q⟩ := h2
  refine wpAny_newObj_type (newEnv_comp ?_) (by show 0 ≤ sizeLine; decide)
  generalize hD : s2.heap.objs.size = D
  obtain ⟨W, ⟨m0, w0⟩, turn⟩ := q D (I2.hok.fresh (Nat.le_of_eq hD))
  generalize hs3 : ({ s2 with heap := s2.heap.push { cls := .type "list", data := .seq ([] : List Value).toArray } } : Shared) = s3
  have q3 : s3.heap = s2.heap.push { cls := .type "list", data := .seq ([] : List Value).toArray } := by rw [← hs3]
  have I3 : Inv X pins σ (upd H2 D (.lst [])) s3 := by
    rw [← hs3]
    exact I2.laid (t' := s2.toks) (fun b o e => Heap.get?_push_of_some _ e) (Nat.le_of_eq hD) ⟨Nat.zero_le _, [], 0, .nil, by rw [← hD]; exact Heap.get?_push_size _ rfl⟩
  have old : ∀ b ∈ fp, b < s2.heap.objs.size := fun b hb => let ⟨o, e, _⟩ := T.obj _ _ st2 b hb; Heap.lt_size e
  have f3 : ∀ b ∈ fp, FpOk X pins (upd H2 D (.lst [])) b ∧ b < s3.heap.objs.size := fun b hb =>
    ⟨⟨(upd_ne (by rw [← hD]; exact Nat.ne_of_lt (old b hb))).trans (f2 b hb).1, (f2 b hb).2⟩, by rw [q3, Heap.size_push]; exact Nat.lt_succ_of_lt (old b hb)⟩
  have st3 : tn 0 s3.heap := T.keep _ _ _ st2 fun b _ o e => by rw [q3]; exact Heap.get?_push_of_some _ e
  have I4' := block_start I3 ok hN f3
  have pg := hg s3 (upd H2 D (.lst [])) s3.heap.objs.size (cellsFrom (s3.heap.objs.size + 1) scope.names (cloFrom X.env.cells scope.names [])) fp
  have pt := ht s3 (upd H2 D (.lst [])) s3.heap.objs.size (cellsFrom (s3.heap.objs.size + 1) scope.names (cloFrom X.env.cells scope.names [])) fp
  have pe := he s3 (upd H2 D (.lst [])) s3.heap.objs.size (cellsFrom (s3.heap.objs.size + 1) scope.names (cloFrom X.env.cells scope.names [])) fp
  have nfp : ∀ b ∈ fp, (upd H2 D (.lst [])) b = none := fun b hb => (f3 b hb).1.1
  show codeAny _ _ (.compStart (.ListComp elt [⟨tg, iter, ifs, 0⟩] scope pos) 0 (.ref it) (.ref D) (compEnvC scope (cellsFrom (s3.heap.objs.size + 1) scope.names (cloFrom X.env.cells scope.names [])) s3.heap.objs.size X.env)) (compPost (model X.prog X.w) X.A X.xe none Qf (.ref D) s3.heap.objs.size) { s3 with heap := pushCells (s3.heap.push { cls := .type "dict", data := .dict #[] }) scope.names }
  generalize hce : compEnvC scope (cellsFrom (s3.heap.objs.size + 1) scope.names (cloFrom X.env.cells scope.names [])) s3.heap.objs.size X.env = ce at I4' pg pt pe ⊢
  have cL : ce.locals = s3.heap.objs.size := by subst hce; rfl
  generalize hH3 : upd H2 D (.lst []) = H3 at I3 I4' pg pt pe w0 nfp f3
  generalize hs4 : ({ s3 with heap := pushCells (s3.heap.push { cls := .type "dict", data := .dict #[] }) scope.names } : Shared) = s4 at I4' ⊢
  have kp4 : ∀ b o, s3.heap.get? b = some o → s4.heap.get? b = some o := fun b o e => by rw [← hs4]; exact pushCells_keeps _ _ _ _ (Heap.get?_push_of_some _ e)
  have st4 : tn 0 s4.heap := T.keep _ _ _ st3 fun b _ o e => kp4 b o e
  -- the pin
  have P3 := I3.pin p (List.mem_append_left _ hp)
  have I4 : Inv (blkH X s3 H3 scope ce fp p) [] (wipe σ (own.map (·.2))) H3 s4 := inv_pn I4' rfl ⟨kp4 _ _ P3.1, P3.2.1, by
      show p.1 ≠ ce.locals
      rw [cL]; exact Nat.ne_of_lt (Heap.lt_size P3.1), fun z => (List.mem_cons.mp (I3.stkSub p.1 z)).elim P3.2.2.1 P3.2.2.2.1, P3.2.2.2.2⟩
  have hc : HotC (blkH X s3 H3 scope ce fp p) := ⟨p, hot, List.mem_cons_self⟩
  have npf : ∀ b ∈ fp, p.1 ≠ b := fun b hb => (f3 b hb).1.2.2.2.2.2 p (List.mem_append_left _ hp)
  have stat : ∀ {σ' : L2.St} {H' : Hp} {s' : Shared}, Inv (blkH X s3 H3 scope ce fp p) [] σ' H' s' → (∀ b ∈ fp, H' b = none) → ∀ b ∈ fp, FpOk (blkH X s3 H3 scope ce fp p) [] H' b := fun {σ' H' s'} I' hn b hb =>
    ⟨hn b hb, (I'.ok.exf b hb).1, I'.ok.exfs b hb, .inl hb, fun x c e => (I'.ok.exf b hb).2 x c e, fun r hr => by
      have er : r = p := by simpa using (show r ∈ [p] ++ ([] : List (Addr × Obj)) from hr)
      rw [er]; exact npf b hb⟩
  have loop : codeAny (model X.prog X.w) X.A (.compLoop (.ListComp elt [⟨tg, iter, ifs, 0⟩] scope pos) 0 (.ref it) (.ref D) ce) (compPost (model X.prog X.w) X.A X.xe none Qf (.ref D) s3.heap.objs.size) s4 := by
    refine compLoop_any (fun n s' => ∃ i H', Inv (blkH X s3 H3 scope ce fp p) [] (wipe σ (own.map (·.2))) H' s' ∧ tn i s'.heap ∧ (∀ b ∈ fp, H' b = none) ∧ W i n H') ?_ m0 ⟨0, H3, I4, st4, nfp, w0⟩
    rintro n s5 ⟨i, H5, I5, st5, n5, w5⟩
    rcases turn i n H5 w5 with ⟨stop, qq⟩ | ⟨go, Nx, hNx, step⟩
    · refine thnF (T.done (blkH X s3 H3 scope ce fp p) rfl rfl rfl hc i [] s5 _ H5 (fun _ _ => False) I5 (stat I5 n5) st5 stop) fun r s6 ⟨hr, I6⟩ => ?_
      subst hr
      have I7 : Inv X pins σ H5 s6 := I3.call' (ch := fp) I6.os I6.base I6.hok I6.bare fun b hb => ⟨(f3 b hb).1.2.2.2.1, (f3 b hb).1.2.1, (f3 b hb).1.2.2.2.2.1, (f3 b hb).1.2.2.2.2.2⟩
      have nC : H5 s3.heap.objs.size = none := cL ▸ (show H5 ce.locals = none from I6.free)
      obtain ⟨m, hn, _⟩ := I6.loc
      exact hR D s3.heap.objs.size s6 m H5 I7 qq (cL ▸ (show s6.heap.Ns ce.locals m from hn)) (I3.fpOk (Nat.le_refl _) nC)
    · refine thnF (T.item (blkH X s3 H3 scope ce fp p) rfl rfl rfl hc i [] s5 _ H5 (fun _ _ => False) I5 (stat I5 n5) st5 go) fun r s6 ⟨u, hr, h6⟩ => ?_
      subst hr
      refine thnF h6 fun _ s7 ⟨x, H7, I7, r7, y7, st7, n7⟩ => ?_
      refine thnF (pg.run _ s7 _ H7 x u _ (I7.pinned (stat I7 n7) (T.obj _ _ st7)) r7 (step x H7 y7)) fun _ s8 ⟨σ8, H8, I8, hw8, q8⟩ => ?_
      refine thnF (pt.run _ s8 σ8 H8 _ I8 q8) fun b s9 ⟨H9, I9, q9⟩ => ?_
      have fin : ∀ {s' : Shared} {H' : Hp}, Inv (blkH X s3 H3 scope ce fp p) ([] ++ pinsAt fp s7.heap) σ8 H' s' → Nx H' → ∃ m, m < n ∧ ∃ i H', Inv (blkH X s3 H3 scope ce fp p) [] (wipe σ (own.map (·.2))) H' s' ∧ tn i s'.heap ∧ (∀ b ∈ fp, H' b = none) ∧ W i m H' := fun {s' H'} I' nx => by
        obtain ⟨m', hm, w'⟩ := hNx H' nx
        have pin' : ∀ b ∈ fp, ∀ o, s7.heap.get? b = some o → s'.heap.get? b = some o ∧ H' b = none := fun b hb o e =>
          let z := I'.pin (b, o) (List.mem_append_right _ (List.mem_append_right _ (mem_pinsAt hb e)))
          ⟨z.1, z.2.1⟩
        refine ⟨m', hm, i + 1, H', (I'.unpinned (pins := [])).weak (by rw [← hw8, wipe_length]) (fun j v e => ?_), T.keep _ _ _ st7 fun b hb o e => (pin' b hb o e).1, fun b hb => ?_, w'⟩
        · rw [← hw8] at e
          exact (wipe_some e).1
        · obtain ⟨o, e, _⟩ := T.obj _ _ st7 b hb
          exact (pin' b hb o e).2
      cases b with
      | false =>
        simp only [Bool.false_eq_true, if_false] at q9 ⊢
        exact fin I9 q9
      | true =>
        simp only [if_true] at q9 ⊢
        refine thnF (pe.run _ s9 σ8 H9 _ I9 q9) fun z s10 ⟨yv, H10, I10, r10, acc, hD10, hz10, nx⟩ => ?_
        exact app_ok (X := blkH X s3 H3 scope ce fp p) I10 hD10 hz10 r10 fun s11 I11 => fin I11 nx
  exact codeAny_compStart_list loop (T.self X.A 0 _ _ _ st4 loop)
/-- [elt for target in iter if ..] there -/
theorem pe_lcH {p : Addr × Obj} {elt tg iter : Expr} {ifs : List Expr} {scope : Scope} {own : List (Str × Nat)} {pos : Pos} {wi : TI} {g : TG} {tt : TT} {te : TE} (hot : Hot1 X.A p) (hp : p ∈ X.pn) (hN : X.N.Nodup) (hi : PIH X tg iter wi) (ok : BlkOk X.N X.env.scope scope own)
    (hg : ∀ (s : Shared) (H : Hp) (C : Addr) (cl : List (Str × Addr)) (fp : List Addr), PG (blkH X s H scope (compEnvC scope cl C X.env) fp p) tg g)
    (ht : ∀ (s : Shared) (H : Hp) (C : Addr) (cl : List (Str × Addr)) (fp : List Addr), PTs (blkH X s H scope (compEnvC scope cl C X.env) fp p) ifs tt)
    (he : ∀ (s : Shared) (H : Hp) (C : Addr) (cl : List (Str × Addr)) (fp : List Addr), PE (blkH X s H scope (compEnvC scope cl C X.env) fp p) elt te) (hs : ∀ x, foldedSetIterable iter X.env x = pure x := by intro _; rfl) :
    PE X (.ListComp elt [⟨tg, iter, ifs, 0⟩] scope pos) (tLc wi g tt te (own.map (·.2))) := by
  refine ⟨fun pins s σ H Q I h => ?_⟩
  rw [eval_ListComp]
  refine lcH_core hot hp hN I hi ok hg ht he hs h fun D C s' m H' I' q hn f => ⟨m, hn, fun h'' sb => ?_⟩
  obtain ⟨f0, f1, f2, f3, f4, f5⟩ := f
  exact ⟨.ref D, H', I'.turned (t' := s'.toks) (fun b o hb e => (sb.2 b hb).trans e) f0 f1 f3 f4 f5, rfl, q⟩
/-- over a list that stands -/
theorem pi_listH {tg l : Expr} {tl : TE} (hl : PE X l tl) : PIH X tg l (iList X.K tl) := by
  refine ⟨fun pins s σ H R I h => ?_⟩
  refine thn (hl.run pins s σ H _ I h) fun v s1 ⟨x, H1, I1, r1, q1⟩ => ?_
  obtain ⟨a, rfl, ⟨xs, hq⟩, q⟩ := q1
  cases r1
  obtain ⟨its, rv, pl, hz⟩ := I1.list hq
  refine wpAny_pyIter_list pl.isList ?_
  refine ⟨s1.heap.objs.size, [s1.heap.objs.size], _, _, H1, rfl, I1.kept (t' := s1.toks) fun b o e => Heap.get?_push_of_some _ e, turn_listH a _, ⟨_, Heap.get?_push_size _ rfl, rfl, rfl⟩, fun b hb => ?_, q⟩
  obtain rfl : b = s1.heap.objs.size := by simpa using hb
  exact I1.fpOk (Nat.le_refl _) (I1.hok.fresh (Nat.le_refl _))
end
end PD

set_option Elab.async false
set_option linter.all false
set_option maxRecDepth 100000
set_option maxHeartbeats 2000000
namespace PD
open PySem PySem.Spec PyProof.Rows HotX L2 L2H
section
variable {X : Cx}
/-- isinstance of a pinned exception -/
theorem call_isP {p : Addr × Obj} {D : Addr} (C : ExcC X.K D) (hz : Zc (.ref D) none p.2) (hf : ∃ vs, p.2.data = .fields vs) (hp : p ∈ X.pn) : CallR X (.builtin "isinstance") (rIsE X.K D p.1) := by
  intro pins s σ H xs us Q I r h
  obtain ⟨c, cv, b, rfl, hcv, e, q⟩ := h
  obtain ⟨u1, u2, rfl, r1, r2⟩ := vals2 r
  cases r1
  have ec := hcv _ r2
  subst ec
  obtain ⟨hget, _⟩ := I.pin p (List.mem_append_left _ hp)
  obtain ⟨a, oc, od, oda, osl⟩ := p
  obtain ⟨vs, hv⟩ := hf
  obtain ⟨h1, h2⟩ := hz
  dsimp only at h1 h2 hv hget
  subst h1 h2 hv
  exact PySem.W.kia_one (PySem.W.handS_kitx_exc C.hg C.hk C.hs C.hd C.ha C.hn C.ht C.hm) I.kIn ⟨hget, rfl, rfl, trivial⟩ e (fun z => nomatch z) fun tk => ⟨.bl b, H, I.kept (t' := tk) fun _ _ z => z, rfl, q⟩
end
def xIsC (v : Str) : Expr → Option Str
  | .Call (.Name f _) [.Name x _, .Name c _] [] _ => if f = "isinstance" ∧ x = v then some c else none
  | _ => none
theorem xIsC_eq {v c : Str} {e : Expr} (h : xIsC v e = some c) : ∃ p1 p2 p3 p4, e = .Call (.Name "isinstance" p1) [.Name v p2, .Name c p3] [] p4 := by
  unfold xIsC at h
  split at h
  · split at h
    · rename_i hc
      obtain ⟨rfl, rfl⟩ := hc
      cases h
      exact ⟨_, _, _, _, rfl⟩
    · cases h
  · cases h
def xWtx : Expr → Option Str
  | .Constant (.str s) _ _ => some s
  | _ => none
theorem xWtx_eq {s : Str} {e : Expr} (h : xWtx e = some s) : ∃ j p, e = .Constant (.str s) j p := by
  unfold xWtx at h
  split at h
  · cases h; exact ⟨_, _, rfl⟩
  · cases h
/-- the body: its classes, words, the comprehension's scope -/
structure Wk where
  ev : Str
  kv : Str
  cv : Str
  cs : List Str
  ws : List Str
  many : Str
  scope : Scope
  body : List Stmt
/-- what the def's suite is -/
inductive IsWord (k : Wk) : List Stmt → Prop
  | mk {es ts : List Expr} {p1 p2 p3 p4 p5 p6 p7 p8 p9 p10 p11 p12 p13 p14 p15 p16 p17 p18 p19 p20 p21 p22 : Pos} {j1 j2 j3 : _} (he : es.map (xIsC k.ev) = k.cs.map some) (ht : ts.map xWtx = k.ws.map some) (hln : (p18.endLine == p20.line) = true) :
    IsWord k [.Assign [.Name k.kv p1] (.List es p2) p3,
      .If (.Compare (.Call (.Name "len" p4) [.ListComp (.Name k.cv p5) [⟨.Name k.cv p6, .Name k.kv p7, [.Name k.cv p8], 0⟩] k.scope p9] [] p10) [.NotEq] [.Constant (.int 1) j1 p11] p12) [.Return (some (.Constant (.str k.many) j2 p13)) p14] [] p15,
      .Return (some (.Subscript (.List ts p16) (.Call (.Attribute (.Name k.kv p17) "index" p18) [.Constant (.bool true) j3 p19] [] p20) p21)) p22]
def okW (x : Str) : Bool := !(x == ("__debug__" : Str)) && !(x == ("__classdict__" : Str))
theorem okW_d {x : Str} (h : okW x = true) : (x == ("__debug__" : Str)) = false ∧ (x == ("__classdict__" : Str)) = false := by
  unfold okW at h
  simp only [Bool.and_eq_true, Bool.not_eq_true'] at h
  exact h
theorem ix_call {f : Expr} {es : List Expr} {kw : List Keyword} {p : Pos} : PlainIx (.Call f es kw p) := fun _ _ => rfl
def allS {α : Type} : List (Option α) → Option (List α)
  | [] => some []
  | some a :: l => (allS l).map (a :: ·)
  | none :: _ => none
theorem allS_eq {α : Type} : ∀ {l : List (Option α)} {r : List α}, allS l = some r → l = r.map some
  | [], r, h => by cases h; rfl
  | some a :: l, r, h => by
    unfold allS at h
    obtain ⟨r', h1, rfl⟩ := Option.map_eq_some_iff.mp h
    rw [allS_eq h1]; rfl
  | none :: _, _, h => by cases h
def wkOf (ev : Str) (b : List Stmt) : Option Wk := match b with
  | [.Assign [.Name a1 _] (.List es _) _, .If (.Compare (.Call (.Name l _) [.ListComp (.Name c1 _) [⟨.Name c2 _, .Name a2 _, [.Name c3 _], 0⟩] sc _] [] _) [.NotEq] [.Constant (.int 1) _ _] _) [.Return (some (.Constant (.str m) _ _)) _] [] _,
      .Return (some (.Subscript (.List ts _) (.Call (.Attribute (.Name a3 _) ix pa) [.Constant (.bool true) _ _] [] pc) _)) _] =>
    match allS (es.map (xIsC ev)), allS (ts.map xWtx) with
    | some cs, some ws => if a2 = a1 ∧ a3 = a1 ∧ c2 = c1 ∧ c3 = c1 ∧ l = "len" ∧ ix = "index" ∧ (pa.endLine == pc.line) = true then some ⟨ev, a1, c1, cs, ws, m, sc, b⟩ else none
    | _, _ => none
  | _ => none
theorem wkOf_ok {ev : Str} {b : List Stmt} {k : Wk} (h : wkOf ev b = some k) : IsWord k b ∧ k.body = b ∧ k.ev = ev := by
  unfold wkOf at h
  split at h
  · split at h
    · rename_i hcs hws
      split at h
      · rename_i hc
        obtain ⟨rfl, rfl, rfl, rfl, rfl, rfl, hln⟩ := hc
        cases h
        exact ⟨.mk (allS_eq hcs) (allS_eq hws) hln, rfl, rfl⟩
      · cases h
    · cases h
  · cases h
def Grow (W : Wd) (H H' : Hp) : Prop := ∀ ρ S, RepS W ρ S H → RepS W ρ S H' ∧ Ext ρ S.length H ρ S.length H'
theorem Grow.refl {W : Wd} {H : Hp} : Grow W H H := fun _ _ s => ⟨s, .refl⟩
theorem Grow.new {W : Wd} {H H' : Hp} {p : Addr} {o : HO} (g : Grow W H H') (h : H' p = none) : Grow W H (upd H' p o) := fun ρ S s => ⟨(g ρ S s).1.new h, (g ρ S s).2.trans (Ext.new h)⟩
def trues (bs : List Bool) : Nat := (bs.filter id).length
/-- the first one that is so -/
def firstT : List Bool → Nat
  | [] => 0
  | true :: _ => 0
  | false :: bs => firstT bs + 1
def wordOf (k : Wk) (bs : List Bool) : Option Str := if trues bs = 1 then k.ws[firstT bs]? else some k.many
section
variable {X : Cx} {W : Wd}
/-- what is asked of each class -/
structure ClsQ (X : Cx) (D : Addr) (c : Str) (b : Bool) : Prop where
  gl : Gl X c
  db : (c == ("__debug__" : Str)) = false
  mg : ∃ C, X.mg c = some (.ref C) ∧ PySem.W.kitOne X.K (.ref D) (.ref C) = some b
theorem is_args {p : Addr × Obj} {D : Addr} {i : Nat} {v : Str} (C : ExcC X.K D) (hz : Zc (.ref D) none p.2) (hf : ∃ vs, p.2.data = .fields vs) (hp : p ∈ X.pn) (hg : Gl X "isinstance") (hm : X.mg "isinstance" = none) (hv : ∀ q : Pos, PE X (.Name v q) (tVar i)) :
    ∀ {es : List Expr} {cs : List Str} {bs : List Bool}, es.map (xIsC v) = cs.map some → Paired (ClsQ X D) cs bs → PA X es fun σ H Q => σ[i]? = some (some (.ref p.1)) ∧ Q (bs.map .bl) H
  | [], [], _, _, .nil => ⟨fun pos pins s σ H Q I h => pa_nil.run pos pins s σ H Q I h.2⟩
  | [], _ :: _, _, h, _ => by cases h
  | _ :: _, [], _, h, _ => by cases h
  | e :: es, c :: cs, b :: bs, h, .cons q t => by
    have h' : xIsC v e :: es.map (xIsC v) = some c :: cs.map some := h
    injection h' with h1 h2
    obtain ⟨p1, p2, p3, p4, rfl⟩ := xIsC_eq h1
    have ih := is_args C hz hf hp hg hm hv h2 t
    obtain ⟨C2, m2, k2⟩ := q.mg
    have one := pe_callB (pos := p4) (p := p1) (call_isP C hz hf hp) hg hm PyProof.Rows.boot_isinstance (pa_cons (hv p2) (pa_cons (pe_glob (pos := p3) (v := .ref C2) q.gl m2 rfl q.db) pa_nil))
    refine ⟨fun pos pins s σ H Q I hq => (pa_cons one ih).run pos pins s σ H Q I ?_⟩
    obtain ⟨hs, hq⟩ := hq
    exact ⟨_, hs, .ref C2, .ref C2, b, rfl, fun u r => r, k2, hs, hq⟩
theorem txt_args : ∀ {ts : List Expr} {ws : List Str}, ts.map xWtx = ws.map some → PA X ts fun _ H Q => Q (ws.map .str) H
  | [], [], _ => pa_nil
  | [], _ :: _, h => by cases h
  | _ :: _, [], h => by cases h
  | e :: es, c :: cs, h => by
    have h' : xWtx e :: es.map xWtx = some c :: cs.map some := h
    injection h' with h1 h2
    obtain ⟨j, q, rfl⟩ := xWtx_eq h1
    exact ⟨fun pos pins s σ H Q I hq => (pa_cons pe_str (txt_args h2)).run pos pins s σ H Q I hq⟩
end
end PD

set_option Elab.async false
set_option linter.all false
set_option maxRecDepth 100000
set_option maxHeartbeats 2000000
namespace PD
open PySem PySem.Spec PyProof.Rows HotX L2 L2H
theorem SqL.ofl {K : PySem.W.Frag} {H : Hp} {a : Addr} {xs : List V} (h : H a = some (.lst xs)) : SqL K H a xs := .inl (.inl h)
theorem trues_take (bs : List Bool) (i : Nat) {b : Bool} (h : bs[i]? = some b) : (bs.take (i + 1)).filter id = (bs.take i).filter id ++ (if b then [b] else []) := by
  rw [List.take_succ, h, List.filter_append]
  cases b <;> rfl
/-- the loop's reading, done: the list of those that are so -/
theorem lc_word {K : PySem.W.Frag} {σ : L2.St} {H : Hp} {Q : VK} {a : Addr} {bs : List Bool} {ik ic : Nat} (hne : ic ≠ ik) (hk : σ[ik]? = some (some (.ref a))) (hic : ic < σ.length) (ha : H a = some (.lst (bs.map .bl))) (hz : bs.length ≤ 1000)
    (q : ∀ D, H D = none → Q (.ref D) (upd H D (.lst ((bs.filter id).map .bl)))) : tLc (iList K (tVar ik)) (gName ic) (tB (tVar ic)) (tVar ic) [ic] σ H Q := by
  refine ⟨_, hk, a, rfl, ⟨_, SqL.ofl ha⟩, fun D hD => ?_⟩
  have hDa : a ≠ D := fun e => by rw [e, hD] at ha; cases ha
  refine ⟨fun i m H' => m + i = bs.length ∧ H' = upd H D (.lst (((bs.take i).filter id).map .bl)), ⟨bs.length, rfl, by simp⟩, fun i m H' ⟨hm, e⟩ => ?_⟩
  have ha' : ∀ xs, (upd H D (.lst xs)) a = some (.lst (bs.map .bl)) := fun xs => by rw [upd_ne hDa]; exact ha
  subst e
  by_cases hi : i < bs.length
  · refine .inr ⟨⟨_, _, SqL.ofl (ha' _), by rw [List.getElem?_map, List.getElem?_eq_getElem hi]; rfl⟩, fun H' => ∃ m', m = m' + 1 ∧ m' + (i + 1) = bs.length ∧ H' = upd H D (.lst (((bs.take (i + 1)).filter id).map .bl)), fun H' ⟨m', e1, e2, e3⟩ => ⟨m', by omega, e2, e3⟩, fun x H2 hy => ?_⟩
    obtain ⟨rfl, hx⟩ := hy
    have ex : some x = some (V.bl bs[i]) := by
      rw [← hx _ (SqL.ofl (ha' _)), List.getElem?_map, List.getElem?_eq_getElem hi]; rfl
    cases ex
    have hw : wipe σ [ic] = σ.set ic none := rfl
    refine ⟨by
      show wipe ((wipe σ [ic]).set ic _) [ic] = _
      show ((σ.set ic none).set ic _).set ic none = σ.set ic none
      rw [List.set_set, List.set_set], ?_⟩
    have hget : (((σ.set ic none).set ic (some (V.bl bs[i]))))[ic]? = some (some (V.bl bs[i])) := by
      rw [List.getElem?_set_self (by simpa using hic)]
    refine ⟨_, hget, bs[i], rfl, ?_⟩
    have hb : bs[i]? = some bs[i] := List.getElem?_eq_getElem hi
    have tk := trues_take bs i hb
    have hlen : ((bs.take i).filter id).length ≤ 1000 := Nat.le_trans (List.length_filter_le _ _) (by rw [List.length_take]; omega)
    cases hv : bs[i] with
    | false =>
      rw [hv] at tk
      simp only [Bool.false_eq_true, if_false, List.append_nil] at tk ⊢
      exact ⟨m - 1, by omega, by omega, by rw [tk]⟩
    | true =>
      rw [hv] at tk hget
      simp only [if_true] at tk ⊢
      refine ⟨_, hget, _, upd_same, by rw [List.length_map, sizeLine_eq]; omega, m - 1, by omega, by omega, ?_⟩
      rw [tk, List.map_append]
      funext z
      unfold upd
      split <;> rfl
  · refine .inl ⟨⟨_, SqL.ofl (ha' _), by rw [List.length_map]; omega⟩, ?_⟩
    have : bs.take i = bs := List.take_of_length_le (by omega)
    rw [this]
    exact q D hD
theorem firstT_at : ∀ {bs : List Bool}, trues bs = 1 → bs[firstT bs]? = some true ∧ ∀ m, m < firstT bs → bs[m]? = some false
  | [], h => by simp [trues] at h
  | true :: bs, h => ⟨rfl, fun m hm => absurd hm (Nat.not_lt_zero _)⟩
  | false :: bs, h => by
    obtain ⟨h1, h2⟩ := firstT_at (bs := bs) (by simpa [trues] using h)
    refine ⟨by simpa [firstT] using h1, fun m hm => ?_⟩
    cases m with
    | zero => rfl
    | succ m => simpa using h2 m (by simp only [firstT] at hm; omega)
section
variable {X : Cx} {W : Wd}
theorem word_body {p : Addr × Obj} {D : Addr} {k : Wk} {l : List Stmt} {bs : List Bool} {wd : Str} (sh : IsWord k l) (hot : Hot1 X.A p) (hp : p ∈ X.pn) (C : ExcC X.K D) (hz : Zc (.ref D) none p.2) (hf : ∃ vs, p.2.data = .fields vs)
    (hi : Gl X "isinstance") (mi : X.mg "isinstance" = none) (hl : Gl X "len") (ml : X.mg "len" = none) (hcs : Paired (ClsQ X D) k.cs bs) (hN : X.N = [k.ev, k.kv, k.cv]) (nd : X.N.Nodup)
    (sc : X.env.scope.names.lookup k.ev = some .local ∧ X.env.scope.names.lookup k.kv = some .local) (hblk : BlkOk X.N X.env.scope k.scope [(k.cv, 2)])
    (hcv : (relS k.scope X.env.scope).names.lookup k.cv = some .local) (d1 : okW k.ev = true) (d2 : okW k.kv = true) (d3 : okW k.cv = true) (hwd : wordOf k bs = some wd) (hbl : bs.length ≤ 1000) (hwl : k.ws.length ≤ 1000) :
    ∃ t, PSs X l t ∧ ∀ (De : Ends) (H : Hp), (∀ H', Grow W H H' → De.rt (.str wd) H') → t De [some (.ref p.1), none, none] H := by
  cases sh with
  | @mk es ts p1 p2 p3 p4 p5 p6 p7 p8 p9 p10 p11 p12 p13 p14 p15 p16 p17 p18 p19 p20 p21 p22 j1 j2 j3 he ht hln =>
  have ved : X.N[0]? = some k.ev := by rw [hN]; rfl
  have vkd : X.N[1]? = some k.kv := by rw [hN]; rfl
  have vcd : X.N[2]? = some k.cv := by rw [hN]; rfl
  obtain ⟨de1, de2⟩ := okW_d d1
  obtain ⟨dk1, dk2⟩ := okW_d d2
  obtain ⟨dc1, dc2⟩ := okW_d d3
  have vk : ∀ q : Pos, PE X (.Name k.kv q) (tVar 1) := fun q => pe_var vkd (.inl sc.2) dk1 dk2
  have args := is_args (i := 0) C hz hf hp hi mi (fun q => pe_var ved (.inl sc.1) de1 de2) he hcs
  have s1 := ps_set (pos := p3) (pos' := p1) nd vkd (.inl sc.2) (pe_lst (pos := p2) args) rfl (.inr sc.2)
  have lcc := pe_lcH (pos := p9) (elt := .Name k.cv p5) (tg := .Name k.cv p6) (iter := .Name k.kv p7) (ifs := [.Name k.cv p8]) (g := gName 2) (tt := tB (tVar 2)) (te := tVar 2) hot hp nd (pi_listH (vk p7)) hblk
    (fun s H C cl fp => pg_name (X := blkH X s H k.scope (compEnvC k.scope cl C X.env) fp p) (i := 2) nd vcd (.inl hcv) (.inr hcv))
    (fun s H C cl fp => pts_one (pt_val (pe_var (X := blkH X s H k.scope (compEnvC k.scope cl C X.env) fp p) (i := 2) vcd (.inl hcv) dc1 dc2)))
    (fun s H C cl fp => pe_var (X := blkH X s H k.scope (compEnvC k.scope cl C X.env) fp p) (i := 2) vcd (.inl hcv) dc1 dc2)
  have s2 := ps_if (pos := p15) (pt_cmpR (pos := p12) op_ne (pe_callB (p := p4) (pos := p10) call_len_seq hl ml (by decide +kernel) (pa_cons lcc pa_nil)) (pe_int (pos := p11) (j := j1) (i := 1)) rfl) (pss_one (ps_ret (pos := p14) (pe_str (pos := p13) (j := j2) (x := k.many)))) pss_nil
  have s3 := ps_ret (pos := p22) (pe_ix (pos := p21) ix_list (pe_lst (pos := p16) (txt_args ht)) (pe_bm (apos := p18) (cpos := p20) PySem.F.plainAttrs_list PySem.F.slot_list_index PySem.F.type_list_index mt_index (vk p17) (pa_cons (show PE X (.Constant (.bool true) j3 p19) (tC (.bl true)) from pe_bl) pa_nil) (hline := hln)) ix_call)
  refine ⟨_, pss_cons s1 (pss_cons s2 (pss_one s3)), fun De H hq => ?_⟩
  refine ⟨rfl, by rw [List.length_map, sizeLine_eq]; omega, fun q hq1 => ?_⟩
  have g1 : Grow W H (upd H q (.lst (bs.map .bl))) := Grow.refl.new hq1
  have hk1 : ([some (.ref p.1), some (.ref q), none] : L2.St)[1]? = some (some (V.ref q)) := rfl
  dsimp only [gName, tSeq, tIfS, tTest, tOp, tCB, tCons, tNil, List.map, List.set]
  refine lc_word (ic := 2) (by decide) hk1 (Nat.lt_succ_self 2) upd_same hbl fun D2 hD2 => ?_
  have g2 := g1.new (o := .lst ((bs.filter id).map .bl)) hD2
  refine ⟨_, _, rfl, .inl (SqL.ofl upd_same), rfl, ?_⟩
  have ek : upd (upd H q (.lst (bs.map .bl))) D2 (.lst ((bs.filter id).map .bl)) q = some (.lst (bs.map .bl)) := by
    rw [upd_ne (fun e => by rw [← e, upd_same] at hD2; cases hD2)]; exact upd_same
  generalize upd (upd H q (.lst (bs.map .bl))) D2 (.lst ((bs.filter id).map .bl)) = H2 at g2 ek ⊢
  refine ⟨_, rfl, ?_⟩
  have hlen : (((bs.filter id).map V.bl).length : Int) = (trues bs : Nat) := by rw [List.length_map]; rfl
  unfold wordOf at hwd
  by_cases h1 : trues bs = 1
  · rw [if_pos h1] at hwd
    have e1 : (!decide (V.int (((bs.filter id).map V.bl).length : Int) = V.int 1)) = false := by rw [hlen, h1]; rfl
    rw [e1]
    rw [if_neg Bool.false_ne_true]
    dsimp only [tNext, tRet, tOp, tLst, tBM]
    refine ⟨by rw [List.length_map, sizeLine_eq]; omega, fun q3 hq3 => ?_⟩
    have g3 := g2.new (o := .lst (k.ws.map .str)) hq3
    have e3 : q ≠ q3 := fun e => by rw [← e, ek] at hq3; cases hq3
    refine ⟨_, hk1, ?_⟩
    obtain ⟨f1, f2⟩ := firstT_at h1
    refine ⟨.inl ⟨rfl, _, SqL.ofl (show upd H2 q3 _ q = _ from (upd_ne e3).trans ek)⟩, q, bs.map .bl, .bl true, firstT bs, .bl true, rfl, rfl, SqL.ofl (by rw [upd_ne e3]; exact ek), rfl, ?_, by rw [List.getElem?_map, f1]; rfl, rfl, fun m z' hm hz' => ?_, ?_⟩
    · rw [List.all_eq_true]
      intro x hx
      obtain ⟨b, _, rfl⟩ := List.mem_map.mp hx
      rfl
    · rw [List.getElem?_map, f2 m hm] at hz'
      cases hz'
      rfl
    · refine ⟨_, _, _, _, rfl, rfl, SqL.ofl upd_same, ?_, hq _ g3⟩
      have hlt : firstT bs < k.ws.length := (List.getElem?_eq_some_iff.mp hwd).1
      unfold L2.atI ixN
      simp only [List.length_map]
      have h0 : ¬ ((firstT bs : Int) < 0) := by omega
      have hl2 : ((firstT bs : Int) < (k.ws.length : Int)) := by omega
      simp [h0, hl2, hwd]
  · rw [if_neg h1] at hwd
    cases hwd
    have e1 : (!decide (V.int (((bs.filter id).map V.bl).length : Int) = V.int 1)) = true := by
      rw [hlen]
      have : ¬ ((trues bs : Int) = 1) := by omega
      simp [this]
    rw [e1]
    rw [if_pos rfl]
    exact hq _ g2
end
end PD

set_option Elab.async false
set_option linter.all false
set_option maxRecDepth 100000
set_option maxHeartbeats 2000000
namespace PD
open PySem PySem.Spec PyProof.Rows HotX L2 L2H
theorem fn_hotP {CX : CXT} {P : Program} {w : World} {K : PySem.W.Frag} {mg : Str → Option Value} {base : Heap} {k : Nat} {f : Addr} {name qual : Str} {params : Arguments} {body : List Stmt} {scope : Scope} {dV kV doc pm cdv ct oc : Value} {an od : Option Addr}
    {osl : Array (Option Value)} {N ps : List Str} {A : Around} {outer : List Env} {s : Shared} {H : Hp} {args : Args} {us : List Value} {vs : List V} {Q : VK} {E : XK} {p : Addr × Obj}
    (lk : K.lookup f = some ⟨oc, od, .func (PySem.W.fnOf name qual params body scope dV kV doc pm an cdv ct), osl⟩) (hcd : PySem.W.codeIn K cdv qual = true) (S : FnScope N ps scope) (hr : RoomH (k + 1) A) (hot : Hot1 A p) (hpin : PinOk outer H s p)
    (e0 : Env0 P w K mg base A outer s H) (hb : BindsTo s (PySem.W.fnOf name qual params body scope dV kV doc pm an cdv ct) args (ps.zip us)) (r : Vals vs us) (hl : vs.length = ps.length)
    (hbody : RoomH k (A.deeper (envOfC qual scope s.heap.objs.size f cdv)) → ∃ t, PSs (cxH CX P w K mg base N qual scope f cdv A outer s H E p) body t ∧ t { nx := fun _ H' => Q .non H', rt := Q } (L2.start N vs) H) :
    codeAny (model P w) A (.call (.ref f) args) (CR CX outer P w H s Q E) s := by
  have ks : ∀ b o, base.get? b = some o → s.heap.get? b = some o := fun b o e => (e0.bs b o e).1
  have KX : K.In s.heap := e0.mod.kin.keeps ks
  have kinds : ∀ y ∈ ps.zip us, scope.names.lookup y.1 = some .local ∨ (scope.names.lookup y.1 = some .cell ∧ ((cellsFrom (s.heap.objs.size + 1) scope.names []).lookup y.1).isSome = true) := fun ⟨n, v⟩ hy =>
    (S.par n (List.of_mem_zip hy).1).imp id fun q => ⟨q, PySem.W.cellsFrom_some _ _ _ (.inl q)⟩
  refine codeAny_call_function hr.depth (KX _ _ lk) rfl S.co S.gen rfl (PySem.W.codeRec_of KX hcd) (hb _ _ _ _ ?_)
  refine wpAny_newFunctionEnv_cells S.kind kinds fun env he s1 x => ?_
  subst he
  refine ⟨(e0.mod.nolimit.keeps ks).keeps x.toInCall.keep, codeAny_func ?_⟩
  obtain ⟨t, ht, hq⟩ := hbody (hr.deeper _)
  refine wpAny_mono (ht.run [] s1 (L2.start N vs) H _ (inv_startH S hpin e0 hl r x) hq) (fun fl s' hs => ?_) fun e s' hs => hs
  cases fl with
  | ret u => obtain ⟨v, σ', H', J, rv, q⟩ := hs; exact ⟨v, H', J.os, J.bare, J.base, J.hok, rv, q⟩
  | next => obtain ⟨σ', H', J, q⟩ := hs; exact ⟨.non, H', J.os, J.bare, J.base, J.hok, rfl, q⟩
  | brk => obtain ⟨_, _, _, q⟩ := hs; exact q.elim
  | cont => obtain ⟨_, _, _, q⟩ := hs; exact q.elim
/-- what is told of the word's def -/
structure WordAt (W : Wd) (k : Wk) (x : Str) (D : Addr) (wd : Str) : Prop where
  def_ : ∃ f fd params scope, W.mg x = some (.ref f) ∧ FunD W.K x x params k.body scope [] [] f fd ∧ Binds W.K fd [k.ev] [] ∧ FnScope [k.ev, k.kv, k.cv] [k.ev] scope ∧
    scope.names.lookup k.ev = some .local ∧ scope.names.lookup k.kv = some .local ∧ scope.names.lookup ("isinstance" : Str) = some .globalImplicit ∧ scope.names.lookup ("len" : Str) = some .globalImplicit ∧
    (∀ c ∈ k.cs, scope.names.lookup c = some .globalImplicit ∧ (c == ("__debug__" : Str)) = false) ∧ BlkOk [k.ev, k.kv, k.cv] scope k.scope [(k.cv, 2)] ∧ (relS k.scope scope).names.lookup k.cv = some .local
  shape : IsWord k k.body
  nd : [k.ev, k.kv, k.cv].Nodup
  exc : ExcC W.K D
  cls : ∃ bs, Paired (fun c b => ∃ C, W.mg c = some (.ref C) ∧ PySem.W.kitOne W.K (.ref D) (.ref C) = some b) k.cs bs ∧ wordOf k bs = some wd
  ok : okW k.ev = true ∧ okW k.kv = true ∧ okW k.cv = true ∧ k.cs.length ≤ 1000 ∧ k.ws.length ≤ 1000
  bare : W.mg "isinstance" = none ∧ W.mg "len" = none
theorem Paired.len {α β : Type} {R : α → β → Prop} : ∀ {l : List α} {m : List β}, Paired R l m → l.length = m.length
  | _, _, .nil => rfl
  | _, _, .cons _ t => by rw [List.length_cons, List.length_cons, Paired.len t]
theorem Paired.impM {α β : Type} {R S : α → β → Prop} : ∀ {l : List α} {m : List β}, Paired R l m → (∀ a b, a ∈ l → R a b → S a b) → Paired S l m
  | _, _, .nil, _ => .nil
  | _, _, .cons r t, h => .cons (h _ _ List.mem_cons_self r) (Paired.impM t fun a b ha => h a b (List.mem_cons_of_mem _ ha))
/-- x(e), e the exception that the suite holds in slot i -/
theorem pe_word {X : Cx} {W : Wd} {k : Wk} {x n : Str} {D : Addr} {wd : Str} {i kk : Nat} {p : Addr × Obj} {q q2 pos : Pos} (wa : WordAt W k x D wd) (hP : X.prog = W.P) (hw : X.w = W.w) (hK : X.K = W.K) (hmg : X.mg = W.mg) (hbase : X.base = W.base)
    (hr : RoomH (kk + 1) X.A) (hot : Hot1 X.A p) (hp : p ∈ X.pn) (hz : Zc (.ref D) none p.2) (hf : ∃ vs, p.2.data = .fields vs) (hg : Gl X x) (hdb : (x == ("__debug__" : Str)) = false) (hi : X.N[i]? = some n) (hv : Vis X.env.scope n) (hn : okW n = true) :
    PE X (.Call (.Name x q) [.Name n q2] [] pos) fun σ H Q => σ[i]? = some (some (.ref p.1)) ∧ ∀ H', Grow W H H' → Q (.str wd) H' := by
  obtain ⟨f, fd, params, scope, h1, h2, h3, S, l1, l2, l3, l4, l5, hblk, hcv⟩ := wa.def_
  obtain ⟨bs, hbs, hwd⟩ := wa.cls
  obtain ⟨o1, o2, o3, o4, o5⟩ := wa.ok
  refine ⟨fun pins s σ H Q I ⟨hs, hq⟩ => ?_⟩
  refine wpAny_Call_Name_kw (ld_glob I hg (by rw [hmg]; exact h1) ?_ hdb)
  have ha : PA X [.Name n q2] (tCons (tVar i) tNil) := pa_cons (pe_var hi hv (okW_d hn).1 (okW_d hn).2) pa_nil
  refine PySem.W.callWith_K (h₀ := X.base) I.ok.mod.kin (by rw [hK]; exact h2.kp) (thn (ha.run pos pins s σ H (fun vs H1 => vs = [V.ref p.1] ∧ H = H1) I ⟨_, hs, rfl, rfl⟩) fun us s1 hh => ?_)
  obtain ⟨vs, H1, I1, r1, rfl, rfl⟩ := hh
  refine ⟨I1.kIn, ?_⟩
  have P1 := I1.pin p (List.mem_append_left _ hp)
  have hpin : PinOk X.stack H s1 p := ⟨P1.1, P1.2.1, fun hm => (List.mem_cons.mp (I1.stkSub p.1 hm)).elim P1.2.2.1 P1.2.2.2.1, P1.2.2.2.2⟩
  obtain ⟨oc, od, dV, kV, doc, pm, an, cdv, ct, osl, rfl, lk, hcd, _, _⟩ := h2.ex
  have b := h3 s1 us (hK ▸ I1.kIn) (by rw [List.append_nil, ← r1.length]; rfl)
  rw [List.append_nil] at b
  refine wpAny_call (codeAny_mono (fn_hotP (CX := L2N.CX X.prog X.w) (E := fun _ _ _ => False) (Q := Q) (k := kk) (by rw [hK]; exact lk) (by rw [hK]; exact hcd) S hr hot hpin I1.env0 b r1 rfl fun hroom => ?_) fun r s' hq' => ?_)
  · obtain ⟨t, ht, hb⟩ := word_body (W := W) (X := cxH (L2N.CX X.prog X.w) X.prog X.w X.K X.mg X.base [k.ev, k.kv, k.cv] x scope f cdv X.A X.stack s1 H (fun _ _ _ => False) p) (p := p) (D := D) (k := k) (bs := bs) (wd := wd) wa.shape hot List.mem_cons_self (by rw [hK]; exact wa.exc) hz hf l3 (by rw [hmg]; exact wa.bare.1) l4 (by rw [hmg]; exact wa.bare.2)
      (Paired.impM hbs fun c b hc ⟨C, m1, m2⟩ => ⟨(l5 c hc).1, (l5 c hc).2, C, by rw [hmg]; exact m1, by rw [hK]; exact m2⟩) rfl wa.nd ⟨l1, l2⟩ hblk hcv o1 o2 o3 hwd (by rw [← Paired.len hbs]; exact o4) o5
    exact ⟨t, ht, hb _ _ hq⟩
  · cases r with
    | error e =>
      obtain ⟨_, _, _, _, _, _, _, _, _, _, _, _, z⟩ := hq'
      exact z.elim
    | ok fl =>
      cases fl with
      | ret u => exact I1.after hq'
      | next => exact hq'.elim
      | brk => exact hq'.elim
      | cont => exact hq'.elim
end PD

set_option Elab.async false
set_option linter.all false
set_option maxRecDepth 100000
namespace HT
open PySem PySem.Spec PyProof.Rows
open PySem.Sem (wp)
section
variable {prog : Program} {w : World} {A : Around} {E : Value → Shared → Prop} {s : Shared}
theorem adjust_rev (n : Nat) : Builtin.Slice.sliceAdjust none none (-1) (n : Int) = ((n : Int) - 1, -1) := by
  unfold Builtin.Slice.sliceAdjust
  have h1 : ((-1 : Int) < 0) := by omega
  simp only [h1, if_true]
theorem places_rev (n : Nat) : Builtin.Slice.slicePlaces ((n : Int) - 1) (-1) (-1) = n := by
  unfold Builtin.Slice.slicePlaces
  have h1 : ¬ ((-1 : Int) > 0) := by omega
  simp only [h1, if_false]
  split
  · rw [show (- -1 : Int) = 1 by decide, Int.ediv_one]; omega
  · omega
theorem sliceApplied_rev {sl : Addr} {vs : Value} {n : Nat} {Q : Int × Int × Nat → Shared → Prop} (hs : s.heap.IsSliceOf sl .none .none vs) (ps : IsPart vs (some (-1)))
    (h : Q ((n : Int) - 1, -1, n) s) : wpAny (model prog w) A (Builtin.Slice.sliceApplied (.ref sl) (pure (n : Int))) Q E s := by
  obtain ⟨os, hos, hcs, hds⟩ := id hs
  unfold Builtin.Slice.sliceApplied Builtin.Slice.sliceFields
  refine wpAny_bind (wpAny_bind (wpAny_field hos hds (x := .none) rfl (wpAny_bind (wpAny_field hos hds (x := .none) rfl (wpAny_bind (wpAny_field hos hds (x := vs) rfl (wpAny_pure ?_)))))))
  refine wpAny_bind (slicePart_ ps ?_)
  show wpAny _ _ (if ((-1 : Int) == 0) = true then _ else _) _ _ s
  rw [if_neg (by decide)]
  refine wpAny_bind (slicePart_none (wpAny_bind (slicePart_none (wpAny_bind (wpAny_pure ?_)))))
  show wpAny _ _ (match Builtin.Slice.sliceAdjust none none (-1) (n : Int) with | (lo, hi) => pure (lo, (-1 : Int), Builtin.Slice.slicePlaces lo hi (-1))) _ _ s
  rw [adjust_rev n]
  show wpAny _ _ (pure ((n : Int) - 1, (-1 : Int), Builtin.Slice.slicePlaces ((n : Int) - 1) (-1) (-1))) _ _ s
  rw [places_rev]
  exact wpAny_pure h
theorem fm_congr {α β : Type} {f g : α → Option β} : ∀ {l : List α}, (∀ m ∈ l, f m = g m) → l.filterMap f = l.filterMap g
  | [], _ => rfl
  | a :: l, h => by
    rw [List.filterMap_cons, List.filterMap_cons, h a List.mem_cons_self, fm_congr fun m hm => h m (List.mem_cons_of_mem _ hm)]
theorem pick_rev (xs : Array Value) : ((List.range xs.size).filterMap fun (m : Nat) => xs[(((xs.size : Int) - 1) + (m : Int) * (-1)).toNat]?).toArray = xs.toList.reverse.toArray := by
  congr 1
  have e : ∀ m ∈ List.range xs.size, xs[(((xs.size : Int) - 1) + (m : Int) * (-1)).toNat]? = xs.toList.reverse[m]? := by
    intro m hm
    have hm := List.mem_range.mp hm
    rw [List.getElem?_reverse (by simpa using hm)]
    have : (((xs.size : Int) - 1) + (m : Int) * (-1)).toNat = xs.toList.length - 1 - m := by rw [Array.length_toList]; omega
    rw [this]
    simp
  rw [fm_congr e]
  have : ∀ l : List Value, (List.range l.length).filterMap (fun m => l[m]?) = l := by
    intro l
    induction l with
    | nil => rfl
    | cons a l ih =>
      rw [List.length_cons, List.range_succ_eq_map, List.filterMap_cons]
      simp only [List.getElem?_cons_zero, List.filterMap_map]
      congr 1
  have h2 := this xs.toList.reverse
  rw [List.length_reverse, Array.length_toList] at h2
  exact h2
theorem getItem_tuple_rev {t sl : Addr} {items : Array Value} {vs : Value} {Q : Value → Shared → Prop} (ht : IsTup s.heap t items) (hs : s.heap.IsSliceOf sl .none .none vs) (ps : IsPart vs (some (-1)))
    (h : Q (.ref s.heap.objs.size) { s with heap := s.heap.push { cls := .type "tuple", data := .seq items.toList.reverse.toArray } })
    (hsz : items.size ≤ sizeLine) : wpAny (model prog w) A (getItem (.ref t) (.ref sl)) Q E s := by
  have htake : sizeOk (.seq items.toList.reverse.toArray) := by
    show items.toList.reverse.toArray.size ≤ sizeLine
    rw [List.size_toArray, List.length_reverse, Array.length_toList]
    omega
  obtain ⟨os, hos, hcs, hds⟩ := id hs
  have hTs : s.TypeIs (.ref sl) "slice" := ⟨os, hos, hcs⟩
  unfold getItem
  try with_reducible refine wpAny_holding ?_
  first | refine wpAny_bind (wpAny_pure ?_) | skip
  refine wpAny_bind (wpAny_sequenceKey ht.typeIs (by decide) ?_)
  refine wpAny_bind (wpAny_callSpecial?_slot (name := Str.ofString "__getitem__") ht.typeIs PyProof.Rows.slot_tuple_getitem
    (wpAny_call_entry PyProof.Rows.slot_tuple_getitem ht.typeIs entry_tuple_getitem ?_ (args_tuple_getitem _ _)))
  show wpAny _ _ (Builtin.Tuple.tupleItemsOf (.ref t) >>= _) _ _ s
  refine wpAny_bind (tupleItemsOf_ ht ?_)
  refine wpAny_bind (wpAny_typeOf hTs ?_)
  rw [if_pos (by decide)]
  refine wpAny_bind (sliceApplied_rev hs ps ?_)
  have hno : ¬ ((((items.size : Int) - 1) == 0 && (-1 : Int) == 1 && items.size == items.size) = true) := by
    intro q
    rw [Bool.and_eq_true, Bool.and_eq_true] at q
    have q2 : (-1 : Int) = 1 := eq_of_beq q.1.2
    omega
  show wpAny _ _ (if (((items.size : Int) - 1) == 0 && (-1 : Int) == 1 && items.size == items.size) = true then _ else _) _ _ s
  rw [if_neg hno, pick_rev]
  first
    | exact wpAny_bind (m := Builtin.Tuple.tupleExact _) (wpAny_newObj_type (wpAny_pure ⟨_, rfl, wpAny_pure h⟩) htake)
    | exact wpAny_bind (m := Builtin.Tuple.tupleExact _) (wpAny_newObj_type (wpAny_bind (wpAny_pure (wpAny_pure ⟨_, rfl, wpAny_pure h⟩))) htake)
    | exact wpAny_bind (wpAny_bind (m := Builtin.Tuple.tupleExact _) (wpAny_newObj_type (wpAny_pure (wpAny_pure ⟨_, rfl, wpAny_pure h⟩)) htake))
    | exact wpAny_bind (wpAny_bind (m := Builtin.Tuple.tupleExact _) (wpAny_newObj_type (wpAny_pure ⟨_, rfl, wpAny_pure h⟩) htake))
end
end HT
namespace L2
open PySem PySem.Spec PyProof.Rows
/-- xs[::-1], a list or a tuple -/
def tRevA (K : PySem.W.Frag) (te : TE) : TE := fun σ H Q => te σ H fun x H1 => ∃ a xs, x = .ref a ∧ ((SqL K H1 a xs ∧ ∀ p, H1 p = none → Q (.ref p) (upd H1 p (.lst xs.reverse))) ∨ (SqT K H1 a xs ∧ ∀ p, H1 p = none → Q (.ref p) (upd H1 p (.tup xs.reverse))))
theorem pe_revA {X : Cx} {e : Expr} {te : TE} {k : Nat} {p1 p2 p3 pos : Pos} (he : PE X e te) : PE X (.Subscript e (.Slice none none (some (.UnaryOp .USub (.Constant (.int 1) k p1) p2)) p3) pos) (tRevA X.K te) := by
  refine ⟨fun pins s σ H Q I h => ?_⟩
  refine Subscript_ (thn (he.run pins s σ H _ I h) fun v s1 ⟨x, H1, I1, r1, q1⟩ => ?_)
  obtain ⟨a, xs, ex, q⟩ := q1
  subst ex
  cases r1
  have hst : PO X (some (.UnaryOp .USub (.Constant (.int 1) k p1) p2)) (tPart (tUn (rU fun i => .int (-i)) (tC (.int 1)))) := po_some (pe_un un_neg pe_int)
  refine wpAny_Slice (thn (po_none.run pins s1 σ H1 (fun o H2 => o = none ∧ H2 = H1) I1 ⟨rfl, rfl⟩) fun vl s2 ⟨l, H2, I2, pl, el, e2⟩ => ?_)
  subst el e2
  refine thn (po_none.run pins s2 σ H2 (fun o H3 => o = none ∧ H3 = H2) I2 ⟨rfl, rfl⟩) fun vu s3 ⟨u, H3, I3, pu, eu, e3⟩ => ?_
  subst eu e3
  refine thn (hst.run pins s3 σ H3 (fun o H4 => o = some (-1) ∧ H4 = H3) I3 ⟨1, rfl, -1, rfl, rfl, rfl⟩) fun vs s4 ⟨o, H4, I4, ps, eo, e4⟩ => ?_
  subst eo e4
  have I5 : Inv X pins σ H4 { s4 with heap := s4.heap.push { cls := .type "slice", data := .fields #[vl, vu, vs] } } := I4.kept (t' := s4.toks) fun b ob q => Heap.get?_push_of_some _ q
  rcases q with ⟨hx, q⟩ | ⟨hx, q⟩
  · obtain ⟨its, r, ht, hz⟩ := I5.list hx
    have hlen := r.length
    show wpAny (model X.prog X.w) X.A (subscriptTail e (.Slice none none (some (.UnaryOp .USub (.Constant (.int 1) k p1) p2)) p3) (.ref a) (.ref s4.heap.objs.size)) (EP X pins σ Q) X.xe { s4 with heap := s4.heap.push { cls := .type "slice", data := .fields #[vl, vu, vs] } }
    refine tail_any (ops := [.ref a, .ref s4.heap.objs.size]) ht.isList.typeIs (PySem.slot_list_getitem.lookup) ?_ (by with_unfolding_all rfl)
    refine wpAny_getItem_list_slice ht.isList (Heap.IsSliceOf.new _ vl vu vs) pl pu ps (by decide) ?_ (by rw [List.size_toArray]; omega)
    rw [PySem.W.krv_pick]
    refine ⟨.ref _, _, I5.laid (t' := s4.toks) (o := .lst xs.reverse) (fun b ob q => Heap.get?_push_of_some _ q) (Nat.le_refl _) ?_, rfl, q _ (I5.hok.fresh (Nat.le_refl _))⟩
    exact ⟨by rw [List.length_reverse]; exact hz, _, 0, r.reverse, Heap.get?_push_size _ rfl⟩
  · obtain ⟨its, r, ht, hz⟩ := I5.tuple hx
    have hlen := r.length
    have e1 : vl = .none := by cases pl; rfl
    have e2 : vu = .none := by cases pu; rfl
    subst e1 e2
    show wpAny (model X.prog X.w) X.A (subscriptTail e (.Slice none none (some (.UnaryOp .USub (.Constant (.int 1) k p1) p2)) p3) (.ref a) (.ref s4.heap.objs.size)) (EP X pins σ Q) X.xe { s4 with heap := s4.heap.push { cls := .type "slice", data := .fields #[.none, .none, vs] } }
    refine tail_any (ops := [.ref a, .ref s4.heap.objs.size]) ht.typeIs (PyProof.Rows.slot_tuple_getitem.lookup) ?_ (by with_unfolding_all rfl)
    refine HT.getItem_tuple_rev ht (Heap.IsSliceOf.new _ .none .none vs) ps ?_ (by rw [List.size_toArray]; omega)
    refine ⟨.ref _, _, I5.laid (t' := s4.toks) (o := .tup xs.reverse) (fun b ob q => Heap.get?_push_of_some _ q) (Nat.le_refl _) ?_, rfl, q _ (I5.hok.fresh (Nat.le_refl _))⟩
    exact ⟨by rw [List.length_reverse]; exact hz, its.reverse, r.reverse, ⟨_, Heap.get?_push_size _ rfl, rfl, _, rfl⟩⟩
end L2

set_option Elab.async false
set_option linter.all false
set_option maxRecDepth 100000
set_option maxHeartbeats 1000000
namespace PySem
theorem meets_enum0 {v : Value} {o : Obj} {H : Heap → Prop} (B : Begins v o H) :
    Meets (Builtin.«enumerate.__new__» ⟨[.type "enumerate", v], []⟩) (fun _ R s => H s.heap ∧
      R (.ok (.ret (.ref (s.heap.push o).objs.size))) { s with heap := (s.heap.push o).push { cls := .type "enumerate", data := .fields #[.none, .bool false, .ref s.heap.objs.size, rawInt 0, .none, .none] } }) :=
  .of_wp fun prog w A R s h => by
    obtain ⟨hp, g, d, tk, os⟩ := s; obtain ⟨h1, h⟩ := h
    have hsub := sub_enumerate
    have q1 : ∀ {A' : Around} {E : Value → Shared → Prop} {Q : Value → Shared → Prop}, Q (.ref hp.objs.size) ⟨hp.push o, g, d, tk, os⟩ → wpAny (model prog w) A' (pyIter v) Q E ⟨hp, g, d, tk, os⟩ :=
      fun q => B.iter prog w _ _ ⟨hp, g, d, tk, os⟩ _ h1 q
    wp_walk using q1
    refine wpAny_stack_any fun st => wpAny_pure ?_
    split
    · rename_i c _ _ _ _ _
      cases (c == Value.type "enumerate")
      · wp_walk using q1
        exact ⟨_, rfl, h⟩
      · wp_walk using q1
        exact ⟨_, rfl, h⟩
    · wp_walk using q1
      exact ⟨_, rfl, h⟩
section
variable {prog : Program} {w : World} {A : Around} {E : Value → Shared → Prop} {s : Shared}
theorem enum_begins0 {v : Value} {o : Obj} {H : Heap → Prop} {Q : Value → Shared → Prop} (B : Begins v o H) (h1 : H s.heap)
    (h : ∀ h', IsEnum h' (s.heap.objs.size + 1) s.heap.objs.size 0 .none → h'.get? s.heap.objs.size = some o → h'.objs.size = s.heap.objs.size + 2 →
      (∀ b o, s.heap.get? b = some o → h'.get? b = some o) → Q (.ref (s.heap.objs.size + 1)) { s with heap := h' }) :
    wpAny (model prog w) A (call (.type "enumerate") [v]) Q E s := by
  refine callType_new F.called_enumerate (by decide) (F.typeCall_enumerate_1 _) (F.newCall_enumerate_1 _) (fun obj => F.args_object_init_2 obj _) F.entry_enumerate_new
    (meets_enum0 B) ⟨h1, ?_⟩
  have hz : (s.heap.push o).objs.size = s.heap.objs.size + 1 := Heap.size_push ..
  show _ ∧ _
  rw [hz]
  have he : IsEnum ((s.heap.push o).push { cls := .type "enumerate", data := .fields #[.none, .bool false, .ref s.heap.objs.size, rawInt 0, .none, .none] }) (s.heap.objs.size + 1) s.heap.objs.size 0 .none := by
    have := Heap.get?_push_size (s.heap.push o) (o := { cls := .type "enumerate", data := .fields #[.none, .bool false, .ref s.heap.objs.size, rawInt 0, .none, .none] }) rfl
    rw [hz] at this; exact this
  refine ⟨⟨_, he, rfl⟩, h _ he (Heap.get?_push_of_some _ (Heap.get?_push_size _ B.free)) (by rw [Heap.size_push, hz]) fun b o x => Heap.get?_push_of_some _ (Heap.get?_push_of_some _ x)⟩
end
end PySem
namespace L2
open PySem PySem.Spec PyProof.Rows
/-- the items of J, each with its number in a new pair -/
def IteJ (J : It) : It :=
  ⟨J.go, fun i H v H' => ∃ T x, v = .ref T ∧ H T = none ∧ H' = upd H T (.tup [.int (i : Nat), x]) ∧ J.yld i H x H, J.stop⟩
/-- what enumerate needs of the iterator under it -/
structure Under (P : Program) (w : World) (K : PySem.W.Frag) (J : It) (it : Addr) (tn : Nat → Heap → Prop) : Prop where
  obj : ∀ i h, tn i h → ∃ o, h.get? it = some o ∧ ∀ v, o.data ≠ .cell v
  keep : ∀ i h h', tn i h → (∀ o, h.get? it = some o → h'.get? it = some o) → tn i h'
  item : ∀ (X : Cx), X.prog = P → X.w = w → X.K = K → ∀ (i : Nat) (pins : List (Addr × Obj)) (s : Shared) (σ : St) (H : Hp), Inv X pins σ H s → tn i s.heap → J.go i H →
    ∃ (fp : List Addr) (n : Nat) (P' : Nat → Value → Prop) (St' : Nat → Heap → Prop), (∀ A : Around, A.handled = none → Draws P w A it fp n P' St') ∧ St' i s.heap ∧ i < n ∧ (∀ j h, St' j h → tn j h) ∧ (∀ b ∈ fp, b = it ∨ ∃ o, s.heap.get? b = some o ∧ o.cls ≠ .type "enumerate") ∧ ∀ u, P' i u → ∃ x, RelV x u ∧ J.yld i H x H
  done : ∀ (X : Cx), X.prog = P → X.w = w → X.K = K → ∀ (i : Nat) (pins : List (Addr × Obj)) (s : Shared) (σ : St) (H : Hp), Inv X pins σ H s → tn i s.heap → J.stop i H →
    ∃ (fp : List Addr) (P' : Nat → Value → Prop) (St' : Nat → Heap → Prop), (∀ A : Around, A.handled = none → Draws P w A it fp i P' St') ∧ St' i s.heap
theorem turn_enumJ {P : Program} {w : World} {K : PySem.W.Frag} {elts : List Expr} {kk : Nat} {tpos : Pos} {J : It} {it : Addr} {tn : Nat → Heap → Prop} (e : Addr) (U : Under P w K J it tn) :
    Turn P w K (.Tuple elts kk tpos) (IteJ J) [e, it] e (fun i h => (∃ old, IsEnum h e it ((i : Nat) : Int) old) ∧ tn i h ∧ e ≠ it) where
  mem := by simp
  obj := fun i h st b hb => by
    obtain ⟨⟨old, he⟩, ht, _⟩ := st
    have e' : b = e ∨ b = it := by simpa using hb
    rcases e' with z | z
    · rw [z]; exact ⟨_, he, fun v q => nomatch q⟩
    · rw [z]; exact U.obj i h ht
  keep := fun i h h' st k => let ⟨⟨old, he⟩, hi, hne⟩ := st; ⟨⟨old, k e (by simp) _ he⟩, U.keep i h h' hi fun o q => k it (by simp) o q, hne⟩
  item := by
    intro X hP hw hK hc i pins s σ H E I hf st hg
    obtain ⟨⟨old, he⟩, hit, hne⟩ := st
    obtain ⟨fp, n, P', St', D, hSt, hin, hto, hfp, hy⟩ := U.item X hP hw hK i pins s σ H I hit hg
    subst hP hw hK
    have hel : e < s.heap.objs.size := Heap.lt_size he
    have hil : it < s.heap.objs.size := by obtain ⟨_, q, _⟩ := U.obj _ _ hit; exact Heap.lt_size q
    have hef : e ∉ fp := fun z => by
      rcases hfp e z with q | ⟨o, q1, q2⟩
      · exact hne q
      · rw [he] at q1; cases q1; exact q2 rfl
    have D1 : Draws X.prog X.w X.A.in1 it fp n P' St' := D X.A.in1 (I.ok.hd hc)
    refine wpAny_pyNext_enum_itemD D1 he hSt hin hne hef fun x h' tk hP' ho hit' hT hsz hk => ?_
    obtain ⟨xv, rx, hyx⟩ := hy x hP'
    refine ⟨_, rfl, wpAny_letOwnedTupleGo_enum (s := { s with heap := h', toks := tk + 1 }) ho fun h'' he' sb => ?_⟩
    have hT2 : h''.get? s.heap.objs.size = some { cls := .type "tuple", data := .seq #[.int i tk, x] } := (sb.2 _ (Nat.ne_of_gt hel)).trans hT
    have new : ObjOk X.prog X.w (upd H s.heap.objs.size (.tup [.int (i : Nat), xv])) h'' s.heap.objs.size (.tup [.int (i : Nat), xv]) :=
      ⟨by show 2 ≤ sizeLine; decide, [.int i tk, x], .cons ⟨_, rfl⟩ (.cons rx .nil), ⟨_, hT2, rfl, _, rfl⟩⟩
    have I1 : Inv X pins σ (upd H s.heap.objs.size (.tup [.int (i : Nat), xv])) { s with heap := h'', toks := tk + 1 } :=
      I.turnedNew (ch := [e, it]) (fun b ob hb q => (sb.2 b (fun z => hb (by simp [z]))).trans (hk b ob (fun z => hb (by simp [z])) (fun z => hb (by simp [z])) q)) hf (Nat.le_refl _) new
    refine ⟨.ref s.heap.objs.size, _, I1, rfl, ⟨_, xv, rfl, I.hok.fresh (Nat.le_refl _), rfl, hyx⟩, ⟨⟨x, ?_⟩, U.keep _ _ _ (hto _ _ hit') fun o q => (sb.2 it (Ne.symm hne)).trans q, hne⟩, fun b hb => ?_⟩
    · have e1 : ((i + 1 : Nat) : Int) = (i : Int) + 1 := by omega
      rw [e1]; exact he'
    · have hb' : b < s.heap.objs.size := by
        have e' : b = e ∨ b = it := by simpa using hb
        rcases e' with z | z
        · rw [z]; exact hel
        · rw [z]; exact hil
      rw [upd_ne (Nat.ne_of_lt hb')]
      exact (hf b hb).1
  done := by
    intro X hP hw hK hc i pins s σ H E I hf st hg
    obtain ⟨⟨old, he⟩, hit, hne⟩ := st
    obtain ⟨fp, P', St', D, hSt⟩ := U.done X hP hw hK i pins s σ H I hit hg
    subst hP hw hK
    have D1 : Draws X.prog X.w X.A.in1 it fp i P' St' := D X.A.in1 (I.ok.hd hc)
    obtain ⟨f0, f1, f2, f3, f4, f5⟩ := hf it (by simp)
    exact wpAny_pyNext_enum_endD D1 he hSt fun h' eb => ⟨rfl, I.turned (t' := s.toks) (fun b o hb q => eb b o hb q) f0 f1 f3 f4 f5⟩
  self := fun A i s Q E st h => let ⟨⟨_, he⟩, _⟩ := st; wpAny_pyIter_enum he h
theorem under_tuple {P : Program} {w : World} {K : PySem.W.Frag} (a it : Addr) : Under P w K (Itt K a) it (fun i h => h.IsTupleIter it a i) where
  obj := fun i h st => let ⟨o, e, c, d⟩ := st; ⟨o, e, fun v z => by rw [d] at z; cases z⟩
  keep := fun i h h' st k => st.at fun o e => k o e
  item := by
    intro X hP hw hK i pins s σ H I st hg
    subst hP hw hK
    obtain ⟨xs, x, hq, hx⟩ := hg
    obtain ⟨its, rv, p, hz⟩ := I.tuple hq
    obtain ⟨u, hu, ru⟩ := rv.get hx
    have p' : s.heap.IsTuple a its.toArray := p
    have hne : a ≠ it := fun z => by
      obtain ⟨o, e, c, d⟩ := id st
      obtain ⟨o2, e2, c2, _⟩ := id p'
      rw [z, e] at e2; cases e2
      rw [c] at c2; exact absurd c2 (by decide)
    refine ⟨_, _, _, _, fun A hA => Draws.tuple hA it a hne its.toArray, ⟨st, p'⟩, ?_, fun j h q => q.1, fun b hb => ?_, fun v hv => ?_⟩
    · have := (List.getElem?_eq_some_iff.mp hu).1
      simpa using this
    · rcases List.mem_cons.mp hb with z | z
      · exact .inl z
      · have z : b = a := by simpa using z
        obtain ⟨o2, e2, c2, _⟩ := id p'
        exact .inr ⟨o2, by rw [z]; exact e2, by rw [c2]; decide⟩
    · have hv' : v = u := by
        have : its[i]? = some v := by simpa using hv
        rw [hu] at this; exact (Option.some.inj this).symm
      subst hv'
      exact ⟨x, ru, rfl, fun ys hy => by rw [I.tuple_inj hy hq]; exact hx⟩
  done := by
    intro X hP hw hK i pins s σ H I st hg
    subst hP hw hK
    obtain ⟨xs, hq, hx⟩ := hg
    obtain ⟨its, rv, p, hz⟩ := I.tuple hq
    have p' : s.heap.IsTuple a its.toArray := p
    have hne : a ≠ it := fun z => by
      obtain ⟨o, e, c, d⟩ := id st
      obtain ⟨o2, e2, c2, _⟩ := id p'
      rw [z, e] at e2; cases e2
      rw [c] at c2; exact absurd c2 (by decide)
    have hl := rv.length
    have hsz : its.toArray.size ≤ i := by simp; omega
    exact ⟨[it, a], fun i v => its.toArray[i]? = some v, fun j h => j = i ∧ h.IsTupleIter it a i ∧ h.IsTuple a its.toArray, fun A hA => ⟨fun j h q => let ⟨o, e, _⟩ := q.2.1; ⟨o, e⟩, fun j h h' q k => ⟨q.1, q.2.1.at fun o e => k it (by simp) o e, q.2.2.at fun o e => k a (by simp) o e⟩,
      fun j s Q E hj q1 q2 => absurd q1.1 (Nat.ne_of_lt hj), fun s Q E q1 q2 => PySem.wpAny_nextOf_tuple_end hA q1.2.1 q1.2.2 (Array.getElem?_eq_none hsz) q2⟩, rfl, st, p'⟩
theorem under_str {P : Program} {w : World} {K : PySem.W.Frag} (it : Addr) (x : Str) (t : Tok) : Under P w K (Its x) it (fun i h => h.IsStrIter it (strIterType x) x t i) where
  obj := fun i h st => let ⟨o, e, c, d⟩ := st; ⟨o, e, fun v z => by rw [d] at z; cases z⟩
  keep := fun i h h' st k => let ⟨o, ho, r⟩ := st; ⟨o, k o ho, r⟩
  item := by
    intro X hP hw hK i pins s σ H I st hg
    subst hP hw hK
    refine ⟨_, _, _, _, fun A hA => Draws.text hA it x t, st, hg, fun j h q => q, fun b hb => .inl (by simpa using hb), fun v hv => ?_⟩
    obtain ⟨c, u, hc, rfl⟩ := hv
    exact ⟨.str ⟨#[c]⟩, ⟨u, rfl⟩, rfl, c, hc, rfl⟩
  done := by
    intro X hP hw hK i pins s σ H I st hg
    subst hP hw hK
    have D := fun (A : Around) (hA : A.handled = none) => Draws.text (prog := X.prog) (w := X.w) hA it x t
    have hg : x.cps.size ≤ i := hg
    refine ⟨[it], fun i v => ∃ c u, x.cps[i]? = some c ∧ v = .str ⟨#[c]⟩ u, fun j h => j = i ∧ h.IsStrIter it (strIterType x) x t i, fun A hA => ⟨fun j h q => let ⟨o, e, _⟩ := q.2; ⟨o, e⟩, fun j h h' q k => ⟨q.1, let ⟨o, ho, r⟩ := q.2; ⟨o, k it (by simp) o ho, r⟩⟩, fun j s Q E hj q1 q2 => absurd q1.1 (Nat.ne_of_lt hj), fun s Q E q1 q2 => ?_⟩, rfl, st⟩
    have hn : x.cps[i]? = none := Array.getElem?_eq_none hg
    have q1 := q1.2
    cases ha : x.cps.all (· < 128)
    · simp only [strIterType, ha, Bool.false_eq_true, if_false] at q1
      exact wpAny_nextOf_wide_end hA q1 hn q2
    · simp only [strIterType, ha, if_true] at q1
      exact wpAny_nextOf_ascii_end hA q1 hn q2
theorem under_list {P : Program} {w : World} {K : PySem.W.Frag} (a it : Addr) : Under P w K (Itl K a) it (fun i h => h.IsListIter it a i) where
  obj := fun i h st => let ⟨o, e, c, d⟩ := st; ⟨o, e, fun v z => by rw [d] at z; cases z⟩
  keep := fun i h h' st k => st.at fun o e => k o e
  item := by
    intro X hP hw hK i pins s σ H I st hg
    subst hP hw hK
    obtain ⟨xs, x, hq, hx⟩ := hg
    obtain ⟨its, rv, p, hz⟩ := I.list hq
    obtain ⟨u, hu, ru⟩ := rv.get hx
    have p' : s.heap.IsList a its.toArray := p.isList
    have hne : a ≠ it := fun z => by
      obtain ⟨o, e, c, d⟩ := id st
      obtain ⟨o2, e2, c2, _⟩ := id p'
      rw [z, e] at e2; cases e2
      rw [c] at c2; exact absurd c2 (by decide)
    refine ⟨_, _, _, _, fun A hA => Draws.list hA it a hne its.toArray, ⟨st, p'⟩, ?_, fun j h q => q.1, fun b hb => ?_, fun v hv => ?_⟩
    · have := (List.getElem?_eq_some_iff.mp hu).1
      simpa using this
    · rcases List.mem_cons.mp hb with z | z
      · exact .inl z
      · have z : b = a := by simpa using z
        obtain ⟨o2, e2, c2, _⟩ := id p'
        exact .inr ⟨o2, by rw [z]; exact e2, by rw [c2]; decide⟩
    · have hv' : v = u := by
        have : its[i]? = some v := by simpa using hv
        rw [hu] at this; exact (Option.some.inj this).symm
      subst hv'
      exact ⟨x, ru, rfl, fun ys hy => by rw [I.list_inj hy hq]; exact hx⟩
  done := by
    intro X hP hw hK i pins s σ H I st hg
    subst hP hw hK
    obtain ⟨xs, hq, hx⟩ := hg
    obtain ⟨its, rv, p, hz⟩ := I.list hq
    have p' : s.heap.IsList a its.toArray := p.isList
    have hl := rv.length
    have hsz : its.toArray.size ≤ i := by simp; omega
    exact ⟨[it, a], fun i v => its.toArray[i]? = some v, fun j h => j = i ∧ h.IsListIter it a i ∧ h.IsList a its.toArray, fun A hA => ⟨fun j h q => let ⟨o, e, _⟩ := q.2.1; ⟨o, e⟩, fun j h h' q k => ⟨q.1, q.2.1.at fun o e => k it (by simp) o e, q.2.2.at fun o e => k a (by simp) o e⟩,
      fun j s Q E hj q1 q2 => absurd q1.1 (Nat.ne_of_lt hj), fun s Q E q1 q2 => wpAny_nextOf_list_end hA q1.2.1 q1.2.2 (Array.getElem?_eq_none hsz) q2⟩, rfl, st, p'⟩
/-- enumerate(e), e a list, a tuple, a text -/
def iEnumA (K : PySem.W.Frag) (ta : TA) : TI := fun σ H R => ta σ H fun vs H1 => (∃ a xs, vs = [.ref a] ∧ ((SqL K H1 a xs ∧ R (IteJ (Itl K a)) H1) ∨ (SqT K H1 a xs ∧ R (IteJ (Itt K a)) H1))) ∨ ∃ x, vs = [.str x] ∧ R (IteJ (Its x)) H1
theorem pi_enumA {X : Cx} {e : Expr} {ta : TA} {p pos tpos : Pos} {elts : List Expr} {kk : Nat} (hg : Gl X "enumerate") (hm : X.mg "enumerate" = none) (ha : PA X [e] ta) (hs : starEach [e] X.env = [(false, eval e X.env)] := by rfl) :
    PI X (.Tuple elts kk tpos) (.Call (.Name "enumerate" p) [e] [] pos) (iEnumA X.K ta) := by
  refine ⟨fun pins s σ H R I h => ?_⟩
  refine Call_ (ld_blt I hg hm boot_enumerate (PyProof.Rows.callWith_type1 (thn (ha.run pos pins s σ H _ I h) fun us s1 ⟨vs, H1, I1, r1, q1⟩ => ?_) hs rfl))
  have two : ∀ {b : Addr}, b ∈ [s1.heap.objs.size + 1, s1.heap.objs.size] → FpOk X pins H1 b := fun {b} hb => by
    have e' : b = s1.heap.objs.size + 1 ∨ b = s1.heap.objs.size := by simpa using hb
    have hle : s1.heap.objs.size ≤ b := by
      rcases e' with z | z
      · rw [z]; exact Nat.le_add_right _ _
      · rw [z]; exact Nat.le_refl _
    exact I1.fpOk hle (I1.hok.fresh hle)
  rcases q1 with ⟨a, xs, ex, ⟨hq, q⟩ | ⟨hq, q⟩⟩ | ⟨x, ex, q⟩
  · subst ex
    cases r1 with
    | cons r rr =>
      cases rr
      cases r
      obtain ⟨its, rv, p', hz⟩ := I1.list hq
      refine enum_begins0 (begins_list a its.toArray) p'.isList fun h' he hit hsz hk => wpAny_pyIter_enum he ?_
      have I2 : Inv X pins σ H1 { s1 with heap := h' } := I1.kept (t' := s1.toks) hk
      exact ⟨s1.heap.objs.size + 1, [s1.heap.objs.size + 1, s1.heap.objs.size], _, _, H1, rfl, I2, turn_enumJ (s1.heap.objs.size + 1) (under_list a s1.heap.objs.size), ⟨⟨.none, he⟩, ⟨_, hit, rfl, rfl⟩, Nat.succ_ne_self _⟩, fun b hb => two hb, q⟩
  · subst ex
    cases r1 with
    | cons r rr =>
      cases rr
      cases r
      obtain ⟨its, rv, p', hz⟩ := I1.tuple hq
      refine enum_begins0 (begins_tuple a its.toArray) p' fun h' he hit hsz hk => wpAny_pyIter_enum he ?_
      have I2 : Inv X pins σ H1 { s1 with heap := h' } := I1.kept (t' := s1.toks) hk
      exact ⟨s1.heap.objs.size + 1, [s1.heap.objs.size + 1, s1.heap.objs.size], _, _, H1, rfl, I2, turn_enumJ (s1.heap.objs.size + 1) (under_tuple a s1.heap.objs.size), ⟨⟨.none, he⟩, ⟨_, hit, rfl, rfl⟩, Nat.succ_ne_self _⟩, fun b hb => two hb, q⟩
  · subst ex
    cases r1 with
    | cons r rr =>
      cases rr
      obtain ⟨t, rfl⟩ := r
      refine enum_begins0 (begins_text x t) trivial fun h' he hit hsz hk => wpAny_pyIter_enum he ?_
      have I2 : Inv X pins σ H1 { s1 with heap := h' } := I1.kept (t' := s1.toks) hk
      exact ⟨s1.heap.objs.size + 1, [s1.heap.objs.size + 1, s1.heap.objs.size], _, _, H1, rfl, I2, turn_enumJ (s1.heap.objs.size + 1) (under_str s1.heap.objs.size x t), ⟨⟨.none, he⟩, ⟨_, hit, rfl, rfl⟩, Nat.succ_ne_self _⟩, fun b hb => two hb, q⟩
end L2

set_option Elab.async false
set_option linter.all false
set_option maxRecDepth 100000
set_option maxHeartbeats 1000000
namespace PD
open PySem PySem.Spec PyProof.Rows L2
/-- a text's signs -/
def signsV (x : Str) : List Str := x.cps.toList.map fun c => ⟨#[c]⟩
theorem strsAre_signs : ∀ {l : List Nat} {us : List Value}, us.length = l.length → (∀ (i : Nat) (v : Value), us[i]? = some v → ∃ (c : Nat) (u : Tok), l[i]? = some c ∧ v = Value.str ⟨#[c]⟩ u) → StrsAre us (l.map fun c => (⟨#[c]⟩ : Str))
  | [], [], _, _ => StrsAre.nil
  | c :: l, v :: us, hl, h => by
    obtain ⟨c', u, e1, e2⟩ := h 0 v rfl
    cases e1
    subst e2
    exact StrsAre.cons _ u (strsAre_signs (by simpa using hl) fun i v hv => h (i + 1) v (by simpa using hv))
  | [], _ :: _, hl, _ => by simp at hl
  | _ :: _, [], hl, _ => by simp at hl
def rSortTxt : List V → Hp → VK → Prop := fun vs H Q => ∃ x : Str, vs = [V.str x] ∧ x.cps.size ≤ sizeLine ∧
  ∀ (ys : List Str) (p : Addr), ys.Perm (signsV x) → sortedS ys = true → H p = none → Q (.ref p) (upd H p (.lst (ys.map V.str)))
section
variable {X : Cx}
theorem cr_sortTxt (hc : X.calm = true) : CallR X (.builtin "sorted") rSortTxt := by
  intro pins s σ H vs us Q I r h
  obtain ⟨x, rfl, hz, q⟩ := h
  obtain ⟨u, rfl, rx⟩ := vals1 r
  obtain ⟨t, rfl⟩ := rx
  refine Calls.call_function_entry kind_sorted plain_sorted entry_sorted (args_sorted1 _) ?_
  unfold Builtin.«sorted»
  refine wpAny_bind (m := checkCount "sorted" 1 1 _) (wpAny_pure ?_)
  refine wpAny_bind (wpAny_collect_str (A := X.A.in1) (I.ok.hd hc) x t (fun s' acc hk hg hd ho hacc => ?_) hz)
  have I1 : Inv X pins σ H s' := by
    have := I.kept (h' := s'.heap) (t' := s'.toks) hk
    have e : ({ s with heap := s'.heap, toks := s'.toks } : Shared) = s' := by
      obtain ⟨a1, a2, a3, a4, a5⟩ := s'
      simp only at hg hd ho
      subst hg hd ho
      rfl
    rw [e] at this; exact this
  refine wpAny_bind (wpAny_newList ?_ (by rw [Array.length_toList, hacc.1]; exact hz))
  have hoL : (s'.heap.push (seqObj "list" acc.toList.toArray 0)).get? s'.heap.objs.size = some (seqObj "list" acc.toList.toArray 0) := Heap.get?_push_size _ rfl
  have hS : StrsAre acc.toList (signsV x) := strsAre_signs (by simpa using hacc.1) (by
    intro i v hv
    obtain ⟨c, u, e1, e2⟩ := hacc.2 i v (by simpa using hv)
    exact ⟨c, u, by simpa using e1, e2⟩)
  have hL : acc.toList.length ≤ sizeLine := by rw [Array.length_toList, hacc.1]; exact hz
  refine wpAny_bind (wpAny_holding (wpAny_call_entry slot_list_sort ⟨_, hoL, rfl⟩ entry_list_sort (list_sort_treeKAny strKind_oneLt hoL hS.keysOf (fun v₁ v₂ rest e => keyKind_strs (by rw [← e]; exact hS)) hL fun st' a1 a2 => ⟨_, rfl, ?_⟩) (args_list_sort _)))
  refine wpAny_pure ⟨_, rfl, ?_⟩
  obtain ⟨ys, h1, h2, h3⟩ := sorted_out_str hS a1 a2
  obtain ⟨ep, he⟩ := sortedHeap_at (vs := acc.toList) (out := (arrOf st').map (·.2)) hoL
  have hlen : (ys.map V.str).length ≤ sizeLine := by
    rw [List.length_map, h2.length_eq]
    unfold signsV
    rw [List.length_map, Array.length_toList]; exact hz
  refine ⟨.ref _, upd H s'.heap.objs.size (.lst (ys.map V.str)), I1.laid (t' := s'.toks) (fun b o e => ?_) (Nat.le_refl _) ⟨hlen, ((arrOf st').map (·.2)).toList, ep, vals_of_strs h1, by rw [Array.toArray_toList]; exact he⟩, rfl, q ys _ h2 h3 (I1.hok.fresh (Nat.le_refl _))⟩
  have hb : b < s'.heap.objs.size := Heap.lt_size e
  rw [sortedHeap_old (Nat.ne_of_lt hb) (by rw [size_push']; exact Nat.lt_succ_of_lt hb)]
  exact Heap.get?_push_of_some _ e
/-- sorted(a list of numbers), of texts: of any length -/
def rSortNs (K : PySem.W.Frag) : List V → Hp → VK → Prop := fun vs H Q => ∃ (a : Addr) (ns : List Int), vs = [V.ref a] ∧ SqL K H a (ns.map V.int) ∧
  ∀ (ns' : List Int) (p : Addr), ns'.Perm ns → ns'.Pairwise (· ≤ ·) → H p = none → Q (.ref p) (upd H p (.lst (ns'.map V.int)))
def rSortSs (K : PySem.W.Frag) : List V → Hp → VK → Prop := fun vs H Q => ∃ (a : Addr) (xs : List Str), vs = [V.ref a] ∧ SqL K H a (xs.map V.str) ∧
  ∀ (ys : List Str) (p : Addr), ys.Perm xs → sortedS ys = true → H p = none → Q (.ref p) (upd H p (.lst (ys.map V.str)))
theorem cr_sortNs : CallR X (.builtin "sorted") (rSortNs X.K) := by
  intro pins s σ H vs us Q I r h
  obtain ⟨a, ns, rfl, hs, q⟩ := h
  obtain ⟨its, rv, hl, hz⟩ := I.list hs
  rw [Vals.ref1 r]
  have hi := rv.ints
  have hn : its.length ≤ sizeLine := by rw [← rv.length]; exact hz
  refine sorted_intsAny hl.isList hi hn fun out ns' h1 h2 h3 => ?_
  obtain ⟨ep, he'⟩ := PyProof.Rows.sortedAll_at s.heap its out
  have hlen : (ns'.map V.int).length ≤ sizeLine := by rw [List.length_map, h2.length_eq]; rw [List.length_map] at hz; exact hz
  exact ⟨.ref _, upd H (s.heap.objs.size + 1) (.lst (ns'.map V.int)), I.laid (t' := s.toks) (fun _ _ => PyProof.Rows.sortedAll_old) (Nat.le_succ _) ⟨hlen, out.toList, ep, vals_of_ints h1, he'⟩, rfl, q ns' _ h2 h3 (I.hok.fresh (Nat.le_succ _))⟩
theorem cr_sortSs : CallR X (.builtin "sorted") (rSortSs X.K) := by
  intro pins s σ H vs us Q I r h
  obtain ⟨a, xs, rfl, hs, q⟩ := h
  obtain ⟨its, rv, hl, hz⟩ := I.list hs
  rw [Vals.ref1 r]
  have hn : its.length ≤ sizeLine := by rw [← rv.length]; exact hz
  refine sorted_strsAny hl.isList rv.strs hn fun out ys h1 h2 h3 => ?_
  obtain ⟨ep, he'⟩ := PyProof.Rows.sortedAll_at s.heap its out
  have hlen : (ys.map V.str).length ≤ sizeLine := by rw [List.length_map, h2.length_eq]; rw [List.length_map] at hz; exact hz
  exact ⟨.ref _, upd H (s.heap.objs.size + 1) (.lst (ys.map V.str)), I.laid (t' := s.toks) (fun _ _ => PyProof.Rows.sortedAll_old) (Nat.le_succ _) ⟨hlen, out.toList, ep, vals_of_strs h1, he'⟩, rfl, q ys _ h2 h3 (I.hok.fresh (Nat.le_succ _))⟩
end
end PD

set_option Elab.async false
set_option linter.all false
set_option maxRecDepth 100000
set_option maxHeartbeats 1000000
namespace PD
open PySem PySem.Spec PyProof.Rows L2
section
variable {X : Cx}
theorem call_tupleZ : CallR X (.type "tuple") (fun xs H Q => ∃ p ys, xs = [.ref p] ∧ SqL X.K H p ys ∧ ∀ l o, H l = none → o.dict = none → Q (.ref l) (upd H l (.frz o (.tup ys)))) := by
  intro pins s σ H xs us Q I r h
  obtain ⟨p, ys, rfl, hq, q⟩ := h
  obtain ⟨u, rfl, rx⟩ := vals1 r
  cases rx
  obtain ⟨its, r', pl, hz⟩ := I.list hq
  have hlen := r'.length
  refine call_tuple_list pl.isList (fun h' kp => ?_) (by simp only [List.size_toArray] <;> omega)
  have I1 : Inv X pins σ H { s with heap := h' } := I.kept (t' := s.toks) kp
  have I2 : Inv X pins σ (upd H h'.objs.size (.frz { cls := .type "tuple", data := .seq its.toArray } (.tup ys))) { s with heap := h'.push { cls := .type "tuple", data := .seq its.toArray } } :=
    I1.laid (t' := s.toks) (fun b o e => Heap.get?_push_of_some _ e) (Nat.le_refl _) (show ObjOk X.prog X.w _ _ _ (.frz _ (.tup ys)) from ⟨Heap.get?_push_size _ rfl, hz, its, r', IsTup.new _ _⟩)
  exact ⟨.ref h'.objs.size, _, I2, rfl, q _ _ (I1.hok.fresh (Nat.le_refl _)) rfl⟩
theorem call_dictT (hcalm : X.calm = true) : CallR X (.type "dict") (fun xs H Q => ∃ (a : Addr) (o : Obj) (ps : List Addr) (kvs : List (Key × V)), xs = [.ref a] ∧ H a = some (.frz o (.tup (ps.map V.ref))) ∧ o.dict = none ∧ Paired (fun p kv => SqT X.K H p [kV kv.1, kv.2]) ps kvs ∧
    ∀ p, H p = none → Q (.ref p) (upd H p (.dK (mergeK [] kvs)))) := by
  intro pins s σ H xs us Q I r q
  obtain ⟨a, o, ps, kvs, ex, hq, ho, hp, q⟩ := q
  subst ex
  obtain ⟨u, eu, rx⟩ := vals1 r
  subst eu
  cases rx
  obtain ⟨g0, hz, its, rv, ⟨o2, g1, gc, n, gd⟩⟩ := (show ObjOk X.prog X.w H s.heap a (.frz o (.tup (ps.map V.ref))) from I.hok a _ hq)
  rw [g0] at g1
  cases g1
  have ei := refs_at rv
  subst ei
  rw [List.length_map] at hz
  obtain ⟨prs, rel, hl, hpr⟩ := pairs_of I hp
  have hex : ∀ j : Nat, ∃ v : Value × Value, ∀ q : Key × Value, prs[j]? = some q → ∃ b : Addr, ps[j]? = some b ∧ IsTup s.heap b #[v.1, v.2] ∧ v.2 = q.2 ∧ keyIs q.1 v.1 = true := fun j => by
    cases e : prs[j]? with
    | none => exact ⟨(.none, .none), fun q h => by cases h⟩
    | some q =>
      obtain ⟨b, u, e1, e2, e3⟩ := hpr j q e
      exact ⟨(u, q.2), fun q' h => by cases h; exact ⟨b, e1, e2, rfl, e3⟩⟩
  obtain ⟨f, hf⟩ := Classical.axiomOfChoice hex
  have hmem : ∀ (j : Nat) (k v : Value), ((List.range prs.length).map f)[j]? = some (k, v) → ∃ q b, prs[j]? = some q ∧ ps[j]? = some b ∧ IsTup s.heap b #[k, v] ∧ v = q.2 ∧ keyIs q.1 k = true := fun j k v h => by
    rw [List.getElem?_map, Option.map_eq_some_iff] at h
    obtain ⟨i, h1, h2⟩ := h
    obtain ⟨hj, rfl⟩ := List.getElem?_eq_some_iff.mp h1
    rw [List.getElem_range] at h2
    rw [List.length_range] at hj
    have e : prs[j]? = some prs[j] := List.getElem?_eq_getElem hj
    obtain ⟨b, e1, e2, e3, e4⟩ := hf j _ e
    rw [h2] at e2 e3 e4
    exact ⟨_, b, e, e1, e2, e3, e4⟩
  refine PySem.call_dict_pairs (knd := mixKind X.prog X.w) (kvs := prs) (PySem.PairArg.tuple a (ps.map Value.ref).toArray (fun j => (ps[j]?).getD 0) ((List.range prs.length).map f)) (I.ok.hd hcalm)
    ⟨⟨o, n, g0, gc, ho, gd⟩, by simp [hl], fun j k v h => ?_⟩ ⟨by simp, fun i key v h => ?_⟩ (by simp [hl]; exact hz) fun h' tk hd' k => ?_
  · obtain ⟨q', b, e1, e2, e3, e4, e5⟩ := hmem j k v h
    refine ⟨by simp [e2], ?_⟩
    simp only [e2, Option.getD_some]
    exact .inl e3
  · obtain ⟨q', b, e1, e2, e3, e4, e5⟩ := hmem i key v h
    exact ⟨q'.1, by rw [e1, e4], e5⟩
  · have hm : (s.heap.objs.size == sysModules) = false := beq_eq_false_iff_ne.mpr (Nat.ne_of_gt I.big)
    have hlen : (mergeK [] kvs).length ≤ sizeLine := by
      refine Nat.le_trans (length_mergeK kvs []) ?_
      rw [List.length_nil, Nat.zero_add, rel.length, hl]
      exact hz
    exact ⟨.ref s.heap.objs.size, upd H s.heap.objs.size (.dK (mergeK [] kvs)), I.laid (t' := tk) (fun b o e => k b o (by simp) e) (Nat.le_refl _) (show ObjOk X.prog X.w _ _ _ (.dK (mergeK [] kvs)) from ⟨hlen, hm, merged [] prs, KV.merge rel .nil, hd'⟩), rfl, q _ (I.hok.fresh (Nat.le_refl _))⟩
end
end PD

set_option Elab.async false
set_option linter.all false
set_option maxRecDepth 100000
namespace PD
open PySem PySem.Spec PyProof.Rows L2

mutual
def D.py : D → PyData
  | .non => .none
  | .bl b => .bool b
  | .int i => .int i
  | .str s => .str ⟨s.toArray⟩
  | .tup ds => .tuple (D.pys ds)
  | .lst ds => .list (D.pys ds)
  | .rol ds => .list (D.pys ds)
  | _ => .none
def D.pys : List D → List PyData
  | [] => []
  | d :: ds => d.py :: D.pys ds
end
mutual
/-- made of none, bools, ints, texts, tuples, lists -/
def D.plain : D → Bool
  | .non => true
  | .bl _ => true
  | .int _ => true
  | .str _ => true
  | .tup ds => D.plains ds
  | .lst ds => D.plains ds
  | .rol ds => D.plains ds
  | _ => false
def D.plains : List D → Bool
  | [] => true
  | d :: ds => d.plain && D.plains ds
end
mutual
def D.depth : D → Nat
  | .tup ds => D.depths ds + 1
  | .lst ds => D.depths ds + 1
  | .rol ds => D.depths ds + 1
  | _ => 0
def D.depths : List D → Nat
  | [] => 0
  | d :: ds => max d.depth (D.depths ds)
end
mutual
/-- Python's == -/
def D.eqv : D → D → Bool
  | .non, .non => true
  | .bl a, .bl b => a == b
  | .bl a, .int j => (if a then 1 else 0) == j
  | .int i, .bl b => i == (if b then 1 else 0)
  | .int i, .int j => decide (i = j)
  | .str x, .str y => decide (x = y)
  | .lst xs, .lst ys => D.eqvs xs ys
  | .lst xs, .rol ys => D.eqvs xs ys
  | .rol xs, .lst ys => D.eqvs xs ys
  | .rol xs, .rol ys => D.eqvs xs ys
  | .tup xs, .tup ys => D.eqvs xs ys
  | _, _ => false
def D.eqvs : List D → List D → Bool
  | [], [] => true
  | x :: xs, y :: ys => x.eqv y && D.eqvs xs ys
  | _, _ => false
end
theorem str_beq (x y : List Nat) : ((⟨x.toArray⟩ : Str) == ⟨y.toArray⟩) = decide (x = y) := by
  by_cases h : x = y
  · subst h; simp
  · rw [decide_eq_false h]
    apply beq_eq_false_iff_ne.mpr
    intro e
    injection e with e
    exact h (by simpa using congrArg Array.toList e)
mutual
theorem D.eqv_py : ∀ (a b : D), a.plain = true → b.plain = true → PyData.eqv a.py b.py = a.eqv b
  | .non, b, _, hb => by cases b <;> simp [D.py, D.eqv, PyData.eqv, D.plain] at hb ⊢
  | .bl x, b, _, hb => by cases b <;> simp [D.py, D.eqv, PyData.eqv, D.plain] at hb ⊢
  | .int i, b, _, hb => by cases b <;> simp [D.py, D.eqv, PyData.eqv, D.plain] at hb ⊢ <;> exact Bool.beq_eq_decide_eq _ _
  | .str x, b, _, hb => by cases b <;> simp [D.py, D.eqv, PyData.eqv, D.plain, str_beq] at hb ⊢
  | .tup xs, .tup ys, ha, hb => by
    simp only [D.py, D.eqv, PyData.eqv]
    exact D.eqvs_py xs ys (by simpa [D.plain] using ha) (by simpa [D.plain] using hb)
  | .lst xs, .lst ys, ha, hb => by
    simp only [D.py, D.eqv, PyData.eqv]
    exact D.eqvs_py xs ys (by simpa [D.plain] using ha) (by simpa [D.plain] using hb)
  | .lst xs, .rol ys, ha, hb => by
    simp only [D.py, D.eqv, PyData.eqv]
    exact D.eqvs_py xs ys (by simpa [D.plain] using ha) (by simpa [D.plain] using hb)
  | .rol xs, .lst ys, ha, hb => by
    simp only [D.py, D.eqv, PyData.eqv]
    exact D.eqvs_py xs ys (by simpa [D.plain] using ha) (by simpa [D.plain] using hb)
  | .rol xs, .rol ys, ha, hb => by
    simp only [D.py, D.eqv, PyData.eqv]
    exact D.eqvs_py xs ys (by simpa [D.plain] using ha) (by simpa [D.plain] using hb)
  | .tup xs, .non, _, _ => by simp [D.py, D.eqv, PyData.eqv]
  | .tup xs, .bl _, _, _ => by simp [D.py, D.eqv, PyData.eqv]
  | .tup xs, .int _, _, _ => by simp [D.py, D.eqv, PyData.eqv]
  | .tup xs, .str _, _, _ => by simp [D.py, D.eqv, PyData.eqv]
  | .tup xs, .lst _, _, _ => by simp [D.py, D.eqv, PyData.eqv]
  | .tup xs, .rol _, _, _ => by simp [D.py, D.eqv, PyData.eqv]
  | .lst xs, .non, _, _ => by simp [D.py, D.eqv, PyData.eqv]
  | .lst xs, .bl _, _, _ => by simp [D.py, D.eqv, PyData.eqv]
  | .lst xs, .int _, _, _ => by simp [D.py, D.eqv, PyData.eqv]
  | .lst xs, .str _, _, _ => by simp [D.py, D.eqv, PyData.eqv]
  | .lst xs, .tup _, _, _ => by simp [D.py, D.eqv, PyData.eqv]
  | .rol xs, .non, _, _ => by simp [D.py, D.eqv, PyData.eqv]
  | .rol xs, .bl _, _, _ => by simp [D.py, D.eqv, PyData.eqv]
  | .rol xs, .int _, _, _ => by simp [D.py, D.eqv, PyData.eqv]
  | .rol xs, .str _, _, _ => by simp [D.py, D.eqv, PyData.eqv]
  | .rol xs, .tup _, _, _ => by simp [D.py, D.eqv, PyData.eqv]
  | .tup _, .dic _ _, _, hb => by simp [D.plain] at hb
  | .tup _, .st _, _, hb => by simp [D.plain] at hb
  | .tup _, .obj _, _, hb => by simp [D.plain] at hb
  | .tup _, .dob _, _, hb => by simp [D.plain] at hb
  | .tup _, .exn _, _, hb => by simp [D.plain] at hb
  | .lst _, .dic _ _, _, hb => by simp [D.plain] at hb
  | .lst _, .st _, _, hb => by simp [D.plain] at hb
  | .lst _, .obj _, _, hb => by simp [D.plain] at hb
  | .lst _, .dob _, _, hb => by simp [D.plain] at hb
  | .lst _, .exn _, _, hb => by simp [D.plain] at hb
  | .rol _, .dic _ _, _, hb => by simp [D.plain] at hb
  | .rol _, .st _, _, hb => by simp [D.plain] at hb
  | .rol _, .obj _, _, hb => by simp [D.plain] at hb
  | .rol _, .dob _, _, hb => by simp [D.plain] at hb
  | .rol _, .exn _, _, hb => by simp [D.plain] at hb
  | .dic _ _, _, ha, _ => by simp [D.plain] at ha
  | .st _, _, ha, _ => by simp [D.plain] at ha
  | .obj _, _, ha, _ => by simp [D.plain] at ha
  | .dob _, _, ha, _ => by simp [D.plain] at ha
  | .exn _, _, ha, _ => by simp [D.plain] at ha
theorem D.eqvs_py : ∀ (a b : List D), D.plains a = true → D.plains b = true → PyData.eqvAll (D.pys a) (D.pys b) = D.eqvs a b
  | [], [], _, _ => rfl
  | [], _ :: _, _, _ => rfl
  | _ :: _, [], _, _ => rfl
  | x :: xs, y :: ys, ha, hb => by
    simp only [D.plains, Bool.and_eq_true] at ha hb
    simp only [D.pys, PyData.eqvAll, D.eqvs, D.eqv_py x y ha.1 hb.1, D.eqvs_py xs ys ha.2 hb.2]
end
mutual
theorem D.depth_py : ∀ a : D, a.plain = true → a.py.depth = a.depth
  | .non, _ => rfl
  | .bl _, _ => rfl
  | .int _, _ => rfl
  | .str _, _ => rfl
  | .tup ds, h => by simp only [D.py, D.depth, PyData.depth, D.depths_py ds (by simpa [D.plain] using h)]
  | .lst ds, h => by simp only [D.py, D.depth, PyData.depth, D.depths_py ds (by simpa [D.plain] using h)]
  | .rol ds, h => by simp only [D.py, D.depth, PyData.depth, D.depths_py ds (by simpa [D.plain] using h)]
  | .dic _ _, h => by simp [D.plain] at h
  | .st _, h => by simp [D.plain] at h
  | .obj _, h => by simp [D.plain] at h
  | .dob _, h => by simp [D.plain] at h
  | .exn _, h => by simp [D.plain] at h
theorem D.depths_py : ∀ ds : List D, D.plains ds = true → PyData.depthAll (D.pys ds) = D.depths ds
  | [], _ => rfl
  | d :: ds, h => by
    simp only [D.plains, Bool.and_eq_true] at h
    simp only [D.pys, PyData.depthAll, D.depths, D.depth_py d h.1, D.depths_py ds h.2]
end

/-- a rol is a list that is read -/
theorem rol_sql {K : PySem.W.Frag} {H : Hp} {a : Addr} {vs : List V} (h : (∃ o, H a = some (.frz o (.lst vs))) ∨ SqL K (fun _ => none) a vs) : SqL K H a vs := by
  rcases h with h | h
  · exact .inl (.inr h)
  · rcases h with (h | ⟨o, h⟩) | h
    · cases h
    · cases h
    · exact .inr h
mutual
theorem RepV.dp {K : PySem.W.Frag} {ρ : Rn} {N : Nat} {H : Hp} : ∀ {d : D} {v : V}, RepV K ρ N H d v → d.plain = true → Dp K H v d.py
  | _, _, .non, _ => .non
  | _, _, .bl b, _ => .bl b
  | _, _, .int i, _ => .int i
  | _, _, .str s h, _ => .str _
  | _, _, .tup h r, p => .tup h (RepVs.dp r (by simpa [D.plain] using p))
  | _, _, .lst h _ r, p => .lst (SqL.of h) (RepVs.dp r (by simpa [D.plain] using p))
  | _, _, .st _ _ _, p => by simp [D.plain] at p
  | _, _, .rol h r, p => .lst (rol_sql h) (RepVs.dp r (by simpa [D.plain] using p))
  | _, _, .obj _ _, p => by simp [D.plain] at p
  | _, _, .dob _ _, p => by simp [D.plain] at p
theorem RepVs.dp {K : PySem.W.Frag} {ρ : Rn} {N : Nat} {H : Hp} : ∀ {ds : List D} {vs : List V}, RepVs K ρ N H ds vs → D.plains ds = true → DpAll K H vs (D.pys ds)
  | _, _, .nil, _ => .nil
  | _, _, .cons r t, p => by
    simp only [D.plains, Bool.and_eq_true] at p
    exact .cons (RepV.dp r p.1) (RepVs.dp t p.2)
end

section
variable {K : PySem.W.Frag} {ρ : Rn} {N : Nat} {H : Hp}
theorem str_ok {s : List Nat} (h : s.all (fun c => decide (c < 0x110000)) = true) : PyData.strOk ⟨s.toArray⟩ = true := by
  unfold PyData.strOk
  simpa using h
mutual
theorem RepV.lay : ∀ {d : D} {v : V}, RepV K ρ N H d v → d.plain = true → d.py.canLay0 = true
  | _, _, .non, _ => rfl
  | _, _, .bl b, _ => rfl
  | _, _, .int i, _ => rfl
  | _, _, .str s h, _ => str_ok h.2
  | _, _, .tup h r, p => by simpa only [D.py, PyData.canLay0] using RepVs.lay r (by simpa [D.plain] using p)
  | _, _, .lst h _ r, p => by simpa only [D.py, PyData.canLay0] using RepVs.lay r (by simpa [D.plain] using p)
  | _, _, .st _ _ _, p => by simp [D.plain] at p
  | _, _, .rol h r, p => by simpa only [D.py, PyData.canLay0] using RepVs.lay r (by simpa [D.plain] using p)
  | _, _, .obj _ _, p => by simp [D.plain] at p
  | _, _, .dob _ _, p => by simp [D.plain] at p
theorem RepVs.lay : ∀ {ds : List D} {vs : List V}, RepVs K ρ N H ds vs → D.plains ds = true → PyData.canLayAll0 (D.pys ds) = true
  | _, _, .nil, _ => rfl
  | _, _, .cons r t, p => by
    simp only [D.plains, Bool.and_eq_true] at p
    simp only [D.pys, PyData.canLayAll0, RepV.lay r p.1, RepVs.lay t p.2, Bool.and_self]
end
end

/-- the value d is handed on: in whatever heap has grown and bears the store -/
def OkTo (W : Wd) (ρ : Rn) (S : Store) (H : Hp) (d : D) (Q : VK) : Prop := ∀ H' z, Ext ρ S.length H ρ S.length H' → RepS W ρ S H' → RepV W.K ρ S.length H' d z → Q z H'
section
variable {W : Wd} {ρ : Rn} {S : Store} {H : Hp} {d : D} {Q : VK}
theorem OkTo.here (h : OkTo W ρ S H d Q) (s : RepS W ρ S H) {z : V} (r : RepV W.K ρ S.length H d z) : Q z H := h H z .refl s r
theorem RepS.ne (s : RepS W ρ S H) {p : Addr} (hp : H p = none) : ∀ i, i < S.length → ρ i ≠ p := fun i hi e => by
  obtain ⟨o, q, _⟩ := s.addr hi
  rw [e, hp] at q; cases q
theorem RepS.nhid (s : RepS W ρ S H) {p : Addr} (hp : H p = none) : p ∉ ρ.hid := fun h => by
  obtain ⟨⟨xs, e⟩, _⟩ := s.hid p h
  rw [hp] at e; cases e
theorem OkTo.tup {ds : List D} {vs : List V} {p : Addr} (h : OkTo W ρ S H (.tup ds) Q) (s : RepS W ρ S H) (r : RepVs W.K ρ S.length H ds vs) (hp : H p = none) : Q (.ref p) (upd H p (.tup vs)) :=
  h _ _ (Ext.new hp) (s.new hp) (.tup (SqT.of upd_same) (r.mono (Ext.new hp)))
theorem OkTo.lst {ds : List D} {vs : List V} {p : Addr} (h : OkTo W ρ S H (.lst ds) Q) (s : RepS W ρ S H) (r : RepVs W.K ρ S.length H ds vs) (hp : H p = none) : Q (.ref p) (upd H p (.lst vs)) :=
  h _ _ (Ext.new hp) (s.new hp) (.lst upd_same ⟨s.ne hp, s.nhid hp⟩ (r.mono (Ext.new hp)))
theorem OkTo.dic {ks vs : List D} {kvs : List (Key × V)} {p : Addr} (h : OkTo W ρ S H (.dic ks vs) Q) (s : RepS W ρ S H) (r : RepVs W.K ρ S.length H ks (kvs.map fun p => kV p.1) ∧ RepVs W.K ρ S.length H vs (kvs.map Prod.snd)) (hp : H p = none) : Q (.ref p) (upd H p (.dK kvs)) :=
  h _ _ (Ext.new hp) (s.new hp) (.dic upd_same ⟨s.ne hp, s.nhid hp⟩ (r.1.mono (Ext.new hp)) (r.2.mono (Ext.new hp)))
end
/-- a two-place operation on data, by the store, that leaves it as it is -/
abbrev Op2 := D → D → Store → Option D
def rP (W : Wd) (op : Op2) : R2 := fun x y H Q => ∃ dx dy ρ S d, RepS W ρ S H ∧ RepV W.K ρ S.length H dx x ∧ RepV W.K ρ S.length H dy y ∧ op dx dy S = some d ∧ OkTo W ρ S H d Q

/-- what the store's object stands for, read -/
def D.rd (S : Store) : D → D
  | .obj n => match S[n]? with
    | some (.lst ds) => .lst ds
    | some (.dic ks vs) => .dic ks vs
    | some (.st ks) => .st ks
    | none => .non
  | d => d
/-- a list or tuple that is read: its items -/
def D.seq (S : Store) : D → Option (List D)
  | .tup ds => some ds
  | .lst ds => some ds
  | .rol ds => some ds
  | .obj n => match S[n]? with
    | some (.lst ds) => some ds
    | _ => none
  | _ => none
/-- as a list alone -/
def D.lseq (S : Store) : D → Option (List D)
  | .lst ds => some ds
  | .rol ds => some ds
  | .obj n => match S[n]? with
    | some (.lst ds) => some ds
    | _ => none
  | _ => none
section
variable {W : Wd} {ρ : Rn} {S : Store} {H : Hp} {d : D} {v : V}
theorem RepS.dict (s : RepS W ρ S H) {n : Nat} {ks vs : List D} (h : S[n]? = some (.dic ks vs)) : (ks.all D.pure && vs.all D.pure) = true ∧ ∃ kvs : List (Key × V), H (ρ n) = some (.dK kvs) ∧ RepVs W.K ρ S.length H ks (kvs.map fun p => kV p.1) ∧ RepVs W.K ρ S.length H vs (kvs.map Prod.snd) := s.at_ n _ h
theorem RepS.list (s : RepS W ρ S H) {n : Nat} {ds : List D} (h : S[n]? = some (.lst ds)) : ds.all D.pure = true ∧ ∃ vs, H (ρ n) = some (.lst vs) ∧ RepVs W.K ρ S.length H ds vs := s.at_ n _ h
theorem lseq_rep (s : RepS W ρ S H) (r : RepV W.K ρ S.length H d v) {ds : List D} (h : d.lseq S = some ds) : ∃ a vs, v = .ref a ∧ SqL W.K H a vs ∧ RepVs W.K ρ S.length H ds vs := by
  cases r with
  | lst h1 h2 h3 => simp [D.lseq] at h; subst h; exact ⟨_, _, rfl, SqL.of h1, h3⟩
  | rol h1 h3 => simp [D.lseq] at h; subst h; exact ⟨_, _, rfl, rol_sql h1, h3⟩
  | @obj n hn =>
    simp only [D.lseq] at h
    cases q : S[n]? with
    | none => rw [q] at h; cases h
    | some c =>
      rw [q] at h
      cases c with
      | lst es =>
        simp at h; subst h
        obtain ⟨_, vs, h1, h2⟩ := s.list q
        exact ⟨_, vs, rfl, SqL.of h1, h2⟩
      | dic _ _ => cases h
      | st _ => cases h
  | _ => simp [D.lseq] at h
theorem seq_rep (s : RepS W ρ S H) (r : RepV W.K ρ S.length H d v) {ds : List D} (h : d.seq S = some ds) : ∃ a vs, v = .ref a ∧ (SqL W.K H a vs ∨ SqT W.K H a vs) ∧ RepVs W.K ρ S.length H ds vs := by
  cases r with
  | tup h1 h3 => simp [D.seq] at h; subst h; exact ⟨_, _, rfl, .inr h1, h3⟩
  | lst h1 h2 h3 => simp [D.seq] at h; subst h; exact ⟨_, _, rfl, .inl (SqL.of h1), h3⟩
  | rol h1 h3 => simp [D.seq] at h; subst h; exact ⟨_, _, rfl, .inl (rol_sql h1), h3⟩
  | obj hn hk =>
    obtain ⟨a, vs, e, h1, h2⟩ := lseq_rep (d := .obj _) s (.obj hn hk) (ds := ds) (by simpa [D.seq, D.lseq] using h)
    exact ⟨a, vs, e, .inl h1, h2⟩
  | _ => simp [D.seq] at h
/-- a store's object, read -/
theorem rd_rep (s : RepS W ρ S H) (r : RepV W.K ρ S.length H d v) (hp : (d.rd S).plain = true) : Dp W.K H v (d.rd S).py ∧ (d.rd S).py.canLay0 = true := by
  cases r with
  | @obj n hn =>
    simp only [D.rd] at hp ⊢
    cases q : S[n]? with
    | none => rw [List.getElem?_eq_none_iff] at q; omega
    | some c =>
      rw [q] at hp
      cases c with
      | lst es =>
        obtain ⟨_, vs, h1, h2⟩ := s.list q
        have hp' : D.plains es = true := by simpa [D.plain] using hp
        exact ⟨.lst (SqL.of h1) (h2.dp hp'), by simpa only [D.py, PyData.canLay0] using h2.lay hp'⟩
      | dic _ _ => simp [D.plain] at hp
      | st _ => simp [D.plain] at hp
  | non => exact ⟨.non, rfl⟩
  | bl b => exact ⟨.bl b, rfl⟩
  | int i => exact ⟨.int i, rfl⟩
  | str x h => exact ⟨(RepV.str (K := W.K) (ρ := ρ) (N := S.length) (H := H) x h).dp hp, (RepV.str (K := W.K) (ρ := ρ) (N := S.length) (H := H) x h).lay hp⟩
  | tup h r => exact ⟨(RepV.tup h r).dp hp, (RepV.tup h r).lay hp⟩
  | lst h h2 r => exact ⟨(RepV.lst h h2 r).dp hp, (RepV.lst h h2 r).lay hp⟩
  | rol h r => exact ⟨(RepV.rol h r).dp hp, (RepV.rol h r).lay hp⟩
  | dic => simp [D.rd, D.plain] at hp
  | st => simp [D.rd, D.plain] at hp
  | dob => simp [D.rd, D.plain] at hp
end

def dAdd : Op2
  | .int i, .int j, _ => some (.int (i + j))
  | .str a, .str b, _ => if a.length + b.length ≤ sizeLine then some (.str (a ++ b)) else none
  | .lst a, .lst b, _ => if a.length + b.length ≤ sizeLine then some (.lst (a ++ b)) else none
  | .tup a, .tup b, _ => if a.length + b.length ≤ sizeLine then some (.tup (a ++ b)) else none
  | _, _, _ => none
def dSub : Op2
  | .int i, .int j, _ => some (.int (i - j))
  | _, _, _ => none
/-- one factor is small -/
def mulOk (i j : Int) : Bool := decide (i.natAbs < 18446744073709551616) || decide (j.natAbs < 18446744073709551616)
def rep {α : Type} (k : Nat) (xs : List α) : List α := (List.replicate k xs).flatten
def dMul : Op2
  | .int i, .int j, _ => if mulOk i j then some (.int (i * j)) else none
  | .str a, .int j, _ => if j < 9223372036854775808 ∧ -9223372036854775808 ≤ j ∧ a.length * j.toNat ≤ sizeLine then some (.str (rep j.toNat a)) else none
  | .lst a, .int j, _ => if j < 9223372036854775808 ∧ -9223372036854775808 ≤ j ∧ a.length * j.toNat ≤ sizeLine then some (.lst (rep j.toNat a)) else none
  | _, _, _ => none
def dDiv : Op2
  | .int i, .int j, _ => if 0 < j ∧ j < 1073741824 then some (.int (i / j)) else none
  | _, _, _ => none
def dMod : Op2
  | .int i, .int j, _ => if 0 < j then some (.int (i % j)) else none
  | _, _, _ => none
def dPow : Op2
  | .int i, .int j, _ => if 0 ≤ j ∧ j ≤ 1000000 ∧ i.natAbs < 18446744073709551616 then some (.int (i ^ j.toNat)) else none
  | _, _, _ => none
section
variable {X : Cx} {W : Wd}
theorem app_str (a b : List Nat) : (⟨a.toArray⟩ : Str) ++ ⟨b.toArray⟩ = ⟨(a ++ b).toArray⟩ := by
  show (⟨a.toArray ++ b.toArray⟩ : Str) = _
  simp
theorem all_app {a b : List Nat} {p : Nat → Bool} (h1 : a.all p = true) (h2 : b.all p = true) : (a ++ b).all p = true := by simp [h1, h2]
theorem op_pAdd (hK : X.K = W.K) : OpR X (binaryOp .Add) (rP W dAdd) := by
  intro pins s σ H x y v u Q I r1 r2 h
  obtain ⟨dx, dy, ρ, S, d, hS, hx, hy, e, q⟩ := h
  unfold dAdd at e
  split at e
  · cases e
    cases hx; cases hy
    exact op_add pins s σ H _ _ v u Q I r1 r2 ⟨_, _, rfl, rfl, q.here hS (.int _)⟩
  · rename_i a b _
    split at e
    · rename_i hz
      cases e
      cases hx with | str _ h1 => cases hy with | str _ h2 =>
      refine op_add_str pins s σ H _ _ v u Q I r1 r2 ⟨_, _, rfl, rfl, hz, ?_⟩
      rw [app_str]
      exact q.here hS (.str _ ⟨by simpa using hz, all_app h1.2 h2.2⟩)
    · cases e
  · split at e
    · rename_i hz
      cases e
      cases hx with | lst h1 n1 a1 => cases hy with | lst h2 n2 a2 =>
      exact op_cat pins s σ H _ _ v u Q I r1 r2 ⟨_, _, _, _, rfl, rfl, h1, h2, by rw [← a1.length, ← a2.length]; exact hz, fun p hp => q.lst hS (a1.append a2) hp⟩
    · cases e
  · split at e
    · rename_i hz
      cases e
      cases hx with | tup h1 a1 => cases hy with | tup h2 a2 =>
      rw [← hK] at h1 h2
      refine op_catA pins s σ H _ _ v u Q I r1 r2 ⟨_, _, _, _, rfl, rfl, h1, h2, by rw [← a1.length, ← a2.length]; exact hz, fun z => ?_, fun _ z => ?_, fun _ _ p hp => q.tup hS (a1.append a2) hp⟩
      · subst z
        cases a1
        exact q.here hS (.tup (hK ▸ h2) a2)
      · subst z
        cases a2
        rw [List.append_nil] at q
        exact q.here hS (.tup (hK ▸ h1) a1)
    · cases e
  · cases e
theorem op_pSub : OpR X (binaryOp .Sub) (rP W dSub) := by
  intro pins s σ H x y v u Q I r1 r2 h
  obtain ⟨dx, dy, ρ, S, d, hS, hx, hy, e, q⟩ := h
  unfold dSub at e
  split at e
  · cases e
    cases hx; cases hy
    exact op_sub pins s σ H _ _ v u Q I r1 r2 ⟨_, _, rfl, rfl, q.here hS (.int _)⟩
  · cases e
theorem mulOk_of {i j : Int} (h : mulOk i j = true) : CMul i j := by
  unfold mulOk at h
  rcases Bool.or_eq_true_iff.mp h with h | h
  · have := of_decide_eq_true h; exact .inl (by omega)
  · have := of_decide_eq_true h; exact .inr (by omega)
theorem op_pDiv : OpR X (binaryOp .FloorDiv) (rP W dDiv) := by
  intro pins s σ H x y v u Q I r1 r2 h
  obtain ⟨dx, dy, ρ, S, d, hS, hx, hy, e, q⟩ := h
  unfold dDiv at e
  split at e
  · split at e
    · rename_i hz
      cases e
      cases hx; cases hy
      exact op_fdiv pins s σ H _ _ v u Q I r1 r2 ⟨_, _, rfl, rfl, hz, q.here hS (.int _)⟩
    · cases e
  · cases e
theorem op_pMod : OpR X (binaryOp .Mod) (rP W dMod) := by
  intro pins s σ H x y v u Q I r1 r2 h
  obtain ⟨dx, dy, ρ, S, d, hS, hx, hy, e, q⟩ := h
  unfold dMod at e
  split at e
  · split at e
    · rename_i hz
      cases e
      cases hx; cases hy
      exact op_mod pins s σ H _ _ v u Q I r1 r2 ⟨_, _, rfl, rfl, hz, q.here hS (.int _)⟩
    · cases e
  · cases e
theorem op_pPow : OpR X (binaryOp .Pow) (rP W dPow) := by
  intro pins s σ H x y v u Q I r1 r2 h
  obtain ⟨dx, dy, ρ, S, d, hS, hx, hy, e, q⟩ := h
  unfold dPow at e
  split at e
  · split at e
    · rename_i hz
      cases e
      cases hx; cases hy
      exact op_pow pins s σ H _ _ v u Q I r1 r2 ⟨_, _, rfl, rfl, ⟨hz.1, hz.2.1, by omega⟩, q.here hS (.int _)⟩
    · cases e
  · cases e
end

section
variable {X : Cx} {W : Wd}
theorem sizeL : (sizeLine : Nat) = 16777216 := sizeLine_eq
theorem rep_str (a : List Nat) (n : Nat) : (List.replicate n a.toArray).foldl (· ++ ·) #[] = (rep n a).toArray := by
  have h : ∀ (k : Nat) (acc : List Nat), List.foldl (· ++ ·) acc.toArray (List.replicate k a.toArray) = (acc ++ (List.replicate k a).flatten).toArray := by
    intro k
    induction k with
    | zero => intro acc; simp
    | succ k ih =>
      intro acc
      rw [List.replicate_succ, List.foldl_cons]
      have e : acc.toArray ++ a.toArray = (acc ++ a).toArray := by simp
      rw [e, ih, List.replicate_succ, List.flatten_cons, List.append_assoc]
  simpa [rep] using h n []
theorem rep_len {α : Type} (n : Nat) (a : List α) : (rep n a).length = n * a.length := by
  unfold rep
  induction n with
  | zero => simp
  | succ n ih => rw [List.replicate_succ, List.flatten_cons, List.length_append, ih, Nat.succ_mul]; omega
theorem rep_all {p : Nat → Bool} {a : List Nat} (h : a.all p = true) (n : Nat) : (rep n a).all p = true := by
  unfold rep
  induction n with
  | zero => simp
  | succ n ih => rw [List.replicate_succ, List.flatten_cons, List.all_append, h, ih]; rfl
theorem rep_mul (a : List Nat) (j : Int) : Txt.mul ⟨a.toArray⟩ j = ⟨(rep j.toNat a).toArray⟩ := by
  unfold Txt.mul
  by_cases h1 : j < 1
  · rw [if_pos h1]
    have : j.toNat = 0 := by omega
    rw [this]; rfl
  · rw [if_neg h1]
    by_cases h2 : (j == 1 || (⟨a.toArray⟩ : Str).length == 0) = true
    · rw [if_pos h2]
      rcases Bool.or_eq_true_iff.mp h2 with h | h
      · have : j = 1 := by simpa using h
        subst this
        simp [rep]
      · have : a = [] := by simpa [Str.length] using h
        subst this
        have e : rep j.toNat ([] : List Nat) = [] := by
          apply List.eq_nil_of_length_eq_zero
          rw [rep_len]; simp
        rw [e]
    · rw [if_neg h2, rep_str]
theorem RepVs.rep {K : PySem.W.Frag} {ρ : Rn} {N : Nat} {H : Hp} {ds : List D} {vs : List V} (r : RepVs K ρ N H ds vs) : ∀ n : Nat, RepVs K ρ N H (rep n ds) (List.replicate n vs).flatten
  | 0 => .nil
  | n + 1 => by
    unfold PD.rep
    rw [List.replicate_succ, List.flatten_cons, List.replicate_succ, List.flatten_cons]
    exact r.append (RepVs.rep r n)
theorem op_pMul : OpR X (binaryOp .Mult) (rP W dMul) := by
  intro pins s σ H x y v u Q I r1 r2 h
  obtain ⟨dx, dy, ρ, S, d, hS, hx, hy, e, q⟩ := h
  unfold dMul at e
  split at e
  · split at e
    · rename_i hz
      cases e
      cases hx; cases hy
      exact op_mul pins s σ H _ _ v u Q I r1 r2 ⟨_, _, rfl, rfl, mulOk_of hz, q.here hS (.int _)⟩
    · cases e
  · rename_i _ a j
    split at e
    · rename_i hz
      cases e
      cases hx with | str _ h1 => cases hy with | int _ =>
      obtain ⟨t, rfl⟩ := r1
      obtain ⟨t', rfl⟩ := r2
      have hl : (⟨a.toArray⟩ : Str).length = a.length := by simp [Str.length]
      refine SB.mul ⟨?_, fun h1 h2 => ?_, fun _ _ => ?_⟩ fun t' k => ?_
      · rw [Bool.or_eq_false_iff]
        exact ⟨decide_eq_false (by omega), decide_eq_false (by omega)⟩
      · rw [hl]
        have hs := sizeL
        have hj : (1 : Int) ≤ j := by omega
        have hmul : (a.length : Int) * j ≤ 16777216 := by
          have : a.length * j.toNat ≤ 16777216 := by omega
          have e : ((a.length * j.toNat : Nat) : Int) = (a.length : Int) * j := by rw [Int.natCast_mul]; congr 1; omega
          omega
        intro hgt
        have h3 : (a.length : Int) * j ≤ (2 ^ 63 - 1) := by omega
        have h4 : (a.length : Int) ≤ (2 ^ 63 - 1) / j := (Int.le_ediv_iff_mul_le (by omega)).mpr h3
        omega
      · rw [hl]
        exact decide_eq_false (by have := sizeL; omega)
      · refine ⟨.str (Txt.mul ⟨a.toArray⟩ _), H, I.tok _, ⟨_, rfl⟩, ?_⟩
        rw [rep_mul]
        exact q.here hS (.str _ ⟨by rw [rep_len, Nat.mul_comm]; exact hz.2.2, rep_all h1.2 _⟩)
    · cases e
  · split at e
    · rename_i hz
      cases e
      cases hx with | lst h1 n1 a1 => cases hy with | int _ =>
      exact op_rep pins s σ H _ _ v u Q I r1 r2 ⟨_, _, _, rfl, rfl, h1, by omega, by omega, by rw [← a1.length]; exact hz.2.2, fun p hp => q.lst hS (a1.rep _) hp⟩
    · cases e
  · cases e

def dEq : Op2 := fun x y S => if (x.rd S).plain && (y.rd S).plain && decide (min (x.rd S).depth (y.rd S).depth ≤ 150) then some (.bl ((x.rd S).eqv (y.rd S))) else none
def dNe : Op2 := fun x y S => if (x.rd S).plain && (y.rd S).plain && decide (min (x.rd S).depth (y.rd S).depth ≤ 150) then some (.bl (!(x.rd S).eqv (y.rd S))) else none
theorem op_pEq (hK : X.K = W.K) (hu : X.A.units + 200 < cLine) : OpR X (compareOp .Eq) (rP W dEq) := by
  intro pins s σ H x y v u Q I r1 r2 h
  obtain ⟨dx, dy, ρ, S, d, hS, hx, hy, e, q⟩ := h
  unfold dEq at e
  split at e
  · rename_i hz
    cases e
    simp only [Bool.and_eq_true, decide_eq_true_eq] at hz
    obtain ⟨a1, c1⟩ := rd_rep hS hx hz.1.1
    obtain ⟨a2, c2⟩ := rd_rep hS hy hz.1.2
    rw [← hK] at a1 a2
    obtain ⟨as, e1⟩ := Dp.reads I _ _ _ a1 r1
    obtain ⟨bs, e2⟩ := Dp.reads I _ _ _ a2 r2
    refine SeqAt.compareEq_reads e1 e2 c1 c2 (by rw [D.depth_py _ hz.1.1, D.depth_py _ hz.1.2]; omega) ⟨.bl _, H, I, rfl, ?_⟩
    rw [D.eqv_py _ _ hz.1.1 hz.1.2]
    exact q.here hS (.bl _)
  · cases e
theorem op_pNe (hK : X.K = W.K) (hu : X.A.units + 200 < cLine) : OpR X (compareOp .NotEq) (rP W dNe) := by
  intro pins s σ H x y v u Q I r1 r2 h
  obtain ⟨dx, dy, ρ, S, d, hS, hx, hy, e, q⟩ := h
  unfold dNe at e
  split at e
  · rename_i hz
    cases e
    simp only [Bool.and_eq_true, decide_eq_true_eq] at hz
    obtain ⟨a1, c1⟩ := rd_rep hS hx hz.1.1
    obtain ⟨a2, c2⟩ := rd_rep hS hy hz.1.2
    rw [← hK] at a1 a2
    obtain ⟨as, e1⟩ := Dp.reads I _ _ _ a1 r1
    obtain ⟨bs, e2⟩ := Dp.reads I _ _ _ a2 r2
    refine SeqAt.compareNe_reads e1 e2 c1 c2 (by rw [D.depth_py _ hz.1.1, D.depth_py _ hz.1.2]; omega) ⟨.bl _, H, I, rfl, ?_⟩
    rw [D.eqv_py _ _ hz.1.1 hz.1.2]
    exact q.here hS (.bl _)
  · cases e
def dLt : Op2
  | .int i, .int j, _ => some (.bl (decide (i < j)))
  | .str a, .str b, _ => some (.bl (decide (a < b)))
  | _, _, _ => none
def dLe : Op2
  | .int i, .int j, _ => some (.bl (decide (i ≤ j)))
  | .str a, .str b, _ => some (.bl (!decide (b < a)))
  | _, _, _ => none
def dGt : Op2
  | .int i, .int j, _ => some (.bl (decide (j < i)))
  | .str a, .str b, _ => some (.bl (decide (b < a)))
  | _, _, _ => none
def dGe : Op2
  | .int i, .int j, _ => some (.bl (decide (j ≤ i)))
  | .str a, .str b, _ => some (.bl (!decide (a < b)))
  | _, _, _ => none
theorem op_pLt : OpR X (compareOp .Lt) (rP W dLt) := by
  intro pins s σ H x y v u Q I r1 r2 h
  obtain ⟨dx, dy, ρ, S, d, hS, hx, hy, e, q⟩ := h
  unfold dLt at e
  split at e
  · cases e
    cases hx; cases hy
    exact op_lt pins s σ H _ _ v u Q I r1 r2 ⟨_, _, rfl, rfl, q.here hS (.bl _)⟩
  · cases e
    cases hx; cases hy
    exact op_lt_str pins s σ H _ _ v u Q I r1 r2 ⟨_, _, rfl, rfl, q.here hS (.bl _)⟩
  · cases e
theorem op_pLe : OpR X (compareOp .LtE) (rP W dLe) := by
  intro pins s σ H x y v u Q I r1 r2 h
  obtain ⟨dx, dy, ρ, S, d, hS, hx, hy, e, q⟩ := h
  unfold dLe at e
  split at e
  · cases e
    cases hx; cases hy
    exact op_le pins s σ H _ _ v u Q I r1 r2 ⟨_, _, rfl, rfl, q.here hS (.bl _)⟩
  · cases e
    cases hx; cases hy
    exact op_le_str pins s σ H _ _ v u Q I r1 r2 ⟨_, _, rfl, rfl, q.here hS (.bl _)⟩
  · cases e
theorem op_pGt : OpR X (compareOp .Gt) (rP W dGt) := by
  intro pins s σ H x y v u Q I r1 r2 h
  obtain ⟨dx, dy, ρ, S, d, hS, hx, hy, e, q⟩ := h
  unfold dGt at e
  split at e
  · cases e
    cases hx; cases hy
    exact op_gt pins s σ H _ _ v u Q I r1 r2 ⟨_, _, rfl, rfl, q.here hS (.bl _)⟩
  · cases e
    cases hx; cases hy
    exact op_gt_str pins s σ H _ _ v u Q I r1 r2 ⟨_, _, rfl, rfl, q.here hS (.bl _)⟩
  · cases e
theorem op_pGe : OpR X (compareOp .GtE) (rP W dGe) := by
  intro pins s σ H x y v u Q I r1 r2 h
  obtain ⟨dx, dy, ρ, S, d, hS, hx, hy, e, q⟩ := h
  unfold dGe at e
  split at e
  · cases e
    cases hx; cases hy
    exact op_ge pins s σ H _ _ v u Q I r1 r2 ⟨_, _, rfl, rfl, q.here hS (.bl _)⟩
  · cases e
    cases hx; cases hy
    exact op_ge_str pins s σ H _ _ v u Q I r1 r2 ⟨_, _, rfl, rfl, q.here hS (.bl _)⟩
  · cases e
/-- is: with None, of bools -/
def D.isNon : D → Bool
  | .non => true
  | _ => false
def dIs : Op2
  | x, .non, _ => some (.bl x.isNon)
  | .bl a, .bl b, _ => some (.bl (decide (a = b)))
  | _, _, _ => none
def dIsNot : Op2
  | x, .non, _ => some (.bl (!x.isNon))
  | .bl a, .bl b, _ => some (.bl (!decide (a = b)))
  | _, _, _ => none
theorem isNon_rep {K : PySem.W.Frag} {ρ : Rn} {N : Nat} {H : Hp} {d : D} {v : V} (r : RepV K ρ N H d v) : decide (v = .non) = d.isNon := by
  cases r <;> simp [D.isNon]
theorem op_pIs : OpR X (compareOp .Is) (rP W dIs) := by
  intro pins s σ H x y v u Q I r1 r2 h
  obtain ⟨dx, dy, ρ, S, d, hS, hx, hy, e, q⟩ := h
  unfold dIs at e
  split at e
  · cases e
    cases hy
    exact op_isN pins s σ H _ _ v u Q I r1 r2 ⟨rfl, by rw [isNon_rep hx]; exact q.here hS (.bl _)⟩
  · cases e
    cases hx; cases hy
    exact op_isBl pins s σ H _ _ v u Q I r1 r2 ⟨_, _, rfl, rfl, q.here hS (.bl _)⟩
  · cases e
theorem op_pIsNot : OpR X (compareOp .IsNot) (rP W dIsNot) := by
  intro pins s σ H x y v u Q I r1 r2 h
  obtain ⟨dx, dy, ρ, S, d, hS, hx, hy, e, q⟩ := h
  unfold dIsNot at e
  split at e
  · cases e
    cases hy
    exact op_notN pins s σ H _ _ v u Q I r1 r2 ⟨rfl, by rw [isNon_rep hx]; exact q.here hS (.bl _)⟩
  · cases e
    cases hx; cases hy
    exact op_notBl pins s σ H _ _ v u Q I r1 r2 ⟨_, _, rfl, rfl, q.here hS (.bl _)⟩
  · cases e

/-- what may be a key: whole numbers, texts -/
def D.key : D → Bool
  | .int _ => true
  | .str _ => true
  | _ => false
def D.keq : D → D → Bool
  | .int a, .int b => decide (a = b)
  | .str a, .str b => decide (a = b)
  | _, _ => false
/-- what is kept at a key -/
def lookD : List D → List D → D → Option D
  | k :: ks, v :: vs, x => if D.keq k x then some v else lookD ks vs x
  | _, _, _ => none
/-- the keys, the values behind d[x] = y -/
def putK (ks : List D) (x : D) : List D := if ks.any (fun k => D.keq k x) = true then ks else ks ++ [x]
def putV (ks vs : List D) (x y : D) : List D := if ks.any (fun k => D.keq k x) = true then List.zipWith (fun k v => if D.keq k x then y else v) ks vs else vs ++ [y]
/-- pairs, put in one after another -/
def pairsD : List D → List D → List D → Option (List D × List D)
  | ks, vs, [] => some (ks, vs)
  | ks, vs, .tup [x, y] :: r => if x.key then pairsD (putK ks x) (putV ks vs x y) r else none
  | _, _, _ => none
section
variable {K : PySem.W.Frag} {ρ : Rn} {N : Nat} {H : Hp} {d e : D} {v u : V}
theorem key_rep (r : RepV K ρ N H d v) (h : d.key = true) : ∃ k : Key, v = kV k := by
  cases r <;> first | (cases h; done) | skip
  · exact ⟨.inl _, rfl⟩
  · exact ⟨.inr _, rfl⟩
theorem keq_rep {k j : Key} (r : RepV K ρ N H d (kV k)) (t : RepV K ρ N H e (kV j)) : D.keq d e = decide (k = j) := by
  cases k with
  | inl a =>
    change RepV K ρ N H d (.int a) at r
    cases r
    cases j with
    | inl b =>
      change RepV K ρ N H e (.int b) at t
      cases t
      simp [D.keq]
    | inr b =>
      change RepV K ρ N H e (.str b) at t
      cases t
      simp [D.keq]
  | inr a =>
    change RepV K ρ N H d (.str a) at r
    cases r
    cases j with
    | inl b =>
      change RepV K ρ N H e (.int b) at t
      cases t
      simp [D.keq]
    | inr b =>
      change RepV K ρ N H e (.str b) at t
      cases t
      simp [D.keq]
/-- a dict's rows -/
def RepK (K : PySem.W.Frag) (ρ : Rn) (N : Nat) (H : Hp) (ks vs : List D) (kvs : List (Key × V)) : Prop := RepVs K ρ N H ks (kvs.map fun p => kV p.1) ∧ RepVs K ρ N H vs (kvs.map Prod.snd)
theorem RepK.cons {k : Key} {ks vs : List D} {kvs : List (Key × V)} (r : RepV K ρ N H d (kV k)) (t : RepV K ρ N H e u) (q : RepK K ρ N H ks vs kvs) : RepK K ρ N H (d :: ks) (e :: vs) ((k, u) :: kvs) := ⟨.cons r q.1, .cons t q.2⟩
theorem RepK.nil : RepK K ρ N H [] [] [] := ⟨.nil, .nil⟩
theorem RepK.inv : ∀ {ks vs : List D} {p : Key × V} {kvs : List (Key × V)}, RepK K ρ N H ks vs (p :: kvs) → ∃ d ks' e vs', ks = d :: ks' ∧ vs = e :: vs' ∧ RepV K ρ N H d (kV p.1) ∧ RepV K ρ N H e p.2 ∧ RepK K ρ N H ks' vs' kvs
  | _, _, _, _, ⟨.cons a b, .cons c d⟩ => ⟨_, _, _, _, rfl, rfl, a, c, b, d⟩
theorem lookD_rep {k : Key} (rx : RepV K ρ N H d (kV k)) : ∀ {kvs : List (Key × V)} {ks vs : List D}, RepK K ρ N H ks vs kvs →
    (∀ e, lookD ks vs d = some e → ∃ v, valV kvs k = some v ∧ RepV K ρ N H e v) ∧ (lookD ks vs d = none → valV kvs k = none)
  | [], ks, vs, ⟨a, b⟩ => by
    cases a; cases b
    exact ⟨fun e h => by simp [lookD] at h, fun _ => rfl⟩
  | p :: kvs, ks, vs, q => by
    obtain ⟨d', ks', e', vs', rfl, rfl, r1, r2, q⟩ := q.inv
    have hk := keq_rep r1 rx
    unfold lookD
    by_cases h : p.1 = k
    · rw [hk, decide_eq_true h, if_pos rfl, valV_pos h]
      exact ⟨fun e he => by cases he; exact ⟨_, rfl, r2⟩, fun he => by cases he⟩
    · rw [hk, decide_eq_false h, if_neg Bool.false_ne_true, valV_neg h]
      exact lookD_rep rx q
theorem lookD_some {k : Key} (rx : RepV K ρ N H d (kV k)) {kvs : List (Key × V)} {ks vs : List D} (q : RepK K ρ N H ks vs kvs) : (valV kvs k).isSome = (lookD ks vs d).isSome := by
  obtain ⟨h1, h2⟩ := lookD_rep rx q
  cases e : lookD ks vs d with
  | none => rw [h2 e]; rfl
  | some x => obtain ⟨v, hv, _⟩ := h1 x e; rw [hv]; rfl
theorem any_rep {k : Key} (rx : RepV K ρ N H d (kV k)) : ∀ {kvs : List (Key × V)} {ks vs : List D}, RepK K ρ N H ks vs kvs → (ks.any fun k => D.keq k d) = kvs.any fun kv => decide (kv.1 = k)
  | [], ks, vs, ⟨a, b⟩ => by cases a; rfl
  | p :: kvs, ks, vs, q => by
    obtain ⟨d', ks', e', vs', rfl, rfl, r1, r2, q⟩ := q.inv
    rw [List.any_cons, List.any_cons, keq_rep r1 rx, any_rep rx q]
theorem RepK.snoc {k : Key} (rx : RepV K ρ N H d (kV k)) (ry : RepV K ρ N H e u) : ∀ {kvs : List (Key × V)} {ks vs : List D}, RepK K ρ N H ks vs kvs → RepK K ρ N H (ks ++ [d]) (vs ++ [e]) (kvs ++ [(k, u)])
  | [], ks, vs, ⟨a, b⟩ => by cases a; cases b; exact RepK.nil.cons rx ry
  | p :: kvs, ks, vs, q => by
    obtain ⟨d', ks', e', vs', rfl, rfl, r1, r2, q⟩ := q.inv
    exact (RepK.snoc rx ry q).cons r1 r2
theorem RepK.zip {k : Key} (rx : RepV K ρ N H d (kV k)) (ry : RepV K ρ N H e u) : ∀ {kvs : List (Key × V)} {ks vs : List D}, RepK K ρ N H ks vs kvs →
    RepK K ρ N H ks (List.zipWith (fun k v => if D.keq k d then e else v) ks vs) (kvs.map fun kv => if kv.1 = k then (kv.1, u) else kv)
  | [], ks, vs, ⟨a, b⟩ => by cases a; cases b; exact RepK.nil
  | p :: kvs, ks, vs, q => by
    obtain ⟨d', ks', e', vs', rfl, rfl, r1, r2, q⟩ := q.inv
    rw [List.zipWith_cons_cons, List.map_cons, keq_rep r1 rx]
    by_cases h : p.1 = k
    · rw [decide_eq_true h, if_pos rfl, if_pos h]
      exact (RepK.zip rx ry q).cons r1 ry
    · rw [decide_eq_false h, if_neg Bool.false_ne_true, if_neg h]
      exact (RepK.zip rx ry q).cons r1 r2
theorem RepK.put {k : Key} {kvs : List (Key × V)} {ks vs : List D} (rx : RepV K ρ N H d (kV k)) (ry : RepV K ρ N H e u) (q : RepK K ρ N H ks vs kvs) : RepK K ρ N H (putK ks d) (putV ks vs d e) (L2.putK kvs k u) := by
  unfold putK putV L2.putK
  rw [any_rep rx q]
  split
  · exact RepK.zip rx ry q
  · exact RepK.snoc rx ry q
end
def dIdx : Op2
  | .str s, .int i, _ => (atI s i).map fun c => .str [c]
  | .dic ks vs, x, _ => if x.key then lookD ks vs x else none
  | .dob n, x, S => match S[n]? with
    | some (.dic ks vs) => if x.key then lookD ks vs x else none
    | _ => none
  | x, .int i, S => match x.seq S with
    | some ds => atI ds i
    | none => none
  | _, _, _ => none
theorem RepVs.atI {K : PySem.W.Frag} {ρ : Rn} {N : Nat} {H : Hp} {ds : List D} {vs : List V} {i : Int} {d : D} (r : RepVs K ρ N H ds vs) (h : L2.atI ds i = some d) : ∃ v, L2.atI vs i = some v ∧ RepV K ρ N H d v := by
  unfold L2.atI at h ⊢
  rw [← r.length]
  cases q : ixN ds.length i with
  | none => rw [q] at h; cases h
  | some j =>
    rw [q] at h
    obtain ⟨v, h1, h2⟩ := r.get (show ds[j]? = some d from h)
    exact ⟨v, h1, h2⟩
theorem atI_all {p : Nat → Bool} {s : List Nat} {i : Int} {c : Nat} (h : s.all p = true) (e : L2.atI s i = some c) : p c = true := by
  unfold L2.atI at e
  cases q : ixN s.length i with
  | none => rw [q] at e; cases e
  | some j =>
    rw [q] at e
    have e' : s[j]? = some c := e
    exact List.all_eq_true.mp h c (List.mem_of_getElem? e')
/-- d[y] of a dict -/
def rIxD : R2 := fun x y H Q => ∃ p kvs k v, x = .ref p ∧ y = kV k ∧ H p = some (.dK kvs) ∧ valV kvs k = some v ∧ Q v H
theorem ix_dict : IxR X rIxD := by
  intro value slice pins s σ H x y v u Q I rx ry h hs
  obtain ⟨p, kvs, k, z, rfl, rfl, hq, he, q⟩ := h
  obtain rfl : v = Value.ref p := rx
  obtain ⟨z1, hd, vs, rel, dd⟩ := dk_of I.hok hq
  obtain ⟨w', hw, rw'⟩ := RelO.some_of (v := z) (o := valueAt vs k) (by rw [← he]; exact rel.val k)
  exact subscriptTail_builtinR (x := w') dd.typeIs PySem.F.slot_dict_getitem.lookup (wpAny_getItem_of (kV_is ry) dd.mapOf hw ⟨rfl, ⟨z, H, I.tok _, rw', q⟩⟩) hs
theorem ix_p (hK : X.K = W.K) : IxR X (rP W dIdx) := by
  intro value slice pins s σ H x y v u Q I r1 r2 h hs
  obtain ⟨dx, dy, ρ, S, d, hS, hx, hy, e, q⟩ := h
  unfold dIdx at e
  split at e
  · rename_i _ a i
    cases hx with | str _ h1 => cases hy with | int _ =>
    cases qa : L2.atI a i with
    | none => rw [qa] at e; cases e
    | some c =>
      rw [qa] at e
      cases e
      refine ix_str value slice pins s σ H _ _ v u Q I r1 r2 ⟨_, _, c, rfl, rfl, by simpa [Str.length] using h1.1, by simpa using qa, ?_⟩ hs
      have : (⟨#[c]⟩ : Str) = ⟨[c].toArray⟩ := rfl
      rw [this]
      exact q.here hS (.str _ ⟨by have := sizeL; simp; omega, by simpa using atI_all h1.2 qa⟩)
  · rename_i ks vs x0
    split at e
    · rename_i hk
      cases hx with | dic g1 g2 g3 g4 =>
      obtain ⟨k, rfl⟩ := key_rep hy hk
      obtain ⟨z, hw, rz⟩ := (lookD_rep hy ⟨g3, g4⟩).1 _ e
      exact ix_dict value slice pins s σ H _ _ v u Q I r1 r2 ⟨_, _, k, z, rfl, rfl, g1, hw, q.here hS rz⟩ hs
    · cases e
  · rename_i n x0
    split at e
    · rename_i ks vs hcell
      split at e
      · rename_i hk
        cases hx with | dob hn hkd =>
        obtain ⟨_, kvs, g1, g3, g4⟩ := hS.dict hcell
        obtain ⟨k, rfl⟩ := key_rep hy hk
        obtain ⟨z, hw, rz⟩ := (lookD_rep hy ⟨g3, g4⟩).1 _ e
        exact ix_dict value slice pins s σ H _ _ v u Q I r1 r2 ⟨_, _, k, z, rfl, rfl, g1, hw, q.here hS rz⟩ hs
      · cases e
    · cases e
  · rename_i x0 i _ _ _ _
    split at e
    · rename_i ds hd
      cases hy
      obtain ⟨a, vs, rfl, hq, hr⟩ := seq_rep hS hx hd
      obtain ⟨z, hz, rz⟩ := hr.atI e
      rw [← hK] at hq
      rcases hq with hq | hq
      · exact ix_list value slice pins s σ H _ _ v u Q I r1 r2 ⟨_, _, _, z, rfl, rfl, hq, hz, q.here hS rz⟩ hs
      · exact ix_tup value slice pins s σ H _ _ v u Q I r1 r2 ⟨_, _, _, z, rfl, rfl, hq, hz, q.here hS rz⟩ hs
    · cases e
  · cases e
/-- x[lo:hi] -/
def cutD {α : Type} (xs : List α) (lo hi : Option Int) : List α := (xs.drop (HT.sIx xs.length 0 lo)).take (HT.sIx xs.length xs.length hi - HT.sIx xs.length 0 lo)
def dCut (x : D) (lo hi : Option Int) (S : Store) : Option D := match x with
  | .str s => some (.str (cutD s lo hi))
  | .tup ds => some (.tup (cutD ds lo hi))
  | x => (x.lseq S).map fun ds => .lst (cutD ds lo hi)
end
end PD

set_option Elab.async false
set_option linter.all false
set_option maxRecDepth 100000
namespace PD
open PySem PySem.Spec PyProof.Rows L2

section
variable {X : Cx} {W : Wd}
theorem cutD_all {p : Nat → Bool} {s : List Nat} (h : s.all p = true) (lo hi : Option Int) : (cutD s lo hi).all p = true := by
  rw [List.all_eq_true] at h ⊢
  intro x hx
  exact h x (List.mem_of_mem_drop (List.mem_of_mem_take hx))
theorem cutD_len {α : Type} (s : List α) (lo hi : Option Int) : (cutD s lo hi).length ≤ s.length := by
  unfold cutD
  rw [List.length_take, List.length_drop]
  omega
theorem RepVs.cut {K : PySem.W.Frag} {ρ : Rn} {N : Nat} {H : Hp} {ds : List D} {vs : List V} (r : RepVs K ρ N H ds vs) (lo hi : Option Int) : RepVs K ρ N H (cutD ds lo hi) (cutV vs lo hi) := by
  unfold cutD cutV
  rw [r.length]
  exact (r.drop _).take _
def rCut (W : Wd) : V → Option Int → Option Int → Hp → VK → Prop := fun x lo hi H Q => ∃ dx ρ S d, RepS W ρ S H ∧ RepV W.K ρ S.length H dx x ∧ dCut dx lo hi S = some d ∧ OkTo W ρ S H d Q
theorem cutS_str (s : List Nat) (lo hi : Option Int) : cutS ⟨s.toArray⟩ lo hi = ⟨(cutD s lo hi).toArray⟩ := by
  unfold cutS cutD
  simp [Str.length]
theorem sl_p (hK : X.K = W.K) : SlR X (rCut W) := by
  intro pins s σ H x v vl vu lo hi sl Q I r1 hs pl pu h
  obtain ⟨dx, ρ, S, d, hS, hx, e, q⟩ := h
  unfold dCut at e
  split at e
  · rename_i a
    cases e
    cases hx with | str _ h1 =>
    refine sl_str pins s σ H _ v vl vu lo hi sl Q I r1 hs pl pu ⟨_, rfl, by simpa [Str.length] using h1.1, ?_⟩
    rw [cutS_str]
    exact q.here hS (.str _ ⟨Nat.le_trans (cutD_len _ _ _) h1.1, cutD_all h1.2 _ _⟩)
  · rename_i ds
    cases e
    cases hx with | tup h1 a1 =>
    rw [← hK] at h1
    refine sl_tupA pins s σ H _ v vl vu lo hi sl Q I r1 hs pl pu ⟨_, _, rfl, h1, fun z => ?_, fun _ p hp => q.tup hS (a1.cut lo hi) hp⟩
    have e2 : cutD ds lo hi = ds := by
      unfold cutD
      rw [a1.length, z.1, z.2, List.drop_zero, Nat.sub_zero, ← a1.length, List.take_length]
    rw [e2] at q
    exact q.here hS (.tup (hK ▸ h1) a1)
  · cases hd : dx.lseq S with
    | none => rw [hd] at e; cases e
    | some ds =>
      rw [hd] at e
      cases e
      obtain ⟨a, vs, rfl, hq, hr⟩ := lseq_rep hS hx hd
      rw [← hK] at hq
      exact sl_list pins s σ H _ v vl vu lo hi sl Q I r1 hs pl pu ⟨_, _, rfl, hq, fun p hp => q.lst hS (hr.cut lo hi) hp⟩
end

section
variable {prog : Program} {w : World} {A : Around} {E : Value → Shared → Prop} {s : Shared}
theorem list_rev_init {R : Result → Shared → Prop} {it l S : Addr} {items : Array Value} (hh : A.handled = none) (hit : s.heap.IsRevIter it l ((items.size : Int) - 1)) (hl : s.heap.IsList l items) (hne : l ≠ it) (hn : items.size ≤ sizeLine)
    (hSi : S ≠ it) (hSl : S ≠ l) (hS : s.heap.get? S = some { cls := .type "list", data := .seq #[] })
    (hR : ∀ h' tk acc' c', (∀ b o, b ≠ S → b ≠ it → s.heap.get? b = some o → h'.get? b = some o) → h'.get? S = some { cls := .type "list", dict := none, data := .seq acc' c', slots := #[] } → ItemsOf (fun i v => items[items.size - 1 - i]? = some v) acc' items.size → R (.ok (.ret .none)) { s with heap := h', toks := tk }) :
    wpAny (model prog w) A.in1 (Builtin.«list.__init__» ⟨[.ref S, .ref it], []⟩)
      (fun fin s' => match fin with | .done f => R (.ok f) s' | .again c' => c'.quiet = true ∧ codeAny (model prog w) A c' R s') (fun e s' => R (.error e) s') s := by
  have W := (Walks.listRev (prog := prog) (w := w) (A := A.in1) hh it l hne items).toS
  have hSf : S ∉ [it, l] := by simp only [List.mem_cons, List.not_mem_nil, or_false, not_or]; exact ⟨hSi, hSl⟩
  show wpAny _ _ (do let old ← Builtin.List.listItems (.ref S); Builtin.List.listUpdate (.ref S) (fun _ => #[]); letGo old.toList.reverse; Builtin.List.listExtendWith (.ref S) (.ref it) .none) _ _ s
  refine wpAny_bind ?_
  unfold Builtin.List.listItems
  refine wpAny_bind (wpAny_seqItems hS rfl (wpAny_pure ?_))
  show wpAny _ _ (updateSeq S (fun _ => #[]) >>= fun _ => letGo (#[] : Array Value).toList.reverse >>= fun _ => Builtin.List.listExtendWith (.ref S) (.ref it) .none) _ _ s
  refine wpAny_bind (wpAny_updateSeq hS rfl ?_)
  have hS₂ := Heap.get?_update_self (Obj.mapSeq (fun _ => (#[] : Array Value))) hS rfl
  have oth : ∀ b o, b ≠ S → s.heap.get? b = some o → (s.heap.update S (Obj.mapSeq (fun _ => (#[] : Array Value)))).get? b = some o :=
    fun b o hb e => (Heap.get?_update_other _ _ (Ne.symm hb)).trans e
  refine wpAny_bind (wpAny_letGo ?_)
  have hit1 : (s.heap.update S (Obj.mapSeq (fun _ => (#[] : Array Value)))).IsRevIter it l ((items.size : Int) - 1) := hit.at fun o e => oth it o hSi.symm e
  have hl1 : (s.heap.update S (Obj.mapSeq (fun _ => (#[] : Array Value)))).IsList l items := hl.at fun o e => oth l o hSl.symm e
  generalize (s.heap.update S (Obj.mapSeq (fun _ => (#[] : Array Value)))) = hp at hS₂ oth hit1 hl1 ⊢
  have hT : ({ s with heap := hp } : Shared).TypeIs (.ref it) "list_reverseiterator" := Heap.IsRevIter.typeIs (s := { s with heap := hp }) hit1
  have h1 : Builtin.List.listSameRef (.ref S) (.ref it) = false := by simp [Builtin.List.listSameRef, hSi]
  unfold Builtin.List.listExtendWith
  refine wpAny_bind (wpAny_typeOf hT ?_)
  rw [if_neg (by rw [h1]; decide)]
  refine wpAny_bind (wpAny_pyIter_revIter (s := { s with heap := hp }) hit1 ?_)
  refine wpAny_bind (wpAny_holding ?_)
  unfold Builtin.List.listLengthHint
  refine wpAny_bind (wpAny_specialOf hT RT.nolen_lri ?_)
  show wpAny _ A.in1 (specialOf (Value.ref it) (Str.ofString "__length_hint__") >>= _) _ _ _
  refine wpAny_bind (wpAny_specialOf hT RT.hint_lri ?_)
  generalize hid : ("list_reverseiterator.__length_hint__" : String) = id0
  wp_delta
  rw [show splitId id0 = some ("list_reverseiterator", "__length_hint__") from by subst hid; decide +kernel]
  subst hid
  refine wpAny_bind (wpAny_isInstance (b := true) hT (by rw [isSubtype_type]; kernel_rfl) ?_)
  refine wpAny_pure ?_
  rw [if_neg (by decide)]
  have e0 : ((items.size : Nat) : Int) - 1 - ((0 : Nat) : Int) = (items.size : Int) - 1 := by omega
  refine wpAny_pure ⟨plainId_quiet F.plain_extend_loop _, codeAny_extend_loopS W hn _ hSf _ items.size 0 _ _ _ rfl (Nat.zero_le _) ⟨Nat.zero_le _, by rw [e0]; exact hit1, hl1⟩ hS₂ (ItemsOf.nil _) fun s' acc' c' hm hS' hacc => ?_⟩
  rw [Moved.eq_with hm]
  refine hR s'.heap s'.toks acc' c' (fun b o hb hb2 e => hm.heap b o (fun hmem => ?_) (oth b o hb e)) hS' hacc
  rcases List.mem_cons.mp hmem with e' | hmem
  · exact hb e'
  · exact hb2 (List.mem_singleton.mp hmem)
theorem call_list_rev {it l : Addr} {items : Array Value} {Q : Value → Shared → Prop} (hh : A.handled = none) (hit : s.heap.IsRevIter it l ((items.size : Int) - 1)) (hl : s.heap.IsList l items) (hne : l ≠ it) (hn : items.size ≤ sizeLine)
    (hQ : ∀ h' tk acc c', (∀ b o, b ≠ it → s.heap.get? b = some o → h'.get? b = some o) → h'.get? s.heap.objs.size = some { cls := .type "list", dict := none, data := .seq acc c', slots := #[] } → ItemsOf (fun i v => items[items.size - 1 - i]? = some v) acc items.size → Q (.ref s.heap.objs.size) { s with heap := h', toks := tk }) :
    wpAny (model prog w) A (call (.type "list") [.ref it]) Q E s := by
  refine callType_codes (Q₁ := fun obj s₁ => obj = .ref s.heap.objs.size ∧ s₁ = { s with heap := s.heap.push { cls := .type "list", data := .seq #[] } }) PySem.F.called_list (PySem.F.typeCall_list_1 _) PySem.F.entry_list_init
    (code_list_new _ ⟨rfl, rfl⟩) fun obj s₁ h₁ => ?_
  obtain ⟨rfl, rfl⟩ := h₁
  have hS : (s.heap.push { cls := .type "list", data := .seq #[] }).get? s.heap.objs.size = some { cls := .type "list", data := .seq #[] } := Heap.get?_push_size _ rfl
  obtain ⟨oi, hoi, _⟩ := id hit
  obtain ⟨ol, hol, _⟩ := id hl
  refine ⟨⟨_, hS, rfl⟩, PySem.F.args_list_init_2 _ _, list_rev_init (A := A.in1) (s := { s with heap := s.heap.push { cls := .type "list", data := .seq #[] } }) hh (hit.at fun o e => Heap.get?_push_of_some _ e) (hl.push _) hne hn (Nat.ne_of_gt (Heap.lt_size hoi)) (Nat.ne_of_gt (Heap.lt_size hol)) hS (fun h' tk acc' c' hk hS' hacc => ?_)⟩
  exact ⟨rfl, hQ h' tk acc' c' (fun b o hb e => hk b o (Nat.ne_of_lt (Heap.lt_size e)) hb (Heap.get?_push_of_some _ e)) hS' hacc⟩
end
/-- list(reversed(x)), x a list: a new list -/
def tLstRev (K : PySem.W.Frag) (te : TE) : TE := fun σ H Q => te σ H fun v H1 => ∃ (a : Addr) (xs : List V), v = .ref a ∧ SqL K H1 a xs ∧ ∀ q, H1 q = none → Q (.ref q) (upd H1 q (.lst xs.reverse))
theorem pe_lstRev {X : Cx} {e : Expr} {te : TE} {p p2 pos pos2 : Pos} (hc : X.calm = true) (hg : Gl X "list") (hm : X.mg "list" = none) (hg2 : Gl X "reversed") (hm2 : X.mg "reversed" = none) (he : PE X e te)
    (hs : starEach [e] X.env = (false, eval e X.env) :: starEach [] X.env)
    (hs2 : starEach [.Call (.Name "reversed" p2) [e] [] pos2] X.env = (false, eval (.Call (.Name "reversed" p2) [e] [] pos2) X.env) :: starEach [] X.env := by rfl) :
    PE X (.Call (.Name "list" p) [.Call (.Name "reversed" p2) [e] [] pos2] [] pos) (tLstRev X.K te) := by
  refine ⟨fun pins s σ H Q I h => ?_⟩
  refine Call_ (ld_blt I hg hm boot_list (PyProof.Rows.callWith_type1 (args_cons (Call_ (ld_blt I hg2 hm2 PyProof.Rows.boot_reversed (PyProof.Rows.callWith_type1 (args_cons (thn (he.run pins s σ H _ I h) fun u s1 ⟨v, H1, I1, r1, q1⟩ => args_nil ?_) hs) hs rfl))) hs2) hs2 rfl))
  obtain ⟨a, xs, ev, hq, q⟩ := q1
  subst ev
  obtain rfl : u = Value.ref a := r1
  obtain ⟨its, rv, p', hz⟩ := I1.list hq
  refine call_reversed_list p'.isList (args_nil ?_)
  have k0 : ∀ b o, s1.heap.get? b = some o → (s1.heap.push (revObj a ((its.toArray.size : Int) - 1))).get? b = some o := fun b o e => Heap.get?_push_of_some _ e
  have I2 : Inv X pins σ H1 { s1 with heap := s1.heap.push (revObj a ((its.toArray.size : Int) - 1)) } := I1.kept (t' := s1.toks) k0
  obtain ⟨f0, f1, f2, f3, f4, f5⟩ := I1.fpOk (H' := H1) (b := s1.heap.objs.size) (Nat.le_refl _) (I1.hok.fresh (Nat.le_refl _))
  have hl := p'.isList
  obtain ⟨ol, hol, _⟩ := id hl
  have hne : a ≠ s1.heap.objs.size := Nat.ne_of_lt (Heap.lt_size hol)
  have hn : its.toArray.size ≤ sizeLine := by rw [List.size_toArray, ← rv.length]; exact hz
  refine call_list_rev (s := { s1 with heap := s1.heap.push (revObj a ((its.toArray.size : Int) - 1)) }) (I1.ok.hd hc) ⟨_, Heap.get?_push_size _ rfl, rfl, rfl⟩ (hl.push _) hne hn fun h' tk acc c' hk hS' hi => ?_
  generalize hA : (s1.heap.push (revObj a ((its.toArray.size : Int) - 1))).objs.size = S0 at hS' ⊢
  have hS0 : s1.heap.objs.size < S0 := by rw [← hA, Heap.size_push]; exact Nat.lt_succ_self _
  have fr : H1 S0 = none := I2.hok.fresh (by show (s1.heap.push _).objs.size ≤ S0; rw [hA]; exact Nat.le_refl _)
  refine ⟨.ref S0, upd H1 S0 (.lst xs.reverse), ?_, rfl, q _ fr⟩
  have nb : ∀ b, b ∉ [s1.heap.objs.size] → b ≠ s1.heap.objs.size := fun b hb e => hb (by rw [e]; exact List.mem_singleton.mpr rfl)
  have un : Un (frs X.stack) [s1.heap.objs.size] H1 H1 (s1.heap.push (revObj a ((its.toArray.size : Int) - 1))) h' :=
    ⟨fun b o e _ _ hx => hk b o (nb b hx) e, fun b o e _ _ hx => ⟨o.slots, hk b o (nb b hx) e⟩, fun _ _ _ n _ => n, fun b o e hx => ⟨o, hk b o (nb b hx) e⟩, fun _ _ e => e, fun _ _ _ e => e, fun b ps e => ⟨#[], by rw [e]; simp⟩⟩
  have hok : HOk X.prog X.w H1 h' := (I2.turned (t' := tk) (fun b o hb e => hk b o hb e) f0 f1 f3 f4 f5).hok
  exact I2.drained (s' := { s1 with heap := h', toks := tk }) (ex := [s1.heap.objs.size]) (by show (s1.heap.push _).objs.size ≤ S0; rw [hA]; exact Nat.le_refl _) (by rw [List.length_reverse]; exact hz) hS' (RT.vals_rev rv hi)
    (fun b hb => by rw [List.mem_singleton.mp hb]; exact ⟨f3, f1, f4, f5⟩) rfl I1.bare un hok fr

abbrev OpN := List D → Store → Option D
def rF (W : Wd) (f : OpN) : List V → Hp → VK → Prop := fun xs H Q => ∃ ds ρ S d, RepS W ρ S H ∧ RepVs W.K ρ S.length H ds xs ∧ f ds S = some d ∧ OkTo W ρ S H d Q
def dLen : OpN
  | [.dic ks _], _ => some (.int (ks.length : Int))
  | [.str s], _ => some (.int s.length)
  | [.dob n], S => match S[n]? with
    | some (.dic ks _) => some (.int (ks.length : Int))
    | _ => none
  | [x], S => (x.seq S).map fun ds => .int ds.length
  | _, _ => none
def dAbs : OpN
  | [.int i], _ => some (.int (if i < 0 then -i else i))
  | _, _ => none
def dInt : OpN
  | [.int i], _ => some (.int i)
  | [.bl b], _ => some (.int (if b then 1 else 0))
  | _, _ => none
def intStr (i : Int) : List Nat := (toString i).toList.map Char.toNat
def dStr : OpN
  | [.int i], _ => if i.natAbs.log2 < 1920 ∧ (intStr i).length ≤ sizeLine then some (.str (intStr i)) else none
  | _, _ => none
def dTuple : OpN
  | [x], S => (x.seq S).map .tup
  | _, _ => none
def dList : OpN
  | [x], S => (x.seq S).map .lst
  | _, _ => none
/-- dict(a list of pairs) -/
def dDict : OpN
  | [x], S => match x.lseq S with
    | some ds => match pairsD [] [] ds with
      | some p => some (.dic p.1 p.2)
      | none => none
    | none => none
  | _, _ => none
theorem pairsD_rep {K : PySem.W.Frag} {ρ : Rn} {N : Nat} {H : Hp} : ∀ {ds : List D} {us : List V} {ks vs ks' vs' : List D} {kvs0 : List (Key × V)}, RepVs K ρ N H ds us → RepK K ρ N H ks vs kvs0 → pairsD ks vs ds = some (ks', vs') →
    ∃ (ps : List Addr) (kvs : List (Key × V)), us = ps.map V.ref ∧ Paired (fun p kv => SqT K H p [kV kv.1, kv.2]) ps kvs ∧ RepK K ρ N H ks' vs' (mergeK kvs0 kvs)
  | [], _, ks, vs, ks', vs', kvs0, r, q, h => by
    cases r
    unfold pairsD at h
    cases h
    exact ⟨[], [], rfl, .nil, q⟩
  | d :: ds, _, ks, vs, ks', vs', kvs0, r, q, h => by
    unfold pairsD at h
    split at h
    · rename_i e
      cases e
    · rename_i x y r' e
      cases e
      split at h
      · rename_i hk
        cases r with | cons r1 r2 =>
        cases r1 with | tup g1 g2 =>
        obtain ⟨v, u, rfl, rv, ru⟩ := g2.two
        obtain ⟨k, rfl⟩ := key_rep rv hk
        obtain ⟨ps, kvs, e1, e2, e3⟩ := pairsD_rep r2 (RepK.put rv ru q) h
        exact ⟨_ :: ps, (k, u) :: kvs, by rw [e1]; rfl, .cons g1 e2, e3⟩
      · cases h
    · cases h
def dMin2 : OpN
  | [.int i, .int j], _ => some (.int (if j < i then j else i))
  | _, _ => none
def dMax2 : OpN
  | [.int i, .int j], _ => some (.int (if j > i then j else i))
  | _, _ => none
section
variable {X : Cx} {W : Wd}
theorem fn_len (hK : X.K = W.K) : CallR X (.builtin "len") (rF W dLen) := by
  intro pins s σ H xs us Q I r h
  obtain ⟨ds, ρ, S, d, hS, hx, e, q⟩ := h
  unfold dLen at e
  split at e
  · cases e
    obtain ⟨v, rfl, hv⟩ := hx.one
    cases hv with | @dic a kvs _ _ g1 g2 g3 g4 =>
    rw [Vals.ref1 r]
    refine d_len I (.inl g1) fun t s' I' => ⟨.int kvs.length, H, I', ⟨t, rfl⟩, ?_⟩
    have e := g3.length
    rw [List.length_map] at e
    rw [← e]
    exact q.here hS (.int _)
  · cases e
    obtain ⟨v, rfl, hv⟩ := hx.one
    cases hv with | str a h1 =>
    exact call_len_str pins s σ H _ us Q I r ⟨_, rfl, by simpa [Str.length] using h1.1, by simpa [Str.length] using q.here hS (.int _)⟩
  · rename_i n
    obtain ⟨v, rfl, hv⟩ := hx.one
    cases hv with | dob hn hk =>
    split at e
    · rename_i ks vs hcell
      cases e
      obtain ⟨_, kvs, g1, g3, g4⟩ := hS.dict hcell
      rw [Vals.ref1 r]
      refine d_len I (.inl g1) fun t s' I' => ⟨.int kvs.length, H, I', ⟨t, rfl⟩, ?_⟩
      have e := g3.length
      rw [List.length_map] at e
      rw [← e]
      exact q.here hS (.int _)
    · cases e
  · rename_i x _ _ _
    obtain ⟨v, rfl, hv⟩ := hx.one
    cases hd : x.seq S with
    | none => rw [hd] at e; cases e
    | some ds =>
      rw [hd] at e
      cases e
      obtain ⟨a, vs, rfl, hq, hr⟩ := seq_rep hS hv hd
      rw [← hK] at hq
      exact call_len_seq pins s σ H _ us Q I r ⟨_, _, rfl, hq, by rw [← hr.length]; exact q.here hS (.int _)⟩
  · cases e
theorem fn_abs : CallR X (.builtin "abs") (rF W dAbs) := by
  intro pins s σ H xs us Q I r h
  obtain ⟨ds, ρ, S, d, hS, hx, e, q⟩ := h
  unfold dAbs at e
  split at e
  · cases e
    obtain ⟨v, rfl, hv⟩ := hx.one
    cases hv
    exact call_abs pins s σ H _ us Q I r ⟨_, rfl, q.here hS (.int _)⟩
  · cases e
theorem fn_int : CallR X (.type "int") (rF W dInt) := by
  intro pins s σ H xs us Q I r h
  obtain ⟨ds, ρ, S, d, hS, hx, e, q⟩ := h
  unfold dInt at e
  split at e
  · cases e
    obtain ⟨v, rfl, hv⟩ := hx.one
    cases hv
    exact call_int1 pins s σ H _ us Q I r (.inl ⟨_, rfl, q.here hS (.int _)⟩)
  · cases e
    obtain ⟨v, rfl, hv⟩ := hx.one
    cases hv
    exact call_int1 pins s σ H _ us Q I r (.inr ⟨_, rfl, q.here hS (.int _)⟩)
  · cases e
theorem toChars_all (i : Int) : (intStr i).all (fun c => decide (c < 0x110000)) = true := by
  unfold intStr
  rw [List.all_map, List.all_eq_true]
  intro c _
  have := c.valid
  have h2 : c.toNat = c.val.toNat := rfl
  simp only [Function.comp, decide_eq_true_eq]
  have h := c.valid
  simp only [UInt32.isValidChar, Nat.isValidChar] at h
  omega
theorem ofString_codes (s : String) : Str.ofString s = ⟨(s.toList.map Char.toNat).toArray⟩ := Str.ofString_eq_toList s
theorem fn_min2 (hc : X.calm = true) : CallR X (.builtin "min") (rF W dMin2) := by
  intro pins s σ H xs us Q I r h
  obtain ⟨ds, ρ, S, d, hS, hx, e, q⟩ := h
  unfold dMin2 at e
  split at e
  · cases e
    obtain ⟨v, u, rfl, hv, hu⟩ := hx.two
    cases hv; cases hu
    exact call_min2 hc pins s σ H _ us Q I r ⟨_, _, rfl, q.here hS (.int _)⟩
  · cases e
theorem fn_max2 (hc : X.calm = true) : CallR X (.builtin "max") (rF W dMax2) := by
  intro pins s σ H xs us Q I r h
  obtain ⟨ds, ρ, S, d, hS, hx, e, q⟩ := h
  unfold dMax2 at e
  split at e
  · cases e
    obtain ⟨v, u, rfl, hv, hu⟩ := hx.two
    cases hv; cases hu
    exact call_max2 hc pins s σ H _ us Q I r ⟨_, _, rfl, q.here hS (.int _)⟩
  · cases e
theorem fn_tuple (hK : X.K = W.K) : CallR X (.type "tuple") (rF W dTuple) := by
  intro pins s σ H xs us Q I r h
  obtain ⟨ds, ρ, S, d, hS, hx, e, q⟩ := h
  unfold dTuple at e
  split at e
  · rename_i x
    obtain ⟨v, rfl, hv⟩ := hx.one
    cases hd : x.seq S with
    | none => rw [hd] at e; cases e
    | some ds =>
      rw [hd] at e
      cases e
      obtain ⟨a, vs, rfl, hq, hr⟩ := seq_rep hS hv hd
      rw [← hK] at hq
      refine call_tuple_of pins s σ H _ us Q I r ⟨_, vs, rfl, ?_⟩
      rcases hq with hq | hq
      · exact .inl ⟨hq, fun p hp => q.tup hS hr hp⟩
      · exact .inr ⟨hq, q.here hS (.tup (hK ▸ hq) hr)⟩
  · cases e
theorem fn_list (hK : X.K = W.K) : CallR X (.type "list") (rF W dList) := by
  intro pins s σ H xs us Q I r h
  obtain ⟨ds, ρ, S, d, hS, hx, e, q⟩ := h
  unfold dList at e
  split at e
  · rename_i x
    obtain ⟨v, rfl, hv⟩ := hx.one
    cases hd : x.seq S with
    | none => rw [hd] at e; cases e
    | some ds =>
      rw [hd] at e
      cases e
      obtain ⟨a, vs, rfl, hq, hr⟩ := seq_rep hS hv hd
      rw [← hK] at hq
      exact call_list_of pins s σ H _ us Q I r ⟨_, _, rfl, hq, fun p hp => q.lst hS hr hp⟩
  · cases e
theorem fn_dict (hK : X.K = W.K) (hc : X.calm = true) : CallR X (.type "dict") (rF W dDict) := by
  intro pins s σ H xs us Q I r h
  obtain ⟨ds, ρ, S, d, hS, hx, e, q⟩ := h
  unfold dDict at e
  split at e
  · rename_i x
    obtain ⟨v, rfl, hv⟩ := hx.one
    cases hd : x.lseq S with
    | none => rw [hd] at e; cases e
    | some ds =>
      rw [hd] at e
      dsimp only at e
      split at e
      · rename_i p hp
        cases e
        obtain ⟨a, vs, rfl, hq, hr⟩ := lseq_rep hS hv hd
        obtain ⟨ps, kvs, rfl, e2, e3⟩ := pairsD_rep hr RepK.nil (show pairsD [] [] ds = some (p.1, p.2) from hp)
        rw [← hK] at hq e2
        exact call_dictP hc pins s σ H _ us Q I r ⟨_, ps, kvs, rfl, hq, e2, fun p hp => q.dic hS e3 hp⟩
      · cases e
  · cases e
theorem fn_str : CallR X (.type "str") (rF W dStr) := by
  intro pins s σ H xs us Q I r h
  obtain ⟨ds, ρ, S, d, hS, hx, e, q⟩ := h
  unfold dStr at e
  split at e
  · rename_i i _
    split at e
    · rename_i hz
      cases e
      obtain ⟨v, rfl, hv⟩ := hx.one
      cases hv
      refine call_str_int pins s σ H _ us Q I r ⟨_, rfl, hz.1, ?_⟩
      rw [ofString_codes]
      exact q.here hS (.str _ ⟨hz.2, toChars_all _⟩)
    · cases e
  · cases e

def intsOf : List D → Option (List Int)
  | [] => some []
  | .int i :: r => (intsOf r).map (i :: ·)
  | _ => none
theorem intsOf_eq : ∀ {ds : List D} {ns : List Int}, intsOf ds = some ns → ds = ns.map D.int
  | [], ns, h => by cases h; rfl
  | d :: ds, ns, h => by
    cases d with
    | int i =>
      simp only [intsOf, Option.map_eq_some_iff] at h
      obtain ⟨ms, h1, rfl⟩ := h
      rw [intsOf_eq h1]; rfl
    | _ => simp [intsOf] at h
theorem ints_rep {K : PySem.W.Frag} {ρ : Rn} {N : Nat} {H : Hp} : ∀ {ns : List Int} {vs : List V}, RepVs K ρ N H (ns.map D.int) vs → vs = ns.map V.int
  | [], _, .nil => rfl
  | _ :: _, _, .cons r t => by cases r; rw [ints_rep t]; rfl
def maxI : List Int → Option Int
  | [] => none
  | x :: xs => match maxI xs with
    | none => some x
    | some m => some (if m < x then x else m)
theorem maxI_ok : ∀ {ns : List Int} {m : Int}, maxI ns = some m → m ∈ ns ∧ ∀ y, y ∈ ns → y ≤ m
  | x :: xs, m, h => by
    unfold maxI at h
    cases hx : maxI xs with
    | none =>
      rw [hx] at h; cases h
      have : xs = [] := by
        cases xs with
        | nil => rfl
        | cons y ys => unfold maxI at hx; split at hx <;> cases hx
      subst this
      exact ⟨List.mem_cons_self, fun y hy => by simp at hy; omega⟩
    | some k =>
      rw [hx] at h; cases h
      obtain ⟨h1, h2⟩ := maxI_ok hx
      refine ⟨?_, fun y hy => ?_⟩
      · split
        · exact List.mem_cons_self
        · exact List.mem_cons_of_mem _ h1
      · rcases List.mem_cons.mp hy with rfl | hy
        · split <;> omega
        · have := h2 y hy
          split <;> omega
def minI (ns : List Int) : Option Int := (maxI (ns.map (- ·))).map (- ·)
theorem minI_ok {ns : List Int} {m : Int} (h : minI ns = some m) : m ∈ ns ∧ ∀ y, y ∈ ns → m ≤ y := by
  unfold minI at h
  obtain ⟨k, h1, rfl⟩ := Option.map_eq_some_iff.mp h
  obtain ⟨h2, h3⟩ := maxI_ok h1
  obtain ⟨y, hy, rfl⟩ := List.mem_map.mp h2
  refine ⟨by simpa using hy, fun z hz => ?_⟩
  have := h3 (-z) (List.mem_map.mpr ⟨z, hz, rfl⟩)
  omega
def dSum : OpN
  | [x], S => ((x.lseq S).bind intsOf).map fun ns => .int ns.sum
  | _, _ => none
def dMaxL : OpN
  | [x], S => (((x.lseq S).bind intsOf).bind maxI).map .int
  | _, _ => none
def dMinL : OpN
  | [x], S => (((x.lseq S).bind intsOf).bind minI).map .int
  | _, _ => none
theorem ilist_rep {K : PySem.W.Frag} {W : Wd} {ρ : Rn} {S : Store} {H : Hp} {x : D} {v : V} {ns : List Int} (hS : RepS W ρ S H) (hK : K = W.K) (hv : RepV W.K ρ S.length H x v) (h : (x.lseq S).bind intsOf = some ns) : ∃ a, v = .ref a ∧ SqL K H a (ns.map V.int) := by
  obtain ⟨ds, h1, h2⟩ := Option.bind_eq_some_iff.mp h
  obtain ⟨a, vs, rfl, hq, hr⟩ := lseq_rep hS hv h1
  rw [intsOf_eq h2] at hr
  rw [ints_rep hr] at hq
  exact ⟨a, rfl, hK ▸ hq⟩
theorem fn_sum (hK : X.K = W.K) (hc : X.calm = true) : CallR X (.builtin "sum") (rF W dSum) := by
  intro pins s σ H xs us Q I r h
  obtain ⟨ds, ρ, S, d, hS, hx, e, q⟩ := h
  unfold dSum at e
  split at e
  · obtain ⟨ns, h1, rfl⟩ := Option.map_eq_some_iff.mp e
    obtain ⟨v, rfl, hv⟩ := hx.one
    obtain ⟨a, rfl, hq⟩ := ilist_rep hS hK hv h1
    exact cr_sum hc pins s σ H _ us Q I r ⟨a, ns, rfl, hq, q.here hS (.int _)⟩
  · cases e
theorem maxI_pos {ns : List Int} {m : Int} (h : maxI ns = some m) : 0 < ns.length := by
  cases ns with
  | nil => cases h
  | cons _ _ => simp
theorem fn_maxL (hK : X.K = W.K) (hc : X.calm = true) : CallR X (.builtin "max") (rF W dMaxL) := by
  intro pins s σ H xs us Q I r h
  obtain ⟨ds, ρ, S, d, hS, hx, e, q⟩ := h
  unfold dMaxL at e
  split at e
  · obtain ⟨m, h1, rfl⟩ := Option.map_eq_some_iff.mp e
    obtain ⟨ns, h1, h2⟩ := Option.bind_eq_some_iff.mp h1
    obtain ⟨v, rfl, hv⟩ := hx.one
    obtain ⟨a, rfl, hq⟩ := ilist_rep hS hK hv h1
    obtain ⟨h3, h4⟩ := maxI_ok h2
    refine cr_max hc pins s σ H _ us Q I r ⟨a, ns, rfl, hq, maxI_pos h2, fun k hk1 hk2 => ?_⟩
    have e1 := hk2 m h3
    have e2 := h4 k hk1
    obtain rfl : k = m := by omega
    exact q.here hS (.int _)
  · cases e
theorem fn_minL (hK : X.K = W.K) (hc : X.calm = true) : CallR X (.builtin "min") (rF W dMinL) := by
  intro pins s σ H xs us Q I r h
  obtain ⟨ds, ρ, S, d, hS, hx, e, q⟩ := h
  unfold dMinL at e
  split at e
  · obtain ⟨m, h1, rfl⟩ := Option.map_eq_some_iff.mp e
    obtain ⟨ns, h1, h2⟩ := Option.bind_eq_some_iff.mp h1
    obtain ⟨v, rfl, hv⟩ := hx.one
    obtain ⟨a, rfl, hq⟩ := ilist_rep hS hK hv h1
    obtain ⟨h3, h4⟩ := minI_ok h2
    have hp : 0 < ns.length := List.length_pos_of_mem h3
    refine cr_min hc pins s σ H _ us Q I r ⟨a, ns, rfl, hq, hp, fun k hk1 hk2 => ?_⟩
    have e1 := hk2 m h3
    have e2 := h4 k hk1
    obtain rfl : k = m := by omega
    exact q.here hS (.int _)
  · cases e
def strsOf : List D → Option (List (List Nat))
  | [] => some []
  | .str s :: r => (strsOf r).map (s :: ·)
  | _ => none
theorem strsOf_eq : ∀ {ds : List D} {ns : List (List Nat)}, strsOf ds = some ns → ds = ns.map D.str
  | [], ns, h => by cases h; rfl
  | d :: ds, ns, h => by
    cases d with
    | str i =>
      simp only [strsOf, Option.map_eq_some_iff] at h
      obtain ⟨ms, h1, rfl⟩ := h
      rw [strsOf_eq h1]; rfl
    | _ => simp [strsOf] at h
theorem strs_rep {K : PySem.W.Frag} {ρ : Rn} {N : Nat} {H : Hp} : ∀ {ns : List (List Nat)} {vs : List V}, RepVs K ρ N H (ns.map D.str) vs → vs = (ns.map fun s => (⟨s.toArray⟩ : Str)).map V.str ∧ ∀ s ∈ ns, s.all (fun c => decide (c < 0x110000)) = true
  | [], _, .nil => ⟨rfl, fun _ h => by cases h⟩
  | _ :: _, _, .cons r t => by
    cases r with
    | str s h =>
      obtain ⟨e, k⟩ := strs_rep t
      rw [e]
      exact ⟨rfl, fun z hz => by
        rcases List.mem_cons.mp hz with rfl | hz
        · exact h.2
        · exact k z hz⟩
def leT (a b : List Nat) : Bool := !decide (b < a)
def leZ (a b : Int) : Bool := decide (a ≤ b)
def sortT (xs : List (List Nat)) : List (List Nat) := xs.mergeSort leT
def sortZ (xs : List Int) : List Int := xs.mergeSort leZ
theorem leT_iff {a b : List Nat} : leT a b = true ↔ a ≤ b := by
  unfold leT
  rw [Bool.not_eq_true', decide_eq_false_iff_not]
  exact List.not_lt
theorem sortT_perm (xs : List (List Nat)) : (sortT xs).Perm xs := List.mergeSort_perm xs leT
theorem sortT_pw (xs : List (List Nat)) : (sortT xs).Pairwise (· ≤ ·) := by
  have h := List.pairwise_mergeSort (le := leT) (fun a b c h1 h2 => leT_iff.mpr (List.le_trans (leT_iff.mp h1) (leT_iff.mp h2)))
    (fun a b => by rw [Bool.or_eq_true, leT_iff, leT_iff]; exact List.le_total a b) xs
  exact h.imp fun h => leT_iff.mp h
theorem sortT_uniq {xs ys : List (List Nat)} (h : ys.Perm xs) (p : ys.Pairwise (· ≤ ·)) : ys = sortT xs :=
  List.Perm.eq_of_pairwise (fun a b _ _ h1 h2 => List.le_antisymm h1 h2) p (sortT_pw xs) (h.trans (sortT_perm xs).symm)
theorem sortT_congr {xs ys : List (List Nat)} (h : xs.Perm ys) : sortT xs = sortT ys := sortT_uniq ((sortT_perm xs).trans h) (sortT_pw xs)
theorem sortZ_perm (xs : List Int) : (sortZ xs).Perm xs := List.mergeSort_perm xs leZ
theorem sortZ_pw (xs : List Int) : (sortZ xs).Pairwise (· ≤ ·) := by
  have h := List.pairwise_mergeSort (le := leZ) (fun a b c h1 h2 => by simp only [leZ, decide_eq_true_eq] at *; omega) (fun a b => by simp only [leZ, Bool.or_eq_true, decide_eq_true_eq]; omega) xs
  exact h.imp fun h => by simpa [leZ] using h
theorem sortZ_uniq {xs ys : List Int} (h : ys.Perm xs) (p : ys.Pairwise (· ≤ ·)) : ys = sortZ xs :=
  List.Perm.eq_of_pairwise (fun a b _ _ h1 h2 => Int.le_antisymm h1 h2) p (sortZ_pw xs) (h.trans (sortZ_perm xs).symm)
theorem rising_pw : ∀ {r : List Str} {p : Str}, risingS p r = true → (p :: r).Pairwise fun a b => a.cps.toList ≤ b.cps.toList
  | [], p, _ => List.pairwise_singleton ..
  | x :: r, p, h => by
    simp only [risingS, Bool.and_eq_true, Bool.not_eq_true', ltCps_eq, decide_eq_false_iff_not] at h
    have ih := rising_pw h.2
    have h1 := List.not_lt.mp h.1
    refine List.pairwise_cons.mpr ⟨fun y hy => ?_, ih⟩
    rcases List.mem_cons.mp hy with rfl | hy
    · exact h1
    · exact List.le_trans h1 ((List.pairwise_cons.mp ih).1 y hy)
theorem sortedS_pw : ∀ {r : List Str}, sortedS r = true → r.Pairwise fun a b => a.cps.toList ≤ b.cps.toList
  | [], _ => .nil
  | _ :: _, h => rising_pw h
def toSt (s : List Nat) : Str := ⟨s.toArray⟩
theorem sortedS_uniq {xs : List (List Nat)} {ys : List Str} (h : ys.Perm (xs.map toSt)) (p : sortedS ys = true) : ys = (sortT xs).map toSt := by
  have h1 : (ys.map fun y => y.cps.toList).Perm xs := by
    have := h.map fun y => y.cps.toList
    simpa [List.map_map, Function.comp_def, toSt] using this
  have h2 : (ys.map fun y => y.cps.toList).Pairwise (· ≤ ·) := List.pairwise_map.mpr (sortedS_pw p)
  have h3 := sortT_uniq h1 h2
  rw [← h3, List.map_map]
  conv => lhs; rw [← List.map_id ys]
  refine List.map_congr_left fun y _ => ?_
  simp [toSt]
def dSorted : OpN
  | [.str s], _ => some (.lst ((sortT (s.map fun c => [c])).map .str))
  | [x], S => match (x.lseq S).bind intsOf with
    | some ns => some (.lst ((sortZ ns).map .int))
    | none => ((x.lseq S).bind strsOf).map fun ts => .lst ((sortT ts).map .str)
  | _, _ => none
theorem strs_all {K : PySem.W.Frag} {ρ : Rn} {N : Nat} {H : Hp} : ∀ {ns : List (List Nat)} {vs : List V}, RepVs K ρ N H (ns.map D.str) vs → ∀ s ∈ ns, s.length ≤ sizeLine ∧ s.all (fun c => decide (c < 0x110000)) = true
  | [], _, .nil => fun _ h => by cases h
  | _ :: _, _, .cons r t => by
    cases r with
    | str s h =>
      exact fun z hz => by
        rcases List.mem_cons.mp hz with rfl | hz
        · exact h
        · exact strs_all t z hz
theorem strs_mk {K : PySem.W.Frag} {ρ : Rn} {N : Nat} {H : Hp} : ∀ {ns : List (List Nat)}, (∀ s ∈ ns, s.length ≤ sizeLine ∧ s.all (fun c => decide (c < 0x110000)) = true) → RepVs K ρ N H (ns.map D.str) ((ns.map toSt).map V.str)
  | [], _ => .nil
  | s :: ns, h => .cons (.str s (h s List.mem_cons_self)) (strs_mk fun z hz => h z (List.mem_cons_of_mem _ hz))
theorem ints_mk {K : PySem.W.Frag} {ρ : Rn} {N : Nat} {H : Hp} : ∀ {ns : List Int}, RepVs K ρ N H (ns.map D.int) (ns.map V.int)
  | [] => .nil
  | n :: _ => .cons (.int n) ints_mk
theorem fn_sorted {X : Cx} {W : Wd} (hK : X.K = W.K) (hc : X.calm = true) : CallR X (.builtin "sorted") (rF W dSorted) := by
  intro pins s σ H xs us Q I r h
  obtain ⟨ds, ρ, S, d, hS, hx, e, q⟩ := h
  unfold dSorted at e
  split at e
  · rename_i t
    cases e
    obtain ⟨v, rfl, hv⟩ := hx.one
    cases hv with | str _ h1 =>
    refine cr_sortTxt hc pins s σ H _ us Q I r ⟨_, rfl, by simpa using h1.1, fun ys p hp hs hn => ?_⟩
    have e1 : signsV ⟨t.toArray⟩ = (t.map fun c => [c]).map toSt := by
      unfold signsV
      rw [List.map_map]
      rfl
    rw [e1] at hp
    rw [sortedS_uniq hp hs]
    refine q.lst hS (strs_mk fun z hz => ?_) hn
    have hz' := (sortT_perm _).mem_iff.mp hz
    obtain ⟨c, hc, rfl⟩ := List.mem_map.mp hz'
    exact ⟨by have := sizeL; simp; omega, by simpa using List.all_eq_true.mp h1.2 c hc⟩
  · rename_i x _
    obtain ⟨v, rfl, hv⟩ := hx.one
    split at e
    · rename_i ns hns
      cases e
      obtain ⟨a, rfl, hq⟩ := ilist_rep hS hK hv hns
      refine cr_sortNs pins s σ H _ us Q I r ⟨a, ns, rfl, hq, fun ms p hp hs hn => ?_⟩
      rw [sortZ_uniq hp hs]
      exact q.lst hS ints_mk hn
    · obtain ⟨ts, hts, rfl⟩ := Option.map_eq_some_iff.mp e
      obtain ⟨ds, h6, h7⟩ := Option.bind_eq_some_iff.mp hts
      obtain ⟨a, vs, rfl, hq, hr⟩ := lseq_rep hS hv h6
      rw [strsOf_eq h7] at hr
      obtain ⟨e1, _⟩ := strs_rep hr
      have hall := strs_all hr
      subst e1
      rw [← hK] at hq
      refine cr_sortSs pins s σ H _ us Q I r ⟨a, _, rfl, hq, fun ys p hp hs hn => ?_⟩
      rw [sortedS_uniq (xs := ts) hp hs]
      refine q.lst hS (strs_mk fun z hz => hall z ((sortT_perm _).mem_iff.mp hz)) hn
  · cases e
theorem joinL_all {a : List Nat} (ha : a.all (fun c => decide (c < 0x110000)) = true) : ∀ {ys : List (List Nat)}, (∀ s ∈ ys, s.all (fun c => decide (c < 0x110000)) = true) → (TL.joinL a ys).all (fun c => decide (c < 0x110000)) = true
  | [], _ => rfl
  | [p], h => h p List.mem_cons_self
  | p :: q :: r, h => by
    unfold TL.joinL
    rw [List.all_append, List.all_append, h p List.mem_cons_self, ha, joinL_all ha fun s hs => h s (List.mem_cons_of_mem _ hs)]
    rfl
/-- sep.join(texts) -/
def dJoin (a : List Nat) (y : D) (S : Store) : Option D := ((y.seq S).bind strsOf).bind fun ys => if (ys.map List.length).sum + ys.length * a.length ≤ 16777216 ∧ (TL.joinL a ys).length ≤ sizeLine then some (.str (TL.joinL a ys)) else none
inductive Met1 where
  | find | count | startswith | endswith | index
  deriving DecidableEq
/-- s.index(t), where it is found -/
def sIndex (a b : List Nat) : Option Nat := match Builtin.Str.occurrences ⟨a.toArray⟩ ⟨b.toArray⟩ 0 a.length 1 with
  | i :: _ => some i
  | [] => none
def met1V : Met1 → List Nat → List Nat → D
  | .find, a, b => .int (Txt.find ⟨a.toArray⟩ ⟨b.toArray⟩)
  | .count, a, b => .int (Txt.count ⟨a.toArray⟩ ⟨b.toArray⟩)
  | .startswith, a, b => .bl (Txt.startswith ⟨a.toArray⟩ ⟨b.toArray⟩)
  | .endswith, a, b => .bl (Txt.endswith ⟨a.toArray⟩ ⟨b.toArray⟩)
  | .index, _, _ => .non
def dMet1 (m : Met1) (a : List Nat) : D → Option D
  | .str b => if m = .index then (sIndex a b).map (fun (n : Nat) => D.int (n : Int)) else some (met1V m a b)
  | _ => none
def met1N : Met1 → Str
  | .find => "find" | .count => "count" | .startswith => "startswith" | .endswith => "endswith" | .index => "index"
inductive Met0 where
  | lower | upper | strip | isalpha | isdigit | isalnum | isspace
  deriving DecidableEq
def met0N : Met0 → Str
  | .lower => "lower" | .upper => "upper" | .strip => "strip" | .isalpha => "isalpha" | .isdigit => "isdigit" | .isalnum => "isalnum" | .isspace => "isspace"
/-- a text that may stand -/
def strOk (x : Str) : Option D := if x.cps.toList.length ≤ sizeLine ∧ x.cps.toList.all (fun c => decide (c < 0x110000)) = true then some (.str x.cps.toList) else none
def dMet0 : Met0 → List Nat → Option D
  | .lower, a => if a.length ≤ 5592405 then strOk (Txt.lower ⟨a.toArray⟩) else none
  | .upper, a => if a.length ≤ 5592405 then strOk (Txt.upper ⟨a.toArray⟩) else none
  | .strip, a => strOk (Txt.strip ⟨a.toArray⟩)
  | .isalpha, a => some (.bl (Txt.isalpha ⟨a.toArray⟩))
  | .isdigit, a => some (.bl (Txt.isdigit ⟨a.toArray⟩))
  | .isalnum, a => some (.bl (Txt.isalnum ⟨a.toArray⟩))
  | .isspace, a => some (.bl (Txt.isspace ⟨a.toArray⟩))
/-- s.split(t) -/
def strsOk : List Str → Option (List D)
  | [] => some []
  | x :: xs => (strOk x).bind fun d => (strsOk xs).map (d :: ·)
def dSplit (a : List Nat) : D → Option (List D)
  | .str b => if (b.length == 0) = false ∧ a.length + 2 ≤ sizeLine then strsOk (Txt.split ⟨a.toArray⟩ ⟨b.toArray⟩) else none
  | _ => none
/-- s.find(t, i) -/
def dFind3 (a : List Nat) : D → D → Option D
  | .str b, .int i => some (.int (Txt.find3 ⟨a.toArray⟩ ⟨b.toArray⟩ i))
  | _, _ => none
/-- s.replace(y, z) -/
def replD (y z a : List Nat) : List Nat := (Txt.replace ⟨a.toArray⟩ ⟨y.toArray⟩ ⟨z.toArray⟩).cps.toList
def dRepl (y z a : List Nat) : Option D := if a.length + (a.length + 1) * z.length ≤ 16777216 ∧ (replD y z a).length ≤ sizeLine ∧ (replD y z a).all (fun c => decide (c < 0x110000)) = true then some (.str (replD y z a)) else none
def D.ty (S : Store) : D → Option String
  | .non => some "NoneType"
  | .bl _ => some "bool"
  | .int _ => some "int"
  | .str _ => some "str"
  | .tup _ => some "tuple"
  | .lst _ => some "list"
  | .rol _ => some "list"
  | .dic _ _ => some "dict"
  | .obj n => match S[n]? with
    | some (.lst _) => some "list"
    | some (.dic _ _) => some "dict"
    | some (.st _) => some "set"
    | none => none
  | .dob n => match S[n]? with
    | some (.dic _ _) => some "dict"
    | _ => none
  | _ => none
def isT (a b : String) : Bool := a == b || (a == "bool" && b == "int")
def tyNames : List String := ["NoneType", "bool", "int", "str", "tuple", "list", "dict", "set"]
theorem kit_all : tyNames.all (fun a => ["bool", "int", "str", "tuple", "list", "dict", "set"].all fun b => decide (kitB a b = some (isT a b))) = true := by decide +kernel
theorem ty_mem {S : Store} {d : D} {t : String} (h : d.ty S = some t) : t ∈ tyNames := by
  cases d with
  | obj n =>
    simp only [D.ty] at h
    split at h <;> first | (cases h; decide) | cases h
  | dob n =>
    simp only [D.ty] at h
    split at h <;> first | (cases h; decide) | cases h
  | _ => simp [D.ty] at h <;> (subst h; decide)
theorem ty_rep {K : PySem.W.Frag} {ρ : Rn} {S : Store} {H : Hp} {d : D} {v : V} {t : String} (s : RepS W ρ S H) (hK : W.K = K) (r : RepV W.K ρ S.length H d v) (h : d.ty S = some t) : TyX K H v (.type t) := by
  subst hK
  cases r with
  | non => cases h; exact .base .non
  | bl b => cases h; exact .base (.bl _)
  | int i => cases h; exact .base (.int _)
  | str a h1 => cases h; exact .base (.str _)
  | tup h1 r =>
    cases h
    rcases h1 with (h1 | ⟨o, h1⟩) | ⟨o, its, n, hk, hc, _⟩
    · exact .base (.tup h1)
    · exact .fTuple h1
    · exact .kTuple hk hc
  | lst h1 h2 r => cases h; exact .base (.lst h1)
  | dic h1 h2 r t => cases h; exact .base (.dK h1)
  | st => simp [D.ty] at h
  | rol h1 r =>
    cases h
    rcases h1 with ⟨o, h1⟩ | h1
    · exact .base (.frz h1)
    · rcases h1 with (h1 | ⟨o, h1⟩) | ⟨o, its, n, hk, hc, _⟩
      · cases h1
      · cases h1
      · exact .kList hk hc
  | @obj n hn =>
    simp only [D.ty] at h
    cases q : S[n]? with
    | none => rw [q] at h; cases h
    | some c =>
      rw [q] at h
      cases c with
      | lst es =>
        cases h
        obtain ⟨_, vs, h1, h2⟩ := s.list q
        exact .base (.lst h1)
      | dic _ _ =>
        cases h
        obtain ⟨_, kvs, g1, _⟩ := s.dict q
        exact .base (.dK g1)
      | st _ => exact (s.at_ n _ q).elim
  | @dob n hn =>
    simp only [D.ty] at h
    split at h
    · rename_i ks vs q
      cases h
      obtain ⟨_, kvs, g1, _⟩ := s.dict q
      exact .base (.dK g1)
    · cases h
end
end PD

set_option Elab.async false
set_option linter.all false
set_option maxRecDepth 100000
namespace PD
open PySem

inductive BinO where
  | add | sub | mul | div | mod | pow
  deriving DecidableEq
inductive CmpO where
  | eq | ne | lt | le | gt | ge | is_ | isNot | in_ | notIn
  deriving DecidableEq
inductive Bif where
  | len | abs | int | str | tuple | list | min2 | max2 | sum | maxL | minL | dict | sorted
  deriving DecidableEq
/-- a part of a target -/
inductive Tgi where
  | n (i : Nat)
  | t (is : List Nat)
/-- a target: a name, names in a row, names and rows of names -/
inductive Tg where
  | nm (i : Nat)
  | tp (is : List Nat)
  | tq (js : List Tgi)

mutual
inductive Ex where
  | cst (d : D)
  | var (i : Nat)
  | glb (i : Nat)
  | tup (es : Exs) | lst (es : Exs) | lstO (es : Exs)
  | bin (o : BinO) (a b : Ex)
  | neg (a : Ex) | not (a : Ex)
  | and (a b : Ex) | or (a b : Ex) | one (a : Ex)
  | ite (c a b : Ex)
  | cmp (o : CmpO) (a b : Ex)
  | chn (o o' : CmpO) (a b c : Ex)
  | idx (a i : Ex)
  | cut (a : Ex) (lo hi : Exo)
  | call (f : Nat) (es : Exs)
  | bif (b : Bif) (es : Exs)
  | isin (e : Ex) (t : String)
  | app (o e : Ex)
  | pop (o : Ex)
  | join (o e : Ex)
  | met1 (m : Met1) (o e : Ex)
  | find3 (o e i : Ex)
  | repl (o : Ex) (y z : List Nat)
  | comp (el : Ex) (t : Tg) (it : It) (c : Exs) (isObj : Bool)
  | lrev (e : Ex) (isObj : Bool)
  | rev (e : Ex)
  | ext (o e : Ex)
  | met0 (m : Met0) (o : Ex)
  | split (o e : Ex) (isObj : Bool)
  | allG (isAny : Bool) (el : Ex) (t : Tg) (it : It) (c : Exs)
  | kin (neg : Bool) (i : Nat) (e : Ex)
  | kidx (i : Nat) (e : Ex)
  | binO (o : BinO) (a b : Ex)
  | listO (e : Ex)
  | dnew
  | dictO (e : Ex)
  | tupz (e : Ex)
  | lidx (o e : Ex)
  | unz (e : Ex)
  | dictZ (e : Ex)
  | compV (el : Ex) (t : Tg) (it : It) (c : Exs) (isObj : Bool)
inductive Exs where
  | nil | cons (e : Ex) (es : Exs) | star (e : Ex) (es : Exs)
inductive Exo where
  | no | ex (e : Ex)
/-- what is walked -/
inductive It where
  | seq (e : Ex)
  | rng1 (a : Ex)
  | rng2 (a b : Ex)
  | rng3 (a b c : Ex)
  | zip (a b : Ex)
  | enm (a : Ex)
end

mutual
inductive St where
  | set (i : Nat) (e : Ex)
  | seti (i : Nat) (j e : Ex)
  | setd (i : Nat) (j e : Ex)
  | unp (t : Tg) (e : Ex)
  | par2 (i j : Nat) (a b : Ex)
  | par3 (i j k : Nat) (a b c : Ex)
  | aug (i : Nat) (o : BinO) (e : Ex)
  | exp (e : Ex)
  | ret (e : Ex)
  | iff (c : Ex) (a b : Sts)
  | forr (t : Tg) (it : It) (b : Sts)
  | whl (c : Ex) (b : Sts)
  | raise (c : String)
  | tryW (b : Sts) (i : Nat) (c : String)
  | tryC (b : Sts) (c : String) (d : D)
  | pass | brk | cnt
inductive Sts where
  | nil | cons (s : St) (ss : Sts)
end

/-- the errors: which class is of which, the words of those that are told by a def, the def -/
structure XD where
  rs : List String := []
  hs : List String := []
  subs : List ((String × String) × Bool) := []
  words : List (String × List Nat) := []
  wn : String := ""
def XD.sub (x : XD) (a b : String) : Option Bool := x.subs.lookup (a, b)
def XD.word (x : XD) (a : String) : Option (List Nat) := x.words.lookup a
/-- what the module and its defs mean -/
structure Dn where
  Γ : Nat → Option D
  Φ : Nat → List D → Store → Out D
  /-- the module's dicts, by text keys -/
  Δ : Nat → Option (List (List Nat × D)) := fun _ => none
  xd : XD := {}

def liftO {α : Type} (S : Store) : Option α → Out α
  | some d => .ok d S
  | none => .bad
@[simp] theorem liftO_some {α : Type} (S : Store) (d : α) : liftO S (some d) = .ok d S := id rfl
@[simp] theorem liftO_none {α : Type} (S : Store) : liftO S (none : Option α) = .bad := id rfl
def lift (S : Store) : Option D → Out D
  | some d => .ok d S
  | none => .bad
@[simp] theorem lift_some (S : Store) (d : D) : lift S (some d) = .ok d S := id rfl
@[simp] theorem lift_none (S : Store) : lift S none = .bad := id rfl
/-- a slot's value -/
def getD (δ : DEnv) (i : Nat) : Option D := match δ[i]? with
  | some (some d) => some d
  | _ => none
def binF : BinO → Op2
  | .add => dAdd | .sub => dSub | .mul => dMul | .div => dDiv | .mod => dMod | .pow => dPow
def dIn : Op2
  | .str [c], .str z, _ => some (.bl (decide (c ∈ z)))
  | x, .dic ks vs, _ => if x.key then some (.bl (lookD ks vs x).isSome) else none
  | x, .dob n, S => match S[n]? with
    | some (.dic ks vs) => if x.key then some (.bl (lookD ks vs x).isSome) else none
    | _ => none
  | x, y, S => match y.seq S with
    | some ds => if (x.rd S).plain && D.plains ds && decide ((x.rd S).depth ≤ 100) then some (.bl (ds.any fun d => d.eqv (x.rd S))) else none
    | none => none
def dNotIn : Op2 := fun x y S => match dIn x y S with
  | some (.bl b) => some (.bl (!b))
  | _ => none
def cmpF : CmpO → Op2
  | .eq => dEq | .ne => dNe | .lt => dLt | .le => dLe | .gt => dGt | .ge => dGe | .is_ => dIs | .isNot => dIsNot | .in_ => dIn | .notIn => dNotIn
def bifF : Bif → OpN
  | .len => dLen | .abs => dAbs | .int => dInt | .str => dStr | .tuple => dTuple | .list => dList | .min2 => dMin2 | .max2 => dMax2 | .sum => dSum | .maxL => dMaxL | .minL => dMinL | .dict => dDict | .sorted => dSorted
/-- name op= value: numbers and texts alone -/
def augF : BinO → Op2
  | .add, .int i, .int j, _ => some (.int (i + j))
  | .add, .str a, .str b, _ => if a.length + b.length ≤ sizeLine then some (.str (a ++ b)) else none
  | .sub, .int i, .int j, _ => some (.int (i - j))
  | _, _, _, _ => none
/-- a value's truth -/
def D.tru (S : Store) : D → Option Bool
  | .non => some false
  | .bl b => some b
  | .int i => some (decide (i ≠ 0))
  | .str s => some (!s.isEmpty)
  | x => (x.seq S).map fun ds => !ds.isEmpty
def D.asB : D → Option Bool
  | .bl b => some b
  | _ => none
@[simp] theorem D.asB_bl (b : Bool) : (D.bl b).asB = some b := id rfl
def liftB (S : Store) : Option Bool → Out Bool
  | some d => .ok d S
  | none => .bad
@[simp] theorem liftB_some (S : Store) (d : Bool) : liftB S (some d) = .ok d S := id rfl
@[simp] theorem liftB_none (S : Store) : liftB S none = .bad := id rfl
/-- the items that a walk gives -/
def D.iter (S : Store) : D → Option (List D)
  | .str s => some (s.map fun c => .str [c])
  | x => x.seq S
def setAll : List Nat → List D → DEnv → DEnv
  | i :: is, d :: ds, δ => setAll is ds (δ.set i (some d))
  | _, _, δ => δ
def setQ : List Tgi → List D → DEnv → Option DEnv
  | [], [], δ => some δ
  | .n i :: js, d :: ds, δ => setQ js ds (δ.set i (some d))
  | .t is :: js, .tup es :: ds, δ => if es.length = is.length then setQ js ds (setAll is es δ) else none
  | _, _, _ => none
def tset : Tg → D → DEnv → Option DEnv
  | .nm i, d, δ => some (δ.set i (some d))
  | .tp is, .tup ds, δ => if ds.length = is.length then some (setAll is ds δ) else none
  | .tq js, .tup ds, δ => setQ js ds δ
  | _, _, _ => none
def Tgi.slots : Tgi → List Nat
  | .n i => [i]
  | .t is => is
def Tg.slots : Tg → List Nat
  | .nm i => [i]
  | .tp is => is
  | .tq js => js.flatMap Tgi.slots
/-- the block's own names forgotten -/
def wipeD (δ : DEnv) : List Nat → DEnv
  | [] => δ
  | v :: vs => (wipeD δ vs).set v none
/-- nothing is raised -/
def nox {α : Type} : Out α → Out α
  | .exc _ _ => .bad
  | r => r
@[simp] theorem nox_ok {α : Type} (a : α) (S : Store) : nox (.ok a S) = .ok a S := id rfl
@[simp] theorem nox_bad {α : Type} : nox (.bad : Out α) = .bad := id rfl
@[simp] theorem nox_exc {α : Type} (x : String) (S : Store) : nox (.exc x S : Out α) = .bad := id rfl
/-- a comprehension's items, one after another -/
def mapL (f : D → Store → Out (Option D)) : List D → Store → Out (List D)
  | [], S => .ok [] S
  | x :: xs, S => (f x S).bind fun r S1 => (mapL f xs S1).bind fun ys S2 => .ok (match r with | some y => y :: ys | none => ys) S2
/-- all(..), any(..): short -/
def allL (isAny : Bool) (F : D → Store → Out (Option D)) : List D → Store → Out Bool
  | [], S => .ok (!isAny) S
  | x :: xs, S => (F x S).bind fun r S1 => match r with
    | none => allL isAny F xs S1
    | some y => (liftB S1 y.asB).bind fun b S2 => if b = isAny then .ok isAny S2 else allL isAny F xs S2
def kinF (neg : Bool) (l : List (List Nat × D)) : D → Option D
  | .str s => some (.bl (if neg then !(l.lookup s).isSome else (l.lookup s).isSome))
  | _ => none
def kidxF (l : List (List Nat × D)) : D → Option D
  | .str s => l.lookup s
  | _ => none
/-- a new list: an object of the store, or a value -/
def mkList (isObj : Bool) (ds : List D) (S : Store) : Out D :=
  if ds.length ≤ sizeLine then (if isObj then (if ds.all D.pure then .ok (.obj S.length) (S ++ [.lst ds]) else .bad) else .ok (.lst ds) S) else .bad
def isinF (d : D) (t : String) (S : Store) : Option D :=
  if ["bool", "int", "str", "tuple", "list", "dict", "set"].contains t then (d.ty S).map fun a => .bl (isT a t) else none
def D.asO : D → Option Nat
  | .obj n => some n
  | _ => none
/-- a text -/
def D.asS : D → Option (List Nat)
  | .str s => some s
  | _ => none
def appF (n : Nat) (d : D) (S : Store) : Out D := match S[n]? with
  | some (.lst ds) => if d.pure && decide (ds.length < sizeLine) then .ok .non (S.set n (.lst (ds ++ [d]))) else .bad
  | _ => .bad
def popF (n : Nat) (S : Store) : Out D := match S[n]? with
  | some (.lst ds) => match ds.getLast? with
    | some d => .ok d (S.set n (.lst ds.dropLast))
    | none => .bad
  | _ => .bad
def rngL (a b : Int) : List D := (List.range (b - a).toNat).map fun (k : Nat) => .int (a + (k : Int))
def rngOk (a b : Int) : Bool := decide (-4611686018427387904 ≤ a ∧ a < 4611686018427387904 ∧ -4611686018427387904 ≤ b ∧ b < 4611686018427387904)
/-- what a walk goes over: data as it stands, or a list of the store -/
inductive Src where
  | st (ds : List D)
  | lv (n : Nat)
def Src.items : Src → Option (List D)
  | .st ds => some ds
  | .lv _ => none
def srcOf (d : D) : Option Src := match d with
  | .obj n => some (.lv n)
  | d => (d.iter []).map .st
def D.asI : D → Option Int
  | .int i => some i
  | _ => none
def rngS (x y : D) : Option Src := match x, y with
  | .int a, .int b => if rngOk a b then some (.st (rngL a b)) else none
  | _, _ => none
def rngC (i c : Int) (n : Nat) : List D := (List.range n).map fun (k : Nat) => .int (i + (k : Int) * c)
def rng3S (x y z : D) : Option Src := match x, y, z with
  | .int i, .int j, .int c => if c ≠ 0 ∧ c.natAbs < 1073741824 ∧ Builtin.Range.small i j c = true ∧ 0 ≤ Builtin.Range.rangeSize i j c then some (.st (rngC i c (Builtin.Range.rangeSize i j c).toNat)) else none
  | _, _, _ => none
def zipL : List D → List D → List D
  | d :: ds, e :: es => .tup [d, e] :: zipL ds es
  | _, _ => []
def zipS (x y : D) : Option Src := match x, y with
  | .tup ds, .tup es => some (.st (zipL ds es))
  | .lst ds, .lst es => some (.st (zipL ds es))
  | _, _ => none
def numL : Nat → List D → List D
  | _, [] => []
  | n, d :: ds => .tup [.int (n : Int), d] :: numL (n + 1) ds
def enmS (x : D) : Option Src := match x with
  | .tup ds => some (.st (numL 0 ds))
  | .lst ds => some (.st (numL 0 ds))
  | .str s => some (.st (numL 0 (s.map fun c => .str [c])))
  | _ => none
/-- a list or a tuple, backwards -/
def revF (x : D) (S : Store) : Option D := match x with
  | .tup ds => some (.tup ds.reverse)
  | x => (x.lseq S).map fun ds => .lst ds.reverse
/-- the items of a list that is ours -/
def D.vseq (S : Store) : D → Option (List D)
  | .lst ds => some ds
  | .obj n => match S[n]? with
    | some (.lst ds) => some ds
    | _ => none
  | _ => none
/-- o.extend(a list) -/
def extF (n : Nat) (d : D) (S : Store) : Out D := match S[n]?, d.vseq S with
  | some (.lst ds), some es => if es.all D.pure && decide (ds.length + es.length ≤ sizeLine) then .ok .non (S.set n (.lst (ds ++ es))) else .bad
  | _, _ => .bad
mutual
/-- the same data -/
def D.same : D → D → Bool
  | .non, .non => true
  | .bl a, .bl b => a == b
  | .int a, .int b => decide (a = b)
  | .str a, .str b => decide (a = b)
  | .tup a, .tup b => D.sames a b
  | .lst a, .lst b => D.sames a b
  | .rol a, .rol b => D.sames a b
  | .dic a b, .dic c d => D.sames a c && D.sames b d
  | .st a, .st b => D.sames a b
  | .obj a, .obj b => decide (a = b)
  | .dob a, .dob b => decide (a = b)
  | .exn a, .exn b => decide (a = b)
  | _, _ => false
def D.sames : List D → List D → Bool
  | [], [] => true
  | a :: r, b :: q => D.same a b && D.sames r q
  | _, _ => false
end
mutual
theorem D.same_refl : ∀ d : D, D.same d d = true
  | .non => rfl
  | .bl _ => by simp [D.same]
  | .int _ => by simp [D.same]
  | .str _ => by simp [D.same]
  | .tup a => by simp only [D.same]; exact D.sames_refl a
  | .lst a => by simp only [D.same]; exact D.sames_refl a
  | .rol a => by simp only [D.same]; exact D.sames_refl a
  | .dic a b => by simp only [D.same, D.sames_refl a, D.sames_refl b, Bool.and_self]
  | .st a => by simp only [D.same]; exact D.sames_refl a
  | .obj _ => by simp [D.same]
  | .dob _ => by simp [D.same]
  | .exn _ => by simp [D.same]
theorem D.sames_refl : ∀ d : List D, D.sames d d = true
  | [] => rfl
  | a :: r => by simp only [D.sames, D.same_refl a, D.sames_refl r, Bool.and_self]
end
mutual
theorem D.same_eq : ∀ {a b : D}, D.same a b = true → a = b
  | .non, b, h => by cases b <;> simp [D.same] at h <;> rfl
  | .bl x, b, h => by cases b <;> simp [D.same] at h; rw [h]
  | .int x, b, h => by cases b <;> simp [D.same] at h; rw [h]
  | .str x, b, h => by cases b <;> simp [D.same] at h; rw [h]
  | .tup x, b, h => by cases b <;> simp only [D.same, Bool.false_eq_true] at h; rw [D.sames_eq h]
  | .lst x, b, h => by cases b <;> simp only [D.same, Bool.false_eq_true] at h; rw [D.sames_eq h]
  | .rol x, b, h => by cases b <;> simp only [D.same, Bool.false_eq_true] at h; rw [D.sames_eq h]
  | .dic x y, b, h => by
    cases b <;> simp only [D.same, Bool.false_eq_true, Bool.and_eq_true] at h
    rw [D.sames_eq h.1, D.sames_eq h.2]
  | .st x, b, h => by cases b <;> simp only [D.same, Bool.false_eq_true] at h; rw [D.sames_eq h]
  | .obj x, b, h => by cases b <;> simp [D.same] at h; rw [h]
  | .dob x, b, h => by cases b <;> simp [D.same] at h; rw [h]
  | .exn x, b, h => by cases b <;> simp [D.same] at h; rw [h]
theorem D.sames_eq : ∀ {a b : List D}, D.sames a b = true → a = b
  | [], [], _ => rfl
  | [], _ :: _, h => by cases h
  | _ :: _, [], h => by cases h
  | a :: r, b :: q, h => by
    simp only [D.sames, Bool.and_eq_true] at h
    rw [D.same_eq h.1, D.sames_eq h.2]
end
/-- the list n of the store is ds -/
def isCell (n : Nat) (ds : List D) (S : Store) : Bool := match S[n]? with
  | some (.lst es) => D.sames es ds
  | _ => false
def cellL (n : Nat) (S : Store) : Option (List D) := match S[n]? with
  | some (.lst es) => some es
  | _ => none
def Src.lvN : Src → Option Nat
  | .lv n => some n
  | .st _ => none
theorem isCell_eq {n : Nat} {ds : List D} {S : Store} : isCell n ds S = true ↔ S[n]? = some (.lst ds) := by
  unfold isCell
  constructor
  · intro h
    split at h
    · rename_i es he
      rw [he, D.sames_eq h]
    · cases h
  · intro h
    rw [h]
    exact D.sames_refl ds
/-- a turn that leaves the list as it is -/
def keptB (n : Nat) (ds : List D) (F : D → Store → Out (Option D)) : D → Store → Out (Option D) := fun x S => (F x S).bind fun r S2 => if isCell n ds S2 then .ok r S2 else .bad
/-- a new dict of the store -/
def mkDic (ks vs : List D) (S : Store) : Out D := if (ks.all D.pure && vs.all D.pure) = true then .ok (.dob S.length) (S ++ [.dic ks vs]) else .bad
/-- l.index(x), of a list, where it is found -/
def lidxF (x y : D) (S : Store) : Option D := (x.lseq S).bind fun ds =>
  if (y.rd S).plain && D.plains ds && decide ((y.rd S).depth ≤ 60) && decide (D.depths ds ≤ 60) then (ds.findIdx? fun d => d.eqv (y.rd S)).map fun (j : Nat) => D.int (j : Int) else none
/-- tuple(a list): a new tuple that bears no dict -/
def tupzF (x : D) (S : Store) : Option D := (x.lseq S).map .st
/-- such a tuple as any other -/
def unzF : D → Option D
  | .st ds => some (.tup ds)
  | _ => none
/-- dict(such a tuple of pairs) -/
def dictZF : D → Option D
  | .st ds => (pairsD [] [] ds).map fun p => .dic p.1 p.2
  | _ => none
def dictP (x : D) (S : Store) : Option (List D × List D) := (x.lseq S).bind (pairsD [] [])
/-- a new list of the store: a + b, a * n -/
def binOF : BinO → D → D → Store → Out D
  | .mul, .lst a, .int j, S => if j < 9223372036854775808 ∧ -9223372036854775808 ≤ j ∧ a.length * j.toNat ≤ sizeLine then mkList true (rep j.toNat a) S else .bad
  | .add, x, y, S => match x.vseq S, y.vseq S with
    | some a, some b => if a.length + b.length ≤ sizeLine then mkList true (a ++ b) S else .bad
    | _, _ => .bad
  | _, _, _, _ => .bad
/-- o[i] = v, o a list -/
def setiF (n : Nat) (i : D) (v : D) (S : Store) : Out D := match S[n]?, i with
  | some (.lst ds), .int i => match L2.ixN ds.length i with
    | some j => if v.pure then .ok .non (S.set n (.lst (ds.set j v))) else .bad
    | none => .bad
  | _, _ => .bad
def D.asDO : D → Option Nat
  | .dob n => some n
  | _ => none
/-- d[k] = v -/
def setdF (n : Nat) (y v : D) (S : Store) : Out D := match S[n]? with
  | some (.dic ks vs) => if y.key && v.pure && decide (ks.length < sizeLine) then .ok .non (S.set n (.dic (putK ks y) (putV ks vs y v))) else .bad
  | _ => .bad
def negF : D → Option D
  | .int i => some (.int (-i))
  | _ => none

mutual
def ev (G : Dn) : Ex → DEnv → Store → Out D
  | .cst d, _, S => .ok d S
  | .var i, δ, S => lift S (getD δ i)
  | .glb x, _, S => lift S (G.Γ x)
  | .tup es, δ, S => (evs G es δ S).bind fun ds S1 => if ds.length ≤ sizeLine then .ok (.tup ds) S1 else .bad
  | .lst es, δ, S => (evs G es δ S).bind fun ds S1 => mkList false ds S1
  | .lstO es, δ, S => (evs G es δ S).bind fun ds S1 => mkList true ds S1
  | .bin o a b, δ, S => (ev G a δ S).bind fun x S1 => (ev G b δ S1).bind fun y S2 => lift S2 (binF o x y S2)
  | .neg a, δ, S => (ev G a δ S).bind fun x S1 => lift S1 (negF x)
  | .not a, δ, S => (ev G a δ S).bind fun x S1 => (liftB S1 (x.tru S1)).bind fun b S2 => .ok (.bl (!b)) S2
  | .and a b, δ, S => (ev G a δ S).bind fun x S1 => (liftB S1 x.asB).bind fun t S2 => if t then ev G b δ S2 else .ok (.bl false) S2
  | .or a b, δ, S => (ev G a δ S).bind fun x S1 => (liftB S1 x.asB).bind fun t S2 => if t then .ok (.bl true) S2 else ev G b δ S2
  | .one a, δ, S => ev G a δ S
  | .ite c a b, δ, S => (tst G c δ S).bind fun t S1 => if t then ev G a δ S1 else ev G b δ S1
  | .cmp o a b, δ, S => (ev G a δ S).bind fun x S1 => (ev G b δ S1).bind fun y S2 => lift S2 (cmpF o x y S2)
  | .chn o o' a b c, δ, S => (ev G a δ S).bind fun x S1 => (ev G b δ S1).bind fun y S2 => (lift S2 (cmpF o x y S2)).bind fun t S3 => (liftB S3 t.asB).bind fun t S3 => if t then (ev G c δ S3).bind fun z S4 => lift S4 (cmpF o' y z S4) else .ok (.bl false) S3
  | .idx a i, δ, S => (ev G a δ S).bind fun x S1 => (ev G i δ S1).bind fun y S2 => lift S2 (dIdx x y S2)
  | .cut a lo hi, δ, S => (ev G a δ S).bind fun x S1 => (evo G lo δ S1).bind fun l S2 => (evo G hi δ S2).bind fun h S3 => lift S3 (dCut x l h S3)
  | .call f es, δ, S => (evs G es δ S).bind fun ds S1 => G.Φ f ds S1
  | .bif b es, δ, S => (evs G es δ S).bind fun ds S1 => lift S1 (bifF b ds S1)
  | .isin e t, δ, S => (ev G e δ S).bind fun x S1 => lift S1 (isinF x t S1)
  | .app o e, δ, S => (ev G o δ S).bind fun x S1 => (liftO S1 x.asO).bind fun n S1 => (ev G e δ S1).bind fun y S2 => appF n y S2
  | .pop o, δ, S => (ev G o δ S).bind fun x S1 => (liftO S1 x.asO).bind fun n S1 => popF n S1
  | .join o e, δ, S => (ev G o δ S).bind fun x S1 => (liftO S1 x.asS).bind fun a S1 => (ev G e δ S1).bind fun y S2 => lift S2 (dJoin a y S2)
  | .met1 m o e, δ, S => (ev G o δ S).bind fun x S1 => (liftO S1 x.asS).bind fun a S1 => (ev G e δ S1).bind fun y S2 => lift S2 (dMet1 m a y)
  | .find3 o e i, δ, S => (ev G o δ S).bind fun x S1 => (liftO S1 x.asS).bind fun a S1 => (ev G e δ S1).bind fun y S2 => (ev G i δ S2).bind fun z S3 => lift S3 (dFind3 a y z)
  | .repl o y z, δ, S => (ev G o δ S).bind fun x S1 => (liftO S1 x.asS).bind fun a S1 => lift S1 (dRepl y z a)
  | .comp el t it c isObj, δ, S => (evI G it δ S).bind fun src S1 => (liftO S1 src.items).bind fun ds S1 =>
      (nox (mapL (fun x S => (liftO S (tset t x (wipeD δ t.slots))).bind fun δ' S => (tsts G c δ' S).bind fun b S2 => if b then (ev G el δ' S2).bind fun y S3 => .ok (some y) S3 else .ok none S2) ds S1)).bind fun ys S2 => mkList isObj ys S2
  | .lrev e isObj, δ, S => (ev G e δ S).bind fun x S1 => (liftO S1 (x.lseq S1)).bind fun ds S2 => mkList isObj ds.reverse S2
  | .rev e, δ, S => (ev G e δ S).bind fun x S1 => lift S1 (revF x S1)
  | .ext o e, δ, S => (ev G o δ S).bind fun x S1 => (liftO S1 x.asO).bind fun n S1 => (ev G e δ S1).bind fun y S2 => extF n y S2
  | .met0 m o, δ, S => (ev G o δ S).bind fun x S1 => (liftO S1 x.asS).bind fun a S1 => lift S1 (dMet0 m a)
  | .split o e isObj, δ, S => (ev G o δ S).bind fun x S1 => (liftO S1 x.asS).bind fun a S1 => (ev G e δ S1).bind fun y S2 => (liftO S2 (dSplit a y)).bind fun ds S2 => mkList isObj ds S2
  | .allG isAny el t it c, δ, S => (evI G it δ S).bind fun src S1 => (liftO S1 src.items).bind fun ds S1 =>
      (nox (allL isAny (fun x S => (liftO S (tset t x (wipeD δ t.slots))).bind fun δ' S => (tsts G c δ' S).bind fun b S2 => if b then (ev G el δ' S2).bind fun y S3 => .ok (some y) S3 else .ok none S2) ds S1)).bind fun b S2 => .ok (.bl b) S2
  | .kin neg i e, δ, S => (liftO S (G.Δ i)).bind fun l S => (ev G e δ S).bind fun x S1 => lift S1 (kinF neg l x)
  | .kidx i e, δ, S => (liftO S (G.Δ i)).bind fun l S => (ev G e δ S).bind fun x S1 => lift S1 (kidxF l x)
  | .binO o a b, δ, S => (ev G a δ S).bind fun x S1 => (ev G b δ S1).bind fun y S2 => binOF o x y S2
  | .listO e, δ, S => (ev G e δ S).bind fun x S1 => (liftO S1 (x.seq S1)).bind fun ds S1 => mkList true ds S1
  | .dnew, _, S => mkDic [] [] S
  | .lidx o e, δ, S => (ev G o δ S).bind fun x S1 => (liftO S1 (x.lseq S1)).bind fun _ S1 => (ev G e δ S1).bind fun y S2 => lift S2 (lidxF x y S2)
  | .tupz e, δ, S => (ev G e δ S).bind fun x S1 => lift S1 (tupzF x S1)
  | .unz e, δ, S => (ev G e δ S).bind fun x S1 => lift S1 (unzF x)
  | .dictZ e, δ, S => (ev G e δ S).bind fun x S1 => lift S1 (dictZF x)
  | .dictO e, δ, S => (ev G e δ S).bind fun x S1 => (liftO S1 (dictP x S1)).bind fun p S1 => mkDic p.1 p.2 S1
  | .compV el t it c isObj, δ, S => (evI G it δ S).bind fun src S1 => (liftO S1 src.lvN).bind fun n S1 => (liftO S1 (cellL n S1)).bind fun ds S1 =>
      (nox (mapL (keptB n ds (fun x S => (liftO S (tset t x (wipeD δ t.slots))).bind fun δ' S => (tsts G c δ' S).bind fun b S2 => if b then (ev G el δ' S2).bind fun y S3 => .ok (some y) S3 else .ok none S2)) ds S1)).bind fun ys S2 => mkList isObj ys S2
/-- as a test -/
def tst (G : Dn) : Ex → DEnv → Store → Out Bool
  | .not a, δ, S => (tst G a δ S).bind fun b S1 => .ok (!b) S1
  | .and a b, δ, S => (tst G a δ S).bind fun t S1 => if t then tst G b δ S1 else .ok false S1
  | .or a b, δ, S => (tst G a δ S).bind fun t S1 => if t then .ok true S1 else tst G b δ S1
  | .one a, δ, S => tst G a δ S
  | .ite c a b, δ, S => (tst G c δ S).bind fun t S1 => if t then tst G a δ S1 else tst G b δ S1
  | .cmp o a b, δ, S => (ev G a δ S).bind fun x S1 => (ev G b δ S1).bind fun y S2 => (lift S2 (cmpF o x y S2)).bind fun z S3 => liftB S3 z.asB
  | .chn o o' a b c, δ, S => (ev G a δ S).bind fun x S1 => (ev G b δ S1).bind fun y S2 => (lift S2 (cmpF o x y S2)).bind fun t S3 => (liftB S3 t.asB).bind fun t S3 => if t then (ev G c δ S3).bind fun z S4 => (lift S4 (cmpF o' y z S4)).bind fun z S5 => liftB S5 z.asB else .ok false S3
  | .cst d, _, S => liftB S (d.tru S)
  | .var i, δ, S => (lift S (getD δ i)).bind fun z S1 => liftB S1 (z.tru S1)
  | .idx a i, δ, S => (ev G a δ S).bind fun x S1 => (ev G i δ S1).bind fun y S2 => (lift S2 (dIdx x y S2)).bind fun z S3 => liftB S3 (z.tru S3)
  | .call f es, δ, S => (evs G es δ S).bind fun ds S1 => (G.Φ f ds S1).bind fun z S2 => liftB S2 (z.tru S2)
  | .bif b es, δ, S => (evs G es δ S).bind fun ds S1 => (lift S1 (bifF b ds S1)).bind fun z S2 => liftB S2 (z.tru S2)
  | .isin e t, δ, S => (ev G e δ S).bind fun x S1 => (lift S1 (isinF x t S1)).bind fun z S2 => liftB S2 (z.tru S2)
  | .kin neg i e, δ, S => (liftO S (G.Δ i)).bind fun l S => (ev G e δ S).bind fun x S1 => (lift S1 (kinF neg l x)).bind fun z S2 => liftB S2 (z.tru S2)
  | .kidx i e, δ, S => (liftO S (G.Δ i)).bind fun l S => (ev G e δ S).bind fun x S1 => (lift S1 (kidxF l x)).bind fun z S2 => liftB S2 (z.tru S2)
  | .met1 m o e, δ, S => (ev G o δ S).bind fun x S1 => (liftO S1 x.asS).bind fun a S1 => (ev G e δ S1).bind fun y S2 => (lift S2 (dMet1 m a y)).bind fun z S3 => liftB S3 (z.tru S3)
  | .met0 m o, δ, S => (ev G o δ S).bind fun x S1 => (liftO S1 x.asS).bind fun a S1 => (lift S1 (dMet0 m a)).bind fun z S3 => liftB S3 (z.tru S3)
  | .allG isAny el t it c, δ, S => (evI G it δ S).bind fun src S1 => (liftO S1 src.items).bind fun ds S1 =>
      (nox (allL isAny (fun x S => (liftO S (tset t x (wipeD δ t.slots))).bind fun δ' S => (tsts G c δ' S).bind fun b S2 => if b then (ev G el δ' S2).bind fun y S3 => .ok (some y) S3 else .ok none S2) ds S1)).bind fun b S2 => .ok b S2
  | _, _, _ => .bad
def evs (G : Dn) : Exs → DEnv → Store → Out (List D)
  | .nil, _, S => .ok [] S
  | .cons e es, δ, S => (ev G e δ S).bind fun x S1 => (evs G es δ S1).bind fun xs S2 => .ok (x :: xs) S2
  | .star e es, δ, S => (ev G e δ S).bind fun x S1 => (liftO S1 (x.seq S1)).bind fun ds S1 => (evs G es δ S1).bind fun xs S2 => .ok (ds ++ xs) S2
/-- all of them hold -/
def tsts (G : Dn) : Exs → DEnv → Store → Out Bool
  | .nil, _, S => .ok true S
  | .cons e .nil, δ, S => tst G e δ S
  | .cons e es, δ, S => (tst G e δ S).bind fun b S1 => if b then tsts G es δ S1 else .ok false S1
  | .star _ _, _, _ => .bad
def evo (G : Dn) : Exo → DEnv → Store → Out (Option Int)
  | .no, _, S => .ok none S
  | .ex e, δ, S => (ev G e δ S).bind fun x S1 => (liftO S1 x.asI).bind fun i S2 => .ok (some i) S2
def evI (G : Dn) : It → DEnv → Store → Out Src
  | .seq e, δ, S => (ev G e δ S).bind fun x S1 => liftO S1 (srcOf x)
  | .rng1 a, δ, S => (ev G a δ S).bind fun x S1 => liftO S1 (rngS (.int 0) x)
  | .rng2 a b, δ, S => (ev G a δ S).bind fun x S1 => (ev G b δ S1).bind fun y S2 => liftO S2 (rngS x y)
  | .rng3 a b c, δ, S => (ev G a δ S).bind fun x S1 => (ev G b δ S1).bind fun y S2 => (ev G c δ S2).bind fun z S3 => liftO S3 (rng3S x y z)
  | .zip a b, δ, S => (ev G a δ S).bind fun x S1 => (ev G b δ S1).bind fun y S2 => liftO S2 (zipS x y)
  | .enm a, δ, S => (ev G a δ S).bind fun x S1 => liftO S1 (enmS x)
end

/-- how a statement ends -/
inductive Fl where
  | nx (δ : DEnv) | rt (d : D) | bk (δ : DEnv) | ct (δ : DEnv) | ex (x : String) (δ : DEnv)
/-- an expression's end, at the slots δ -/
def exS {α : Type} (δ : DEnv) (r : Out α) (g : α → Store → Out Fl) : Out Fl := match r with
  | .ok a S => g a S
  | .exc x S => .ok (.ex x δ) S
  | .bad => .bad
@[simp] theorem exS_ok {α : Type} (δ : DEnv) (a : α) (S : Store) (g : α → Store → Out Fl) : exS δ (.ok a S) g = g a S := id rfl
@[simp] theorem exS_exc {α : Type} (δ : DEnv) (x : String) (S : Store) (g : α → Store → Out Fl) : exS δ (.exc x S) g = .ok (.ex x δ) S := id rfl
@[simp] theorem exS_bad {α : Type} (δ : DEnv) (g : α → Store → Out Fl) : exS δ (.bad : Out α) g = .bad := id rfl
/-- what follows a statement -/
def thenF (r : Out Fl) (g : DEnv → Store → Out Fl) : Out Fl := r.bind fun f S => match f with
  | .nx δ => g δ S
  | f => .ok f S
/-- what follows a turn -/
def turnF (r : Out Fl) (g : DEnv → Store → Out Fl) : Out Fl := r.bind fun f S => match f with
  | .nx δ => g δ S
  | .ct δ => g δ S
  | .bk δ => .ok (.nx δ) S
  | f => .ok f S
@[simp] theorem thenF_nx (δ : DEnv) (S : Store) (g : DEnv → Store → Out Fl) : thenF (.ok (.nx δ) S) g = g δ S := id rfl
@[simp] theorem thenF_rt (d : D) (S : Store) (g : DEnv → Store → Out Fl) : thenF (.ok (.rt d) S) g = .ok (.rt d) S := id rfl
@[simp] theorem thenF_bk (δ : DEnv) (S : Store) (g : DEnv → Store → Out Fl) : thenF (.ok (.bk δ) S) g = .ok (.bk δ) S := id rfl
@[simp] theorem thenF_ct (δ : DEnv) (S : Store) (g : DEnv → Store → Out Fl) : thenF (.ok (.ct δ) S) g = .ok (.ct δ) S := id rfl
@[simp] theorem thenF_ex (x : String) (δ : DEnv) (S : Store) (g : DEnv → Store → Out Fl) : thenF (.ok (.ex x δ) S) g = .ok (.ex x δ) S := id rfl
@[simp] theorem thenF_bad (g : DEnv → Store → Out Fl) : thenF .bad g = .bad := id rfl
@[simp] theorem turnF_nx (δ : DEnv) (S : Store) (g : DEnv → Store → Out Fl) : turnF (.ok (.nx δ) S) g = g δ S := id rfl
@[simp] theorem turnF_ct (δ : DEnv) (S : Store) (g : DEnv → Store → Out Fl) : turnF (.ok (.ct δ) S) g = g δ S := id rfl
@[simp] theorem turnF_bk (δ : DEnv) (S : Store) (g : DEnv → Store → Out Fl) : turnF (.ok (.bk δ) S) g = .ok (.nx δ) S := id rfl
@[simp] theorem turnF_rt (d : D) (S : Store) (g : DEnv → Store → Out Fl) : turnF (.ok (.rt d) S) g = .ok (.rt d) S := id rfl
@[simp] theorem turnF_ex (x : String) (δ : DEnv) (S : Store) (g : DEnv → Store → Out Fl) : turnF (.ok (.ex x δ) S) g = .ok (.ex x δ) S := id rfl
@[simp] theorem turnF_bad (g : DEnv → Store → Out Fl) : turnF .bad g = .bad := id rfl
def forL (body : D → DEnv → Store → Out Fl) : List D → DEnv → Store → Out Fl
  | [], δ, S => .ok (.nx δ) S
  | x :: xs, δ, S => turnF (body x δ S) fun δ1 S1 => forL body xs δ1 S1
/-- a list of the store that is read at each turn -/
def forV (n : Nat) (body : D → DEnv → Store → Out Fl) : Nat → Nat → DEnv → Store → Out Fl
  | 0, _, _, _ => .bad
  | k + 1, i, δ, S => match S[n]? with
    | some (.lst ds) => match ds[i]? with
      | some x => turnF (body x δ S) fun δ1 S1 => forV n body k (i + 1) δ1 S1
      | none => .ok (.nx δ) S
    | _ => .bad
def whileF (c : DEnv → Store → Out Bool) (body : DEnv → Store → Out Fl) : Nat → DEnv → Store → Out Fl
  | 0, _, _ => .bad
  | k + 1, δ, S => exS δ (c δ S) fun b S1 => if b then turnF (body δ S1) fun δ1 S2 => whileF c body k δ1 S2 else .ok (.nx δ) S1
/-- except: what a handler makes of a suite's end -/
def catchF (sub : String → Option Bool) (h : String → Store → Out Fl) (r : Out Fl) : Out Fl := match r with
  | .ok (.ex x δ) S => match sub x with
    | some true => h x S
    | some false => .ok (.ex x δ) S
    | none => .bad
  | r => r
@[simp] theorem catchF_nx (sub : String → Option Bool) (h : String → Store → Out Fl) (δ : DEnv) (S : Store) : catchF sub h (.ok (.nx δ) S) = .ok (.nx δ) S := id rfl
@[simp] theorem catchF_rt (sub : String → Option Bool) (h : String → Store → Out Fl) (d : D) (S : Store) : catchF sub h (.ok (.rt d) S) = .ok (.rt d) S := id rfl
@[simp] theorem catchF_bad (sub : String → Option Bool) (h : String → Store → Out Fl) : catchF sub h .bad = .bad := id rfl
theorem catchF_yes {sub : String → Option Bool} {h : String → Store → Out Fl} {x : String} {δ : DEnv} {S : Store} (e : sub x = some true) : catchF sub h (.ok (.ex x δ) S) = h x S := by
  show (match sub x with | some true => h x S | some false => .ok (.ex x δ) S | none => .bad) = _
  rw [e]
def liftW (S : Store) : Option (List Nat) → Out Fl
  | some w => .ok (.rt (.str w)) S
  | none => .bad
/-- more turns than any loop takes -/
def manyT : Nat := 1000000000000

mutual
def evS (G : Dn) : St → DEnv → Store → Out Fl
  | .set i e, δ, S => exS δ (ev G e δ S) fun d S1 => .ok (.nx (δ.set i (some d))) S1
  | .seti i j e, δ, S => exS δ (ev G e δ S) fun v S1 => (liftO S1 ((getD δ i).bind D.asO)).bind fun n S1 => exS δ (ev G j δ S1) fun y S2 => (setiF n y v S2).bind fun _ S3 => .ok (.nx δ) S3
  | .setd i j e, δ, S => exS δ (ev G e δ S) fun v S1 => (liftO S1 ((getD δ i).bind D.asDO)).bind fun n S1 => exS δ (ev G j δ S1) fun y S2 => (setdF n y v S2).bind fun _ S3 => .ok (.nx δ) S3
  | .unp t e, δ, S => exS δ (ev G e δ S) fun d S1 => (liftO S1 (tset t d δ)).bind fun δ' S1 => .ok (.nx δ') S1
  | .par2 i j a b, δ, S => exS δ (ev G a δ S) fun x S1 => exS δ (ev G b δ S1) fun y S2 => .ok (.nx ((δ.set i (some x)).set j (some y))) S2
  | .par3 i j k a b c, δ, S => exS δ (ev G a δ S) fun x S1 => exS δ (ev G b δ S1) fun y S2 => exS δ (ev G c δ S2) fun z S3 => .ok (.nx (((δ.set i (some x)).set j (some y)).set k (some z))) S3
  | .aug i o e, δ, S => (liftO S (getD δ i)).bind fun x S => exS δ (ev G e δ S) fun y S1 => (liftO S1 (augF o x y S1)).bind fun z S2 => .ok (.nx (δ.set i (some z))) S2
  | .exp e, δ, S => exS δ (ev G e δ S) fun _ S1 => .ok (.nx δ) S1
  | .ret e, δ, S => exS δ (ev G e δ S) fun d S1 => .ok (.rt d) S1
  | .iff c a b, δ, S => exS δ (tst G c δ S) fun t S1 => if t then evSs G a δ S1 else evSs G b δ S1
  | .forr t it b, δ, S => exS δ (evI G it δ S) fun src S1 => match src with
    | .st ds => forL (fun x δ S => (liftO S (tset t x δ)).bind fun δ' S => evSs G b δ' S) ds δ S1
    | .lv n => forV n (fun x δ S => (liftO S (tset t x δ)).bind fun δ' S => evSs G b δ' S) manyT 0 δ S1
  | .whl c b, δ, S => whileF (fun δ S => tst G c δ S) (fun δ S => evSs G b δ S) manyT δ S
  | .raise c, δ, S => .ok (.ex c δ) S
  | .tryW b _ c, δ, S => catchF (fun x => G.xd.sub x c) (fun x S => liftW S (G.xd.word x)) (evSs G b δ S)
  | .tryC b c d, δ, S => catchF (fun x => G.xd.sub x c) (fun _ S => .ok (.rt d) S) (evSs G b δ S)
  | .pass, δ, S => .ok (.nx δ) S
  | .brk, δ, S => .ok (.bk δ) S
  | .cnt, δ, S => .ok (.ct δ) S
def evSs (G : Dn) : Sts → DEnv → Store → Out Fl
  | .nil, δ, S => .ok (.nx δ) S
  | .cons s ss, δ, S => thenF (evS G s δ S) fun δ1 S1 => evSs G ss δ1 S1
end
end PD

set_option Elab.async false
set_option linter.all false
set_option maxRecDepth 100000
namespace PD
open PySem PySem.Spec PyProof.Rows L2

section
variable {X : Cx} {e : Expr}
theorem PE.of {t t' : TE} (h : PE X e t') (i : ∀ σ H Q, t σ H Q → t' σ H Q) : PE X e t := ⟨fun pins s σ H Q I q => h.run pins s σ H Q I (i _ _ _ q)⟩
theorem PT.of {t t' : TT} (h : PT X e t') (i : ∀ σ H Q, t σ H Q → t' σ H Q) : PT X e t := ⟨fun pins s σ H Q I q => h.run pins s σ H Q I (i _ _ _ q)⟩
theorem PW.of {t t' : TT} (h : PW X e t') (i : ∀ σ H Q, t σ H Q → t' σ H Q) : PW X e t := ⟨fun w pins s σ H Q I q => h.run w pins s σ H Q I (i _ _ _ q)⟩
theorem PA.of {es : List Expr} {t t' : TA} (h : PA X es t') (i : ∀ σ H Q, t σ H Q → t' σ H Q) : PA X es t := ⟨fun p pins s σ H Q I q => h.run p pins s σ H Q I (i _ _ _ q)⟩
theorem PO.of {es : Option Expr} {t t' : TO} (h : PO X es t') (i : ∀ σ H Q, t σ H Q → t' σ H Q) : PO X es t := ⟨fun pins s σ H Q I q => h.run pins s σ H Q I (i _ _ _ q)⟩
end

section
variable {W : Wd} {Wx : WX} {σ : L2.St} {ρ : Rn} {S : Store} {N : Nat} {H : Hp} {α β γ ε : Type} {rel : Rl α β} {rel' : Rl γ ε} {δ : DEnv}
/-- a first part, then the rest -/
theorem rdg.next {f : DEnv → Store → Out α} {g : α → Store → Out γ} {Q : ε → Hp → Prop} {Q' : β → Hp → Prop} (s : RepS W ρ S H) (e : RepE W.K ρ S.length H δ σ) (h : Cont W Wx σ rel' ((f δ S).bind g) ρ S.length H Q)
    (k : ∀ b H1 a S1 ρ1, Ext ρ S.length H ρ1 S1.length H1 → RepS W ρ1 S1 H1 → RepE W.K ρ1 S1.length H1 δ σ → rel ρ1 S1.length H1 a b → Cont W Wx σ rel' (g a S1) ρ1 S1.length H1 Q → Q' b H1) : rdg W Wx rel f σ H Q' :=
  ⟨δ, S, ρ, s, e, (Run.bind h).imp fun a S1 ρ1 H1 ⟨e1, s1, h1⟩ b hb => k b H1 a S1 ρ1 e1 s1 (e.mono e1) hb h1⟩
theorem Cont.from {r : Out α} {Q : β → Hp → Prop} {ρ' : Rn} {N' : Nat} {H' : Hp} (h : Cont W Wx σ rel r ρ N H Q) (e : Ext ρ N H ρ' N' H') : Cont W Wx σ rel r ρ' N' H' Q := Run.from h e
theorem Cont.oO {o : Option α} {g : α → Store → Out γ} {Q : ε → Hp → Prop} (h : Cont W Wx σ rel' ((liftO S o).bind g) ρ S.length H Q) : ∃ a, o = some a ∧ Cont W Wx σ rel' (g a S) ρ S.length H Q := by
  cases o with
  | none => exact h.elim
  | some a => exact ⟨a, rfl, h⟩
theorem Cont.oB {o : Option Bool} {g : Bool → Store → Out γ} {Q : ε → Hp → Prop} (h : Cont W Wx σ rel' ((liftB S o).bind g) ρ S.length H Q) : ∃ a, o = some a ∧ Cont W Wx σ rel' (g a S) ρ S.length H Q := by
  cases o with
  | none => exact h.elim
  | some a => exact ⟨a, rfl, h⟩
theorem Cont.oD {o : Option D} {g : D → Store → Out γ} {Q : ε → Hp → Prop} (h : Cont W Wx σ rel' ((lift S o).bind g) ρ S.length H Q) : ∃ a, o = some a ∧ Cont W Wx σ rel' (g a S) ρ S.length H Q := by
  cases o with
  | none => exact h.elim
  | some a => exact ⟨a, rfl, h⟩
theorem Cont.oK {o : Option D} {Q : V → Hp → Prop} (h : Cont W Wx σ (relD W) (lift S o) ρ S.length H Q) : ∃ d, o = some d ∧ OkTo W ρ S H d Q := by
  cases o with
  | none => exact h.elim
  | some d => exact ⟨d, rfl, fun H' z e s r => h ρ H' e s z r⟩
theorem Cont.oT {o : Option Bool} {Q : Bool → Hp → Prop} (h : Cont W Wx σ relI (liftB S o) ρ S.length H Q) : ∃ k, o = some k ∧ ∀ H', Ext ρ S.length H ρ S.length H' → RepS W ρ S H' → Q k H' := by
  cases o with
  | none => exact h.elim
  | some d => exact ⟨d, rfl, fun H' e s => h ρ H' e s d rfl⟩
theorem Cont.ok {a : α} {S' : Store} {Q : β → Hp → Prop} (h : Cont W Wx σ rel (.ok a S') ρ N H Q) {ρ' : Rn} {H' : Hp} (e : Ext ρ N H ρ' S'.length H') (s : RepS W ρ' S' H') {b : β} (r : rel ρ' S'.length H' a b) : Q b H' := h ρ' H' e s b r
end

section
variable {X : Cx} {W : Wd} {Wx : WX} {f g k : DEnv → Store → Out D} {a b c e : Expr} {pos : Pos}
theorem g_bin {op : Operator} {o : Op2} (ho : OpR X (binaryOp op) (rP W o)) (ha : PE X a (tD W Wx f)) (hb : PE X b (tD W Wx g)) :
    PE X (.BinOp a op b pos) (tD W Wx fun δ S => (f δ S).bind fun x S1 => (g δ S1).bind fun y S2 => lift S2 (o x y S2)) := by
  refine PE.of (pe_op ho ha hb) fun σ H Q ⟨δ, S, ρ, s, E, h⟩ => ?_
  refine rdg.next s E h fun x H1 dx S1 ρ1 e1 s1 E1 r1 h1 => rdg.next s1 E1 h1 fun y H2 dy S2 ρ2 e2 s2 E2 r2 h2 => ?_
  obtain ⟨d, ed, q⟩ := Cont.oK h2
  exact ⟨dx, dy, ρ2, S2, d, s2, RepV.mono e2 r1, r2, ed, q⟩
theorem g_join (hK : X.K = W.K) {apos jpos : Pos} (ho : PE X a (tD W Wx f)) (he : PE X b (tD W Wx g)) (hs : starEach [b] X.env = [(false, eval b X.env)]) (hbase : attributeBase a "join" X.env (eval a X.env) = eval a X.env) (hline : (apos.endLine == jpos.line) = true) :
    PE X (.Call (.Attribute a "join" apos) [b] [] jpos) (tD W Wx fun δ S => (f δ S).bind fun x S1 => (liftO S1 x.asS).bind fun a S1 => (g δ S1).bind fun y S2 => lift S2 (dJoin a y S2)) := by
  refine PE.of (pe_join ho he hs hbase hline) fun σ H Q ⟨δ, S, ρ, s, E, h⟩ => ?_
  refine rdg.next s E h fun x H1 dx S1 ρ1 e1 s1 E1 r1 h1 => ?_
  obtain ⟨t, et, h2⟩ := Cont.oO h1
  cases dx <;> try (cases et; done)
  cases et
  cases r1 with
  | str _ hz =>
    refine ⟨⟨_, rfl⟩, rdg.next s1 E1 h2 fun y H2 dy S2 ρ2 e2 s2 E2 r2 h3 => ?_⟩
    obtain ⟨d, ed, q⟩ := Cont.oK h3
    unfold dJoin at ed
    obtain ⟨ys, h4, h5⟩ := Option.bind_eq_some_iff.mp ed
    obtain ⟨ds, h6, h7⟩ := Option.bind_eq_some_iff.mp h4
    split at h5
    · rename_i hc
      cases h5
      obtain ⟨p, vs, rfl, hq, hr⟩ := seq_rep s2 r2 h6
      rw [strsOf_eq h7] at hr
      obtain ⟨rfl, hall⟩ := strs_rep hr
      rw [← hK] at hq
      refine ⟨_, p, _, rfl, rfl, hq, ?_, ?_⟩
      · have := hc.1
        simpa [Function.comp_def, Str.length] using this
      · have e := SX.join_S t ys
        have e' : Txt.join ⟨t.toArray⟩ (ys.map fun s => (⟨s.toArray⟩ : Str)) = ⟨(TL.joinL t ys).toArray⟩ := e
        rw [e']
        exact q.here s2 (.str _ ⟨hc.2, joinL_all hz.2 hall⟩)
    · cases h5
theorem sIndex_eq {a b : List Nat} {n : Nat} (h : sIndex a b = some n) : ∃ rest, Builtin.Str.occurrences ⟨a.toArray⟩ ⟨b.toArray⟩ 0 (⟨a.toArray⟩ : Str).length 1 = n :: rest := by
  unfold sIndex at h
  have e : (⟨a.toArray⟩ : Str).length = a.length := by simp [Str.length]
  rw [e]
  split at h
  · rename_i i r q; cases h; exact ⟨r, q⟩
  · cases h
theorem met1_to {m : Met1} (hm : m ≠ .index) {gv : Str → Str → V} (hg : ∀ (a b : List Nat) (ρ : Rn) (N : Nat) (H : Hp), RepV W.K ρ N H (met1V m a b) (gv ⟨a.toArray⟩ ⟨b.toArray⟩)) {σ : L2.St} {H : Hp} {Q : VK}
    (h : tD W Wx (fun δ S => (f δ S).bind fun x S1 => (liftO S1 x.asS).bind fun a S1 => (g δ S1).bind fun y S2 => lift S2 (dMet1 m a y)) σ H Q) : tM1 (fun x xs H Q => ∃ a b, x = .str a ∧ xs = [.str b] ∧ Q (gv a b) H) (tD W Wx f) (tD W Wx g) σ H Q := by
  obtain ⟨δ, S, ρ, s, E, h⟩ := h
  refine rdg.next s E h fun x H1 dx S1 ρ1 e1 s1 E1 r1 h1 => ?_
  obtain ⟨t, et, h2⟩ := Cont.oO h1
  cases dx <;> try (cases et; done)
  cases et
  cases r1 with
  | str _ hz =>
    refine ⟨⟨_, rfl⟩, rdg.next s1 E1 h2 fun y H2 dy S2 ρ2 e2 s2 E2 r2 h3 => ?_⟩
    obtain ⟨d, ed, q⟩ := Cont.oK h3
    cases dy <;> try (cases ed; done)
    simp only [dMet1, if_neg hm] at ed
    cases ed
    cases r2 with
    | str _ hz2 => exact ⟨_, _, rfl, rfl, q.here s2 (hg _ _ _ _ _)⟩
theorem met1_ix {σ : L2.St} {H : Hp} {Q : VK}
    (h : tD W Wx (fun δ S => (f δ S).bind fun x S1 => (liftO S1 x.asS).bind fun a S1 => (g δ S1).bind fun y S2 => lift S2 (dMet1 .index a y)) σ H Q) : tM1 (fun x xs H Q => ∃ a b i rest, x = .str a ∧ xs = [.str b] ∧ Builtin.Str.occurrences a b 0 a.length 1 = i :: rest ∧ Q (.int (i : Nat)) H) (tD W Wx f) (tD W Wx g) σ H Q := by
  obtain ⟨δ, S, ρ, s, E, h⟩ := h
  refine rdg.next s E h fun x H1 dx S1 ρ1 e1 s1 E1 r1 h1 => ?_
  obtain ⟨t, et, h2⟩ := Cont.oO h1
  cases dx <;> try (cases et; done)
  cases et
  cases r1 with
  | str _ hz =>
    refine ⟨⟨_, rfl⟩, rdg.next s1 E1 h2 fun y H2 dy S2 ρ2 e2 s2 E2 r2 h3 => ?_⟩
    obtain ⟨d, ed, q⟩ := Cont.oK h3
    cases dy <;> try (cases ed; done)
    simp only [dMet1, if_true, Option.map_eq_some_iff] at ed
    obtain ⟨n, hn, rfl⟩ := ed
    obtain ⟨rest, hr⟩ := sIndex_eq hn
    cases r2 with
    | str _ hz2 => exact ⟨_, _, n, rest, rfl, rfl, hr, q.here s2 (.int _)⟩
theorem strOk_rep {x : Str} {d : D} {ρ : Rn} {N : Nat} {H : Hp} {K : PySem.W.Frag} (h : strOk x = some d) : RepV K ρ N H d (.str x) := by
  unfold strOk at h
  split at h
  · rename_i hz
    cases h
    have := RepV.str (K := K) (ρ := ρ) (N := N) (H := H) x.cps.toList hz
    have e : (⟨x.cps.toList.toArray⟩ : Str) = x := by cases x; simp
    rw [e] at this; exact this
  · cases h
theorem strsOk_rep {ρ : Rn} {N : Nat} {H : Hp} {K : PySem.W.Frag} : ∀ {xs : List Str} {ds : List D}, strsOk xs = some ds → RepVs K ρ N H ds (xs.map V.str)
  | [], _, h => by cases h; exact .nil
  | x :: xs, _, h => by
    simp only [strsOk, Option.bind_eq_some_iff, Option.map_eq_some_iff] at h
    obtain ⟨d, h1, r, h2, rfl⟩ := h
    exact .cons (strOk_rep h1) (strsOk_rep h2)
theorem met0_to {m : Met0} {r : V → List V → Hp → VK → Prop} (hg : ∀ (a : List Nat) (d : D), dMet0 m a = some d → ∃ v, (∀ ρ N H, RepV W.K ρ N H d v) ∧ ∀ H Q, Q v H → (a.length ≤ sizeLine) → r (.str ⟨a.toArray⟩) [] H Q) {σ : L2.St} {H : Hp} {Q : VK}
    (h : tD W Wx (fun δ S => (f δ S).bind fun x S1 => (liftO S1 x.asS).bind fun a S1 => lift S1 (dMet0 m a)) σ H Q) : tM0 r (tD W Wx f) σ H Q := by
  obtain ⟨δ, S, ρ, s, E, h⟩ := h
  refine rdg.next s E h fun x H1 dx S1 ρ1 e1 s1 E1 r1 h1 => ?_
  obtain ⟨t, et, h2⟩ := Cont.oO h1
  cases dx <;> try (cases et; done)
  cases et
  cases r1 with
  | str _ hz =>
    obtain ⟨d, ed, q⟩ := Cont.oK h2
    obtain ⟨v, h3, h4⟩ := hg _ _ ed
    exact ⟨⟨_, rfl⟩, h4 _ _ (q.here s1 (h3 _ _ _)) hz.1⟩
theorem len_arr (a : List Nat) : (⟨a.toArray⟩ : Str).length = a.length := by simp [Str.length]
theorem g_met0 {m : Met0} {apos jpos : Pos} (ho : PE X a (tD W Wx f)) (hbase : attributeBase a (met0N m) X.env (eval a X.env) = eval a X.env) (hline : (apos.endLine == jpos.line) = true) :
    PE X (.Call (.Attribute a (met0N m) apos) [] [] jpos) (tD W Wx fun δ S => (f δ S).bind fun x S1 => (liftO S1 x.asS).bind fun a S1 => lift S1 (dMet0 m a)) := by
  cases m with
  | lower =>
    refine PE.of (pe_m0 F.slot_str_lower F.type_str_lower mt_lower ho hbase hline) fun σ H Q h => met0_to (fun a d e => ?_) h
    change (if a.length ≤ 5592405 then strOk (Txt.lower ⟨a.toArray⟩) else none) = some d at e
    split at e
    · rename_i hz; exact ⟨_, fun _ _ _ => strOk_rep e, fun H Q q _ => ⟨_, rfl, rfl, by rw [len_arr]; exact hz, q⟩⟩
    · cases e
  | upper =>
    refine PE.of (pe_m0 F.slot_str_upper F.type_str_upper mt_upper ho hbase hline) fun σ H Q h => met0_to (fun a d e => ?_) h
    change (if a.length ≤ 5592405 then strOk (Txt.upper ⟨a.toArray⟩) else none) = some d at e
    split at e
    · rename_i hz; exact ⟨_, fun _ _ _ => strOk_rep e, fun H Q q _ => ⟨_, rfl, rfl, by rw [len_arr]; exact hz, q⟩⟩
    · cases e
  | strip => exact PE.of (pe_m0 F.slot_str_strip F.type_str_strip mt_strip ho hbase hline) fun σ H Q h => met0_to (m := .strip) (fun a d e => ⟨_, fun _ _ _ => strOk_rep (show strOk (Txt.strip ⟨a.toArray⟩) = some d from e), fun H Q q hz => ⟨_, rfl, rfl, by rw [len_arr]; exact hz, q⟩⟩) h
  | isalpha => exact PE.of (pe_m0 F.slot_str_isalpha F.type_str_isalpha mt_isalpha ho hbase hline) fun σ H Q h => met0_to (fun a d e => by cases e; exact ⟨_, fun _ _ _ => .bl _, fun H Q q _ => ⟨_, rfl, rfl, trivial, q⟩⟩) h
  | isdigit => exact PE.of (pe_m0 F.slot_str_isdigit F.type_str_isdigit mt_isdigit ho hbase hline) fun σ H Q h => met0_to (fun a d e => by cases e; exact ⟨_, fun _ _ _ => .bl _, fun H Q q _ => ⟨_, rfl, rfl, trivial, q⟩⟩) h
  | isalnum => exact PE.of (pe_m0 F.slot_str_isalnum F.type_str_isalnum mt_isalnum ho hbase hline) fun σ H Q h => met0_to (fun a d e => by cases e; exact ⟨_, fun _ _ _ => .bl _, fun H Q q _ => ⟨_, rfl, rfl, trivial, q⟩⟩) h
  | isspace => exact PE.of (pe_m0 F.slot_str_isspace F.type_str_isspace mt_isspace ho hbase hline) fun σ H Q h => met0_to (fun a d e => by cases e; exact ⟨_, fun _ _ _ => .bl _, fun H Q q _ => ⟨_, rfl, rfl, trivial, q⟩⟩) h
theorem g_met1 {m : Met1} {apos jpos : Pos} (ho : PE X a (tD W Wx f)) (he : PE X b (tD W Wx g)) (hs : starEach [b] X.env = [(false, eval b X.env)]) (hbase : attributeBase a (met1N m) X.env (eval a X.env) = eval a X.env) (hline : (apos.endLine == jpos.line) = true) :
    PE X (.Call (.Attribute a (met1N m) apos) [b] [] jpos) (tD W Wx fun δ S => (f δ S).bind fun x S1 => (liftO S1 x.asS).bind fun a S1 => (g δ S1).bind fun y S2 => lift S2 (dMet1 m a y)) := by
  cases m with
  | find => exact PE.of (pe_m1 F.slot_str_find F.type_str_find mt_find ho he hs hbase hline) fun σ H Q h => met1_to (by decide) (gv := fun a b => .int (Txt.find a b)) (fun a b ρ N H => .int _) h
  | count => exact PE.of (pe_m1 F.slot_str_count F.type_str_count mt_count ho he hs hbase hline) fun σ H Q h => met1_to (by decide) (gv := fun a b => .int (Txt.count a b)) (fun a b ρ N H => .int _) h
  | startswith => exact PE.of (pe_m1 F.slot_str_startswith F.type_str_startswith mt_startswith ho he hs hbase hline) fun σ H Q h => met1_to (by decide) (gv := fun a b => .bl (Txt.startswith a b)) (fun a b ρ N H => .bl _) h
  | endswith => exact PE.of (pe_m1 F.slot_str_endswith F.type_str_endswith mt_endswith ho he hs hbase hline) fun σ H Q h => met1_to (by decide) (gv := fun a b => .bl (Txt.endswith a b)) (fun a b ρ N H => .bl _) h
  | index => exact PE.of (pe_m1 F.slot_str_index F.type_str_index mt_sindex ho he hs hbase hline) fun σ H Q h => met1_ix h
theorem g_find3 {c : Expr} {k : DEnv → Store → Out D} {apos jpos : Pos} (ho : PE X a (tD W Wx f)) (he : PE X b (tD W Wx g)) (hc : PE X c (tD W Wx k)) (hs : starEach [b, c] X.env = [(false, eval b X.env), (false, eval c X.env)]) (hbase : attributeBase a "find" X.env (eval a X.env) = eval a X.env) (hline : (apos.endLine == jpos.line) = true) :
    PE X (.Call (.Attribute a "find" apos) [b, c] [] jpos) (tD W Wx fun δ S => (f δ S).bind fun x S1 => (liftO S1 x.asS).bind fun a S1 => (g δ S1).bind fun y S2 => (k δ S2).bind fun z S3 => lift S3 (dFind3 a y z)) := by
  refine ⟨fun pins s σ H Q I ⟨δ, S, ρ, s0, E, h⟩ => ?_⟩
  refine PySem.Call_method2 hbase hs hline (thn (ho.run pins s σ H _ I (rdg.next (Q' := fun x H1 => (∃ a, x = .str a) ∧ tD W Wx g σ H1 fun y H2 => tD W Wx k σ H2 fun z H3 => ∃ (a b : Str) (i : Int), x = .str a ∧ [y, z] = [.str b, .int i] ∧ Q (.int (Txt.find3 a b i)) H3) s0 E h fun x H1 dx S1 ρ1 e1 s1 E1 r1 h1 => ?_)) fun v s1 ⟨x, H1, I1, r1, q1⟩ => ?_)
  · obtain ⟨t, et, h2⟩ := Cont.oO h1
    cases dx <;> try (cases et; done)
    cases et
    cases r1 with
    | str _ hz =>
      refine ⟨⟨_, rfl⟩, rdg.next s1 E1 h2 fun y H2 dy S2 ρ2 e2 s2 E2 r2 h3 => rdg.next s2 E2 h3 fun z H3 dz S3 ρ3 e3 s3 E3 r3 h4 => ?_⟩
      obtain ⟨d, ed, q⟩ := Cont.oK h4
      cases dy <;> cases dz <;> try (cases ed; done)
      cases ed
      cases r3
      cases r2 with
      | str _ hz2 => exact ⟨_, _, _, rfl, rfl, q.here s3 (.int _)⟩
  · obtain ⟨⟨a, rfl⟩, q1⟩ := q1
    obtain ⟨t, rfl⟩ := _root_.id r1
    refine ⟨"str", _, F.plainAttrs_str, F.slot_str_find, F.type_str_find, typeIs_str _ _ _, (fun _ e => nomatch e), Calls.callWith_builtin rfl (Calls.evalArgs_plain (Calls.spliced_cons ?_))⟩
    exact thn (he.run pins s1 σ H1 _ I1 q1) fun u s2 ⟨y, H2, I2, r2, q2⟩ => Calls.spliced_cons (thn (hc.run pins s2 σ H2 _ I2 q2) fun u2 s3 ⟨z, H3, I3, r3, q3⟩ => Calls.spliced_nil (mt_find3 pins s3 σ H3 _ [y, z] _ [u, u2] Q I3 r1 (.cons r2 (.cons r3 .nil)) q3))
theorem sub_tok {M : Model} {A : Around} {env : Env} {s : Shared} {Q : Value → Shared → Prop} {E : Value → Shared → Prop} {x : Str} {k : Nat} {p pos : Pos} {b : Expr} (h : wpAny M A (eval (.Subscript (.Constant (.str x) k p) b pos) env) Q E s) :
    wpAny M A (eval (.Subscript (.Constant (.str x) k p) b pos) env) (fun v s' => 1 ≤ s'.toks ∧ Q v s') (fun e s' => 1 ≤ s'.toks ∧ E e s') s := by
  intro Γ pp hΓ
  have h1 := h Γ pp hΓ
  exact Sem.wp_toks M Γ 1 _ _ _ pp { s with toks := s.toks + 1 } (by show 1 ≤ s.toks + 1; omega) h1
theorem g_repl {w0 : Str} {k0 j k : Nat} {p0 q0 apos jpos c0 c1 : Pos} {y z : List Nat} (ho : PE X (.Subscript (.Constant (.str w0) k0 p0) b q0) (tD W Wx f)) (hyz : ((⟨y.toArray⟩ : Str) == ⟨z.toArray⟩) = false)
    (hst : starEach [.Constant (.str ⟨y.toArray⟩) j c0, .Constant (.str ⟨z.toArray⟩) k c1] X.env = [(false, eval (.Constant (.str ⟨y.toArray⟩) j c0) X.env), (false, eval (.Constant (.str ⟨z.toArray⟩) k c1) X.env)] := by rfl)
    (hbase : attributeBase (.Subscript (.Constant (.str w0) k0 p0) b q0) "replace" X.env (eval (.Subscript (.Constant (.str w0) k0 p0) b q0) X.env) = eval (.Subscript (.Constant (.str w0) k0 p0) b q0) X.env := by rfl) (hline : (apos.endLine == jpos.line) = true) :
    PE X (.Call (.Attribute (.Subscript (.Constant (.str w0) k0 p0) b q0) "replace" apos) [.Constant (.str ⟨y.toArray⟩) j c0, .Constant (.str ⟨z.toArray⟩) k c1] [] jpos) (tD W Wx fun δ S => (f δ S).bind fun x S1 => (liftO S1 x.asS).bind fun a S1 => lift S1 (dRepl y z a)) := by
  refine ⟨fun pins s σ H Q I ⟨δ, S, ρ, s0, E, h⟩ => ?_⟩
  refine PySem.Call_method2 hbase hst hline (wpAny_mono (sub_tok (ho.run pins s σ H (fun x H1 => ∃ a : List Nat, x = .str ⟨a.toArray⟩ ∧ a.length + (a.length + 1) * z.length ≤ 16777216 ∧ Q (.str (Txt.replace ⟨a.toArray⟩ ⟨y.toArray⟩ ⟨z.toArray⟩)) H1) I (rdg.next s0 E h fun x H1 dx S1 ρ1 e1 s1 E1 r1 h1 => ?_))) (fun v s1 q => ?_) fun _ _ z => z.2)
  · obtain ⟨t, et, h2⟩ := Cont.oO h1
    cases dx <;> try (cases et; done)
    cases et
    cases r1 with
    | str _ hz =>
      obtain ⟨d, ed, q⟩ := Cont.oK h2
      unfold dRepl at ed
      split at ed
      · rename_i hc
        cases ed
        refine ⟨_, rfl, hc.1, ?_⟩
        have e : (Txt.replace ⟨t.toArray⟩ ⟨y.toArray⟩ ⟨z.toArray⟩ : Str) = ⟨(replD y z t).toArray⟩ := by unfold replD; simp
        rw [e]
        exact q.here s1 (.str _ hc.2)
      · cases ed
  · obtain ⟨hk, v', H1, I1, r1, a, e1, hb, q⟩ := q
    subst e1
    obtain ⟨tx, e2⟩ := r1
    subst e2
    refine ⟨"str", _, PySem.F.plainAttrs_str, PySem.F.slot_str_replace, PySem.F.type_str_replace, typeIs_str _ _ _, (fun _ e => nomatch e), Calls.callWith_builtin rfl (Calls.evalArgs_plain (Calls.spliced_cons ?_))⟩
    refine Calls.Constant_str (Calls.spliced_cons (Calls.Constant_str (Calls.spliced_nil ?_)))
    exact PySem.SC.replace (by show s1.toks ≠ 0; omega) (by show s1.toks + 1 ≠ 0; omega) (by show s1.toks ≠ s1.toks + 1; omega) hyz hb fun t' k => ⟨.str (Txt.replace ⟨a.toArray⟩ ⟨y.toArray⟩ ⟨z.toArray⟩), H1, I1.tok k, ⟨t', rfl⟩, q⟩
theorem g_ix (hr : IxR X (rP W dIdx)) (ha : PE X a (tD W Wx f)) (hb : PE X b (tD W Wx g)) (hs : PlainIx b) :
    PE X (.Subscript a b pos) (tD W Wx fun δ S => (f δ S).bind fun x S1 => (g δ S1).bind fun y S2 => lift S2 (dIdx x y S2)) := by
  refine PE.of (pe_ix hr ha hb hs) fun σ H Q ⟨δ, S, ρ, s, E, h⟩ => ?_
  refine rdg.next s E h fun x H1 dx S1 ρ1 e1 s1 E1 r1 h1 => rdg.next s1 E1 h1 fun y H2 dy S2 ρ2 e2 s2 E2 r2 h2 => ?_
  obtain ⟨d, ed, q⟩ := Cont.oK h2
  exact ⟨dx, dy, ρ2, S2, d, s2, RepV.mono e2 r1, r2, ed, q⟩
theorem g_cmp {op : CmpOp} {o : Op2} (ho : OpR X (compareOp op) (rP W o)) (ha : PE X a (tD W Wx f)) (hb : PE X b (tD W Wx g)) (hm : behindInMarks op b = false) :
    PE X (.Compare a [op] [b] pos) (tD W Wx fun δ S => (f δ S).bind fun x S1 => (g δ S1).bind fun y S2 => lift S2 (o x y S2)) := by
  refine PE.of (pe_cmpR ho ha hb hm) fun σ H Q ⟨δ, S, ρ, s, E, h⟩ => ?_
  refine rdg.next s E h fun x H1 dx S1 ρ1 e1 s1 E1 r1 h1 => rdg.next s1 E1 h1 fun y H2 dy S2 ρ2 e2 s2 E2 r2 h2 => ?_
  obtain ⟨d, ed, q⟩ := Cont.oK h2
  exact ⟨dx, dy, ρ2, S2, d, s2, RepV.mono e2 r1, r2, ed, q⟩
theorem asB_rep {ρ : Rn} {N : Nat} {H : Hp} {K : PySem.W.Frag} {d : D} {v : V} {b : Bool} (h : d.asB = some b) (r : RepV K ρ N H d v) : v = .bl b := by
  cases r <;> first | (cases h; done) | skip
  cases h; rfl
theorem g_cmpT {op : CmpOp} {o : Op2} (ho : OpR X (compareOp op) (rP W o)) (ha : PE X a (tD W Wx f)) (hb : PE X b (tD W Wx g)) (hm : behindInMarks op b = false) :
    PT X (.Compare a [op] [b] pos) (tT W Wx fun δ S => (f δ S).bind fun x S1 => (g δ S1).bind fun y S2 => (lift S2 (o x y S2)).bind fun z S3 => liftB S3 z.asB) := by
  refine PT.of (pt_cmpR ho ha hb hm) fun σ H Q ⟨δ, S, ρ, s, E, h⟩ => ?_
  refine rdg.next s E h fun x H1 dx S1 ρ1 e1 s1 E1 r1 h1 => rdg.next s1 E1 h1 fun y H2 dy S2 ρ2 e2 s2 E2 r2 h2 => ?_
  obtain ⟨d, ed, h3⟩ := Cont.oD h2
  obtain ⟨t, et, h4⟩ := Cont.oT h3
  exact ⟨dx, dy, ρ2, S2, d, s2, RepV.mono e2 r1, r2, ed, fun H' z e' s' r' => ⟨t, asB_rep et r', h4 H' e' s'⟩⟩
theorem chain_to {o o' : Op2} {σ : L2.St} {H : Hp} {Q : VK} (h : tD W Wx (fun δ S => (f δ S).bind fun x S1 => (g δ S1).bind fun y S2 => (lift S2 (o x y S2)).bind fun t S3 => (liftB S3 t.asB).bind fun t S3 => if t then (k δ S3).bind fun z S4 => lift S4 (o' y z S4) else .ok (.bl false) S3) σ H Q) :
    tChain (rP W o) (rP W o') (tD W Wx f) (tD W Wx g) (tD W Wx k) σ H Q := by
  obtain ⟨δ, S, ρ, s, E, h⟩ := h
  refine rdg.next s E h fun x H1 dx S1 ρ1 e1 s1 E1 r1 h1 => rdg.next s1 E1 h1 fun y H2 dy S2 ρ2 e2 s2 E2 r2 h2 => ?_
  obtain ⟨d, ed, h3⟩ := Cont.oD h2
  obtain ⟨t, et, h4⟩ := Cont.oB h3
  refine ⟨dx, dy, ρ2, S2, d, s2, RepV.mono e2 r1, r2, ed, fun H' z e' s' r' => ⟨t, asB_rep et r', ?_⟩⟩
  have h5 := Cont.from h4 e'
  cases t with
  | true =>
    refine rdg.next s' (E2.mono e') h5 fun w H3 dw S3 ρ3 e3 s3 E3 r3 h6 => ?_
    obtain ⟨d2, ed2, q⟩ := Cont.oK h6
    exact ⟨dy, dw, ρ3, S3, d2, s3, RepV.mono (e'.trans e3) r2, r3, ed2, q⟩
  | false => exact Cont.here h5 s' (.bl false)
theorem g_chn {op op' : CmpOp} {o o' : Op2} (ho : OpR X (compareOp op) (rP W o)) (ho' : OpR X (compareOp op') (rP W o')) (ha : PE X a (tD W Wx f)) (hb : PE X b (tD W Wx g)) (hc : PE X c (tD W Wx k)) (hm : lastMarks [op, op'] [b, c] = false) :
    PE X (.Compare a [op, op'] [b, c] pos) (tD W Wx (fun δ S => (f δ S).bind fun x S1 => (g δ S1).bind fun y S2 => (lift S2 (o x y S2)).bind fun t S3 => (liftB S3 t.asB).bind fun t S3 => if t then (k δ S3).bind fun z S4 => lift S4 (o' y z S4) else .ok (.bl false) S3)) :=
  PE.of (pe_chain ho ho' ha hb hc hm) fun σ H Q h => chain_to h
theorem Cont.asBQ {W : Wd} {Wx : WX} {σ : L2.St} {ρ : Rn} {N : Nat} {H : Hp} {r : Out D} {Q : Bool → Hp → Prop} (h : Cont W Wx σ relI (r.bind fun z S => liftB S z.asB) ρ N H Q) : Cont W Wx σ (relD W) r ρ N H (fun x H' => ∃ k, x = .bl k ∧ Q k H') :=
  (Run.bind h).imp fun d S1 ρ1 H1 ⟨e1, s1, h1⟩ v hv => by
    obtain ⟨t, et, h4⟩ := Cont.oT (show Cont W Wx σ relI (liftB S1 d.asB) ρ1 S1.length H1 Q from h1)
    exact ⟨t, asB_rep et hv, h4 H1 .refl s1⟩
theorem Out.bind_assoc {α β γ : Type} (r : Out α) (f : α → Store → Out β) (g : β → Store → Out γ) : (r.bind f).bind g = r.bind fun a S => (f a S).bind g := by cases r <;> rfl
theorem g_chnT {op op' : CmpOp} {o o' : Op2} (ho : OpR X (compareOp op) (rP W o)) (ho' : OpR X (compareOp op') (rP W o')) (ha : PE X a (tD W Wx f)) (hb : PE X b (tD W Wx g)) (hc : PE X c (tD W Wx k)) (hm : lastMarks [op, op'] [b, c] = false) :
    PT X (.Compare a [op, op'] [b, c] pos) (tT W Wx (fun δ S => (f δ S).bind fun x S1 => (g δ S1).bind fun y S2 => (lift S2 (o x y S2)).bind fun t S3 => (liftB S3 t.asB).bind fun t S3 => if t then (k δ S3).bind fun z S4 => (lift S4 (o' y z S4)).bind fun z S5 => liftB S5 z.asB else .ok false S3)) := by
  refine PT.of (pt_chain ho ho' ha hb hc hm) fun σ H Q ⟨δ, S, ρ, s, E, h⟩ => chain_to ⟨δ, S, ρ, s, E, Cont.asBQ ?_⟩
  have e : ∀ δ S, (((f δ S).bind fun x S1 => (g δ S1).bind fun y S2 => (lift S2 (o x y S2)).bind fun t S3 => (liftB S3 t.asB).bind fun t S3 => if t then (k δ S3).bind fun z S4 => lift S4 (o' y z S4) else .ok (.bl false) S3).bind fun z S => liftB S z.asB) =
      (f δ S).bind fun x S1 => (g δ S1).bind fun y S2 => (lift S2 (o x y S2)).bind fun t S3 => (liftB S3 t.asB).bind fun t S3 => if t then (k δ S3).bind fun z S4 => (lift S4 (o' y z S4)).bind fun z S5 => liftB S5 z.asB else .ok false S3 := by
    intro δ S
    simp only [Out.bind_assoc]
    congr 1; funext x S1; congr 1; funext y S2; congr 1; funext t S3; congr 1; funext t S4
    cases t <;> simp [Out.bind_assoc]
  rw [e]; exact h
theorem g_neg (ha : PE X a (tD W Wx f)) : PE X (.UnaryOp .USub a pos) (tD W Wx fun δ S => (f δ S).bind fun x S1 => lift S1 (negF x)) := by
  refine PE.of (pe_un un_neg ha) fun σ H Q ⟨δ, S, ρ, s, E, h⟩ => ?_
  refine rdg.next s E h fun x H1 dx S1 ρ1 e1 s1 E1 r1 h1 => ?_
  obtain ⟨d, ed, q⟩ := Cont.oK h1
  unfold negF at ed
  split at ed
  · cases ed; cases r1
    exact ⟨_, rfl, q.here s1 (.int _)⟩
  · cases ed
theorem g_notT {p : DEnv → Store → Out Bool} (ha : PT X a (tT W Wx p)) : PT X (.UnaryOp .Not a pos) (tT W Wx fun δ S => (p δ S).bind fun b S1 => .ok (!b) S1) := by
  refine PT.of (pt_not ha) fun σ H Q ⟨δ, S, ρ, s, E, h⟩ => ?_
  refine rdg.next s E h fun x H1 dx S1 ρ1 e1 s1 E1 r1 h1 => ?_
  subst r1
  exact Cont.here h1 s1 rfl
theorem g_andT {p q : DEnv → Store → Out Bool} {rest : List Expr} (ha : PT X a (tT W Wx p)) (hb : PW X (.BoolOp .And (b :: rest) pos) (tT W Wx q)) : PW X (.BoolOp .And (a :: b :: rest) pos) (tT W Wx fun δ S => (p δ S).bind fun t S1 => if t then q δ S1 else .ok false S1) := by
  refine PW.of (pw_and ha hb) fun σ H Q ⟨δ, S, ρ, s, E, h⟩ => ?_
  refine rdg.next s E h fun x H1 dx S1 ρ1 e1 s1 E1 r1 h1 => ?_
  subst r1
  cases dx with
  | true => exact ⟨δ, S1, ρ1, s1, E1, h1⟩
  | false => exact Cont.here h1 s1 rfl
theorem g_orT {p q : DEnv → Store → Out Bool} {rest : List Expr} (ha : PT X a (tT W Wx p)) (hb : PW X (.BoolOp .Or (b :: rest) pos) (tT W Wx q)) : PW X (.BoolOp .Or (a :: b :: rest) pos) (tT W Wx fun δ S => (p δ S).bind fun t S1 => if t then .ok true S1 else q δ S1) := by
  refine PW.of (pw_or ha hb) fun σ H Q ⟨δ, S, ρ, s, E, h⟩ => ?_
  refine rdg.next s E h fun x H1 dx S1 ρ1 e1 s1 E1 r1 h1 => ?_
  subst r1
  cases dx with
  | true => exact Cont.here h1 s1 rfl
  | false => exact ⟨δ, S1, ρ1, s1, E1, h1⟩
theorem g_and {rest : List Expr} (ha : PE X a (tD W Wx f)) (hb : PE X (.BoolOp .And (b :: rest) pos) (tD W Wx g)) : PE X (.BoolOp .And (a :: b :: rest) pos) (tD W Wx fun δ S => (f δ S).bind fun x S1 => (liftB S1 x.asB).bind fun t S2 => if t then g δ S2 else .ok (.bl false) S2) := by
  refine PE.of (pe_and ha hb) fun σ H Q ⟨δ, S, ρ, s, E, h⟩ => ?_
  refine rdg.next s E h fun x H1 dx S1 ρ1 e1 s1 E1 r1 h1 => ?_
  obtain ⟨t, et, h2⟩ := Cont.oB h1
  refine ⟨t, asB_rep et r1, ?_⟩
  cases t with
  | true => exact ⟨δ, S1, ρ1, s1, E1, h2⟩
  | false => exact Cont.here h2 s1 (.bl false)
theorem g_or {rest : List Expr} (ha : PE X a (tD W Wx f)) (hb : PE X (.BoolOp .Or (b :: rest) pos) (tD W Wx g)) : PE X (.BoolOp .Or (a :: b :: rest) pos) (tD W Wx fun δ S => (f δ S).bind fun x S1 => (liftB S1 x.asB).bind fun t S2 => if t then .ok (.bl true) S2 else g δ S2) := by
  refine PE.of (pe_or ha hb) fun σ H Q ⟨δ, S, ρ, s, E, h⟩ => ?_
  refine rdg.next s E h fun x H1 dx S1 ρ1 e1 s1 E1 r1 h1 => ?_
  obtain ⟨t, et, h2⟩ := Cont.oB h1
  refine ⟨t, asB_rep et r1, ?_⟩
  cases t with
  | true => exact Cont.here h2 s1 (.bl true)
  | false => exact ⟨δ, S1, ρ1, s1, E1, h2⟩
theorem g_ite {p : DEnv → Store → Out Bool} (hc : PT X c (tT W Wx p)) (ha : PE X a (tD W Wx f)) (hb : PE X b (tD W Wx g)) : PE X (.IfExp c a b pos) (tD W Wx fun δ S => (p δ S).bind fun t S1 => if t then f δ S1 else g δ S1) := by
  refine PE.of (pe_ifExp hc ha hb) fun σ H Q ⟨δ, S, ρ, s, E, h⟩ => ?_
  refine rdg.next s E h fun x H1 dx S1 ρ1 e1 s1 E1 r1 h1 => ?_
  subst r1
  cases dx with
  | true => exact ⟨δ, S1, ρ1, s1, E1, h1⟩
  | false => exact ⟨δ, S1, ρ1, s1, E1, h1⟩
theorem tru_rep {ρ : Rn} {S : Store} {H : Hp} {d : D} {v : V} {t : Bool} (s : RepS W ρ S H) (r : RepV W.K ρ S.length H d v) (h : d.tru S = some t) : TruV W.K v H t := by
  cases r with
  | non => cases h; rfl
  | bl b => cases h; rfl
  | int i =>
    cases h
    show decide (i ≠ 0) = (i != 0)
    by_cases z : i = 0 <;> simp [z]
  | dob => simp [D.tru, D.seq] at h
  | dic => simp [D.tru, D.seq] at h
  | st => simp [D.tru, D.seq] at h
  | str x hx =>
    cases h
    refine ⟨hx.1, ?_⟩
    cases x with
    | nil => rfl
    | cons c x =>
      show true = ((((c :: x).toArray.size : Nat) : Int) != 0)
      simp only [List.size_toArray, List.length_cons]
      symm
      simp only [bne_iff_ne, ne_eq]
      omega
  | tup h1 h2 =>
    cases h
    refine .inr (.inl ⟨_, h1, ?_⟩)
    cases h2 <;> rfl
  | lst h1 h2 h3 =>
    cases h
    refine .inl ⟨_, SqL.of h1, ?_⟩
    cases h3 <;> rfl
  | rol h1 h2 =>
    cases h
    refine .inl ⟨_, rol_sql h1, ?_⟩
    cases h2 <;> rfl
  | @obj n hn =>
    simp only [D.tru, D.seq, Option.map_eq_some_iff] at h
    obtain ⟨ds, hd, rfl⟩ := h
    split at hd
    · rename_i ds' hs
      cases hd
      obtain ⟨_, vs, h1, h2⟩ := s.list hs
      refine .inl ⟨vs, SqL.of h1, ?_⟩
      cases h2 <;> rfl
    · cases hd
theorem g_tru (hK : X.K = W.K) (ha : PE X a (tD W Wx f)) (he : ∀ whole, isTrue a X.env whole = (do let v ← whole; standAt a.pos; holding [v] (truthy v))) :
    PT X a (tT W Wx fun δ S => (f δ S).bind fun z S1 => liftB S1 (z.tru S1)) := by
  refine PT.of (pt_truth ha he) fun σ H Q ⟨δ, S, ρ, s, E, h⟩ => ?_
  refine rdg.next s E h fun x H1 dx S1 ρ1 e1 s1 E1 r1 h1 => ?_
  obtain ⟨t, et, h4⟩ := Cont.oT h1
  exact ⟨t, hK ▸ tru_rep s1 r1 et, h4 H1 .refl s1⟩

variable {es : List Expr} {l m : DEnv → Store → Out (List D)}
theorem g_nil : PA X [] (tA W Wx fun _ S => .ok [] S) := PA.of pa_nil fun σ H Q ⟨δ, S, ρ, s, E, h⟩ => Cont.here h s .nil
theorem g_cons (ha : PE X a (tD W Wx f)) (hr : PA X es (tA W Wx l)) (hs : starEach (a :: es) X.env = (false, eval a X.env) :: starEach es X.env) : PA X (a :: es) (tA W Wx fun δ S => (f δ S).bind fun x S1 => (l δ S1).bind fun xs S2 => .ok (x :: xs) S2) := by
  refine PA.of (pa_cons ha hr hs) fun σ H Q ⟨δ, S, ρ, s, E, h⟩ => ?_
  refine rdg.next s E h fun x H1 dx S1 ρ1 e1 s1 E1 r1 h1 => rdg.next s1 E1 h1 fun y H2 dy S2 ρ2 e2 s2 E2 r2 h2 => ?_
  exact Cont.here h2 s2 (.cons (RepV.mono e2 r1) r2)
theorem g_tup {x1} (h : PA X es (tA W Wx l)) : PE X (.Tuple es x1 pos) (tD W Wx fun δ S => (l δ S).bind fun ds S1 => if ds.length ≤ sizeLine then .ok (.tup ds) S1 else .bad) := by
  refine PE.of (pe_tup h) fun σ H Q ⟨δ, S, ρ, s, E, h⟩ => ?_
  refine rdg.next s E h fun x H1 dx S1 ρ1 e1 s1 E1 r1 h1 => ?_
  by_cases z : dx.length ≤ sizeLine
  · rw [if_pos z] at h1
    refine ⟨by rw [← RepVs.length r1]; exact z, fun p hp => ?_⟩
    exact OkTo.tup (fun H' z e s r => h1 _ H' e s z r) s1 r1 hp
  · rw [if_neg z] at h1; exact h1.elim
/-- a new list at p -/
theorem mkList_at {W : Wd} {Wx : WX} {σ : L2.St} {ρ : Rn} {S : Store} {H : Hp} {isO : Bool} {ds : List D} {vs : List V} {Q : VK} (h : Cont W Wx σ (relD W) (mkList isO ds S) ρ S.length H Q) (s : RepS W ρ S H) (r : RepVs W.K ρ S.length H ds vs) :
    vs.length ≤ sizeLine ∧ ∀ p, H p = none → Q (.ref p) (upd H p (.lst vs)) := by
  unfold mkList at h
  by_cases z : ds.length ≤ sizeLine
  · rw [if_pos z] at h
    refine ⟨by rw [← RepVs.length r]; exact z, fun p hp => ?_⟩
    cases isO with
    | false => exact OkTo.lst (fun H' z e s r => h _ H' e s z r) s r hp
    | true =>
      simp only [if_true] at h
      by_cases zp : ds.all D.pure = true
      · rw [if_pos zp] at h
        have hl : (S ++ [C.lst ds]).length = S.length + 1 := by simp
        have hc : RepC W.K (aux ρ S.length p) (S.length + 1) (upd H p (.lst vs)) p (.lst ds) := ⟨zp, vs, upd_same, r.mono (Ext.cell hp)⟩
        refine Cont.ok (ρ' := aux ρ S.length p) h (by rw [hl]; exact Ext.cell hp) (s.cell hp hc) ?_
        show RepV _ _ _ _ (.obj S.length) (.ref p)
        have := RepV.obj (K := W.K) (ρ := aux ρ S.length p) (H := upd H p (.lst vs)) (N := S.length + 1) (n := S.length) (Nat.lt_succ_self _) ⟨vs, by rw [aux_self]; exact upd_same⟩
        rw [aux_self] at this
        rw [hl]; exact this
      · rw [if_neg zp] at h; exact h.elim
  · rw [if_neg z] at h; exact h.elim
theorem g_lst {isO : Bool} (h : PA X es (tA W Wx l)) : PE X (.List es pos) (tD W Wx fun δ S => (l δ S).bind fun ds S1 => mkList isO ds S1) := by
  refine PE.of (pe_lst h) fun σ H Q ⟨δ, S, ρ, s, E, h⟩ => ?_
  refine rdg.next s E h fun x H1 dx S1 ρ1 e1 s1 E1 r1 h1 => mkList_at h1 s1 r1
theorem g_lrev {isO : Bool} {p p2 pos2 : Pos} (hK : X.K = W.K) (hc : X.calm = true) (hg : Gl X "list") (hm : X.mg "list" = none) (hg2 : Gl X "reversed") (hm2 : X.mg "reversed" = none) (he : PE X e (tD W Wx f))
    (hs : starEach [e] X.env = (false, eval e X.env) :: starEach [] X.env) :
    PE X (.Call (.Name "list" p) [.Call (.Name "reversed" p2) [e] [] pos2] [] pos) (tD W Wx fun δ S => (f δ S).bind fun x S1 => (liftO S1 (x.lseq S1)).bind fun ds S2 => mkList isO ds.reverse S2) := by
  refine PE.of (pe_lstRev hc hg hm hg2 hm2 he hs) fun σ H Q ⟨δ, S, ρ, s, E, h⟩ => ?_
  refine rdg.next s E h fun x H1 dx S1 ρ1 e1 s1 E1 r1 h1 => ?_
  obtain ⟨ds, ed, h2⟩ := Cont.oO h1
  obtain ⟨a, vs, rfl, hq, hr⟩ := lseq_rep s1 r1 ed
  refine ⟨a, vs, rfl, hK ▸ hq, ?_⟩
  have rr : ∀ {ds : List D} {vs : List V}, RepVs W.K ρ1 S1.length H1 ds vs → RepVs W.K ρ1 S1.length H1 ds.reverse vs.reverse := by
    intro ds vs r
    induction ds generalizing vs with
    | nil => cases r; exact .nil
    | cons d ds ih =>
      cases r with
      | cons r t =>
        rw [List.reverse_cons, List.reverse_cons]
        exact (ih t).append (.cons r .nil)
  exact fun q hq => (mkList_at h2 s1 (rr hr)).2 q hq
theorem g_revL {isO : Bool} {k : Nat} {p1 p2 p3 : Pos} (hK : X.K = W.K) (he : PE X e (tD W Wx f)) :
    PE X (.Subscript e (.Slice none none (some (.UnaryOp .USub (.Constant (.int 1) k p1) p2)) p3) pos) (tD W Wx fun δ S => (f δ S).bind fun x S1 => (liftO S1 (x.lseq S1)).bind fun ds S2 => mkList isO ds.reverse S2) := by
  refine PE.of (pe_revL he) fun σ H Q ⟨δ, S, ρ, s, E, h⟩ => ?_
  refine rdg.next s E h fun x H1 dx S1 ρ1 e1 s1 E1 r1 h1 => ?_
  obtain ⟨ds, ed, h2⟩ := Cont.oO h1
  obtain ⟨a, vs, rfl, hq, hr⟩ := lseq_rep s1 r1 ed
  refine ⟨a, vs, rfl, hK ▸ hq, ?_⟩
  have rr : ∀ {ds : List D} {vs : List V}, RepVs W.K ρ1 S1.length H1 ds vs → RepVs W.K ρ1 S1.length H1 ds.reverse vs.reverse := by
    intro ds vs r
    induction ds generalizing vs with
    | nil => cases r; exact .nil
    | cons d ds ih =>
      cases r with
      | cons r t =>
        rw [List.reverse_cons, List.reverse_cons]
        exact (ih t).append (.cons r .nil)
  exact fun q hq => (mkList_at h2 s1 (rr hr)).2 q hq
theorem RepVs.rev {K : PySem.W.Frag} {ρ : Rn} {N : Nat} {H : Hp} {ds : List D} {vs : List V} (r : RepVs K ρ N H ds vs) : RepVs K ρ N H ds.reverse vs.reverse := by
  induction ds generalizing vs with
  | nil => cases r; exact .nil
  | cons d ds ih =>
    cases r with
    | cons r t =>
      rw [List.reverse_cons, List.reverse_cons]
      exact (ih t).append (.cons r .nil)
theorem g_revA {k : Nat} {p1 p2 p3 : Pos} (hK : X.K = W.K) (he : PE X e (tD W Wx f)) :
    PE X (.Subscript e (.Slice none none (some (.UnaryOp .USub (.Constant (.int 1) k p1) p2)) p3) pos) (tD W Wx fun δ S => (f δ S).bind fun x S1 => lift S1 (revF x S1)) := by
  refine PE.of (pe_revA he) fun σ H Q ⟨δ, S, ρ, s, E, h⟩ => ?_
  refine rdg.next s E h fun x H1 dx S1 ρ1 e1 s1 E1 r1 h1 => ?_
  obtain ⟨d, ed, q⟩ := Cont.oK h1
  unfold revF at ed
  split at ed
  · cases ed
    cases r1 with
    | tup q1 q2 => exact ⟨_, _, rfl, .inr ⟨hK ▸ q1, fun p hp => OkTo.tup q s1 (RepVs.rev q2) hp⟩⟩
  · rw [Option.map_eq_some_iff] at ed
    obtain ⟨ds, hds, rfl⟩ := ed
    obtain ⟨a, vs, rfl, hq, hr⟩ := lseq_rep s1 r1 hds
    exact ⟨a, vs, rfl, .inl ⟨hK ▸ hq, fun p hp => OkTo.lst q s1 (RepVs.rev hr) hp⟩⟩
theorem g_split {isO : Bool} {b : Expr} {apos jpos : Pos} (ho : PE X a (tD W Wx f)) (he : PE X b (tD W Wx g)) (hs : starEach [b] X.env = [(false, eval b X.env)]) (hbase : attributeBase a "split" X.env (eval a X.env) = eval a X.env) (hline : (apos.endLine == jpos.line) = true) :
    PE X (.Call (.Attribute a "split" apos) [b] [] jpos) (tD W Wx fun δ S => (f δ S).bind fun x S1 => (liftO S1 x.asS).bind fun a S1 => (g δ S1).bind fun y S2 => (liftO S2 (dSplit a y)).bind fun ds S2 => mkList isO ds S2) := by
  refine PE.of (pe_m1 F.slot_str_split F.type_str_split mt_split ho he hs hbase hline) fun σ H Q ⟨δ, S, ρ, s, E, h⟩ => ?_
  refine rdg.next s E h fun x H1 dx S1 ρ1 e1 s1 E1 r1 h1 => ?_
  obtain ⟨t, et, h2⟩ := Cont.oO h1
  cases dx <;> try (cases et; done)
  cases et
  cases r1 with
  | str _ hz =>
    refine ⟨⟨_, rfl⟩, rdg.next s1 E1 h2 fun y H2 dy S2 ρ2 e2 s2 E2 r2 h3 => ?_⟩
    obtain ⟨ds, ed, h4⟩ := Cont.oO h3
    cases dy <;> try (cases ed; done)
    simp only [dSplit] at ed
    split at ed
    · rename_i hc
      cases r2 with
      | str _ hz2 => exact ⟨_, _, rfl, rfl, by rw [len_arr]; exact hc.1, by rw [len_arr]; exact hc.2, (mkList_at h4 s2 (strsOk_rep ed)).2⟩
    · cases ed
/-- *e in a display -/
theorem g_star {p : Pos} (hK : X.K = W.K) (ha : PE X a (tD W Wx f)) (hr : PA X es (tA W Wx l)) : PA X (.Starred a p :: es) (tA W Wx fun δ S => (f δ S).bind fun x S1 => (liftO S1 (x.seq S1)).bind fun ds S1 => (l δ S1).bind fun xs S2 => .ok (ds ++ xs) S2) := by
  refine PA.of (StX.pa_star ha hr) fun σ H Q ⟨δ, S, ρ, s, E, h⟩ => ?_
  refine rdg.next s E h fun x H1 dx S1 ρ1 e1 s1 E1 r1 h1 => ?_
  obtain ⟨ds, eds, h2⟩ := Cont.oO h1
  obtain ⟨a, vs, rfl, hq, hrr⟩ := seq_rep s1 r1 eds
  rw [← hK] at hq
  refine ⟨a, vs, rfl, hq.symm, rdg.next s1 E1 h2 fun ys H2 dy S2 ρ2 e2 s2 E2 r2 h3 => ?_⟩
  exact Cont.here h3 s2 ((hrr.mono e2).append r2)
theorem g_slice {lo hi : Option Expr} {p2 : Pos} {l h : DEnv → Store → Out (Option Int)} (hK : X.K = W.K) (he : PE X e (tD W Wx f)) (hl : PO X lo (tO W Wx l)) (hh : PO X hi (tO W Wx h)) :
    PE X (.Subscript e (.Slice lo hi none p2) pos) (tD W Wx fun δ S => (f δ S).bind fun x S1 => (l δ S1).bind fun lv S2 => (h δ S2).bind fun hv S3 => lift S3 (dCut x lv hv S3)) := by
  refine PE.of (pe_slice (sl_p hK) he hl hh) fun σ H Q ⟨δ, S, ρ, s, E, h⟩ => ?_
  refine rdg.next s E h fun x H1 dx S1 ρ1 e1 s1 E1 r1 h1 => rdg.next s1 E1 h1 fun y H2 dy S2 ρ2 e2 s2 E2 r2 h2 => rdg.next s2 E2 h2 fun z H3 dz S3 ρ3 e3 s3 E3 r3 h3 => ?_
  subst r2 r3
  obtain ⟨d, ed, q⟩ := Cont.oK h3
  exact ⟨dx, ρ3, S3, d, s3, RepV.mono (e2.trans e3) r1, ed, q⟩
theorem g_partN : PO X none (tO W Wx fun _ S => .ok none S) := PO.of po_none fun σ H Q ⟨δ, S, ρ, s, E, h⟩ => Cont.here h s rfl
theorem asI_rep {ρ : Rn} {N : Nat} {H : Hp} {K : PySem.W.Frag} {d : D} {v : V} {b : Int} (h : d.asI = some b) (r : RepV K ρ N H d v) : v = .int b := by
  cases r <;> first | (cases h; done) | skip
  cases h; rfl
theorem g_part (he : PE X e (tD W Wx f)) : PO X (some e) (tO W Wx fun δ S => (f δ S).bind fun x S1 => (liftO S1 x.asI).bind fun i S2 => .ok (some i) S2) := by
  refine PO.of (po_some he) fun σ H Q ⟨δ, S, ρ, s, E, h⟩ => ?_
  refine rdg.next s E h fun x H1 dx S1 ρ1 e1 s1 E1 r1 h1 => ?_
  obtain ⟨i, ei, h2⟩ := Cont.oO h1
  exact ⟨i, asI_rep ei r1, Cont.here h2 s1 rfl⟩
theorem g_var {i : Nat} {x : Str} (hN : X.N[i]? = some x) (hv : Vis X.env.scope x) (hd : (x == ("__debug__" : Str)) = false) (hcd : (x == ("__classdict__" : Str)) = false) : PE X (.Name x pos) (tD W Wx fun δ S => lift S (getD δ i)) := by
  refine PE.of (pe_var hN hv hd hcd) fun σ H Q ⟨δ, S, ρ, s, E, h⟩ => ?_
  obtain ⟨d, ed, q⟩ := Cont.oK h
  unfold getD at ed
  split at ed
  · rename_i d' hd'
    cases ed
    obtain ⟨v, ev, r⟩ := E.at_ i d hd'
    exact ⟨v, ev, q.here s r⟩
  · cases ed
theorem g_const {d : D} {v : V} (hp : PE X e (tC v)) (hr : ∀ ρ N H, RepV W.K ρ N H d v) : PE X e (tD W Wx fun _ S => .ok d S) :=
  PE.of hp fun σ H Q ⟨δ, S, ρ, s, E, h⟩ => Cont.here h s (hr _ _ _)
theorem g_bad {t : DEnv → Store → Out D} (h : ∀ δ S, t δ S = .bad) : PE X e (tD W Wx t) := ⟨fun pins s σ H Q I ⟨δ, S, ρ, _, _, q⟩ => by rw [h] at q; exact q.elim⟩
theorem g_badT {t : DEnv → Store → Out Bool} (h : ∀ δ S, t δ S = .bad) : PT X e (tT W Wx t) := ⟨fun pins s σ H Q I ⟨δ, S, ρ, _, _, q⟩ => by rw [h] at q; exact q.elim⟩
theorem g_badW {t : DEnv → Store → Out Bool} (h : ∀ δ S, t δ S = .bad) : PW X e (tT W Wx t) := ⟨fun _ pins s σ H Q I ⟨δ, S, ρ, _, _, q⟩ => by rw [h] at q; exact q.elim⟩
/-- what a def promises: F by data -/
def spD (W : Wd) (F : List D → Store → Out D) (n : Nat) : Sp := fun vs H Q E => ∃ ds S ρ, ds.length = n ∧ RepS W ρ S H ∧ RepVs W.K ρ S.length H ds vs ∧ Cont W (fun cls d _ H' => E cls d H') [] (relD W) (F ds S) ρ S.length H Q
theorem cont_sp {r : Out D} {σ : L2.St} {ρ : Rn} {N : Nat} {H : Hp} {Q : VK} (h : Cont W Wx σ (relD W) r ρ N H Q) : Cont W (fun cls d _ H' => WE Wx σ cls d H') [] (relD W) r ρ N H Q := by
  cases r with
  | ok a S => exact h
  | exc x S => exact h
  | bad => exact h
theorem g_call {kk : Nat} {fa : Addr} {fd : FuncData} {ps : List Str} {F : List D → Store → Out D} {n : Nat} {x : Str} {p : Pos} (hF : FnOk X.prog X.w X.K X.mg X.base (L2N.CX X.prog X.w) kk fa fd ps (spD W F n)) (hr : Room kk X.A) (hg : Gl X x) (hm : X.mg x = some (.ref fa)) (hk : PySem.W.keepIn X.K (.ref fa) = true)
    (hb : Binds X.K fd ps []) (hx : L2N.Takes X Wx) (ha : PA X (e :: es) (tA W Wx l)) (hl : ∀ δ S ds S', l δ S = .ok ds S' → ds.length = n) (hdb : (x == ("__debug__" : Str)) = false) (he : starEach (e :: es) X.env = (false, eval e X.env) :: starEach es X.env) (hpl : (backTo pos (starEach es X.env)).any (·.1) = false) :
    PE X (.Call (.Name x p) (e :: es) [] pos) (tD W Wx fun δ S => (l δ S).bind fun ds S1 => F ds S1) := by
  refine PE.of (pe_callSD (dvs := []) hF hr hg hm hk hb .nil (fun σ => L2N.passAt hx σ) ha hdb he hpl) fun σ H Q ⟨δ, S, ρ, s, E, h⟩ => ?_
  refine ⟨δ, S, ρ, s, E, ?_⟩
  replace h : Cont W Wx σ (relD W) ((l δ S).bind fun ds S1 => F ds S1) ρ S.length H Q := h
  cases el : l δ S with
  | bad => rw [el] at h; exact h.elim
  | exc x S1 => rw [el] at h; exact h
  | ok ds S1 =>
    rw [el] at h
    intro ρ1 H1 e1 s1 vs hv
    rw [List.append_nil]
    exact ⟨ds, S1, ρ1, hl _ _ _ _ el, s1, hv, cont_sp (Cont.from (show Cont W Wx σ (relD W) (F ds S1) ρ S.length H Q from h) e1)⟩
theorem fn_to {o : OpN} {σ : L2.St} {H : Hp} {Q : VK} (h : tD W Wx (fun δ S => (l δ S).bind fun ds S1 => lift S1 (o ds S1)) σ H Q) : tCB (rF W o) (tA W Wx l) σ H Q := by
  obtain ⟨δ, S, ρ, s, E, h⟩ := h
  refine rdg.next s E h fun x H1 dx S1 ρ1 e1 s1 E1 r1 h1 => ?_
  obtain ⟨d, ed, q⟩ := Cont.oK h1
  exact ⟨dx, ρ1, S1, d, s1, r1, ed, q⟩
end
end PD

set_option Elab.async false
set_option linter.all false
set_option maxRecDepth 100000
namespace PD
open PySem PySem.Spec PyProof.Rows L2

def Rn.hide (ρ : Rn) (p : Addr) : Rn := ⟨ρ.at_, p :: ρ.hid⟩
def Rn.unh (ρ : Rn) (l : List Addr) : Rn := ⟨ρ.at_, l⟩
section
variable {K : PySem.W.Frag} {ρ ρ' : Rn} {N N' : Nat} {H H' H1 : Hp} {p : Addr} {xs ys : List V} {W : Wd} {S : Store} {δ : DEnv} {σ : L2.St}
theorem SqT.mask {a : Addr} {vs : List V} (h : H p = some (.lst xs)) (r : SqT K H a vs) : SqT K (upd H p (.lst ys)) a vs := by
  rcases r with (e | ⟨o, e⟩) | e
  · exact .inl (.inl (by rw [upd_ne (ne_of e h (by intro z; cases z))]; exact e))
  · exact .inl (.inr ⟨o, by rw [upd_ne (ne_of e h (by intro z; cases z))]; exact e⟩)
  · exact .inr e
mutual
theorem RepV.mask (hp : p ∈ ρ.hid) (h : H p = some (.lst xs)) : ∀ {d : D} {v : V}, RepV K ρ N H d v → RepV K ρ N (upd H p (.lst ys)) d v
  | _, _, .non => .non
  | _, _, .bl b => .bl b
  | _, _, .int i => .int i
  | _, _, .str s h => .str s h
  | _, _, .tup e r => .tup (SqT.mask h e) (RepVs.mask hp h r)
  | _, _, .st e q r => .st (by rw [upd_ne (ne_of e h (by intro z; cases z))]; exact e) q (RepVs.mask hp h r)
  | _, _, .lst e n r => .lst (by rw [upd_ne (fun z => n.2 (by rw [z]; exact hp))]; exact e) n (RepVs.mask hp h r)
  | _, _, .rol e r => .rol (by
      rcases e with ⟨o, e⟩ | e
      · exact .inl ⟨o, by rw [upd_ne (ne_of e h (by intro z; cases z))]; exact e⟩
      · exact .inr e) (RepVs.mask hp h r)
  | _, _, .dic e n r t => .dic (by rw [upd_ne (fun z => n.2 (by rw [z]; exact hp))]; exact e) n (RepVs.mask hp h r) (RepVs.mask hp h t)
  | _, _, .obj (n := n) e ⟨zs, k⟩ => .obj e (by
      by_cases q : ρ n = p
      · exact ⟨ys, by rw [q, upd_same]⟩
      · exact ⟨zs, by rw [upd_ne q]; exact k⟩)
  | _, _, .dob (n := n) e ⟨zs, k⟩ => .dob e ⟨zs, by rw [upd_ne (ne_of k h (by intro z; cases z))]; exact k⟩
theorem RepVs.mask (hp : p ∈ ρ.hid) (h : H p = some (.lst xs)) : ∀ {ds : List D} {vs : List V}, RepVs K ρ N H ds vs → RepVs K ρ N (upd H p (.lst ys)) ds vs
  | _, _, .nil => .nil
  | _, _, .cons r t => .cons (RepV.mask hp h r) (RepVs.mask hp h t)
end
theorem RepS.mask (s : RepS W ρ S H) (hp : p ∈ ρ.hid) (h : H p = some (.lst xs)) : RepS W ρ S (upd H p (.lst ys)) where
  at_ := fun i c e => by
    have hi : i < S.length := (List.getElem?_eq_some_iff.mp e).1
    have n := (s.hid p hp).2 i hi
    have r := s.at_ i c e
    cases c with
    | lst ds => obtain ⟨q, vs, e1, r1⟩ := r; exact ⟨q, vs, by rw [upd_ne n]; exact e1, RepVs.mask hp h r1⟩
    | dic _ _ => obtain ⟨q, vs, e1, r1, t1⟩ := r; exact ⟨q, vs, by rw [upd_ne n]; exact e1, RepVs.mask hp h r1, RepVs.mask hp h t1⟩
    | st _ => exact r
  inj := s.inj
  tabs := fun q hq => let ⟨ps, e, t⟩ := s.tabs q hq; ⟨ps, by rw [upd_ne (ne_of e h (by intro z; cases z))]; exact e, t⟩
  hid := fun a ha => by
    obtain ⟨⟨zs, e⟩, n⟩ := s.hid a ha
    refine ⟨?_, n⟩
    by_cases z : a = p
    · exact ⟨ys, by rw [z, upd_same]⟩
    · exact ⟨zs, by rw [upd_ne z]; exact e⟩
theorem Ext.mask (e : Ext ρ N H ρ' N' H') (h : H p = some (.lst xs)) (h' : H' p = some (.lst ys)) {zs : List V} : Ext ρ N (upd H p (.lst zs)) ρ' N' (upd H' p (.lst zs)) where
  le := e.le
  agree := e.agree
  tups := fun a vs q => by
    by_cases z : a = p
    · rw [z, upd_same] at q; cases q
    · rw [upd_ne z] at q ⊢; exact e.tups a vs q
  frzs := fun a o u q => by
    by_cases z : a = p
    · rw [z, upd_same] at q; cases q
    · rw [upd_ne z] at q ⊢; exact e.frzs a o u q
  keep := fun a o q n t => by
    by_cases z : a = p
    · rw [z, upd_same] at q ⊢; exact q
    · rw [upd_ne z] at q ⊢; exact e.keep a o q n t
  there := fun a q => by
    by_cases z : a = p
    · rw [z, upd_same]; simp
    · rw [upd_ne z] at q ⊢; exact e.there a q
  fresh := fun i h1 h2 => by
    have f := e.fresh i h1 h2
    rw [upd_ne (fun z => by rw [z, h] at f; cases f)]; exact f
  hid := e.hid
  kL := fun i hi ⟨us, k⟩ => by
    by_cases z : ρ i = p
    · exact ⟨zs, by rw [z, upd_same]⟩
    · rw [upd_ne z] at k ⊢; exact e.kL i hi ⟨us, k⟩
  kD := fun i hi ⟨us, k⟩ => by
    by_cases z : ρ i = p
    · rw [z, upd_same] at k; cases k
    · rw [upd_ne z] at k ⊢; exact e.kD i hi ⟨us, k⟩
mutual
theorem RepV.hide (h : H p = none) : ∀ {d : D} {v : V}, RepV K ρ N H d v → RepV K (ρ.hide p) N (upd H p (.lst ys)) d v
  | _, _, .non => .non
  | _, _, .bl b => .bl b
  | _, _, .int i => .int i
  | _, _, .str s h => .str s h
  | _, _, .tup e r => .tup (SqT.ext (Ext.new (ρ := ρ) (N := N) h) e) (RepVs.hide h r)
  | _, _, .st e q r => .st (by rw [upd_ne (ne_of_none e h)]; exact e) q (RepVs.hide h r)
  | _, _, .lst e n r => .lst (by rw [upd_ne (ne_of_none e h)]; exact e) ⟨n.1, fun z => by
      rcases List.mem_cons.mp z with z | z
      · exact ne_of_none e h z
      · exact n.2 z⟩ (RepVs.hide h r)
  | _, _, .rol e r => .rol (by
      rcases e with ⟨o, e⟩ | e
      · exact .inl ⟨o, by rw [upd_ne (ne_of_none e h)]; exact e⟩
      · exact .inr e) (RepVs.hide h r)
  | _, _, .dic e n r t => .dic (by rw [upd_ne (ne_of_none e h)]; exact e) ⟨n.1, fun z => by
      rcases List.mem_cons.mp z with z | z
      · exact ne_of_none e h z
      · exact n.2 z⟩ (RepVs.hide h r) (RepVs.hide h t)
  | _, _, .obj (n := n) e ⟨zs, k⟩ => (RepV.obj (ρ := ρ.hide p) e ⟨zs, (upd_ne (ne_of_none k h)).trans k⟩ : RepV K (ρ.hide p) N (upd H p (.lst ys)) (.obj n) (.ref ((ρ.hide p) n)))
  | _, _, .dob (n := n) e ⟨zs, k⟩ => (RepV.dob (ρ := ρ.hide p) e ⟨zs, (upd_ne (ne_of_none k h)).trans k⟩ : RepV K (ρ.hide p) N (upd H p (.lst ys)) (.dob n) (.ref ((ρ.hide p) n)))
theorem RepVs.hide (h : H p = none) : ∀ {ds : List D} {vs : List V}, RepVs K ρ N H ds vs → RepVs K (ρ.hide p) N (upd H p (.lst ys)) ds vs
  | _, _, .nil => .nil
  | _, _, .cons r t => .cons (RepV.hide h r) (RepVs.hide h t)
end
theorem RepS.hide (s : RepS W ρ S H) (h : H p = none) : RepS W (ρ.hide p) S (upd H p (.lst ys)) where
  at_ := fun i c e => by
    have hi : i < S.length := (List.getElem?_eq_some_iff.mp e).1
    have r := s.at_ i c e
    cases c with
    | lst ds => obtain ⟨q, vs, e1, r1⟩ := r; exact ⟨q, vs, (upd_ne (ne_of_none e1 h)).trans e1, RepVs.hide h r1⟩
    | dic _ _ => obtain ⟨q, vs, e1, r1, t1⟩ := r; exact ⟨q, vs, (upd_ne (ne_of_none e1 h)).trans e1, RepVs.hide h r1, RepVs.hide h t1⟩
    | st _ => exact r
  inj := s.inj
  tabs := fun q hq => let ⟨ps, e, t⟩ := s.tabs q hq; ⟨ps, by rw [upd_ne (ne_of_none e h)]; exact e, t⟩
  hid := fun a ha => by
    rcases List.mem_cons.mp ha with z | z
    · subst z; exact ⟨⟨ys, upd_same⟩, fun i hi => s.ne h i hi⟩
    · obtain ⟨⟨zs, e⟩, n⟩ := s.hid a z
      exact ⟨⟨zs, by rw [upd_ne (ne_of_none e h)]; exact e⟩, n⟩
theorem RepE.hide (r : RepE K ρ N H δ σ) (h : H p = none) : RepE K (ρ.hide p) N (upd H p (.lst ys)) δ σ :=
  ⟨r.len, fun i d e => let ⟨v, h1, h2⟩ := r.at_ i d e; ⟨v, h1, h2.hide h⟩⟩
theorem RepE.mask (r : RepE K ρ N H δ σ) (hp : p ∈ ρ.hid) (h : H p = some (.lst xs)) : RepE K ρ N (upd H p (.lst ys)) δ σ :=
  ⟨r.len, fun i d e => let ⟨v, h1, h2⟩ := r.at_ i d e; ⟨v, h1, h2.mask hp h⟩⟩
theorem Ext.unh {ws zs : List V} (e : Ext (ρ.hide p) N (upd H1 p (.lst ws)) ρ' N' (upd H p (.lst ws))) (h1 : H1 p = none) (h : H p = some (.lst zs)) : Ext ρ N H1 (ρ'.unh ρ.hid) N' H where
  le := e.le
  agree := e.agree
  tups := fun a vs q => by
    have z := ne_of_none q h1
    have := e.tups a vs (by rw [upd_ne z]; exact q)
    rw [upd_ne z] at this; exact this
  frzs := fun a o u q => by
    have z := ne_of_none q h1
    have := e.frzs a o u (by rw [upd_ne z]; exact q)
    rw [upd_ne z] at this; exact this
  keep := fun a o q n t => by
    have z := ne_of_none q h1
    have := e.keep a o (by rw [upd_ne z]; exact q) n t
    rw [upd_ne z] at this; exact this
  there := fun a q => by
    by_cases z : a = p
    · rw [z, h]; simp
    · have := e.there a (by rw [upd_ne z]; exact q)
      rw [upd_ne z] at this; exact this
  fresh := fun i a b => by
    have f := e.fresh i a b
    by_cases z : ρ' i = p
    · rw [z, upd_same] at f; cases f
    · rw [upd_ne z] at f; exact f
  hid := rfl
  kL := fun i hi ⟨us, k⟩ => by
    have z := ne_of_none k h1
    have := e.kL i hi ⟨us, (upd_ne z).trans k⟩
    obtain ⟨vs, this⟩ := this
    exact ⟨vs, by rw [← this]; exact (upd_ne z).symm⟩
  kD := fun i hi ⟨us, k⟩ => by
    have z := ne_of_none k h1
    have := e.kD i hi ⟨us, (upd_ne z).trans k⟩
    obtain ⟨vs, this⟩ := this
    exact ⟨vs, by rw [← this]; exact (upd_ne z).symm⟩
mutual
theorem RepV.unh {l : List Addr} (hl : ∀ a ∈ l, a ∈ ρ.hid) : ∀ {d : D} {v : V}, RepV K ρ N H d v → RepV K (ρ.unh l) N H d v
  | _, _, .non => .non
  | _, _, .bl b => .bl b
  | _, _, .int i => .int i
  | _, _, .str s h => .str s h
  | _, _, .tup e r => .tup e (RepVs.unh hl r)
  | _, _, .st e q r => .st e q (RepVs.unh hl r)
  | _, _, .lst e n r => .lst e ⟨n.1, fun z => n.2 (hl _ z)⟩ (RepVs.unh hl r)
  | _, _, .rol e r => .rol e (RepVs.unh hl r)
  | _, _, .dic e n r t => .dic e ⟨n.1, fun z => n.2 (hl _ z)⟩ (RepVs.unh hl r) (RepVs.unh hl t)
  | _, _, .obj (n := n) e k => (RepV.obj (ρ := ρ.unh l) e k : RepV K (ρ.unh l) N H (.obj n) (.ref ((ρ.unh l) n)))
  | _, _, .dob (n := n) e k => (RepV.dob (ρ := ρ.unh l) e k : RepV K (ρ.unh l) N H (.dob n) (.ref ((ρ.unh l) n)))
theorem RepVs.unh {l : List Addr} (hl : ∀ a ∈ l, a ∈ ρ.hid) : ∀ {ds : List D} {vs : List V}, RepVs K ρ N H ds vs → RepVs K (ρ.unh l) N H ds vs
  | _, _, .nil => .nil
  | _, _, .cons r t => .cons (RepV.unh hl r) (RepVs.unh hl t)
end
theorem RepS.unh (s : RepS W ρ S H) {l : List Addr} (hl : ∀ a ∈ l, a ∈ ρ.hid) : RepS W (ρ.unh l) S H where
  at_ := fun i c e => by
    have r := s.at_ i c e
    cases c with
    | lst ds => obtain ⟨q, vs, e1, r1⟩ := r; exact ⟨q, vs, e1, RepVs.unh hl r1⟩
    | dic _ _ => obtain ⟨q, vs, e1, r1, t1⟩ := r; exact ⟨q, vs, e1, RepVs.unh hl r1, RepVs.unh hl t1⟩
    | st _ => exact r
  inj := s.inj
  tabs := s.tabs
  hid := fun a ha => s.hid a (hl a ha)
mutual
/-- a hidden list becomes a cell -/
theorem RepV.show_ {l : List Addr} (hl : ∀ a ∈ l, a ∈ ρ.hid) (hp : p ∈ ρ.hid) : ∀ {d : D} {v : V}, RepV K ρ N H d v → RepV K (aux (ρ.unh l) N p) (N + 1) H d v
  | _, _, .non => .non
  | _, _, .bl b => .bl b
  | _, _, .int i => .int i
  | _, _, .str s h => .str s h
  | _, _, .tup e r => .tup e (RepVs.show_ hl hp r)
  | _, _, .st e q r => .st e q (RepVs.show_ hl hp r)
  | _, _, .lst (a := a) e n r => .lst e ⟨fun i hi => by
      by_cases z : i = N
      · rw [z, aux_self]; exact fun q => n.2 (by rw [← q]; exact hp)
      · rw [aux_ne z]; exact n.1 i (by omega), fun z => n.2 (hl _ z)⟩ (RepVs.show_ hl hp r)
  | _, _, .rol e r => .rol e (RepVs.show_ hl hp r)
  | _, _, .dic (a := a) e n r t => .dic e ⟨fun i hi => by
      by_cases z : i = N
      · rw [z, aux_self]; exact fun q => n.2 (by rw [← q]; exact hp)
      · rw [aux_ne z]; exact n.1 i (by omega), fun z => n.2 (hl _ z)⟩ (RepVs.show_ hl hp r) (RepVs.show_ hl hp t)
  | _, _, .obj (n := n) e k => by
      have z : n ≠ N := Nat.ne_of_lt e
      have h := RepV.obj (K := K) (ρ := aux (ρ.unh l) N p) (N := N + 1) (H := H) (n := n) (by omega) (by rw [aux_ne z]; exact k)
      rw [aux_ne z] at h
      exact h
  | _, _, .dob (n := n) e k => by
      have z : n ≠ N := Nat.ne_of_lt e
      have h := RepV.dob (K := K) (ρ := aux (ρ.unh l) N p) (N := N + 1) (H := H) (n := n) (by omega) (by rw [aux_ne z]; exact k)
      rw [aux_ne z] at h
      exact h
theorem RepVs.show_ {l : List Addr} (hl : ∀ a ∈ l, a ∈ ρ.hid) (hp : p ∈ ρ.hid) : ∀ {ds : List D} {vs : List V}, RepVs K ρ N H ds vs → RepVs K (aux (ρ.unh l) N p) (N + 1) H ds vs
  | _, _, .nil => .nil
  | _, _, .cons r t => .cons (RepV.show_ hl hp r) (RepVs.show_ hl hp t)
end
theorem RepS.show_ (s : RepS W ρ S H) {l : List Addr} (hl : ∀ a ∈ l, a ∈ ρ.hid) (hp : p ∈ ρ.hid) (hpl : p ∉ l) {ds : List D} (hd : ds.all D.pure = true) (h : H p = some (.lst xs)) (r : RepVs W.K ρ S.length H ds xs) : RepS W (aux (ρ.unh l) S.length p) (S ++ [.lst ds]) H where
  at_ := fun i c e => by
    rw [List.length_append, List.length_singleton]
    by_cases hi : i < S.length
    · rw [List.getElem?_append_left hi] at e
      rw [aux_ne (Nat.ne_of_lt hi)]
      have r := s.at_ i c e
      cases c with
      | lst ds => obtain ⟨q, vs, e1, r1⟩ := r; exact ⟨q, vs, e1, RepVs.show_ hl hp r1⟩
      | dic _ _ => obtain ⟨q, vs, e1, r1, t1⟩ := r; exact ⟨q, vs, e1, RepVs.show_ hl hp r1, RepVs.show_ hl hp t1⟩
      | st _ => exact r
    · rw [List.getElem?_append_right (Nat.le_of_not_lt hi)] at e
      have hz : i = S.length := by
        by_cases z : i - S.length = 0
        · omega
        · obtain ⟨k, hk⟩ : ∃ k, i - S.length = k + 1 := ⟨i - S.length - 1, by omega⟩
          rw [hk] at e; simp at e
      subst hz
      simp at e
      subst e
      rw [aux_self]; exact ⟨hd, xs, h, RepVs.show_ hl hp r⟩
  inj := fun i j hi hj e => by
    rw [List.length_append, List.length_singleton] at hi hj
    have np := (s.hid p hp).2
    by_cases h1 : i = S.length
    · by_cases h2 : j = S.length
      · omega
      · rw [h1, aux_self, aux_ne h2] at e
        exact absurd e.symm (np j (by omega))
    · by_cases h2 : j = S.length
      · rw [h2, aux_self, aux_ne h1] at e
        exact absurd e (np i (by omega))
      · rw [aux_ne h1, aux_ne h2] at e
        exact s.inj i j (by omega) (by omega) e
  tabs := s.tabs
  hid := fun a ha => by
    obtain ⟨e, n⟩ := s.hid a (hl a ha)
    refine ⟨e, fun i hi => ?_⟩
    rw [List.length_append, List.length_singleton] at hi
    by_cases h1 : i = S.length
    · rw [h1, aux_self]; exact fun z => hpl (by rw [z]; exact ha)
    · rw [aux_ne h1]; exact n i (by omega)
end

/-- what a turn gives: a thing that stands, or a new pair -/
def Yld (W : Wd) (ρ : Rn) (N : Nat) (H : Hp) (d : D) (H' : Hp) (x : V) (H'' : Hp) : Prop :=
  (H'' = H' ∧ RepV W.K ρ N H d x) ∨ ∃ T es us, x = .ref T ∧ d = .tup es ∧ H' T = none ∧ H'' = upd H' T (.tup us) ∧ RepVs W.K ρ N H es us
theorem Yld.mono {W : Wd} {ρ ρ0 : Rn} {N N0 : Nat} {H H0 H' H'' : Hp} {d : D} {x : V} (y : Yld W ρ N H d H' x H'') (e : Ext ρ N H ρ0 N0 H0) : Yld W ρ0 N0 H0 d H' x H'' := by
  rcases y with ⟨h, r⟩ | ⟨T, es, us, h1, h2, h3, h4, r⟩
  · exact .inl ⟨h, r.mono e⟩
  · exact .inr ⟨T, es, us, h1, h2, h3, h4, r.mono e⟩
theorem Yld.to {W : Wd} {ρ ρ' : Rn} {N N' : Nat} {H H' H'' : Hp} {d : D} {x : V} (y : Yld W ρ N H d H' x H'') (tr : ∀ {es : List D} {us : List V}, RepVs W.K ρ N H es us → RepVs W.K ρ' N' H' es us) :
    RepV W.K ρ' N' H'' d x ∧ Ext ρ' N' H' ρ' N' H'' ∧ (∀ S, RepS W ρ' S H' → RepS W ρ' S H'') ∧ ∀ p o, H' p = some o → H'' p = some o := by
  rcases y with ⟨rfl, r⟩ | ⟨T, es, us, rfl, rfl, h3, rfl, r⟩
  · obtain ⟨v, e, r⟩ := (tr (.cons r .nil)).one
    cases e
    exact ⟨r, .refl, fun S s => s, fun p o h => h⟩
  · exact ⟨.tup (SqT.of upd_same) ((tr r).mono (Ext.new h3)), Ext.new h3, fun S s => s.new h3, fun p o h => by rw [upd_ne (ne_of_none h h3)]; exact h⟩
structure Itm (W : Wd) (ρ : Rn) (N : Nat) (H : Hp) (ds : List D) (J : L2.It) : Prop where
  go : ∀ ρ' N' H' i, Ext ρ N H ρ' N' H' → i < ds.length → J.go i H'
  yld : ∀ ρ' N' H' i x H'', Ext ρ N H ρ' N' H' → i < ds.length → J.yld i H' x H'' → ∃ d, ds[i]? = some d ∧ Yld W ρ N H d H' x H''
  stop : ∀ ρ' N' H', Ext ρ N H ρ' N' H' → J.stop ds.length H'
abbrev relSrc (W : Wd) : Rl Src L2.It := fun ρ N H src J => match src with
  | .st ds => Itm W ρ N H ds J
  | .lv n => n < N ∧ J = Itl W.K (ρ n)
abbrev iI (W : Wd) (Wx : WX) (f : DEnv → Store → Out Src) : TI := rdg W Wx (relSrc W) f
section
variable {W : Wd} {ρ : Rn} {N : Nat} {H : Hp} {ds : List D} {vs : List V} {a : Addr}
theorem itm_list (h : ∀ ρ' N' H', Ext ρ N H ρ' N' H' → SqL W.K H' a vs) (r : RepVs W.K ρ N H ds vs) : Itm W ρ N H ds (Itl W.K a) where
  go := fun ρ' N' H' i e hi => ⟨vs, vs[i]'(by rw [← r.length]; exact hi), h _ _ _ e, List.getElem?_eq_getElem _⟩
  yld := fun ρ' N' H' i x H'' e hi hy => let ⟨d, h1, h2⟩ := r.getV (hy.2 vs (h _ _ _ e)); ⟨d, h1, .inl ⟨hy.1, h2⟩⟩
  stop := fun ρ' N' H' e => ⟨vs, h _ _ _ e, by rw [r.length]; exact Nat.le_refl _⟩
theorem itm_tup (h : ∀ ρ' N' H', Ext ρ N H ρ' N' H' → SqT W.K H' a vs) (r : RepVs W.K ρ N H ds vs) : Itm W ρ N H ds (Itt W.K a) where
  go := fun ρ' N' H' i e hi => ⟨vs, vs[i]'(by rw [← r.length]; exact hi), h _ _ _ e, List.getElem?_eq_getElem _⟩
  yld := fun ρ' N' H' i x H'' e hi hy => let ⟨d, h1, h2⟩ := r.getV (hy.2 vs (h _ _ _ e)); ⟨d, h1, .inl ⟨hy.1, h2⟩⟩
  stop := fun ρ' N' H' e => ⟨vs, h _ _ _ e, by rw [r.length]; exact Nat.le_refl _⟩
theorem itm_str {s : List Nat} (hs : s.all (fun c => decide (c < 0x110000)) = true) : Itm W ρ N H (s.map fun c => .str [c]) (Its ⟨s.toArray⟩) where
  go := fun ρ' N' H' i e hi => by
    show i < s.toArray.size
    simpa using hi
  yld := fun ρ' N' H' i x H'' e hi hy => by
    obtain ⟨h1, c, hc, rfl⟩ := hy
    have hc' : s[i]? = some c := by simpa using hc
    refine ⟨.str [c], by simp [hc'], .inl ⟨h1, ?_⟩⟩
    refine RepV.str [c] ⟨by rw [sizeLine_eq, List.length_singleton]; decide, ?_⟩
    simp only [List.all_cons, List.all_nil, Bool.and_true]
    exact List.all_eq_true.mp hs c (List.mem_of_getElem? hc')
  stop := fun ρ' N' H' e => by
    show s.toArray.size ≤ _
    simp
theorem rngL_length (x y : Int) : (rngL x y).length = (y - x).toNat := by simp [rngL]
theorem itm_rng (x y : Int) : Itm W ρ N H (rngL x y) (Itr x (y - x).toNat) where
  go := fun ρ' N' H' i e hi => by rw [rngL_length] at hi; exact hi
  yld := fun ρ' N' H' i v H'' e hi hy => by
    obtain ⟨h1, rfl⟩ := hy
    rw [rngL_length] at hi
    exact ⟨.int (x + i), by simp [rngL, List.getElem?_range hi], .inl ⟨h1, .int _⟩⟩
  stop := fun ρ' N' H' e => by rw [rngL_length]; exact Nat.le_refl _
theorem rngC_length (i c : Int) (n : Nat) : (rngC i c n).length = n := by simp [rngC]
theorem itm_rngC (lo c : Int) (n : Nat) : Itm W ρ N H (rngC lo c n) (Itc lo c n) where
  go := fun ρ' N' H' i e hi => by rw [rngC_length] at hi; exact hi
  yld := fun ρ' N' H' i v H'' e hi hy => by
    obtain ⟨h1, rfl⟩ := hy
    rw [rngC_length] at hi
    exact ⟨.int (lo + i * c), by simp [rngC, List.getElem?_range hi], .inl ⟨h1, .int _⟩⟩
  stop := fun ρ' N' H' e => by rw [rngC_length]; exact Nat.le_refl _
theorem numL_length : ∀ (n : Nat) (ds : List D), (numL n ds).length = ds.length
  | _, [] => rfl
  | n, d :: ds => by simp [numL, numL_length (n + 1) ds]
theorem numL_at : ∀ (n : Nat) (ds : List D) (i : Nat), (numL n ds)[i]? = (ds[i]?).map fun d => .tup [.int ((n + i : Nat) : Int), d]
  | _, [], _ => by simp [numL]
  | n, d :: ds, 0 => by simp [numL]
  | n, d :: ds, i + 1 => by
    have := numL_at (n + 1) ds i
    simp only [numL, List.getElem?_cons_succ, this]
    congr 1
    funext d
    have : n + 1 + i = n + (i + 1) := by omega
    rw [this]
theorem itm_enum {J : L2.It} (h : Itm W ρ N H ds J) : Itm W ρ N H (numL 0 ds) (IteJ J) where
  go := fun ρ' N' H' i e hi => h.go ρ' N' H' i e (by rw [numL_length] at hi; exact hi)
  yld := fun ρ' N' H' i v H'' e hi hy => by
    rw [numL_length] at hi
    obtain ⟨T, x, rfl, hT, rfl, hy⟩ := hy
    obtain ⟨d, h1, h2⟩ := h.yld ρ' N' H' i x H' e hi hy
    refine ⟨.tup [.int ((0 + i : Nat) : Int), d], by rw [numL_at, h1]; rfl, .inr ⟨T, _, _, rfl, rfl, hT, rfl, ?_⟩⟩
    rw [Nat.zero_add]
    rcases h2 with ⟨_, r⟩ | ⟨T2, es, us, _, _, h3, h4, _⟩
    · exact .cons (.int _) (.cons r .nil)
    · have : H' T2 = (upd H' T2 (.tup us)) T2 := by rw [← h4]
      rw [h3, upd_same] at this; cases this
  stop := fun ρ' N' H' e => by rw [numL_length]; exact h.stop ρ' N' H' e
theorem zipL_length : ∀ (ds es : List D), (zipL ds es).length = min ds.length es.length
  | [], _ => by simp [zipL]
  | _ :: _, [] => by simp [zipL]
  | d :: ds, e :: es => by simp [zipL, zipL_length ds es]
theorem zipL_at : ∀ (ds es : List D) (i : Nat) (d e : D), ds[i]? = some d → es[i]? = some e → (zipL ds es)[i]? = some (.tup [d, e])
  | [], _, _, _, _, h, _ => by simp at h
  | _ :: _, [], _, _, _, _, h => by simp at h
  | d :: ds, e :: es, 0, _, _, h1, h2 => by simp at h1 h2; subst h1 h2; simp [zipL]
  | d :: ds, e :: es, i + 1, d', e', h1, h2 => by simp [zipL]; exact zipL_at ds es i d' e' (by simpa using h1) (by simpa using h2)
theorem itm_zipT {b : Addr} {es : List D} {us : List V} (h : ∀ ρ' N' H', Ext ρ N H ρ' N' H' → SqT W.K H' a vs) (h' : ∀ ρ' N' H', Ext ρ N H ρ' N' H' → SqT W.K H' b us) (r : RepVs W.K ρ N H ds vs) (r' : RepVs W.K ρ N H es us) : Itm W ρ N H (zipL ds es) (RZ.ItzT W.K a b) where
  go := fun ρ' N' H' i e hi => by
    rw [zipL_length] at hi
    exact ⟨vs, us, vs[i]'(by rw [← r.length]; omega), us[i]'(by rw [← r'.length]; omega), h _ _ _ e, h' _ _ _ e, List.getElem?_eq_getElem _, List.getElem?_eq_getElem _⟩
  yld := fun ρ' N' H' i v H'' e hi hy => by
    obtain ⟨T, x, y, rfl, hT, rfl, f1, f2⟩ := hy
    obtain ⟨d1, g1, r1⟩ := r.getV (f1 vs (h _ _ _ e))
    obtain ⟨d2, g2, r2⟩ := r'.getV (f2 us (h' _ _ _ e))
    exact ⟨_, zipL_at _ _ _ _ _ g1 g2, .inr ⟨T, _, _, rfl, rfl, hT, rfl, .cons r1 (.cons r2 .nil)⟩⟩
  stop := fun ρ' N' H' e => ⟨vs, us, h _ _ _ e, h' _ _ _ e, by rw [zipL_length, r.length, r'.length]; omega⟩
theorem itm_zipL {b : Addr} {es : List D} {us : List V} (h : ∀ ρ' N' H', Ext ρ N H ρ' N' H' → SqL W.K H' a vs) (h' : ∀ ρ' N' H', Ext ρ N H ρ' N' H' → SqL W.K H' b us) (r : RepVs W.K ρ N H ds vs) (r' : RepVs W.K ρ N H es us) : Itm W ρ N H (zipL ds es) (Itz W.K a b) where
  go := fun ρ' N' H' i e hi => by
    rw [zipL_length] at hi
    exact ⟨vs, us, vs[i]'(by rw [← r.length]; omega), us[i]'(by rw [← r'.length]; omega), h _ _ _ e, h' _ _ _ e, List.getElem?_eq_getElem _, List.getElem?_eq_getElem _⟩
  yld := fun ρ' N' H' i v H'' e hi hy => by
    obtain ⟨T, x, y, rfl, hT, rfl, f1, f2⟩ := hy
    obtain ⟨d1, g1, r1⟩ := r.getV (f1 vs (h _ _ _ e))
    obtain ⟨d2, g2, r2⟩ := r'.getV (f2 us (h' _ _ _ e))
    exact ⟨_, zipL_at _ _ _ _ _ g1 g2, .inr ⟨T, _, _, rfl, rfl, hT, rfl, .cons r1 (.cons r2 .nil)⟩⟩
  stop := fun ρ' N' H' e => ⟨vs, us, h _ _ _ e, h' _ _ _ e, by rw [zipL_length, r.length, r'.length]; omega⟩
end
section
variable {X : Cx} {W : Wd} {Wx : WX} {f g : DEnv → Store → Out D} {tg e a b : Expr} {pos p : Pos}
theorem pi_lst_at {pins : List (Addr × Obj)} {σ : L2.St} {H : Hp} {s : Shared} {R : L2.It → Hp → Prop} {a : Addr} {xs : List V} (I : Inv X pins σ H s) (hq : SqL X.K H a xs) (q : R (Itl X.K a) H) : wpAny (model X.prog X.w) X.A (pyIter (.ref a)) (PIE X pins σ tg R) X.xe s := by
  obtain ⟨its, rv, p, hz⟩ := I.list hq
  refine wpAny_pyIter_list p.isList ?_
  refine ⟨s.heap.objs.size, [s.heap.objs.size], _, _, H, rfl, I.kept (t' := s.toks) fun b o e => Heap.get?_push_of_some _ e, turn_list a _, ⟨_, Heap.get?_push_size _ rfl, rfl, rfl⟩, fun b hb => ?_, q⟩
  have e : b = s.heap.objs.size := by simpa using hb
  subst e
  exact I.fpOk (Nat.le_refl _) (I.hok.fresh (Nat.le_refl _))
theorem pi_tup_at {pins : List (Addr × Obj)} {σ : L2.St} {H : Hp} {s : Shared} {R : L2.It → Hp → Prop} {a : Addr} {xs : List V} (I : Inv X pins σ H s) (hq : SqT X.K H a xs) (q : R (Itt X.K a) H) : wpAny (model X.prog X.w) X.A (pyIter (.ref a)) (PIE X pins σ tg R) X.xe s := by
  obtain ⟨its, rv, p, hz⟩ := I.tuple hq
  refine wpAny_pyIter_tuple (show s.heap.IsTuple a its.toArray from p) ?_
  refine ⟨s.heap.objs.size, [s.heap.objs.size], _, _, H, rfl, I.kept (t' := s.toks) fun b o e => Heap.get?_push_of_some _ e, turn_tuple a _, ⟨_, Heap.get?_push_size _ rfl, rfl, rfl⟩, fun b hb => ?_, q⟩
  have e : b = s.heap.objs.size := by simpa using hb
  subst e
  exact I.fpOk (Nat.le_refl _) (I.hok.fresh (Nat.le_refl _))
theorem pi_str_at {pins : List (Addr × Obj)} {σ : L2.St} {H : Hp} {s : Shared} {R : L2.It → Hp → Prop} {x : Str} {t : Tok} (I : Inv X pins σ H s) (q : R (Its x) H) : wpAny (model X.prog X.w) X.A (pyIter (.str x t)) (PIE X pins σ tg R) X.xe s := by
  cases ha : x.cps.all (· < 128)
  · exact wpAny_pyIter_wide ha (pi_one (tk := s.toks) I _ (turn_str _ x t "str_iterator" (.inr rfl)) ⟨_, Heap.get?_push_size _ rfl, rfl, rfl⟩ q)
  · exact wpAny_pyIter_ascii ha (pi_one (tk := s.toks) I _ (turn_str _ x t "str_ascii_iterator" (.inl rfl)) ⟨_, Heap.get?_push_size _ rfl, rfl, rfl⟩ q)
theorem g_seq (hK : X.K = W.K) (he : PE X e (tD W Wx f)) : PI X tg e (iI W Wx fun δ S => (f δ S).bind fun x S1 => liftO S1 (srcOf x)) := by
  refine ⟨fun pins s σ H R I ⟨δ, S, ρ, s0, E, h⟩ => ?_⟩
  refine thn (he.run pins s σ H (fun v H1 => ∃ d S1 ρ1, RepS W ρ1 S1 H1 ∧ RepV W.K ρ1 S1.length H1 d v ∧ Cont W Wx σ (relSrc W) (liftO S1 (srcOf d)) ρ1 S1.length H1 R) I (rdg.next s0 E h fun x H1 dx S1 ρ1 e1 s1 E1 r1 h1 => ⟨dx, S1, ρ1, s1, r1, h1⟩)) fun v s1 ⟨y, H1, I1, rv, d, S1, ρ1, hs, hr, h1⟩ => ?_
  have key : ∀ {src J}, srcOf d = some src → relSrc W ρ1 S1.length H1 src J → R J H1 := fun {src J} e r => by
    rw [e] at h1
    exact h1 ρ1 H1 .refl hs J r
  cases hr with
  | non => exact h1.elim
  | bl b => exact h1.elim
  | int i => exact h1.elim
  | dic => exact h1.elim
  | dob => exact h1.elim
  | st => exact h1.elim
  | str x hx =>
    obtain ⟨t, rfl⟩ := rv
    exact pi_str_at I1 (key rfl (itm_str hx.2))
  | tup q1 q2 =>
    cases rv
    exact pi_tup_at I1 (hK ▸ q1) (hK ▸ key rfl (itm_tup (fun ρ' N' H' e => SqT.ext e q1) q2))
  | lst q1 qn q2 =>
    cases rv
    exact pi_lst_at I1 (SqL.of q1) (hK ▸ key rfl (itm_list (fun ρ' N' H' e => SqL.of (e.keep _ _ q1 qn.1 fun _ z => nomatch z)) q2))
  | rol q1 q2 =>
    cases rv
    refine pi_lst_at I1 (hK ▸ rol_sql q1) (hK ▸ key rfl (itm_list (fun ρ' N' H' e => ?_) q2))
    rcases q1 with ⟨o, q1⟩ | q1
    · exact rol_sql (.inl ⟨o, e.frzs _ _ _ q1⟩)
    · exact rol_sql (.inr q1)
  | @obj n hn hk =>
    cases rv
    have hc := hs.at_ n S1[n] (List.getElem?_eq_getElem hn)
    cases hcell : S1[n] with
    | lst ds =>
      rw [hcell] at hc
      obtain ⟨_, vs, q1, q2⟩ := hc
      exact pi_lst_at I1 (SqL.of q1) (hK ▸ key rfl ⟨hn, rfl⟩)
    | dic _ _ =>
      obtain ⟨ds, hl⟩ := hs.lstAt hn hk
      rw [List.getElem?_eq_getElem hn, hcell] at hl
      cases hl
    | st _ => rw [hcell] at hc; exact hc.elim
theorem rngS_eq {x y : D} {src : Src} (h : rngS x y = some src) : ∃ i j, x = .int i ∧ y = .int j ∧ (-(2 ^ 62) ≤ i ∧ i < 2 ^ 62 ∧ -(2 ^ 62) ≤ j ∧ j < 2 ^ 62) ∧ src = .st (rngL i j) := by
  unfold rngS at h
  split at h
  · rename_i a b
    split at h
    · rename_i z
      cases h
      unfold rngOk at z
      rw [decide_eq_true_eq] at z
      refine ⟨_, _, rfl, rfl, ?_, rfl⟩
      have : (2 : Int) ^ 62 = 4611686018427387904 := by decide
      rw [this]; omega
    · cases h
  · cases h
theorem g_rng1 (hg : Gl X "range") (hm : X.mg "range" = none) (ha : PA X [a] (tA W Wx fun δ S => (f δ S).bind fun x S1 => .ok [x] S1)) (hs : starEach [a] X.env = [(false, eval a X.env)]) :
    PI X tg (.Call (.Name "range" p) [a] [] pos) (iI W Wx fun δ S => (f δ S).bind fun x S1 => liftO S1 (rngS (.int 0) x)) := by
  refine ⟨fun pins s σ H R I ⟨δ, S, ρ, s0, E, h⟩ => (pi_range1 hg hm ha hs).run pins s σ H R I ?_⟩
  have h' : Cont W Wx σ (relSrc W) (((f δ S).bind fun x S1 => .ok [x] S1).bind fun xs S2 => match xs with | [x] => liftO S2 (rngS (.int 0) x) | _ => .bad) ρ S.length H R := by rw [Out.bind_assoc]; exact h
  refine rdg.next (f := fun δ S => (f δ S).bind fun x S1 => .ok [x] S1) s0 E h' fun vs H1 ds S1 ρ1 e1 s1 E1 hv h1 => ?_
  match ds, hv, h1 with
  | [], _, h1 => exact h1.elim
  | _ :: _ :: _, _, h1 => exact h1.elim
  | [dx], hv, h1 =>
    cases er : rngS (.int 0) dx with
    | none => simp only [er] at h1; exact h1.elim
    | some src =>
      obtain ⟨i, j, ei, rfl, z, rfl⟩ := rngS_eq er
      cases ei
      cases hv with
      | cons r t =>
        cases t
        cases r
        simp only [er] at h1
        refine ⟨j, rfl, z.2.2.1, z.2.2.2, ?_⟩
        have := itm_rng (W := W) (ρ := ρ1) (N := S1.length) (H := H1) 0 j
        rw [Int.sub_zero] at this
        exact h1 ρ1 H1 .refl s1 _ this
theorem g_rng2 (hg : Gl X "range") (hm : X.mg "range" = none) (ha : PA X [a, b] (tA W Wx fun δ S => (f δ S).bind fun x S1 => (g δ S1).bind fun y S2 => .ok [x, y] S2)) (hs : starEach [a, b] X.env = [(false, eval a X.env), (false, eval b X.env)]) (hs2 : starEach [b] X.env = [(false, eval b X.env)]) :
    PI X tg (.Call (.Name "range" p) [a, b] [] pos) (iI W Wx fun δ S => (f δ S).bind fun x S1 => (g δ S1).bind fun y S2 => liftO S2 (rngS x y)) := by
  refine ⟨fun pins s σ H R I ⟨δ, S, ρ, s0, E, h⟩ => (pi_range2 hg hm ha hs hs2).run pins s σ H R I ?_⟩
  have h' : Cont W Wx σ (relSrc W) (((f δ S).bind fun x S1 => (g δ S1).bind fun y S2 => .ok [x, y] S2).bind fun xs S2 => match xs with | [x, y] => liftO S2 (rngS x y) | _ => .bad) ρ S.length H R := by
    simp only [Out.bind_assoc]; exact h
  refine rdg.next (f := fun δ S => (f δ S).bind fun x S1 => (g δ S1).bind fun y S2 => .ok [x, y] S2) s0 E h' fun vs H1 ds S1 ρ1 e1 s1 E1 hv h1 => ?_
  match ds, hv, h1 with
  | [], _, h1 => exact h1.elim
  | [_], _, h1 => exact h1.elim
  | _ :: _ :: _ :: _, _, h1 => exact h1.elim
  | [dx, dy], hv, h1 =>
    cases er : rngS dx dy with
    | none => simp only [er] at h1; exact h1.elim
    | some src =>
      obtain ⟨i, j, rfl, rfl, z, rfl⟩ := rngS_eq er
      obtain ⟨v, u, rfl, rv, ru⟩ := RepVs.two hv
      cases rv; cases ru
      simp only [er] at h1
      exact ⟨i, j, rfl, z, h1 ρ1 H1 .refl s1 _ (itm_rng i j)⟩
theorem g_rng3 {c : Expr} {k : DEnv → Store → Out D} (hg : Gl X "range") (hm : X.mg "range" = none) (ha : PA X [a, b, c] (tA W Wx fun δ S => (f δ S).bind fun x S1 => (g δ S1).bind fun y S2 => (k δ S2).bind fun z S3 => .ok [x, y, z] S3)) (hs : starEach [a, b, c] X.env = (false, eval a X.env) :: starEach [b, c] X.env) (hpl : (backTo pos (starEach [b, c] X.env)).any (·.1) = false) :
    PI X tg (.Call (.Name "range" p) [a, b, c] [] pos) (iI W Wx fun δ S => (f δ S).bind fun x S1 => (g δ S1).bind fun y S2 => (k δ S2).bind fun z S3 => liftO S3 (rng3S x y z)) := by
  refine ⟨fun pins s σ H R I ⟨δ, S, ρ, s0, E, h⟩ => (pi_range3 hg hm ha hs hpl).run pins s σ H R I ?_⟩
  have h' : Cont W Wx σ (relSrc W) (((f δ S).bind fun x S1 => (g δ S1).bind fun y S2 => (k δ S2).bind fun z S3 => .ok [x, y, z] S3).bind fun xs S2 => match xs with | [x, y, z] => liftO S2 (rng3S x y z) | _ => .bad) ρ S.length H R := by
    simp only [Out.bind_assoc]; exact h
  refine rdg.next (f := fun δ S => (f δ S).bind fun x S1 => (g δ S1).bind fun y S2 => (k δ S2).bind fun z S3 => .ok [x, y, z] S3) s0 E h' fun vs H1 ds S1 ρ1 e1 s1 E1 hv h1 => ?_
  match ds, hv, h1 with
  | [], _, h1 => exact h1.elim
  | [_], _, h1 => exact h1.elim
  | [_, _], _, h1 => exact h1.elim
  | _ :: _ :: _ :: _ :: _, _, h1 => exact h1.elim
  | [dx, dy, dz], hv, h1 =>
    cases er : rng3S dx dy dz with
    | none => simp only [er] at h1; exact h1.elim
    | some src =>
      simp only [er] at h1
      unfold rng3S at er
      split at er
      · rename_i i j c
        split at er
        · rename_i hc
          cases er
          cases hv with
          | cons r t =>
            obtain ⟨v, u, rfl, rv, ru⟩ := RepVs.two t
            cases r; cases rv; cases ru
            exact ⟨i, j, c, _, rfl, ⟨hc.1, hc.2.1, hc.2.2.1, (Int.toNat_of_nonneg hc.2.2.2).symm⟩, h1 ρ1 H1 .refl s1 _ (itm_rngC i c _)⟩
        · cases er
      · cases er
/-- the walk of a list or of a tuple, as it stands -/
theorem g_zip {elts : List Expr} {kk : Nat} {tpos : Pos} (hK : X.K = W.K) (hg : Gl X "zip") (hm : X.mg "zip" = none) (ha : PA X [a, b] (tA W Wx fun δ S => (f δ S).bind fun x S1 => (g δ S1).bind fun y S2 => .ok [x, y] S2)) (hs : starEach [a, b] X.env = (false, eval a X.env) :: starEach [b] X.env) (hpl : (backTo pos (starEach [b] X.env)).any (·.1) = false) :
    PI X (.Tuple elts kk tpos) (.Call (.Name "zip" p) [a, b] [] pos) (iI W Wx fun δ S => (f δ S).bind fun x S1 => (g δ S1).bind fun y S2 => liftO S2 (zipS x y)) := by
  refine ⟨fun pins s σ H R I ⟨δ, S, ρ, s0, E, h⟩ => (RZ.pi_zipA hg hm ha hs hpl).run pins s σ H R I ?_⟩
  have h' : Cont W Wx σ (relSrc W) (((f δ S).bind fun x S1 => (g δ S1).bind fun y S2 => .ok [x, y] S2).bind fun xs S2 => match xs with | [x, y] => liftO S2 (zipS x y) | _ => .bad) ρ S.length H R := by
    simp only [Out.bind_assoc]; exact h
  refine rdg.next (f := fun δ S => (f δ S).bind fun x S1 => (g δ S1).bind fun y S2 => .ok [x, y] S2) s0 E h' fun vs H1 ds S1 ρ1 e1 s1 E1 hv h1 => ?_
  match ds, hv, h1 with
  | [], _, h1 => exact h1.elim
  | [_], _, h1 => exact h1.elim
  | _ :: _ :: _ :: _, _, h1 => exact h1.elim
  | [dx, dy], hv, h1 =>
    cases er : zipS dx dy with
    | none => simp only [er] at h1; exact h1.elim
    | some src =>
      simp only [er] at h1
      obtain ⟨v, u, rfl, rv, ru⟩ := RepVs.two hv
      unfold zipS at er
      split at er
      · cases er
        cases rv with
        | tup q1 q2 => cases ru with
          | tup q3 q4 => exact ⟨_, _, _, _, rfl, .inr ⟨hK ▸ q1, hK ▸ q3, hK ▸ h1 ρ1 H1 .refl s1 _ (itm_zipT (fun ρ' N' H' e => SqT.ext e q1) (fun ρ' N' H' e => SqT.ext e q3) q2 q4)⟩⟩
      · cases er
        cases rv with
        | lst q1 qn q2 => cases ru with
          | lst q3 qm q4 => exact ⟨_, _, _, _, rfl, .inl ⟨SqL.of q1, SqL.of q3, hK ▸ h1 ρ1 H1 .refl s1 _ (itm_zipL (fun ρ' N' H' e => SqL.of (e.keep _ _ q1 qn.1 fun _ z => nomatch z)) (fun ρ' N' H' e => SqL.of (e.keep _ _ q3 qm.1 fun _ z => nomatch z)) q2 q4)⟩⟩
      · cases er
theorem g_enm {elts : List Expr} {kk : Nat} {tpos : Pos} (hK : X.K = W.K) (hg : Gl X "enumerate") (hm : X.mg "enumerate" = none) (ha : PA X [a] (tA W Wx fun δ S => (f δ S).bind fun x S1 => .ok [x] S1)) (hs : starEach [a] X.env = [(false, eval a X.env)]) :
    PI X (.Tuple elts kk tpos) (.Call (.Name "enumerate" p) [a] [] pos) (iI W Wx fun δ S => (f δ S).bind fun x S1 => liftO S1 (enmS x)) := by
  refine ⟨fun pins s σ H R I ⟨δ, S, ρ, s0, E, h⟩ => (pi_enumA hg hm ha hs).run pins s σ H R I ?_⟩
  have h' : Cont W Wx σ (relSrc W) (((f δ S).bind fun x S1 => .ok [x] S1).bind fun xs S2 => match xs with | [x] => liftO S2 (enmS x) | _ => .bad) ρ S.length H R := by
    simp only [Out.bind_assoc]; exact h
  refine rdg.next (f := fun δ S => (f δ S).bind fun x S1 => .ok [x] S1) s0 E h' fun vs H1 ds S1 ρ1 e1 s1 E1 hv h1 => ?_
  match ds, hv, h1 with
  | [], _, h1 => exact h1.elim
  | _ :: _ :: _, _, h1 => exact h1.elim
  | [dx], hv, h1 =>
    cases er : enmS dx with
    | none => simp only [er] at h1; exact h1.elim
    | some src =>
      simp only [er] at h1
      obtain ⟨v, rfl, rv⟩ := RepVs.one hv
      unfold enmS at er
      split at er
      · cases er
        cases rv with
        | tup q1 q2 => exact .inl ⟨_, _, rfl, .inr ⟨hK ▸ q1, hK ▸ h1 ρ1 H1 .refl s1 _ (itm_enum (itm_tup (fun ρ' N' H' e => SqT.ext e q1) q2))⟩⟩
      · cases er
        cases rv with
        | lst q1 qn q2 => exact .inl ⟨_, _, rfl, .inl ⟨SqL.of q1, hK ▸ h1 ρ1 H1 .refl s1 _ (itm_enum (itm_list (fun ρ' N' H' e => SqL.of (e.keep _ _ q1 qn.1 fun _ z => nomatch z)) q2))⟩⟩
      · cases er
        cases rv with
        | str x hx => exact .inr ⟨_, rfl, h1 ρ1 H1 .refl s1 _ (itm_enum (itm_str hx.2))⟩
      · cases er
def gsR : List Nat → TGs
  | [] => gNil
  | i :: is => gCons (gName i) (gsR is)
def gqR (K : PySem.W.Frag) : List Tgi → TGs
  | [] => gNil
  | .n i :: js => gCons (gName i) (gqR K js)
  | .t is :: js => gCons (gTup K is.length (gsR is)) (gqR K js)
def tgR (K : PySem.W.Frag) : Tg → TG
  | .nm i => gName i
  | .tp is => gTup K is.length (gsR is)
  | .tq js => gTup K js.length (gqR K js)
def setV : List Nat → List V → L2.St → L2.St
  | i :: is, v :: vs, σ => setV is vs (σ.set i (some v))
  | _, _, σ => σ
theorem gsR_ok {K : PySem.W.Frag} {ρ : Rn} {N : Nat} {H : Hp} {Q : L2.St → Hp → Prop} : ∀ {is : List Nat} {ds : List D} {vs : List V} {δ : DEnv} {σ : L2.St}, ds.length = is.length → RepVs K ρ N H ds vs → RepE K ρ N H δ σ → (RepE K ρ N H (setAll is ds δ) (setV is vs σ) → Q (setV is vs σ) H) → gsR is vs σ H Q
  | [], ds, vs, δ, σ, hl, r, e, q => by
    cases r with
    | nil => exact ⟨rfl, q e⟩
    | cons _ _ => simp at hl
  | i :: is, ds, vs, δ, σ, hl, r, e, q => by
    cases r with
    | nil => simp at hl
    | cons r t => exact ⟨_, _, rfl, gsR_ok (by simpa using hl) t (e.set i r) q⟩
theorem wipe_set {σ : L2.St} {vs : List Nat} {i : Nat} {v : Option V} (hi : i ∈ vs) : wipe (σ.set i v) vs = wipe σ vs := by
  induction vs with
  | nil => cases hi
  | cons j vs ih =>
    show (wipe (σ.set i v) vs).set j none = (wipe σ vs).set j none
    by_cases z : i ∈ vs
    · rw [ih z]
    · have hij : i = j := by
        rcases List.mem_cons.mp hi with h | h
        · exact h
        · exact absurd h z
      subst hij
      have : ∀ (us : List Nat) (τ : L2.St), i ∉ us → wipe (τ.set i v) us = (wipe τ us).set i v := by
        intro us
        induction us with
        | nil => intro τ _; rfl
        | cons k us ih2 =>
          intro τ hk
          show (wipe (τ.set i v) us).set k none = ((wipe τ us).set k none).set i v
          rw [ih2 τ (fun z => hk (List.mem_cons_of_mem _ z))]
          exact List.set_comm _ _ (fun z => hk (by rw [z]; exact List.mem_cons_self))
      rw [this vs σ z, List.set_set]
theorem wipe_setV {vs : List Nat} : ∀ {is : List Nat} {us : List V} {σ : L2.St}, (∀ i ∈ is, i ∈ vs) → wipe (setV is us σ) vs = wipe σ vs
  | [], _, _, _ => rfl
  | _ :: _, [], _, _ => rfl
  | i :: is, u :: us, σ, h => by
    show wipe (setV is us (σ.set i (some u))) vs = _
    rw [wipe_setV fun j hj => h j (List.mem_cons_of_mem _ hj), wipe_set (h i List.mem_cons_self)]
theorem wipe_wipe {σ : L2.St} : ∀ (vs : List Nat), wipe (wipe σ vs) vs = wipe σ vs := by
  have key : ∀ (us vs : List Nat) (τ : L2.St), (∀ i ∈ us, i ∈ vs) → wipe (wipe τ us) vs = wipe τ vs := by
    intro us
    induction us with
    | nil => intro vs τ _; rfl
    | cons k us ih =>
      intro vs τ h
      show wipe ((wipe τ us).set k none) vs = _
      rw [wipe_set (h k List.mem_cons_self), ih vs τ fun i hi => h i (List.mem_cons_of_mem _ hi)]
  exact fun vs => key vs vs σ fun _ h => h
theorem RepE.wipe {K : PySem.W.Frag} {ρ : Rn} {N : Nat} {H : Hp} {δ : DEnv} {σ : L2.St} (r : RepE K ρ N H δ σ) : ∀ vs : List Nat, RepE K ρ N H (wipeD δ vs) (wipe σ vs)
  | [] => r
  | j :: vs => by
    have ih := RepE.wipe r vs
    refine ⟨by show ((wipeD δ vs).set j none).length = ((L2.wipe σ vs).set j none).length; simpa using ih.len, fun i d h => ?_⟩
    change ((wipeD δ vs).set j none)[i]? = some (some d) at h
    show ∃ v, ((L2.wipe σ vs).set j none)[i]? = some (some v) ∧ _
    by_cases z : i = j
    · subst z
      by_cases hl : i < (wipeD δ vs).length
      · rw [List.getElem?_set_self hl] at h; cases h
      · rw [List.getElem?_eq_none (by simpa using Nat.le_of_not_lt hl)] at h; cases h
    · rw [List.getElem?_set_ne (Ne.symm z)] at h ⊢
      exact ih.at_ i d h
theorem setQ_len : ∀ {js : List Tgi} {ds : List D} {δ δ' : DEnv}, setQ js ds δ = some δ' → ds.length = js.length
  | [], [], _, _, _ => rfl
  | [], _ :: _, _, _, h => by simp [setQ] at h
  | .n i :: js, [], _, _, h => by simp [setQ] at h
  | .t is :: js, [], _, _, h => by simp [setQ] at h
  | .n i :: js, d :: ds, δ, δ', h => by
    simp only [setQ] at h
    simp [setQ_len h]
  | .t is :: js, d :: ds, δ, δ', h => by
    cases d <;> simp only [setQ] at h <;> try (cases h; done)
    split at h
    · simp [setQ_len h]
    · cases h
theorem gqR_ok {K : PySem.W.Frag} {ρ : Rn} {N : Nat} {H : Hp} {Q : L2.St → Hp → Prop} : ∀ {js : List Tgi} {ds : List D} {vs : List V} {δ δ' : DEnv} {σ : L2.St}, setQ js ds δ = some δ' → RepVs K ρ N H ds vs → RepE K ρ N H δ σ →
    (∀ σ', RepE K ρ N H δ' σ' → (∀ ws : List Nat, (∀ i ∈ js.flatMap Tgi.slots, i ∈ ws) → L2.wipe σ' ws = L2.wipe σ ws) → Q σ' H) → gqR K js vs σ H Q
  | [], ds, vs, δ, δ', σ, hs, r, e, q => by
    cases r with
    | nil => simp only [setQ] at hs; cases hs; exact ⟨rfl, q _ e fun _ _ => rfl⟩
    | cons _ _ => simp [setQ] at hs
  | .n i :: js, ds, vs, δ, δ', σ, hs, r, e, q => by
    cases r with
    | nil => simp [setQ] at hs
    | cons r t =>
      simp only [setQ] at hs
      refine ⟨_, _, rfl, gqR_ok hs t (e.set i r) fun σ' E' hw => q σ' E' fun ws hws => ?_⟩
      have hm : ∀ j ∈ js.flatMap Tgi.slots, j ∈ ws := fun j hj => hws j (by rw [List.flatMap_cons]; exact List.mem_append_right _ hj)
      rw [hw ws hm, wipe_set (hws i (by rw [List.flatMap_cons]; exact List.mem_append_left _ List.mem_cons_self))]
  | .t is :: js, ds, vs, δ, δ', σ, hs, r, e, q => by
    cases r with
    | nil => simp [setQ] at hs
    | @cons d _ _ _ r t =>
      cases d <;> simp only [setQ] at hs <;> try (cases hs; done)
      split at hs
      · rename_i hl
        cases r with
        | tup h1 h2 =>
          refine ⟨_, _, rfl, _, _, rfl, h1, by rw [← h2.length]; exact hl, gsR_ok hl h2 e fun e' => gqR_ok hs t e' fun σ' E' hw => q σ' E' fun ws hws => ?_⟩
          have hm : ∀ j ∈ js.flatMap Tgi.slots, j ∈ ws := fun j hj => hws j (by rw [List.flatMap_cons]; exact List.mem_append_right _ hj)
          rw [hw ws hm, wipe_setV fun j hj => hws j (by rw [List.flatMap_cons]; exact List.mem_append_left _ hj)]
      · cases hs
/-- a target, stored -/
theorem tg_ok {W : Wd} {K : PySem.W.Frag} {ρ : Rn} {N : Nat} {H : Hp} {t : Tg} {d : D} {v : V} {δ δ' : DEnv} {σ : L2.St} {Q : L2.St → Hp → Prop} (hK : K = W.K) (h : tset t d δ = some δ') (r : RepV W.K ρ N H d v) (e : RepE W.K ρ N H δ σ)
    (q : ∀ σ', RepE W.K ρ N H δ' σ' → (∀ vs : List Nat, (∀ i ∈ t.slots, i ∈ vs) → L2.wipe σ' vs = L2.wipe σ vs) → Q σ' H) : tgR K t v σ H Q := by
  subst hK
  cases t with
  | nm i =>
    cases h
    exact q _ (e.set i r) fun vs hv => wipe_set (hv i List.mem_cons_self)
  | tp is =>
    cases d <;> simp only [tset] at h <;> try (cases h; done)
    split at h
    · rename_i hl
      cases h
      cases r with
      | tup h1 h2 =>
        refine ⟨_, _, rfl, h1, by rw [← h2.length]; exact hl, gsR_ok hl h2 e fun e' => q _ e' fun vs hv => wipe_setV hv⟩
    · cases h
  | tq js =>
    cases d <;> simp only [tset] at h <;> try (cases h; done)
    cases r with
    | tup h1 h2 => exact ⟨_, _, rfl, h1, by rw [← h2.length]; exact setQ_len h, gqR_ok h h2 e fun σ' e' hw => q σ' e' hw⟩
end
end PD

set_option Elab.async false
set_option linter.all false
set_option maxRecDepth 100000
namespace PD
open PySem PySem.Spec PyProof.Rows L2

/-- nothing is raised in a block -/
abbrev wNo : WX := fun _ _ _ _ => False
/-- a turn of a comprehension -/
def cBody (t : Tg) (vs : List Nat) (c : DEnv → Store → Out Bool) (el : DEnv → Store → Out D) (δ : DEnv) : D → Store → Out (Option D) := fun x S =>
  (liftO S (tset t x (wipeD δ vs))).bind fun δ' S => (c δ' S).bind fun b S2 => if b then (el δ' S2).bind fun y S3 => .ok (some y) S3 else .ok none S2
section
variable {W : Wd} {Wx : WX} {ρ : Rn} {N : Nat} {H1 : Hp} {p : Addr} {F : D → Store → Out (Option D)} {ds : List D} {R : Out D} {isO : Bool}
/-- behind i turns -/
def LI (W : Wd) (ρ : Rn) (N : Nat) (H1 : Hp) (p : Addr) (F : D → Store → Out (Option D)) (ds : List D) (isO : Bool) (R : Out D) (i : Nat) (H : Hp) : Prop :=
  ∃ S ρ' done acc, RepS W ρ' S H ∧ Ext (ρ.hide p) N (upd H1 p (.lst [])) ρ' S.length (upd H p (.lst [])) ∧ RepVs W.K ρ' S.length H done acc ∧ H p = some (.lst acc) ∧
    (nox (mapL F (ds.drop i) S)).bind (fun ys S2 => mkList isO (done ++ ys) S2) = R
theorem LI.hid {S : Store} {ρ' : Rn} {H : Hp} (e : Ext (ρ.hide p) N (upd H1 p (.lst [])) ρ' S.length (upd H p (.lst []))) : ρ'.hid = p :: ρ.hid := e.hid
theorem LI.end {σ : L2.St} {H : Hp} {Q : VK} (hN : H1 p = none) (hl : p ∉ ρ.hid) (h : LI W ρ N H1 p F ds isO R ds.length H) (q : Cont W Wx σ (relD W) R ρ N H1 Q) : Q (.ref p) H := by
  obtain ⟨S, ρ', done, acc, hS, e, r, hp, hR⟩ := h
  rw [List.drop_length] at hR
  simp only [mapL, nox_ok, Out.bind_ok, List.append_nil] at hR
  subst hR
  have hh : ∀ a ∈ ρ.hid, a ∈ ρ'.hid := fun a ha => by rw [e.hid]; exact List.mem_cons_of_mem _ ha
  have hpp : p ∈ ρ'.hid := by rw [e.hid]; exact List.mem_cons_self
  have e' := e.unh hN hp
  unfold mkList at q
  split at q
  · cases isO with
    | false =>
      refine Cont.ok (ρ' := ρ'.unh ρ.hid) q e' (hS.unh hh) ?_
      exact RepV.lst hp ⟨fun i hi => (hS.hid p hpp).2 i hi, hl⟩ (r.unh hh)
    | true =>
      simp only [if_true] at q
      split at q
      · rename_i hd
        have hl2 : (S ++ [C.lst done]).length = S.length + 1 := by simp
        refine Cont.ok (ρ' := aux (ρ'.unh ρ.hid) S.length p) q ?_ (hS.show_ hh hpp hl hd hp r) ?_
        · rw [hl2]
          exact ⟨Nat.le_succ_of_le e'.le, fun i hi => (aux_ne (Nat.ne_of_lt (Nat.lt_of_lt_of_le hi e'.le))).trans (e'.agree i hi), e'.tups, e'.frzs, e'.keep, e'.there, fun i h1 h2 => by
            by_cases z : i = S.length
            · rw [z, aux_self]; exact hN
            · rw [aux_ne z]; exact e'.fresh i h1 (by omega), rfl, e'.kL, e'.kD⟩
        · have := RepV.obj (K := W.K) (ρ := aux (ρ'.unh ρ.hid) S.length p) (H := H) (N := S.length + 1) (n := S.length) (Nat.lt_succ_self _) ⟨_, by rw [aux_self]; exact hp⟩
          rw [aux_self] at this
          rw [hl2]; exact this
      · exact q.elim
  · exact q.elim
end
theorem nox_ok_of {α β : Type} {W : Wd} {Wx : WX} {σ : L2.St} {rel : Rl α β} {ρ : Rn} {N : Nat} {H : Hp} {γ : Type} {r : Out γ} {g : γ → Store → Out α} {Q : β → Hp → Prop} (h : Cont W Wx σ rel ((nox r).bind g) ρ N H Q) : ∃ a S, r = .ok a S := by
  cases r with
  | ok a S => exact ⟨a, S, rfl⟩
  | exc _ _ => exact h.elim
  | bad => exact h.elim
section
variable {X : Cx} {W : Wd} {Wx : WX} {el tg iter : Expr} {ifs : List Expr} {scope : Scope} {own : List (Str × Nat)} {pos : Pos} {isO : Bool} {t : Tg} {src : DEnv → Store → Out Src} {c : DEnv → Store → Out Bool} {f : DEnv → Store → Out D}
theorem lc_to (hK : X.K = W.K) {σ : L2.St} {H : Hp} {Q : VK} {vs : List Nat} (hv : ∀ i ∈ t.slots, i ∈ vs)
    (h : tD W Wx (fun δ S => (src δ S).bind fun s S1 => (liftO S1 s.items).bind fun ds S1 => (nox (mapL (cBody t vs c f δ) ds S1)).bind fun ys S2 => mkList isO ys S2) σ H Q) :
    tLc (iI W Wx src) (tgR X.K t) (tT W wNo c) (tD W wNo f) vs σ H Q := by
  obtain ⟨δ, S, ρ, s, E, h⟩ := h
  refine rdg.next s E h fun J H1 sr S1 ρ1 e1 s1 E1 r1 h1 => ?_
  obtain ⟨ds, eds, h2⟩ := Cont.oO h1
  have hsr : sr = .st ds := by cases sr with | st _ => cases eds; rfl | lv _ => cases eds
  subst hsr
  intro p hp
  generalize hR : ((nox (mapL (cBody t vs c f δ) ds S1)).bind fun ys S2 => mkList isO ys S2) = R at h2
  have hJ : Itm W ρ1 S1.length H1 ds J := r1
  have hl : p ∉ ρ1.hid := s1.nhid hp
  have E1h : RepE W.K (ρ1.hide p) S1.length (upd H1 p (.lst [])) δ σ := E1.hide hp
  refine ⟨fun i m H => m + i = ds.length ∧ LI W ρ1 S1.length H1 p (cBody t vs c f δ) ds isO R i H, ⟨ds.length, rfl, ?_⟩, fun i m H ⟨hm, hI⟩ => ?_⟩
  · have z : upd (upd H1 p (.lst [])) p (.lst []) = upd H1 p (.lst []) := by funext a; unfold upd; split <;> rfl
    exact ⟨S1, ρ1.hide p, [], [], s1.hide hp, by rw [z]; exact Ext.refl, .nil, upd_same, hR⟩
  · by_cases hi : i < ds.length
    · right
      obtain ⟨S', ρ', done, acc, hS, e, r, hpp, hRR⟩ := id hI
      have eu := e.unh hp hpp
      have hin : p ∈ ρ'.hid := by rw [e.hid]; exact List.mem_cons_self
      have zz : ∀ {xs : List V}, upd (upd H p (.lst xs)) p (.lst acc) = H := by
        intro xs; funext a; unfold upd
        split
        · rename_i q; rw [q, hpp]
        · rfl
      refine ⟨hJ.go _ _ _ _ eu hi, fun H' => ∃ m', m' + 1 = m ∧ (m' + (i + 1) = ds.length ∧ LI W ρ1 S1.length H1 p (cBody t vs c f δ) ds isO R (i + 1) H'), fun H' ⟨m', h1, h2⟩ => ⟨m', by omega, h2⟩, fun x H' hy => ?_⟩
      obtain ⟨d, hd, yd⟩ := hJ.yld _ _ _ _ _ _ eu hi hy
      have hdrop : ds.drop i = d :: ds.drop (i + 1) := by
        rw [List.drop_eq_getElem_cons hi]
        congr 1
        rw [List.getElem?_eq_getElem hi] at hd
        exact Option.some.inj hd
      rw [hdrop] at hRR
      rw [← hRR] at h2
      simp only [mapL] at hRR h2
      obtain ⟨ys, S9, hys⟩ := nox_ok_of h2
      -- the turn's own outcome
      have trH : ∀ {es : List D} {us : List V}, RepVs W.K ρ1 S1.length H1 es us → RepVs W.K ρ' S'.length H es us := fun {es us} r => by
        have r3 : RepVs W.K (ρ1.hide p) S1.length (upd H1 p (.lst [])) es us := RepVs.hide hp r
        have r4 := RepVs.mask (ys := acc) hin upd_same (r3.mono e)
        rw [zz] at r4
        exact r4
      obtain ⟨R2, eY, sY, kY⟩ := yd.to trH
      have E1' : RepE W.K ρ' S'.length H (wipeD δ vs) (L2.wipe σ vs) := by
        have e3 : RepE W.K ρ' S'.length (upd H p (.lst [])) δ σ := E1h.mono e
        have e4 := e3.mask (ys := acc) hin upd_same
        rw [zz] at e4
        exact e4.wipe vs
      replace hS := sY _ hS
      have hppY := kY _ _ hpp
      replace e := e.trans (eY.mask hpp hppY)
      replace r := r.mono eY
      have E2 : RepE W.K ρ' S'.length H' (wipeD δ vs) (L2.wipe σ vs) := E1'.mono eY
      replace hpp := hppY
      cases hb : cBody t vs c f δ d S' with
      | bad => rw [hb] at hys; cases hys
      | exc x' S2 => rw [hb] at hys; cases hys
      | ok ry S2 =>
        rw [hb] at hys hRR
        simp only [Out.bind_ok] at hys hRR
        have hb0 := hb
        unfold cBody at hb
        cases hts : tset t d (wipeD δ vs) with
        | none => rw [hts] at hb; cases hb
        | some δ' =>
          rw [hts] at hb
          simp only [liftO_some, Out.bind_ok] at hb
          refine tg_ok hK hts R2 E2 fun σ' E' hw => ⟨by rw [hw vs hv, wipe_wipe], ?_⟩
          -- the test
          refine ⟨δ', S', ρ', hS, E', ?_⟩
          cases hc : c δ' S' with
          | bad => rw [hc] at hb; cases hb
          | exc x' S3 => rw [hc] at hb; cases hb
          | ok b S3 =>
            rw [hc] at hb
            simp only [Out.bind_ok] at hb
            intro ρ3 H3 e3 hS3 b' hb'
            subst hb'
            have hh3 : ρ3.hid = p :: ρ1.hid := e3.hid.trans e.hid
            have hin3 : p ∈ ρ3.hid := by rw [hh3]; exact List.mem_cons_self
            have hp3 : H3 p = some (.lst acc) := e3.keep p _ hpp (fun i hi => (hS.hid p hin).2 i hi) fun _ z => nomatch z
            have ext3 : Ext (ρ1.hide p) S1.length (upd H1 p (.lst [])) ρ3 S3.length (upd H3 p (.lst [])) := e.trans (e3.mask hpp hp3)
            cases b with
            | true =>
              simp only [if_true] at hb ⊢
              refine ⟨δ', S3, ρ3, hS3, E'.mono e3, ?_⟩
              cases hel : f δ' S3 with
              | bad => rw [hel] at hb; cases hb
              | exc x' S4 => rw [hel] at hb; cases hb
              | ok y S4 =>
                rw [hel] at hb
                simp only [Out.bind_ok, Out.ok.injEq] at hb
                obtain ⟨rfl, rfl⟩ := hb
                intro ρ4 H4 e4 hS4 v hv4
                have hin4 : p ∈ ρ4.hid := by rw [e4.hid]; exact hin3
                have hp4 : H4 p = some (.lst acc) := e4.keep p _ hp3 (fun i hi => (hS3.hid p hin3).2 i hi) fun _ z => nomatch z
                have racc : RepVs W.K ρ4 S4.length H4 done acc := (r.mono e3).mono e4
                refine ⟨acc, hp4, ?_, m - 1, by omega, by omega, S4, ρ4, done ++ [y], acc ++ [v], hS4.mask hin4 hp4, ?_, ?_, upd_same, ?_⟩
                · -- the room
                  rw [← racc.length]
                  cases hm2 : mapL (cBody t vs c f δ) (List.drop (i + 1) ds) S4 with
                  | bad => rw [hm2] at hys; cases hys
                  | exc _ _ => rw [hm2] at hys; cases hys
                  | ok ys2 S5 =>
                    rw [hm2] at hRR
                    simp only [Out.bind_ok, nox_ok] at hRR
                    have hq : Cont W Wx σ (relD W) (mkList isO (done ++ (y :: ys2)) S5) ρ1 S1.length H1 Q := by
                      simp only [hb0, hm2, Out.bind_ok, nox_ok] at h2
                      exact h2
                    unfold mkList at hq
                    split at hq
                    · rename_i hz
                      simp only [List.length_append, List.length_cons] at hz
                      omega
                    · exact hq.elim
                · have z5 : upd (upd H4 p (.lst (acc ++ [v]))) p (.lst []) = upd H4 p (.lst []) := by funext a; unfold upd; split <;> rfl
                  rw [z5]
                  exact ext3.trans (e4.mask hp3 hp4)
                · exact (racc.append (.cons hv4 .nil)).mask hin4 hp4
                · rw [← hRR]
                  cases hm2 : mapL (cBody t vs c f δ) (List.drop (i + 1) ds) S4 with
                  | bad => rfl
                  | exc _ _ => rfl
                  | ok ys2 S5 => simp only [Out.bind_ok, nox_ok, List.append_assoc, List.singleton_append]
            | false =>
              simp only [Bool.false_eq_true, if_false, Out.ok.injEq] at hb ⊢
              obtain ⟨rfl, rfl⟩ := hb
              refine ⟨m - 1, by omega, by omega, S3, ρ3, done, acc, hS3, ext3, r.mono e3, hp3, ?_⟩
              rw [← hRR]
              cases hm2 : mapL (cBody t vs c f δ) (List.drop (i + 1) ds) S3 <;> rfl
    · left
      have hi' : i = ds.length := by omega
      subst hi'
      obtain ⟨S', ρ', done, acc, hS, e, r, hpp, hRR⟩ := id hI
      exact ⟨hJ.stop _ _ _ (e.unh hp hpp), LI.end hp hl hI h2⟩
theorem g_comp (hK : X.K = W.K) (hc : X.calm = true) (hN : X.N.Nodup) (hi : PI X tg iter (iI W Wx src)) (ok : BlkOk X.N X.env.scope scope own) (hv : ∀ i ∈ t.slots, i ∈ own.map (·.2))
    (hg : ∀ (s : Shared) (H : Hp) (C : Addr) (cl : List (Str × Addr)) (fp : List Addr), PG (X.blk s H scope (compEnvC scope cl C X.env) fp) tg (tgR X.K t)) (ht : ∀ (s : Shared) (H : Hp) (C : Addr) (cl : List (Str × Addr)) (fp : List Addr), PTs (X.blk s H scope (compEnvC scope cl C X.env) fp) ifs (tT W wNo c))
    (he : ∀ (s : Shared) (H : Hp) (C : Addr) (cl : List (Str × Addr)) (fp : List Addr), PE (X.blk s H scope (compEnvC scope cl C X.env) fp) el (tD W wNo f)) (hs : ∀ x, foldedSetIterable iter X.env x = pure x) :
    PE X (.ListComp el [⟨tg, iter, ifs, 0⟩] scope pos) (tD W Wx (fun δ S => (src δ S).bind fun s S1 => (liftO S1 s.items).bind fun ds S1 => (nox (mapL (cBody t (own.map (·.2)) c f δ) ds S1)).bind fun ys S2 => mkList isO ys S2)) :=
  PE.of (pe_lc hc hN hi ok hg ht he hs) fun σ H Q h => lc_to hK hv h
end

theorem anys_py {d : D} (hd : d.plain = true) : ∀ {ds : List D}, D.plains ds = true → ((D.pys ds).any fun y => PyData.eqv y d.py) = ds.any fun y => y.eqv d
  | [], _ => rfl
  | x :: xs, h => by
    simp only [D.plains, Bool.and_eq_true] at h
    show (PyData.eqv x.py d.py || (D.pys xs).any fun y => PyData.eqv y d.py) = (x.eqv d || xs.any fun y => y.eqv d)
    rw [D.eqv_py x d h.1 hd, anys_py hd h.2]
section
variable {X : Cx} {W : Wd}
theorem in_core {pins : List (Addr × Obj)} {s : Shared} {σ : L2.St} {H : Hp} {x y : V} {v u : Value} {dx dy : D} {ρ : Rn} {S : Store} {ds : List D} (hK : X.K = W.K) (I : Inv X pins σ H s) (r1 : RelV x v) (r2 : RelV y u) (hS : RepS W ρ S H) (hx : RepV W.K ρ S.length H dx x) (hy : RepV W.K ρ S.length H dy y)
    (hd : dy.seq S = some ds) (z1 : (dx.rd S).plain = true) (z2 : D.plains ds = true) :
    (∃ as bs, Reads s.heap u (.list (D.pys ds)) bs ∧ Reads s.heap v (dx.rd S).py as) ∨ (∃ as bs, Reads s.heap u (.tuple (D.pys ds)) bs ∧ Reads s.heap v (dx.rd S).py as) := by
  obtain ⟨a1, c1⟩ := rd_rep hS hx z1
  rw [← hK] at a1
  obtain ⟨as, e1⟩ := Dp.reads I _ _ _ a1 r1
  obtain ⟨a, vs, rfl, hq, hr⟩ := seq_rep hS hy hd
  have ha := RepVs.dp hr z2
  rw [← hK] at hq ha
  rcases hq with hq | hq
  · obtain ⟨bs, e2⟩ := Dp.reads I (.list (D.pys ds)) _ _ (.lst hq ha) r2
    exact .inl ⟨as, bs, e2, e1⟩
  · obtain ⟨bs, e2⟩ := Dp.reads I (.tuple (D.pys ds)) _ _ (.tup hq ha) r2
    exact .inr ⟨as, bs, e2, e1⟩
theorem op_pIn (hK : X.K = W.K) (hu : X.A.units + 200 < cLine) : OpR X (compareOp .In) (rP W dIn) := by
  intro pins s σ H x y v u Q I r1 r2 h
  obtain ⟨dx, dy, ρ, S, d, hS, hx, hy, e, q⟩ := h
  unfold dIn at e
  split at e
  · cases e
    cases hx; cases hy
    exact op_in_sign pins s σ H _ _ v u Q I r1 r2 ⟨_, _, rfl, rfl, q.here hS (.bl _)⟩
  · rename_i ks vs _
    split at e
    · rename_i hk
      cases e
      cases hy with | @dic a _ _ _ g1 g2 g3 g4 =>
      obtain ⟨k, rfl⟩ := key_rep hx hk
      obtain rfl : u = Value.ref a := r2
      exact d_in (by omega) I (DGet.k g1) r1 fun s' I' => ⟨.bl _, H, I', rfl, by rw [lookD_some hx ⟨g3, g4⟩]; exact q.here hS (.bl _)⟩
    · cases e
  · rename_i n
    split at e
    · rename_i ks vs hcell
      split at e
      · rename_i hk
        cases e
        cases hy with | @dob _ hn hkd =>
        obtain ⟨_, kvs, g1, g3, g4⟩ := hS.dict hcell
        obtain ⟨k, rfl⟩ := key_rep hx hk
        obtain rfl : u = Value.ref (ρ n) := r2
        exact d_in (by omega) I (DGet.k g1) r1 fun s' I' => ⟨.bl _, H, I', rfl, by rw [lookD_some hx ⟨g3, g4⟩]; exact q.here hS (.bl _)⟩
      · cases e
    · cases e
  · split at e
    · rename_i ds hds
      split at e
      · rename_i hz
        cases e
        simp only [Bool.and_eq_true, decide_eq_true_eq] at hz
        obtain ⟨a1, c1⟩ := rd_rep hS hx hz.1.1
        obtain ⟨a, vs, _, hq, hr⟩ := seq_rep hS hy hds
        have lay := RepVs.lay hr hz.1.2
        have hu2 : X.A.units + 1 + min (PyData.depthAll (D.pys ds)) (dx.rd S).py.depth < cLine := by rw [D.depth_py _ hz.1.1]; have := hz.2; omega
        have fin : EP X pins σ Q (.bool ((D.pys ds).any fun y => PyData.eqv y (dx.rd S).py)) s := ⟨.bl _, H, I, rfl, by rw [anys_py hz.1.1 hz.1.2]; exact q.here hS (.bl _)⟩
        rcases in_core hK I r1 r2 hS hx hy hds hz.1.1 hz.1.2 with ⟨as, bs, e2, e1⟩ | ⟨as, bs, e2, e1⟩
        · exact SeqAt.in_list_reads e2 e1 lay c1 hu2 fin
        · exact SeqAt.in_tuple_reads e2 e1 lay c1 hu2 fin
      · cases e
    · cases e
theorem op_pNotIn (hK : X.K = W.K) (hu : X.A.units + 200 < cLine) : OpR X (compareOp .NotIn) (rP W dNotIn) := by
  intro pins s σ H x y v u Q I r1 r2 h
  obtain ⟨dx, dy, ρ, S, d, hS, hx, hy, e, q⟩ := h
  unfold dNotIn at e
  split at e
  · rename_i b hb
    cases e
    unfold dIn at hb
    split at hb
    · cases hb
      cases hx; cases hy
      exact op_notIn_sign pins s σ H _ _ v u Q I r1 r2 ⟨_, _, rfl, rfl, q.here hS (.bl _)⟩
    · rename_i ks vs _
      split at hb
      · rename_i hk
        cases hb
        cases hy with | @dic a _ _ _ g1 g2 g3 g4 =>
        obtain ⟨k, rfl⟩ := key_rep hx hk
        obtain rfl : u = Value.ref a := r2
        exact d_notIn (by omega) I (DGet.k g1) r1 fun s' I' => ⟨.bl _, H, I', rfl, by rw [lookD_some hx ⟨g3, g4⟩]; exact q.here hS (.bl _)⟩
      · cases hb
    · rename_i n
      split at hb
      · rename_i ks vs hcell
        split at hb
        · rename_i hk
          cases hb
          cases hy with | @dob _ hn hkd =>
          obtain ⟨_, kvs, g1, g3, g4⟩ := hS.dict hcell
          obtain ⟨k, rfl⟩ := key_rep hx hk
          obtain rfl : u = Value.ref (ρ n) := r2
          exact d_notIn (by omega) I (DGet.k g1) r1 fun s' I' => ⟨.bl _, H, I', rfl, by rw [lookD_some hx ⟨g3, g4⟩]; exact q.here hS (.bl _)⟩
        · cases hb
      · cases hb
    · split at hb
      · rename_i ds hds
        split at hb
        · rename_i hz
          cases hb
          simp only [Bool.and_eq_true, decide_eq_true_eq] at hz
          obtain ⟨a1, c1⟩ := rd_rep hS hx hz.1.1
          obtain ⟨a, vs, _, hq, hr⟩ := seq_rep hS hy hds
          have lay := RepVs.lay hr hz.1.2
          have hu2 : X.A.units + 1 + min (PyData.depthAll (D.pys ds)) (dx.rd S).py.depth < cLine := by rw [D.depth_py _ hz.1.1]; have := hz.2; omega
          have fin : EP X pins σ Q (.bool (!(D.pys ds).any fun y => PyData.eqv y (dx.rd S).py)) s := ⟨.bl _, H, I, rfl, by rw [anys_py hz.1.1 hz.1.2]; exact q.here hS (.bl _)⟩
          rcases in_core hK I r1 r2 hS hx hy hds hz.1.1 hz.1.2 with ⟨as, bs, e2, e1⟩ | ⟨as, bs, e2, e1⟩
          · exact SeqAt.notIn_list_reads e2 e1 lay c1 hu2 fin
          · exact SeqAt.notIn_tuple_reads e2 e1 lay c1 hu2 fin
        · cases hb
      · cases hb
  · cases e
end
section
variable {X : Cx} {W : Wd} {Wx : WX} {o e : Expr} {f g : DEnv → Store → Out D} {apos cpos pos p p2 : Pos}
theorem asO_rep {ρ : Rn} {N : Nat} {H : Hp} {K : PySem.W.Frag} {d : D} {v : V} {n : Nat} (h : d.asO = some n) (r : RepV K ρ N H d v) : v = .ref (ρ n) ∧ n < N ∧ ∃ xs, H (ρ n) = some (.lst xs) := by
  cases r <;> first | (cases h; done) | skip
  rename_i hn hk
  cases h; exact ⟨rfl, hn, hk⟩
theorem cell_at {ρ : Rn} {S : Store} {H : Hp} {n : Nat} (s : RepS W ρ S H) (h : n < S.length) (k : ∃ xs, H (ρ n) = some (.lst xs)) : ∃ ds vs, S[n]? = some (.lst ds) ∧ ds.all D.pure = true ∧ H (ρ n) = some (.lst vs) ∧ RepVs W.K ρ S.length H ds vs := by
  obtain ⟨ds, hl⟩ := s.lstAt h k
  obtain ⟨hp, vs, q1, q2⟩ := s.list hl
  exact ⟨ds, vs, hl, hp, q1, q2⟩
theorem g_app (hK : X.K = W.K) (ho : PE X o (tD W Wx f)) (he : PE X e (tD W Wx g)) (hs : starEach [e] X.env = (false, eval e X.env) :: starEach [] X.env) (hbase : attributeBase o "append" X.env (eval o X.env) = eval o X.env)
    (hline : (apos.endLine == cpos.line) = true) :
    PE X (.Call (.Attribute o "append" apos) [e] [] cpos) (tD W Wx fun δ S => (f δ S).bind fun x S1 => (liftO S1 x.asO).bind fun n S1 => (g δ S1).bind fun y S2 => appF n y S2) := by
  refine PE.of (pe_bm PySem.F.plainAttrs_list PySem.F.slot_list_append PySem.F.type_list_append mt_append ho (g_cons he g_nil hs) hbase (by rw [hs]; rfl) hline hs rfl) fun σ H Q ⟨δ, S, ρ, s, E, h⟩ => ?_
  refine rdg.next s E h fun x H1 dx S1 ρ1 e1 s1 E1 r1 h1 => ?_
  obtain ⟨n, en, h2⟩ := Cont.oO h1
  obtain ⟨rfl, hn, hk⟩ := asO_rep en r1
  obtain ⟨ds, vs, _, _, hv, _⟩ := cell_at s1 hn hk
  refine ⟨.inl ⟨rfl, _, SqL.of hv⟩, ?_⟩
  have h3 : Cont W Wx σ (relD W) (((g δ S1).bind fun y S2 => (Out.ok [] S2).bind fun (xs : List D) S3 => Out.ok (y :: xs) S3).bind fun ys S2 => match ys with | [y] => appF n y S2 | _ => .bad) ρ1 S1.length H1 Q := by
    simp only [Out.bind_assoc, Out.bind_ok]; exact h2
  refine rdg.next (f := fun δ S => (g δ S).bind fun y S2 => (Out.ok [] S2).bind fun (xs : List D) S3 => Out.ok (y :: xs) S3) s1 E1 h3 fun ws H2 dys S2 ρ2 e2 s2 E2 r2 h4 => ?_
  match dys, r2, h4 with
  | [], _, h4 => exact h4.elim
  | _ :: _ :: _, _, h4 => exact h4.elim
  | [dy], r2, h4 =>
    obtain ⟨w, rfl, rw_⟩ := RepVs.one r2
    have hn2 : n < S2.length := Nat.lt_of_lt_of_le hn e2.le
    have hk2 : ∃ xs, H2 (ρ2 n) = some (.lst xs) := by rw [e2.agree n hn]; exact e2.kL n hn hk
    obtain ⟨ds2, vs2, hc, hp, hv2, hr2⟩ := cell_at s2 hn2 hk2
    have eρ : ρ1 n = ρ2 n := (e2.agree n hn).symm
    change Cont W Wx σ (relD W) (appF n dy S2) ρ2 S2.length H2 Q at h4
    unfold appF at h4
    rw [hc] at h4
    simp only at h4
    split at h4
    · rename_i hz
      simp only [Bool.and_eq_true, decide_eq_true_eq] at hz
      refine ⟨ρ1 n, vs2, w, rfl, rfl, by rw [eρ]; exact hv2, by rw [← hr2.length]; exact hz.2, ?_⟩
      rw [eρ]
      have rr : RepVs W.K ρ2 S2.length H2 (ds2 ++ [dy]) (vs2 ++ [w]) := hr2.append (.cons rw_ .nil)
      have := s2.put hn2 hv2 (ds := ds2 ++ [dy]) (by simp [hp, hz.1]) rr
      refine Cont.ok h4 ?_ this .non
      rw [List.length_set]
      exact Ext.put hn2 hv2
    · exact h4.elim
theorem vseq_rep {ρ : Rn} {S : Store} {H : Hp} {d : D} {v : V} {ds : List D} (s : RepS W ρ S H) (r : RepV W.K ρ S.length H d v) (h : d.vseq S = some ds) : ∃ a vs, v = .ref a ∧ H a = some (.lst vs) ∧ RepVs W.K ρ S.length H ds vs := by
  cases r with
  | lst h1 h2 h3 => cases h; exact ⟨_, _, rfl, h1, h3⟩
  | @obj n hn hk =>
    obtain ⟨ds2, vs, hc, hp, hv, hr⟩ := cell_at s hn hk
    simp only [D.vseq, hc] at h
    cases h
    exact ⟨_, _, rfl, hv, hr⟩
  | _ => cases h
theorem g_mulO (ha : PE X a (tD W Wx f)) (hb : PE X b (tD W Wx g)) : PE X (.BinOp a .Mult b pos) (tD W Wx fun δ S => (f δ S).bind fun x S1 => (g δ S1).bind fun y S2 => binOF .mul x y S2) := by
  refine PE.of (pe_op op_rep ha hb) fun σ H Q ⟨δ, S, ρ, s, E, h⟩ => ?_
  refine rdg.next s E h fun x H1 dx S1 ρ1 e1 s1 E1 r1 h1 => rdg.next s1 E1 h1 fun y H2 dy S2 ρ2 e2 s2 E2 r2 h2 => ?_
  have r1' := RepV.mono e2 r1
  unfold binOF at h2
  split at h2
  · rename_i ds j _
    split at h2
    · rename_i hz
      cases r1' with | lst hh n1 a1 => cases r2 with | int _ =>
      obtain ⟨m1, m2⟩ := mkList_at h2 s2 (a1.rep j.toNat)
      exact ⟨_, _, _, rfl, rfl, hh, by omega, by omega, by rw [← a1.length]; exact hz.2.2, m2⟩
    · exact h2.elim
  · rename_i hz; cases hz
  · exact h2.elim
theorem g_addO (ha : PE X a (tD W Wx f)) (hb : PE X b (tD W Wx g)) : PE X (.BinOp a .Add b pos) (tD W Wx fun δ S => (f δ S).bind fun x S1 => (g δ S1).bind fun y S2 => binOF .add x y S2) := by
  refine PE.of (pe_op op_cat ha hb) fun σ H Q ⟨δ, S, ρ, s, E, h⟩ => ?_
  refine rdg.next s E h fun x H1 dx S1 ρ1 e1 s1 E1 r1 h1 => rdg.next s1 E1 h1 fun y H2 dy S2 ρ2 e2 s2 E2 r2 h2 => ?_
  have r1' := RepV.mono e2 r1
  have h3 : Cont W Wx σ (relD W) (match dx.vseq S2, dy.vseq S2 with
    | some a, some b => if a.length + b.length ≤ sizeLine then mkList true (a ++ b) S2 else .bad
    | _, _ => .bad) ρ2 S2.length H2 Q := h2
  cases e1 : dx.vseq S2 with
  | none => rw [e1] at h3; exact h3.elim
  | some as =>
    cases e2 : dy.vseq S2 with
    | none => rw [e1, e2] at h3; exact h3.elim
    | some bs =>
      rw [e1, e2] at h3
      simp only at h3
      split at h3
      · rename_i hz
        obtain ⟨p1, v1, rfl, q1, t1⟩ := vseq_rep s2 r1' e1
        obtain ⟨p2, v2, rfl, q2, t2⟩ := vseq_rep s2 r2 e2
        obtain ⟨m1, m2⟩ := mkList_at h3 s2 (t1.append t2)
        exact ⟨_, _, _, _, rfl, rfl, q1, q2, by rw [← t1.length, ← t2.length]; exact hz, m2⟩
      · exact h3.elim
theorem mkDic_at {σ : L2.St} {ρ : Rn} {S : Store} {H : Hp} {Q : V → Hp → Prop} {ks vs : List D} {kvs : List (Key × V)} {p : Addr} (h : Cont W Wx σ (relD W) (mkDic ks vs S) ρ S.length H Q) (s : RepS W ρ S H) (r : RepK W.K ρ S.length H ks vs kvs) (hp : H p = none) : Q (.ref p) (upd H p (.dK kvs)) := by
  unfold mkDic at h
  split at h
  · rename_i hz
    have hl : (S ++ [C.dic ks vs]).length = S.length + 1 := by simp
    have hc : RepC W.K (aux ρ S.length p) (S.length + 1) (upd H p (.dK kvs)) p (.dic ks vs) := ⟨hz, kvs, upd_same, r.1.mono (Ext.cell hp), r.2.mono (Ext.cell hp)⟩
    refine Cont.ok (ρ' := aux ρ S.length p) h (by rw [hl]; exact Ext.cell hp) (s.cell hp hc) ?_
    show RepV _ _ _ _ (.dob S.length) (.ref p)
    have := RepV.dob (K := W.K) (ρ := aux ρ S.length p) (H := upd H p (.dK kvs)) (N := S.length + 1) (n := S.length) (Nat.lt_succ_self _) ⟨kvs, by rw [aux_self]; exact upd_same⟩
    rw [aux_self] at this
    rw [hl]; exact this
  · exact h.elim
theorem g_dnew : PE X (.Dict [] [] pos) (tD W Wx fun _ S => mkDic [] [] S) :=
  PE.of pe_dnewK fun σ H Q ⟨δ, S, ρ, s, E, h⟩ => fun p hp => mkDic_at h s RepK.nil hp
theorem g_dictO {x1 : Pos} (hK : X.K = W.K) (hc : X.calm = true) (hg : Gl X "dict") (hm : X.mg "dict" = none) (he : PE X e (tD W Wx f)) (hs : starEach [e] X.env = (false, eval e X.env) :: starEach [] X.env) :
    PE X (.Call (.Name "dict" x1) [e] [] pos) (tD W Wx fun δ S => (f δ S).bind fun x S1 => (liftO S1 (dictP x S1)).bind fun p S1 => mkDic p.1 p.2 S1) := by
  refine PE.of (pe_callTy (call_dictP hc) hg hm PyProof.Rows.boot_dict (g_cons he g_nil hs) (by decide +kernel) (by decide +kernel) hs) fun σ H Q ⟨δ, S, ρ, s, E, h⟩ => ?_
  have h3 : Cont W Wx σ (relD W) (((f δ S).bind fun x S1 => (Out.ok [] S1).bind fun (xs : List D) S2 => Out.ok (x :: xs) S2).bind fun ys S2 => match ys with | [y] => (liftO S2 (dictP y S2)).bind fun p S3 => mkDic p.1 p.2 S3 | _ => .bad) ρ S.length H Q := by
    simp only [Out.bind_assoc, Out.bind_ok]; exact h
  refine rdg.next (f := fun δ S => (f δ S).bind fun x S1 => (Out.ok [] S1).bind fun (xs : List D) S2 => Out.ok (x :: xs) S2) s E h3 fun ws H2 dys S2 ρ2 e2 s2 E2 r2 h4 => ?_
  match dys, r2, h4 with
  | [], _, h4 => exact h4.elim
  | _ :: _ :: _, _, h4 => exact h4.elim
  | [dy], r2, h4 =>
    obtain ⟨w, rfl, rw_⟩ := RepVs.one r2
    obtain ⟨⟨ks, vs⟩, ed, h5⟩ := Cont.oO h4
    unfold dictP at ed
    obtain ⟨ds, hd, hp⟩ := Option.bind_eq_some_iff.mp ed
    obtain ⟨a, us, rfl, hq, hr⟩ := lseq_rep s2 rw_ hd
    obtain ⟨ps, kvs, rfl, q2, q3⟩ := pairsD_rep hr RepK.nil hp
    exact ⟨_, ps, kvs, rfl, hK ▸ hq, hK ▸ q2, fun p hp => mkDic_at h5 s2 q3 hp⟩
theorem plains_at : ∀ {ds : List D} {j : Nat} {d : D}, D.plains ds = true → ds[j]? = some d → d.plain = true
  | x :: ds, 0, d, h, e => by simp at e; subst e; simp only [D.plains, Bool.and_eq_true] at h; exact h.1
  | x :: ds, j + 1, d, h, e => by simp only [D.plains, Bool.and_eq_true] at h; exact plains_at h.2 (by simpa using e)
theorem g_tupz {x1 : Pos} (hK : X.K = W.K) (hg : Gl X "tuple") (hm : X.mg "tuple" = none) (he : PE X e (tD W Wx f)) (hs : starEach [e] X.env = (false, eval e X.env) :: starEach [] X.env) :
    PE X (.Call (.Name "tuple" x1) [e] [] pos) (tD W Wx fun δ S => (f δ S).bind fun x S1 => lift S1 (tupzF x S1)) := by
  refine PE.of (pe_callTy call_tupleZ hg hm PyProof.Rows.boot_tuple (g_cons he g_nil hs) (by decide +kernel) (by decide +kernel) hs) fun σ H Q ⟨δ, S, ρ, s, E, h⟩ => ?_
  have h3 : Cont W Wx σ (relD W) (((f δ S).bind fun x S1 => (Out.ok [] S1).bind fun (xs : List D) S2 => Out.ok (x :: xs) S2).bind fun ys S2 => match ys with | [y] => lift S2 (tupzF y S2) | _ => .bad) ρ S.length H Q := by
    simp only [Out.bind_assoc, Out.bind_ok]; exact h
  refine rdg.next (f := fun δ S => (f δ S).bind fun x S1 => (Out.ok [] S1).bind fun (xs : List D) S2 => Out.ok (x :: xs) S2) s E h3 fun ws H2 dys S2 ρ2 e2 s2 E2 r2 h4 => ?_
  match dys, r2, h4 with
  | [], _, h4 => exact h4.elim
  | _ :: _ :: _, _, h4 => exact h4.elim
  | [dy], r2, h4 =>
    obtain ⟨w, rfl, rw_⟩ := RepVs.one r2
    obtain ⟨d, ed, h5⟩ := Cont.oK h4
    unfold tupzF at ed
    obtain ⟨ds, hd, rfl⟩ := Option.map_eq_some_iff.mp ed
    obtain ⟨a, us, rfl, hq, hr⟩ := lseq_rep s2 rw_ hd
    exact ⟨_, us, rfl, hK ▸ hq, fun p o hp ho => h5 _ _ (Ext.new hp) (s2.new hp) (.st upd_same ho (hr.mono (Ext.new hp)))⟩
theorem g_unz (he : PE X e (tD W Wx f)) : PE X e (tD W Wx fun δ S => (f δ S).bind fun x S1 => lift S1 (unzF x)) := by
  refine PE.of he fun σ H Q ⟨δ, S, ρ, s, E, h⟩ => rdg.next s E h fun x H1 dx S1 ρ1 e1 s1 E1 r1 h1 => ?_
  obtain ⟨d, ed, q⟩ := Cont.oK h1
  unfold unzF at ed
  split at ed
  · cases ed
    cases r1 with | st q1 q2 q3 =>
    exact q.here s1 (.tup (.inl (.inr ⟨_, q1⟩)) q3)
  · cases ed
theorem g_dictZ {x1 : Pos} (hc : X.calm = true) (hK : X.K = W.K) (hg : Gl X "dict") (hm : X.mg "dict" = none) (he : PE X e (tD W Wx f)) (hs : starEach [e] X.env = (false, eval e X.env) :: starEach [] X.env) :
    PE X (.Call (.Name "dict" x1) [e] [] pos) (tD W Wx fun δ S => (f δ S).bind fun x S1 => lift S1 (dictZF x)) := by
  refine PE.of (pe_callTy (call_dictT hc) hg hm PyProof.Rows.boot_dict (g_cons he g_nil hs) (by decide +kernel) (by decide +kernel) hs) fun σ H Q ⟨δ, S, ρ, s, E, h⟩ => ?_
  have h3 : Cont W Wx σ (relD W) (((f δ S).bind fun x S1 => (Out.ok [] S1).bind fun (xs : List D) S2 => Out.ok (x :: xs) S2).bind fun ys S2 => match ys with | [y] => lift S2 (dictZF y) | _ => .bad) ρ S.length H Q := by
    simp only [Out.bind_assoc, Out.bind_ok]; exact h
  refine rdg.next (f := fun δ S => (f δ S).bind fun x S1 => (Out.ok [] S1).bind fun (xs : List D) S2 => Out.ok (x :: xs) S2) s E h3 fun ws H2 dys S2 ρ2 e2 s2 E2 r2 h4 => ?_
  match dys, r2, h4 with
  | [], _, h4 => exact h4.elim
  | _ :: _ :: _, _, h4 => exact h4.elim
  | [dy], r2, h4 =>
    obtain ⟨w, rfl, rw_⟩ := RepVs.one r2
    obtain ⟨d, ed, h5⟩ := Cont.oK h4
    unfold dictZF at ed
    split at ed
    · obtain ⟨⟨ks, vs⟩, hp, rfl⟩ := Option.map_eq_some_iff.mp ed
      cases rw_ with | st q1 q2 q3 =>
      obtain ⟨ps, kvs, rfl, q4, q5⟩ := pairsD_rep q3 RepK.nil hp
      exact ⟨_, _, ps, kvs, rfl, q1, q2, hK ▸ q4, fun p hp => h5.dic s2 q5 hp⟩
    · cases ed
theorem g_listO {x1 : Pos} (hK : X.K = W.K) (hg : Gl X "list") (hm : X.mg "list" = none) (he : PE X e (tD W Wx f)) (hs : starEach [e] X.env = (false, eval e X.env) :: starEach [] X.env) :
    PE X (.Call (.Name "list" x1) [e] [] pos) (tD W Wx fun δ S => (f δ S).bind fun x S1 => (liftO S1 (x.seq S1)).bind fun ds S1 => mkList true ds S1) := by
  refine PE.of (pe_callTy call_list_of hg hm PyProof.Rows.boot_list (g_cons he g_nil hs) (by decide +kernel) (by decide +kernel) hs) fun σ H Q ⟨δ, S, ρ, s, E, h⟩ => ?_
  have h3 : Cont W Wx σ (relD W) (((f δ S).bind fun x S1 => (Out.ok [] S1).bind fun (xs : List D) S2 => Out.ok (x :: xs) S2).bind fun ys S2 => match ys with | [y] => (liftO S2 (y.seq S2)).bind fun ds S3 => mkList true ds S3 | _ => .bad) ρ S.length H Q := by
    simp only [Out.bind_assoc, Out.bind_ok]; exact h
  refine rdg.next (f := fun δ S => (f δ S).bind fun x S1 => (Out.ok [] S1).bind fun (xs : List D) S2 => Out.ok (x :: xs) S2) s E h3 fun ws H2 dys S2 ρ2 e2 s2 E2 r2 h4 => ?_
  match dys, r2, h4 with
  | [], _, h4 => exact h4.elim
  | _ :: _ :: _, _, h4 => exact h4.elim
  | [dy], r2, h4 =>
    obtain ⟨w, rfl, rw_⟩ := RepVs.one r2
    obtain ⟨ds, ed, h5⟩ := Cont.oO h4
    obtain ⟨a, vs, rfl, hq, hr⟩ := seq_rep s2 rw_ ed
    exact ⟨_, _, rfl, hK ▸ hq, (mkList_at h5 s2 hr).2⟩
theorem pys_get : ∀ {ds : List D} {j : Nat} {d : D}, ds[j]? = some d → (D.pys ds)[j]? = some d.py
  | _ :: _, 0, _, h => by simp at h; subst h; rfl
  | _ :: ds, j + 1, d, h => by simp only [D.pys, List.getElem?_cons_succ]; exact pys_get (by simpa using h)
theorem pys_getR : ∀ {ds : List D} {j : Nat} {z : PyData}, (D.pys ds)[j]? = some z → ∃ d, ds[j]? = some d ∧ z = d.py
  | [], _, _, h => by simp [D.pys] at h
  | d :: _, 0, _, h => by simp [D.pys] at h; exact ⟨d, rfl, h.symm⟩
  | _ :: ds, j + 1, z, h => by
    simp only [D.pys, List.getElem?_cons_succ] at h
    obtain ⟨d, h1, h2⟩ := pys_getR h
    exact ⟨d, by simpa using h1, h2⟩
theorem g_lidx (hK : X.K = W.K) (hu : X.A.units + 65 < cLine) (ho : PE X o (tD W Wx f)) (he : PE X e (tD W Wx g)) (hs : starEach [e] X.env = (false, eval e X.env) :: starEach [] X.env) (hbase : attributeBase o "index" X.env (eval o X.env) = eval o X.env)
    (hline : (apos.endLine == cpos.line) = true) :
    PE X (.Call (.Attribute o "index" apos) [e] [] cpos) (tD W Wx fun δ S => (f δ S).bind fun x S1 => (liftO S1 (x.lseq S1)).bind fun _ S1 => (g δ S1).bind fun y S2 => lift S2 (lidxF x y S2)) := by
  refine PE.of (pe_bm PySem.F.plainAttrs_list PySem.F.slot_list_index PySem.F.type_list_index (mt_indexD hu) ho (g_cons he g_nil hs) hbase (by rw [hs]; rfl) hline hs rfl) fun σ H Q ⟨δ, S, ρ, s, E, h⟩ => ?_
  refine rdg.next s E h fun x H1 dx S1 ρ1 e1 s1 E1 r1 h1 => ?_
  obtain ⟨ds0, ed0, h2⟩ := Cont.oO h1
  obtain ⟨a0, vs0, e0, hq0, _⟩ := lseq_rep s1 r1 ed0
  rw [← hK] at hq0
  refine ⟨by rw [e0]; exact .inl ⟨rfl, _, hq0⟩, ?_⟩
  have h3 : Cont W Wx σ (relD W) (((g δ S1).bind fun y S2 => (Out.ok [] S2).bind fun (xs : List D) S3 => Out.ok (y :: xs) S3).bind fun ys S2 => match ys with | [y] => lift S2 (lidxF dx y S2) | _ => .bad) ρ1 S1.length H1 Q := by
    simp only [Out.bind_assoc, Out.bind_ok]; exact h2
  refine rdg.next (f := fun δ S => (g δ S).bind fun y S2 => (Out.ok [] S2).bind fun (xs : List D) S3 => Out.ok (y :: xs) S3) s1 E1 h3 fun ws H2 dys S2 ρ2 e2 s2 E2 r2 h4 => ?_
  match dys, r2, h4 with
  | [], _, h4 => exact h4.elim
  | _ :: _ :: _, _, h4 => exact h4.elim
  | [dy], r2, h4 =>
    obtain ⟨w, rfl, rw_⟩ := RepVs.one r2
    obtain ⟨d, ed, q⟩ := Cont.oK h4
    unfold lidxF at ed
    obtain ⟨ds, hd, ed⟩ := Option.bind_eq_some_iff.mp ed
    split at ed
    · rename_i hz
      simp only [Bool.and_eq_true, decide_eq_true_eq] at hz
      obtain ⟨j, hj, rfl⟩ := Option.map_eq_some_iff.mp ed
      obtain ⟨⟨⟨z1, z2⟩, z3⟩, z4⟩ := hz
      obtain ⟨a, vs, rfl, hq, hr⟩ := lseq_rep s2 (r1.mono e2) hd
      obtain ⟨a1, c1⟩ := rd_rep s2 rw_ z1
      have ha := RepVs.dp hr z2
      have hl := RepVs.lay hr z2
      rw [← hK] at hq ha a1
      rw [List.findIdx?_eq_some_iff_getElem] at hj
      obtain ⟨hjl, hj1, hj2⟩ := hj
      have hg : ds[j]? = some ds[j] := List.getElem?_eq_getElem hjl
      refine ⟨a, w, (dy.rd S2).py, D.pys ds, j, (ds[j]).py, rfl, rfl, .lst hq ha, a1, ?_, ?_, pys_get hg, ?_, ?_, q.here s2 (.int _)⟩
      · unfold SeqAt.shaped
        rw [Bool.and_eq_true, decide_eq_true_eq]
        refine ⟨by simpa only [PyData.canLay0] using hl, ?_⟩
        have : (PyData.list (D.pys ds)).depth = PyData.depthAll (D.pys ds) + 1 := rfl
        rw [this, D.depths_py _ z2]; omega
      · unfold SeqAt.shaped
        rw [Bool.and_eq_true, decide_eq_true_eq]
        exact ⟨c1, by rw [D.depth_py _ z1]; omega⟩
      · rw [D.eqv_py _ _ (plains_at z2 hg) z1]; exact hj1
      · intro m z' hm hz'
        obtain ⟨d', hd', rfl⟩ := pys_getR hz'
        rw [D.eqv_py _ _ (plains_at z2 hd') z1]
        have hml : m < ds.length := by omega
        have : ds[m] = d' := by rw [List.getElem?_eq_getElem hml] at hd'; exact Option.some.inj hd'
        have := hj2 m hm
        rw [Bool.not_eq_true] at this
        rw [← this]
        simp only [*]
    · cases ed
theorem g_ext (hK : X.K = W.K) (ho : PE X o (tD W Wx f)) (he : PE X e (tD W Wx g)) (hs : starEach [e] X.env = (false, eval e X.env) :: starEach [] X.env) (hbase : attributeBase o "extend" X.env (eval o X.env) = eval o X.env)
    (hline : (apos.endLine == cpos.line) = true) :
    PE X (.Call (.Attribute o "extend" apos) [e] [] cpos) (tD W Wx fun δ S => (f δ S).bind fun x S1 => (liftO S1 x.asO).bind fun n S1 => (g δ S1).bind fun y S2 => extF n y S2) := by
  refine PE.of (pe_bm PySem.F.plainAttrs_list PySem.F.slot_list_extend PySem.F.type_list_extend mt_extend ho (g_cons he g_nil hs) hbase (by rw [hs]; rfl) hline hs rfl) fun σ H Q ⟨δ, S, ρ, s, E, h⟩ => ?_
  refine rdg.next s E h fun x H1 dx S1 ρ1 e1 s1 E1 r1 h1 => ?_
  obtain ⟨n, en, h2⟩ := Cont.oO h1
  obtain ⟨rfl, hn, hk⟩ := asO_rep en r1
  obtain ⟨ds, vs, _, _, hv, _⟩ := cell_at s1 hn hk
  refine ⟨.inl ⟨rfl, _, SqL.of hv⟩, ?_⟩
  have h3 : Cont W Wx σ (relD W) (((g δ S1).bind fun y S2 => (Out.ok [] S2).bind fun (xs : List D) S3 => Out.ok (y :: xs) S3).bind fun ys S2 => match ys with | [y] => extF n y S2 | _ => .bad) ρ1 S1.length H1 Q := by
    simp only [Out.bind_assoc, Out.bind_ok]; exact h2
  refine rdg.next (f := fun δ S => (g δ S).bind fun y S2 => (Out.ok [] S2).bind fun (xs : List D) S3 => Out.ok (y :: xs) S3) s1 E1 h3 fun ws H2 dys S2 ρ2 e2 s2 E2 r2 h4 => ?_
  match dys, r2, h4 with
  | [], _, h4 => exact h4.elim
  | _ :: _ :: _, _, h4 => exact h4.elim
  | [dy], r2, h4 =>
    obtain ⟨w, rfl, rw_⟩ := RepVs.one r2
    have hn2 : n < S2.length := Nat.lt_of_lt_of_le hn e2.le
    have hk2 : ∃ xs, H2 (ρ2 n) = some (.lst xs) := by rw [e2.agree n hn]; exact e2.kL n hn hk
    obtain ⟨ds2, vs2, hc, hp, hv2, hr2⟩ := cell_at s2 hn2 hk2
    have eρ : ρ1 n = ρ2 n := (e2.agree n hn).symm
    change Cont W Wx σ (relD W) (extF n dy S2) ρ2 S2.length H2 Q at h4
    unfold extF at h4
    rw [hc] at h4
    cases hes : dy.vseq S2 with
    | none => rw [hes] at h4; exact h4.elim
    | some es =>
      rw [hes] at h4
      simp only at h4
      obtain ⟨b, us, rfl, hb, hr3⟩ := vseq_rep s2 rw_ hes
      split at h4
      · rename_i hz
        simp only [Bool.and_eq_true, decide_eq_true_eq] at hz
        refine ⟨ρ1 n, b, vs2, us, rfl, rfl, by rw [eρ]; exact hv2, hb, by rw [← hr2.length, ← hr3.length]; exact hz.2, ?_⟩
        rw [eρ]
        have := s2.put hn2 hv2 (ds := ds2 ++ es) (by simp [hp, hz.1]) (hr2.append hr3)
        refine Cont.ok h4 ?_ this .non
        rw [List.length_set]
        exact Ext.put hn2 hv2
      · exact h4.elim
theorem RepVs.last {K : PySem.W.Frag} {ρ : Rn} {N : Nat} {H : Hp} {ds : List D} {vs : List V} {d : D} (r : RepVs K ρ N H ds vs) (h : ds.getLast? = some d) : ∃ v, vs[vs.length - 1]? = some v ∧ RepV K ρ N H d v ∧ RepVs K ρ N H ds.dropLast vs.dropLast := by
  rw [List.getLast?_eq_getElem?] at h
  obtain ⟨v, h1, h2⟩ := r.get h
  refine ⟨v, by rw [← r.length]; exact h1, h2, ?_⟩
  rw [List.dropLast_eq_take, List.dropLast_eq_take, r.length]
  exact r.take _
theorem g_pop (hK : X.K = W.K) (ho : PE X o (tD W Wx f)) (hbase : attributeBase o "pop" X.env (eval o X.env) = eval o X.env) (hline : (apos.endLine == cpos.line) = true) :
    PE X (.Call (.Attribute o "pop" apos) [] [] cpos) (tD W Wx fun δ S => (f δ S).bind fun x S1 => (liftO S1 x.asO).bind fun n S1 => popF n S1) := by
  refine PE.of (pe_bm0 PySem.F.plainAttrs_list PySem.F.slot_list_pop PySem.F.type_list_pop mt_pop ho hbase hline) fun σ H Q ⟨δ, S, ρ, s, E, h⟩ => ?_
  refine rdg.next s E h fun x H1 dx S1 ρ1 e1 s1 E1 r1 h1 => ?_
  obtain ⟨n, en, h4⟩ := Cont.oO h1
  obtain ⟨rfl, hn, hk⟩ := asO_rep en r1
  obtain ⟨ds, vs, hc, hp, hv, hr⟩ := cell_at s1 hn hk
  refine ⟨.inl ⟨rfl, _, SqL.of hv⟩, ?_⟩
  unfold popF at h4
  rw [hc] at h4
  simp only at h4
  split at h4
  · rename_i d hd
    obtain ⟨w, h5, h6, h7⟩ := hr.last hd
    refine ⟨ρ1 n, vs, w, rfl, rfl, hv, h5, ?_⟩
    have hp2 : ds.dropLast.all D.pure = true := by
      rw [List.all_eq_true] at hp ⊢
      exact fun z hz => hp z (by rw [List.dropLast_eq_take] at hz; exact List.mem_of_mem_take hz)
    have := s1.put hn hv (ds := ds.dropLast) hp2 h7
    refine Cont.ok h4 ?_ this ?_
    · rw [List.length_set]; exact Ext.put hn hv
    · rw [List.length_set]; exact h6.mono (Ext.put hn hv)
  · exact h4.elim
theorem boot_ty {t : String} (h : t ∈ ["bool", "int", "str", "tuple", "list", "dict", "set"]) : bootBuiltins (Str.ofString t) = some (.type t) ∧ Str.ofString t ≠ "__name__" ∧ (Str.ofString t == ("__debug__" : Str)) = false := by
  simp only [List.mem_cons, List.not_mem_nil, or_false] at h
  rcases h with rfl | rfl | rfl | rfl | rfl | rfl | rfl <;> exact ⟨by decide +kernel, by decide +kernel, by decide +kernel⟩
theorem g_isin {t : String} (hK : X.K = W.K) (ht : t ∈ ["bool", "int", "str", "tuple", "list", "dict", "set"]) (hg : Gl X "isinstance") (hm : X.mg "isinstance" = none) (hg2 : Gl X (Str.ofString t)) (hm2 : X.mg (Str.ofString t) = none) (he : PE X e (tD W Wx f))
    (hs : starEach [e, .Name (Str.ofString t) p2] X.env = (false, eval e X.env) :: starEach [.Name (Str.ofString t) p2] X.env) :
    PE X (.Call (.Name "isinstance" p) [e, .Name (Str.ofString t) p2] [] pos) (tD W Wx fun δ S => (f δ S).bind fun x S1 => lift S1 (isinF x t S1)) := by
  obtain ⟨b1, b2, b3⟩ := boot_ty ht
  refine PE.of (pe_callB call_isi hg hm PyProof.Rows.boot_isinstance (pa_cons he (pa_cons (pe_bltn (v := .ty t) hg2 hm2 b1 rfl b2 b3) pa_nil) hs) (he := hs)) fun σ H Q ⟨δ, S, ρ, s, E, h⟩ => ?_
  refine rdg.next s E h fun x H1 dx S1 ρ1 e1 s1 E1 r1 h1 => ?_
  obtain ⟨d, ed, q⟩ := Cont.oK h1
  unfold isinF at ed
  split at ed
  · rw [Option.map_eq_some_iff] at ed
    obtain ⟨a, ea, rfl⟩ := ed
    have hk := kit_all
    rw [List.all_eq_true] at hk
    have hk1 := hk a (ty_mem ea)
    rw [List.all_eq_true] at hk1
    have hk2 := of_decide_eq_true (hk1 t ht)
    exact ⟨x, .ty t, .type a, .type t, isT a t, rfl, .ty t, ty_rep s1 hK.symm r1 ea, kit_ty hk2, q.here s1 (.bl _)⟩
  · cases ed
end
section
variable {X : Cx} {W : Wd} {Wx : WX} {a b c e : Expr} {pos : Pos} {f g : DEnv → Store → Out D} {G : Dn}
theorem g_notV (hK : X.K = W.K) (ha : PE X a (tD W Wx f)) : PE X (.UnaryOp .Not a pos) (tD W Wx fun δ S => (f δ S).bind fun x S1 => (liftB S1 (x.tru S1)).bind fun b S2 => .ok (.bl (!b)) S2) := by
  refine ⟨fun pins s σ H Q I ⟨δ, S, ρ, s0, E, h⟩ => ?_⟩
  refine UnaryOp_ (thn (ha.run pins s σ H (fun v H1 => ∃ k, TruV X.K v H1 k ∧ Q (.bl (!k)) H1) I (rdg.next s0 E h fun x H1 dx S1 ρ1 e1 s1 E1 r1 h1 => ?_)) fun v s1 ⟨x, H1, I1, r1, k, hk, q⟩ => ?_)
  · obtain ⟨t, et, h2⟩ := Cont.oB h1
    exact ⟨t, by rw [hK]; exact tru_rep s1 r1 et, Cont.here h2 s1 (.bl _)⟩
  · exact not_of (thn (tru_ok pins s1 σ H1 x v (fun b H2 => Q (.bl (!b)) H2) I1 r1 ⟨k, hk, q⟩) fun b s2 ⟨H2, I2, q2⟩ => ⟨.bl (!b), H2, I2, rfl, q2⟩)
theorem g_iteT {p q r : DEnv → Store → Out Bool} (hc : PT X c (tT W Wx p)) (ha : PT X a (tT W Wx q)) (hb : PT X b (tT W Wx r)) : PT X (.IfExp c a b pos) (tT W Wx fun δ S => (p δ S).bind fun t S1 => if t then q δ S1 else r δ S1) := by
  refine ⟨fun pins s σ H Q I ⟨δ, S, ρ, s0, E, h⟩ => ?_⟩
  show wpAny _ _ (do if ← isTrue c X.env (eval c X.env) then isTrue a X.env (eval a X.env) else isTrue b X.env (eval b X.env)) _ _ _
  refine wpAny_bind (thn (hc.run pins s σ H _ I (rdg.next (Q' := fun t H1 => ∃ S1 ρ1, RepS W ρ1 S1 H1 ∧ RepE W.K ρ1 S1.length H1 δ σ ∧ Cont W Wx σ relI (if t then q δ S1 else r δ S1) ρ1 S1.length H1 Q) s0 E h fun x H1 dx S1 ρ1 e1 s1 E1 r1 h1 => by subst r1; exact ⟨S1, ρ1, s1, E1, h1⟩)) fun t s1 ⟨H1, I1, S1, ρ1, hs, hE, hq⟩ => ?_)
  cases t with
  | true => exact ha.run pins s1 σ H1 Q I1 ⟨δ, S1, ρ1, hs, hE, hq⟩
  | false => exact hb.run pins s1 σ H1 Q I1 ⟨δ, S1, ρ1, hs, hE, hq⟩
theorem g_yes : PTs X [] (tT W Wx fun _ S => .ok true S) := ⟨fun pins s σ H Q I ⟨δ, S, ρ, s0, E, h⟩ => pts_nil.run pins s σ H Q I (Cont.here h s0 rfl)⟩
theorem PT.as {f g : DEnv → Store → Out Bool} (h : PT X e (tT W Wx f)) (q : ∀ δ S, g δ S = f δ S) : PT X e (tT W Wx g) := by
  have : g = f := by funext δ S; exact q δ S
  rw [this]; exact h
theorem g_idxT {x i : Ex} (h : PT X e (tT W Wx fun δ S => (ev G (.idx x i) δ S).bind fun z S1 => liftB S1 (z.tru S1))) : PT X e (tT W Wx (tst G (.idx x i))) := PT.as h fun δ S => by
  simp only [tst, ev, Out.bind_assoc]
theorem g_callT {x : Nat} {i : Exs} (h : PT X e (tT W Wx fun δ S => (ev G (.call x i) δ S).bind fun z S1 => liftB S1 (z.tru S1))) : PT X e (tT W Wx (tst G (.call x i))) := PT.as h fun δ S => by
  simp only [tst, ev, Out.bind_assoc]
theorem g_bifT {x : Bif} {i : Exs} (h : PT X e (tT W Wx fun δ S => (ev G (.bif x i) δ S).bind fun z S1 => liftB S1 (z.tru S1))) : PT X e (tT W Wx (tst G (.bif x i))) := PT.as h fun δ S => by
  simp only [tst, ev, Out.bind_assoc]
theorem g_isinT {x : Ex} {t : String} (h : PT X e (tT W Wx fun δ S => (ev G (.isin x t) δ S).bind fun z S1 => liftB S1 (z.tru S1))) : PT X e (tT W Wx (tst G (.isin x t))) := PT.as h fun δ S => by
  simp only [tst, ev, Out.bind_assoc]
theorem g_two (ha : PE X a (tD W Wx f)) (hb : PE X b (tD W Wx g)) (h1 : starEach [a, b] X.env = (false, eval a X.env) :: starEach [b] X.env) (h2 : starEach [b] X.env = (false, eval b X.env) :: starEach [] X.env) : PA X [a, b] (tA W Wx fun δ S => (f δ S).bind fun x S1 => (g δ S1).bind fun y S2 => .ok [x, y] S2) := by
  have h := g_cons ha (g_cons hb g_nil h2) h1
  have e : (fun δ S => (f δ S).bind fun x S1 => (g δ S1).bind fun y S2 => .ok [x, y] S2) = (fun (δ : DEnv) (S : Store) => (f δ S).bind fun x S1 => ((g δ S1).bind fun y S2 => (Out.ok [] S2).bind fun (xs : List D) S3 => Out.ok (y :: xs) S3).bind fun xs S2 => Out.ok (x :: xs) S2) := by
    funext δ S
    simp only [Out.bind_assoc, Out.bind_ok]
  rw [e]; exact h
end
section
variable {X : Cx} {W : Wd} {Wx : WX} {el tg iter : Expr} {ifs : List Expr} {scope : Scope} {own : List (Str × Nat)} {pos : Pos} {isO : Bool} {t : Tg} {src : DEnv → Store → Out Src} {c : DEnv → Store → Out Bool} {f : DEnv → Store → Out D}
def LIV (W : Wd) (ρ : Rn) (N : Nat) (H1 : Hp) (p : Addr) (F : D → Store → Out (Option D)) (n : Nat) (ds : List D) (isO : Bool) (R : Out D) (i : Nat) (H : Hp) : Prop :=
  ∃ S ρ' done acc, RepS W ρ' S H ∧ Ext (ρ.hide p) N (upd H1 p (.lst [])) ρ' S.length (upd H p (.lst [])) ∧ RepVs W.K ρ' S.length H done acc ∧ H p = some (.lst acc) ∧ S[n]? = some (.lst ds) ∧
    (nox (mapL (keptB n ds F) (ds.drop i) S)).bind (fun ys S2 => mkList isO (done ++ ys) S2) = R
theorem lc_toV (hK : X.K = W.K) {σ : L2.St} {H : Hp} {Q : VK} {vs : List Nat} (hv : ∀ i ∈ t.slots, i ∈ vs)
    (h : tD W Wx (fun δ S => (src δ S).bind fun s S1 => (liftO S1 s.lvN).bind fun n S1 => (liftO S1 (cellL n S1)).bind fun ds S1 => (nox (mapL (keptB n ds (cBody t vs c f δ)) ds S1)).bind fun ys S2 => mkList isO ys S2) σ H Q) :
    tLc (iI W Wx src) (tgR X.K t) (tT W wNo c) (tD W wNo f) vs σ H Q := by
  obtain ⟨δ, S, ρ, s, E, h⟩ := h
  refine rdg.next s E h fun J H1 sr S1 ρ1 e1 s1 E1 r1 h1 => ?_
  obtain ⟨n, en, h1b⟩ := Cont.oO h1
  clear h1
  have hsr : sr = .lv n := by cases sr with | st _ => cases en | lv _ => cases en; rfl
  subst hsr
  obtain ⟨ds, eds, h2⟩ := Cont.oO h1b
  clear h1b
  have hcell : S1[n]? = some (.lst ds) := by
    unfold cellL at eds
    split at eds
    · rename_i es he
      cases eds
      exact he
    · cases eds
  intro p hp
  generalize hR : ((nox (mapL (keptB n ds (cBody t vs c f δ)) ds S1)).bind fun ys S2 => mkList isO ys S2) = R at h2
  obtain ⟨hn, hJ⟩ : n < S1.length ∧ J = Itl W.K (ρ1 n) := r1
  subst hJ
  have hl : p ∉ ρ1.hid := s1.nhid hp
  have E1h : RepE W.K (ρ1.hide p) S1.length (upd H1 p (.lst [])) δ σ := E1.hide hp
  refine ⟨fun i m H => m + i = ds.length ∧ LIV W ρ1 S1.length H1 p (cBody t vs c f δ) n ds isO R i H, ⟨ds.length, rfl, ?_⟩, fun i m H ⟨hm, hI⟩ => ?_⟩
  · have z : upd (upd H1 p (.lst [])) p (.lst []) = upd H1 p (.lst []) := by funext a; unfold upd; split <;> rfl
    exact ⟨S1, ρ1.hide p, [], [], s1.hide hp, by rw [z]; exact Ext.refl, .nil, upd_same, hcell, hR⟩
  · by_cases hi : i < ds.length
    · right
      obtain ⟨S', ρ', done, acc, hS, e, r, hpp, hce, hRR⟩ := id hI
      obtain ⟨hpu, vs', hvl, hrr⟩ := hS.list hce
      have eρ : ρ' n = ρ1 n := e.agree n hn
      rw [eρ] at hvl
      have hdd : ds[i]? = some ds[i] := List.getElem?_eq_getElem hi
      obtain ⟨vv, hvi, rvv⟩ := hrr.get hdd
      have hin : p ∈ ρ'.hid := by rw [e.hid]; exact List.mem_cons_self
      have zz : ∀ {xs : List V}, upd (upd H p (.lst xs)) p (.lst acc) = H := by
        intro xs; funext a; unfold upd
        split
        · rename_i q; rw [q, hpp]
        · rfl
      refine ⟨⟨vs', vv, SqL.of hvl, hvi⟩, fun H' => ∃ m', m' + 1 = m ∧ (m' + (i + 1) = ds.length ∧ LIV W ρ1 S1.length H1 p (cBody t vs c f δ) n ds isO R (i + 1) H'), fun H' ⟨m', h1, h2⟩ => ⟨m', by omega, h2⟩, fun x H' hy => ?_⟩
      obtain ⟨rfl, hy2⟩ := hy
      have hyv := hy2 vs' (SqL.of hvl)
      rw [hvi] at hyv
      cases hyv
      obtain ⟨d, hdE⟩ : ∃ d, d = ds[i] := ⟨_, rfl⟩
      rw [← hdE] at hdd rvv
      have hd := hdd
      have hdrop : ds.drop i = d :: ds.drop (i + 1) := by
        rw [List.drop_eq_getElem_cons hi]
        congr 1
        rw [List.getElem?_eq_getElem hi] at hd
        exact Option.some.inj hd
      rw [hdrop] at hRR
      rw [← hRR] at h2
      simp only [mapL] at hRR h2
      obtain ⟨ys, S9, hys⟩ := nox_ok_of h2
      -- the turn's own outcome
      have R2 := rvv
      have E2 : RepE W.K ρ' S'.length H' (wipeD δ vs) (L2.wipe σ vs) := by
        have e3 : RepE W.K ρ' S'.length (upd H' p (.lst [])) δ σ := E1h.mono e
        have e4 := e3.mask (ys := acc) hin upd_same
        rw [zz] at e4
        exact e4.wipe vs
      cases hb : cBody t vs c f δ d S' with
      | bad => simp only [keptB, hb] at hys; cases hys
      | exc x' S2 => simp only [keptB, hb] at hys; cases hys
      | ok ry S2 =>
        have hkc : isCell n ds S2 = true := by
          cases hk : isCell n ds S2 with
          | true => rfl
          | false => simp only [keptB, hb, Out.bind_ok, hk] at hys; cases hys
        have hkb : keptB n ds (cBody t vs c f δ) d S' = .ok ry S2 := by simp only [keptB, hb, Out.bind_ok, hkc, if_true]
        rw [hkb] at hys hRR
        simp only [Out.bind_ok] at hys hRR
        have hb0 := hkb
        unfold cBody at hb
        cases hts : tset t d (wipeD δ vs) with
        | none => rw [hts] at hb; cases hb
        | some δ' =>
          rw [hts] at hb
          simp only [liftO_some, Out.bind_ok] at hb
          refine tg_ok hK hts R2 E2 fun σ' E' hw => ⟨by rw [hw vs hv, wipe_wipe], ?_⟩
          -- the test
          refine ⟨δ', S', ρ', hS, E', ?_⟩
          cases hc : c δ' S' with
          | bad => rw [hc] at hb; cases hb
          | exc x' S3 => rw [hc] at hb; cases hb
          | ok b S3 =>
            rw [hc] at hb
            simp only [Out.bind_ok] at hb
            intro ρ3 H3 e3 hS3 b' hb'
            subst hb'
            have hh3 : ρ3.hid = p :: ρ1.hid := e3.hid.trans e.hid
            have hin3 : p ∈ ρ3.hid := by rw [hh3]; exact List.mem_cons_self
            have hp3 : H3 p = some (.lst acc) := e3.keep p _ hpp (fun i hi => (hS.hid p hin).2 i hi) fun _ z => nomatch z
            have ext3 : Ext (ρ1.hide p) S1.length (upd H1 p (.lst [])) ρ3 S3.length (upd H3 p (.lst [])) := e.trans (e3.mask hpp hp3)
            cases b with
            | true =>
              simp only [if_true] at hb ⊢
              refine ⟨δ', S3, ρ3, hS3, E'.mono e3, ?_⟩
              cases hel : f δ' S3 with
              | bad => rw [hel] at hb; cases hb
              | exc x' S4 => rw [hel] at hb; cases hb
              | ok y S4 =>
                rw [hel] at hb
                simp only [Out.bind_ok, Out.ok.injEq] at hb
                obtain ⟨rfl, rfl⟩ := hb
                intro ρ4 H4 e4 hS4 v hv4
                have hin4 : p ∈ ρ4.hid := by rw [e4.hid]; exact hin3
                have hp4 : H4 p = some (.lst acc) := e4.keep p _ hp3 (fun i hi => (hS3.hid p hin3).2 i hi) fun _ z => nomatch z
                have racc : RepVs W.K ρ4 S4.length H4 done acc := (r.mono e3).mono e4
                refine ⟨acc, hp4, ?_, m - 1, by omega, by omega, S4, ρ4, done ++ [y], acc ++ [v], hS4.mask hin4 hp4, ?_, ?_, upd_same, isCell_eq.mp hkc, ?_⟩
                · -- the room
                  rw [← racc.length]
                  cases hm2 : mapL (keptB n ds (cBody t vs c f δ)) (List.drop (i + 1) ds) S4 with
                  | bad => rw [hm2] at hys; cases hys
                  | exc _ _ => rw [hm2] at hys; cases hys
                  | ok ys2 S5 =>
                    rw [hm2] at hRR
                    simp only [Out.bind_ok, nox_ok] at hRR
                    have hq : Cont W Wx σ (relD W) (mkList isO (done ++ (y :: ys2)) S5) ρ1 S1.length H1 Q := by
                      simp only [hb0, hm2, Out.bind_ok, nox_ok] at h2
                      exact h2
                    unfold mkList at hq
                    split at hq
                    · rename_i hz
                      simp only [List.length_append, List.length_cons] at hz
                      omega
                    · exact hq.elim
                · have z5 : upd (upd H4 p (.lst (acc ++ [v]))) p (.lst []) = upd H4 p (.lst []) := by funext a; unfold upd; split <;> rfl
                  rw [z5]
                  exact ext3.trans (e4.mask hp3 hp4)
                · exact (racc.append (.cons hv4 .nil)).mask hin4 hp4
                · rw [← hRR]
                  cases hm2 : mapL (keptB n ds (cBody t vs c f δ)) (List.drop (i + 1) ds) S4 with
                  | bad => rfl
                  | exc _ _ => rfl
                  | ok ys2 S5 => simp only [Out.bind_ok, nox_ok, List.append_assoc, List.singleton_append]
            | false =>
              simp only [Bool.false_eq_true, if_false, Out.ok.injEq] at hb ⊢
              obtain ⟨rfl, rfl⟩ := hb
              refine ⟨m - 1, by omega, by omega, S3, ρ3, done, acc, hS3, ext3, r.mono e3, hp3, isCell_eq.mp hkc, ?_⟩
              rw [← hRR]
              cases hm2 : mapL (keptB n ds (cBody t vs c f δ)) (List.drop (i + 1) ds) S3 <;> rfl
    · left
      have hi' : i = ds.length := by omega
      subst hi'
      obtain ⟨S', ρ', done, acc, hS, e, r, hpp, hce, hRR⟩ := id hI
      obtain ⟨hpu, vs', hvl, hrr⟩ := hS.list hce
      have eρ : ρ' n = ρ1 n := e.agree n hn
      rw [eρ] at hvl
      exact ⟨⟨vs', SqL.of hvl, by rw [hrr.length]; exact Nat.le_refl _⟩, LI.end (F := keptB n ds (cBody t vs c f δ)) (ds := ds) hp hl ⟨S', ρ', done, acc, hS, e, r, hpp, hRR⟩ h2⟩
theorem g_compV (hK : X.K = W.K) (hc : X.calm = true) (hN : X.N.Nodup) (hi : PI X tg iter (iI W Wx src)) (ok : BlkOk X.N X.env.scope scope own) (hv : ∀ i ∈ t.slots, i ∈ own.map (·.2))
    (hg : ∀ (s : Shared) (H : Hp) (C : Addr) (cl : List (Str × Addr)) (fp : List Addr), PG (X.blk s H scope (compEnvC scope cl C X.env) fp) tg (tgR X.K t)) (ht : ∀ (s : Shared) (H : Hp) (C : Addr) (cl : List (Str × Addr)) (fp : List Addr), PTs (X.blk s H scope (compEnvC scope cl C X.env) fp) ifs (tT W wNo c))
    (he : ∀ (s : Shared) (H : Hp) (C : Addr) (cl : List (Str × Addr)) (fp : List Addr), PE (X.blk s H scope (compEnvC scope cl C X.env) fp) el (tD W wNo f)) (hs : ∀ x, foldedSetIterable iter X.env x = pure x) :
    PE X (.ListComp el [⟨tg, iter, ifs, 0⟩] scope pos) (tD W Wx (fun δ S => (src δ S).bind fun s S1 => (liftO S1 s.lvN).bind fun n S1 => (liftO S1 (cellL n S1)).bind fun ds S1 => (nox (mapL (keptB n ds (cBody t (own.map (·.2)) c f δ)) ds S1)).bind fun ys S2 => mkList isO ys S2)) :=
  PE.of (pe_lc hc hN hi ok hg ht he hs) fun σ H Q h => lc_toV hK hv h
end
end PD

set_option Elab.async false
set_option linter.all false
set_option maxRecDepth 100000
set_option maxHeartbeats 2000000
namespace PD
open PySem PySem.Spec PyProof.Rows L2

/-- the context of a generator expression's frame -/
abbrev gcx (X : Cx) (A' : Around) (s : Shared) (H : Hp) (cenv : Env) (fp : List Addr) (pn : List (Addr × Obj)) : Cx :=
  { X with A := A', s_0 := s, H_0 := H, env := cenv, outer := X.stack, stack := cenv :: X.stack, ex := fp, fn := fun _ => false, pn := pn, xe := fun _ _ => False }
/-- the names of a generator expression -/
structure GexOk (N : List Str) (sc scope : Scope) (own : List (Str × Nat)) : Prop where
  kind : scope.kind = .function
  co : scope.isCoroutine = false
  nocell : ∀ y ∈ scope.names, y.2 ≠ .cell
  dot : scope.names.lookup (".0" : Str) = some NameKind.local
  uniq : ∀ y ∈ scope.names, scope.names.lookup y.1 = some y.2
  ix : ∀ p ∈ own, N[p.2]? = some p.1
  free : ∀ y ∈ scope.names, y.2 = .free → sc.names.lookup y.1 = some .cell ∨ sc.names.lookup y.1 = some .free
  own : ∀ y ∈ scope.names, y.2 = .local → y.1 ∈ own.map (·.1) ∨ y.1 ∉ N
section
variable {X : Cx} {pins : List (Addr × Obj)} {σ : L2.St} {H : Hp} {s : Shared}
theorem gex_free {scope : Scope} {own : List (Str × Nat)} (I : Inv X pins σ H s) (ok : GexOk X.N X.env.scope scope own) : ∀ y ∈ scope.names, y.2 = .free → ∃ c, X.env.cells.lookup y.1 = some c := fun y hy e => by
  rcases ok.free y hy e with k | k
  · exact I.ok.has _ (.inl k)
  · exact I.ok.has _ (.inr k)
theorem gen_start {scope : Scope} {own : List (Str × Nat)} {fp : List Addr} {C a : Addr} {code : Value} {obj : Obj} {s5 : Shared} {m5 : Str → Option Value} {A' : Around} (I : Inv X pins σ H s) (ok : GexOk X.N X.env.scope scope own) (hN : X.N.Nodup) (hfp : ∀ b ∈ fp, FpOk X pins H b ∧ b < s.heap.objs.size)
    (hC : s.heap.objs.size ≤ C) (kp : ∀ b o, s.heap.get? b = some o → s5.heap.get? b = some o) (hos : s5.os = s.os) (hb : AllBare s5.gens) (hns : s5.heap.Ns C m5) (ha : s5.heap.get? a = some obj) (haC : a ≠ C) (han : s.heap.objs.size ≤ a) (hobj : ∀ v, obj.data ≠ .cell v)
    (hA : A'.handled = none) (hfr : A'.frames = some (genEnv scope (cloFrom X.env.cells scope.names []) C code builtinsNs X.env :: X.stack)) :
    Inv (gcx X A' s H (genEnv scope (cloFrom X.env.cells scope.names []) C code builtinsNs X.env) fp [(a, obj)]) [] (L2.wipe σ (own.map (·.2))) H s5 := by
  have hfree := gex_free I ok
  generalize hcenv : genEnv scope (cloFrom X.env.cells scope.names []) C code builtinsNs X.env = cenv at hfr ⊢
  have hL : cenv.locals = C := by rw [← hcenv]; rfl
  have hcl : cenv.cells = cloFrom X.env.cells scope.names [] := by rw [← hcenv]; rfl
  have hsc : cenv.scope = scope := by rw [← hcenv]; rfl
  have hff : cenv.frame = some cenv.locals := by rw [← hcenv]; rfl
  have mem : ∀ {y c}, cenv.cells.lookup y = some c → X.env.cells.lookup y = some c ∧ c < s.heap.objs.size := fun {y c} e => by
    rw [hcl] at e
    rcases cloFrom_mem (PySem.mem_of_lookup e) with hm | ⟨h1, rfl⟩
    · cases hm
    · obtain ⟨c, hc⟩ := hfree _ h1 rfl
      rw [hc]
      obtain ⟨w, z⟩ := I.cell _ _ hc
      exact ⟨rfl, z.lt⟩
  have look : ∀ {y}, scope.names.lookup y = some .free → ∃ c, cenv.cells.lookup y = some c ∧ X.env.cells.lookup y = some c := fun {y} hl => by
    have hy : (y, NameKind.free) ∈ scope.names := PySem.mem_of_lookup hl
    obtain ⟨c', e'⟩ := mem_lookup (cloFrom_has (cells := X.env.cells) (acc := []) hy)
    rw [← hcl] at e'
    exact ⟨c', e', (mem e').1⟩
  have okB : (gcx X A' s H cenv fp [(a, obj)]).Ok := by
    refine ⟨I.ok.mod, by show cenv.scope.kind = _; rw [hsc]; exact ok.kind, by show cenv.globals = _; rw [← hcenv]; exact I.ok.glob, by show cenv.builtins = _; rw [← hcenv]; rfl, by show s.heap.objs.size ≤ cenv.locals; rw [hL]; exact hC,
      fun y z c e1 e2 => I.ok.inj y z c (mem e1).1 (mem e2).1, fun y hy => ?_, fun y c z e => (nomatch z), fun _ => hA, hfr, .inr ⟨rfl, hff⟩, fun b hb => ⟨?_, fun y c e z => ?_⟩, I.bs, Nat.le_trans I.ok.bsz I.sz, fun b o e hb => ?_, fun b hb z => ?_, I.stack, I.stkFree⟩
    · show ∃ c, cenv.cells.lookup y = some c
      rcases hy with hy | hy
      · have hy : cenv.scope.names.lookup y = some .cell := hy
        rw [hsc] at hy
        exact absurd rfl (ok.nocell _ (PySem.mem_of_lookup hy))
      · have hy : cenv.scope.names.lookup y = some .free := hy
        rw [hsc] at hy
        obtain ⟨c, h1, _⟩ := look hy
        exact ⟨c, h1⟩
    · show b ≠ cenv.locals
      rw [hL]
      intro z
      have := (hfp b hb).2
      rw [z] at this
      exact absurd this (Nat.not_lt.mpr hC)
    · exact (hfp b hb).1.2.2.2.2.1 y c (mem e).1 z
    · rcases (hfp b hb).1.2.2.2.1 with z | z
      · exact I.ok.noex b o e z
      · exact absurd (Nat.lt_of_lt_of_le (Heap.lt_size e) (Nat.le_trans I.ok.bsz z)) (Nat.lt_irrefl _)
    · rcases List.mem_cons.mp (I.stkSub b z) with z | z
      · exact (hfp b hb).1.2.1 z
      · exact (hfp b hb).1.2.2.1 z
  have frC : H C = none := I.hok.fresh hC
  have fra : H a = none := I.hok.fresh han
  refine ⟨okB, hos, hb, Un.kept kp, ⟨m5, by show Heap.Ns _ cenv.locals _; rw [hL]; exact hns, fun i y av e1 e2 e3 => ?_⟩, fun y c e => ?_, by show H cenv.locals = none; rw [hL]; exact frC, fun y c e => I.freeC y c (mem e).1, fun p hp => ?_, I.hok.kept kp, by rw [wipe_length]; exact I.len⟩
  · obtain ⟨e2, hne⟩ := wipe_some e2
    have hfr : scope.names.lookup y = some .free := by
      have e3 : Vis cenv.scope y := e3
      rw [hsc] at e3
      rcases e3 with e3 | e3 | e3
      · rcases ok.own _ (PySem.mem_of_lookup e3) rfl with e' | e'
        · obtain ⟨p, hp, hpy⟩ := List.mem_map.mp e'
          have e4 := ok.ix p hp
          have : p.1 = y := hpy
          rw [this] at e4
          exact absurd (List.mem_map.mpr ⟨p, hp, nodup_ix hN e4 e1⟩) hne
        · exact absurd (List.mem_of_getElem? e1) e'
      · exact absurd rfl (ok.nocell _ (PySem.mem_of_lookup e3))
      · exact e3
    obtain ⟨m, hn, hl⟩ := I.loc
    have hvis : Vis X.env.scope y := (ok.free _ (PySem.mem_of_lookup hfr) rfl).elim (fun k => .inr (.inl k)) (fun k => .inr (.inr k))
    obtain ⟨w, r, q⟩ := hl i y av e1 e2 hvis
    refine ⟨w, r, .inr ⟨.inr (by show cenv.scope.names.lookup y = some .free; rw [hsc]; exact hfr), ?_⟩⟩
    obtain ⟨c, h1, h2⟩ := look hfr
    rcases q with ⟨k, _⟩ | ⟨_, c', e', z⟩
    · have k : X.env.scope.names.lookup y = some .local := k
      rcases ok.free _ (PySem.mem_of_lookup hfr) rfl with k' | k' <;> rw [show X.env.scope.names.lookup y = _ from k'] at k <;> cases k
    · rw [h2] at e'; cases e'
      exact ⟨c, h1, z.keeps kp⟩
  · obtain ⟨w, z⟩ := I.cell y c (mem e).1
    exact ⟨w, z.keeps kp⟩
  · have e : p = (a, obj) := by simpa using hp
    subst e
    refine ⟨ha, fra, by show a ≠ cenv.locals; rw [hL]; exact haC, fun z => ?_, hobj⟩
    have z' := I.stkSub a z
    rcases List.mem_cons.mp z' with z' | z'
    · exact absurd (by rw [z'] at han; exact han) (Nat.not_le.mpr I.lt)
    · exact I.nofs han z'
/-- another around -/
theorem Inv.around {A' A2 : Around} {s0 : Shared} {H0 H' : Hp} {cenv : Env} {fp : List Addr} {pn : List (Addr × Obj)} {σ' : L2.St} {s' : Shared} (I : Inv (gcx X A' s0 H0 cenv fp pn) pins σ' H' s') (hh : A2.handled = none) (hf : A2.frames = A'.frames) : Inv (gcx X A2 s0 H0 cenv fp pn) pins σ' H' s' := by
  obtain ⟨o, a1, a2, a3, a4, a5, a6, a7, a8, a9, a10⟩ := I
  exact ⟨⟨o.mod, o.kind, o.glob, o.blt, o.above, o.inj, o.has, o.cab, fun _ => hh, by show A2.frames = _; rw [hf]; exact o.frames, o.stk, o.exf, o.bs, o.bsz, o.noex, o.exfs, o.funs, o.frf⟩, a1, a2, a3, a4, a5, a6, a7, a8, a9, a10⟩
/-- the table of generators changes -/
theorem Inv.gens {Y : Cx} {σ' : L2.St} {s' : Shared} {G : Array GenState} (I : Inv Y pins σ' H s') (hg : AllBare G) : Inv Y pins σ' H { s' with gens := G } := by
  obtain ⟨o, a1, a2, a3, a4, a5, a6, a7, a8, a9, a10⟩ := I
  exact ⟨o, a1, hg, a3, a4, a5, a6, a7, a8, a9, a10⟩
end
end PD

set_option Elab.async false
set_option linter.all false
set_option maxRecDepth 100000
set_option maxHeartbeats 2000000
namespace PD
open PySem PySem.Spec PyProof.Rows L2

/-- all that a generator expression's run leans on -/
structure GEnvr where
  W : Wd
  X : Cx
  s : Shared
  H : Hp
  cenv : Env
  fp : List Addr
  it : Addr
  a : Addr
  g : Nat
  obj : Obj
  tn : Nat → Heap → Prop
  vs : List Nat
  σ : L2.St
  ρ1 : Rn
  N1 : Nat
  len : Nat
  Ok : Nat → Store → Prop
  Yld : Nat → D → Store → Prop
namespace GEnvr
variable (e : GEnvr)
/-- the frame's state, whatever the around is -/
def GInv (σ' : L2.St) (H' : Hp) (s' : Shared) : Prop := ∀ A' : Around, A'.handled = none → A'.frames = some (e.cenv :: e.X.stack) → Inv (gcx e.X A' e.s e.H e.cenv e.fp [(e.a, e.obj)]) [] σ' H' s'
def GSt (i : Nat) (S : Store) (ρ : Rn) (H' : Hp) (s' : Shared) : Prop :=
  e.GInv (L2.wipe e.σ e.vs) H' s' ∧ e.tn i s'.heap ∧ (∀ b ∈ e.fp, H' b = none) ∧ RepS e.W ρ S H' ∧ Ext e.ρ1 e.N1 e.H ρ S.length H'
theorem GSt.same {e : GEnvr} {i : Nat} {S : Store} {ρ : Rn} {H' : Hp} {s' s2 : Shared} (h : e.GSt i S ρ H' s') (hh : s2.heap = s'.heap) (ho : s2.os = s'.os) (hg : AllBare s2.gens) : e.GSt i S ρ H' s2 := by
  obtain ⟨h1, h2, h3, h4, h5⟩ := h
  refine ⟨fun A' q1 q2 => ?_, by rw [hh]; exact h2, h3, h4, h5⟩
  obtain ⟨o, a1, a2, a3, a4, a5, a6, a7, a8, a9, a10⟩ := h1 A' q1 q2
  exact ⟨o, ho.trans a1, hg, by rw [hh]; exact a3, by rw [hh]; exact a4, by rw [hh]; exact a5, a6, a7, by rw [hh]; exact a8, by rw [hh]; exact a9, a10⟩
def Y : Protocol := fun n _ v s' kap => ∃ i S d x ρ H', i < e.len ∧ e.len - (i + 1) + 1 ≤ n ∧ RelV x v ∧ RepV e.W.K ρ S.length H' d x ∧ e.GSt (i + 1) S ρ H' s' ∧ e.Yld i d S ∧
  ∀ s'' : Shared, s''.heap = s'.heap → s''.os = s'.os → AllBare s''.gens → e.Ok (i + 1) S → kap (.send .none) s''
def Fin (_ : Nat) (_ s' : Shared) : Prop := ∃ S ρ H', e.GInv (L2.wipe e.σ e.vs) H' s' ∧ RepS e.W ρ S H' ∧ Ext e.ρ1 e.N1 e.H ρ S.length H' ∧ e.Ok e.len S
def R : GenEnd := fun n s₀ r s₁ => ((r = .ok (.ret .none) ∨ r = .ok .next) ∧ e.Fin n s₀ s₁) ∨ ∃ x, r = .error x ∧ False
end GEnvr
theorem setAll_len : ∀ {is : List Nat} {ds : List D} {δ : DEnv}, (setAll is ds δ).length = δ.length
  | [], _, _ => by simp [setAll]
  | _ :: _, [], _ => by simp [setAll]
  | i :: is, d :: ds, δ => by simp [setAll, setAll_len (is := is)]
theorem setQ_dlen : ∀ {js : List Tgi} {ds : List D} {δ δ' : DEnv}, setQ js ds δ = some δ' → δ'.length = δ.length
  | [], [], _, _, h => by simp only [setQ] at h; cases h; rfl
  | [], _ :: _, _, _, h => by simp [setQ] at h
  | .n i :: js, [], _, _, h => by simp [setQ] at h
  | .t is :: js, [], _, _, h => by simp [setQ] at h
  | .n i :: js, d :: ds, δ, δ', h => by
    simp only [setQ] at h
    rw [setQ_dlen h]; simp
  | .t is :: js, d :: ds, δ, δ', h => by
    cases d <;> simp only [setQ] at h <;> try (cases h; done)
    split at h
    · rw [setQ_dlen h, setAll_len]
    · cases h
theorem tset_len {t : Tg} {d : D} {δ δ' : DEnv} (h : tset t d δ = some δ') : δ'.length = δ.length := by
  unfold tset at h
  split at h
  · cases h; simp
  · split at h
    · cases h; exact setAll_len
    · cases h
  · exact setQ_dlen h
  · cases h
theorem over_gen {A : Around} {elt tg iter : Expr} {ifs : List Expr} {scope : Scope} {pos : Pos} {it acc : Value} {cenv : Env} {l : List Env} (hf : A.frames = some l) :
    (A.over (.compLoop (.GeneratorExp elt [⟨tg, iter, ifs, 0⟩] scope pos) 0 it acc cenv) []).frames = some (cenv :: l) := by
  show pushEnvs [cenv] (pushEnvs [] A.frames) = _
  rw [hf]; rfl
section
variable {e : GEnvr} {G : Dn} {elt tg iter : Expr} {ifs : List Expr} {scope : Scope} {pos : Pos} {J : L2.It} {ds : List D} {δ : DEnv} {t : Tg} {c : DEnv → Store → Out Bool} {f : DEnv → Store → Out D} {k : Nat}
/-- what the rules of its parts ask of an around -/
def AOk (e : GEnvr) (k : Nat) (A' : Around) : Prop := A'.handled = none ∧ A'.frames = some (e.cenv :: e.X.stack) ∧ Room k A'
theorem seg_gx (hK : e.X.K = e.W.K) (hcalm : e.X.calm = true) (hco : e.cenv.scope.isCoroutine = false) (T : Turn e.X.prog e.X.w e.X.K tg J e.fp e.it e.tn) (hJ : Itm e.W e.ρ1 e.N1 e.H ds J) (hlen : ds.length = e.len) (hE : RepE e.W.K e.ρ1 e.N1 e.H δ e.σ)
    (hv : ∀ i ∈ t.slots, i ∈ e.vs) (hafp : e.a ∉ e.fp)
    (hg : ∀ A', AOk e k A' → PG (gcx e.X A' e.s e.H e.cenv e.fp [(e.a, e.obj)]) tg (tgR e.X.K t))
    (ht : ∀ A', AOk e k A' → PTs (gcx e.X A' e.s e.H e.cenv e.fp [(e.a, e.obj)]) ifs (tT e.W wNo c))
    (he : ∀ A', AOk e k A' → PE (gcx e.X A' e.s e.H e.cenv e.fp [(e.a, e.obj)]) elt (tD e.W wNo f))
    (run : ∀ i S d, ds[i]? = some d → e.Ok i S → ∃ r S', cBody t e.vs c f δ d S = .ok r S' ∧ (match r with | none => e.Ok (i + 1) S' | some y => e.Yld i y S'))
    {A : Around} (hA : A.handled = none) (hAf : A.frames = some e.X.stack) (hroom : Room k (A.over (.compLoop (.GeneratorExp elt [⟨tg, iter, ifs, 0⟩] scope pos) 0 (.ref e.it) .none e.cenv) [])) :
    ∀ (r i n : Nat) (s₀ s' : Shared) (S : Store) (ρ : Rn) (H' : Hp), r + i = e.len → r + 1 ≤ n → e.GSt i S ρ H' s' → e.Ok i S →
      Seg (model e.X.prog e.X.w) A e.R e.Y n s₀ (.compLoop (.GeneratorExp elt [⟨tg, iter, ifs, 0⟩] scope pos) 0 (.ref e.it) .none e.cenv)
        ((model e.X.prog e.X.w).den (.compLoop (.GeneratorExp elt [⟨tg, iter, ifs, 0⟩] scope pos) 0 (.ref e.it) .none e.cenv)) [] s' := by
  have hh' : (A.over (.compLoop (.GeneratorExp elt [⟨tg, iter, ifs, 0⟩] scope pos) 0 (.ref e.it) .none e.cenv) []).handled = none := hA
  have hf' := over_gen (elt := elt) (tg := tg) (iter := iter) (ifs := ifs) (scope := scope) (pos := pos) (it := .ref e.it) (acc := .none) (cenv := e.cenv) hAf
  generalize hAA : A.over (.compLoop (.GeneratorExp elt [⟨tg, iter, ifs, 0⟩] scope pos) 0 (.ref e.it) .none e.cenv) [] = AA at hh' hf' hroom
  have aok : AOk e k AA := ⟨hh', hf', hroom⟩
  have fpo : ∀ {σ' : L2.St} {H' : Hp} {s' : Shared} {i : Nat}, Inv (gcx e.X AA e.s e.H e.cenv e.fp [(e.a, e.obj)]) [] σ' H' s' → e.tn i s'.heap → (∀ b ∈ e.fp, H' b = none) → ∀ b ∈ e.fp, FpOk (gcx e.X AA e.s e.H e.cenv e.fp [(e.a, e.obj)]) [] H' b := fun {σ' H' s' i} I' st hn b hb =>
    ⟨hn b hb, (I'.ok.exf b hb).1, I'.ok.exfs b hb, .inl hb, fun x c q => (I'.ok.exf b hb).2 x c q, fun p hp z => by
      have hp' : p = (e.a, e.obj) := by simpa using hp
      subst hp'
      exact hafp (by rw [show e.a = b from z]; exact hb)⟩
  intro r
  induction r with
  | zero =>
    intro i n s₀ s' S ρ H' hi hn hst hok
    have hil : i = e.len := by omega
    subst hil
    obtain ⟨h1, h2, h3, h4, h5⟩ := id hst
    have I' := h1 AA hh' hf'
    show Seg _ A _ _ _ s₀ _ ((compTurn (.GeneratorExp elt [⟨tg, iter, ifs, 0⟩] scope pos) 0 (.ref e.it) .none e.cenv).onRaise (leaving e.cenv)) [] s'
    rw [compTurn_gen, Sem.onRaise_eq_wrap]
    refine seg_bind_wrap (wpAny_standAt ?_)
    refine seg_bind_wrap ?_
    rw [hAA]
    have stop : J.stop e.len H' := by rw [← hlen]; exact hJ.stop _ _ _ h5
    refine thnF (T.done (gcx e.X AA e.s e.H e.cenv e.fp [(e.a, e.obj)]) rfl rfl rfl hcalm e.len [] s' _ H' (fun _ _ => False) I' (fpo I' h2 h3) h2 stop) fun r s1 ⟨hr, I1⟩ => ?_
    subst hr
    exact seg_end (.ok .next) (.inl ⟨.inr rfl, S, ρ, H', fun A' q1 q2 => Inv.around I1 q1 (q2.trans hf'.symm), h4, h5, hok⟩)
  | succ r ih =>
    intro i n s₀ s' S ρ H' hi hn hst hok
    have hlt : i < ds.length := by omega
    obtain ⟨h1, h2, h3, h4, h5⟩ := id hst
    have I' := h1 AA hh' hf'
    show Seg _ A _ _ _ s₀ _ ((compTurn (.GeneratorExp elt [⟨tg, iter, ifs, 0⟩] scope pos) 0 (.ref e.it) .none e.cenv).onRaise (leaving e.cenv)) [] s'
    rw [compTurn_gen, Sem.onRaise_eq_wrap]
    refine seg_bind_wrap (wpAny_standAt ?_)
    refine seg_bind_wrap ?_
    rw [hAA]
    refine thnF (T.item (gcx e.X AA e.s e.H e.cenv e.fp [(e.a, e.obj)]) rfl rfl rfl hcalm i [] s' _ H' (fun _ _ => False) I' (fpo I' h2 h3) h2 (hJ.go _ _ _ _ h5 hlt)) fun rr s1 ⟨u, hr, h6⟩ => ?_
    subst hr
    refine seg_bind_wrap ?_
    rw [hAA]
    refine thnF h6 fun _ s2 ⟨x, H2, I2, r2, y2, st2, n2⟩ => ?_
    obtain ⟨d, hd, yd⟩ := hJ.yld _ _ _ _ _ _ h5 hlt y2
    obtain ⟨R2, eY, sY, kY⟩ := yd.to fun r => RepVs.mono h5 r
    replace h4 := sY _ h4
    replace h5 := h5.trans eY
    obtain ⟨ry, S', hrun, hry⟩ := run i S d hd hok
    have hrun0 := hrun
    unfold cBody at hrun
    have E2 : RepE e.W.K ρ S.length H2 (wipeD δ e.vs) (L2.wipe e.σ e.vs) := (hE.mono h5).wipe e.vs
    cases hts : tset t d (wipeD δ e.vs) with
    | none => rw [hts] at hrun; cases hrun
    | some δ' =>
      rw [hts] at hrun
      simp only [liftO_some, Out.bind_ok] at hrun
      have I2' := I2.pinned (fpo I2 st2 n2) (T.obj _ _ st2)
      -- what stands behind a part's run
      have back : ∀ {σ3 : L2.St} {H3 : Hp} {s3 : Shared}, Inv (gcx e.X AA e.s e.H e.cenv e.fp [(e.a, e.obj)]) ([] ++ pinsAt e.fp s2.heap) σ3 H3 s3 → L2.wipe σ3 e.vs = L2.wipe e.σ e.vs → σ3.length = (L2.wipe e.σ e.vs).length →
          e.GInv (L2.wipe e.σ e.vs) H3 s3 ∧ e.tn (i + 1) s3.heap ∧ ∀ b ∈ e.fp, H3 b = none := fun {σ3 H3 s3} I3 hw hwl => by
        have pin' : ∀ b ∈ e.fp, ∀ o, s2.heap.get? b = some o → s3.heap.get? b = some o ∧ H3 b = none := fun b hb o q =>
          let z := I3.pin (b, o) (List.mem_append_right _ (List.mem_append_right _ (mem_pinsAt hb q)))
          ⟨z.1, z.2.1⟩
        refine ⟨fun A' q1 q2 => Inv.around ((I3.unpinned (pins := [])).weak hwl.symm fun j v q => ?_) q1 (q2.trans hf'.symm), T.keep _ _ _ st2 fun b hb o q => (pin' b hb o q).1, fun b hb => ?_⟩
        · rw [← hw] at q
          exact (wipe_some q).1
        · obtain ⟨o, q, _⟩ := T.obj _ _ st2 b hb
          exact (pin' b hb o q).2
      refine seg_bind_wrap ?_
      rw [hAA]
      refine thnF ((hg AA aok).run _ s2 _ H2 x u (fun σ3 H3 => H3 = H2 ∧ RepE e.W.K ρ S.length H2 δ' σ3 ∧ L2.wipe σ3 e.vs = L2.wipe e.σ e.vs ∧ σ3.length = (L2.wipe e.σ e.vs).length) I2' r2 (tg_ok hK hts R2 E2 fun σ' E' hw => ⟨rfl, E', by rw [hw e.vs hv, wipe_wipe], by rw [← E'.len, ← E2.len]; exact (tset_len hts)⟩)) fun _ s3 ⟨σ3, H3, I3, hH3, E3, hw3, hl3⟩ => ?_
      subst hH3
      cases hc : c δ' S with
      | bad => rw [hc] at hrun; cases hrun
      | exc x' S3 => rw [hc] at hrun; cases hrun
      | ok b S3 =>
        rw [hc] at hrun
        simp only [Out.bind_ok] at hrun
        refine seg_bind_wrap ?_
        rw [hAA]
        refine thnF ((ht AA aok).run _ s3 σ3 H3 (fun b' H4 => b' = b ∧ ∃ ρ4, Ext ρ S.length H3 ρ4 S3.length H4 ∧ RepS e.W ρ4 S3 H4) I3 ⟨δ', S, ρ, h4, E3, by rw [hc]; exact fun ρ4 H4 e4 s4 b' hb' => ⟨hb'.symm, ρ4, e4, s4⟩⟩) fun b' s4 ⟨H4, I4, hb', ρ4, e4, hS4⟩ => ?_
        subst hb'
        cases b' with
        | false =>
          simp only [Bool.false_eq_true, if_false, Out.ok.injEq] at hrun ⊢
          obtain ⟨rfl, rfl⟩ := hrun
          obtain ⟨g1, g2, g3⟩ := back I4 hw3 hl3
          exact seg_again rfl (ih (i + 1) n s₀ s4 S3 ρ4 H4 (by omega) (by omega) ⟨g1, g2, g3, hS4, h5.trans e4⟩ hry)
        | true =>
          simp only [if_true] at hrun ⊢
          cases hel : f δ' S3 with
          | bad => rw [hel] at hrun; cases hrun
          | exc x' S4 => rw [hel] at hrun; cases hrun
          | ok y S4 =>
            rw [hel] at hrun
            simp only [Out.bind_ok, Out.ok.injEq] at hrun
            obtain ⟨rfl, rfl⟩ := hrun
            have hy : ∀ v, yieldOut e.cenv v = yieldValue v := fun v => by simp only [yieldOut, hco, Bool.false_eq_true, if_false]
            simp only [hy]
            rw [Sem.bind_eq_wrap', Sem.bind_eq_wrap', Sem.wrap_wrap, Sem.wrap_wrap]
            refine seg_wrap ?_
            rw [hAA]
            refine thnF ((he AA aok).run _ s4 σ3 H4 (fun v H5 => ∃ ρ5, Ext ρ4 S3.length H4 ρ5 S4.length H5 ∧ RepS e.W ρ5 S4 H5 ∧ RepV e.W.K ρ5 S4.length H5 y v) I4 ⟨δ', S3, ρ4, hS4, E3.mono e4, by rw [hel]; exact fun ρ5 H5 e5 s5 v hv => ⟨ρ5, e5, s5, hv⟩⟩) fun yv s5 ⟨v, H5, I5, r5, ρ5, e5, hS5, rv5⟩ => ?_
            obtain ⟨g1, g2, g3⟩ := back I5 hw3 hl3
            obtain ⟨n', rfl⟩ : ∃ n', n = n' + 1 := ⟨n - 1, by omega⟩
            have gst : e.GSt (i + 1) S4 ρ5 H5 s5 := ⟨g1, g2, g3, hS5, (h5.trans e4).trans e5⟩
            refine seg_at (seg_yield rfl rfl rfl ⟨i, S4, y, v, ρ5, H5, by omega, by omega, r5, rv5, gst, hry, fun s'' q1 q2 q3 q4 => ?_⟩)
            exact seg_again rfl (ih (i + 1) n' s'' s'' S4 ρ5 H5 (by omega) (by omega) (gst.same q1 q2 q3) q4)
end
end PD

set_option Elab.async false
set_option linter.all false
set_option maxRecDepth 100000
set_option maxHeartbeats 2000000
namespace PD
open PySem PySem.Spec PyProof.Rows L2

/-- where the consumer stands -/
structure Near (X : Cx) (A : Around) : Prop where
  hd : A.handled = none
  fr : A.frames = some X.stack
  dp : A.depth ≤ X.A.depth
  un : A.units ≤ X.A.units + 8
theorem Near.in1 {X : Cx} {A : Around} (h : Near X A) (hu : A.units + 1 ≤ X.A.units + 8) : Near X A.in1 := ⟨h.hd, h.fr, h.dp, hu⟩
theorem Near.room {X : Cx} {A : Around} {k : Nat} (h : Near X A) (r : Room (k + 1) X.A) {elt tg iter : Expr} {ifs : List Expr} {scope : Scope} {pos : Pos} {it acc : Value} {cenv : Env} : Room k (A.over (.compLoop (.GeneratorExp elt [⟨tg, iter, ifs, 0⟩] scope pos) 0 it acc cenv) []) := by
  have h1 := r.dp
  have h2 := r.un
  have h3 := h.dp
  have h4 := h.un
  refine ⟨h.hd, ?_, ?_⟩
  · show A.depth + 0 + 1 + 3 * k + 5 < recursionLimit
    omega
  · show A.units + 0 + 3 + 16 * k + 200 < cLine
    omega
/-- the generator sleeps ahead of turn i; nothing but the table of generators has changed since -/
def GEnvr.Rdy (e : GEnvr) (A : Around) (n i : Nat) (S : Store) (ρ : Rn) (H' : Hp) (s' : Shared) : Prop :=
  e.GSt i S ρ H' s' ∧ AllBare s'.gens ∧ ∃ gs, s'.gens[e.g]? = some gs ∧ ∀ s'' : Shared, s''.heap = s'.heap → s''.os = s'.os → AllBare s''.gens → e.Ok i S → gs.Goes (model e.X.prog e.X.w) A e.R e.Y n (.send .none) s''
section
variable {e : GEnvr} {k : Nat}
/-- in the consumer's context -/
theorem GEnvr.back (e : GEnvr) {pins : List (Addr × Obj)} {σ' : L2.St} {H' : Hp} {s' : Shared} (I : Inv e.X pins e.σ e.H e.s) (hfp : ∀ b ∈ e.fp, FpOk e.X pins e.H b) (h : e.GInv σ' H' s') : Inv e.X pins e.σ H' s' := by
  have I6 := h { e.X.A with handled := none, frames := some (e.cenv :: e.X.stack) } rfl rfl
  exact I.call' (ch := e.fp) I6.os I6.base I6.hok I6.bare fun b hb => ⟨(hfp b hb).2.2.2.1, (hfp b hb).2.1, (hfp b hb).2.2.2.2.1, (hfp b hb).2.2.2.2.2⟩
theorem GEnvr.pinned (e : GEnvr) {σ' : L2.St} {H' : Hp} {s' : Shared} (h : e.GInv σ' H' s') : s'.heap.get? e.a = some e.obj := by
  have I6 := h { e.X.A with handled := none, frames := some (e.cenv :: e.X.stack) } rfl rfl
  exact (I6.pin (e.a, e.obj) (by simp)).1
/-- THE TURN: the generator is woken -/
theorem gx_next {A : Around} {s' : Shared} {n i : Nat} {S : Store} {ρ : Rn} {H' : Hp} {Q : Option Value → Shared → Prop} {E : Value → Shared → Prop} {pins : List (Addr × Obj)} (I0 : Inv e.X pins e.σ e.H e.s) (hfp : ∀ b ∈ e.fp, FpOk e.X pins e.H b)
    (hobj : ∀ h : Heap, h.get? e.a = some e.obj → h.IsGen e.a e.g) (hroom : Room k e.X.A) (nr : Near e.X A.in1) (h : e.Rdy A.in1 n i S ρ H' s') (hok : e.Ok i S) (hn : e.len - i + 1 ≤ n)
    (hN : ∀ S1 ρ1 H1 s1, Inv e.X pins e.σ H1 s1 → RepS e.W ρ1 S1 H1 → Ext e.ρ1 e.N1 e.H ρ1 S1.length H1 → e.Ok e.len S1 → Q none s1)
    (hY : ∀ j S1 d x v ρ1 H1 s1, j < e.len → e.len - (j + 1) + 1 ≤ n - 1 → RelV x v → RepV e.W.K ρ1 S1.length H1 d x → e.Yld j d S1 → e.Rdy A.in1 (n - 1) (j + 1) S1 ρ1 H1 s1 → Inv e.X pins e.σ H1 s1 → Q (some v) s1) :
    wpAny (model e.X.prog e.X.w) A (pyNext (.ref e.a)) Q E s' := by
  obtain ⟨gst, hb, gs, hgs, hgo⟩ := id h
  have hg := hobj _ (e.pinned gst.1)
  have I1 := e.back I0 hfp gst.1
  have hglt : e.g < s'.gens.size := by
    rcases Nat.lt_or_ge e.g s'.gens.size with h' | h'
    · exact h'
    · rw [Array.getElem?_eq_none h'] at hgs; cases hgs
  refine GenW.wpAny_gsz (n := e.g + 1) hglt ?_
  refine next_genG (F := e.Fin) (Er := fun _ _ => False) (Y := e.Y) (n := n) nr.hd I1.nolimit ?_ hg hgs ?_ ?_ ?_ (fun _ _ z => z.elim)
  · have := hroom.depth
    exact Nat.lt_of_le_of_lt nr.dp this
  · exact hgo (s'.setGen e.g .running) rfl rfl (allBare_setGen hb rfl) hok
  · intro v s1 gs' hgb hy hsz
    obtain ⟨j, S1, d, x, ρ1, H1, hj, hjn, rv, rd, gst1, hyl, kap⟩ := hy
    have hsz' : e.g < s1.gens.size := by
      have : e.g + 1 ≤ (s1.setGen e.g gs').gens.size := hsz
      rw [GenW.setGen_size] at this
      exact this
    have hb1 : AllBare s1.gens := (gst1.1 { e.X.A with handled := none, frames := some (e.cenv :: e.X.stack) } rfl rfl).bare
    have hb2 : AllBare (s1.setGen e.g gs').gens := allBare_setGen hb1 hgb
    have gst2 : e.GSt (j + 1) S1 ρ1 H1 (s1.setGen e.g gs') := gst1.same rfl rfl hb2
    cases n with
    | zero => omega
    | succ m => exact hY j S1 d x v ρ1 H1 _ hj hjn rv rd hyl ⟨gst2, hb2, gs', setGen_at hsz', fun s2 q1 q2 q3 q4 => kap s2 q1 q2 q3 q4⟩ (e.back I0 hfp gst2.1)
  · intro s1 ⟨S1, ρ1, H1, gi, hS1, hX1, hok1⟩ h' hk hsz
    have hb1 : AllBare s1.gens := (gi { e.X.A with handled := none, frames := some (e.cenv :: e.X.stack) } rfl rfl).bare
    have I2 := e.back I0 hfp gi
    refine hN S1 ρ1 H1 _ ?_ hS1 hX1 hok1
    have I3 := (PD.Inv.gens I2 (G := (s1.setGen e.g .finished).gens) (allBare_setGen hb1 rfl)).kept (t' := s1.toks) hk
    exact I3
/-- the start of the frame's code -/
theorem seg_gx0 {elt tg iter : Expr} {ifs : List Expr} {scope : Scope} {pos : Pos} {J : L2.It} {ds : List D} {δ : DEnv} {t : Tg} {c : DEnv → Store → Out Bool} {f : DEnv → Store → Out D} (hK : e.X.K = e.W.K) (hcalm : e.X.calm = true) (hco : e.cenv.scope.isCoroutine = false) (T : Turn e.X.prog e.X.w e.X.K tg J e.fp e.it e.tn) (hJ : Itm e.W e.ρ1 e.N1 e.H ds J) (hlen : ds.length = e.len) (hE : RepE e.W.K e.ρ1 e.N1 e.H δ e.σ)
    (hv : ∀ i ∈ t.slots, i ∈ e.vs) (hafp : e.a ∉ e.fp)
    (hg : ∀ A', AOk e k A' → PG (gcx e.X A' e.s e.H e.cenv e.fp [(e.a, e.obj)]) tg (tgR e.X.K t))
    (ht : ∀ A', AOk e k A' → PTs (gcx e.X A' e.s e.H e.cenv e.fp [(e.a, e.obj)]) ifs (tT e.W wNo c))
    (he : ∀ A', AOk e k A' → PE (gcx e.X A' e.s e.H e.cenv e.fp [(e.a, e.obj)]) elt (tD e.W wNo f))
    (run : ∀ i S d, ds[i]? = some d → e.Ok i S → ∃ r S', cBody t e.vs c f δ d S = .ok r S' ∧ (match r with | none => e.Ok (i + 1) S' | some y => e.Yld i y S'))
    {A : Around} (nr : Near e.X A) (hroom : Room (k + 1) e.X.A) {n : Nat} {s₀ s' : Shared} {S : Store} {ρ : Rn} {H' : Hp} (hn : e.len + 1 ≤ n) (hst : e.GSt 0 S ρ H' s') (hok : e.Ok 0 S) :
      Seg (model e.X.prog e.X.w) A e.R e.Y n s₀ (.compStart (.GeneratorExp elt [⟨tg, iter, ifs, 0⟩] scope pos) 0 (.ref e.it) .none e.cenv)
        ((model e.X.prog e.X.w).den (.compStart (.GeneratorExp elt [⟨tg, iter, ifs, 0⟩] scope pos) 0 (.ref e.it) .none e.cenv)) [] s' := by
  have loop := seg_gx (iter := iter) (scope := scope) (pos := pos) hK hcalm hco T hJ hlen hE hv hafp hg ht he run nr.hd nr.fr (nr.room hroom) e.len 0 n s₀ s' S ρ H' (Nat.add_zero _) hn hst hok
  show Seg _ A _ _ _ s₀ _ ((compStart (.GeneratorExp elt [⟨tg, iter, ifs, 0⟩] scope pos) 0 (.ref e.it) .none e.cenv).onRaise (leaving e.cenv)) [] s'
  unfold compStart
  rw [Sem.onRaise_eq_wrap]
  show Seg _ A _ _ _ s₀ _ ((ask >>= _).wrap _ _ _ _) [] s'
  refine seg_bind_wrap (wpAny_askSetting ?_)
  split
  · exact seg_again rfl loop
  · first
      | exact seg_bind_wrap (wpAny_rule (seg_bind_wrap (wpAny_standAt (seg_bind_wrap (T.self _ 0 s' _ _ hst.2.1 (seg_again rfl loop))))))
      | (refine seg_bind_wrap (wpAny_rule ?_); show Seg _ A _ _ _ s₀ _ ((standAt iter.pos >>= _).wrap _ _ _ _) [] s'; exact seg_bind_wrap (wpAny_standAt (seg_bind_wrap (T.self _ 0 s' _ _ hst.2.1 (seg_again rfl loop)))))
variable {F : D → Store → Out (Option D)} {ds : List D} {b0 : Bool} {S0 : Store} {isAny : Bool}
theorem allL_run {i : Nat} {S : Store} {d : D} (hd : ds[i]? = some d) (h : allL isAny F (ds.drop i) S = .ok b0 S0) :
    ∃ r S', F d S = .ok r S' ∧ (match r with | none => allL isAny F (ds.drop (i + 1)) S' = .ok b0 S0 | some y => ((liftB S' y.asB).bind fun b S2 => if b = isAny then .ok isAny S2 else allL isAny F (ds.drop (i + 1)) S2) = .ok b0 S0) := by
  have hi : i < ds.length := (List.getElem?_eq_some_iff.mp hd).1
  have hdrop : ds.drop i = d :: ds.drop (i + 1) := by
    rw [List.drop_eq_getElem_cons hi]
    congr 1
    rw [List.getElem?_eq_getElem hi] at hd
    exact Option.some.inj hd
  rw [hdrop] at h
  simp only [allL] at h
  cases hF : F d S with
  | bad => rw [hF] at h; cases h
  | exc _ _ => rw [hF] at h; cases h
  | ok r S' =>
    rw [hF] at h
    refine ⟨r, S', rfl, ?_⟩
    cases r with
    | none => exact h
    | some y => exact h
/-- what the loops of all and any need -/
structure AllE (e : GEnvr) (isAny : Bool) (F : D → Store → Out (Option D)) (ds : List D) (b0 : Bool) (S0 : Store) : Prop where
  ok : e.Ok = fun i S => allL isAny F (ds.drop i) S = .ok b0 S0
  yl : e.Yld = fun j d S => ((liftB S d.asB).bind fun b S2 => if b = isAny then .ok isAny S2 else allL isAny F (ds.drop (j + 1)) S2) = .ok b0 S0
  len : ds.length = e.len
theorem all_loop {pins : List (Addr × Obj)} {Rr : Result → Shared → Prop} (ae : AllE e isAny F ds b0 S0) (I0 : Inv e.X pins e.σ e.H e.s) (hfp : ∀ b ∈ e.fp, FpOk e.X pins e.H b) (hobj : ∀ h : Heap, h.get? e.a = some e.obj → h.IsGen e.a e.g) (hcalm : e.X.calm = true) (hroom : Room k e.X.A)
    (hfr : e.X.A.frames = some e.X.stack)
    (fin : ∀ ρ1 H1 s1, Inv e.X pins e.σ H1 s1 → RepS e.W ρ1 S0 H1 → Ext e.ρ1 e.N1 e.H ρ1 S0.length H1 → Rr (.ok (.ret (.bool b0))) s1) :
    ∀ (n i : Nat) (s' : Shared) (S : Store) (ρ : Rn) (H' : Hp), e.len - i + 1 ≤ n → e.Rdy e.X.A.in1.in1 n i S ρ H' s' → e.Ok i S →
      codeAny (model e.X.prog e.X.w) e.X.A (.builtin (if isAny then "any.loop" else "all.loop") ⟨[.ref e.a], []⟩) Rr s' := by
  have nr : Near e.X e.X.A.in1.in1 := ⟨hroom.hd, hfr, Nat.le_refl _, by show e.X.A.units + 1 + 1 ≤ _; omega⟩
  intro n
  induction n with
  | zero => intro i s' S ρ H' hn; omega
  | succ n ih =>
    intro i s' S ρ H' hn hr hok
    have stop : ∀ S1 ρ1 H1 s1, Inv e.X pins e.σ H1 s1 → RepS e.W ρ1 S1 H1 → Ext e.ρ1 e.N1 e.H ρ1 S1.length H1 → e.Ok e.len S1 → Rr (.ok (.ret (.bool (!isAny)))) s1 := fun S1 ρ1 H1 s1 I1 hS1 hX1 hok1 => by
      rw [ae.ok] at hok1
      rw [← ae.len, List.drop_length] at hok1
      simp only [allL, Out.ok.injEq] at hok1
      obtain ⟨rfl, rfl⟩ := hok1
      exact fin ρ1 H1 s1 I1 hS1 hX1
    cases isAny with
    | false =>
      simp only [Bool.false_eq_true, if_false]
      refine codeAny_builtin PySem.F.entry_all_loop ?_
      rw [Around.under_plainId PySem.F.plain_all_loop _]
      show wpAny _ e.X.A.in1 (pyNext (.ref e.a) >>= _) _ _ s'
      refine wpAny_bind (gx_next (A := e.X.A.in1) I0 hfp hobj hroom nr hr hok hn (fun S1 ρ1 H1 s1 I1 hS1 hX1 hok1 => ?_) (fun j S1 d x v ρ1 H1 s1 hj hjn rv rd hy hr1 I1 => ?_))
      · refine wpAny_bind (wpAny_rule (wpAny_pure ?_))
        exact stop S1 ρ1 H1 s1 I1 hS1 hX1 hok1
      · rw [ae.yl] at hy
        cases hb : d.asB with
        | none => rw [hb] at hy; cases hy
        | some b =>
          rw [hb] at hy
          simp only [liftB_some, Out.bind_ok] at hy
          have := asB_rep hb rd
          subst this
          cases rv
          refine wpAny_bind (wpAny_holding (wpAny_truthy_bool ?_))
          refine wpAny_bind (wpAny_letGo ?_)
          cases b with
          | true =>
            simp only [if_true]
            simp only [Bool.true_eq_false, if_false] at hy
            refine wpAny_pure ⟨plainId_quiet PySem.F.plain_all_loop _, ?_⟩
            have z := ih (j + 1) s1 S1 ρ1 H1 (by omega) hr1 (by rw [ae.ok]; exact hy)
            simpa using z
          | false =>
            simp only [if_true, Out.ok.injEq] at hy
            obtain ⟨rfl, rfl⟩ := hy
            simp only [Bool.false_eq_true, if_false]
            refine wpAny_bind (wpAny_rule (wpAny_pure ?_))
            exact fin ρ1 H1 s1 I1 hr1.1.2.2.2.1 hr1.1.2.2.2.2
    | true =>
      simp only [if_true]
      refine codeAny_builtin PySem.F.entry_any_loop ?_
      rw [Around.under_plainId PySem.F.plain_any_loop _]
      show wpAny _ e.X.A.in1 (pyNext (.ref e.a) >>= _) _ _ s'
      refine wpAny_bind (gx_next (A := e.X.A.in1) I0 hfp hobj hroom nr hr hok hn (fun S1 ρ1 H1 s1 I1 hS1 hX1 hok1 => ?_) (fun j S1 d x v ρ1 H1 s1 hj hjn rv rd hy hr1 I1 => ?_))
      · refine wpAny_bind (wpAny_rule (wpAny_pure ?_))
        exact stop S1 ρ1 H1 s1 I1 hS1 hX1 hok1
      · rw [ae.yl] at hy
        cases hb : d.asB with
        | none => rw [hb] at hy; cases hy
        | some b =>
          rw [hb] at hy
          simp only [liftB_some, Out.bind_ok] at hy
          have := asB_rep hb rd
          subst this
          cases rv
          refine wpAny_bind (wpAny_holding (wpAny_truthy_bool ?_))
          refine wpAny_bind (wpAny_letGo ?_)
          cases b with
          | false =>
            simp only [Bool.false_eq_true, if_false] at hy ⊢
            refine wpAny_pure ⟨plainId_quiet PySem.F.plain_any_loop _, ?_⟩
            have z := ih (j + 1) s1 S1 ρ1 H1 (by omega) hr1 (by rw [ae.ok]; exact hy)
            simpa using z
          | true =>
            simp only [if_true, Out.ok.injEq] at hy
            obtain ⟨rfl, rfl⟩ := hy
            simp only [if_true]
            refine wpAny_bind (wpAny_rule (wpAny_pure ?_))
            exact fin ρ1 H1 s1 I1 hr1.1.2.2.2.1 hr1.1.2.2.2.2
theorem all_call {pins : List (Addr × Obj)} {Q : Value → Shared → Prop} {E : Value → Shared → Prop} (ae : AllE e isAny F ds b0 S0) (I0 : Inv e.X pins e.σ e.H e.s) (hfp : ∀ b ∈ e.fp, FpOk e.X pins e.H b) (hobj : ∀ h : Heap, h.get? e.a = some e.obj → h.IsGen e.a e.g) (hcalm : e.X.calm = true) (hroom : Room k e.X.A)
    (hfr : e.X.A.frames = some e.X.stack)
    (fin : ∀ ρ1 H1 s1, Inv e.X pins e.σ H1 s1 → RepS e.W ρ1 S0 H1 → Ext e.ρ1 e.N1 e.H ρ1 S0.length H1 → Q (.bool b0) s1)
    {n : Nat} {s' : Shared} {S : Store} {ρ : Rn} {H' : Hp} (hn : e.len + 1 ≤ n) (hr : e.Rdy e.X.A.in1.in1 n 0 S ρ H' s') (hok : e.Ok 0 S) :
    wpAny (model e.X.prog e.X.w) e.X.A (call (.builtin (if isAny then "any" else "all")) [.ref e.a]) Q E s' := by
  have loop := fun (Rr : Result → Shared → Prop) fin => all_loop (Rr := Rr) ae I0 hfp hobj hcalm hroom hfr fin n 0 s' S ρ H' (by omega) hr hok
  have hg := hobj _ (e.pinned hr.1.1)
  cases isAny with
  | false =>
    simp only [Bool.false_eq_true, if_false] at loop ⊢
    refine call_function_tree PySem.F.kind_all PySem.F.plain_all PySem.F.entry_all (PySem.F.args_all1 _) ?_
    unfold Builtin.«all»
    refine wpAny_bind (m := oneArg "all" _) (wpAny_pure ?_)
    refine wpAny_bind (wpAny_pyIter_gen hg ?_)
    exact wpAny_pure ⟨plainId_quiet PySem.F.plain_all_loop _, loop _ fin⟩
  | true =>
    simp only [if_true] at loop ⊢
    refine call_function_tree PySem.F.kind_any PySem.F.plain_any PySem.F.entry_any (PySem.F.args_any1 _) ?_
    unfold Builtin.«any»
    refine wpAny_bind (m := oneArg "any" _) (wpAny_pure ?_)
    refine wpAny_bind (wpAny_pyIter_gen hg ?_)
    exact wpAny_pure ⟨plainId_quiet PySem.F.plain_any_loop _, loop _ fin⟩
end
end PD

set_option Elab.async false
set_option linter.all false
set_option maxRecDepth 100000
set_option maxHeartbeats 2000000
namespace PD
open PySem PySem.Spec PyProof.Rows L2
open GxR (TabB TabG inv_tab sh_eta)

section
variable {W : Wd} {ρ : Rn} {S : Store} {H : Hp} {P : Addr} {ps ps' : Array Value} {N : Nat}
theorem Ext.tab (h : H P = some (.tbl ps)) : Ext ρ N H ρ N (upd H P (.tbl ps')) where
  le := Nat.le_refl _
  agree := fun _ _ => rfl
  tups := fun a xs e => by rw [upd_ne (ne_of e h (by intro z; cases z))]; exact e
  frzs := fun a x u e => by rw [upd_ne (ne_of e h (by intro z; cases z))]; exact e
  keep := fun a x e _ t => by rw [upd_ne (ne_of e h (fun z => t _ z))]; exact e
  there := fun a e => by
    by_cases q : a = P
    · rw [q, upd_same]; simp
    · rw [upd_ne q]; exact e
  fresh := fun i h1 h2 => absurd h2 (Nat.not_lt.mpr h1)
  hid := rfl
  kL := fun i _ ⟨xs, e⟩ => ⟨xs, by rw [upd_ne (ne_of e h (by intro z; cases z))]; exact e⟩
  kD := fun i _ ⟨xs, e⟩ => ⟨xs, by rw [upd_ne (ne_of e h (by intro z; cases z))]; exact e⟩
theorem RepS.tab (s : RepS W ρ S H) (h : H P = some (.tbl ps)) (ht : TriplesOk ps'.toList) : RepS W ρ S (upd H P (.tbl ps')) where
  at_ := fun i c e => (s.at_ i c e).mono (Ext.tab h) fun x q => by
    rw [upd_ne (ne_of q h (fun z => ?_))]; exact q
    subst z
    obtain ⟨o, q2, mu⟩ := (s.at_ i c e).there
    rw [q] at q2; cases q2
    exact mu
  inj := s.inj
  tabs := fun q hq => by
    obtain ⟨qs, e, t⟩ := s.tabs q hq
    by_cases z : q = P
    · subst z; exact ⟨ps', upd_same, ht⟩
    · exact ⟨qs, by rw [upd_ne z]; exact e, t⟩
  hid := fun a ha => let ⟨⟨xs, e⟩, n⟩ := s.hid a ha; ⟨⟨xs, by rw [upd_ne (ne_of e h (by intro z; cases z))]; exact e⟩, n⟩
end
section
variable {X : Cx} {W : Wd} {Wx : WX} {elt tg iter : Expr} {ifs : List Expr} {scope : Scope} {own : List (Str × Nat)} {p pos gpos : Pos} {t : Tg} {src : DEnv → Store → Out Src} {c : DEnv → Store → Out Bool} {f : DEnv → Store → Out D} {k : Nat} {isAny : Bool}
/-- a boot fact for both -/
theorem boot_aa : bootBuiltins (if isAny then ("any" : Str) else ("all" : Str)) = some (.builtin (if isAny then "any" else "all")) := by cases isAny <;> decide +kernel
theorem g_all (hK : X.K = W.K) (hr : Room (k + 1) X.A) (hcalm : X.calm = true) {nm : Str} (hnm : nm = if isAny then ("any" : Str) else ("all" : Str)) (hg : Gl X nm) (hm : X.mg nm = none) {cc P : Addr} (TB : TabB X.base X.mg cc P) (hPT : P ∈ W.T) (hcode : X.env.code = .ref cc) (hN : X.N.Nodup)
    (ok : GexOk X.N X.env.scope scope own) (hv : ∀ i ∈ t.slots, i ∈ own.map (·.2)) (hi : PI X tg iter (iI W Wx src)) (hs : ∀ v, genFold iter X.env v = pure v)
    (hgt : ∀ (A' : Around) (s : Shared) (H : Hp) (C : Addr) (code : Value) (fp : List Addr) (pn : List (Addr × Obj)), A'.handled = none → Room k A' → PG (gcx X A' s H (genEnv scope (cloFrom X.env.cells scope.names []) C code builtinsNs X.env) fp pn) tg (tgR X.K t))
    (ht : ∀ (A' : Around) (s : Shared) (H : Hp) (C : Addr) (code : Value) (fp : List Addr) (pn : List (Addr × Obj)), A'.handled = none → Room k A' → PTs (gcx X A' s H (genEnv scope (cloFrom X.env.cells scope.names []) C code builtinsNs X.env) fp pn) ifs (tT W wNo c))
    (he : ∀ (A' : Around) (s : Shared) (H : Hp) (C : Addr) (code : Value) (fp : List Addr) (pn : List (Addr × Obj)), A'.handled = none → Room k A' → PE (gcx X A' s H (genEnv scope (cloFrom X.env.cells scope.names []) C code builtinsNs X.env) fp pn) elt (tD W wNo f)) :
    PE X (.Call (.Name nm p) [.GeneratorExp elt [⟨tg, iter, ifs, 0⟩] scope gpos] [] pos)
      (tD W Wx fun δ S => (src δ S).bind fun s S1 => (liftO S1 s.items).bind fun ds S1 => (nox (allL isAny (cBody t (own.map (·.2)) c f δ) ds S1)).bind fun b S2 => .ok (.bl b) S2) := by
  have he0 : starEach [.GeneratorExp elt [⟨tg, iter, ifs, 0⟩] scope gpos] X.env = (false, eval (.GeneratorExp elt [⟨tg, iter, ifs, 0⟩] scope gpos) X.env) :: starEach [] X.env := rfl
  refine ⟨fun pins s σ H Q I ⟨δ, S, ρ, s0, E, h⟩ => ?_⟩
  have hbt : bootBuiltins nm = some (.builtin (if isAny then "any" else "all")) := by rw [hnm]; exact boot_aa
  refine wpAny_Call_Name_kw (ld_blt I hg hm hbt ?_ (by rw [hnm]; cases isAny <;> decide +kernel) (by rw [hnm]; cases isAny <;> decide +kernel))
  refine PyProof.Rows.callWith_builtin1 ?_ he0 (by rfl)
  rw [he0]
  show wpAny _ _ (spliced ((false, eval (.GeneratorExp elt [⟨tg, iter, ifs, 0⟩] scope gpos) X.env) :: backTo pos (starEach [] X.env))) _ _ s
  refine Calls.spliced_cons ?_
  refine wpAny_GeneratorExp_make ok.co (closure_ok (gex_free I ok)) ok.nocell ok.dot ok.kind hr.depth ?_ hs
  refine thn (hi.run pins s σ H _ I (rdg.next (rel := relSrc W) (Q' := fun J H1 => ∃ sr S1 ρ1, RepS W ρ1 S1 H1 ∧ RepE W.K ρ1 S1.length H1 δ σ ∧ relSrc W ρ1 S1.length H1 sr J ∧ Cont W Wx σ (relD W) ((liftO S1 sr.items).bind fun ds S1 => (nox (allL isAny (cBody t (own.map (·.2)) c f δ) ds S1)).bind fun b S2 => .ok (.bl b) S2) ρ1 S1.length H1 Q) s0 E h fun J H1 sr S1 ρ1 e1 s1 E1 r1 h1 => ⟨sr, S1, ρ1, s1, E1, r1, h1⟩)) fun xv s1 hx => thn hx fun itv s2 ⟨it, fp, tn, J, H2, eit, I2, T, st2, f2, sr, S1, ρ1, hS, hE, hrel, hC⟩ => ?_
  subst eit
  obtain ⟨ds, eds, hC2⟩ := Cont.oO hC
  have hsr : sr = .st ds := by cases sr with | st _ => cases eds; rfl | lv _ => cases eds
  subst hsr
  have hJ : Itm W ρ1 S1.length H2 ds J := hrel
  obtain ⟨b0, S0, hall⟩ := nox_ok_of hC2
  rw [hall] at hC2
  simp only [nox_ok, Out.bind_ok] at hC2
  obtain ⟨ps, hP, htr⟩ := hS.tabs P hPT
  have hPs : s2.heap.get? P = some { cls := .none, data := .fields ps } := I2.hok P _ hP
  have hPlt : P < s2.heap.objs.size := Heap.lt_size hPs
  have cd : PySem.W.CodeHd s2.heap cc P := TB.code.keeps fun b u q => I2.bk b u q
  have sz : ∀ b ∈ fp, b < s2.heap.objs.size := fun b hb => by
    obtain ⟨o, q, _⟩ := T.obj _ _ st2 b hb
    exact Heap.lt_size q
  refine ⟨I2.nolimit, ?_⟩
  -- behind the code object
  have cont : ∀ (code : Value) (h3 : Heap) (tk : Nat) (ps' : Array Value), (∀ b u, b ≠ P → s2.heap.get? b = some u → h3.get? b = some u) → h3.get? P = some { cls := .none, data := .fields ps' } → (∃ more, ps' = ps ++ more) → TriplesOk ps'.toList → s2.heap.objs.size ≤ h3.objs.size →
      wpAny (model X.prog X.w) X.A (builtinsFor X.env.globals X.env.builtins) (fun bi s₄ =>
        ∀ h', h'.Ns s₄.heap.objs.size (fun y => if y = ".0" then some (.ref it) else none) → Heap.SameBut s₄.heap.objs.size (s₄.heap.push { cls := .type "frame", data := .dict #[] }) h' →
          wpAny (model X.prog X.w) X.A (spliced (backTo pos (starEach [] X.env))) (fun vs s6 => wpAny (model X.prog X.w) X.A (call (.builtin (if isAny then "any" else "all")) (.ref h'.objs.size :: vs)) (EP X pins σ Q) X.xe s6) X.xe { s₄ with
            gens := s₄.gens.push (.fresh (.compStart (.GeneratorExp elt [⟨tg, iter, ifs, 0⟩] scope gpos) 0 (.ref it) .none (genEnv scope (cloFrom X.env.cells scope.names []) s₄.heap.objs.size code bi X.env))),
            toks := s₄.toks + 1 + 1 + 1,
            heap := h'.push { cls := .type "generator", data := .fields #[.int s₄.gens.size 0, .str "<genexpr>" (s₄.toks + 1), .str (X.env.qual ++ "<genexpr>") (s₄.toks + 1 + 1)] } }) X.xe { s2 with heap := h3, toks := tk } := by
    intro code h3 tk ps' keep3 hP3 ⟨more, em⟩ ht3 hsz3
    subst em
    obtain ⟨bm, ob, e1, e2, e3, e4, e5, e6, e7, e8⟩ := TB.bm
    have I3 : Inv X pins σ (upd H2 P (.tbl (ps ++ more))) { s2 with heap := h3, gens := s2.gens, drawn := s2.drawn, toks := tk } := inv_tab I2 hP keep3 hP3 I2.bare
    have gl3 : h3.Ns mainGlobals X.mg := by
      obtain ⟨o, es, ep, ho, hd, hr⟩ := I2.mod.glob
      have := I2.bk _ _ ho
      exact ⟨o, es, ep, keep3 _ _ TB.gP this, hd, hr⟩
    refine wpAny_builtinsFor (m := X.mg) (by rw [I.ok.glob]; exact gl3) e1 e2 (keep3 _ _ e4 (I2.bk _ _ e5)) e6 e7 e8 ?_
    intro h' hn' hs'
    have hsize : h'.objs.size = h3.objs.size + 1 := by rw [hs'.1, Heap.size_push]
    have keep' : ∀ b o, h3.get? b = some o → h'.get? b = some o := fun b o q => hs'.extBut b o (Nat.ne_of_lt (Heap.lt_size q)) (Heap.get?_push_of_some _ q)
    refine Calls.spliced_nil ?_
    generalize hobjE : ({ cls := .type "generator", data := .fields #[.int s2.gens.size 0, .str "<genexpr>" (tk + 1), .str (X.env.qual ++ "<genexpr>") (tk + 1 + 1)] } : Obj) = gobj
    generalize hs5 : ({ ({ s2 with heap := h3, toks := tk } : Shared) with
            gens := s2.gens.push (.fresh (.compStart (.GeneratorExp elt [⟨tg, iter, ifs, 0⟩] scope gpos) 0 (.ref it) .none (genEnv scope (cloFrom X.env.cells scope.names []) h3.objs.size code builtinsNs X.env))),
            toks := tk + 1 + 1 + 1,
            heap := h'.push gobj } : Shared) = s5
    have h5 : s5.heap = h'.push gobj := by rw [← hs5]
    have g5 : s5.gens = s2.gens.push (.fresh (.compStart (.GeneratorExp elt [⟨tg, iter, ifs, 0⟩] scope gpos) 0 (.ref it) .none (genEnv scope (cloFrom X.env.cells scope.names []) h3.objs.size code builtinsNs X.env))) := by rw [← hs5]
    have os5 : s5.os = s2.os := by rw [← hs5]
    have keep5 : ∀ b o, h3.get? b = some o → s5.heap.get? b = some o := fun b o q => by rw [h5]; exact Heap.get?_push_of_some _ (keep' b o q)
    let e : GEnvr := ⟨W, X, { s2 with heap := h3, toks := tk }, upd H2 P (.tbl (ps ++ more)), genEnv scope (cloFrom X.env.cells scope.names []) h3.objs.size code builtinsNs X.env, fp, it, h'.objs.size, s2.gens.size, gobj, tn, own.map (·.2), σ, ρ1, S1.length, ds.length,
      fun i S => allL isAny (cBody t (own.map (·.2)) c f δ) (ds.drop i) S = .ok b0 S0, fun j d S => ((liftB S d.asB).bind fun b S2 => if b = isAny then .ok isAny S2 else allL isAny (cBody t (own.map (·.2)) c f δ) (ds.drop (j + 1)) S2) = .ok b0 S0⟩
    have ne_P : ∀ b ∈ fp, b ≠ P := fun b hb z => by
      have q := (f2 b hb).1
      rw [z, hP] at q; cases q
    have hfp3 : ∀ b ∈ fp, FpOk X pins (upd H2 P (.tbl (ps ++ more))) b := fun b hb => ⟨by rw [upd_ne (ne_P b hb)]; exact (f2 b hb).1, (f2 b hb).2⟩
    have hAB : AllBare s5.gens := by rw [g5]; exact I2.bare.push rfl
    have eT : Ext ρ1 S1.length H2 ρ1 S1.length (upd H2 P (.tbl (ps ++ more))) := Ext.tab hP
    have gst : e.GSt 0 S1 ρ1 (upd H2 P (.tbl (ps ++ more))) s5 := by
      refine ⟨fun A' q1 q2 => ?_, T.keep _ _ _ st2 fun b hb o q => keep5 b o (keep3 b o (ne_P b hb) q), fun b hb => (hfp3 b hb).1, hS.tab hP ht3, .refl⟩
      refine gen_start (m5 := fun y => if y = ".0" then some (.ref it) else none) I3 ok hN (fun b hb => ⟨hfp3 b hb, Nat.lt_of_lt_of_le (sz b hb) hsz3⟩) (Nat.le_refl _) keep5 os5 hAB ?_ ?_ ?_ ?_ ?_ q1 q2
      · rw [h5]; exact hn'.push _
      · rw [h5]; exact Heap.get?_push_size _ (by rw [← hobjE]; rfl)
      · exact fun z => by have z' : h'.objs.size = h3.objs.size := z; omega
      · show h3.objs.size ≤ h'.objs.size
        omega
      · show ∀ v, gobj.data ≠ .cell v
        rw [← hobjE]; exact fun v z => nomatch z
    have hJ3 : Itm W ρ1 S1.length (upd H2 P (.tbl (ps ++ more))) ds J := ⟨fun ρ' N' H' i q => hJ.go ρ' N' H' i (eT.trans q), fun ρ' N' H' i x H'' q hi hy => let ⟨d, z2, z3⟩ := hJ.yld ρ' N' H' i x H'' (eT.trans q) hi hy; ⟨d, z2, z3.mono eT⟩, fun ρ' N' H' q => hJ.stop ρ' N' H' (eT.trans q)⟩
    have nr : Near X X.A.in1.in1 := ⟨hr.hd, I.ok.frames, Nat.le_refl _, by show X.A.units + 1 + 1 ≤ _; omega⟩
    have rdy : e.Rdy X.A.in1.in1 (ds.length + 1) 0 S1 ρ1 (upd H2 P (.tbl (ps ++ more))) s5 := by
      refine ⟨gst, hAB, .fresh (.compStart (.GeneratorExp elt [⟨tg, iter, ifs, 0⟩] scope gpos) 0 (.ref it) .none e.cenv), by rw [g5]; exact Array.getElem?_push_size .., fun s'' q1 q2 q3 q4 => ⟨rfl, ?_⟩⟩
      exact seg_gx0 (e := e) (k := k) hK hcalm ok.co T hJ3 rfl (hE.mono eT) hv (fun z => by have := sz _ z; have hh : h'.objs.size < s2.heap.objs.size := this; omega) (fun A' q => hgt A' _ _ _ _ _ _ q.1 q.2.2) (fun A' q => ht A' _ _ _ _ _ _ q.1 q.2.2) (fun A' q => he A' _ _ _ _ _ _ q.1 q.2.2)
        (fun i S d hd hok => allL_run hd hok) nr hr (Nat.le_refl _) (gst.same q1 q2 q3) q4
    refine all_call (e := e) (k := k + 1) (isAny := isAny) (F := cBody t (own.map (·.2)) c f δ) (ds := ds) (b0 := b0) (S0 := S0) ⟨rfl, rfl, rfl⟩ I3 hfp3 (fun h q => ⟨gobj, _, _, q, by rw [← hobjE], by rw [← hobjE], by rw [← hobjE]⟩) hcalm hr I.ok.frames (fun ρ2 H5 s6 I6 hS6 hX6 => ⟨.bl b0, H5, I6, rfl, Cont.ok hC2 (eT.trans hX6) hS6 (.bl b0)⟩) (Nat.le_refl _) rdy (by show allL _ _ (ds.drop 0) S1 = _; exact hall)
  cases hf : codeAmong gpos ps.toList with
  | none =>
    refine wpAny_genexprCodeX hcode (cd.code hPs htr) (cd.tab hPs) hf fun c' h' tk hx hge hlt hco' _ htab' _ => ?_
    obtain ⟨o1, vs, f1, tf, fl, tg', inF, tx, tt, op, _, _, _, _, _, _, _, _, _, htr', _⟩ := hco'
    exact cont _ h' tk _ (fun b u hb q => hx b u hb q) htab'.2 ⟨_, rfl⟩ htr' (Nat.le_trans hge (Nat.le_of_lt hlt))
  | some cv =>
    refine wpAny_genexprCode_hit hcode (cd.code hPs htr) hf ?_
    exact cont cv s2.heap s2.toks ps (fun b u _ q => q) hPs ⟨#[], by simp⟩ htr (Nat.le_refl _)
/-- as a test -/
theorem g_allT {e : Expr} {G : Dn} {el : Ex} {it : PD.It} {cs : Exs} (hK : X.K = W.K) (h : PE X e (tD W Wx (ev G (.allG isAny el t it cs)))) (he : ∀ whole, isTrue e X.env whole = (do let v ← whole; standAt e.pos; holding [v] (truthy v))) : PT X e (tT W Wx (tst G (.allG isAny el t it cs))) :=
  PT.as (g_tru hK h he) fun δ S => by
    simp only [tst, ev, Out.bind_assoc, Out.bind_ok, D.tru, liftB_some]
theorem g_kin {neg : Bool} {i : Nat} {e : Expr} {x : Str} {a : Addr} {es : Array DictEntry} {n : Nat} {G : Dn} {y : Ex} {op : CmpOp} {l : List (List Nat × D)} (hop : op = if neg then .NotIn else .In) (hK : X.K = W.K) (KD : KDict X.K X.w a es n) (hl : G.Δ i = some l)
    (hval : ∀ s : List Nat, ∃ r, PySem.W.nsIn X.K a ⟨s.toArray⟩ = some r ∧ r.isSome = (l.lookup s).isSome) (hg : Gl X x) (hm : X.mg x = some (.ref a)) (hd : (x == ("__debug__" : Str)) = false) (he : PE X e (tD W Wx (ev G y))) :
    PE X (.Compare e [op] [.Name x p] pos) (tD W Wx (ev G (.kin neg i y))) := by
  have hgl := pe_glob (pos := p) (v := .ref a) hg hm rfl hd
  cases neg with
  | false =>
    simp only [Bool.false_eq_true, if_false] at hop
    subst hop
    refine PE.of (pe_cmpR (op_in_kd KD) he hgl rfl) fun σ H Q ⟨δ, S, ρ, s, E, h⟩ => ?_
    obtain ⟨l', hl', h⟩ := Cont.oO h
    rw [hl] at hl'
    cases hl'
    refine rdg.next s E h fun v H1 dx S1 ρ1 e1 s1 E1 r1 h1 => ?_
    obtain ⟨d, ed, q⟩ := Cont.oK h1
    unfold kinF at ed
    split at ed
    · rename_i s'
      cases ed
      cases r1
      obtain ⟨r, hr, hrs⟩ := hval s'
      exact ⟨_, r, rfl, rfl, hr, by rw [hrs]; exact q.here s1 (.bl _)⟩
    · cases ed
  | true =>
    simp only [if_true] at hop
    subst hop
    refine PE.of (pe_cmpR (op_notIn_kd KD) he hgl rfl) fun σ H Q ⟨δ, S, ρ, s, E, h⟩ => ?_
    obtain ⟨l', hl', h⟩ := Cont.oO h
    rw [hl] at hl'
    cases hl'
    refine rdg.next s E h fun v H1 dx S1 ρ1 e1 s1 E1 r1 h1 => ?_
    obtain ⟨d, ed, q⟩ := Cont.oK h1
    unfold kinF at ed
    split at ed
    · rename_i s'
      cases ed
      cases r1
      obtain ⟨r, hr, hrs⟩ := hval s'
      exact ⟨_, r, rfl, rfl, hr, by rw [hrs]; exact q.here s1 (.bl _)⟩
    · cases ed
theorem g_kidx {i : Nat} {e : Expr} {x : Str} {a : Addr} {es : Array DictEntry} {n : Nat} {G : Dn} {y : Ex} {l : List (List Nat × D)} (hK : X.K = W.K) (KD : KDict X.K X.w a es n) (hl : G.Δ i = some l)
    (hval : ∀ (s : List Nat) (d : D), l.lookup s = some d → ∃ u v, PySem.W.nsIn X.K a ⟨s.toArray⟩ = some (some u) ∧ RelV v u ∧ ∀ ρ N H, RepV W.K ρ N H d v) (hg : Gl X x) (hm : X.mg x = some (.ref a)) (hd : (x == ("__debug__" : Str)) = false) (he : PE X e (tD W Wx (ev G y))) (hs : PlainIx e) :
    PE X (.Subscript (.Name x p) e pos) (tD W Wx (ev G (.kidx i y))) := by
  have hgl := pe_glob (pos := p) (v := .ref a) hg hm rfl hd
  refine PE.of (pe_ix ix_kdict hgl he hs) fun σ H Q ⟨δ, S, ρ, s, E, h⟩ => ?_
  show tD W Wx (ev G y) σ H _
  obtain ⟨l', hl', h⟩ := Cont.oO h
  rw [hl] at hl'
  cases hl'
  refine rdg.next s E h fun v H1 dx S1 ρ1 e1 s1 E1 r1 h1 => ?_
  obtain ⟨d, ed, q⟩ := Cont.oK h1
  unfold kidxF at ed
  split at ed
  · rename_i s'
    cases r1
    obtain ⟨u, v, h2, h3, h4⟩ := hval s' d ed
    exact ⟨a, _, v, rfl, rfl, ⟨es, n, u, KD.at_, KD.lit, h2, h3⟩, q.here s1 (h4 _ _ _)⟩
  · cases ed
end
end PD

set_option Elab.async false
set_option linter.all false
set_option maxRecDepth 100000
namespace PD
open PySem PySem.Spec PyProof.Rows L2

def xName : Expr → Option Str
  | .Name x _ => some x
  | _ => none
theorem xName_eq {e : Expr} {x : Str} (h : xName e = some x) : ∃ p, e = .Name x p := by
  unfold xName at h; split at h
  · cases h; exact ⟨_, rfl⟩
  · cases h
def xCst : Expr → Option Const
  | .Constant k _ _ => some k
  | _ => none
theorem xCst_eq {e : Expr} {x : Const} (h : xCst e = some x) : ∃ j p, e = .Constant x j p := by
  unfold xCst at h; split at h
  · cases h; exact ⟨_, _, rfl⟩
  · cases h
def xTup : Expr → Option (List Expr)
  | .Tuple es _ _ => some es
  | _ => none
theorem xTup_eq {e : Expr} {x : List Expr} (h : xTup e = some x) : ∃ j p, e = .Tuple x j p := by
  unfold xTup at h; split at h
  · cases h; exact ⟨_, _, rfl⟩
  · cases h
def xLst : Expr → Option (List Expr)
  | .List es _ => some es
  | _ => none
theorem xLst_eq {e : Expr} {x : List Expr} (h : xLst e = some x) : ∃ p, e = .List x p := by
  unfold xLst at h; split at h
  · cases h; exact ⟨_, rfl⟩
  · cases h
def xBin : Expr → Option (Expr × Operator × Expr)
  | .BinOp a o b _ => some (a, o, b)
  | _ => none
theorem xBin_eq {e a b : Expr} {o : Operator} (h : xBin e = some (a, o, b)) : ∃ p, e = .BinOp a o b p := by
  unfold xBin at h; split at h
  · cases h; exact ⟨_, rfl⟩
  · cases h
def xUn : Expr → Option (UnaryOp × Expr)
  | .UnaryOp o a _ => some (o, a)
  | _ => none
theorem xUn_eq {e a : Expr} {o : UnaryOp} (h : xUn e = some (o, a)) : ∃ p, e = .UnaryOp o a p := by
  unfold xUn at h; split at h
  · cases h; exact ⟨_, rfl⟩
  · cases h
def xBool : Expr → Option (BoolOp × List Expr × Pos)
  | .BoolOp o es p => some (o, es, p)
  | _ => none
theorem xBool_eq {e : Expr} {es : List Expr} {o : BoolOp} {p : Pos} (h : xBool e = some (o, es, p)) : e = .BoolOp o es p := by
  unfold xBool at h; split at h
  · cases h; rfl
  · cases h
def xIf : Expr → Option (Expr × Expr × Expr)
  | .IfExp a b c _ => some (a, b, c)
  | _ => none
theorem xIf_eq {e a b c : Expr} (h : xIf e = some (a, b, c)) : ∃ p, e = .IfExp a b c p := by
  unfold xIf at h; split at h
  · cases h; exact ⟨_, rfl⟩
  · cases h
def xCmp : Expr → Option (Expr × CmpOp × Expr)
  | .Compare a [o] [b] _ => some (a, o, b)
  | _ => none
theorem xCmp_eq {e a b : Expr} {o : CmpOp} (h : xCmp e = some (a, o, b)) : ∃ p, e = .Compare a [o] [b] p := by
  unfold xCmp at h; split at h
  · cases h; exact ⟨_, rfl⟩
  · cases h
def xChn : Expr → Option (Expr × CmpOp × Expr × CmpOp × Expr)
  | .Compare a [o, o'] [b, c] _ => some (a, o, b, o', c)
  | _ => none
theorem xChn_eq {e a b c : Expr} {o o' : CmpOp} (h : xChn e = some (a, o, b, o', c)) : ∃ p, e = .Compare a [o, o'] [b, c] p := by
  unfold xChn at h; split at h
  · cases h; exact ⟨_, rfl⟩
  · cases h
def xSub : Expr → Option (Expr × Expr)
  | .Subscript a i _ => some (a, i)
  | _ => none
theorem xSub_eq {e a i : Expr} (h : xSub e = some (a, i)) : ∃ p, e = .Subscript a i p := by
  unfold xSub at h; split at h
  · cases h; exact ⟨_, rfl⟩
  · cases h
def xSlc : Expr → Option (Option Expr × Option Expr)
  | .Slice a b none _ => some (a, b)
  | _ => none
theorem xSlc_eq {e : Expr} {a b : Option Expr} (h : xSlc e = some (a, b)) : ∃ p, e = .Slice a b none p := by
  unfold xSlc at h; split at h
  · cases h; exact ⟨_, rfl⟩
  · cases h
def isTup : Expr → Bool
  | .Tuple _ _ _ => true
  | _ => false
/-- f(e, ..), f a name -/
def xCall : Expr → Option (Str × List Expr × Pos)
  | .Call (.Name x _) es [] p => some (x, es, p)
  | _ => none
theorem xCall_eq {e : Expr} {x : Str} {es : List Expr} {pos : Pos} (h : xCall e = some (x, es, pos)) : ∃ p, e = .Call (.Name x p) es [] pos := by
  unfold xCall at h; split at h
  · cases h; exact ⟨_, rfl⟩
  · cases h
/-- o.m(e, ..) -/
def xMet : Expr → Option (Expr × Str × Pos × List Expr × Pos)
  | .Call (.Attribute o m ap) es [] p => some (o, m, ap, es, p)
  | _ => none
theorem xMet_eq {e o : Expr} {x : Str} {ap p : Pos} {es : List Expr} (h : xMet e = some (o, x, ap, es, p)) : e = .Call (.Attribute o x ap) es [] p := by
  unfold xMet at h; split at h
  · cases h; rfl
  · cases h
def xLc : Expr → Option (Expr × Expr × Expr × List Expr × Scope × Pos)
  | .ListComp el [⟨t, i, c, 0⟩] sc p => some (el, t, i, c, sc, p)
  | _ => none
theorem xLc_eq {e el t i : Expr} {c : List Expr} {sc : Scope} {p : Pos} (h : xLc e = some (el, t, i, c, sc, p)) : e = .ListComp el [⟨t, i, c, 0⟩] sc p := by
  unfold xLc at h; split at h
  · cases h; rfl
  · cases h
def notStar : Expr → Bool
  | .Starred _ _ => false
  | _ => true
theorem star_of {e : Expr} (h : notStar e = true) (es : List Expr) (env : Env) : starEach (e :: es) env = (false, eval e env) :: starEach es env := by
  cases e <;> first | (cases h; done) | rfl
def notSet : Expr → Bool
  | .Set _ _ _ => false
  | _ => true
theorem set_of {e : Expr} (h : notSet e = true) (env : Env) (x : Value) : foldedSetIterable e env x = pure x := by
  cases e <;> first | (cases h; done) | rfl
theorem mark_of {e : Expr} (h : notSet e = true) (op : CmpOp) : behindInMarks op e = false := by
  cases e <;> first | (cases h; done) | rfl
def notSlc : Expr → Bool
  | .Slice _ _ _ _ => false
  | _ => true
theorem ix_of {e : Expr} (h : notSlc e = true) : PlainIx e := by
  intro o i
  cases e <;> first | (cases h; done) | rfl
theorem plain_args : ∀ {es : List Expr}, es.all notStar = true → ∀ (pos : Pos) (env : Env), (backTo pos (starEach es env)).any (·.1) = false
  | [], _, _, _ => rfl
  | e :: es, h, pos, env => by
    simp only [List.all_cons, Bool.and_eq_true] at h
    rw [star_of h.1]
    show (false || (backTo pos (starEach es env)).any (·.1)) = false
    rw [plain_args h.2, Bool.false_or]
structure SC where
  N : List Str
  sc : Scope
  fn : Str → Bool
  gls : List Str
  fns : List (Str × Nat)
  /-- how deep generator expressions may lie; the frame's code has a table -/
  gd : Nat
  tab : Bool
  /-- the errors' classes, the def that tells their words -/
  xs : List String := []
  hs : List String := []
  wn : String := ""
/-- a generator expression's frame -/
def SC.gex (c : SC) (scope : Scope) : SC := { c with sc := scope, fn := fun _ => false, gd := c.gd - 1, tab := false }
def SC.blk (c : SC) (scope : Scope) : SC := { c with sc := relS scope c.sc, fn := fun x => scope.names.lookup x == some .cell }
def blts : List Str := ["len", "abs", "int", "str", "tuple", "list", "min", "max", "isinstance", "range", "reversed", "bool", "dict", "set", "all", "any", "sum", "zip", "enumerate", "sorted"]
/-- an error's class -/
def ExcAt (W : Wd) (c : String) : Prop := ∃ C, W.mg (Str.ofString c) = some (.ref C) ∧ W.cls c = .ref C ∧ PySem.W.excIn W.K C He.veBase "ValueError.__new__" = true ∧ PySem.W.keepIn W.K (.ref C) = true ∧
  PySem.W.subIn W.K (.ref C) (.type "BaseException") = some true ∧ PySem.W.typeIn W.K (.ref C) = some (.type "type")
structure XdOk (W : Wd) (xd : XD) : Prop where
  rs : ∀ c ∈ xd.rs, ExcAt W c
  hs : ∀ c ∈ xd.hs, W.mg (Str.ofString c) = some (W.cls c)
  sub : ∀ x c b, xd.sub x c = some b → PySem.W.exmOne W.K (W.cls x) (W.cls c) = some b
  word : ∀ x w, xd.word x = some w → (w.length ≤ sizeLine ∧ w.all (fun c => decide (c < 0x110000)) = true) ∧ ∃ D k, W.cls x = .ref D ∧ WordAt W k (Str.ofString xd.wn) D ⟨w.toArray⟩
structure DnOk (W : Wd) (G : Dn) (gls : List Str) (fns : List (Str × Nat)) (k : Nat) : Prop where
  glb : ∀ (i : Nat) (x : Str) (d : D), gls[i]? = some x → G.Γ i = some d → ∃ u v, W.mg x = some u ∧ RelV v u ∧ ∀ ρ N H, RepV W.K ρ N H d v
  bare : ∀ x ∈ blts, W.mg x = none
  dic : ∀ (i : Nat) (x : Str) (l : List (List Nat × D)), gls[i]? = some x → G.Δ i = some l → ∃ a es n, W.mg x = some (.ref a) ∧ KDict W.K W.w a es n ∧ (∀ s : List Nat, ∃ r, PySem.W.nsIn W.K a ⟨s.toArray⟩ = some r ∧ r.isSome = (l.lookup s).isSome) ∧
    ∀ (s : List Nat) (d : D), l.lookup s = some d → ∃ u v, PySem.W.nsIn W.K a ⟨s.toArray⟩ = some (some u) ∧ RelV v u ∧ ∀ ρ N H, RepV W.K ρ N H d v
  fn : ∀ (i : Nat) (x : Str) (n : Nat), fns[i]? = some (x, n) → ∃ fa fd ps, W.mg x = some (.ref fa) ∧ PySem.W.keepIn W.K (.ref fa) = true ∧ Binds W.K fd ps [] ∧ FnOk W.P W.w W.K W.mg W.base (L2N.CX W.P W.w) k fa fd ps (spD W (G.Φ i) n)
  xd : XdOk W G.xd
structure XOk (W : Wd) (G : Dn) (c : SC) (X : Cx) (Wx : WX) : Prop where
  P : X.prog = W.P
  w : X.w = W.w
  K : X.K = W.K
  mg : X.mg = W.mg
  base : X.base = W.base
  N : X.N = c.N
  nd : c.N.Nodup
  sc : X.env.scope = c.sc
  fn : X.fn = c.fn
  calm : X.calm = true
  tk : L2N.Takes X Wx
  xs : c.xs = G.xd.rs
  hs : c.hs = G.xd.hs
  wn : c.wn = G.xd.wn
  dn : ∃ k, Room (k + c.gd) X.A ∧ DnOk W G c.gls c.fns k
  tab : c.tab = true → ∃ cc P, X.env.code = .ref cc ∧ GxR.TabB X.base X.mg cc P ∧ P ∈ W.T
theorem takes_no {X : Cx} : L2N.Takes X wNo := fun _ _ ⟨_, _, _, _, _, _, _, _, _, _, _, _, _, _, _, _, h⟩ => h.elim
theorem XOk.blk {W : Wd} {G : Dn} {c : SC} {X : Cx} {Wx : WX} (ok : XOk W G c X Wx) (scope : Scope) (s : Shared) (H : Hp) (C : Addr) (cl : List (Str × Addr)) (fp : List Addr) : XOk W G (c.blk scope) (X.blk s H scope (compEnvC scope cl C X.env) fp) wNo where
  P := ok.P
  w := ok.w
  K := ok.K
  mg := ok.mg
  base := ok.base
  N := ok.N
  nd := ok.nd
  sc := by
    show relabel scope X.env = relS scope c.sc
    rw [← ok.sc]; rfl
  fn := rfl
  calm := ok.calm
  tk := takes_no
  xs := ok.xs
  hs := ok.hs
  wn := ok.wn
  dn := ok.dn
  tab := ok.tab
theorem XOk.gex {W : Wd} {G : Dn} {c : SC} {X : Cx} {Wx : WX} (ok : XOk W G c X Wx) (scope : Scope) {k : Nat} (hk : Room k X.A → True) (hd : DnOk W G c.gls c.fns k) (A' : Around) (s : Shared) (H : Hp) (C : Addr) (code : Value) (fp : List Addr) (pn : List (Addr × Obj)) (hr : Room (k + (c.gd - 1)) A') :
    XOk W G (c.gex scope) (gcx X A' s H (genEnv scope (cloFrom X.env.cells scope.names []) C code builtinsNs X.env) fp pn) wNo where
  P := ok.P
  w := ok.w
  K := ok.K
  mg := ok.mg
  base := ok.base
  N := ok.N
  nd := ok.nd
  sc := rfl
  fn := rfl
  calm := ok.calm
  tk := takes_no
  xs := ok.xs
  hs := ok.hs
  wn := ok.wn
  dn := ⟨k, hr, hd⟩
  tab := fun h => nomatch h
/-- the names of a generator expression, decided -/
def gexC (N : List Str) (sc scope : Scope) (own : List (Str × Nat)) : Bool :=
  (match scope.kind with | .function => true | _ => false) && !scope.isCoroutine && (match scope.names.lookup (".0" : Str) with | some .local => true | _ => false) && (scope.names.all fun y => decide (scope.names.lookup y.1 = some y.2)) && (own.all fun p => decide (N[p.2]? = some p.1)) &&
    (scope.names.all fun y => match y.2 with
      | .free => (match sc.names.lookup y.1 with | some .cell => true | some .free => true | _ => false)
      | .local => decide (y.1 ∈ own.map (·.1)) || decide (y.1 ∉ N)
      | .cell => false
      | _ => true)
theorem gexC_ok {N : List Str} {sc scope : Scope} {own : List (Str × Nat)} (h : gexC N sc scope own = true) : GexOk N sc scope own := by
  unfold gexC at h
  simp only [Bool.and_eq_true] at h
  obtain ⟨⟨⟨⟨⟨h1, h2⟩, h3⟩, h4⟩, h5⟩, h6⟩ := h
  refine ⟨?_, by simpa using h2, fun y hy e => ?_, ?_, fun y hy => of_decide_eq_true (List.all_eq_true.mp h4 y hy), fun p hp => of_decide_eq_true (List.all_eq_true.mp h5 p hp), fun y hy e => ?_, fun y hy e => ?_⟩
  · split at h1
    · assumption
    · cases h1
  · have := List.all_eq_true.mp h6 y hy
    rw [e] at this
    cases this
  · split at h3
    · assumption
    · cases h3
  · have := List.all_eq_true.mp h6 y hy
    rw [e] at this
    simp only at this
    split at this
    · exact .inl (by assumption)
    · exact .inr (by assumption)
    · cases this
  · have := List.all_eq_true.mp h6 y hy
    rw [e] at this
    simp only [Bool.or_eq_true, decide_eq_true_eq] at this
    exact this
def notLst : Expr → Bool
  | .List _ _ => false
  | _ => true
theorem fold_of {e : Expr} (h : notSet e = true) (h2 : notLst e = true) (env : Env) (x : Value) : genFold e env x = pure x := by
  cases e <;> first | (cases h; done) | (cases h2; done) | rfl
def xGen : Expr → Option (Expr × Expr × Expr × List Expr × Scope)
  | .GeneratorExp el [⟨t, i, c, 0⟩] sc _ => some (el, t, i, c, sc)
  | _ => none
theorem xGen_eq {e el t i : Expr} {c : List Expr} {sc : Scope} (h : xGen e = some (el, t, i, c, sc)) : ∃ p, e = .GeneratorExp el [⟨t, i, c, 0⟩] sc p := by
  unfold xGen at h; split at h
  · cases h; exact ⟨_, rfl⟩
  · cases h
def visB (c : SC) (x : Str) : Bool := match c.sc.names.lookup x with
  | some .local => true
  | some .cell => true
  | some .free => true
  | _ => false
/-- a name that may be stored -/
def locB (c : SC) (x : Str) : Bool := match c.sc.names.lookup x with
  | some .local => true
  | some .cell => c.fn x
  | _ => false
def glB (c : SC) (x : Str) : Bool := match c.sc.names.lookup x with
  | some .globalImplicit => true
  | _ => false
def okN (x : Str) : Bool := !(x == ("__debug__" : Str)) && !(x == ("__classdict__" : Str))
def cstOk : Const → D → Bool
  | .none, .non => true
  | .bool a, .bl b => decide (a = b)
  | .int a, .int b => decide (a = b)
  | .str x, .str s => decide (x = ⟨s.toArray⟩) && decide (s.length ≤ sizeLine) && s.all fun c => decide (c < 0x110000)
  | _, _ => false
def opOk : BinO → Operator → Bool
  | .add, .Add => true
  | .sub, .Sub => true
  | .mul, .Mult => true
  | .div, .FloorDiv => true
  | .mod, .Mod => true
  | .pow, .Pow => true
  | _, _ => false
def cmpOk : CmpO → CmpOp → Bool
  | .eq, .Eq => true
  | .ne, .NotEq => true
  | .lt, .Lt => true
  | .le, .LtE => true
  | .gt, .Gt => true
  | .ge, .GtE => true
  | .is_, .Is => true
  | .isNot, .IsNot => true
  | .in_, .In => true
  | .notIn, .NotIn => true
  | _, _ => false
def bifN : Bif → Str
  | .len => "len"
  | .abs => "abs"
  | .int => "int"
  | .str => "str"
  | .tuple => "tuple"
  | .list => "list"
  | .min2 => "min"
  | .max2 => "max"
  | .sum => "sum"
  | .maxL => "max"
  | .minL => "min"
  | .dict => "dict"
  | .sorted => "sorted"
def chkNm (c : SC) (i : Nat) (e : Expr) : Bool := match xName e with
  | some n => decide (c.N[i]? = some n) && locB c n
  | none => false
def chkNms (c : SC) : List Nat → List Expr → Bool
  | [], [] => true
  | i :: is, e :: es => chkNm c i e && chkNms c is es
  | _, _ => false
def chkQs (c : SC) : List Tgi → List Expr → Bool
  | [], [] => true
  | .n i :: js, e :: es => chkNm c i e && chkQs c js es
  | .t is :: js, e :: es => (match xTup e with | some l => chkNms c is l | none => false) && chkQs c js es
  | _, _ => false
def chkTg (c : SC) : Tg → Expr → Bool
  | .nm i, e => chkNm c i e
  | .tp is, e => match xTup e with
    | some es => chkNms c is es
    | none => false
  | .tq js, e => match xTup e with
    | some es => chkQs c js es
    | none => false
def Tg.own (N : List Str) (t : Tg) : List (Str × Nat) := t.slots.map fun i => (N.getD i "", i)
def isAnd : BoolOp → Bool
  | .And => true
  | .Or => false
def len2 (n : Nat) : Exs → Bool
  | .nil => n == 0
  | .cons _ es => match n with
    | 0 => false
    | n + 1 => len2 n es
  | .star _ _ => false
/-- e[::-1] -/
def xRevS : Expr → Option Expr
  | .Subscript e (.Slice none none (some (.UnaryOp .USub (.Constant (.int 1) _ _) _)) _) _ => some e
  | _ => none
theorem xRevS_eq {e a : Expr} (h : xRevS e = some a) : ∃ k p1 p2 p3 p, e = .Subscript a (.Slice none none (some (.UnaryOp .USub (.Constant (.int 1) k p1) p2)) p3) p := by
  unfold xRevS at h; split at h
  · cases h; exact ⟨_, _, _, _, _, rfl⟩
  · cases h
def xTxt : Expr → Option Str
  | .Constant (.str x) _ _ => some x
  | _ => none
theorem xTxt_eq {e : Expr} {x : Str} (h : xTxt e = some x) : ∃ j p, e = .Constant (.str x) j p := by
  unfold xTxt at h; split at h
  · cases h; exact ⟨_, _, rfl⟩
  · cases h
/-- an item of a written text -/
def subC : Expr → Bool
  | .Subscript (.Constant (.str _) _ _) _ _ => true
  | _ => false
theorem subC_eq {e : Expr} (h : subC e = true) : ∃ w k p b q, e = .Subscript (.Constant (.str w) k p) b q := by
  unfold subC at h; split at h
  · exact ⟨_, _, _, _, _, rfl⟩
  · cases h
/-- what a text's method is asked of: a name, an item -/
def baseOk : Expr → Bool
  | .Name _ _ => true
  | .Subscript _ _ _ => true
  | _ => false
theorem baseOk_ok {e : Expr} (h : baseOk e = true) (n : Str) (env : Env) : attributeBase e n env (eval e env) = eval e env := by
  unfold baseOk at h
  split at h
  · rfl
  · rfl
  · cases h
mutual
def chk : SC → Ex → Expr → Bool
  | c, .cst d, e => match xCst e with
    | some k => cstOk k d
    | none => false
  | c, .var i, e => match xName e with
    | some n => decide (c.N[i]? = some n) && visB c n && okN n
    | none => false
  | c, .glb i, e => match xName e with
    | some n => decide (c.gls[i]? = some n) && glB c n && okN n
    | none => false
  | c, .tup es, e => match xTup e with
    | some l => chks c es l
    | none => false
  | c, .lst es, e => match xLst e with
    | some l => chks c es l
    | none => false
  | c, .lstO es, e => match xLst e with
    | some l => chks c es l
    | none => false
  | c, .bin o a b, e => match xBin e with
    | some (ea, eo, eb) => opOk o eo && chk c a ea && chk c b eb
    | none => false
  | c, .neg a, e => match xUn e with
    | some (.USub, ea) => chk c a ea
    | _ => false
  | c, .not a, e => match xUn e with
    | some (.Not, ea) => chk c a ea
    | _ => false
  | c, .and a b, e => match xBool e with
    | some (.And, ea :: eb :: r, p) => chk c a ea && chk c b (.BoolOp .And (eb :: r) p)
    | _ => false
  | c, .or a b, e => match xBool e with
    | some (.Or, ea :: eb :: r, p) => chk c a ea && chk c b (.BoolOp .Or (eb :: r) p)
    | _ => false
  | c, .one a, e => match xBool e with
    | some (_, [ea], _) => chk c a ea
    | _ => false
  | c, .ite t a b, e => match xIf e with
    | some (et, ea, eb) => chk c t et && chk c a ea && chk c b eb
    | none => false
  | c, .cmp o a b, e => match xCmp e with
    | some (ea, eo, eb) => cmpOk o eo && notSet eb && chk c a ea && chk c b eb
    | none => false
  | c, .chn o o' a b d, e => match xChn e with
    | some (ea, eo, eb, eo', ed) => cmpOk o eo && cmpOk o' eo' && notSet ed && chk c a ea && chk c b eb && chk c d ed
    | none => false
  | c, .idx a i, e => match xSub e with
    | some (ea, ei) => notSlc ei && chk c a ea && chk c i ei
    | none => false
  | c, .cut a l h, e => match xSub e with
    | some (ea, es) => chk c a ea && match xSlc es with
      | some (el, eh) => chko c l el && chko c h eh
      | none => false
    | none => false
  | c, .call f es, e => match xCall e with
    | some (x, l, _) => (match c.fns[f]? with | some (y, n) => decide (x = y) && len2 n es | none => false) && glB c x && okN x && !l.isEmpty && l.all notStar && chks c es l
    | none => false
  | c, .bif b es, e => match xCall e with
    | some (x, l, _) => decide (x = bifN b) && glB c x && !l.isEmpty && l.all notStar && chks c es l
    | none => false
  | c, .isin a t, e => match xCall e with
    | some (x, [ea, et], _) => decide (x = ("isinstance" : Str)) && glB c x && notStar ea && chk c a ea && (match xName et with | some n => decide (n = Str.ofString t) && glB c n | none => false) &&
        ["bool", "int", "str", "tuple", "list", "dict", "set"].contains t
    | _ => false
  | c, .app o a, e => match xMet e with
    | some (eo, m, ap, [ea], p) => decide (m = ("append" : Str)) && (ap.endLine == p.line) && (xName eo).isSome && notStar ea && chk c o eo && chk c a ea
    | _ => false
  | c, .pop o, e => match xMet e with
    | some (eo, m, ap, [], p) => decide (m = ("pop" : Str)) && (ap.endLine == p.line) && (xName eo).isSome && chk c o eo
    | _ => false
  | c, .join o a, e => match xMet e with
    | some (eo, m, ap, [ea], p) => decide (m = ("join" : Str)) && (ap.endLine == p.line) && (xCst eo).isSome && notStar ea && chk c o eo && chk c a ea
    | _ => false
  | c, .met1 k o a, e => match xMet e with
    | some (eo, m, ap, [ea], p) => decide (m = met1N k) && (ap.endLine == p.line) && baseOk eo && notStar ea && chk c o eo && chk c a ea
    | _ => false
  | c, .find3 o a i, e => match xMet e with
    | some (eo, m, ap, [ea, eb], p) => decide (m = ("find" : Str)) && (ap.endLine == p.line) && baseOk eo && notStar ea && notStar eb && chk c o eo && chk c a ea && chk c i eb
    | _ => false
  | c, .repl o y z, e => match xMet e with
    | some (eo, m, ap, [ey, ez], p) => (match xTxt ey, xTxt ez with | some Y, some Z => decide (Y = ⟨y.toArray⟩) && decide (Z = ⟨z.toArray⟩) && !(Y == Z) | _, _ => false) && decide (m = ("replace" : Str)) && (ap.endLine == p.line) && subC eo && chk c o eo
    | _ => false
  | c, .comp el t it cs isO, e => match xLc e with
    | some (eel, et, ei, ecs, scope, _) => blkC c.N c.sc scope (t.own c.N) && chkTg (c.blk scope) t et && notSet ei && chkI c it et ei && chkT (c.blk scope) cs ecs && chk (c.blk scope) el eel
    | none => false
  | c, .lrev a isO, e => match xRevS e with
   | some ea => chk c a ea
   | none => match xCall e with
    | some (x, [er], _) => decide (x = ("list" : Str)) && glB c x && (match xCall er with
      | some (y, [ea], _) => decide (y = ("reversed" : Str)) && glB c y && notStar ea && chk c a ea
      | _ => false)
    | _ => false
  | c, .rev a, e => match xRevS e with
    | some ea => chk c a ea
    | none => false
  | c, .compV el t it cs isO, e => match xLc e with
    | some (eel, et, ei, ecs, scope, _) => blkC c.N c.sc scope (t.own c.N) && chkTg (c.blk scope) t et && notSet ei && chkI c it et ei && chkT (c.blk scope) cs ecs && chk (c.blk scope) el eel
    | none => false
  | c, .binO o a b, e => match xBin e with
    | some (ea, .Add, eb) => decide (o = .add) && chk c a ea && chk c b eb
    | some (ea, .Mult, eb) => decide (o = .mul) && chk c a ea && chk c b eb
    | _ => false
  | _, .dnew, e => match e with
    | .Dict [] [] _ => true
    | _ => false
  | c, .lidx o a, e => match xMet e with
    | some (eo, m, ap, [ea], p) => decide (m = ("index" : Str)) && (ap.endLine == p.line) && baseOk eo && notStar ea && chk c o eo && chk c a ea
    | _ => false
  | c, .tupz a, e => match xCall e with
    | some (x, [ea], _) => decide (x = ("tuple" : Str)) && glB c x && notStar ea && chk c a ea
    | _ => false
  | c, .unz a, e => (match e with | .Call _ _ _ _ => true | _ => false) && chk c a e
  | c, .dictZ a, e => match xCall e with
    | some (x, [ea], _) => decide (x = ("dict" : Str)) && glB c x && notStar ea && chk c a ea
    | _ => false
  | c, .dictO a, e => match xCall e with
    | some (x, [ea], _) => decide (x = ("dict" : Str)) && glB c x && notStar ea && chk c a ea
    | _ => false
  | c, .listO a, e => match xCall e with
    | some (x, [ea], _) => decide (x = ("list" : Str)) && glB c x && notStar ea && chk c a ea
    | _ => false
  | c, .ext o a, e => match xMet e with
    | some (eo, m, ap, [ea], p) => decide (m = ("extend" : Str)) && (ap.endLine == p.line) && (xName eo).isSome && notStar ea && chk c o eo && chk c a ea
    | _ => false
  | c, .met0 k o, e => match xMet e with
    | some (eo, m, ap, [], p) => decide (m = met0N k) && (ap.endLine == p.line) && baseOk eo && chk c o eo
    | _ => false
  | c, .split o a _, e => match xMet e with
    | some (eo, m, ap, [ea], p) => decide (m = ("split" : Str)) && (ap.endLine == p.line) && baseOk eo && notStar ea && chk c o eo && chk c a ea
    | _ => false
  | c, .allG isAny el t it cs, e => match xCall e with
    | some (x, [g], _) => decide (x = if isAny then ("any" : Str) else ("all" : Str)) && glB c x && c.tab && decide (0 < c.gd) && (match xGen g with
      | some (eel, et, ei, ecs, scope) => gexC c.N c.sc scope (t.own c.N) && chkTg (c.gex scope) t et && notSet ei && notLst ei && chkI c it et ei && chkT (c.gex scope) cs ecs && chk (c.gex scope) el eel
      | none => false)
    | _ => false
  | c, .kin neg i a, e => match xCmp e with
    | some (ea, eo, eb) => (match eo with | .In => !neg | .NotIn => neg | _ => false) && (match xName eb with | some n => decide (c.gls[i]? = some n) && glB c n && okN n | none => false) && chk c a ea
    | none => false
  | c, .kidx i a, e => match xSub e with
    | some (ea, ei) => notSlc ei && (match xName ea with | some n => decide (c.gls[i]? = some n) && glB c n && okN n | none => false) && chk c a ei
    | none => false
def chks : SC → Exs → List Expr → Bool
  | c, .nil, l => l.isEmpty
  | c, .cons a as, l => match l with
    | e :: es => notStar e && chk c a e && chks c as es
    | [] => false
  | c, .star a as, l => match l with
    | .Starred e _ :: es => chk c a e && chks c as es
    | _ => false
def chkT : SC → Exs → List Expr → Bool
  | c, .nil, l => l.isEmpty
  | c, .cons a as, l => match l, as with
    | [e], .nil => chk c a e
    | _, _ => false
  | _, .star _ _, _ => false
def chko : SC → Exo → Option Expr → Bool
  | c, .no, e => e.isNone
  | c, .ex a, e => match e with
    | some e => chk c a e
    | none => false
def chkI : SC → PD.It → Expr → Expr → Bool
  | c, .seq a, _, e => chk c a e
  | c, .rng1 a, _, e => match xCall e with
    | some (x, [ea], _) => decide (x = ("range" : Str)) && glB c x && notStar ea && chk c a ea
    | _ => false
  | c, .rng2 a b, _, e => match xCall e with
    | some (x, [ea, eb], _) => decide (x = ("range" : Str)) && glB c x && notStar ea && notStar eb && chk c a ea && chk c b eb
    | _ => false
  | c, .rng3 a b d, _, e => match xCall e with
    | some (x, [ea, eb, ed], _) => decide (x = ("range" : Str)) && glB c x && notStar ea && notStar eb && notStar ed && chk c a ea && chk c b eb && chk c d ed
    | _ => false
  | c, .zip a b, t, e => isTup t && match xCall e with
    | some (x, [ea, eb], _) => decide (x = ("zip" : Str)) && glB c x && notStar ea && notStar eb && chk c a ea && chk c b eb
    | _ => false
  | c, .enm a, t, e => isTup t && match xCall e with
    | some (x, [ea], _) => decide (x = ("enumerate" : Str)) && glB c x && notStar ea && chk c a ea
    | _ => false
end
end PD

set_option Elab.async false
set_option linter.all false
set_option maxRecDepth 100000
namespace PD
open PySem PySem.Spec PyProof.Rows L2

section
variable {W : Wd} {G : Dn} {c : SC} {X : Cx} {Wx : WX}
theorem XOk.loc (ok : XOk W G c X Wx) {i : Nat} {x : Str} (hi : c.N[i]? = some x) (hl : locB c x = true) : X.N[i]? = some x ∧ Loc X.env.scope x ∧ (X.fn x = true ∨ X.env.scope.names.lookup x = some .local) := by
  rw [ok.N, ok.fn, ok.sc]
  refine ⟨hi, ?_⟩
  unfold locB at hl
  split at hl
  · rename_i h; exact ⟨.inl h, .inr h⟩
  · rename_i h; exact ⟨.inr h, .inl hl⟩
  · cases hl
theorem XOk.vis (ok : XOk W G c X Wx) {i : Nat} {x : Str} (hi : c.N[i]? = some x) (hl : visB c x = true) : X.N[i]? = some x ∧ Vis X.env.scope x := by
  rw [ok.N, ok.sc]
  refine ⟨hi, ?_⟩
  unfold visB at hl
  split at hl
  · rename_i h; exact .inl h
  · rename_i h; exact .inr (.inl h)
  · rename_i h; exact .inr (.inr h)
  · cases hl
theorem XOk.gl (ok : XOk W G c X Wx) {x : Str} (hl : glB c x = true) : Gl X x := by
  show X.env.scope.names.lookup x = some .globalImplicit
  rw [ok.sc]
  unfold glB at hl
  split at hl
  · rename_i h; exact h
  · cases hl
theorem okN_d {x : Str} (h : okN x = true) : (x == ("__debug__" : Str)) = false ∧ (x == ("__classdict__" : Str)) = false := by
  unfold okN at h
  simp only [Bool.and_eq_true, Bool.not_eq_true'] at h
  exact h
theorem XOk.bare (ok : XOk W G c X Wx) {x : Str} (h : x ∈ blts) : X.mg x = none := by
  obtain ⟨k, _, d⟩ := ok.dn
  rw [ok.mg]; exact d.bare x h
theorem XOk.units (ok : XOk W G c X Wx) : X.A.units + 200 < cLine := by
  obtain ⟨k, r, _⟩ := ok.dn
  have := r.un
  omega
theorem chkNm_ok (ok : XOk W G c X Wx) {i : Nat} {e : Expr} (h : chkNm c i e = true) : ∃ x p, e = .Name x p ∧ X.N[i]? = some x ∧ Loc X.env.scope x ∧ (X.fn x = true ∨ X.env.scope.names.lookup x = some .local) := by
  unfold chkNm at h
  split at h
  · rename_i n hn
    simp only [Bool.and_eq_true, decide_eq_true_eq] at h
    obtain ⟨p, rfl⟩ := xName_eq hn
    exact ⟨n, p, rfl, ok.loc h.1 h.2⟩
  · cases h
theorem chkNms_ok (ok : XOk W G c X Wx) : ∀ {is : List Nat} {es : List Expr}, chkNms c is es = true → PGs X es (gsR is) ∧ (assignEach es X.env).length = is.length ∧ (assignEach es X.env).findIdx? (·.1) = none
  | [], [], _ => ⟨pgs_nil, rfl, rfl⟩
  | [], _ :: _, h => by cases h
  | _ :: _, [], h => by cases h
  | i :: is, e :: es, h => by
    simp only [chkNms, Bool.and_eq_true] at h
    obtain ⟨x, p, rfl, h1, h2, h3⟩ := chkNm_ok ok h.1
    obtain ⟨g1, g2, g3⟩ := chkNms_ok ok h.2
    have nd : X.N.Nodup := by rw [ok.N]; exact ok.nd
    refine ⟨pgs_cons (pg_name nd h1 h2 h3) g1 rfl, ?_, ?_⟩
    · show (assignEach es X.env).length + 1 = is.length + 1
      rw [g2]
    · show List.findIdx? (fun x => x.1) ((false, assign (.Name x p) X.env) :: assignEach es X.env) = none
      rw [List.findIdx?_cons, g3]; rfl
theorem chkQs_ok (ok : XOk W G c X Wx) : ∀ {js : List Tgi} {es : List Expr}, chkQs c js es = true → PGs X es (gqR X.K js) ∧ (assignEach es X.env).length = js.length ∧ (assignEach es X.env).findIdx? (·.1) = none
  | [], [], _ => ⟨pgs_nil, rfl, rfl⟩
  | [], _ :: _, h => by cases h
  | _ :: _, [], h => by simp [chkQs] at h
  | .n i :: js, e :: es, h => by
    simp only [chkQs, Bool.and_eq_true] at h
    obtain ⟨x, p, rfl, h1, h2, h3⟩ := chkNm_ok ok h.1
    obtain ⟨g1, g2, g3⟩ := chkQs_ok ok h.2
    have nd : X.N.Nodup := by rw [ok.N]; exact ok.nd
    refine ⟨pgs_cons (pg_name nd h1 h2 h3) g1 rfl, ?_, ?_⟩
    · show (assignEach es X.env).length + 1 = js.length + 1
      rw [g2]
    · show List.findIdx? (fun x => x.1) ((false, assign (.Name x p) X.env) :: assignEach es X.env) = none
      rw [List.findIdx?_cons, g3]; rfl
  | .t is :: js, e :: es, h => by
    simp only [chkQs, Bool.and_eq_true] at h
    obtain ⟨h1, h2⟩ := h
    obtain ⟨g1, g2, g3⟩ := chkQs_ok ok h2
    split at h1
    · rename_i l hl
      obtain ⟨j, p, rfl⟩ := xTup_eq hl
      obtain ⟨k1, k2, k3⟩ := chkNms_ok ok h1
      refine ⟨pgs_cons (pg_tup ok.calm k1 k2 k3) g1 rfl, ?_, ?_⟩
      · show (assignEach es X.env).length + 1 = js.length + 1
        rw [g2]
      · show List.findIdx? (fun x => x.1) ((false, assign (.Tuple l j p) X.env) :: assignEach es X.env) = none
        rw [List.findIdx?_cons, g3]; rfl
    · cases h1
theorem isTup_eq {e : Expr} (h : isTup e = true) : ∃ l k p, e = .Tuple l k p := by
  unfold isTup at h; split at h
  · exact ⟨_, _, _, rfl⟩
  · cases h
theorem chkTg_ok (ok : XOk W G c X Wx) {t : Tg} {e : Expr} (h : chkTg c t e = true) : PG X e (tgR X.K t) := by
  have nd : X.N.Nodup := by rw [ok.N]; exact ok.nd
  cases t with
  | nm i =>
    obtain ⟨x, p, rfl, h1, h2, h3⟩ := chkNm_ok ok h
    exact pg_name nd h1 h2 h3
  | tp is =>
    simp only [chkTg] at h
    split at h
    · rename_i es he
      obtain ⟨j, p, rfl⟩ := xTup_eq he
      obtain ⟨g1, g2, g3⟩ := chkNms_ok ok h
      exact pg_tup ok.calm g1 g2 g3
    · cases h
  | tq js =>
    simp only [chkTg] at h
    split at h
    · rename_i es he
      obtain ⟨j, p, rfl⟩ := xTup_eq he
      obtain ⟨g1, g2, g3⟩ := chkQs_ok ok h
      exact pg_tup ok.calm g1 g2 g3
    · cases h
theorem opOk_ok (ok : XOk W G c X Wx) {o : BinO} {eo : Operator} (h : opOk o eo = true) : OpR X (binaryOp eo) (rP W (binF o)) := by
  unfold opOk at h
  split at h
  · exact op_pAdd ok.K
  · exact op_pSub
  · exact op_pMul
  · exact op_pDiv
  · exact op_pMod
  · exact op_pPow
  · cases h
theorem cmpOk_ok (ok : XOk W G c X Wx) {o : CmpO} {eo : CmpOp} (h : cmpOk o eo = true) : OpR X (compareOp eo) (rP W (cmpF o)) := by
  unfold cmpOk at h
  split at h
  · exact op_pEq ok.K ok.units
  · exact op_pNe ok.K ok.units
  · exact op_pLt
  · exact op_pLe
  · exact op_pGt
  · exact op_pGe
  · exact op_pIs
  · exact op_pIsNot
  · exact op_pIn ok.K ok.units
  · exact op_pNotIn ok.K ok.units
  · cases h
theorem cst_ok {k : Const} {d : D} {j : Nat} {p : Pos} (h : cstOk k d = true) : PE X (.Constant k j p) (tD W Wx fun _ S => .ok d S) := by
  unfold cstOk at h
  split at h
  · exact g_const pe_non fun _ _ _ => .non
  · cases of_decide_eq_true h; exact g_const pe_bl fun _ _ _ => .bl _
  · cases of_decide_eq_true h; exact g_const pe_int fun _ _ _ => .int _
  · simp only [Bool.and_eq_true, decide_eq_true_eq] at h
    obtain ⟨⟨h1, h2⟩, h3⟩ := h
    subst h1
    exact g_const pe_str fun _ _ _ => .str _ ⟨h2, h3⟩
  · cases h
theorem len2_ok {n : Nat} {es : Exs} : len2 n es = true → ∀ δ S ds S', evs G es δ S = .ok ds S' → ds.length = n := by
  induction n generalizing es with
  | zero =>
    cases es with
    | nil => intro _ δ S ds S' h; rw [evs] at h; cases h; rfl
    | cons _ _ => intro h; simp [len2] at h
    | star _ _ => intro h; simp [len2] at h
  | succ n ih =>
    cases es with
    | nil => intro h; simp [len2] at h
    | star _ _ => intro h; simp [len2] at h
    | cons e es =>
      intro h δ S ds S' he
      simp only [len2] at h
      rw [evs] at he
      cases h1 : ev G e δ S with
      | bad => rw [h1] at he; cases he
      | exc _ _ => rw [h1] at he; cases he
      | ok x S1 =>
        rw [h1] at he
        simp only [Out.bind_ok] at he
        cases h2 : evs G es δ S1 with
        | bad => rw [h2] at he; cases he
        | exc _ _ => rw [h2] at he; cases he
        | ok xs S2 =>
          rw [h2] at he
          simp only [Out.bind_ok, Out.ok.injEq] at he
          rw [← he.1, List.length_cons, ih h _ _ _ _ h2]
def isBO : Expr → Bool
  | .BoolOp _ _ _ => true
  | _ => false
/-- as a value, as a test, as a test within and, or -/
def All3 (W : Wd) (G : Dn) (X : Cx) (Wx : WX) (x : Ex) (e : Expr) : Prop := PE X e (tD W Wx (ev G x)) ∧ PT X e (tT W Wx (tst G x)) ∧ (isBO e = true → PW X e (tT W Wx (tst G x)))
theorem all3 {x : Ex} {e : Expr} (hv : PE X e (tD W Wx (ev G x))) (ht : PT X e (tT W Wx (tst G x))) (hb : isBO e = false) : All3 W G X Wx x e := ⟨hv, ht, fun h => by rw [hb] at h; cases h⟩
theorem bif_ok (ok : XOk W G c X Wx) {b : Bif} {es : Exs} {e : Expr} {l : List Expr} {p pos : Pos} (hg : glB c (bifN b) = true) (hl : (e :: l).all notStar = true) (ha : PA X (e :: l) (tA W Wx (evs G es))) :
    PE X (.Call (.Name (bifN b) p) (e :: l) [] pos) (tD W Wx (ev G (.bif b es))) := by
  simp only [List.all_cons, Bool.and_eq_true] at hl
  have gl := ok.gl hg
  have hs := star_of hl.1 l X.env
  have hpl := plain_args hl.2 pos X.env
  cases b with
  | len => exact PE.of (pe_callB (fn_len ok.K) gl (ok.bare (by decide +kernel)) (by decide +kernel) ha (by decide +kernel) (by decide +kernel) hs hpl) fun σ H Q h => fn_to h
  | abs => exact PE.of (pe_callB fn_abs gl (ok.bare (by decide +kernel)) PyProof.Rows.boot_abs ha (by decide +kernel) (by decide +kernel) hs hpl) fun σ H Q h => fn_to h
  | min2 => exact PE.of (pe_callB (fn_min2 ok.calm) gl (ok.bare (by decide +kernel)) PyProof.Rows.boot_min ha (by decide +kernel) (by decide +kernel) hs hpl) fun σ H Q h => fn_to h
  | max2 => exact PE.of (pe_callB (fn_max2 ok.calm) gl (ok.bare (by decide +kernel)) PyProof.Rows.boot_max ha (by decide +kernel) (by decide +kernel) hs hpl) fun σ H Q h => fn_to h
  | sum => exact PE.of (pe_callB (fn_sum ok.K ok.calm) gl (ok.bare (by decide +kernel)) PyProof.Rows.boot_sum ha (by decide +kernel) (by decide +kernel) hs hpl) fun σ H Q h => fn_to h
  | maxL => exact PE.of (pe_callB (fn_maxL ok.K ok.calm) gl (ok.bare (by decide +kernel)) PyProof.Rows.boot_max ha (by decide +kernel) (by decide +kernel) hs hpl) fun σ H Q h => fn_to h
  | minL => exact PE.of (pe_callB (fn_minL ok.K ok.calm) gl (ok.bare (by decide +kernel)) PyProof.Rows.boot_min ha (by decide +kernel) (by decide +kernel) hs hpl) fun σ H Q h => fn_to h
  | int => exact PE.of (pe_callTy fn_int gl (ok.bare (by decide +kernel)) PyProof.Rows.boot_int ha (by decide +kernel) (by decide +kernel) hs hpl) fun σ H Q h => fn_to h
  | str => exact PE.of (pe_callTy fn_str gl (ok.bare (by decide +kernel)) PyProof.Rows.boot_str ha (by decide +kernel) (by decide +kernel) hs hpl) fun σ H Q h => fn_to h
  | tuple => exact PE.of (pe_callTy (fn_tuple ok.K) gl (ok.bare (by decide +kernel)) PyProof.Rows.boot_tuple ha (by decide +kernel) (by decide +kernel) hs hpl) fun σ H Q h => fn_to h
  | sorted => exact PE.of (pe_callB (fn_sorted ok.K ok.calm) gl (ok.bare (by decide +kernel)) PyProof.Rows.boot_sorted ha (by decide +kernel) (by decide +kernel) hs hpl) fun σ H Q h => fn_to h
  | dict => exact PE.of (pe_callTy (fn_dict ok.K ok.calm) gl (ok.bare (by decide +kernel)) PyProof.Rows.boot_dict ha (by decide +kernel) (by decide +kernel) hs hpl) fun σ H Q h => fn_to h
  | list => exact PE.of (pe_callTy (fn_list ok.K) gl (ok.bare (by decide +kernel)) PyProof.Rows.boot_list ha (by decide +kernel) (by decide +kernel) hs hpl) fun σ H Q h => fn_to h
theorem call_ok (ok : XOk W G c X Wx) {f : Nat} {x : Str} {n : Nat} {es : Exs} {e : Expr} {l : List Expr} {p pos : Pos} (hf : c.fns[f]? = some (x, n)) (hn : len2 n es = true) (hg : glB c x = true) (hx : okN x = true) (hl : (e :: l).all notStar = true) (ha : PA X (e :: l) (tA W Wx (evs G es))) :
    PE X (.Call (.Name x p) (e :: l) [] pos) (tD W Wx (ev G (.call f es))) := by
  simp only [List.all_cons, Bool.and_eq_true] at hl
  obtain ⟨k, r, dn⟩ := ok.dn
  obtain ⟨fa, fd, ps, h1, h2, h3, h4⟩ := dn.fn f x n hf
  rw [← ok.mg] at h1
  rw [← ok.K] at h2 h3
  rw [← ok.P, ← ok.w, ← ok.K, ← ok.mg, ← ok.base] at h4
  exact g_call h4 (r.mono (Nat.le_add_right _ _)) (ok.gl hg) h1 h2 h3 ok.tk ha (len2_ok hn) (okN_d hx).1 (star_of hl.1 l X.env) (plain_args hl.2 pos X.env)
end
theorem g_three {X : Cx} {W : Wd} {Wx : WX} {a b d : DEnv → Store → Out D} {ea eb ed : Expr} (ha : PE X ea (tD W Wx a)) (hb : PE X eb (tD W Wx b)) (hd : PE X ed (tD W Wx d)) (h1 : notStar ea = true) (h2 : notStar eb = true) (h3 : notStar ed = true) : PA X [ea, eb, ed] (tA W Wx fun δ S => (a δ S).bind fun x S1 => (b δ S1).bind fun y S2 => (d δ S2).bind fun z S3 => .ok [x, y, z] S3) := by
  have h := g_cons ha (g_cons hb (g_cons hd g_nil (star_of h3 _ _)) (star_of h2 _ _)) (star_of h1 _ _)
  have e : (fun δ S => (a δ S).bind fun x S1 => (b δ S1).bind fun y S2 => (d δ S2).bind fun z S3 => .ok [x, y, z] S3) = (fun (δ : DEnv) (S : Store) => (a δ S).bind fun x S1 => ((b δ S1).bind fun y S2 => ((d δ S2).bind fun z S3 => (Out.ok [] S3).bind fun (xs : List D) S4 => Out.ok (z :: xs) S4).bind fun xs S3 => Out.ok (y :: xs) S3).bind fun xs S2 => Out.ok (x :: xs) S2) := by
    funext δ S
    simp only [Out.bind_assoc, Out.bind_ok]
  rw [e]; exact h
theorem PT.none {X : Cx} {e : Expr} {W : Wd} {Wx : WX} {G : Dn} {x : Ex} (h : ∀ δ S, tst G x δ S = .bad) : PT X e (tT W Wx (tst G x)) := g_badT h

theorem kin_test {W : Wd} {Wx : WX} {X : Cx} {neg : Bool} {i : Nat} {e : Expr} {x : Str} {a : Addr} {es : Array DictEntry} {n : Nat} {G : Dn} {y : Ex} {op : CmpOp} {l : List (List Nat × D)} {p pos : Pos} (hop : op = if neg then .NotIn else .In) (KD : KDict X.K X.w a es n)
    (hval : ∀ s : List Nat, ∃ r, PySem.W.nsIn X.K a ⟨s.toArray⟩ = some r ∧ r.isSome = (l.lookup s).isSome) (hl : G.Δ i = some l) (hK : X.K = W.K) (hg : Gl X x) (hm : X.mg x = some (.ref a)) (hd : (x == ("__debug__" : Str)) = false) (he : PE X e (tD W Wx (ev G y))) :
    PT X (.Compare e [op] [.Name x p] pos) (tTest (tD W Wx (ev G (.kin neg i y)))) := by
  have hgl := pe_glob (pos := p) (v := .ref a) hg hm rfl hd
  have key : ∀ {σ : L2.St} {H : Hp} {Q : Bool → Hp → Prop}, tTest (tD W Wx (ev G (.kin neg i y))) σ H Q → tD W Wx (ev G y) σ H fun v H1 => ∃ s : List Nat, v = .str ⟨s.toArray⟩ ∧ Q (if neg then !(l.lookup s).isSome else (l.lookup s).isSome) H1 := by
    intro σ H Q ⟨δ, S, ρ, s, E, h⟩
    obtain ⟨l', hl', h⟩ := Cont.oO h
    rw [hl] at hl'
    cases hl'
    refine rdg.next s E h fun v H1 dx S1 ρ1 e1 s1 E1 r1 h1 => ?_
    obtain ⟨d, ed, q⟩ := Cont.oK h1
    unfold kinF at ed
    split at ed
    · rename_i s'
      cases ed
      cases r1
      obtain ⟨kb, hk, hq⟩ := q.here s1 (.bl _)
      cases hk
      exact ⟨s', rfl, hq⟩
    · cases ed
  have mono : ∀ {σ : L2.St} {H : Hp} {Q Q' : V → Hp → Prop}, tD W Wx (ev G y) σ H Q → (∀ v H1, Q v H1 → Q' v H1) → tD W Wx (ev G y) σ H Q' := fun ⟨δ, S, ρ, s, E, h⟩ hq => ⟨δ, S, ρ, s, E, Run.imp h fun a S' ρ' H' z b hb => hq b H' (z b hb)⟩
  cases neg with
  | false =>
    simp only [Bool.false_eq_true, if_false] at hop
    subst hop
    refine PT.of (pt_cmpR (op_in_kd KD) he hgl rfl) fun σ H Q h => mono (key h) fun v H1 ⟨s, hv, hq⟩ => ?_
    subst hv
    obtain ⟨r, hr, hrs⟩ := hval s
    exact ⟨_, r, rfl, rfl, hr, _, rfl, by rw [hrs]; exact hq⟩
  | true =>
    simp only [if_true] at hop
    subst hop
    refine PT.of (pt_cmpR (op_notIn_kd KD) he hgl rfl) fun σ H Q h => mono (key h) fun v H1 ⟨s, hv, hq⟩ => ?_
    subst hv
    obtain ⟨r, hr, hrs⟩ := hval s
    exact ⟨_, r, rfl, rfl, hr, _, rfl, by rw [hrs]; exact hq⟩
mutual
theorem ok_ev {W : Wd} {G : Dn} : ∀ (x : Ex) {c : SC} {X : Cx} {Wx : WX} {e : Expr}, XOk W G c X Wx → chk c x e = true → All3 W G X Wx x e
  | .cst d, c, X, Wx, e, ok, h => by
    unfold chk at h
    split at h
    · rename_i k hk
      obtain ⟨j, p, rfl⟩ := xCst_eq hk
      exact all3 (cst_ok h) (g_tru ok.K (cst_ok h) fun _ => rfl) rfl
    · cases h
  | .var i, c, X, Wx, e, ok, h => by
    unfold chk at h
    split at h
    · rename_i n hn
      simp only [Bool.and_eq_true, decide_eq_true_eq] at h
      obtain ⟨p, rfl⟩ := xName_eq hn
      obtain ⟨h1, h2⟩ := ok.vis h.1.1 h.1.2
      obtain ⟨h3, h4⟩ := okN_d h.2
      exact all3 (g_var h1 h2 h3 h4) (g_tru ok.K (g_var h1 h2 h3 h4) fun _ => rfl) rfl
    · cases h
  | .glb i, c, X, Wx, e, ok, h => by
    unfold chk at h
    split at h
    · rename_i n hn
      simp only [Bool.and_eq_true, decide_eq_true_eq] at h
      obtain ⟨p, rfl⟩ := xName_eq hn
      refine all3 ?_ (PT.none fun _ _ => rfl) rfl
      cases hd : G.Γ i with
      | none => exact g_bad fun δ S => by show lift S (G.Γ i) = .bad; rw [hd]; rfl
      | some d =>
        obtain ⟨k, r, dn⟩ := ok.dn
        obtain ⟨u, v, h1, h2, h3⟩ := dn.glb i n d h.1.1 hd
        have := g_const (W := W) (Wx := Wx) (d := d) (pe_glob (pos := p) (ok.gl h.1.2) (by rw [ok.mg]; exact h1) h2 (okN_d h.2).1) h3
        refine PE.of this fun σ H Q ⟨δ, S, ρ, s, E, q⟩ => ⟨δ, S, ρ, s, E, ?_⟩
        have e : ev G (.glb i) δ S = .ok d S := by show lift S (G.Γ i) = _; rw [hd]; rfl
        rw [e] at q; exact q
    · cases h
  | .tup es, c, X, Wx, e, ok, h => by
    unfold chk at h
    split at h
    · rename_i l hl
      obtain ⟨j, p, rfl⟩ := xTup_eq hl
      exact all3 (g_tup (ok_evs es ok h)) (PT.none fun _ _ => rfl) rfl
    · cases h
  | .lst es, c, X, Wx, e, ok, h => by
    unfold chk at h
    split at h
    · rename_i l hl
      obtain ⟨p, rfl⟩ := xLst_eq hl
      exact all3 (g_lst (ok_evs es ok h)) (PT.none fun _ _ => rfl) rfl
    · cases h
  | .lstO es, c, X, Wx, e, ok, h => by
    unfold chk at h
    split at h
    · rename_i l hl
      obtain ⟨p, rfl⟩ := xLst_eq hl
      exact all3 (g_lst (ok_evs es ok h)) (PT.none fun _ _ => rfl) rfl
    · cases h
  | .bin o a b, c, X, Wx, e, ok, h => by
    unfold chk at h
    split at h
    · rename_i ea eo eb hb
      simp only [Bool.and_eq_true] at h
      obtain ⟨p, rfl⟩ := xBin_eq hb
      exact all3 (g_bin (opOk_ok ok h.1.1) (ok_ev a ok h.1.2).1 (ok_ev b ok h.2).1) (PT.none fun _ _ => rfl) rfl
    · cases h
  | .neg a, c, X, Wx, e, ok, h => by
    unfold chk at h
    split at h
    · rename_i ea hb
      obtain ⟨p, rfl⟩ := xUn_eq hb
      exact all3 (g_neg (ok_ev a ok h).1) (PT.none fun _ _ => rfl) rfl
    · cases h
  | .not a, c, X, Wx, e, ok, h => by
    unfold chk at h
    split at h
    · rename_i ea hb
      obtain ⟨p, rfl⟩ := xUn_eq hb
      exact all3 (g_notV ok.K (ok_ev a ok h).1) (g_notT (ok_ev a ok h).2.1) rfl
    · cases h
  | .and a b, c, X, Wx, e, ok, h => by
    unfold chk at h
    split at h
    · rename_i ea eb r p hb
      simp only [Bool.and_eq_true] at h
      have := xBool_eq hb
      subst this
      have w := g_andT (ok_ev a ok h.1).2.1 ((ok_ev b ok h.2).2.2 rfl)
      exact ⟨g_and (ok_ev a ok h.1).1 (ok_ev b ok h.2).1, w.pt, fun _ => w⟩
    · cases h
  | .or a b, c, X, Wx, e, ok, h => by
    unfold chk at h
    split at h
    · rename_i ea eb r p hb
      simp only [Bool.and_eq_true] at h
      have := xBool_eq hb
      subst this
      have w := g_orT (ok_ev a ok h.1).2.1 ((ok_ev b ok h.2).2.2 rfl)
      exact ⟨g_or (ok_ev a ok h.1).1 (ok_ev b ok h.2).1, w.pt, fun _ => w⟩
    · cases h
  | .one a, c, X, Wx, e, ok, h => by
    unfold chk at h
    split at h
    · rename_i o ea p hb
      have := xBool_eq hb
      subst this
      have w : PW X (.BoolOp o [ea] p) (tT W Wx (tst G (.one a))) := by
        cases o with
        | And => exact pw_and1 (ok_ev a ok h).2.1
        | Or => exact pw_or1 (ok_ev a ok h).2.1
      exact ⟨pe_one (ok_ev a ok h).1, w.pt, fun _ => w⟩
    · cases h
  | .ite t a b, c, X, Wx, e, ok, h => by
    unfold chk at h
    split at h
    · rename_i et ea eb hb
      simp only [Bool.and_eq_true] at h
      obtain ⟨p, rfl⟩ := xIf_eq hb
      exact all3 (g_ite (ok_ev t ok h.1.1).2.1 (ok_ev a ok h.1.2).1 (ok_ev b ok h.2).1) (g_iteT (ok_ev t ok h.1.1).2.1 (ok_ev a ok h.1.2).2.1 (ok_ev b ok h.2).2.1) rfl
    · cases h
  | .cmp o a b, c, X, Wx, e, ok, h => by
    unfold chk at h
    split at h
    · rename_i ea eo eb hb
      simp only [Bool.and_eq_true] at h
      obtain ⟨p, rfl⟩ := xCmp_eq hb
      have m := mark_of h.1.1.2 eo
      exact all3 (g_cmp (cmpOk_ok ok h.1.1.1) (ok_ev a ok h.1.2).1 (ok_ev b ok h.2).1 m) (g_cmpT (cmpOk_ok ok h.1.1.1) (ok_ev a ok h.1.2).1 (ok_ev b ok h.2).1 m) rfl
    · cases h
  | .chn o o' a b d, c, X, Wx, e, ok, h => by
    unfold chk at h
    split at h
    · rename_i ea eo eb eo' ed hb
      simp only [Bool.and_eq_true] at h
      obtain ⟨⟨⟨⟨⟨h1, h2⟩, h3⟩, h4⟩, h5⟩, h6⟩ := h
      obtain ⟨p, rfl⟩ := xChn_eq hb
      have m : lastMarks [eo, eo'] [eb, ed] = false := mark_of h3 eo'
      exact all3 (g_chn (cmpOk_ok ok h1) (cmpOk_ok ok h2) (ok_ev a ok h4).1 (ok_ev b ok h5).1 (ok_ev d ok h6).1 m) (g_chnT (cmpOk_ok ok h1) (cmpOk_ok ok h2) (ok_ev a ok h4).1 (ok_ev b ok h5).1 (ok_ev d ok h6).1 m) rfl
    · cases h
  | .idx a i, c, X, Wx, e, ok, h => by
    unfold chk at h
    split at h
    · rename_i ea ei hb
      simp only [Bool.and_eq_true] at h
      obtain ⟨p, rfl⟩ := xSub_eq hb
      have v := g_ix (pos := p) (ix_p (W := W) ok.K) (ok_ev a ok h.1.2).1 (ok_ev i ok h.2).1 (ix_of h.1.1)
      exact all3 v (g_idxT (g_tru ok.K v fun _ => rfl)) rfl
    · cases h
  | .cut a l u, c, X, Wx, e, ok, h => by
    unfold chk at h
    split at h
    · rename_i ea es hb
      simp only [Bool.and_eq_true] at h
      obtain ⟨h1, h2⟩ := h
      split at h2
      · rename_i el eh hs
        simp only [Bool.and_eq_true] at h2
        obtain ⟨p, rfl⟩ := xSub_eq hb
        obtain ⟨p2, rfl⟩ := xSlc_eq hs
        exact all3 (g_slice ok.K (ok_ev a ok h1).1 (ok_evo l ok h2.1) (ok_evo u ok h2.2)) (PT.none fun _ _ => rfl) rfl
      · cases h2
    · cases h
  | .call f es, c, X, Wx, e, ok, h => by
    unfold chk at h
    split at h
    · rename_i x l pos hb
      simp only [Bool.and_eq_true, Bool.not_eq_true'] at h
      obtain ⟨⟨⟨⟨⟨h1, h2⟩, h3⟩, h4⟩, h5⟩, h6⟩ := h
      split at h1
      · rename_i y n hf
        simp only [Bool.and_eq_true, decide_eq_true_eq] at h1
        obtain ⟨p, rfl⟩ := xCall_eq hb
        cases l with
        | nil => cases h4
        | cons e l =>
          have v := call_ok (p := p) (pos := pos) ok (h1.1 ▸ hf) h1.2 h2 h3 h5 (ok_evs es ok h6)
          exact all3 v (g_callT (g_tru ok.K v fun _ => rfl)) rfl
      · cases h1
    · cases h
  | .bif b es, c, X, Wx, e, ok, h => by
    unfold chk at h
    split at h
    · rename_i x l pos hb
      simp only [Bool.and_eq_true, Bool.not_eq_true', decide_eq_true_eq] at h
      obtain ⟨⟨⟨⟨h1, h2⟩, h4⟩, h5⟩, h6⟩ := h
      obtain ⟨p, rfl⟩ := xCall_eq hb
      cases l with
      | nil => cases h4
      | cons e l =>
        subst h1
        have v := bif_ok (p := p) (pos := pos) ok h2 h5 (ok_evs es ok h6)
        exact all3 v (g_bifT (g_tru ok.K v fun _ => rfl)) rfl
    · cases h
  | .isin a t, c, X, Wx, e, ok, h => by
    unfold chk at h
    split at h
    · rename_i x ea et pos hb
      simp only [Bool.and_eq_true, decide_eq_true_eq] at h
      obtain ⟨⟨⟨⟨⟨h1, h2⟩, h3⟩, h4⟩, h5⟩, h6⟩ := h
      split at h5
      · rename_i n hn
        simp only [Bool.and_eq_true, decide_eq_true_eq] at h5
        obtain ⟨p, rfl⟩ := xCall_eq hb
        obtain ⟨p2, rfl⟩ := xName_eq hn
        subst h1
        obtain ⟨h7, h8⟩ := h5
        subst h7
        have ht : t ∈ ["bool", "int", "str", "tuple", "list", "dict", "set"] := by simpa using h6
        have hm2 : X.mg (Str.ofString t) = none := ok.bare (by
          simp only [List.mem_cons, List.not_mem_nil, or_false] at ht
          rcases ht with rfl | rfl | rfl | rfl | rfl | rfl | rfl <;> decide +kernel)
        have v := g_isin (p := p) (p2 := p2) (pos := pos) ok.K ht (ok.gl h2) (ok.bare (by decide +kernel)) (ok.gl h8) hm2 (ok_ev a ok h4).1 (star_of h3 _ _)
        exact all3 v (g_isinT (g_tru ok.K v fun _ => rfl)) rfl
      · cases h5
    · cases h
  | .app o a, c, X, Wx, e, ok, h => by
    unfold chk at h
    split at h
    · rename_i eo m ap ea p hb
      simp only [Bool.and_eq_true, decide_eq_true_eq] at h
      obtain ⟨⟨⟨⟨⟨h1, h2⟩, h3⟩, h4⟩, h5⟩, h6⟩ := h
      have := xMet_eq hb
      subst this h1
      rw [Option.isSome_iff_exists] at h3
      obtain ⟨n, hn⟩ := h3
      obtain ⟨p3, rfl⟩ := xName_eq hn
      exact all3 (g_app ok.K (ok_ev o ok h5).1 (ok_ev a ok h6).1 (star_of h4 _ _) rfl h2) (PT.none fun _ _ => rfl) rfl
    · cases h
  | .pop o, c, X, Wx, e, ok, h => by
    unfold chk at h
    split at h
    · rename_i eo m ap p hb
      simp only [Bool.and_eq_true, decide_eq_true_eq] at h
      obtain ⟨⟨⟨h1, h2⟩, h3⟩, h5⟩ := h
      have := xMet_eq hb
      subst this h1
      rw [Option.isSome_iff_exists] at h3
      obtain ⟨n, hn⟩ := h3
      obtain ⟨p3, rfl⟩ := xName_eq hn
      exact all3 (g_pop ok.K (ok_ev o ok h5).1 rfl h2) (PT.none fun _ _ => rfl) rfl
    · cases h
  | .join o a, c, X, Wx, e, ok, h => by
    unfold chk at h
    split at h
    · rename_i eo m ap ea p hb
      simp only [Bool.and_eq_true, decide_eq_true_eq] at h
      obtain ⟨⟨⟨⟨⟨h1, h2⟩, h3⟩, h4⟩, h5⟩, h6⟩ := h
      have := xMet_eq hb
      subst this h1
      rw [Option.isSome_iff_exists] at h3
      obtain ⟨n, hn⟩ := h3
      obtain ⟨j, p3, rfl⟩ := xCst_eq hn
      exact all3 (g_join ok.K (ok_ev o ok h5).1 (ok_ev a ok h6).1 (by rw [star_of h4 _ _]; rfl) rfl h2) (PT.none fun _ _ => rfl) rfl
    · cases h
  | .met1 k o a, c, X, Wx, e, ok, h => by
    unfold chk at h
    split at h
    · rename_i eo m ap ea p hb
      simp only [Bool.and_eq_true, decide_eq_true_eq] at h
      obtain ⟨⟨⟨⟨⟨h1, h2⟩, h3⟩, h4⟩, h5⟩, h6⟩ := h
      have := xMet_eq hb
      subst this h1
      have v := g_met1 (m := k) (ok_ev o ok h5).1 (ok_ev a ok h6).1 (by rw [star_of h4 _ _]; rfl) (baseOk_ok h3 _ _) h2
      exact all3 v (PT.as (g_tru ok.K v fun _ => rfl) fun δ S => by simp only [tst, Out.bind_assoc]) rfl
    · cases h
  | .find3 o a i, c, X, Wx, e, ok, h => by
    unfold chk at h
    split at h
    · rename_i eo m ap ea eb p hb
      simp only [Bool.and_eq_true, decide_eq_true_eq] at h
      obtain ⟨⟨⟨⟨⟨⟨⟨h1, h2⟩, h3⟩, h4⟩, h4b⟩, h5⟩, h6⟩, h7⟩ := h
      have := xMet_eq hb
      subst this h1
      exact all3 (g_find3 (ok_ev o ok h5).1 (ok_ev a ok h6).1 (ok_ev i ok h7).1 (by rw [star_of h4 _ _, star_of h4b _ _]; rfl) (baseOk_ok h3 _ _) h2) (PT.none fun _ _ => rfl) rfl
    · cases h
  | .repl o y z, c, X, Wx, e, ok, h => by
    unfold chk at h
    split at h
    · rename_i eo m ap ey ez p hb
      simp only [Bool.and_eq_true, decide_eq_true_eq] at h
      obtain ⟨⟨⟨⟨h0, h1⟩, h2⟩, h3⟩, h5⟩ := h
      have := xMet_eq hb
      subst this h1
      split at h0
      · rename_i Y Z hY hZ
        simp only [Bool.and_eq_true, decide_eq_true_eq, Bool.not_eq_true'] at h0
        obtain ⟨⟨h6, h7⟩, h8⟩ := h0
        subst h6 h7
        obtain ⟨j, p1, rfl⟩ := xTxt_eq hY
        obtain ⟨k, p2, rfl⟩ := xTxt_eq hZ
        obtain ⟨w0, k0, p0, b, q0, rfl⟩ := subC_eq h3
        exact all3 (g_repl (ok_ev o ok h5).1 h8 rfl rfl h2) (PT.none fun _ _ => rfl) rfl
      · cases h0
    · cases h
  | .comp el t it cs isO, c, X, Wx, e, ok, h => by
    unfold chk at h
    split at h
    · rename_i eel et ei ecs scope pos hb
      simp only [Bool.and_eq_true] at h
      obtain ⟨⟨⟨⟨⟨h1, h2⟩, h3⟩, h4⟩, h5⟩, h6⟩ := h
      have := xLc_eq hb
      subst this
      have nd : X.N.Nodup := by rw [ok.N]; exact ok.nd
      have hsl : (t.own c.N).map (·.2) = t.slots := by unfold Tg.own; rw [List.map_map]; exact List.map_id' _
      have v := g_comp (isO := isO) (pos := pos) (t := t) ok.K ok.calm nd (ok_evI it (tg := et) ok h4) (blkOk_by (by rw [ok.N, ok.sc]; exact h1)) (by rw [hsl]; exact fun _ h => h)
        (fun s H C cl fp => chkTg_ok (ok.blk scope s H C cl fp) h2) (fun s H C cl fp => ok_evT cs (ok.blk scope s H C cl fp) h5) (fun s H C cl fp => (ok_ev el (ok.blk scope s H C cl fp) h6).1) (set_of h3 X.env)
      rw [hsl] at v
      exact all3 v (PT.none fun _ _ => rfl) rfl
    · cases h
  | .compV el t it cs isO, c, X, Wx, e, ok, h => by
    unfold chk at h
    split at h
    · rename_i eel et ei ecs scope pos hb
      simp only [Bool.and_eq_true] at h
      obtain ⟨⟨⟨⟨⟨h1, h2⟩, h3⟩, h4⟩, h5⟩, h6⟩ := h
      have := xLc_eq hb
      subst this
      have nd : X.N.Nodup := by rw [ok.N]; exact ok.nd
      have hsl : (t.own c.N).map (·.2) = t.slots := by unfold Tg.own; rw [List.map_map]; exact List.map_id' _
      have v := g_compV (isO := isO) (pos := pos) (t := t) ok.K ok.calm nd (ok_evI it (tg := et) ok h4) (blkOk_by (by rw [ok.N, ok.sc]; exact h1)) (by rw [hsl]; exact fun _ h => h)
        (fun s H C cl fp => chkTg_ok (ok.blk scope s H C cl fp) h2) (fun s H C cl fp => ok_evT cs (ok.blk scope s H C cl fp) h5) (fun s H C cl fp => (ok_ev el (ok.blk scope s H C cl fp) h6).1) (set_of h3 X.env)
      rw [hsl] at v
      exact all3 v (PT.none fun _ _ => rfl) rfl
    · cases h
  | .lrev a isO, c, X, Wx, e, ok, h => by
    unfold chk at h
    split at h
    · rename_i ea hb
      obtain ⟨k, p1, p2, p3, p, rfl⟩ := xRevS_eq hb
      exact all3 (g_revL ok.K (ok_ev a ok h).1) (PT.none fun _ _ => rfl) rfl
    · split at h
      · rename_i x er pos hb
        simp only [Bool.and_eq_true, decide_eq_true_eq] at h
        obtain ⟨⟨h1, h2⟩, h3⟩ := h
        split at h3
        · rename_i y ea pos2 hb2
          simp only [Bool.and_eq_true, decide_eq_true_eq] at h3
          obtain ⟨⟨⟨h4, h5⟩, h6⟩, h7⟩ := h3
          obtain ⟨p, rfl⟩ := xCall_eq hb
          obtain ⟨p2, rfl⟩ := xCall_eq hb2
          subst h1 h4
          exact all3 (g_lrev ok.K ok.calm (ok.gl h2) (ok.bare (by decide +kernel)) (ok.gl h5) (ok.bare (by decide +kernel)) (ok_ev a ok h7).1 (star_of h6 _ _)) (PT.none fun _ _ => rfl) rfl
        · cases h3
      · cases h
  | .rev a, c, X, Wx, e, ok, h => by
    unfold chk at h
    split at h
    · rename_i ea hb
      obtain ⟨k, p1, p2, p3, p, rfl⟩ := xRevS_eq hb
      exact all3 (g_revA ok.K (ok_ev a ok h).1) (PT.none fun _ _ => rfl) rfl
    · cases h
  | .binO o a b, c, X, Wx, e, ok, h => by
    unfold chk at h
    split at h
    · rename_i ea eb hb
      simp only [Bool.and_eq_true, decide_eq_true_eq] at h
      obtain ⟨⟨rfl, h1⟩, h2⟩ := h
      obtain ⟨p, rfl⟩ := xBin_eq hb
      exact all3 (g_addO (ok_ev a ok h1).1 (ok_ev b ok h2).1) (PT.none fun _ _ => rfl) rfl
    · rename_i ea eb hb
      simp only [Bool.and_eq_true, decide_eq_true_eq] at h
      obtain ⟨⟨rfl, h1⟩, h2⟩ := h
      obtain ⟨p, rfl⟩ := xBin_eq hb
      exact all3 (g_mulO (ok_ev a ok h1).1 (ok_ev b ok h2).1) (PT.none fun _ _ => rfl) rfl
    · cases h
  | .dnew, c, X, Wx, e, ok, h => by
    unfold chk at h
    split at h
    · exact all3 g_dnew (PT.none fun _ _ => rfl) rfl
    · cases h
  | .lidx o a, c, X, Wx, e, ok, h => by
    unfold chk at h
    split at h
    · rename_i eo m ap ea p hb
      simp only [Bool.and_eq_true, decide_eq_true_eq] at h
      obtain ⟨⟨⟨⟨⟨h1, h2⟩, h3⟩, h4⟩, h5⟩, h6⟩ := h
      have := xMet_eq hb
      subst this h1
      exact all3 (g_lidx ok.K (by have := ok.units; omega) (ok_ev o ok h5).1 (ok_ev a ok h6).1 (star_of h4 _ _) (baseOk_ok h3 _ _) h2) (PT.none fun _ _ => rfl) rfl
    · cases h
  | .tupz a, c, X, Wx, e, ok, h => by
    unfold chk at h
    split at h
    · rename_i x ea pos hb
      simp only [Bool.and_eq_true, decide_eq_true_eq] at h
      obtain ⟨⟨⟨h1, h2⟩, h3⟩, h4⟩ := h
      obtain ⟨p, rfl⟩ := xCall_eq hb
      subst h1
      exact all3 (g_tupz ok.K (ok.gl h2) (ok.bare (by decide +kernel)) (ok_ev a ok h4).1 (star_of h3 _ _)) (PT.none fun _ _ => rfl) rfl
    · cases h
  | .unz a, c, X, Wx, e, ok, h => by
    unfold chk at h
    simp only [Bool.and_eq_true] at h
    obtain ⟨h1, h2⟩ := h
    exact all3 (g_unz (ok_ev a ok h2).1) (PT.none fun _ _ => rfl) (by revert h1; cases e <;> simp [isBO])
  | .dictZ a, c, X, Wx, e, ok, h => by
    unfold chk at h
    split at h
    · rename_i x ea pos hb
      simp only [Bool.and_eq_true, decide_eq_true_eq] at h
      obtain ⟨⟨⟨h1, h2⟩, h3⟩, h4⟩ := h
      obtain ⟨p, rfl⟩ := xCall_eq hb
      subst h1
      exact all3 (g_dictZ ok.calm ok.K (ok.gl h2) (ok.bare (by decide +kernel)) (ok_ev a ok h4).1 (star_of h3 _ _)) (PT.none fun _ _ => rfl) rfl
    · cases h
  | .dictO a, c, X, Wx, e, ok, h => by
    unfold chk at h
    split at h
    · rename_i x ea pos hb
      simp only [Bool.and_eq_true, decide_eq_true_eq] at h
      obtain ⟨⟨⟨h1, h2⟩, h3⟩, h4⟩ := h
      obtain ⟨p, rfl⟩ := xCall_eq hb
      subst h1
      exact all3 (g_dictO ok.K ok.calm (ok.gl h2) (ok.bare (by decide +kernel)) (ok_ev a ok h4).1 (star_of h3 _ _)) (PT.none fun _ _ => rfl) rfl
    · cases h
  | .listO a, c, X, Wx, e, ok, h => by
    unfold chk at h
    split at h
    · rename_i x ea pos hb
      simp only [Bool.and_eq_true, decide_eq_true_eq] at h
      obtain ⟨⟨⟨h1, h2⟩, h3⟩, h4⟩ := h
      obtain ⟨p, rfl⟩ := xCall_eq hb
      subst h1
      exact all3 (g_listO ok.K (ok.gl h2) (ok.bare (by decide +kernel)) (ok_ev a ok h4).1 (star_of h3 _ _)) (PT.none fun _ _ => rfl) rfl
    · cases h
  | .ext o a, c, X, Wx, e, ok, h => by
    unfold chk at h
    split at h
    · rename_i eo m ap ea p hb
      simp only [Bool.and_eq_true, decide_eq_true_eq] at h
      obtain ⟨⟨⟨⟨⟨h1, h2⟩, h3⟩, h4⟩, h5⟩, h6⟩ := h
      have := xMet_eq hb
      subst this h1
      rw [Option.isSome_iff_exists] at h3
      obtain ⟨n, hn⟩ := h3
      obtain ⟨p3, rfl⟩ := xName_eq hn
      exact all3 (g_ext ok.K (ok_ev o ok h5).1 (ok_ev a ok h6).1 (star_of h4 _ _) rfl h2) (PT.none fun _ _ => rfl) rfl
    · cases h
  | .met0 k o, c, X, Wx, e, ok, h => by
    unfold chk at h
    split at h
    · rename_i eo m ap p hb
      simp only [Bool.and_eq_true, decide_eq_true_eq] at h
      obtain ⟨⟨⟨h1, h2⟩, h3⟩, h5⟩ := h
      have := xMet_eq hb
      subst this h1
      have v := g_met0 (m := k) (ok_ev o ok h5).1 (baseOk_ok h3 _ _) h2
      exact all3 v (PT.as (g_tru ok.K v fun _ => rfl) fun δ S => by simp only [tst, Out.bind_assoc]) rfl
    · cases h
  | .split o a isO, c, X, Wx, e, ok, h => by
    unfold chk at h
    split at h
    · rename_i eo m ap ea p hb
      simp only [Bool.and_eq_true, decide_eq_true_eq] at h
      obtain ⟨⟨⟨⟨⟨h1, h2⟩, h3⟩, h4⟩, h5⟩, h6⟩ := h
      have := xMet_eq hb
      subst this h1
      exact all3 (g_split (ok_ev o ok h5).1 (ok_ev a ok h6).1 (by rw [star_of h4 _ _]; rfl) (baseOk_ok h3 _ _) h2) (PT.none fun _ _ => rfl) rfl
    · cases h
  | .allG isAny el t it cs, c, X, Wx, e, ok, h => by
    unfold chk at h
    split at h
    · rename_i x g pos hb
      simp only [Bool.and_eq_true, decide_eq_true_eq] at h
      obtain ⟨⟨⟨⟨h1, h2⟩, h3⟩, h4⟩, h5⟩ := h
      split at h5
      · rename_i eel et ei ecs scope hx
        simp only [Bool.and_eq_true] at h5
        obtain ⟨⟨⟨⟨⟨⟨q1, q2⟩, q3⟩, q4⟩, q5⟩, q6⟩, q7⟩ := h5
        obtain ⟨p, rfl⟩ := xCall_eq hb
        obtain ⟨gp, rfl⟩ := xGen_eq hx
        obtain ⟨cc, P, t1, t2, t3⟩ := ok.tab h3
        obtain ⟨k, r, dn⟩ := ok.dn
        have nd : X.N.Nodup := by rw [ok.N]; exact ok.nd
        have hsl : (t.own c.N).map (·.2) = t.slots := by unfold Tg.own; rw [List.map_map]; exact List.map_id' _
        have hgd : k + c.gd = (k + (c.gd - 1)) + 1 := by omega
        rw [hgd] at r
        have mm : X.mg x = none := ok.bare (by rw [h1]; cases isAny <;> decide +kernel)
        have v := g_all (isAny := isAny) (p := p) (gpos := gp) (pos := pos) (t := t) (own := t.own c.N) ok.K r ok.calm h1 (ok.gl h2) mm t2 t3 t1 nd (by rw [ok.N, ok.sc]; exact gexC_ok q1) (by rw [hsl]; exact fun _ h => h) (ok_evI it (tg := et) ok q5) (fold_of q3 q4 _)
          (fun A' s H C code fp pn _ hr => chkTg_ok (XOk.gex ok scope (fun _ => trivial) dn A' s H C code fp pn hr) q2) (fun A' s H C code fp pn _ hr => ok_evT cs (XOk.gex ok scope (fun _ => trivial) dn A' s H C code fp pn hr) q6) (fun A' s H C code fp pn _ hr => (ok_ev el (XOk.gex ok scope (fun _ => trivial) dn A' s H C code fp pn hr) q7).1)
        rw [hsl] at v
        exact all3 v (g_allT ok.K v fun _ => rfl) rfl
      · cases h5
    · cases h
  | .kin neg i a, c, X, Wx, e, ok, h => by
    unfold chk at h
    split at h
    · rename_i ea eo eb hb
      simp only [Bool.and_eq_true] at h
      obtain ⟨⟨h1, h2⟩, h3⟩ := h
      split at h2
      · rename_i n hn
        simp only [Bool.and_eq_true, decide_eq_true_eq] at h2
        obtain ⟨p, rfl⟩ := xCmp_eq hb
        obtain ⟨p2, rfl⟩ := xName_eq hn
        have hop : eo = if neg then .NotIn else .In := by
          cases eo <;> first | (cases h1; done) | skip
          · cases neg <;> first | (cases h1; done) | rfl
          · cases neg <;> first | (cases h1; done) | rfl
        cases hl : G.Δ i with
        | none => exact all3 (g_bad fun δ S => by simp only [ev, hl]; rfl) (g_badT fun δ S => by simp only [tst, hl]; rfl) rfl
        | some l =>
          obtain ⟨k, r, dn⟩ := ok.dn
          obtain ⟨ad, es, m, d1, d2, d3, d4⟩ := dn.dic i n l h2.1.1 hl
          rw [← ok.K] at d2 d3
          rw [← ok.w] at d2
          have v := g_kin (p := p2) (pos := p) (W := W) (Wx := Wx) hop ok.K d2 hl d3 (ok.gl h2.1.2) (by rw [ok.mg]; exact d1) (okN_d h2.2).1 (ok_ev a ok h3).1
          refine all3 v ?_ rfl
          have tt : PT X (.Compare ea [eo] [.Name n p2] p) (tTest (tD W Wx (ev G (.kin neg i a)))) := kin_test hop d2 d3 hl ok.K (ok.gl h2.1.2) (by rw [ok.mg]; exact d1) (okN_d h2.2).1 (ok_ev a ok h3).1
          refine PT.of tt fun σ H Q ⟨δ, S, ρ, s, E, hh⟩ => ⟨δ, S, ρ, s, E, ?_⟩
          have e1 : tst G (.kin neg i a) δ S = (ev G (.kin neg i a) δ S).bind fun z S => liftB S z.asB := by
            simp only [tst, ev, Out.bind_assoc]
            congr 1; funext l S1; congr 1; funext x S2
            unfold kinF
            split <;> rfl
          rw [e1] at hh
          exact Cont.asBQ hh
      · cases h2
    · cases h
  | .kidx i a, c, X, Wx, e, ok, h => by
    unfold chk at h
    split at h
    · rename_i ea ei hb
      simp only [Bool.and_eq_true] at h
      obtain ⟨⟨h1, h2⟩, h3⟩ := h
      split at h2
      · rename_i n hn
        simp only [Bool.and_eq_true, decide_eq_true_eq] at h2
        obtain ⟨p, rfl⟩ := xSub_eq hb
        obtain ⟨p2, rfl⟩ := xName_eq hn
        cases hl : G.Δ i with
        | none => exact all3 (g_bad fun δ S => by simp only [ev, hl]; rfl) (g_badT fun δ S => by simp only [tst, hl]; rfl) rfl
        | some l =>
          obtain ⟨k, r, dn⟩ := ok.dn
          obtain ⟨ad, es, m, d1, d2, d3, d4⟩ := dn.dic i n l h2.1.1 hl
          rw [← ok.K] at d2 d4
          rw [← ok.w] at d2
          have d4' : ∀ (s : List Nat) (d : D), l.lookup s = some d → ∃ u v, PySem.W.nsIn X.K ad ⟨s.toArray⟩ = some (some u) ∧ RelV v u ∧ ∀ ρ N H, RepV W.K ρ N H d v := fun s d hd => by
            have := d4 s d hd
            rw [ok.K] at this
            rw [ok.K]; exact this
          have v := g_kidx (p := p2) (pos := p) (W := W) (Wx := Wx) ok.K d2 hl d4' (ok.gl h2.1.2) (by rw [ok.mg]; exact d1) (okN_d h2.2).1 (ok_ev a ok h3).1 (ix_of h1)
          exact all3 v (PT.as (g_tru ok.K v fun _ => rfl) fun δ S => by simp only [tst, ev, Out.bind_assoc]) rfl
      · cases h2
    · cases h
theorem ok_evs {W : Wd} {G : Dn} : ∀ (x : Exs) {c : SC} {X : Cx} {Wx : WX} {l : List Expr}, XOk W G c X Wx → chks c x l = true → PA X l (tA W Wx (evs G x))
  | .nil, c, X, Wx, l, ok, h => by
    unfold chks at h
    rw [List.isEmpty_iff] at h
    subst h
    exact g_nil
  | .cons a as, c, X, Wx, l, ok, h => by
    unfold chks at h
    split at h
    · rename_i e es
      simp only [Bool.and_eq_true] at h
      exact g_cons (ok_ev a ok h.1.2).1 (ok_evs as ok h.2) (star_of h.1.1 _ _)
    · cases h
  | .star a as, c, X, Wx, l, ok, h => by
    unfold chks at h
    split at h
    · rename_i e p es
      simp only [Bool.and_eq_true] at h
      exact g_star ok.K (ok_ev a ok h.1).1 (ok_evs as ok h.2)
    · cases h
theorem ok_evT {W : Wd} {G : Dn} : ∀ (x : Exs) {c : SC} {X : Cx} {Wx : WX} {l : List Expr}, XOk W G c X Wx → chkT c x l = true → PTs X l (tT W Wx (tsts G x))
  | .nil, c, X, Wx, l, ok, h => by
    unfold chkT at h
    rw [List.isEmpty_iff] at h
    subst h
    exact g_yes
  | .cons a as, c, X, Wx, l, ok, h => by
    unfold chkT at h
    split at h
    · rename_i e
      exact pts_one (ok_ev a ok h).2.1
    · cases h
  | .star a as, c, X, Wx, l, ok, h => by
    unfold chkT at h
    cases h
theorem ok_evo {W : Wd} {G : Dn} : ∀ (x : Exo) {c : SC} {X : Cx} {Wx : WX} {l : Option Expr}, XOk W G c X Wx → chko c x l = true → PO X l (tO W Wx (evo G x))
  | .no, c, X, Wx, l, ok, h => by
    unfold chko at h
    rw [Option.isNone_iff_eq_none] at h
    subst h
    exact g_partN
  | .ex a, c, X, Wx, l, ok, h => by
    unfold chko at h
    split at h
    · exact g_part (ok_ev a ok h).1
    · cases h
theorem ok_evI {W : Wd} {G : Dn} : ∀ (x : PD.It) {c : SC} {X : Cx} {Wx : WX} {e tg : Expr}, XOk W G c X Wx → chkI c x tg e = true → PI X tg e (iI W Wx (evI G x))
  | .seq a, c, X, Wx, e, tg, ok, h => by
    unfold chkI at h
    exact g_seq ok.K (ok_ev a ok h).1
  | .rng1 a, c, X, Wx, e, tg, ok, h => by
    unfold chkI at h
    split at h
    · rename_i x ea pos hb
      simp only [Bool.and_eq_true, decide_eq_true_eq] at h
      obtain ⟨⟨⟨h1, h2⟩, h3⟩, h4⟩ := h
      obtain ⟨p, rfl⟩ := xCall_eq hb
      subst h1
      exact g_rng1 (ok.gl h2) (ok.bare (by decide +kernel)) (g_cons (ok_ev a ok h4).1 g_nil (star_of h3 _ _)) (star_of h3 _ _)
    · cases h
  | .rng2 a b, c, X, Wx, e, tg, ok, h => by
    unfold chkI at h
    split at h
    · rename_i x ea eb pos hb
      simp only [Bool.and_eq_true, decide_eq_true_eq] at h
      obtain ⟨⟨⟨⟨⟨h1, h2⟩, h3⟩, h4⟩, h5⟩, h6⟩ := h
      obtain ⟨p, rfl⟩ := xCall_eq hb
      subst h1
      have e1 := star_of h3 [eb] X.env
      have e2 := star_of h4 [] X.env
      rw [e2] at e1
      exact g_rng2 (ok.gl h2) (ok.bare (by decide +kernel)) (g_two (ok_ev a ok h5).1 (ok_ev b ok h6).1 (star_of h3 _ _) (star_of h4 _ _)) e1 e2
    · cases h
  | .rng3 a b d, c, X, Wx, e, tg, ok, h => by
    unfold chkI at h
    split at h
    · rename_i x ea eb ed pos hb
      simp only [Bool.and_eq_true, decide_eq_true_eq] at h
      obtain ⟨⟨⟨⟨⟨⟨⟨h1, h2⟩, h3⟩, h4⟩, h5⟩, h6⟩, h7⟩, h8⟩ := h
      obtain ⟨p, rfl⟩ := xCall_eq hb
      subst h1
      exact g_rng3 (ok.gl h2) (ok.bare (by decide +kernel)) (g_three (ok_ev a ok h6).1 (ok_ev b ok h7).1 (ok_ev d ok h8).1 h3 h4 h5) (star_of h3 _ _) (plain_args (by simp [h4, h5]) pos X.env)
    · cases h
  | .zip a b, c, X, Wx, e, tg, ok, h => by
    unfold chkI at h
    simp only [Bool.and_eq_true] at h
    obtain ⟨h0, h⟩ := h
    obtain ⟨l, k, tp, rfl⟩ := isTup_eq h0
    split at h
    · rename_i x ea eb pos hb
      simp only [Bool.and_eq_true, decide_eq_true_eq] at h
      obtain ⟨⟨⟨⟨⟨h1, h2⟩, h3⟩, h4⟩, h5⟩, h6⟩ := h
      obtain ⟨p, rfl⟩ := xCall_eq hb
      subst h1
      exact g_zip ok.K (ok.gl h2) (ok.bare (by decide +kernel)) (g_two (ok_ev a ok h5).1 (ok_ev b ok h6).1 (star_of h3 _ _) (star_of h4 _ _)) (star_of h3 _ _) (plain_args (by simp [h4]) pos X.env)
    · cases h
  | .enm a, c, X, Wx, e, tg, ok, h => by
    unfold chkI at h
    simp only [Bool.and_eq_true] at h
    obtain ⟨h0, h⟩ := h
    obtain ⟨l, k, tp, rfl⟩ := isTup_eq h0
    split at h
    · rename_i x ea pos hb
      simp only [Bool.and_eq_true, decide_eq_true_eq] at h
      obtain ⟨⟨⟨h1, h2⟩, h3⟩, h4⟩ := h
      obtain ⟨p, rfl⟩ := xCall_eq hb
      subst h1
      exact g_enm ok.K (ok.gl h2) (ok.bare (by decide +kernel)) (g_cons (ok_ev a ok h4).1 g_nil (star_of h3 _ _)) (star_of h3 _ _)
    · cases h
end
end PD

set_option Elab.async false
set_option linter.all false
set_option maxRecDepth 100000
namespace PD
open PySem PySem.Spec PyProof.Rows L2

def FlOk (W : Wd) (Wx : WX) (De : Ends) (ρ : Rn) (N : Nat) (H : Hp) : Fl → Prop
  | .nx δ => ∀ σ, RepE W.K ρ N H δ σ → De.nx σ H
  | .bk δ => ∀ σ, RepE W.K ρ N H δ σ → De.bk σ H
  | .ct δ => ∀ σ, RepE W.K ρ N H δ σ → De.ct σ H
  | .rt d => ∀ v, RepV W.K ρ N H d v → De.rt v H
  | .ex x δ => ∀ σ, RepE W.K ρ N H δ σ → Wx (W.cls x) none σ H
def FlC (W : Wd) (Wx : WX) (De : Ends) (ρ : Rn) (N : Nat) (H : Hp) (r : Out Fl) : Prop := match r with
  | .ok fl S' => ∀ ρ' H', Ext ρ N H ρ' S'.length H' → RepS W ρ' S' H' → FlOk W Wx De ρ' S'.length H' fl
  | .exc _ _ => False
  | .bad => False
def tSt (W : Wd) (Wx : WX) (f : DEnv → Store → Out Fl) : TS := fun De σ H => ∃ δ S ρ, RepS W ρ S H ∧ RepE W.K ρ S.length H δ σ ∧ FlC W Wx De ρ S.length H (f δ S)
section
variable {W : Wd} {Wx : WX} {De : Ends} {ρ : Rn} {N : Nat} {H : Hp} {S : Store} {δ : DEnv} {σ : L2.St} {α β : Type} {rel : Rl α β}
theorem FlC.from {r : Out Fl} {ρ' : Rn} {N' : Nat} {H' : Hp} (h : FlC W Wx De ρ N H r) (e : Ext ρ N H ρ' N' H') : FlC W Wx De ρ' N' H' r := by
  cases r with
  | ok fl S' => exact fun ρ1 H1 e1 s1 => h ρ1 H1 (e.trans e1) s1
  | exc _ _ => exact h
  | bad => exact h
/-- an expression first -/
theorem FlC.next {f : DEnv → Store → Out α} {g : α → Store → Out Fl} {Q' : β → Hp → Prop} (s : RepS W ρ S H) (e : RepE W.K ρ S.length H δ σ) (h : FlC W Wx De ρ S.length H (exS δ (f δ S) g))
    (k : ∀ b H1 a S1 ρ1, Ext ρ S.length H ρ1 S1.length H1 → RepS W ρ1 S1 H1 → RepE W.K ρ1 S1.length H1 δ σ → rel ρ1 S1.length H1 a b → FlC W Wx De ρ1 S1.length H1 (g a S1) → Q' b H1) : rdg W Wx rel f σ H Q' := by
  refine ⟨δ, S, ρ, s, e, ?_⟩
  cases hf : f δ S with
  | ok a S1 =>
    rw [hf] at h
    exact fun ρ1 H1 e1 s1 b hb => k b H1 a S1 ρ1 e1 s1 (e.mono e1) hb (FlC.from (r := g a S1) h e1)
  | exc x S1 =>
    rw [hf] at h
    exact fun ρ1 H1 e1 s1 => h ρ1 H1 e1 s1 σ (e.mono e1)
  | bad => rw [hf] at h; exact h.elim
theorem FlC.oO {α : Type} {o : Option α} {g : α → Store → Out Fl} (h : FlC W Wx De ρ N H ((liftO S o).bind g)) : ∃ a, o = some a ∧ FlC W Wx De ρ N H (g a S) := by
  cases o with
  | none => exact h.elim
  | some a => exact ⟨a, rfl, h⟩
theorem FlC.nx {δ' : DEnv} {σ' : L2.St} (h : FlC W Wx De ρ S.length H (.ok (.nx δ') S)) (s : RepS W ρ S H) (e : RepE W.K ρ S.length H δ' σ') : De.nx σ' H := h ρ H .refl s σ' e
/-- a statement first -/
theorem FlC.then {r : Out Fl} {g : DEnv → Store → Out Fl} (h : FlC W Wx De ρ N H (thenF r g)) : FlC W Wx { De with nx := tSt W Wx g De } ρ N H r := by
  cases r with
  | ok fl S1 =>
    cases fl with
    | nx δ1 => exact fun ρ1 H1 e1 s1 σ1 E1 => ⟨δ1, S1, ρ1, s1, E1, FlC.from (r := g δ1 S1) h e1⟩
    | rt d => exact h
    | bk d => exact h
    | ct d => exact h
    | ex x d => exact h
  | exc _ _ => exact h.elim
  | bad => exact h.elim
theorem FlC.turn {r : Out Fl} {g : DEnv → Store → Out Fl} {Nx : L2.St → Hp → Prop} (h : FlC W Wx De ρ N H (turnF r g)) (k : ∀ δ1 S1 ρ1 H1 σ1, Ext ρ N H ρ1 S1.length H1 → RepS W ρ1 S1 H1 → RepE W.K ρ1 S1.length H1 δ1 σ1 → FlC W Wx De ρ1 S1.length H1 (g δ1 S1) → Nx σ1 H1) :
    FlC W Wx { De with nx := Nx, ct := Nx, bk := De.nx } ρ N H r := by
  cases r with
  | ok fl S1 =>
    cases fl with
    | nx δ1 => exact fun ρ1 H1 e1 s1 σ1 E1 => k δ1 S1 ρ1 H1 σ1 e1 s1 E1 (FlC.from (r := g δ1 S1) h e1)
    | ct δ1 => exact fun ρ1 H1 e1 s1 σ1 E1 => k δ1 S1 ρ1 H1 σ1 e1 s1 E1 (FlC.from (r := g δ1 S1) h e1)
    | rt d => exact h
    | bk d => exact h
    | ex x d => exact h
  | exc _ _ => exact h.elim
  | bad => exact h.elim
end
theorem RepVs.set {K : PySem.W.Frag} {ρ : Rn} {N : Nat} {H : Hp} {d : D} {v : V} (r : RepV K ρ N H d v) : ∀ {ds : List D} {vs : List V}, RepVs K ρ N H ds vs → ∀ j, RepVs K ρ N H (ds.set j d) (vs.set j v)
  | _, _, .nil, _ => .nil
  | _, _, .cons _ t, 0 => .cons r t
  | _, _, .cons q t, j + 1 => .cons q (RepVs.set r t j)
section
variable {X : Cx} {W : Wd} {Wx : WX} {st : Stmt} {sts : List Stmt} {f g : DEnv → Store → Out Fl}
theorem PS.of {t t' : TS} (h : PS X st t') (i : ∀ De σ H, t De σ H → t' De σ H) : PS X st t := ⟨fun pins s σ H De I q => h.run pins s σ H De I (i _ _ _ q)⟩
theorem PSs.of {t t' : TS} (h : PSs X sts t') (i : ∀ De σ H, t De σ H → t' De σ H) : PSs X sts t := ⟨fun pins s σ H De I q => h.run pins s σ H De I (i _ _ _ q)⟩
theorem s_nil : PSs X [] (tSt W Wx fun δ S => .ok (.nx δ) S) := PSs.of pss_nil fun De σ H ⟨δ, S, ρ, s, e, h⟩ => FlC.nx h s e
theorem s_cons (h1 : PS X st (tSt W Wx f)) (h2 : PSs X sts (tSt W Wx g)) : PSs X (st :: sts) (tSt W Wx fun δ S => thenF (f δ S) fun δ1 S1 => g δ1 S1) :=
  PSs.of (pss_cons h1 h2) fun De σ H ⟨δ, S, ρ, s, e, h⟩ => ⟨δ, S, ρ, s, e, FlC.then h⟩
theorem s_pass {pos : Pos} : PS X (.Pass pos) (tSt W Wx fun δ S => .ok (.nx δ) S) := PS.of ps_pass fun De σ H ⟨δ, S, ρ, s, e, h⟩ => FlC.nx h s e
theorem s_doc {x j pos pos'} : PS X (.Expr (.Constant (.str x) j pos) pos') (tSt W Wx fun δ S => .ok (.nx δ) S) := PS.of ps_doc fun De σ H ⟨δ, S, ρ, s, e, h⟩ => FlC.nx h s e
theorem s_brk {pos : Pos} : PS X (.Break pos) (tSt W Wx fun δ S => .ok (.bk δ) S) := PS.of ps_break fun De σ H ⟨δ, S, ρ, s, e, h⟩ => h ρ H .refl s σ e
theorem s_cnt {pos : Pos} : PS X (.Continue pos) (tSt W Wx fun δ S => .ok (.ct δ) S) := PS.of ps_continue fun De σ H ⟨δ, S, ρ, s, e, h⟩ => h ρ H .refl s σ e
variable {e e2 e3 : Expr} {pos : Pos} {a b c : DEnv → Store → Out D} {i j k : Nat} {x : Str}
theorem asg_to {i : Nat} {De : Ends} {σ : L2.St} {H : Hp} (h : tSt W Wx (fun δ S => exS δ (a δ S) fun d S1 => .ok (.nx (δ.set i (some d))) S1) De σ H) : tAsg (tD W Wx a) (gName i) De σ H := by
  obtain ⟨δ, S, ρ, s, E, h⟩ := h
  exact FlC.next s E h fun v H1 d S1 ρ1 e1 s1 E1 r1 h1 => FlC.nx h1 s1 (E1.set i r1)
theorem s_set {pos' : Pos} (hN : X.N.Nodup) (hi : X.N[i]? = some x) (hx : Loc X.env.scope x) (he : PE X e (tD W Wx a)) (hs : swapsWith e (some (.Name x pos')) pos.line X.env = pure false) (hf : X.fn x = true ∨ X.env.scope.names.lookup x = some .local) :
    PS X (.Assign [.Name x pos'] e pos) (tSt W Wx fun δ S => exS δ (a δ S) fun d S1 => .ok (.nx (δ.set i (some d))) S1) := PS.of (ps_set hN hi hx he hs hf) fun De σ H h => asg_to h
theorem s_exp (he : PE X e (tD W Wx a)) (hs : swapsWith e none pos.line X.env = pure false) : PS X (.Expr e pos) (tSt W Wx fun δ S => exS δ (a δ S) fun _ S1 => .ok (.nx δ) S1) :=
  PS.of (ps_expr he hs) fun De σ H ⟨δ, S, ρ, s, E, h⟩ => FlC.next s E h fun v H1 d S1 ρ1 e1 s1 E1 r1 h1 => FlC.nx h1 s1 E1
theorem s_ret (he : PE X e (tD W Wx a)) : PS X (.Return (some e) pos) (tSt W Wx fun δ S => exS δ (a δ S) fun d S1 => .ok (.rt d) S1) :=
  PS.of (ps_ret he) fun De σ H ⟨δ, S, ρ, s, E, h⟩ => FlC.next s E h fun v H1 d S1 ρ1 e1 s1 E1 r1 h1 => h1 ρ1 H1 .refl s1 v r1
theorem s_retN : PS X (.Return none pos) (tSt W Wx fun δ S => exS δ (.ok .non S) fun d S1 => .ok (.rt d) S1) :=
  PS.of ps_retN fun De σ H ⟨δ, S, ρ, s, E, h⟩ => h ρ H .refl s .non .non
theorem s_if {l m : List Stmt} {p : DEnv → Store → Out Bool} (hc : PT X e (tT W Wx p)) (ha : PSs X l (tSt W Wx f)) (hb : PSs X m (tSt W Wx g)) : PS X (.If e l m pos) (tSt W Wx fun δ S => exS δ (p δ S) fun t S1 => if t then f δ S1 else g δ S1) :=
  PS.of (ps_if hc ha hb) fun De σ H ⟨δ, S, ρ, s, E, h⟩ => FlC.next s E h fun v H1 d S1 ρ1 e1 s1 E1 r1 h1 => by
    subst r1
    cases d with
    | true => exact ⟨δ, S1, ρ1, s1, E1, h1⟩
    | false => exact ⟨δ, S1, ρ1, s1, E1, h1⟩
theorem s_unp {tg : Expr} {t : Tg} (hK : X.K = W.K) (he : PE X e (tD W Wx a)) (hg : PG X tg (tgR X.K t)) (hs : swapsWithSole [tg] e pos.line X.env = pure false) (hw : swappedStores [tg] e X.env = pure none) (h1 : (assignEach [tg] X.env).map (·.2) = [assign tg X.env]) :
    PS X (.Assign [tg] e pos) (tSt W Wx fun δ S => exS δ (a δ S) fun d S1 => (liftO S1 (tset t d δ)).bind fun δ' S1 => .ok (.nx δ') S1) :=
  PS.of (ps_asg he hg hs hw h1) fun De σ H ⟨δ, S, ρ, s, E, h⟩ => FlC.next s E h fun v H1 d S1 ρ1 e1 s1 E1 r1 h1 => by
    obtain ⟨δ', hd, h2⟩ := FlC.oO h1
    exact tg_ok hK hd r1 E1 fun σ' E' _ => FlC.nx h2 s1 E'
/-- o[i] = v -/
theorem s_seti {o iex : Expr} {tpos : Pos} {f2 g2 : DEnv → Store → Out D} (ho : PE X o (tD W Wx fun δ S => lift S (getD δ i))) (hi : PE X iex (tD W Wx b)) (he : PE X e (tD W Wx a)) (hs : swapsWithSole [.Subscript o iex tpos] e pos.line X.env = pure false) (hw : swappedStores [.Subscript o iex tpos] e X.env = pure none)
    (hix : ∀ v, assign (.Subscript o iex tpos) X.env v = (do
      let ov ← holding [v] (eval o X.env)
      let iv ← holding [v, ov] (eval iex X.env)
      standAt tpos
      holding [v, ov, iv] (setItem ov iv v)
      release [v, ov, iv] [])) :
    PS X (.Assign [.Subscript o iex tpos] e pos) (tSt W Wx fun δ S => exS δ (a δ S) fun v S1 => (liftO S1 ((getD δ i).bind D.asO)).bind fun n S1 => exS δ (b δ S1) fun y S2 => (setiF n y v S2).bind fun _ S3 => .ok (.nx δ) S3) :=
  PS.of (ps_asg he (pg_sub ho hi set_list hix) hs hw rfl) fun De σ H ⟨δ, S, ρ, s, E, h⟩ => FlC.next s E h fun v H1 d S1 ρ1 e1 s1 E1 r1 h1 => by
    obtain ⟨n, hn, h2⟩ := FlC.oO h1
    rw [Option.bind_eq_some_iff] at hn
    obtain ⟨dn, h3, h4⟩ := hn
    refine ⟨δ, S1, ρ1, s1, E1, ?_⟩
    dsimp only
    rw [h3]
    refine fun ρ2 H2 e2 s2 ov rv => ?_
    obtain ⟨rfl, hlt, hkd⟩ := asO_rep h4 rv
    have h2' : FlC W Wx De ρ2 S1.length H2 (exS δ (b δ S1) fun y S2 => (setiF n y d S2).bind fun _ S3 => .ok (.nx δ) S3) := FlC.from h2 e2
    have hlt' : n < S1.length := hlt
    exact FlC.next s2 (E1.mono e2) h2' fun iv H3 di S3 ρ3 e3 s3 E3 r3 h5 => by
      have hn3 : n < S3.length := Nat.lt_of_lt_of_le hlt' e3.le
      have hk3 : ∃ xs, H3 (ρ3 n) = some (.lst xs) := by rw [e3.agree n hlt']; exact e3.kL n hlt' hkd
      obtain ⟨ds, vs, hc, hp, hv, hr⟩ := cell_at s3 hn3 hk3
      have eρ : ρ2 n = ρ3 n := (e3.agree n hlt').symm
      unfold setiF at h5
      rw [hc] at h5
      cases di with
      | int k =>
        simp only at h5
        cases hj : L2.ixN ds.length k with
        | none => rw [hj] at h5; exact h5.elim
        | some j =>
          rw [hj] at h5
          simp only at h5
          cases r3
          split at h5
          · rename_i hpu
            refine ⟨ρ2 n, vs, k, j, rfl, rfl, by rw [eρ]; exact hv, by rw [← hr.length]; exact hj, ?_⟩
            rw [eρ]
            have rr : RepVs W.K ρ3 S3.length H3 (ds.set j d) (vs.set j v) := RepVs.set ((r1.mono e2).mono e3) hr j
            have := s3.put hn3 hv (ds := ds.set j d) (by
              rw [List.all_eq_true] at hp ⊢
              intro x hx
              rcases List.mem_or_eq_of_mem_set hx with z | z
              · exact hp x z
              · rw [z]; exact hpu) rr
            have eP := Ext.put (ρ := ρ3) (N := S3.length) (ys := vs.set j v) hn3 hv
            exact h5 ρ3 _ (by rw [List.length_set]; exact eP) this σ (by rw [List.length_set]; exact E3.mono eP)
          · exact h5.elim
      | _ => exact h5.elim
theorem asDO_rep {ρ : Rn} {N : Nat} {H : Hp} {K : PySem.W.Frag} {d : D} {v : V} {n : Nat} (h : d.asDO = some n) (r : RepV K ρ N H d v) : v = .ref (ρ n) ∧ n < N ∧ ∃ xs, H (ρ n) = some (.dK xs) := by
  cases r <;> first | (cases h; done) | skip
  rename_i hn hk
  cases h; exact ⟨rfl, hn, hk⟩
theorem putV_pure {y v : D} (hv : v.pure = true) : ∀ {ks vs : List D}, vs.all D.pure = true → (putV ks vs y v).all D.pure = true := by
  intro ks vs h
  unfold putV
  split
  · rw [List.all_eq_true] at h ⊢
    intro x hx
    obtain ⟨i, hi, rfl⟩ := List.mem_iff_getElem.mp hx
    rw [List.getElem_zipWith]
    split
    · exact hv
    · exact h _ (List.getElem_mem _)
  · rw [List.all_append, h]; simp [hv]
theorem putK_pure {y : D} (hy : y.key = true) {ks : List D} (h : ks.all D.pure = true) : (putK ks y).all D.pure = true := by
  unfold putK
  split
  · exact h
  · rw [List.all_append, h]
    cases y <;> first | rfl | (cases hy; done)
/-- d[k] = v -/
theorem s_setd {o iex : Expr} {tpos : Pos} (hu : X.A.units + 1 < cLine) (ho : PE X o (tD W Wx fun δ S => lift S (getD δ i))) (hi : PE X iex (tD W Wx b)) (he : PE X e (tD W Wx a)) (hs : swapsWith e (some (.Subscript o iex tpos)) pos.line X.env = pure false) :
    PS X (.Assign [.Subscript o iex tpos] e pos) (tSt W Wx fun δ S => exS δ (a δ S) fun v S1 => (liftO S1 ((getD δ i).bind D.asDO)).bind fun n S1 => exS δ (b δ S1) fun y S2 => (setdF n y v S2).bind fun _ S3 => .ok (.nx δ) S3) :=
  PS.of (ps_dput hu ho hi he hs) fun De σ H ⟨δ, S, ρ, s, E, h⟩ => FlC.next s E h fun v H1 d S1 ρ1 e1 s1 E1 r1 h1 => by
    obtain ⟨n, hn, h2⟩ := FlC.oO h1
    rw [Option.bind_eq_some_iff] at hn
    obtain ⟨dn, h3, h4⟩ := hn
    refine ⟨δ, S1, ρ1, s1, E1, ?_⟩
    dsimp only
    rw [h3]
    refine fun ρ2 H2 e2 s2 ov rv => ?_
    obtain ⟨rfl, hlt, hkd⟩ := asDO_rep h4 rv
    have h2' : FlC W Wx De ρ2 S1.length H2 (exS δ (b δ S1) fun y S2 => (setdF n y d S2).bind fun _ S3 => .ok (.nx δ) S3) := FlC.from h2 e2
    have hlt' : n < S1.length := hlt
    exact FlC.next s2 (E1.mono e2) h2' fun iv H3 di S3 ρ3 e3 s3 E3 r3 h5 => by
      have hn3 : n < S3.length := Nat.lt_of_lt_of_le hlt' e3.le
      have hk3 : ∃ xs, H3 (ρ3 n) = some (.dK xs) := by rw [e3.agree n hlt']; exact e3.kD n hlt' hkd
      obtain ⟨ks, vs, hc⟩ := s3.dicAt hn3 hk3
      obtain ⟨hp, kvs, hv, hr, ht⟩ := s3.dict hc
      have eρ : ρ2 n = ρ3 n := (e3.agree n hlt').symm
      unfold setdF at h5
      rw [hc] at h5
      simp only at h5
      split at h5
      · rename_i hz
        simp only [Bool.and_eq_true, decide_eq_true_eq] at hz hp
        obtain ⟨⟨z1, z2⟩, z3⟩ := hz
        obtain ⟨k, rfl⟩ := key_rep r3 z1
        have rd : RepV W.K ρ3 S3.length H3 d v := (r1.mono e2).mono e3
        have rr := RepK.put r3 rd ⟨hr, ht⟩
        have hl : kvs.length < sizeLine := by
          have := hr.length
          rw [List.length_map] at this
          omega
        have := s3.putD hn3 hv (ks := putK ks di) (vs := putV ks vs di d) (by rw [putK_pure z1 hp.1, putV_pure z2 hp.2]; rfl) rr.1 rr.2
        have eP := Ext.putD (ρ := ρ3) (N := S3.length) (ys := L2.putK kvs k v) hn3 hv
        refine ⟨ρ2 n, _, rfl, DPut.k (by rw [eρ]; exact hv) hl, ?_⟩
        rw [eρ]
        exact h5 ρ3 _ (by rw [List.length_set]; exact eP) this σ (by rw [List.length_set]; exact E3.mono eP)
      · exact h5.elim
theorem tA2 {l : DEnv → Store → Out (List D)} {g2 : DEnv → D → D → Store → Out Fl} {De : Ends} {σ : L2.St} {H : Hp} (h : tSt W Wx (fun δ S => exS δ (a δ S) fun x S1 => exS δ (b δ S1) fun y S2 => g2 δ x y S2) De σ H) {Q : List V → Hp → Prop}
    (k : ∀ δ S ρ H1 x y v w, RepS W ρ S H1 → RepE W.K ρ S.length H1 δ σ → RepV W.K ρ S.length H1 x v → RepV W.K ρ S.length H1 y w → FlC W Wx De ρ S.length H1 (g2 δ x y S) → Q [v, w] H1) :
    tA W Wx (fun δ S => (a δ S).bind fun x S1 => (b δ S1).bind fun y S2 => .ok [x, y] S2) σ H Q := by
  obtain ⟨δ, S, ρ, s, E, h⟩ := h
  refine ⟨δ, S, ρ, s, E, ?_⟩
  dsimp only at h ⊢
  cases ha : a δ S with
  | bad => rw [ha] at h; exact h.elim
  | exc x S1 => rw [ha] at h; exact fun ρ1 H1 e1 s1 => h ρ1 H1 e1 s1 σ (E.mono e1)
  | ok dx S1 =>
    simp only [ha, exS_ok, Out.bind_ok] at h ⊢
    cases hb : b δ S1 with
    | bad => rw [hb] at h; exact h.elim
    | exc x S1 => rw [hb] at h; exact fun ρ1 H1 e1 s1 => h ρ1 H1 e1 s1 σ (E.mono e1)
    | ok dy S2 =>
      simp only [hb, exS_ok, Out.bind_ok] at h ⊢
      intro ρ1 H1 e1 s1 vs hv
      obtain ⟨v, w, rfl, rv, rw_⟩ := RepVs.two hv
      exact k δ S2 ρ1 H1 dx dy v w s1 (E.mono e1) rv rw_ (FlC.from h e1)
theorem s_par2 {y : Str} {px py pt : Pos} {kt k2 pt2} (hc : X.calm = true) (hN : X.N.Nodup) (hi : X.N[i]? = some x) (hj : X.N[j]? = some y) (hij : i ≠ j) (hx : X.env.scope.names.lookup x = some .local) (hy : X.env.scope.names.lookup y = some .local)
    (ha : PA X [e, e2] (tA W Wx fun δ S => (a δ S).bind fun x S1 => (b δ S1).bind fun y S2 => .ok [x, y] S2)) (hw : swappedStores [.Tuple [.Name x px, .Name y py] kt pt] (.Tuple [e, e2] k2 pt2) X.env = pure (some [x, y])) :
    PS X (.Assign [.Tuple [.Name x px, .Name y py] kt pt] (.Tuple [e, e2] k2 pt2) pos) (tSt W Wx fun δ S => exS δ (a δ S) fun x S1 => exS δ (b δ S1) fun y S2 => .ok (.nx ((δ.set i (some x)).set j (some y))) S2) :=
  PS.of (ps_par hc hN hi hj hij hx hy ha hw) fun De σ H h => tA2 (l := fun _ S => .ok [] S) (g2 := fun δ x y S2 => .ok (.nx ((δ.set i (some x)).set j (some y))) S2) h fun δ S ρ H1 x y v w s E rv rw_ h1 => ⟨v, w, rfl, FlC.nx h1 s ((E.set i rv).set j rw_)⟩
theorem s_par3 {y z : Str} {px py pz pt : Pos} {kt k2 pt2} (hc : X.calm = true) (hN : X.N.Nodup) (hi : X.N[i]? = some x) (hj : X.N[j]? = some y) (hk : X.N[k]? = some z) (hij : i ≠ j) (hik : i ≠ k) (hjk : j ≠ k) (hx : X.env.scope.names.lookup x = some .local) (hy : X.env.scope.names.lookup y = some .local) (hz : X.env.scope.names.lookup z = some .local)
    (ha : PA X [e, e2, e3] (tA W Wx fun δ S => (a δ S).bind fun x S1 => (b δ S1).bind fun y S2 => (c δ S2).bind fun z S3 => .ok [x, y, z] S3)) (hw : swappedStores [.Tuple [.Name x px, .Name y py, .Name z pz] kt pt] (.Tuple [e, e2, e3] k2 pt2) X.env = pure (some [x, y, z])) :
    PS X (.Assign [.Tuple [.Name x px, .Name y py, .Name z pz] kt pt] (.Tuple [e, e2, e3] k2 pt2) pos) (tSt W Wx fun δ S => exS δ (a δ S) fun x S1 => exS δ (b δ S1) fun y S2 => exS δ (c δ S2) fun z S3 => .ok (.nx (((δ.set i (some x)).set j (some y)).set k (some z))) S3) := by
  refine PS.of (ps_par3 hc hN hi hj hk hij hik hjk hx hy hz ha hw) fun De σ H ⟨δ, S, ρ, s, E, h⟩ => ?_
  refine ⟨δ, S, ρ, s, E, ?_⟩
  dsimp only at h ⊢
  cases ha : a δ S with
  | bad => rw [ha] at h; exact h.elim
  | exc x S1 => rw [ha] at h; exact fun ρ1 H1 e1 s1 => h ρ1 H1 e1 s1 σ (E.mono e1)
  | ok dx S1 =>
    simp only [ha, exS_ok, Out.bind_ok] at h ⊢
    cases hb : b δ S1 with
    | bad => rw [hb] at h; exact h.elim
    | exc x S1 => rw [hb] at h; exact fun ρ1 H1 e1 s1 => h ρ1 H1 e1 s1 σ (E.mono e1)
    | ok dy S2 =>
      simp only [hb, exS_ok, Out.bind_ok] at h ⊢
      cases hc : c δ S2 with
      | bad => rw [hc] at h; exact h.elim
      | exc x S1 => rw [hc] at h; exact fun ρ1 H1 e1 s1 => h ρ1 H1 e1 s1 σ (E.mono e1)
      | ok dz S3 =>
        simp only [hc, exS_ok, Out.bind_ok] at h ⊢
        intro ρ1 H1 e1 s1 vs hv
        cases hv with
        | cons r1 t1 =>
          obtain ⟨v, w, rfl, rv, rw_⟩ := RepVs.two t1
          exact ⟨_, v, w, rfl, h ρ1 H1 e1 s1 _ ((((E.mono e1).set i r1).set j rv).set k rw_)⟩
theorem aug_ip {o : BinO} {op : Operator} (h : opOk o op = true) : PIp X op (rP W (augF o)) := by
  intro pins s σ H xx y v u Q I r1 r2 hq
  obtain ⟨dx, dy, ρ, S, d, hS, hx, hy, e, q⟩ := hq
  unfold augF at e
  split at e
  · unfold opOk at h
    split at h <;> first | (cases h; done) | skip
    all_goals first | (rename_i hh; cases hh; done) | skip
    cases e; cases hx; cases hy
    exact iop_add pins s σ H _ _ v u Q I r1 r2 ⟨_, _, rfl, rfl, q.here hS (.int _)⟩
  · split at e
    · rename_i aa bb hz
      unfold opOk at h
      split at h <;> first | (cases h; done) | skip
      all_goals first | (rename_i hh; cases hh; done) | skip
      cases e
      cases hx with | str _ ha => cases hy with | str _ hb =>
      refine iop_add_str pins s σ H _ _ v u Q I r1 r2 ⟨_, _, rfl, rfl, ?_, ?_⟩
      · simpa [Str.length] using hz
      · rw [app_str]
        exact q.here hS (.str _ ⟨by rw [List.length_append]; exact hz, all_app ha.2 hb.2⟩)
    · cases e
  · unfold opOk at h
    split at h <;> first | (cases h; done) | skip
    all_goals first | (rename_i hh; cases hh; done) | skip
    cases e; cases hx; cases hy
    exact iop_sub pins s σ H _ _ v u Q I r1 r2 ⟨_, _, rfl, rfl, q.here hS (.int _)⟩
  · cases e
theorem s_aug {o : BinO} {op : Operator} {pos' : Pos} (ho : opOk o op = true) (hN : X.N.Nodup) (hi : X.N[i]? = some x) (hx : Loc X.env.scope x) (he : PE X e (tD W Wx a)) (hf : X.fn x = true ∨ X.env.scope.names.lookup x = some .local) :
    PS X (.AugAssign (.Name x pos') op e pos) (tSt W Wx fun δ S => (liftO S (getD δ i)).bind fun x S => exS δ (a δ S) fun y S1 => (liftO S1 (augF o x y S1)).bind fun z S2 => .ok (.nx (δ.set i (some z))) S2) := by
  refine PS.of (ps_aug hN hi hx he (aug_ip (W := W) ho) hf) fun De σ H ⟨δ, S, ρ, s, E, h⟩ => ?_
  obtain ⟨dx, hdx, h1⟩ := FlC.oO h
  unfold getD at hdx
  split at hdx
  · rename_i d' hd'
    cases hdx
    obtain ⟨v, ev, r⟩ := E.at_ i dx hd'
    refine ⟨v, ev, FlC.next s E h1 fun w H1 d S1 ρ1 e1 s1 E1 r1 h2 => ?_⟩
    obtain ⟨z, hz, h3⟩ := FlC.oO h2
    exact ⟨dx, d, ρ1, S1, z, s1, r.mono e1, r1, hz, fun H' zz ez sz rz => h3 ρ1 H' ez sz _ ((E1.mono ez).set i rz)⟩
  · cases hdx
theorem s_while {body : List Stmt} {p : DEnv → Store → Out Bool} (hp : PassesOwn (model X.prog X.w) X.A X.env X.xe) (hc : PT X e (tT W Wx p)) (hb : PSs X body (tSt W Wx f)) : PS X (.While e body [] pos) (tSt W Wx fun δ S => whileF p f manyT δ S) := by
  refine PS.of (ps_while hp hc hb) fun De σ H ⟨δ, S, ρ, s, E, h⟩ => ?_
  refine ⟨fun m σ H => ∃ δ S ρ, RepS W ρ S H ∧ RepE W.K ρ S.length H δ σ ∧ FlC W Wx De ρ S.length H (whileF p f m δ S), ⟨manyT, δ, S, ρ, s, E, h⟩, fun m σ H ⟨δ, S, ρ, s, E, h⟩ => ?_⟩
  cases m with
  | zero => exact h.elim
  | succ m =>
    refine FlC.next s E h fun t H1 d S1 ρ1 e1 s1 E1 r1 h1 => ?_
    subst r1
    cases d with
    | true =>
      refine ⟨fun σ' H' => ∃ δ S ρ, RepS W ρ S H' ∧ RepE W.K ρ S.length H' δ σ' ∧ FlC W Wx De ρ S.length H' (whileF p f m δ S), fun σ' H' h => ⟨m, Nat.lt_succ_self _, h⟩, δ, S1, ρ1, s1, E1, FlC.turn h1 fun δ2 S2 ρ2 H2 σ2 e2 s2 E2 h2 => ⟨δ2, S2, ρ2, s2, E2, h2⟩⟩
    | false => exact FlC.nx h1 s1 E1
theorem s_for {iter tg : Expr} {body : List Stmt} {src : DEnv → Store → Out Src} {t : Tg} (hK : X.K = W.K) (hp : PassesOwn (model X.prog X.w) X.A X.env X.xe) (hc : X.calm = true) (hi : PI X tg iter (iI W Wx src)) (hg : PG X tg (tgR X.K t)) (hb : PSs X body (tSt W Wx f))
    (hs : ∀ x, foldedSetIterable iter X.env x = pure x) :
    PS X (.For tg iter body [] pos) (tSt W Wx fun δ S => exS δ (src δ S) fun sr S1 => match sr with
      | .st ds => forL (fun x δ S => (liftO S (tset t x δ)).bind fun δ' S => f δ' S) ds δ S1
      | .lv n => forV n (fun x δ S => (liftO S (tset t x δ)).bind fun δ' S => f δ' S) manyT 0 δ S1) := by
  refine PS.of (ps_for hp hc hi hg hb hs) fun De σ H ⟨δ, S, ρ, s, E, h⟩ => ?_
  refine FlC.next s E h fun J H1 sr S1 ρ1 e1 s1 E1 r1 h1 => ?_
  have body_ok : ∀ {d : D} {x : V} {δ : DEnv} {σ : L2.St} {ρ : Rn} {S : Store} {H : Hp} {k : DEnv → Store → Out Fl} {Nx : L2.St → Hp → Prop}, RepS W ρ S H → RepE W.K ρ S.length H δ σ → RepV W.K ρ S.length H d x → FlC W Wx De ρ S.length H (turnF ((liftO S (tset t d δ)).bind fun δ' S => f δ' S) k) →
      (∀ δ1 S1 ρ1 H1 σ1, Ext ρ S.length H ρ1 S1.length H1 → RepS W ρ1 S1 H1 → RepE W.K ρ1 S1.length H1 δ1 σ1 → FlC W Wx De ρ1 S1.length H1 (k δ1 S1) → Nx σ1 H1) → tgR X.K t x σ H fun σ2 H2 => tSt W Wx f { De with nx := Nx, ct := Nx, bk := De.nx } σ2 H2 := by
    intro d x δ σ ρ S H k Nx hS hE hr hF hk
    cases hts : tset t d δ with
    | none => rw [hts] at hF; exact hF.elim
    | some δ' =>
      rw [hts] at hF
      exact tg_ok hK hts hr hE fun σ' E' _ => ⟨δ', S, ρ, hS, E', FlC.turn hF hk⟩
  cases sr with
  | st ds =>
    have hJ : Itm W ρ1 S1.length H1 ds J := r1
    refine ⟨fun i m σ H => m + i = ds.length ∧ ∃ δ S ρ, RepS W ρ S H ∧ RepE W.K ρ S.length H δ σ ∧ Ext ρ1 S1.length H1 ρ S.length H ∧ FlC W Wx De ρ S.length H (forL (fun x δ S => (liftO S (tset t x δ)).bind fun δ' S => f δ' S) (ds.drop i) δ S), ⟨ds.length, rfl, δ, S1, ρ1, s1, E1, .refl, h1⟩, fun i m σ H ⟨hm, δ, S, ρ, hS, hE, hX, hF⟩ => ?_⟩
    by_cases hi : i < ds.length
    · right
      refine ⟨hJ.go _ _ _ _ hX hi, fun σ' H' => ∃ m', m' < m ∧ m' + (i + 1) = ds.length ∧ ∃ δ S ρ, RepS W ρ S H' ∧ RepE W.K ρ S.length H' δ σ' ∧ Ext ρ1 S1.length H1 ρ S.length H' ∧ FlC W Wx De ρ S.length H' (forL (fun x δ S => (liftO S (tset t x δ)).bind fun δ' S => f δ' S) (ds.drop (i + 1)) δ S), fun σ' H' ⟨m', h1, h2, h3⟩ => ⟨m', h1, h2, h3⟩, fun x H' hy => ?_⟩
      obtain ⟨d, hd, yd⟩ := hJ.yld _ _ _ _ _ _ hX hi hy
      obtain ⟨R2, eY, sY, kY⟩ := yd.to fun r => RepVs.mono hX r
      have hdrop : ds.drop i = d :: ds.drop (i + 1) := by
        rw [List.drop_eq_getElem_cons hi]
        congr 1
        rw [List.getElem?_eq_getElem hi] at hd
        exact Option.some.inj hd
      rw [hdrop] at hF
      exact body_ok (sY _ hS) (hE.mono eY) R2 (FlC.from hF eY) fun δ2 S2 ρ2 H2 σ2 e2 s2 E2 h2 => ⟨m - 1, by omega, by omega, δ2, S2, ρ2, s2, E2, (hX.trans eY).trans e2, h2⟩
    · left
      have hi' : i = ds.length := by omega
      subst hi'
      rw [List.drop_length] at hF
      exact ⟨hJ.stop _ _ _ hX, FlC.nx hF hS hE⟩
  | lv n =>
    obtain ⟨hn, hJ⟩ : n < S1.length ∧ J = Itl W.K (ρ1 n) := r1
    subst hJ
    refine ⟨fun i m σ H => ∃ δ S ρ, RepS W ρ S H ∧ RepE W.K ρ S.length H δ σ ∧ Ext ρ1 S1.length H1 ρ S.length H ∧ FlC W Wx De ρ S.length H (forV n (fun x δ S => (liftO S (tset t x δ)).bind fun δ' S => f δ' S) m i δ S), ⟨manyT, δ, S1, ρ1, s1, E1, .refl, h1⟩, fun i m σ H ⟨δ, S, ρ, hS, hE, hX, hF⟩ => ?_⟩
    cases m with
    | zero => exact hF.elim
    | succ m =>
      have eρ : ρ n = ρ1 n := hX.agree n hn
      unfold forV at hF
      obtain ⟨ds, hc⟩ : ∃ ds, S[n]? = some (.lst ds) := by
        cases hq : S[n]? with
        | none => rw [hq] at hF; exact hF.elim
        | some c =>
          rw [hq] at hF
          cases c with
          | lst ds => exact ⟨ds, rfl⟩
          | dic _ _ => exact hF.elim
          | st _ => exact hF.elim
      obtain ⟨hp, vs, hv, hr⟩ := hS.list hc
      rw [eρ] at hv
      rw [hc] at hF
      simp only at hF
      cases hd : ds[i]? with
      | none =>
        rw [hd] at hF
        left
        refine ⟨⟨vs, SqL.of hv, ?_⟩, FlC.nx hF hS hE⟩
        rw [← hr.length]
        exact List.getElem?_eq_none_iff.mp hd
      | some d =>
        rw [hd] at hF
        simp only at hF
        right
        obtain ⟨v, hvi, rv⟩ := hr.get hd
        refine ⟨⟨vs, v, SqL.of hv, hvi⟩, fun σ' H' => ∃ δ S ρ, RepS W ρ S H' ∧ RepE W.K ρ S.length H' δ σ' ∧ Ext ρ1 S1.length H1 ρ S.length H' ∧ FlC W Wx De ρ S.length H' (forV n (fun x δ S => (liftO S (tset t x δ)).bind fun δ' S => f δ' S) m (i + 1) δ S), fun σ' H' h => ⟨m, Nat.lt_succ_self _, h⟩, fun x H' hy => ?_⟩
        obtain ⟨rfl, hy2⟩ := hy
        have := hy2 vs (SqL.of hv)
        rw [hvi] at this
        cases this
        exact body_ok hS hE rv hF fun δ2 S2 ρ2 H2 σ2 e2 s2 E2 h2 => ⟨δ2, S2, ρ2, s2, E2, hX.trans e2, h2⟩
end
section
variable {X : Cx} {W : Wd} {Wx : WX} {f : DEnv → Store → Out Fl} {pos : Pos}
theorem s_raise {c : String} {m : Str} {j : Nat} {p p2 pos' : Pos} (hK : X.K = W.K) (hmg : X.mg = W.mg) (hc : X.calm = true) (tk : L2N.Takes X Wx) (hx : ExcAt W c) (hg : Gl X (Str.ofString c)) (hdb : (Str.ofString c == ("__debug__" : Str)) = false) :
    PS X (.Raise (some (.Call (.Name (Str.ofString c) p) [.Constant (.str m) j p2] [] pos')) none pos) (tSt W Wx fun δ S => .ok (.ex c δ) S) := by
  obtain ⟨C, h1, h2, h3, h4, h5, h6⟩ := hx
  rw [← hmg] at h1
  rw [← hK] at h3 h4 h5 h6
  refine PS.of (L2N.ps_raise hc tk (L2N.pmk_own PySem.F.excBase_ValueError h3 h1 h4 (raises_own h5 h6) hg hdb)) fun De σ H ⟨δ, S, ρ, s, e, h⟩ => ?_
  have := h ρ H .refl s σ e
  rw [h2] at this
  exact this
/-- what is asked of the suite that tells the word -/
def tWd (W : Wd) (wn : Str) (i : Nat) (a : Addr) (cls : Value) (d : Option Addr) : TS := fun De σ H =>
  ∃ (D : Addr) (k : Wk) (wd : Str) (σ0 : L2.St), cls = .ref D ∧ d = none ∧ WordAt W k wn D wd ∧ σ = σ0.set i (some (.ref a)) ∧ ∀ H', Grow W H H' → De.rt (.str wd) H'
theorem s_tryW {c wn : String} {i k : Nat} {n : Str} {body : List Stmt} {xd : XD} {np q q2 pr p2 pos' : Pos} (hP : X.prog = W.P) (hw : X.w = W.w) (hK : X.K = W.K) (hmg : X.mg = W.mg) (hbase : X.base = W.base) (hr : Room (k + 1) X.A)
    (hs : X.stack = X.env :: X.outer) (hf : X.env.frame = some X.env.locals) (hN : X.N.Nodup) (hi : X.N[i]? = some n) (hln : X.env.scope.names.lookup n = some .local) (tk : L2N.Takes X Wx) (ho : XdOk W xd) (ewn : wn = xd.wn)
    (gc : Gl X (Str.ofString c)) (dc : (Str.ofString c == ("__debug__" : Str)) = false) (gw : Gl X (Str.ofString wn)) (dw : (Str.ofString wn == ("__debug__" : Str)) = false) (dn : okW n = true)
    (hb : ∀ (W' : WX) (pn : List (Addr × Obj)) (xe : Value → Shared → Prop), L2N.Takes (X.tr pn xe) W' → PassesOwn (model X.prog X.w) X.A X.env xe → PSs (X.tr pn xe) body (tSt W W' f)) (hm : X.mg (Str.ofString c) = some (W.cls c)) :
    PS X (.Try body [.ExceptHandler (some (.Name (Str.ofString c) np)) (some n) [.Return (some (.Call (.Name (Str.ofString wn) q) [.Name n q2] [] pr)) p2] pos'] [] [] pos)
      (tSt W Wx fun δ S => catchF (fun x => xd.sub x c) (fun x S => liftW S (xd.word x)) (f δ S)) := by
  · have kx : X.env.kindOf n = some .local := hln
    refine PS.of (L2N.ps_try_as (ts := tWd W (Str.ofString wn) i) hs hf hN hi kx ⟨gc, dc, .inl hm⟩ tk hb fun a oe cls d pn hz hfl => ⟨fun pins s σ H De I h => ?_⟩) fun De σ H ⟨δ, S, ρ, s, e, h⟩ => ⟨δ, S, ρ, s, e, ?_⟩
    · obtain ⟨D, kk, wd, σ0, rfl, rfl, wa, rfl, h⟩ := h
      obtain ⟨vs, hv⟩ := hfl
      have hl : i < σ0.length := by
        have e1 := I.len
        rw [List.length_set] at e1
        rw [e1]
        exact (List.getElem?_eq_some_iff.mp hi).1
      have hr' : L2H.RoomH (k + 1) (X.suite a ((a, oe) :: pn)).A := ⟨hr.dp, hr.un⟩
      have pw := pe_word (X := X.suite a ((a, oe) :: pn)) (p := (a, oe)) (q := q) (q2 := q2) (pos := pr) (n := n) (i := i) wa hP hw hK hmg hbase hr' ⟨rfl, vs, hv, hz.2.2 vs hv⟩ List.mem_cons_self hz.zc ⟨vs, hv⟩ gw dw hi (.inl hln) dn
      exact (pss_one (ps_ret (pos := p2) pw)).run pins s _ H De I ⟨List.getElem?_set_self hl, h⟩
    · show FlC W _ De ρ S.length H (f δ S)
      have h : FlC W Wx De ρ S.length H (catchF (fun x => xd.sub x c) (fun x S => liftW S (xd.word x)) (f δ S)) := h
      cases hq : f δ S with
      | bad => rw [hq] at h; exact h.elim
      | exc _ _ => rw [hq] at h; exact h.elim
      | ok fl S1 =>
        rw [hq] at h
        cases fl with
        | nx _ => exact h
        | rt _ => exact h
        | bk _ => exact h
        | ct _ => exact h
        | ex x δ1 =>
          have h' : FlC W Wx De ρ S.length H (match xd.sub x c with | some true => liftW S1 (xd.word x) | some false => .ok (.ex x δ1) S1 | none => .bad) := h
          intro ρ1 H1 e1 s1 σ1 E1
          cases hb : xd.sub x c with
          | none => rw [hb] at h'; exact h'.elim
          | some b =>
            rw [hb] at h'
            have hx := ho.sub _ _ _ hb
            rw [← hK] at hx
            refine ⟨b, hx, fun hbt a ha => ?_, fun hbf => ?_⟩
            · subst hbt
              cases hw : xd.word x with
              | none => rw [hw] at h'; exact h'.elim
              | some wd =>
                rw [hw] at h'
                obtain ⟨hsz, D, kk, hD, wa⟩ := ho.word _ _ hw
                refine ⟨D, kk, ⟨wd.toArray⟩, σ1, hD, rfl, by rw [ewn]; exact wa, rfl, fun H' hg => ?_⟩
                obtain ⟨s2, e2⟩ := hg ρ1 S1 s1
                exact (show FlC W Wx De ρ S.length H (.ok (.rt (.str wd)) S1) from h') ρ1 H' (e1.trans e2) s2 _ (.str wd hsz)
            · subst hbf
              exact h' ρ1 H1 e1 s1 σ1 E1
end
end PD

set_option Elab.async false
set_option linter.all false
set_option maxRecDepth 100000
namespace PD
open PySem PySem.Spec PyProof.Rows L2

def xAsg : Stmt → Option (Expr × Expr × Pos)
  | .Assign [t] v p => some (t, v, p)
  | _ => none
theorem xAsg_eq {s : Stmt} {t v : Expr} {p : Pos} (h : xAsg s = some (t, v, p)) : s = .Assign [t] v p := by
  unfold xAsg at h; split at h
  · cases h; rfl
  · cases h
def xAug : Stmt → Option (Expr × Operator × Expr)
  | .AugAssign t o v _ => some (t, o, v)
  | _ => none
theorem xAug_eq {s : Stmt} {t v : Expr} {o : Operator} (h : xAug s = some (t, o, v)) : ∃ p, s = .AugAssign t o v p := by
  unfold xAug at h; split at h
  · cases h; exact ⟨_, rfl⟩
  · cases h
def xExp : Stmt → Option Expr
  | .Expr v _ => some v
  | _ => none
theorem xExp_eq {s : Stmt} {v : Expr} (h : xExp s = some v) : ∃ p, s = .Expr v p := by
  unfold xExp at h; split at h
  · cases h; exact ⟨_, rfl⟩
  · cases h
def xRet : Stmt → Option (Option Expr)
  | .Return v _ => some v
  | _ => none
theorem xRet_eq {s : Stmt} {v : Option Expr} (h : xRet s = some v) : ∃ p, s = .Return v p := by
  unfold xRet at h; split at h
  · cases h; exact ⟨_, rfl⟩
  · cases h
def xIfS : Stmt → Option (Expr × List Stmt × List Stmt)
  | .If c a b _ => some (c, a, b)
  | _ => none
theorem xIfS_eq {s : Stmt} {c : Expr} {a b : List Stmt} (h : xIfS s = some (c, a, b)) : ∃ p, s = .If c a b p := by
  unfold xIfS at h; split at h
  · cases h; exact ⟨_, rfl⟩
  · cases h
def xFor : Stmt → Option (Expr × Expr × List Stmt)
  | .For t i b [] _ => some (t, i, b)
  | _ => none
theorem xFor_eq {s : Stmt} {t i : Expr} {b : List Stmt} (h : xFor s = some (t, i, b)) : ∃ p, s = .For t i b [] p := by
  unfold xFor at h; split at h
  · cases h; exact ⟨_, rfl⟩
  · cases h
def xWhl : Stmt → Option (Expr × List Stmt)
  | .While c b [] _ => some (c, b)
  | _ => none
theorem xWhl_eq {s : Stmt} {c : Expr} {b : List Stmt} (h : xWhl s = some (c, b)) : ∃ p, s = .While c b [] p := by
  unfold xWhl at h; split at h
  · cases h; exact ⟨_, rfl⟩
  · cases h
def xRaise : Stmt → Option Str
  | .Raise (some (.Call (.Name x _) [.Constant (.str _) _ _] [] _)) none _ => some x
  | _ => none
theorem xRaise_eq {s : Stmt} {x : Str} (h : xRaise s = some x) : ∃ m j p p2 p3 p4, s = .Raise (some (.Call (.Name x p) [.Constant (.str m) j p2] [] p3)) none p4 := by
  unfold xRaise at h; split at h
  · cases h; exact ⟨_, _, _, _, _, _, rfl⟩
  · cases h
/-- try: body, except c as n: return w(n2) -/
def xTryW : Stmt → Option (List Stmt × Str × Str × Str × Str)
  | .Try b [.ExceptHandler (some (.Name c _)) (some n) [.Return (some (.Call (.Name w _) [.Name n2 _] [] _)) _] _] [] [] _ => some (b, c, n, w, n2)
  | _ => none
theorem xTryW_eq {s : Stmt} {b : List Stmt} {c n w n2 : Str} (h : xTryW s = some (b, c, n, w, n2)) : ∃ p1 p2 p3 p4 p5 p6 p7, s = .Try b [.ExceptHandler (some (.Name c p1)) (some n) [.Return (some (.Call (.Name w p2) [.Name n2 p3] [] p4)) p5] p6] [] [] p7 := by
  unfold xTryW at h; split at h
  · cases h; exact ⟨_, _, _, _, _, _, _, rfl⟩
  · cases h
def xSmall : Stmt → Nat
  | .Pass _ => 1
  | .Break _ => 2
  | .Continue _ => 3
  | .Expr (.Constant (.str _) _ _) _ => 4
  | _ => 0
def notComp : Expr → Bool
  | .ListComp _ _ _ _ => false
  | .SetComp _ _ _ _ => false
  | .DictComp _ _ _ _ _ => false
  | _ => true
theorem sw_of {e : Expr} (h : notComp e = true) (t : Option Expr) (l : Nat) (env : Env) : swapsWith e t l env = pure false := by
  cases e <;> first | (cases h; done) | rfl
/-- what swappedStores says, by the scope -/
def swPure (sc : Scope) (tg value : Expr) : Option (Option (List Str)) := match tg, value with
  | .Tuple ts _ _, .Tuple vs _ _ =>
    if (!(ts.length == 2 || ts.length == 3) || vs.length != ts.length) = true then some none
    else if (!(vs.all notStar)) = true then none
    else
      let line := (ts.head?.map (·.pos.line)).getD 0
      let names := ts.filterMap fun
        | .Name id pos => if sc.names.lookup id == some .local && pos.line == line then some id else none
        | _ => none
      if (names.length != ts.length || names.eraseDups.length != names.length) = true then some none
      else if vs.all (foldedForSure 8) = true then some none
      else if vs.all (constantsAlone 8) = true then none
      else some (some names)
  | .Tuple _ _ _, v => if isTup v = true then none else some none
  | _, _ => none
theorem blk_fn {env : Env} (hk : env.scope.kind = .function) : env.blockKind = .function := by
  unfold Env.blockKind
  rw [hk]; rfl
theorem swPure_ok {sc : Scope} {tg v : Expr} {r : Option (List Str)} {env : Env} (hs : env.scope = sc) (hk : sc.kind = .function) (h : swPure sc tg v = some r) : swappedStores [tg] v env = pure r := by
  unfold swPure at h
  split at h
  · rename_i ts k1 p1 vs k2 p2
    have bk : (env.blockKind != .function) = false := by rw [blk_fn (by rw [hs]; exact hk)]; rfl
    have st : ∀ {z : Expr}, notStar z = true → (match z with | .Starred .. => true | _ => false) = false := by
      intro z hz; cases z <;> first | (cases hz; done) | rfl
    have eN : (ts.filterMap fun | .Name id pos => if env.kindOf id == some .local && pos.line == (ts.head?.map (·.pos.line)).getD 0 then some id else none | _ => none) =
        (ts.filterMap fun | .Name id pos => if sc.names.lookup id == some .local && pos.line == (ts.head?.map (·.pos.line)).getD 0 then some id else none | _ => none) := by
      subst hs; rfl
    unfold swappedStores
    simp only [bk, Bool.or_false]
    split at h
    · rename_i hc
      cases h
      rw [if_pos hc]
    · rename_i hc
      rw [if_neg hc]
      split at h
      · cases h
      · rename_i hst
        have hst' : vs.all notStar = true := by simpa using hst
        have an : (vs.any fun | .Starred .. => true | _ => false) = false := by
          rw [List.any_eq_false]
          intro z hz
          rw [st (List.all_eq_true.mp hst' z hz)]
          exact Bool.false_ne_true
        refine (if_neg (fun hh => by have hh' := an.symm.trans hh; cases hh')).trans ?_
        dsimp only at h
        generalize hN : (ts.filterMap fun | .Name id pos => if sc.names.lookup id == some .local && pos.line == (ts.head?.map (·.pos.line)).getD 0 then some id else none | _ => none) = NN at h eN
        have eN' : (ts.filterMap fun | .Name id pos => if env.kindOf id == some .local && pos.line == (ts.head?.map (·.pos.line)).getD 0 then some id else none | _ => none) = NN := eN
        have main : (if (NN.length != ts.length || NN.eraseDups.length != NN.length) = true then (pure none : Sem (Option (List Str)))
            else if vs.all (foldedForSure 8) = true then pure none
            else if vs.all (constantsAlone 8) = true then (do unsupported "assign.tuple-of-constant-expressions:order-of-the-stores"; pure (some NN)) else pure (some NN)) = pure r := by
          split at h
          · rename_i hn; cases h; rw [if_pos hn]
          · rename_i hn
            rw [if_neg hn]
            split at h
            · rename_i hf; cases h; rw [if_pos hf]
            · rename_i hf
              rw [if_neg hf]
              split at h
              · cases h
              · rename_i hca; cases h; rw [if_neg hca]
        rw [← eN'] at main
        exact main
  · rename_i ts k p hv
    split at h
    · cases h
    · rename_i hi
      cases h
      cases v <;> first | (exact absurd rfl hi) | rfl
  · cases h
/-- swapsWith of a comprehension into a name: not, or so -/
def swF (sc : Scope) (tg v : Expr) : Bool := match tg, v with
  | .Name t tp, .ListComp _ _ s vp => !(sc.names.lookup t == some .local && tp.line == vp.line && !(s.names.any fun (n, k) => n == t && (k == .local || k == .cell)))
  | _, _ => false
theorem swF_ok {sc : Scope} {tg v : Expr} {l : Nat} {env : Env} (hs : env.scope = sc) (h : swF sc tg v = true) : swapsWith v (some tg) l env = pure false := by
  unfold swF at h
  split at h
  · rename_i t tp el gs s vp
    have e : env.kindOf t = sc.names.lookup t := by unfold Env.kindOf; rw [hs]
    show (pure (env.blockKind == .function && env.kindOf t == some .local && tp.line == vp.line && !(s.names.any fun (n, k) => n == t && (k == .local || k == .cell))) : Sem Bool) = pure false
    rw [e, Bool.and_assoc, Bool.and_assoc]
    rw [Bool.not_eq_true', Bool.and_assoc] at h
    rw [h, Bool.and_false]
  · cases h
def swT (sc : Scope) (tg v : Expr) : Bool := match tg, v with
  | .Name t tp, .ListComp _ _ s vp => (sc.names.lookup t == some .local && tp.line == vp.line && !(s.names.any fun (n, k) => n == t && (k == .local || k == .cell)))
  | _, _ => false
def kindF (sc : Scope) : Bool := match sc.kind with
  | .function => true
  | _ => false
theorem kindF_ok {sc : Scope} (h : kindF sc = true) : sc.kind = .function := by
  unfold kindF at h; split at h
  · assumption
  · cases h
theorem lk_local {sc : Scope} {t : Str} (h : (sc.names.lookup t == some .local) = true) : sc.names.lookup t = some .local := by
  cases e : sc.names.lookup t with
  | none => rw [e] at h; cases h
  | some k => cases k <;> first | rfl | (rw [e] at h; cases h)
def chkA (c : SC) (i : Nat) (e : Ex) (tg v : Expr) : Bool := chkNm c i tg && chk c e v && (notComp v || swF c.sc tg v || (swT c.sc tg v && kindF c.sc))
def locs (sc : Scope) (x : Str) : Bool := sc.names.lookup x == some .local
mutual
def chkS : SC → PD.St → Stmt → Bool
  | c, .seti i j e, s => match xAsg s with
    | some (tg, v, _) => (match xSub tg with
      | some (o, ei) => chk c (.var i) o && chk c j ei && chk c e v && notComp v && notSlc ei
      | none => false)
    | none => false
  | c, .setd i j e, s => match xAsg s with
    | some (tg, v, _) => (match xSub tg with
      | some (o, ei) => chk c (.var i) o && chk c j ei && chk c e v && notComp v && notSlc ei
      | none => false)
    | none => false
  | c, .set i e, s => match xAsg s with
    | some (tg, v, _) => chkA c i e tg v
    | none => false
  | c, .unp t e, s => match xAsg s with
    | some (tg, v, _) => kindF c.sc && isTup tg && chkTg c t tg && chk c e v && notComp v && decide (swPure c.sc tg v = some none)
    | none => false
  | c, .par2 i j a b, s => match xAsg s with
    | some (tg, v, _) => kindF c.sc && (match xTup tg, xTup v with
      | some [ti, tj], some [ea, eb] => match xName ti, xName tj with
        | some x, some y => decide (c.N[i]? = some x) && decide (c.N[j]? = some y) && decide (i ≠ j) && locs c.sc x && locs c.sc y && notStar ea && notStar eb && chk c a ea && chk c b eb && decide (swPure c.sc tg v = some (some [x, y]))
        | _, _ => false
      | _, _ => false)
    | none => false
  | c, .par3 i j k a b d, s => match xAsg s with
    | some (tg, v, _) => kindF c.sc && (match xTup tg, xTup v with
      | some [ti, tj, tk], some [ea, eb, ed] => match xName ti, xName tj, xName tk with
        | some x, some y, some z => decide (c.N[i]? = some x) && decide (c.N[j]? = some y) && decide (c.N[k]? = some z) && decide (i ≠ j) && decide (i ≠ k) && decide (j ≠ k) && locs c.sc x && locs c.sc y && locs c.sc z && notStar ea && notStar eb && notStar ed && chk c a ea && chk c b eb && chk c d ed && decide (swPure c.sc tg v = some (some [x, y, z]))
        | _, _, _ => false
      | _, _ => false)
    | none => false
  | c, .aug i o e, s => match xAug s with
    | some (tg, eo, v) => chkNm c i tg && opOk o eo && chk c e v
    | none => false
  | c, .exp e, s => match xExp s with
    | some v => chk c e v && notComp v
    | none => false
  | c, .ret e, s => match xRet s with
    | some (some v) => chk c e v
    | some none => match e with
      | .cst .non => true
      | _ => false
    | none => false
  | c, .iff e a b, s => match xIfS s with
    | some (ce, l, m) => chk c e ce && chkSs c a l && chkSs c b m
    | none => false
  | c, .forr t it b, s => match xFor s with
    | some (tg, ie, l) => chkTg c t tg && notSet ie && chkI c it tg ie && chkSs c b l
    | none => false
  | c, .whl e b, s => match xWhl s with
    | some (ce, l) => chk c e ce && chkSs c b l
    | none => false
  | c, .raise x, s => decide (xRaise s = some (Str.ofString x)) && c.xs.contains x && glB c (Str.ofString x) && okN (Str.ofString x)
  | c, .tryW b i x, s => match xTryW s with
    | some (l, cn, n, w, n2) => decide (cn = Str.ofString x) && decide (w = Str.ofString c.wn) && decide (n2 = n) && decide (c.N[i]? = some n) && locs c.sc n && okN n && c.hs.contains x && glB c cn && okN cn && glB c w && okN w && decide (1 ≤ c.gd) && chkSs c b l
    | none => false
  | _, .tryC _ _ _, _ => false
  | c, .pass, s => xSmall s == 1 || xSmall s == 4
  | c, .brk, s => xSmall s == 2
  | c, .cnt, s => xSmall s == 3
def chkSs : SC → Sts → List Stmt → Bool
  | c, .nil, l => l.isEmpty
  | c, .cons s ss, l => match l with
    | st :: sts => chkS c s st && chkSs c ss sts
    | [] => false
end
section
variable {W : Wd} {G : Dn} {c : SC} {X : Cx} {Wx : WX}
theorem XOk.ndX (ok : XOk W G c X Wx) : X.N.Nodup := by rw [ok.N]; exact ok.nd
theorem chkA_ok (ok : XOk W G c X Wx) {i : Nat} {e : Ex} {tg v : Expr} {pos : Pos} (h : chkA c i e tg v = true) : PS X (.Assign [tg] v pos) (tSt W Wx (evS G (.set i e))) := by
  unfold chkA at h
  simp only [Bool.and_eq_true, Bool.or_eq_true] at h
  obtain ⟨⟨h1, h2⟩, h3⟩ := h
  obtain ⟨x, p, rfl, hi, hl, hf⟩ := chkNm_ok ok h1
  have ev_ := (ok_ev (W := W) (G := G) e ok h2).1
  rcases h3 with (h3 | h3) | ⟨h3, hk⟩
  · exact s_set ok.ndX hi hl ev_ (sw_of h3 _ _ _) hf
  · exact s_set ok.ndX hi hl ev_ (swF_ok ok.sc h3) hf
  · unfold swT at h3
    split at h3
    · rename_i t tp el gs s vp ht
      cases ht
      simp only [Bool.and_eq_true, Bool.not_eq_true'] at h3
      obtain ⟨⟨h4, h5⟩, h6⟩ := h3
      have hyl : X.env.scope.names.lookup x = some .local := by rw [ok.sc]; exact lk_local h4
      have hkX : X.env.scope.kind = .function := by rw [ok.sc]; exact kindF_ok hk
      cases e with
      | comp cel t it cs isO =>
        unfold chk at h2
        split at h2
        · rename_i eel et ei ecs scope vp' hb
          simp only [Bool.and_eq_true] at h2
          obtain ⟨⟨⟨⟨⟨q1, q2⟩, q3⟩, q4⟩, q5⟩, q6⟩ := h2
          have := xLc_eq hb
          cases this
          have hsl : (t.own c.N).map (·.2) = t.slots := by unfold Tg.own; rw [List.map_map]; exact List.map_id' _
          have v := ps_setLc (X := X) (g := tgR X.K t) (i := i) (y := x) (py := p) (spos := pos) ok.calm ok.ndX hi hyl (sw_true hkX hyl h5 h6) (ok_evI (W := W) (G := G) it (tg := et) ok q4) (blkOk_by (own := t.own c.N) (by rw [ok.N, ok.sc]; exact q1))
            (fun s H C cl fp => chkTg_ok (ok.blk _ s H C cl fp) q2) (fun s H C cl fp => ok_evT (W := W) (G := G) cs (ok.blk _ s H C cl fp) q5) (fun s H C cl fp => (ok_ev (W := W) (G := G) cel (ok.blk _ s H C cl fp) q6).1) (set_of q3 X.env)
          rw [hsl] at v
          refine PS.of v fun De σ H hh => ?_
          have z := asg_to (i := i) hh
          exact lc_to ok.K (fun _ h => h) z
        · cases h2
      | compV cel t it cs isO =>
        unfold chk at h2
        split at h2
        · rename_i eel et ei ecs scope vp' hb
          simp only [Bool.and_eq_true] at h2
          obtain ⟨⟨⟨⟨⟨q1, q2⟩, q3⟩, q4⟩, q5⟩, q6⟩ := h2
          have := xLc_eq hb
          cases this
          have hsl : (t.own c.N).map (·.2) = t.slots := by unfold Tg.own; rw [List.map_map]; exact List.map_id' _
          have v := ps_setLc (X := X) (g := tgR X.K t) (i := i) (y := x) (py := p) (spos := pos) ok.calm ok.ndX hi hyl (sw_true hkX hyl h5 h6) (ok_evI (W := W) (G := G) it (tg := et) ok q4) (blkOk_by (own := t.own c.N) (by rw [ok.N, ok.sc]; exact q1))
            (fun s H C cl fp => chkTg_ok (ok.blk _ s H C cl fp) q2) (fun s H C cl fp => ok_evT (W := W) (G := G) cs (ok.blk _ s H C cl fp) q5) (fun s H C cl fp => (ok_ev (W := W) (G := G) cel (ok.blk _ s H C cl fp) q6).1) (set_of q3 X.env)
          rw [hsl] at v
          refine PS.of v fun De σ H hh => ?_
          have z := asg_to (i := i) hh
          exact lc_toV ok.K (fun _ h => h) z
        · cases h2
      | _ => simp [chk, xCst, xName, xTup, xLst, xBin, xUn, xBool, xIf, xCmp, xChn, xSub, xCall, xMet, xRevS] at h2
    · cases h3
theorem locs_ok (ok : XOk W G c X Wx) {x : Str} (h : locs c.sc x = true) : X.env.scope.names.lookup x = some .local := by rw [ok.sc]; exact lk_local h
end
theorem xSmall_eq {s : Stmt} {n : Nat} (h : (xSmall s == n) = true) (hn : n ≠ 0) : (n = 1 ∧ ∃ p, s = .Pass p) ∨ (n = 2 ∧ ∃ p, s = .Break p) ∨ (n = 3 ∧ ∃ p, s = .Continue p) ∨ (n = 4 ∧ ∃ x j p p', s = .Expr (.Constant (.str x) j p) p') := by
  have h' : xSmall s = n := by simpa using h
  unfold xSmall at h'
  split at h'
  · exact .inl ⟨h'.symm, _, rfl⟩
  · exact .inr (.inl ⟨h'.symm, _, rfl⟩)
  · exact .inr (.inr (.inl ⟨h'.symm, _, rfl⟩))
  · exact .inr (.inr (.inr ⟨h'.symm, _, _, _, _, rfl⟩))
  · exact absurd h'.symm hn
/-- the context is a def's frame -/
structure FrS (X : Cx) : Prop where
  po : PassesOwn (model X.prog X.w) X.A X.env X.xe
  hs : X.stack = X.env :: X.outer
  hf : X.env.frame = some X.env.locals
theorem XOk.tr {W : Wd} {G : Dn} {c : SC} {X : Cx} {Wx W' : WX} (ok : XOk W G c X Wx) (pn : List (Addr × Obj)) (xe : Value → Shared → Prop) (tk : L2N.Takes (X.tr pn xe) W') : XOk W G c (X.tr pn xe) W' where
  P := ok.P
  w := ok.w
  K := ok.K
  mg := ok.mg
  base := ok.base
  N := ok.N
  nd := ok.nd
  sc := ok.sc
  fn := ok.fn
  calm := ok.calm
  tk := tk
  xs := ok.xs
  hs := ok.hs
  wn := ok.wn
  dn := ok.dn
  tab := ok.tab
mutual
theorem ok_S {W : Wd} {G : Dn} : ∀ (x : PD.St) {c : SC} {X : Cx} {Wx : WX} {s : Stmt}, XOk W G c X Wx → FrS X → chkS c x s = true → PS X s (tSt W Wx (evS G x))
  | .set i e, c, X, Wx, s, ok, po, h => by
    unfold chkS at h
    split at h
    · rename_i tg v pos hs
      have := xAsg_eq hs
      subst this
      exact chkA_ok ok h
    · cases h
  | .seti i j e, c, X, Wx, s, ok, po, h => by
    unfold chkS at h
    split at h
    · rename_i tg v pos hs
      have := xAsg_eq hs
      subst this
      split at h
      · rename_i o ei ht
        simp only [Bool.and_eq_true] at h
        obtain ⟨⟨⟨⟨h1, h2⟩, h3⟩, h4⟩, h5⟩ := h
        obtain ⟨tp, rfl⟩ := xSub_eq ht
        have hs1 : swapsWithSole [.Subscript o ei tp] v pos.line X.env = pure false := (show swapsWith v (some (.Subscript o ei tp)) pos.line X.env = pure false from sw_of h4 _ _ _)
        have hs2 : swappedStores [.Subscript o ei tp] v X.env = pure none := by cases v <;> rfl
        have hs3 : ∀ w, assign (.Subscript o ei tp) X.env w = (do
            let ov ← holding [w] (eval o X.env)
            let iv ← holding [w, ov] (eval ei X.env)
            standAt tp
            holding [w, ov, iv] (setItem ov iv w)
            release [w, ov, iv] []) := by
          intro w
          cases ei <;> first | (cases h5; done) | rfl
        exact s_seti (f2 := fun _ _ => .bad) (g2 := fun _ _ => .bad) (PE.of (ok_ev (.var i) ok h1).1 fun σ H Q h => by simpa only [ev] using h) (ok_ev j ok h2).1 (ok_ev e ok h3).1 hs1 hs2 hs3
      · cases h
    · cases h
  | .setd i j e, c, X, Wx, s, ok, po, h => by
    unfold chkS at h
    split at h
    · rename_i tg v pos hs
      have := xAsg_eq hs
      subst this
      split at h
      · rename_i o ei ht
        simp only [Bool.and_eq_true] at h
        obtain ⟨⟨⟨⟨h1, h2⟩, h3⟩, h4⟩, h5⟩ := h
        obtain ⟨tp, rfl⟩ := xSub_eq ht
        exact s_setd (by have := ok.units; omega) (PE.of (ok_ev (.var i) ok h1).1 fun σ H Q h => by simpa only [ev] using h) (ok_ev j ok h2).1 (ok_ev e ok h3).1 (sw_of h4 _ _ _)
      · cases h
    · cases h
  | .unp t e, c, X, Wx, s, ok, po, h => by
    unfold chkS at h
    split at h
    · rename_i tg v pos hs
      have := xAsg_eq hs
      subst this
      simp only [Bool.and_eq_true, decide_eq_true_eq] at h
      obtain ⟨⟨⟨⟨⟨h1, h2⟩, h3⟩, h4⟩, h5⟩, h6⟩ := h
      have h1r : (assignEach [tg] X.env).map (·.2) = [assign tg X.env] := by
        cases tg <;> first | (cases h2; done) | rfl
      exact s_unp ok.K (ok_ev e ok h4).1 (chkTg_ok ok h3) (sw_of h5 _ _ _) (swPure_ok ok.sc (kindF_ok h1) h6) h1r
    · cases h
  | .par2 i j a b, c, X, Wx, s, ok, po, h => by
    unfold chkS at h
    split at h
    · rename_i tg v pos hs
      have := xAsg_eq hs
      subst this
      simp only [Bool.and_eq_true] at h
      obtain ⟨hk, h⟩ := h
      split at h
      · rename_i ti tj ea eb e1 e2
        split at h
        · rename_i x y ex ey
          simp only [Bool.and_eq_true, decide_eq_true_eq] at h
          obtain ⟨⟨⟨⟨⟨⟨⟨⟨⟨h1, h2⟩, h3⟩, h4⟩, h5⟩, h6⟩, h7⟩, h8⟩, h9⟩, h10⟩ := h
          obtain ⟨k1, p1, rfl⟩ := xTup_eq e1
          obtain ⟨k2, p2, rfl⟩ := xTup_eq e2
          obtain ⟨p3, rfl⟩ := xName_eq ex
          obtain ⟨p4, rfl⟩ := xName_eq ey
          rw [← ok.N] at h1 h2
          exact s_par2 ok.calm ok.ndX h1 h2 h3 (locs_ok ok h4) (locs_ok ok h5) (g_two (ok_ev a ok h8).1 (ok_ev b ok h9).1 (star_of h6 _ _) (star_of h7 _ _)) (swPure_ok ok.sc (kindF_ok hk) h10)
        · cases h
      · cases h
    · cases h
  | .par3 i j k a b d, c, X, Wx, s, ok, po, h => by
    unfold chkS at h
    split at h
    · rename_i tg v pos hs
      have := xAsg_eq hs
      subst this
      simp only [Bool.and_eq_true] at h
      obtain ⟨hk, h⟩ := h
      split at h
      · rename_i ti tj tk ea eb ed e1 e2
        split at h
        · rename_i x y z ex ey ez
          simp only [Bool.and_eq_true, decide_eq_true_eq] at h
          obtain ⟨⟨⟨⟨⟨⟨⟨⟨⟨⟨⟨⟨⟨⟨⟨h1, h2⟩, h2'⟩, h3⟩, h3'⟩, h3''⟩, h4⟩, h5⟩, h5'⟩, h6⟩, h7⟩, h7'⟩, h8⟩, h9⟩, h9'⟩, h10⟩ := h
          obtain ⟨k1, p1, rfl⟩ := xTup_eq e1
          obtain ⟨k2, p2, rfl⟩ := xTup_eq e2
          obtain ⟨p3, rfl⟩ := xName_eq ex
          obtain ⟨p4, rfl⟩ := xName_eq ey
          obtain ⟨p5, rfl⟩ := xName_eq ez
          rw [← ok.N] at h1 h2 h2'
          exact s_par3 ok.calm ok.ndX h1 h2 h2' h3 h3' h3'' (locs_ok ok h4) (locs_ok ok h5) (locs_ok ok h5') (g_three (ok_ev a ok h8).1 (ok_ev b ok h9).1 (ok_ev d ok h9').1 h6 h7 h7') (swPure_ok ok.sc (kindF_ok hk) h10)
        · cases h
      · cases h
    · cases h
  | .aug i o e, c, X, Wx, s, ok, po, h => by
    unfold chkS at h
    split at h
    · rename_i tg eo v hs
      obtain ⟨p, rfl⟩ := xAug_eq hs
      simp only [Bool.and_eq_true] at h
      obtain ⟨⟨h1, h2⟩, h3⟩ := h
      obtain ⟨x, p, rfl, hi, hl, hf⟩ := chkNm_ok ok h1
      exact s_aug h2 ok.ndX hi hl (ok_ev e ok h3).1 hf
    · cases h
  | .exp e, c, X, Wx, s, ok, po, h => by
    unfold chkS at h
    split at h
    · rename_i v hs
      obtain ⟨p, rfl⟩ := xExp_eq hs
      simp only [Bool.and_eq_true] at h
      exact s_exp (ok_ev e ok h.1).1 (sw_of h.2 _ _ _)
    · cases h
  | .ret e, c, X, Wx, s, ok, po, h => by
    unfold chkS at h
    split at h
    · rename_i v hs
      obtain ⟨p, rfl⟩ := xRet_eq hs
      exact s_ret (ok_ev e ok h).1
    · rename_i hs
      obtain ⟨p, rfl⟩ := xRet_eq hs
      split at h
      · exact s_retN
      · cases h
    · cases h
  | .iff e a b, c, X, Wx, s, ok, po, h => by
    unfold chkS at h
    split at h
    · rename_i ce l m hs
      obtain ⟨p, rfl⟩ := xIfS_eq hs
      simp only [Bool.and_eq_true] at h
      exact s_if (ok_ev e ok h.1.1).2.1 (ok_Ss a ok po h.1.2) (ok_Ss b ok po h.2)
    · cases h
  | .forr t it b, c, X, Wx, s, ok, po, h => by
    unfold chkS at h
    split at h
    · rename_i tg ie l hs
      obtain ⟨p, rfl⟩ := xFor_eq hs
      simp only [Bool.and_eq_true] at h
      obtain ⟨⟨⟨h1, h2⟩, h3⟩, h4⟩ := h
      exact s_for ok.K po.po ok.calm (ok_evI it ok h3) (chkTg_ok ok h1) (ok_Ss b ok po h4) (set_of h2 X.env)
    · cases h
  | .whl e b, c, X, Wx, s, ok, po, h => by
    unfold chkS at h
    split at h
    · rename_i ce l hs
      obtain ⟨p, rfl⟩ := xWhl_eq hs
      simp only [Bool.and_eq_true] at h
      exact s_while po.po (ok_ev e ok h.1).2.1 (ok_Ss b ok po h.2)
    · cases h
  | .raise y, c, X, Wx, s, ok, po, h => by
    unfold chkS at h
    simp only [Bool.and_eq_true, decide_eq_true_eq] at h
    obtain ⟨⟨⟨h1, h2⟩, h3⟩, h4⟩ := h
    obtain ⟨m, j, p, p2, p3, p4, rfl⟩ := xRaise_eq h1
    obtain ⟨k, r, dn⟩ := ok.dn
    exact s_raise ok.K ok.mg ok.calm ok.tk (dn.xd.rs y (by rw [← ok.xs]; simpa using h2)) (ok.gl h3) (okN_d h4).1
  | .tryW b i y, c, X, Wx, s, ok, po, h => by
    unfold chkS at h
    split at h
    · rename_i l cn n w n2 ht
      simp only [Bool.and_eq_true, decide_eq_true_eq] at h
      obtain ⟨⟨⟨⟨⟨⟨⟨⟨⟨⟨⟨⟨h1, h2⟩, h3⟩, h4⟩, h5⟩, h6⟩, h7⟩, h8⟩, h9⟩, h10⟩, h11⟩, h12⟩, h13⟩ := h
      subst h1 h2 h3
      obtain ⟨p1, p2, p3, p4, p5, p6, p7, rfl⟩ := xTryW_eq ht
      obtain ⟨k, r, dn⟩ := ok.dn
      obtain ⟨k', hk'⟩ : ∃ k', k + c.gd = k' + 1 := ⟨k + c.gd - 1, by omega⟩
      rw [hk'] at r
      rw [← ok.N] at h4
      exact s_tryW ok.P ok.w ok.K ok.mg ok.base r po.hs po.hf ok.ndX h4 (locs_ok ok h5) ok.tk dn.xd ok.wn (ok.gl h8) (okN_d h9).1 (ok.gl h10) (okN_d h11).1 h6
        (fun W' pn xe tk pp => ok_Ss b (ok.tr pn xe tk) ⟨pp, po.hs, po.hf⟩ h13) (by rw [ok.mg]; exact dn.xd.hs y (by rw [← ok.hs]; simpa using h7))
    · cases h
  | .tryC _ _ _, c, X, Wx, s, ok, po, h => by
    unfold chkS at h
    cases h
  | .pass, c, X, Wx, s, ok, po, h => by
    unfold chkS at h
    rw [Bool.or_eq_true] at h
    rcases h with h | h
    · rcases xSmall_eq h (by decide) with ⟨_, p, rfl⟩ | ⟨z, _⟩ | ⟨z, _⟩ | ⟨z, _⟩
      · exact s_pass
      · cases z
      · cases z
      · cases z
    · rcases xSmall_eq h (by decide) with ⟨z, _⟩ | ⟨z, _⟩ | ⟨z, _⟩ | ⟨_, _, _, _, _, rfl⟩
      · cases z
      · cases z
      · cases z
      · exact s_doc
  | .brk, c, X, Wx, s, ok, po, h => by
    unfold chkS at h
    rcases xSmall_eq h (by decide) with ⟨z, _⟩ | ⟨_, p, rfl⟩ | ⟨z, _⟩ | ⟨z, _⟩
    · cases z
    · exact s_brk
    · cases z
    · cases z
  | .cnt, c, X, Wx, s, ok, po, h => by
    unfold chkS at h
    rcases xSmall_eq h (by decide) with ⟨z, _⟩ | ⟨z, _⟩ | ⟨_, p, rfl⟩ | ⟨z, _⟩
    · cases z
    · cases z
    · exact s_cnt
    · cases z
theorem ok_Ss {W : Wd} {G : Dn} : ∀ (x : Sts) {c : SC} {X : Cx} {Wx : WX} {l : List Stmt}, XOk W G c X Wx → FrS X → chkSs c x l = true → PSs X l (tSt W Wx (evSs G x))
  | .nil, c, X, Wx, l, ok, po, h => by
    unfold chkSs at h
    rw [List.isEmpty_iff] at h
    subst h
    exact s_nil
  | .cons s ss, c, X, Wx, l, ok, po, h => by
    unfold chkSs at h
    split at h
    · rename_i st sts
      simp only [Bool.and_eq_true] at h
      exact s_cons (ok_S s ok po h.1) (ok_Ss ss ok po h.2)
    · cases h
end
end PD

set_option Elab.async false
set_option linter.all false
set_option maxRecDepth 100000
namespace PD
open PySem PySem.Spec PyProof.Rows L2

mutual
/-- new objects of the store become values -/
def D.frz (N : Nat) (S : Store) : D → Option D
  | .tup ds => (D.frzs N S ds).map .tup
  | .lst ds => (D.frzs N S ds).map .lst
  | .rol ds => (D.frzs N S ds).map .rol
  | .st ds => (D.frzs N S ds).map .st
  | .dic ks vs => (D.frzs N S ks).bind fun k => (D.frzs N S vs).map fun v => .dic k v
  | .obj n => if n < N then some (.obj n) else match S[n]? with
    | some (.lst ds) => some (.lst ds)
    | _ => none
  | .dob n => if n < N then some (.dob n) else match S[n]? with
    | some (.dic ks vs) => some (.dic ks vs)
    | _ => none
  | d => some d
def D.frzs (N : Nat) (S : Store) : List D → Option (List D)
  | [] => some []
  | d :: ds => (D.frz N S d).bind fun x => (D.frzs N S ds).map fun xs => x :: xs
end
def fin (fz : Bool) (N : Nat) (d : D) (S : Store) : Out D :=
  if fz then (liftO S (d.frz N S)).bind fun d' S => .ok d' (S.take N)
  else match d with
    | .obj n => if n < N then .ok d (S.take N) else match S[n]? with
      | some c => .ok (.obj N) (S.take N ++ [c])
      | none => .bad
    | d => if d.pure then .ok d (S.take N) else .bad
def startD (len : Nat) (ds : List D) : DEnv := ds.map some ++ List.replicate (len - ds.length) none
def runF (G : Dn) (fz : Bool) (b : Sts) (len : Nat) : List D → Store → Out D := fun ds S => match evSs G b (startD len ds) S with
  | .ok (.rt d) S' => fin fz S.length d S'
  | .ok (.nx _) S' => .ok .non (S'.take S.length)
  | .ok (.ex x _) S' => .exc x (S'.take S.length)
  | _ => .bad
section
variable {W : Wd} {K : PySem.W.Frag} {ρ ρ' : Rn} {N N' : Nat} {H H' : Hp} {S S' : Store}
mutual
theorem RepV.low (hN : N ≤ N') : ∀ {d : D} {v : V}, RepV K ρ N' H d v → d.pure = true → RepV K ρ N H d v
  | _, _, .non, _ => .non
  | _, _, .bl b, _ => .bl b
  | _, _, .int i, _ => .int i
  | _, _, .str s h, _ => .str s h
  | _, _, .tup e r, p => .tup e (RepVs.low hN r (by simpa [D.pure] using p))
  | _, _, .lst e n r, p => .lst e ⟨fun i hi => n.1 i (Nat.lt_of_lt_of_le hi hN), n.2⟩ (RepVs.low hN r (by simpa [D.pure] using p))
  | _, _, .rol e r, p => .rol e (RepVs.low hN r (by simpa [D.pure] using p))
  | _, _, .st e q r, p => .st e q (RepVs.low hN r (by simpa [D.pure] using p))
  | _, _, .dic e n r t, p => by
    simp only [D.pure, Bool.and_eq_true] at p
    exact .dic e ⟨fun i hi => n.1 i (Nat.lt_of_lt_of_le hi hN), n.2⟩ (RepVs.low hN r p.1) (RepVs.low hN t p.2)
  | _, _, .obj _ _, p => by simp [D.pure] at p
  | _, _, .dob _ _, p => by simp [D.pure] at p
theorem RepVs.low (hN : N ≤ N') : ∀ {ds : List D} {vs : List V}, RepVs K ρ N' H ds vs → D.pures ds = true → RepVs K ρ N H ds vs
  | _, _, .nil, _ => .nil
  | _, _, .cons r t, p => by
    simp only [D.pures, Bool.and_eq_true] at p
    exact .cons (RepV.low hN r p.1) (RepVs.low hN t p.2)
end
theorem pures_all : ∀ {ds : List D}, ds.all D.pure = D.pures ds
  | [] => rfl
  | d :: ds => by rw [List.all_cons, D.pures, pures_all (ds := ds)]
theorem RepC.low (hN : N ≤ N') {a : Addr} {c : C} (r : RepC K ρ N' H a c) : RepC K ρ N H a c := by
  cases c with
  | lst ds => obtain ⟨p, vs, h, r⟩ := r; exact ⟨p, vs, h, r.low hN (by rw [← pures_all]; exact p)⟩
  | dic _ _ =>
    obtain ⟨p, vs, h, r, t⟩ := r
    have p' := p
    simp only [Bool.and_eq_true] at p'
    exact ⟨p, vs, h, r.low hN (by rw [← pures_all]; exact p'.1), t.low hN (by rw [← pures_all]; exact p'.2)⟩
  | st _ => exact r
theorem RepS.cut (s : RepS W ρ S H) (h : N ≤ S.length) : RepS W ρ (S.take N) H where
  at_ := fun i c e => by
    rw [List.length_take, Nat.min_eq_left h]
    have hi : i < N := by
      have := (List.getElem?_eq_some_iff.mp e).1
      rw [List.length_take] at this
      omega
    rw [List.getElem?_take_of_lt hi] at e
    exact (s.at_ i c e).low h
  inj := fun i j hi hj => by
    rw [List.length_take] at hi hj
    exact s.inj i j (by omega) (by omega)
  tabs := s.tabs
  hid := fun a ha => by
    obtain ⟨e, n⟩ := s.hid a ha
    refine ⟨e, fun i hi => n i ?_⟩
    rw [List.length_take] at hi
    omega
theorem Ext.cut (e : Ext ρ N H ρ' N' H') : Ext ρ N H ρ' N H' := ⟨Nat.le_refl _, e.agree, e.tups, e.frzs, e.keep, e.there, fun i h1 h2 => absurd h2 (Nat.not_lt.mpr h1), e.hid, e.kL, e.kD⟩
mutual
theorem RepV.frz (s : RepS W ρ S H) (h : N ≤ S.length) : ∀ {d : D} {v : V} {d' : D}, RepV W.K ρ S.length H d v → d.frz N S = some d' → RepV W.K ρ N H d' v
  | _, _, _, .non, e => by simp only [D.frz, Option.some.injEq] at e; subst e; exact .non
  | _, _, _, .bl b, e => by simp only [D.frz, Option.some.injEq] at e; subst e; exact .bl b
  | _, _, _, .int i, e => by simp only [D.frz, Option.some.injEq] at e; subst e; exact .int i
  | _, _, _, .str x hx, e => by simp only [D.frz, Option.some.injEq] at e; subst e; exact .str x hx
  | _, _, _, .tup q r, e => by
    simp only [D.frz, Option.map_eq_some_iff] at e
    obtain ⟨xs, hx, rfl⟩ := e
    exact .tup q (RepVs.frz s h r hx)
  | _, _, _, .lst q n r, e => by
    simp only [D.frz, Option.map_eq_some_iff] at e
    obtain ⟨xs, hx, rfl⟩ := e
    exact .lst q ⟨fun i hi => n.1 i (Nat.lt_of_lt_of_le hi h), n.2⟩ (RepVs.frz s h r hx)
  | _, _, _, .st q z r, e => by
    simp only [D.frz, Option.map_eq_some_iff] at e
    obtain ⟨xs, hx, rfl⟩ := e
    exact .st q z (RepVs.frz s h r hx)
  | _, _, _, .rol q r, e => by
    simp only [D.frz, Option.map_eq_some_iff] at e
    obtain ⟨xs, hx, rfl⟩ := e
    exact .rol q (RepVs.frz s h r hx)
  | _, _, _, .dic q n r t, e => by
    simp only [D.frz, Option.bind_eq_some_iff, Option.map_eq_some_iff] at e
    obtain ⟨xs, hx, ys, hy, rfl⟩ := e
    exact .dic q ⟨fun i hi => n.1 i (Nat.lt_of_lt_of_le hi h), n.2⟩ (RepVs.frz s h r hx) (RepVs.frz s h t hy)
  | _, _, _, .dob (n := n) hn hk, e => by
    simp only [D.frz] at e
    split at e
    · rename_i hlt
      cases e
      exact .dob hlt hk
    · rename_i hge
      split at e
      · rename_i ks vs hds
        cases e
        obtain ⟨hp, kvs, h1, h2, h3⟩ := s.at_ n (.dic ks vs) hds
        simp only [Bool.and_eq_true] at hp
        refine .dic h1 ⟨fun i hi z => ?_, fun z => ?_⟩ (h2.low h (by rw [← pures_all]; exact hp.1)) (h3.low h (by rw [← pures_all]; exact hp.2))
        · have := s.inj i n (Nat.lt_of_lt_of_le hi h) hn z
          omega
        · exact (s.hid _ z).2 n hn rfl
      · cases e
  | _, _, _, .obj (n := n) hn hk, e => by
    simp only [D.frz] at e
    split at e
    · rename_i hlt
      cases e
      exact .obj hlt hk
    · rename_i hge
      split at e
      · rename_i ds hds
        cases e
        obtain ⟨hp, vs, h1, h2⟩ := s.list hds
        refine .lst h1 ⟨fun i hi z => ?_, fun z => ?_⟩ (h2.low h (by rw [← pures_all]; exact hp))
        · have := s.inj i n (Nat.lt_of_lt_of_le hi h) hn z
          omega
        · exact (s.hid _ z).2 n hn rfl
      · cases e
theorem RepVs.frz (s : RepS W ρ S H) (h : N ≤ S.length) : ∀ {ds : List D} {vs : List V} {ds' : List D}, RepVs W.K ρ S.length H ds vs → D.frzs N S ds = some ds' → RepVs W.K ρ N H ds' vs
  | _, _, _, .nil, e => by simp only [D.frzs, Option.some.injEq] at e; subst e; exact .nil
  | _, _, _, .cons r t, e => by
    simp only [D.frzs, Option.bind_eq_some_iff, Option.map_eq_some_iff] at e
    obtain ⟨x, hx, xs, hxs, rfl⟩ := e
    exact .cons (RepV.frz s h r hx) (RepVs.frz s h t hxs)
end
mutual
theorem RepV.ren {n : Nat} (s : RepS W ρ' S' H') (hN : N ≤ S'.length) (hn : n < S'.length) (hge : N ≤ n) : ∀ {d : D} {v : V}, RepV W.K ρ' S'.length H' d v → d.pure = true → RepV W.K (aux ρ' N (ρ' n)) (N + 1) H' d v
  | _, _, .non, _ => .non
  | _, _, .bl b, _ => .bl b
  | _, _, .int i, _ => .int i
  | _, _, .str s h, _ => .str s h
  | _, _, .tup e r, p => .tup e (RepVs.ren s hN hn hge r (by simpa [D.pure] using p))
  | _, _, .lst e m r, p => .lst e ⟨fun i hi => by
      by_cases z : i = N
      · rw [z, aux_self]; exact m.1 n hn
      · rw [aux_ne z]; exact m.1 i (by omega), m.2⟩ (RepVs.ren s hN hn hge r (by simpa [D.pure] using p))
  | _, _, .rol e r, p => .rol e (RepVs.ren s hN hn hge r (by simpa [D.pure] using p))
  | _, _, .st e q r, p => .st e q (RepVs.ren s hN hn hge r (by simpa [D.pure] using p))
  | _, _, .dic e m r t, p => by
    simp only [D.pure, Bool.and_eq_true] at p
    exact .dic e ⟨fun i hi => by
      by_cases z : i = N
      · rw [z, aux_self]; exact m.1 n hn
      · rw [aux_ne z]; exact m.1 i (by omega), m.2⟩ (RepVs.ren s hN hn hge r p.1) (RepVs.ren s hN hn hge t p.2)
  | _, _, .obj _ _, p => by simp [D.pure] at p
  | _, _, .dob _ _, p => by simp [D.pure] at p
theorem RepVs.ren {n : Nat} (s : RepS W ρ' S' H') (hN : N ≤ S'.length) (hn : n < S'.length) (hge : N ≤ n) : ∀ {ds : List D} {vs : List V}, RepVs W.K ρ' S'.length H' ds vs → D.pures ds = true → RepVs W.K (aux ρ' N (ρ' n)) (N + 1) H' ds vs
  | _, _, .nil, _ => .nil
  | _, _, .cons r t, p => by
    simp only [D.pures, Bool.and_eq_true] at p
    exact .cons (RepV.ren s hN hn hge r p.1) (RepVs.ren s hN hn hge t p.2)
end
theorem fin_ok {Wx : WX} {σ : L2.St} {fz : Bool} {d : D} {v : V} {Q : VK} (hc : Cont W Wx σ (relD W) (fin fz N d S') ρ N H Q) (e : Ext ρ N H ρ' S'.length H') (s : RepS W ρ' S' H') (r : RepV W.K ρ' S'.length H' d v) : Q v H' := by
  have hN : N ≤ S'.length := e.le
  have hl : (S'.take N).length = N := by rw [List.length_take]; omega
  have ec : Ext ρ N H ρ' (S'.take N).length H' := by rw [hl]; exact e.cut
  unfold fin at hc
  split at hc
  · obtain ⟨d', hd, h2⟩ : ∃ d', d.frz N S' = some d' ∧ Cont W Wx σ (relD W) (.ok d' (S'.take N)) ρ N H Q := by
      cases hq : d.frz N S' with
      | none => rw [hq] at hc; exact hc.elim
      | some d' => rw [hq] at hc; exact ⟨d', rfl, hc⟩
    exact Cont.ok h2 ec (s.cut hN) (by show RepV _ _ _ _ _ _; rw [hl]; exact RepV.frz s hN r hd)
  · split at hc
    · rename_i n
      split at hc
      · rename_i hlt
        cases r with | obj hn0 hk0 =>
        exact Cont.ok hc ec (s.cut hN) (by show RepV _ _ _ _ _ _; rw [hl]; exact .obj hlt hk0)
      · rename_i hge
        split at hc
        · rename_i c hcell
          cases r with | obj hn hk =>
          have hl2 : (S'.take N ++ [c]).length = N + 1 := by rw [List.length_append, hl]; rfl
          refine Cont.ok (ρ' := aux ρ' N (ρ' n)) hc ?_ ?_ ?_
          · rw [hl2]
            exact ⟨Nat.le_succ _, fun i hi => (aux_ne (Nat.ne_of_lt hi)).trans (e.agree i hi), e.tups, e.frzs, e.keep, e.there, fun i h1 h2 => by
              have : i = N := by omega
              rw [this, aux_self]; exact e.fresh n (by omega) hn, e.hid, e.kL, e.kD⟩
          · have sc := s.cut hN
            refine ⟨fun i c' ee => ?_, fun i j hi hj ee => ?_, s.tabs, fun a ha => ?_⟩
            · rw [hl2]
              by_cases hi : i < N
              · rw [List.getElem?_append_left (by rw [hl]; exact hi)] at ee
                rw [aux_ne (Nat.ne_of_lt hi)]
                have q := sc.at_ i c' ee
                rw [hl] at q
                cases c' with
                | lst ds =>
                  obtain ⟨p, vs, h1, h2⟩ := q
                  refine ⟨p, vs, h1, ?_⟩
                  have pp : D.pures ds = true := by rw [← pures_all]; exact p
                  have key := (s.at_ i (.lst ds) (by rw [List.getElem?_take_of_lt hi] at ee; exact ee))
                  obtain ⟨_, vs', h3, h4⟩ := key
                  rw [h1] at h3
                  cases h3
                  exact RepVs.ren s hN hn (by omega) h4 pp
                | dic ks us =>
                  obtain ⟨p, vs, h1, h2, h2'⟩ := q
                  refine ⟨p, vs, h1, ?_⟩
                  simp only [Bool.and_eq_true] at p
                  have key := (s.at_ i (.dic ks us) (by rw [List.getElem?_take_of_lt hi] at ee; exact ee))
                  obtain ⟨_, vs', h3, h4, h4'⟩ := key
                  rw [h1] at h3
                  cases h3
                  exact ⟨RepVs.ren s hN hn (by omega) h4 (by rw [← pures_all]; exact p.1), RepVs.ren s hN hn (by omega) h4' (by rw [← pures_all]; exact p.2)⟩
                | st _ => exact q
              · rw [List.getElem?_append_right (by rw [hl]; omega), hl] at ee
                have hz : i = N := by
                  by_cases z : i - N = 0
                  · omega
                  · obtain ⟨k, hk⟩ : ∃ k, i - N = k + 1 := ⟨i - N - 1, by omega⟩
                    rw [hk] at ee; simp at ee
                subst hz
                simp at ee
                subst ee
                rw [aux_self]
                have q := s.at_ n c hcell
                cases c with
                | lst ds =>
                  obtain ⟨p, vs, h1, h2⟩ := q
                  exact ⟨p, vs, h1, RepVs.ren s hN hn (by omega) h2 (by rw [← pures_all]; exact p)⟩
                | dic _ _ =>
                  obtain ⟨p, vs, h1, h2, h2'⟩ := q
                  have p' := p
                  simp only [Bool.and_eq_true] at p'
                  exact ⟨p, vs, h1, RepVs.ren s hN hn (by omega) h2 (by rw [← pures_all]; exact p'.1), RepVs.ren s hN hn (by omega) h2' (by rw [← pures_all]; exact p'.2)⟩
                | st _ => exact q
            · rw [hl2] at hi hj
              by_cases h1 : i = N
              · by_cases h2 : j = N
                · omega
                · rw [h1, aux_self, aux_ne h2] at ee
                  have := s.inj n j hn (by omega) ee
                  omega
              · by_cases h2 : j = N
                · rw [h2, aux_self, aux_ne h1] at ee
                  have := s.inj i n (by omega) hn ee
                  omega
                · rw [aux_ne h1, aux_ne h2] at ee
                  exact s.inj i j (by omega) (by omega) ee
            · obtain ⟨q1, q2⟩ := s.hid a ha
              refine ⟨q1, fun i hi => ?_⟩
              rw [hl2] at hi
              by_cases h1 : i = N
              · rw [h1, aux_self]; exact q2 n hn
              · rw [aux_ne h1]; exact q2 i (by omega)
          · have z := RepV.obj (K := W.K) (ρ := aux ρ' N (ρ' n)) (H := H') (N := N + 1) (n := N) (Nat.lt_succ_self _) (by rw [aux_self]; exact hk)
            rw [aux_self] at z
            show RepV _ _ _ _ _ _
            rw [hl2]; exact z
        · exact hc.elim
    · split at hc
      · rename_i hp
        exact Cont.ok hc ec (s.cut hN) (by show RepV _ _ _ _ _ _; rw [hl]; exact r.low hN hp)
      · exact hc.elim
theorem run_ok {G : Dn} {fz : Bool} {b : Sts} {len : Nat} {ds : List D} {Q : VK} {E : XK} (hc : Cont W (fun cls d _ H' => E cls d H') [] (relD W) (runF G fz b len ds S) ρ S.length H Q) :
    FlC W (fun cls d _ H' => E cls d H') { nx := fun _ H' => Q .non H', rt := Q } ρ S.length H (evSs G b (startD len ds) S) := by
  unfold runF at hc
  cases h : evSs G b (startD len ds) S with
  | bad => rw [h] at hc; exact hc.elim
  | exc _ _ => rw [h] at hc; exact hc.elim
  | ok fl S' =>
    rw [h] at hc
    cases fl with
    | nx δ =>
      intro ρ' H' e s σ _
      have hl : (S'.take S.length).length = S.length := by rw [List.length_take]; have := e.le; omega
      exact Cont.ok hc (by rw [hl]; exact e.cut) (s.cut e.le) .non
    | rt d => exact fun ρ' H' e s v r => fin_ok hc e s r
    | bk _ => exact hc.elim
    | ct _ => exact hc.elim
    | ex x δ =>
      intro ρ' H' e s σ _
      have hl : (S'.take S.length).length = S.length := by rw [List.length_take]; have := e.le; omega
      exact hc ρ' H' (by rw [hl]; exact e.cut) (s.cut e.le)
theorem start_rep {ds : List D} {vs : List V} {Nm : List Str} (r : RepVs K ρ N H ds vs) : RepE K ρ N H (startD Nm.length ds) (L2.start Nm vs) := by
  refine ⟨by simp [startD, L2.start, r.length], fun i d h => ?_⟩
  unfold startD at h
  unfold L2.start
  by_cases hi : i < ds.length
  · rw [List.getElem?_append_left (by simpa using hi), List.getElem?_map] at h
    have hd : ds[i]? = some d := by
      cases q : ds[i]? with
      | none => rw [q] at h; cases h
      | some z => rw [q] at h; simp at h; rw [h]
    obtain ⟨v, h1, h2⟩ := r.get hd
    refine ⟨v, ?_, h2⟩
    rw [List.getElem?_append_left (by rw [List.length_map, ← r.length]; exact hi), List.getElem?_map, h1]; rfl
  · rw [List.getElem?_append_right (by simpa using Nat.le_of_not_lt hi)] at h
    rw [List.getElem?_replicate] at h
    split at h <;> cases h
end
structure Df where
  name : Str
  st : Stmt
  ps : List Str
  N : List Str
  fz : Bool
  /-- it holds generator expressions -/
  gen : Bool
  body : Sts
/-- the module's constants -/
structure Cs where
  Γ : Nat → Option D
  Δ : Nat → Option (List (List Nat × D))
  xd : XD := {}
def Phi (Γ : Cs) (dfs : List Df) : Nat → Nat → List D → Store → Out D
  | 0, _, _, _ => .bad
  | k + 1, f, ds, S => match dfs[f]? with
    | some d => runF ⟨Γ.Γ, Phi Γ dfs k, Γ.Δ, Γ.xd⟩ d.fz d.body d.N.length ds S
    | none => .bad
abbrev gDn (Γ : Cs) (dfs : List Df) (k : Nat) : Dn := ⟨Γ.Γ, Phi Γ dfs k, Γ.Δ, Γ.xd⟩
def fnsOf (dfs : List Df) : List (Str × Nat) := dfs.map fun d => (d.name, d.ps.length)
def nodupB : List Str → Bool
  | [] => true
  | x :: xs => !(xs.contains x) && nodupB xs
theorem nodupB_ok : ∀ {l : List Str}, nodupB l = true → l.Nodup
  | [], _ => List.nodup_nil
  | x :: xs, h => by
    simp only [nodupB, Bool.and_eq_true, Bool.not_eq_true'] at h
    refine List.nodup_cons.mpr ⟨fun z => ?_, nodupB_ok h.2⟩
    have : xs.contains x = true := List.contains_iff_mem.mpr z
    rw [this] at h; cases h.1
/-- what is to be decided of a def -/
def scOk (d : Df) : Bool := kindF (defScope d.st) && !(defScope d.st).isCoroutine && !(defScope d.st).isGenerator && nodupB d.N && decide (d.N.take d.ps.length = d.ps) &&
  d.ps.all (fun x => match (defScope d.st).names.lookup x with | some .local => true | some .cell => true | _ => false) && (defScope d.st).names.all fun y => match y.2 with | .free => false | _ => true
def dfOk (xd : XD) (gls : List Str) (fns : List (Str × Nat)) (d : Df) : Bool := scOk d && chkSs ⟨d.N, defScope d.st, fun _ => true, gls, fns, 1, d.gen, xd.rs, xd.hs, xd.wn⟩ d.body (defBody d.st)
theorem scOk_ok {d : Df} (h : scOk d = true) : FnScope d.N d.ps (defScope d.st) := by
  unfold scOk at h
  simp only [Bool.and_eq_true, decide_eq_true_eq, Bool.not_eq_true'] at h
  obtain ⟨⟨⟨⟨⟨⟨h1, h2⟩, h3⟩, h4⟩, h5⟩, h6⟩, h7⟩ := h
  refine ⟨kindF_ok h1, h2, h3, nodupB_ok h4, h5, fun x hx => ?_, fun y hy z => ?_⟩
  · have := List.all_eq_true.mp h6 x hx
    split at this
    · exact .inl (by assumption)
    · exact .inr (by assumption)
    · cases this
  · have := List.all_eq_true.mp h7 y hy
    rw [z] at this
    cases this
/-- a def's code has its table -/
def TabAt (W : Wd) (f : Addr) : Prop := ∀ oc od fd osl, W.K.lookup f = some ⟨oc, od, .func fd, osl⟩ → ∃ cc P, fd.code = .ref cc ∧ GxR.TabB W.base W.mg cc P ∧ P ∈ W.T
/-- what the head tells of a def -/
structure DfAt (W : Wd) (d : Df) : Prop where
  at_ : ∃ f fd, W.mg d.name = some (.ref f) ∧ FunD W.K d.name d.name (defArgs d.st) (defBody d.st) (defScope d.st) [] [] f fd ∧ Binds W.K fd d.ps [] ∧ (d.gen = true → TabAt W f)
theorem fn_one {W : Wd} {Γ : Cs} {dfs : List Df} {gls : List Str} {k i : Nat} {d : Df} {f : Addr} {fd : FuncData} (hi : dfs[i]? = some d) (hdd : dfOk Γ.xd gls (fnsOf dfs) d = true) (ih : DnOk W (gDn Γ dfs k) gls (fnsOf dfs) (2 * k)) (h2 : FunD W.K d.name d.name (defArgs d.st) (defBody d.st) (defScope d.st) [] [] f fd) (ht : d.gen = true → TabAt W f) :
    FnOk W.P W.w W.K W.mg W.base (L2N.CX W.P W.w) (2 * (k + 1)) f fd d.ps (spD W (Phi Γ dfs (k + 1) i) d.ps.length) := by
  unfold dfOk at hdd
  rw [Bool.and_eq_true] at hdd
  have S1 := scOk_ok hdd.1
  obtain ⟨oc, od, dV, kV, doc, pm, an, cdv, ct, osl, rfl, lk, hcd, _, _⟩ := h2.ex
  refine fn_of (k := 2 * k + 1) lk hcd S1 (fun vs H Q E ⟨ds, S, ρ, hl, _, hr, _⟩ => by rw [← hr.length]; exact hl) fun A outer s H vs Q E hroom ⟨ds, S, ρ, hl, hS, hr, hc⟩ => ?_
  have ok : XOk W (gDn Γ dfs k) ⟨d.N, defScope d.st, fun _ => true, gls, fnsOf dfs, 1, d.gen, Γ.xd.rs, Γ.xd.hs, Γ.xd.wn⟩ (cxOf (L2N.CX W.P W.w) W.P W.w W.K W.mg W.base d.N d.name (defScope d.st) f cdv A outer s H E) (fun cls dd _ H' => E cls dd H') :=
    ⟨rfl, rfl, rfl, rfl, rfl, rfl, S1.nd, rfl, rfl, rfl, L2N.takes_of rfl rfl rfl rfl, rfl, rfl, rfl, ⟨2 * k, hroom, ih⟩, fun hg => by
      obtain ⟨cc, P, h3, h4, h5⟩ := ht hg _ _ _ _ lk
      exact ⟨cc, P, h3, h4, h5⟩⟩
  refine ⟨_, ok_Ss d.body ok ⟨passes_of rfl, rfl, rfl⟩ hdd.2, startD d.N.length ds, S, ρ, hS, start_rep hr, run_ok (fz := d.fz) ?_⟩
  have e : Phi Γ dfs (k + 1) i ds S = runF (gDn Γ dfs k) d.fz d.body d.N.length ds S := by
    show (match dfs[i]? with | some d => runF ⟨Γ.Γ, Phi Γ dfs k, Γ.Δ, Γ.xd⟩ d.fz d.body d.N.length ds S | none => .bad) = _
    rw [hi]
  rw [e] at hc
  exact hc
/-- the constants stand as told -/
structure CsAt (W : Wd) (Γ : Cs) (gls : List Str) : Prop where
  glb : ∀ (i : Nat) (x : Str) (d : D), gls[i]? = some x → Γ.Γ i = some d → ∃ u v, W.mg x = some u ∧ RelV v u ∧ ∀ ρ N H, RepV W.K ρ N H d v
  bare : ∀ x ∈ blts, W.mg x = none
  dic : ∀ (i : Nat) (x : Str) (l : List (List Nat × D)), gls[i]? = some x → Γ.Δ i = some l → ∃ a es n, W.mg x = some (.ref a) ∧ KDict W.K W.w a es n ∧ (∀ s : List Nat, ∃ r, PySem.W.nsIn W.K a ⟨s.toArray⟩ = some r ∧ r.isSome = (l.lookup s).isSome) ∧
    ∀ (s : List Nat) (d : D), l.lookup s = some d → ∃ u v, PySem.W.nsIn W.K a ⟨s.toArray⟩ = some (some u) ∧ RelV v u ∧ ∀ ρ N H, RepV W.K ρ N H d v
theorem dn_all {W : Wd} {Γ : Cs} {dfs : List Df} {gls : List Str} (hd : dfs.all (dfOk Γ.xd gls (fnsOf dfs)) = true) (hf : ∀ d ∈ dfs, DfAt W d) (cs : CsAt W Γ gls) (hx : XdOk W Γ.xd) :
    ∀ k, DnOk W (gDn Γ dfs k) gls (fnsOf dfs) (2 * k)
  | 0 => ⟨cs.glb, cs.bare, cs.dic, fun i x n h => by
      unfold fnsOf at h
      rw [List.getElem?_map] at h
      cases hi : dfs[i]? with
      | none => rw [hi] at h; cases h
      | some d =>
        rw [hi] at h
        simp only [Option.map_some, Option.some.injEq, Prod.mk.injEq] at h
        obtain ⟨rfl, rfl⟩ := h
        obtain ⟨f, fd, h1, h2, h3, _⟩ := (hf d (List.mem_of_getElem? hi)).at_
        refine ⟨f, fd, d.ps, h1, h2.kp, h3, ⟨fun vs H Q E ⟨ds, S, ρ, _, _, _, hc⟩ => hc.elim, fun A outer s H args us vs Q E _ _ _ _ ⟨ds, S, ρ, _, _, _, hc⟩ => hc.elim⟩⟩, hx⟩
  | k + 1 => ⟨cs.glb, cs.bare, cs.dic, fun i x n h => by
      have ih := dn_all hd hf cs hx k
      unfold fnsOf at h
      rw [List.getElem?_map] at h
      cases hi : dfs[i]? with
      | none => rw [hi] at h; cases h
      | some d =>
        rw [hi] at h
        simp only [Option.map_some, Option.some.injEq, Prod.mk.injEq] at h
        obtain ⟨rfl, rfl⟩ := h
        have hmem := List.mem_of_getElem? hi
        obtain ⟨f, fd, h1, h2, h3, h4⟩ := (hf d hmem).at_
        exact ⟨f, fd, d.ps, h1, h2.kp, h3, fn_one hi (List.all_eq_true.mp hd d hmem) ih h2 h4⟩, hx⟩
end PD

set_option Elab.async false
set_option linter.all false
set_option maxRecDepth 100000
namespace PD
open PySem PySem.Spec PyProof.Rows L2

def plainArgs (p : Arguments) (ps : List Str) : Bool := p.posonlyargs.isEmpty && p.vararg.isNone && p.kwonlyargs.isEmpty && p.kwarg.isNone && decide (p.args.map (·.arg) = ps) && nodupB ps
theorem filterMap_congr' {α β : Type} {f g : α → Option β} : ∀ {l : List α}, (∀ a ∈ l, f a = g a) → l.filterMap f = l.filterMap g
  | [], _ => rfl
  | a :: l, h => by
    rw [List.filterMap_cons, List.filterMap_cons, h a List.mem_cons_self, filterMap_congr' fun b hb => h b (List.mem_cons_of_mem _ hb)]
theorem zip_lookup : ∀ {ps : List Str} {us : List Value} , ps.Nodup → us.length = ps.length → (ps.filterMap fun n => ((ps.zip us).lookup n).map (n, ·)) = ps.zip us
  | [], us, _, h => by simp
  | p :: ps, [], _, h => by simp at h
  | p :: ps, u :: us, nd, h => by
    have nd' := List.nodup_cons.mp nd
    have ih := zip_lookup (us := us) nd'.2 (by simpa using h)
    rw [List.zip_cons_cons, List.filterMap_cons, List.lookup_cons_self]
    simp only [Option.map_some]
    congr 1
    have : (ps.filterMap fun n => (((p, u) :: ps.zip us).lookup n).map (n, ·)) = ps.filterMap fun n => ((ps.zip us).lookup n).map (n, ·) := by
      refine filterMap_congr' fun n hn => ?_
      have hne : (n == p) = false := by
        rw [beq_eq_false_iff_ne]
        intro e; subst e; exact nd'.1 hn
      rw [List.lookup_cons, hne]
    rw [this]; exact ih
theorem zip_some : ∀ {ps : List Str} {us : List Value} {n : Str}, us.length = ps.length → n ∈ ps → ((ps.zip us).lookup n).isNone = false
  | [], _, _, _, h => by cases h
  | p :: ps, [], _, h, _ => by simp at h
  | p :: ps, u :: us, n, h, hn => by
    rw [List.zip_cons_cons, List.lookup_cons]
    cases e : n == p with
    | true => rfl
    | false =>
      simp only
      refine zip_some (by simpa using h) ?_
      rcases List.mem_cons.mp hn with z | z
      · subst z; simp at e
      · exact z
theorem bind_plain {x qual : Str} {params : Arguments} {body : List Stmt} {scope : Scope} {ps : List Str} {kV doc pm : Value} {an : Option Addr} {cdv ct : Value} {us : List Value} (h : plainArgs params ps = true) (hl : us.length = ps.length) :
    bindArgs (PySem.W.fnOf x qual params body scope .none kV doc pm an cdv ct) ⟨us, []⟩ = pure (ps.zip us) := by
  obtain ⟨po, as, va, ko, kd, ka, df⟩ := params
  unfold plainArgs at h
  simp only [Bool.and_eq_true, List.isEmpty_iff, Option.isNone_iff_eq_none, decide_eq_true_eq] at h
  obtain ⟨⟨⟨⟨⟨rfl, rfl⟩, rfl⟩, rfl⟩, h5⟩, h6⟩ := h
  have nd := nodupB_ok h6
  have z1 := zip_lookup nd hl
  have z2 : (ps.filter fun n => ((ps.zip us).lookup n).isNone) = [] := by
    rw [List.filter_eq_nil_iff]
    intro n hn
    rw [zip_some hl hn]; exact Bool.false_ne_true
  unfold bindArgs
  simp only [PySem.W.fnOf, List.map_nil, List.nil_append, h5, List.forIn_nil, pure_bind, List.append_nil]
  have z3 : seqItems? (Value.none) = (pure none : Sem (Option (Array Value))) := rfl
  rw [z3]
  simp only [pure_bind, Option.getD_none, List.length_nil, List.drop_nil, Nat.sub_zero, hl, List.take_length, z2, List.drop_length, List.zip_nil_left, List.forIn_nil, z1]
  simp

mutual
def repB (K : PySem.W.Frag) : D → Value → Bool
  | .non, v => match v with
    | .none => true
    | _ => false
  | .bl b, v => match v with
    | .bool c => decide (b = c)
    | _ => false
  | .int i, v => match v with
    | .int j _ => decide (i = j)
    | _ => false
  | .str s, v => match v with
    | .str y _ => decide (y = ⟨s.toArray⟩) && decide (s.length ≤ sizeLine) && s.all fun c => decide (c < 0x110000)
    | _ => false
  | .tup ds, v => match v with
    | .ref a => (match K.lookup a with
      | some ⟨.type c, _, .seq its _, _⟩ => decide (c = "tuple") && decide (its.size ≤ sizeLine) && repBs K ds its.toList
      | _ => false)
    | _ => false
  | .rol ds, v => match v with
    | .ref a => (match K.lookup a with
      | some ⟨.type c, none, .seq its _, _⟩ => decide (c = "list") && decide (its.size ≤ sizeLine) && repBs K ds its.toList
      | _ => false)
    | _ => false
  | _, _ => false
def repBs (K : PySem.W.Frag) : List D → List Value → Bool
  | [], l => l.isEmpty
  | d :: ds, l => match l with
    | v :: vs => repB K d v && repBs K ds vs
    | [] => false
end
mutual
theorem repB_ok {K : PySem.W.Frag} : ∀ (d : D) {v : Value}, repB K d v = true → ∃ u, RelV u v ∧ ∀ ρ N H, RepV K ρ N H d u
  | .non, v, h => by
    unfold repB at h; split at h
    · exact ⟨.non, rfl, fun _ _ _ => .non⟩
    · cases h
  | .bl b, v, h => by
    unfold repB at h; split at h
    · cases of_decide_eq_true h; exact ⟨.bl b, rfl, fun _ _ _ => .bl b⟩
    · cases h
  | .int i, v, h => by
    unfold repB at h; split at h
    · cases of_decide_eq_true h; exact ⟨.int i, ⟨_, rfl⟩, fun _ _ _ => .int i⟩
    · cases h
  | .str s, v, h => by
    unfold repB at h; split at h
    · simp only [Bool.and_eq_true, decide_eq_true_eq] at h
      obtain ⟨⟨rfl, h2⟩, h3⟩ := h
      exact ⟨.str ⟨s.toArray⟩, ⟨_, rfl⟩, fun _ _ _ => .str s ⟨h2, h3⟩⟩
    · cases h
  | .tup ds, v, h => by
    unfold repB at h
    split at h
    · rename_i a
      split at h
      · rename_i c od its n sl hl
        simp only [Bool.and_eq_true, decide_eq_true_eq] at h
        obtain ⟨⟨rfl, h2⟩, h3⟩ := h
        obtain ⟨us, h4, h5⟩ := repBs_ok ds h3
        exact ⟨.ref a, rfl, fun ρ N H => .tup (.inr ⟨_, its, n, hl, rfl, rfl, h2, h4⟩) (h5 ρ N H)⟩
      · cases h
    · cases h
  | .rol ds, v, h => by
    unfold repB at h
    split at h
    · rename_i a
      split at h
      · rename_i c its n sl hl
        simp only [Bool.and_eq_true, decide_eq_true_eq] at h
        obtain ⟨⟨rfl, h2⟩, h3⟩ := h
        obtain ⟨us, h4, h5⟩ := repBs_ok ds h3
        exact ⟨.ref a, rfl, fun ρ N H => .rol (.inr (.inr ⟨_, its, n, hl, rfl, rfl, rfl, h2, h4⟩)) (h5 ρ N H)⟩
      · cases h
    · cases h
  | .lst _, _, h => by unfold repB at h; cases h
  | .dic _ _, _, h => by unfold repB at h; cases h
  | .st _, _, h => by unfold repB at h; cases h
  | .obj _, _, h => by unfold repB at h; cases h
  | .dob _, _, h => by unfold repB at h; cases h
  | .exn _, _, h => by unfold repB at h; cases h
theorem repBs_ok {K : PySem.W.Frag} : ∀ (ds : List D) {vs : List Value}, repBs K ds vs = true → ∃ us, Vals us vs ∧ ∀ ρ N H, RepVs K ρ N H ds us
  | [], vs, h => by
    unfold repBs at h
    rw [List.isEmpty_iff] at h
    subst h
    exact ⟨[], .nil, fun _ _ _ => .nil⟩
  | d :: ds, vs, h => by
    unfold repBs at h
    split at h
    · simp only [Bool.and_eq_true] at h
      obtain ⟨u, h1, h2⟩ := repB_ok d h.1
      obtain ⟨us, h3, h4⟩ := repBs_ok ds h.2
      exact ⟨u :: us, .cons h1 h3, fun ρ N H => .cons (h2 ρ N H) (h4 ρ N H)⟩
    · cases h
end
def glbB (K : PySem.W.Frag) (x : Str) (d : D) : Bool := match PySem.W.nsIn K mainGlobals x with
  | some (some v) => repB K d v
  | _ => false
/-- a dict's keys and values, where it is one by texts -/
def dicOf : D → Option (List (List Nat × D))
  | .dic ks vs => some ((ks.filterMap fun k => match k with | .str s => some s | _ => none).zip vs)
  | _ => none
def gam (gts : List (Str × D)) (xd : XD := {}) : Cs := ⟨fun i => match gts[i]? with
  | some (_, d) => (match dicOf d with
    | none => some d
    | some _ => none)
  | none => none, fun i => (gts[i]?).bind fun p => dicOf p.2, xd⟩
def dvB (K : PySem.W.Frag) (x : Str) (l : List (List Nat × D)) : Bool := l.all fun q => match PySem.W.nsIn K (He.ga K x) ⟨q.1.toArray⟩ with
  | some (some u) => repB K q.2 u
  | _ => false
def glbA (K : PySem.W.Frag) (x : Str) (d : D) : Bool := match dicOf d with
  | none => glbB K x d
  | some l => (match PySem.W.nsIn K mainGlobals x with
    | some (some (.ref _)) => true
    | _ => false) && dvB K x l
theorem find_keys {P : Params} {s : List Nat} : ∀ {es : List DictEntry} {l : List (List Nat × D)}, es.map He.keyOf = He.keysIn P (l.map fun q => ⟨q.1.toArray⟩) → (es.find? (·.key.isStr ⟨s.toArray⟩)).isSome = (l.lookup s).isSome ∧ es.any (·.refKey) = false
  | [], [], _ => ⟨rfl, rfl⟩
  | [], _ :: _, h => by cases h
  | _ :: _, [], h => by cases h
  | e :: es, q :: l, h => by
    have h1 : He.keyOf e :: es.map He.keyOf = some (⟨q.1.toArray⟩, PyData.keyHash P ⟨q.1.toArray⟩) :: He.keysIn P (l.map fun q => ⟨q.1.toArray⟩) := h
    injection h1 with h2 h3
    obtain ⟨i1, i2⟩ := find_keys (s := s) h3
    unfold He.keyOf at h2
    split at h2
    · rename_i x t hk
      have h4 := Option.some.inj h2
      obtain ⟨h5, h6⟩ := Prod.mk.inj h4
      subst h5
      have hr : e.refKey = false := by unfold DictEntry.refKey; rw [hk]
      refine ⟨?_, by rw [List.any_cons, hr, i2]; rfl⟩
      rw [List.find?_cons, hk]
      have hs : (Value.str (⟨q.1.toArray⟩ : Str) t).isStr ⟨s.toArray⟩ = decide (s = q.1) := by
        show ((⟨q.1.toArray⟩ : Str) == ⟨s.toArray⟩) = _
        rw [str_beq]
        by_cases z : s = q.1
        · subst z; simp
        · have z2 : ¬ q.1 = s := fun y => z y.symm
          simp [z, z2]
      rw [hs]
      rw [List.lookup_cons]
      by_cases z : s = q.1
      · subst z; simp
      · have : (s == q.1) = false := by simpa using z
        rw [this]; simp [z, i1]
    · cases h2
theorem ns_keys {K : PySem.W.Frag} {w : World} {a : Addr} {l : List (List Nat × D)} (h : He.dicW K a = some (He.keysIn w.params (l.map fun q => ⟨q.1.toArray⟩))) (s : List Nat) : ∃ r, PySem.W.nsIn K a ⟨s.toArray⟩ = some r ∧ r.isSome = (l.lookup s).isSome := by
  unfold He.dicW at h
  split at h
  · rename_i c es n sl hK
    split at h
    · have h1 := Option.some.inj h
      obtain ⟨i1, i2⟩ := find_keys (s := s) h1
      unfold PySem.W.nsIn
      rw [hK]
      simp only
      cases hf : es.toList.find? (·.key.isStr ⟨s.toArray⟩) with
      | some e => rw [hf] at i1; exact ⟨some e.val, rfl, by rw [← i1]; rfl⟩
      | none => rw [hf] at i1; rw [i2]; exact ⟨none, rfl, by rw [← i1]; rfl⟩
    · cases h
  · cases h
def tabOf (K : PySem.W.Frag) (x : Str) : Option (Addr × Addr) := match K.lookup (He.ga K x) with
  | some ⟨_, _, .func fd, _⟩ => (match fd.code with
    | .ref c => (match K.lookup c with
      | some ⟨_, _, .fields vs, _⟩ => (match (vs[11]? : Option Value) with
        | some (.ref P) => some (c, P)
        | _ => none)
      | _ => none)
    | _ => none)
  | _ => none
def hideK (ts : List Addr) (K : PySem.W.Frag) : PySem.W.Frag := K.filter fun p => !(ts.contains p.1)
theorem hideK_in {ts : List Addr} {K : PySem.W.Frag} : ∀ {a : Addr} {o : Obj}, (hideK ts K).lookup a = some o → K.lookup a = some o := by
  induction K with
  | nil => intro a o h; cases h
  | cons p K ih =>
    intro a o h
    unfold hideK at h ih
    rw [List.filter_cons] at h
    rw [List.lookup_cons]
    cases hp : ts.contains p.1 with
    | false =>
      rw [hp] at h
      simp only [Bool.not_false, if_true] at h
      rw [List.lookup_cons] at h
      cases e : a == p.1 with
      | true => rw [e] at h; exact h
      | false => rw [e] at h; exact ih h
    | true =>
      rw [hp] at h
      simp only [Bool.not_true, Bool.false_eq_true, if_false] at h
      cases e : a == p.1 with
      | false => exact ih h
      | true =>
        have ea : a = p.1 := by simpa using e
        subst ea
        exfalso
        have no : ∀ (L : PySem.W.Frag), (L.filter fun q => !(ts.contains q.1)).lookup p.1 = some o → False := by
          intro L
          induction L with
          | nil => intro h; cases h
          | cons q L ih2 =>
            intro h
            rw [List.filter_cons] at h
            cases hq : ts.contains q.1 with
            | true => rw [hq] at h; exact ih2 h
            | false =>
              rw [hq] at h
              simp only [Bool.not_false, if_true] at h
              rw [List.lookup_cons] at h
              cases e2 : p.1 == q.1 with
              | false => rw [e2] at h; exact ih2 h
              | true =>
                have : p.1 = q.1 := by simpa using e2
                rw [this, hq] at hp; cases hp
        exact no K h
theorem hideK_none {ts : List Addr} {K : PySem.W.Frag} {a : Addr} (ha : a ∈ ts) : (hideK ts K).lookup a = none := by
  unfold hideK
  induction K with
  | nil => rfl
  | cons q L ih =>
    rw [List.filter_cons]
    cases hq : ts.contains q.1 with
    | true => exact ih
    | false =>
      simp only [Bool.not_false, if_true]
      rw [List.lookup_cons]
      cases e2 : a == q.1 with
      | false => exact ih
      | true =>
        have : a = q.1 := by simpa using e2
        have c : ts.contains a = true := List.contains_iff_mem.mpr ha
        rw [this, hq] at c; cases c
def emptyTab (o : Option Obj) : Bool := match o with
  | some ⟨.none, none, .fields vs, sl⟩ => vs.isEmpty && sl.isEmpty
  | _ => false
theorem emptyTab_ok {o : Option Obj} (h : emptyTab o = true) : o = some { cls := .none, data := .fields #[] } := by
  unfold emptyTab at h
  split at h
  · rename_i vs sl
    simp only [Bool.and_eq_true, Array.isEmpty_iff] at h
    obtain ⟨rfl, rfl⟩ := h
    rfl
  · cases h
def bmB (K : PySem.W.Frag) : Bool := match PySem.W.nsIn K mainGlobals "__builtins__" with
  | some (some (.ref bm)) => !(bm == builtinsNs) && (match K.lookup bm with
    | some ⟨.type c, some d, .plain, _⟩ => decide (c = "module") && (d == builtinsNs)
    | _ => false)
  | _ => false
def tabsK (K : PySem.W.Frag) (gn : List Str) : List (Addr × Addr) := gn.filterMap (tabOf K)
/-- the def that tells an error's word -/
structure Wf where
  name : String
  st : Stmt
  ev : Str
  kv : Str
  cv : Str
def Wf.df (f : Wf) : Df := ⟨Str.ofString f.name, f.st, [f.ev], [f.ev, f.kv, f.cv], true, false, .nil⟩
def Wf.k (f : Wf) : Option Wk := wkOf f.ev (defBody f.st)
def gimp (sc : Scope) (x : Str) : Bool := match sc.names.lookup x with
  | some .globalImplicit => true
  | _ => false
def wlen (w : List Nat) : Bool := decide (w.length ≤ sizeLine) && w.all (fun c => decide (c < 0x110000))
/-- what is to be decided of it without a run -/
def Wf.ok (f : Wf) : Bool := scOk f.df && plainArgs (defArgs f.st) [f.ev] && okW f.ev && okW f.kv && okW f.cv && locs (defScope f.st) f.ev && locs (defScope f.st) f.kv && gimp (defScope f.st) "isinstance" && gimp (defScope f.st) "len" &&
  (match f.k with
  | some k => decide (k.kv = f.kv) && decide (k.cv = f.cv) && decide (k.cs.length ≤ 1000) && decide (k.ws.length ≤ 1000) && (k.cs.all fun c => gimp (defScope f.st) c && !(c == ("__debug__" : Str))) &&
    blkC [f.ev, f.kv, f.cv] (defScope f.st) k.scope [(f.cv, 2)] && locs (relS k.scope (defScope f.st)) f.cv
  | none => false)
def excCB (K : PySem.W.Frag) (D : Addr) : Bool :=
  decide (PySem.W.findIn K (.ref D) "__getattribute__" = some (some (.builtin "BaseException.__getattribute__"))) && decide (PySem.W.findIn K (.ref D) "__getattr__" = some none) && decide (PySem.W.subIn K (.ref D) (.type "BaseException") = some true) &&
  PySem.W.hasDictIn K D && decide (PySem.W.findIn K (.ref D) "__class__" = some (some (.builtin "object.__class__"))) && decide (PySem.W.specialIn K (.builtin "object.__class__") "__get__" = some (some (.builtin "getset_descriptor.__get__"))) &&
  decide (PySem.W.takesIn K (.builtin "object.__class__") = some true) && decide (PySem.W.mroIn K D (.type "object") = some true)
theorem excCB_ok {K : PySem.W.Frag} {D : Addr} (h : excCB K D = true) : ExcC K D := by
  unfold excCB at h
  simp only [Bool.and_eq_true, decide_eq_true_eq] at h
  obtain ⟨⟨⟨⟨⟨⟨⟨h1, h2⟩, h3⟩, h4⟩, h5⟩, h6⟩, h7⟩, h8⟩ := h
  exact ⟨h1, h2, h3, h4, h5, h6, h7, h8⟩
def gaS (K : PySem.W.Frag) (c : String) : Addr := He.ga K (Str.ofString c)
def gloB (K : PySem.W.Frag) (c : Str) : Bool := (He.Fa.glo c).ok K
/-- an error's word, in K -/
def wordB (K : PySem.W.Frag) (f : Wf) (x : String) (w : List Nat) : Bool := match f.k with
  | some k => wlen w && excCB K (gaS K x) && k.cs.all (gloB K) &&
    (match allS (k.cs.map fun c => PySem.W.kitOne K (.ref (gaS K x)) (.ref (He.ga K c))) with
    | some bs => decide (wordOf k bs = some ⟨w.toArray⟩)
    | none => false)
  | none => false
def xdB (K : PySem.W.Frag) (xd : XD) (wf : Option Wf) : Bool :=
  (xd.rs.all fun c => gloB K (Str.ofString c) && (He.Fa.exc (Str.ofString c)).ok K) && (xd.hs.all fun c => gloB K (Str.ofString c)) &&
  (xd.subs.all fun p => decide (PySem.W.exmOne K (.ref (gaS K p.1.1)) (.ref (gaS K p.1.2)) = some p.2)) &&
  (xd.words.all fun p => match wf with
    | some f => decide (f.name = xd.wn) && wordB K f p.1 p.2
    | none => false)
structure Hk where
  gts : List (Str × D)
  dfs : List Df
  xd : XD := {}
  wf : Option Wf := none
abbrev Hk.cs (k : Hk) : Cs := gam k.gts k.xd
def Df.dd (d : Df) : He.DefD := ⟨(d.name, none), d.name, d.name, defArgs d.st, defBody d.st, defScope d.st, [], []⟩
def Hk.fa (k : Hk) : List He.Fa := k.dfs.map (fun d => .glo d.name) ++ blts.map .free ++ k.wf.toList.map fun f => .glo (Str.ofString f.name)
def Hk.fn (k : Hk) : List He.DefD := k.dfs.map Df.dd ++ k.wf.toList.map fun f => f.df.dd
def Hk.gn (k : Hk) : List Str := (k.dfs.filter (·.gen)).map (·.name)
def Hk.dics (k : Hk) : List (Str × List (List Nat × D)) := k.gts.filterMap fun p => (dicOf p.2).map fun l => (p.1, l)
abbrev AlP : Type := Bool × List (Option (List (Option (Str × Int)))) × He.AlD
/-- what is looked at, in K, with the tables cs -/
def Hk.obs1 (k : Hk) (K : PySem.W.Frag) (cs : List (Addr × Addr)) (g : Addr → Option Obj) : AlP :=
  ((k.gts.all fun p => glbA K p.1 p.2) && xdB K k.xd k.wf && (cs.all fun p => emptyTab (g p.2) && PySem.W.codeHdIn K p.1 p.2) && (k.gn.isEmpty || bmB K) && (k.gn.all fun x => match tabOf K x with | some p => cs.contains p | none => false), k.dics.map fun q => He.dicW K (He.ga K q.1), He.obsD k.fa k.fn K)
def Hk.val (k : Hk) (w : World) : AlP := (true, k.dics.map fun q => some (He.keysIn w.params (q.2.map fun r => ⟨r.1.toArray⟩)), He.valD k.fn)
def Hk.obsG (k : Hk) (n : Nat) (g : Addr → Option Obj) : AlP := k.obs1 (hideK ((tabsK (He.frG g (He.asD g n)) k.gn).map (·.2)) (He.frG g (He.asD g n))) (tabsK (He.frG g (He.asD g n)) k.gn) g
/-- the facts -/
structure Says (k : Hk) (w : World) (h : Heap) (K : PySem.W.Frag) (cs : List (Addr × Addr)) : Prop where
  kin : K.In h
  glb : (k.gts.all fun p => glbA K p.1 p.2) = true
  tab : ∀ p ∈ cs, h.get? p.2 = some { cls := .none, data := .fields #[] } ∧ K.lookup p.2 = none ∧ PySem.W.codeHdIn K p.1 p.2 = true
  bm : k.gn = [] ∨ bmB K = true
  all : ∀ x ∈ k.gn, ∃ p, tabOf K x = some p ∧ p ∈ cs
  dic : ∀ q ∈ k.dics, He.dicW K (He.ga K q.1) = some (He.keysIn w.params (q.2.map fun r => ⟨r.1.toArray⟩))
  def_ : He.SaysD k.fa k.fn K
  xd : xdB K k.xd k.wf = true
theorem map_eq_at {α β : Type} {f g : α → β} : ∀ {l : List α}, l.map f = l.map g → ∀ a ∈ l, f a = g a
  | [], _, _, h => by cases h
  | b :: l, e, a, h => by
    have e' : f b :: l.map f = g b :: l.map g := e
    injection e' with e1 e2
    rcases List.mem_cons.mp h with rfl | h
    · exact e1
    · exact map_eq_at e2 a h
theorem says_of {k : Hk} {w : World} {h : Heap} {K : PySem.W.Frag} {cs : List (Addr × Addr)} (hK : K.In h) (hN : ∀ p ∈ cs, K.lookup p.2 = none) (e : k.obs1 K cs h.get? = k.val w) : Says k w h K cs := by
  unfold Hk.obs1 Hk.val at e
  injection e with e1 e4
  injection e4 with e2 e3
  simp only [Bool.and_eq_true] at e1
  obtain ⟨⟨⟨⟨a1, a0⟩, a2⟩, a3⟩, a4⟩ := e1
  refine ⟨hK, a1, fun p hp => ?_, ?_, fun x hx => ?_, fun q hq => map_eq_at e2 q hq, e3, a0⟩
  · have := List.all_eq_true.mp a2 p hp
    rw [Bool.and_eq_true] at this
    exact ⟨emptyTab_ok this.1, hN p hp, this.2⟩
  · rw [Bool.or_eq_true, List.isEmpty_iff] at a3
    exact a3
  · have := List.all_eq_true.mp a4 x hx
    split at this
    · rename_i p hp
      exact ⟨p, hp, List.contains_iff_mem.mp this⟩
    · cases this
def hookP (n : Nat) (k : Hk) : PySem.W.Hook where
  α := AlP
  obs := fun s => k.obsG n s.heap.get?
  val := fun w => k.val w
  says := fun w h => ∃ K cs, Says k w h K cs
  of := fun _ _ e => ⟨_, _, says_of (fun a o ho => He.frG_in a o (hideK_in ho)) (fun _ hp => hideK_none (List.mem_map_of_mem hp)) e⟩
  keeps := fun _ _ _ ⟨K, cs, s⟩ kp => ⟨K, cs, ⟨PySem.W.Frag.In.keeps s.kin kp, s.glb, fun p hp => ⟨kp _ _ (s.tab p hp).1, (s.tab p hp).2⟩, s.bm, s.all, s.dic, s.def_, s.xd⟩⟩
theorem Hk.obsG_eq {n : Nat} {k : Hk} {g : Addr → Option Obj} {s : Shared} (h : ∀ a, g a = s.heap.get? a) : k.obsG n g = (hookP n k).obs s := by
  have e : g = s.heap.get? := funext h
  rw [e] <;> rfl
section
variable {k : Hk} {w : World} {K : PySem.W.Frag} {cs : List (Addr × Addr)} {h : Heap} {mg : Str → Option Value}
theorem says_def (s : Says k w h K cs) (G : h.Ns mainGlobals mg) {d : Df} (hd : d ∈ k.dfs) (hp : plainArgs (defArgs d.st) d.ps = true) :
    ∃ fd, mg d.name = some (.ref (He.ga K d.name)) ∧ FunD K d.name d.name (defArgs d.st) (defBody d.st) (defScope d.st) [] [] (He.ga K d.name) fd ∧ Binds K fd d.ps [] ∧ ∀ (s : Shared) (us : List Value), us.length = d.ps.length → BindsTo s fd ⟨us, []⟩ (d.ps.zip us) := by
  have c2 := s.def_
  obtain ⟨i, hi⟩ := List.mem_iff_getElem?.mp hd
  have hl0 : i < k.dfs.length := (List.getElem?_eq_some_iff.mp hi).1
  obtain ⟨fd, F⟩ := c2.def_ i (d := d.dd) (by unfold Hk.fn; rw [List.getElem?_append_left (by simpa using hl0), List.getElem?_map, hi]; rfl)
  have hl : i < k.dfs.length := (List.getElem?_eq_some_iff.mp hi).1
  have e := He.glo_ok s.kin G (c2.fact i (f := .glo d.name) (by unfold Hk.fa; rw [List.append_assoc, List.getElem?_append_left (by simpa using hl), List.getElem?_map, hi]; rfl))
  exact ⟨fd, e, F, FunD.bindsN F fun _ _ _ _ _ _ us hus => bind_plain hp hus, fun s us hus => FunD.bindsA F (fun _ _ _ _ _ _ us hus => bind_plain hp hus) s us hus⟩
theorem says_bare (s : Says k w h K cs) (G : h.Ns mainGlobals mg) {x : Str} (hx : x ∈ blts) : mg x = none := by
  obtain ⟨i, hi⟩ := List.mem_iff_getElem?.mp hx
  exact He.free_ok s.kin G (s.def_.fact (k.dfs.length + i) (f := .free x) (by unfold Hk.fa; rw [List.append_assoc, List.getElem?_append_right (by simp), List.length_map, Nat.add_sub_cancel_left, List.getElem?_append_left (by rw [List.length_map]; exact (List.getElem?_eq_some_iff.mp hi).1), List.getElem?_map, hi]; rfl))
theorem lookup_mem {l : List (List Nat × D)} {s : List Nat} {d : D} (h : l.lookup s = some d) : (s, d) ∈ l := by
  induction l with
  | nil => cases h
  | cons q l ih =>
    rw [List.lookup_cons] at h
    cases e : s == q.1 with
    | true =>
      rw [e] at h
      have e1 : s = q.1 := by simpa using e
      have e2 : q.2 = d := Option.some.inj h
      rw [e1, ← e2]; exact List.mem_cons_self
    | false => rw [e] at h; exact List.mem_cons_of_mem _ (ih h)
theorem says_cs (s : Says k w h K cs) (G : h.Ns mainGlobals mg) (P : Program) (base : Heap) (T : List Addr) (cls : String → Value) : CsAt ⟨P, w, K, mg, base, T, cls⟩ k.cs (k.gts.map (·.1)) := by
  refine ⟨fun j y d h1 h2 => ?_, fun x hx => says_bare s G hx, fun j y l h1 h2 => ?_⟩
  · rw [List.getElem?_map] at h1
    cases hp : k.gts[j]? with
    | none => rw [hp] at h1; cases h1
    | some p =>
      rw [hp] at h1
      cases h1
      simp only [Hk.cs, gam, hp] at h2
      split at h2
      · rename_i hn
        cases h2
        have c0 := List.all_eq_true.mp s.glb p (List.mem_of_getElem? hp)
        have c2 : glbB K p.1 p.2 = true := by rw [glbA, hn] at c0; exact c0
        unfold glbB at c2
        split at c2
        · rename_i v hv
          obtain ⟨u, q1, q2⟩ := repB_ok p.2 c2
          exact ⟨v, u, PySem.W.mg_of s.kin G hv, q1, q2⟩
        · cases c2
      · cases h2
  · rw [List.getElem?_map] at h1
    cases hp : k.gts[j]? with
    | none => rw [hp] at h1; cases h1
    | some p =>
      rw [hp] at h1
      cases h1
      simp only [Hk.cs, gam, hp, Option.bind_some] at h2
      have hmem := List.mem_of_getElem? hp
      have c2 := List.all_eq_true.mp s.glb p hmem
      unfold glbA at c2
      rw [h2] at c2
      simp only [Bool.and_eq_true] at c2
      obtain ⟨c3, c4⟩ := c2
      have hd : (p.1, l) ∈ k.dics := List.mem_filterMap.mpr ⟨p, hmem, by rw [h2]; rfl⟩
      have hw := s.dic _ hd
      split at c3
      · rename_i a ha
        have hga : He.ga K p.1 = a := by unfold He.ga; rw [ha]
        have hmg := PySem.W.mg_of s.kin G ha
        obtain ⟨es, n, kd⟩ := He.dicW_ok hw
        rw [hga] at kd hw
        refine ⟨a, es, n, hmg, kd, fun s => ns_keys hw s, fun t d ht => ?_⟩
        have c5 := List.all_eq_true.mp c4 _ (lookup_mem ht)
        rw [hga] at c5
        simp only at c5
        split at c5
        · rename_i u hu
          obtain ⟨v, q1, q2⟩ := repB_ok d c5
          exact ⟨u, v, hu, q1, q2⟩
        · cases c5
      · cases c3
theorem says_tab (s : Says k w h K cs) {d : Df} (hd : d ∈ k.dfs) (hg : d.gen = true) {P : Program} {base : Heap} {mg : Str → Option Value} {cls : String → Value} (hT : ∀ p ∈ cs, GxR.TabB base mg p.1 p.2) : TabAt ⟨P, w, K, mg, base, cs.map (·.2), cls⟩ (He.ga K d.name) := by
  intro oc od fd osl hl
  obtain ⟨p, hp, hc⟩ := s.all d.name (List.mem_map_of_mem (List.mem_filter.mpr ⟨hd, hg⟩))
  unfold tabOf at hp
  have hl' : K.lookup (He.ga K d.name) = some ⟨oc, od, .func fd, osl⟩ := hl
  rw [hl'] at hp
  simp only at hp
  split at hp
  · rename_i c hcode
    split at hp
    · split at hp
      · cases hp
        exact ⟨_, _, hcode, hT _ hc, List.mem_map_of_mem hc⟩
      · cases hp
    · cases hp
  · cases hp
theorem says_bm (s : Says k w h K cs) (G : h.Ns mainGlobals mg) (hb : bmB K = true) : ∃ (bm : Addr) (ob : Obj), mg "__builtins__" = some (.ref bm) ∧ bm ≠ builtinsNs ∧ h.get? bm = some ob ∧ ob.cls = .type "module" ∧ ob.dict = some builtinsNs ∧ ob.data = .plain := by
  unfold bmB at hb
  split at hb
  · rename_i bm hn
    simp only [Bool.and_eq_true, Bool.not_eq_true'] at hb
    obtain ⟨h1, h2⟩ := hb
    split at h2
    · rename_i c d sl hl
      simp only [Bool.and_eq_true, decide_eq_true_eq] at h2
      obtain ⟨rfl, h3⟩ := h2
      have h3' : d = builtinsNs := by simpa using h3
      subst h3'
      exact ⟨bm, _, PySem.W.mg_of s.kin G hn, by simpa using h1, s.kin _ _ hl, rfl, rfl, rfl⟩
    · cases h2
  · cases hb
end
theorem gimp_ok {sc : Scope} {x : Str} (h : gimp sc x = true) : sc.names.lookup x = some .globalImplicit := by
  unfold gimp at h
  split at h
  · assumption
  · cases h
theorem locs_lk {sc : Scope} {x : Str} (h : locs sc x = true) : sc.names.lookup x = some .local := lk_local h
theorem lookup_some_mem {α β : Type} [BEq α] [LawfulBEq α] {l : List (α × β)} {a : α} {b : β} (h : l.lookup a = some b) : (a, b) ∈ l := by
  induction l with
  | nil => cases h
  | cons p l ih =>
    obtain ⟨c, d⟩ := p
    rw [List.lookup_cons] at h
    cases e : a == c with
    | true =>
      rw [e] at h
      have : a = c := by simpa using e
      subst this
      cases h
      exact List.mem_cons_self
    | false => rw [e] at h; exact List.mem_cons_of_mem _ (ih h)
theorem paired_of {α β : Type} {f : α → Option β} : ∀ {l : List α} {m : List β}, allS (l.map f) = some m → Paired (fun a b => f a = some b) l m
  | [], m, h => by cases h; exact .nil
  | a :: l, m, h => by
    rw [List.map_cons] at h
    cases e : f a with
    | none => rw [e] at h; cases h
    | some b =>
      rw [e] at h
      unfold allS at h
      obtain ⟨r', h1, rfl⟩ := Option.map_eq_some_iff.mp h
      exact .cons e (paired_of h1)
abbrev clsOf (K : PySem.W.Frag) : String → Value := fun c => .ref (gaS K c)
theorem says_xd {k : Hk} {w : World} {h : Heap} {K : PySem.W.Frag} {cs : List (Addr × Addr)} {mg : Str → Option Value} (s : Says k w h K cs) (G : h.Ns mainGlobals mg) (hwf : ∀ f, k.wf = some f → f.ok = true) (P : Program) (base : Heap) (T : List Addr) :
    XdOk ⟨P, w, K, mg, base, T, clsOf K⟩ k.xd := by
  have c := s.xd
  unfold xdB at c
  simp only [Bool.and_eq_true] at c
  obtain ⟨⟨⟨c1, c2⟩, c3⟩, c4⟩ := c
  have glo : ∀ {x : Str}, gloB K x = true → mg x = some (.ref (He.ga K x)) := fun hx => He.glo_ok s.kin G hx
  refine ⟨fun x hx => ?_, fun x hx => glo (List.all_eq_true.mp c2 x hx), fun x y b hb => ?_, fun x wd hwd => ?_⟩
  · have := List.all_eq_true.mp c1 x hx
    rw [Bool.and_eq_true] at this
    obtain ⟨e1, e2, e3, e4⟩ := He.exc_ok this.2
    exact ⟨gaS K x, glo this.1, rfl, e1, e2, e3, e4⟩
  · have := List.all_eq_true.mp c3 _ (lookup_some_mem hb)
    exact of_decide_eq_true this
  · have c5 := List.all_eq_true.mp c4 _ (lookup_some_mem hwd)
    split at c5
    · rename_i f hf
      simp only [Bool.and_eq_true, decide_eq_true_eq] at c5
      obtain ⟨c6, c7⟩ := c5
      unfold wordB at c7
      split at c7
      · rename_i kk hkk
        simp only [Bool.and_eq_true] at c7
        obtain ⟨⟨⟨d1, d2⟩, d3⟩, d4⟩ := c7
        split at d4
        · rename_i bs hbs
          have d5 := of_decide_eq_true d4
          have hok := hwf f hf
          unfold Wf.ok at hok
          rw [hkk] at hok
          simp only [Bool.and_eq_true, decide_eq_true_eq] at hok
          obtain ⟨⟨⟨⟨⟨⟨⟨⟨⟨o1, o2⟩, o3⟩, o4⟩, o5⟩, o6⟩, o7⟩, o8⟩, o9⟩, ⟨⟨⟨⟨⟨⟨q1, q2⟩, q3⟩, q4⟩, q5⟩, q6⟩, q7⟩⟩ := hok
          obtain ⟨sh, hbody, hev⟩ := wkOf_ok hkk
          have S := scOk_ok o1
          -- the def
          have dd := s.def_
          have hn : k.fn[k.dfs.length]? = some f.df.dd := by
            unfold Hk.fn
            rw [List.getElem?_append_right (by simp), List.length_map, Nat.sub_self, hf]; rfl
          obtain ⟨fd, F⟩ := dd.def_ k.dfs.length hn
          have hg : mg (Str.ofString f.name) = some (.ref (He.ga K (Str.ofString f.name))) := by
            refine He.glo_ok s.kin G (dd.fact (k.dfs.length + blts.length) (f := .glo (Str.ofString f.name)) ?_)
            unfold Hk.fa
            rw [List.append_assoc, List.getElem?_append_right (by simp), List.length_map, Nat.add_sub_cancel_left, List.getElem?_append_right (by simp), List.length_map, Nat.sub_self, hf]; rfl
          have B := FunD.bindsN F fun _ _ _ _ _ _ us hus => bind_plain o2 hus
          unfold wlen at d1
          rw [Bool.and_eq_true, decide_eq_true_eq] at d1
          have free : ∀ x : Str, x ∈ blts → mg x = none := fun x hx => says_bare s G hx
          refine ⟨d1, gaS K x, kk, rfl, ⟨⟨He.ga K (Str.ofString f.name), fd, defArgs f.st, defScope f.st, ?_, ?_, ?_, ?_, ?_, ?_, gimp_ok o8, gimp_ok o9, ?_, ?_, ?_⟩, hbody ▸ sh, ?_, excCB_ok d2, ⟨bs, ?_, d5⟩, ?_, free _ (by decide +kernel), free _ (by decide +kernel)⟩⟩
          · rw [← c6]; exact hg
          · rw [← c6, hbody]; exact F
          · rw [hev]; exact B
          · rw [hev, q1, q2]; exact S
          · rw [hev]; exact locs_lk o6
          · rw [q1]; exact locs_lk o7
          · intro c hc
            have := List.all_eq_true.mp q5 c hc
            simp only [Bool.and_eq_true, Bool.not_eq_true'] at this
            exact ⟨gimp_ok this.1, this.2⟩
          · rw [hev, q1, q2]; exact blkOk_by q6
          · rw [q2]; exact locs_lk q7
          · rw [hev, q1, q2]; exact S.nd
          · exact Paired.impM (paired_of hbs) fun a b ha hab => ⟨He.ga K a, glo (List.all_eq_true.mp d3 a ha), hab⟩
          · rw [hev, q1, q2]; exact ⟨o3, o4, o5, q3, q4⟩
        · cases d4
      · cases c7
    · cases c5
theorem cx_none {P : Program} {w : World} {H : Hp} {s : Shared} {e : Value} {s' : Shared} (h : L2N.CX P w [] H s (fun _ _ _ => False) e s') : False := by
  obtain ⟨_, _, _, _, _, _, _, _, _, _, _, _, z⟩ := h
  exact z
/-- the script, as data: a list that is read, or one that is known -/
def IsScript (ns : List Int) (d : D) : Prop := d = .rol (ns.map .int) ∨ d = .lst (ns.map .int)
theorem script_rep {K : PySem.W.Frag} {H : Hp} {a : Addr} {ns : List Int} (hS : SqL K H a (ns.map V.int)) : ∃ d, IsScript ns d ∧ RepV K ⟨fun _ => 0, []⟩ 0 H d (.ref a) := by
  have hints : ∀ ns : List Int, RepVs K ⟨fun _ => 0, []⟩ 0 H (ns.map D.int) (ns.map V.int) := fun ns => by
    induction ns with
    | nil => exact .nil
    | cons n ns ih => exact .cons (.int n) ih
  rcases hS with (h | ⟨o, h⟩) | h
  · exact ⟨_, .inr rfl, .lst h ⟨fun i hi => absurd hi (Nat.not_lt_zero _), fun z => by cases z⟩ (hints ns)⟩
  · exact ⟨_, .inl rfl, .rol (.inl ⟨o, h⟩) (hints ns)⟩
  · exact ⟨_, .inl rfl, .rol (.inr (.inr h)) (hints ns)⟩
theorem walk_PD {l : PySem.W.OpenLaw} {n k i m : Nat} {q : Program} {loose : List Str} {XP : (Str → Option Value) → Heap → Prop} {d : DefRec} {x : Str} {hk : Hk} {dl : Df}
    (hn : l.most = some n) (hn2 : n ≤ sizeLine) (hdf : d.params.defaults = []) (hr : Room (2 * (k + 1)) callerA) (hdfs : hk.dfs.all (dfOk hk.xd (hk.gts.map (·.1)) (fnsOf hk.dfs)) = true) (hwf : ∀ f, hk.wf = some f → f.ok = true) (hpl : hk.dfs.all (fun d => plainArgs (defArgs d.st) d.ps) = true)
    (hi : hk.dfs[i]? = some dl) (hnm : dl.name = d.name) (hps : dl.ps = [x]) (hgn : hk.gn ≠ [])
    (law : ∀ (ns : List Int) (s : D), ns.length ≤ n → IsScript ns s → Phi hk.cs hk.dfs (k + 1) i [s] [] = .ok (.bl true) []) :
    PySem.W.WalkO q loose XP (hookP m hk).says l.row.toRowW d [] (fun f vs => PySem.call f vs) := by
  refine Att.attach_call hn hdf fun w s₀ s₁ mg mb fa o pm cd doc a vs ns G Y ho hd hcd hmg hobj hints hlen hg => ?_
  obtain ⟨K, cs, s⟩ := Y
  have hmem := List.mem_of_getElem? hi
  obtain ⟨fd, e1, F, B, BA⟩ := says_def s G.T.g hmem (List.all_eq_true.mp hpl dl hmem)
  have efa : fa = He.ga K dl.name := by
    rw [hnm] at e1 ⊢
    rw [hmg] at e1
    injection (Option.some.inj e1)
  have hbm := says_bm s G.T.g (s.bm.resolve_left hgn)
  have prom : ∀ base : Heap, K.In base → base.Ns mainGlobals mg → (∀ p ∈ cs, LamX.TabB base mg p.1 p.2) → FnOk l.prog w K mg base (L2N.CX l.prog w) (2 * (k + 1)) fa fd [x] (fun vs H Q E => ∀ base : Heap, spD ⟨l.prog, w, K, mg, base, cs.map (·.2), clsOf K⟩ (Phi hk.cs hk.dfs (k + 1) i) 1 vs H Q E) := by
    intro base hB hG hT0
    have hT : ∀ p ∈ cs, GxR.TabB base mg p.1 p.2 := fun p hp => ⟨(hT0 p hp).code, (hT0 p hp).bm, (hT0 p hp).gP⟩
    have dn := dn_all (W := ⟨l.prog, w, K, mg, base, cs.map (·.2), clsOf K⟩) (Γ := hk.cs) (gls := hk.gts.map (·.1)) hdfs (fun d hd => by
        obtain ⟨fd, h1, h2, h3, _⟩ := says_def s G.T.g hd (List.all_eq_true.mp hpl d hd)
        exact ⟨_, fd, h1, h2, h3, fun hg => says_tab s hd hg hT⟩) (says_cs s G.T.g _ _ _ _) (says_xd s G.T.g hwf _ _ _) k
    have one := fn_one hi (List.all_eq_true.mp hdfs dl hmem) dn F (fun hg => says_tab s hmem hg hT)
    rw [hps, ← efa] at one
    exact FnOk.imp one fun vs H Q E h => h base
  refine LamX.law_callTs (CX := L2N.CX l.prog w) (cs := cs) s.kin G.T.g G.T.b G.T.builtins G.T.nolimit hg (fun p hp => (s.tab p hp).1) (fun p hp => (s.tab p hp).2.1) (fun p hp => PySem.W.codeHd_of_K s.kin (s.tab p hp).2.2) hbm hobj hints (Nat.le_trans hlen hn2) hr prom
    (fun s u => by have := BA s [u] (by rw [hps]; rfl); rw [hps] at this; exact this) (fun H hTb hS base => ?_) fun H e s' => cx_none
  obtain ⟨ds, hds, rd⟩ := script_rep hS
  refine ⟨[ds], [], ⟨fun _ => 0, []⟩, rfl, ⟨(fun i c h => by simp at h), (fun i j h => by simp at h), (fun p hp => ?_), (fun a ha => nomatch ha)⟩, .cons rd .nil, ?_⟩
  · obtain ⟨c, hc, rfl⟩ := List.mem_map.mp hp
    exact ⟨#[], hTb c hc, by simp [TriplesOk]⟩
  · rw [law ns ds hlen hds]
    exact fun ρ' H' e s v r => by cases r; rfl
end PD

set_option Elab.async false
set_option linter.all false
set_option maxRecDepth 100000
namespace PD
open PySem
theorem sizeLine_lit : sizeLine = 16777216 := sizeLine_eq
@[simp] theorem tru_bl (S : Store) (b : Bool) : (D.bl b).tru S = some b := id rfl
mutual
theorem frz_pure {N : Nat} {S : Store} : ∀ (d : D), d.pure = true → d.frz N S = some d
  | .non, _ => rfl
  | .bl _, _ => rfl
  | .int _, _ => rfl
  | .str _, _ => rfl
  | .tup ds, h => by simp only [D.pure] at h; simp only [D.frz, frzs_pure ds h, Option.map_some]
  | .lst ds, h => by simp only [D.pure] at h; simp only [D.frz, frzs_pure ds h, Option.map_some]
  | .rol ds, h => by simp only [D.pure] at h; simp only [D.frz, frzs_pure ds h, Option.map_some]
  | .dic ks vs, h => by
    simp only [D.pure, Bool.and_eq_true] at h
    simp only [D.frz, frzs_pure ks h.1, frzs_pure vs h.2, Option.map_some, Option.bind_some]
  | .st ds, h => by simp only [D.pure] at h; simp only [D.frz, frzs_pure ds h, Option.map_some]
  | .obj _, h => by simp [D.pure] at h
  | .dob _, h => by simp [D.pure] at h
  | .exn _, h => by simp [D.pure] at h
theorem frzs_pure {N : Nat} {S : Store} : ∀ (ds : List D), D.pures ds = true → D.frzs N S ds = some ds
  | [], _ => rfl
  | d :: ds, h => by
    simp only [D.pures, Bool.and_eq_true] at h
    simp only [D.frzs, frz_pure d h.1, frzs_pure ds h.2, Option.bind_some, Option.map_some]
end
theorem fin_pure {b : Bool} {N : Nat} {d : D} {S : Store} (h : d.pure = true) : fin b N d S = .ok d (S.take N) := by
  cases b with
  | true => simp [fin, frz_pure d h]
  | false =>
    unfold fin
    cases d <;> first | rfl | (simp [h]; done) | (simp [D.pure] at h; done)
@[simp] theorem fin_bl {b c : Bool} {N : Nat} {S : Store} : fin b N (.bl c) S = .ok (.bl c) (S.take N) := fin_pure rfl
@[simp] theorem fin_int {b : Bool} {i : Int} {N : Nat} {S : Store} : fin b N (.int i) S = .ok (.int i) (S.take N) := fin_pure rfl
@[simp] theorem fin_str {b : Bool} {i : List Nat} {N : Nat} {S : Store} : fin b N (.str i) S = .ok (.str i) (S.take N) := fin_pure rfl
@[simp] theorem fin_non {b : Bool} {N : Nat} {S : Store} : fin b N .non S = .ok .non (S.take N) := fin_pure rfl
mutual
theorem plain_pure : ∀ {d : D}, d.plain = true → d.pure = true
  | .non, _ => rfl
  | .bl _, _ => rfl
  | .int _, _ => rfl
  | .str _, _ => rfl
  | .tup ds, h => by simp only [D.plain] at h; simp only [D.pure, plains_pures h]
  | .lst ds, h => by simp only [D.plain] at h; simp only [D.pure, plains_pures h]
  | .rol ds, h => by simp only [D.plain] at h; simp only [D.pure, plains_pures h]
  | .dic _ _, h => by simp [D.plain] at h
  | .st _, h => by simp [D.plain] at h
  | .obj _, h => by simp [D.plain] at h
  | .dob _, h => by simp [D.plain] at h
  | .exn _, h => by simp [D.plain] at h
theorem plains_pures : ∀ {ds : List D}, D.plains ds = true → D.pures ds = true
  | [], _ => rfl
  | d :: ds, h => by
    simp only [D.plains, Bool.and_eq_true] at h
    simp only [D.pures, plain_pure h.1, plains_pures h.2, Bool.and_self]
end
theorem forL_inv {body : D → DEnv → Store → Out Fl} (P : Nat → DEnv → Store → Prop) {xs : List D} {δ : DEnv} {S : Store} (h0 : P 0 δ S)
    (step : ∀ i x δ S, xs[i]? = some x → P i δ S → ∃ δ' S', (body x δ S = .ok (.nx δ') S' ∨ body x δ S = .ok (.ct δ') S') ∧ P (i + 1) δ' S') : ∃ δ' S', forL body xs δ S = .ok (.nx δ') S' ∧ P xs.length δ' S' := by
  induction xs generalizing δ S P with
  | nil => exact ⟨δ, S, rfl, h0⟩
  | cons x xs ih =>
    obtain ⟨δ1, S1, hb, h1⟩ := step 0 x δ S rfl h0
    obtain ⟨δ2, S2, hf, h2⟩ := ih (fun i => P (i + 1)) h1 fun i y δ S hy hp => step (i + 1) y δ S (by simpa using hy) hp
    refine ⟨δ2, S2, ?_, h2⟩
    unfold forL
    rcases hb with hb | hb <;> rw [hb] <;> simpa using hf
/-- a comprehension whose parts change nothing -/
theorem mapL_pure {F : D → Store → Out (Option D)} {g : D → Option D} {S : Store} : ∀ {xs : List D}, (∀ x ∈ xs, F x S = .ok (g x) S) → mapL F xs S = .ok (xs.filterMap g) S
  | [], _ => rfl
  | x :: xs, h => by
    unfold mapL
    rw [h x List.mem_cons_self]
    simp only [Out.bind_ok]
    rw [mapL_pure fun y hy => h y (List.mem_cons_of_mem _ hy)]
    simp only [Out.bind_ok, List.filterMap_cons]
    cases g x <;> rfl
theorem allL_pure {F : D → Store → Out (Option D)} {g : D → Bool} {S : Store} {isAny : Bool} : ∀ {xs : List D}, (∀ x ∈ xs, F x S = .ok (some (.bl (g x))) S) → allL isAny F xs S = .ok (if isAny then xs.any g else xs.all g) S
  | [], _ => by cases isAny <;> rfl
  | x :: xs, h => by
    unfold allL
    rw [h x List.mem_cons_self]
    simp only [Out.bind_ok, D.asB_bl, liftB_some]
    have ih := allL_pure (isAny := isAny) (xs := xs) fun y hy => h y (List.mem_cons_of_mem _ hy)
    cases isAny <;> cases hg : g x <;> simp [hg, ih]
/-- a walk over what stays, one def's loop to its end -/
@[simp] theorem wipeD_nil (δ : DEnv) : wipeD δ [] = δ := id rfl
@[simp] theorem wipeD_cons (δ : DEnv) (v : Nat) (vs : List Nat) : wipeD δ (v :: vs) = (wipeD δ vs).set v none := id rfl
@[simp] theorem setAll_nil (ds : List D) (δ : DEnv) : setAll [] ds δ = δ := by cases ds <;> rfl
@[simp] theorem setAll_cons (i : Nat) (is : List Nat) (d : D) (ds : List D) (δ : DEnv) : setAll (i :: is) (d :: ds) δ = setAll is ds (δ.set i (some d)) := id rfl
@[simp] theorem getD_zero (d : D) (δ : DEnv) : getD (some d :: δ) 0 = some d := id rfl
@[simp] theorem getD_succ (x : Option D) (i : Nat) (δ : DEnv) : getD (x :: δ) (i + 1) = getD δ i := id rfl
theorem run_rt {G : Dn} {fz : Bool} {b : Sts} {len : Nat} {ds : List D} {S S' : Store} {d : D} (h : evSs G b (startD len ds) S = .ok (.rt d) S') : runF G fz b len ds S = fin fz S.length d S' := by unfold runF; rw [h]
section
variable {G : Dn} {δ : DEnv} {S : Store} {a b c e : Ex} {es : Exs} {d : D}
@[simp] theorem ev_cst : ev G (.cst d) δ S = .ok d S := id rfl
@[simp] theorem ev_var {i : Nat} : ev G (.var i) δ S = lift S (getD δ i) := id rfl
@[simp] theorem ev_glb {i : Nat} : ev G (.glb i) δ S = lift S (G.Γ i) := id rfl
@[simp] theorem ev_tup : ev G (.tup es) δ S = (evs G es δ S).bind fun ds S1 => if ds.length ≤ sizeLine then .ok (.tup ds) S1 else .bad := id rfl
@[simp] theorem ev_lst : ev G (.lst es) δ S = (evs G es δ S).bind fun ds S1 => mkList false ds S1 := id rfl
@[simp] theorem ev_lstO : ev G (.lstO es) δ S = (evs G es δ S).bind fun ds S1 => mkList true ds S1 := id rfl
@[simp] theorem ev_bin {o : BinO} : ev G (.bin o a b) δ S = (ev G a δ S).bind fun x S1 => (ev G b δ S1).bind fun y S2 => lift S2 (binF o x y S2) := id rfl
@[simp] theorem ev_neg : ev G (.neg a) δ S = (ev G a δ S).bind fun x S1 => lift S1 (negF x) := id rfl
@[simp] theorem ev_not : ev G (.not a) δ S = (ev G a δ S).bind fun x S1 => (liftB S1 (x.tru S1)).bind fun b S2 => .ok (.bl (!b)) S2 := id rfl
@[simp] theorem ev_and : ev G (.and a b) δ S = (ev G a δ S).bind fun x S1 => (liftB S1 x.asB).bind fun t S2 => if t then ev G b δ S2 else .ok (.bl false) S2 := id rfl
@[simp] theorem ev_or : ev G (.or a b) δ S = (ev G a δ S).bind fun x S1 => (liftB S1 x.asB).bind fun t S2 => if t then .ok (.bl true) S2 else ev G b δ S2 := id rfl
@[simp] theorem ev_one : ev G (.one a) δ S = ev G a δ S := id rfl
@[simp] theorem ev_ite : ev G (.ite c a b) δ S = (tst G c δ S).bind fun t S1 => if t then ev G a δ S1 else ev G b δ S1 := id rfl
@[simp] theorem ev_cmp {o : CmpO} : ev G (.cmp o a b) δ S = (ev G a δ S).bind fun x S1 => (ev G b δ S1).bind fun y S2 => lift S2 (cmpF o x y S2) := id rfl
@[simp] theorem ev_chn {o o' : CmpO} : ev G (.chn o o' a b c) δ S = (ev G a δ S).bind fun x S1 => (ev G b δ S1).bind fun y S2 => (lift S2 (cmpF o x y S2)).bind fun t S3 => (liftB S3 t.asB).bind fun t S3 => if t then (ev G c δ S3).bind fun z S4 => lift S4 (cmpF o' y z S4) else .ok (.bl false) S3 := id rfl
@[simp] theorem ev_idx : ev G (.idx a b) δ S = (ev G a δ S).bind fun x S1 => (ev G b δ S1).bind fun y S2 => lift S2 (dIdx x y S2) := id rfl
@[simp] theorem ev_cut {l h : Exo} : ev G (.cut a l h) δ S = (ev G a δ S).bind fun x S1 => (evo G l δ S1).bind fun lv S2 => (evo G h δ S2).bind fun hv S3 => lift S3 (dCut x lv hv S3) := id rfl
@[simp] theorem ev_call {f : Nat} : ev G (.call f es) δ S = (evs G es δ S).bind fun ds S1 => G.Φ f ds S1 := id rfl
@[simp] theorem ev_bif {f : Bif} : ev G (.bif f es) δ S = (evs G es δ S).bind fun ds S1 => lift S1 (bifF f ds S1) := id rfl
@[simp] theorem ev_isin {t : String} : ev G (.isin e t) δ S = (ev G e δ S).bind fun x S1 => lift S1 (isinF x t S1) := id rfl
@[simp] theorem ev_app : ev G (.app a e) δ S = (ev G a δ S).bind fun x S1 => (liftO S1 x.asO).bind fun n S1 => (ev G e δ S1).bind fun y S2 => appF n y S2 := id rfl
@[simp] theorem ev_pop : ev G (.pop a) δ S = (ev G a δ S).bind fun x S1 => (liftO S1 x.asO).bind fun n S1 => popF n S1 := id rfl
@[simp] theorem ev_join : ev G (.join a e) δ S = (ev G a δ S).bind fun x S1 => (liftO S1 x.asS).bind fun t S1 => (ev G e δ S1).bind fun y S2 => lift S2 (dJoin t y S2) := id rfl
@[simp] theorem ev_met1 {m : Met1} : ev G (.met1 m a e) δ S = (ev G a δ S).bind fun x S1 => (liftO S1 x.asS).bind fun t S1 => (ev G e δ S1).bind fun y S2 => lift S2 (dMet1 m t y) := id rfl
@[simp] theorem ev_find3 : ev G (.find3 a b e) δ S = (ev G a δ S).bind fun x S1 => (liftO S1 x.asS).bind fun t S1 => (ev G b δ S1).bind fun y S2 => (ev G e δ S2).bind fun z S3 => lift S3 (dFind3 t y z) := id rfl
@[simp] theorem ev_repl {y z : List Nat} : ev G (.repl a y z) δ S = (ev G a δ S).bind fun x S1 => (liftO S1 x.asS).bind fun t S1 => lift S1 (dRepl y z t) := id rfl
@[simp] theorem tst_met1 {m : Met1} : tst G (.met1 m a e) δ S = (ev G a δ S).bind fun x S1 => (liftO S1 x.asS).bind fun t S1 => (ev G e δ S1).bind fun y S2 => (lift S2 (dMet1 m t y)).bind fun z S3 => liftB S3 (z.tru S3) := id rfl
@[simp] theorem ev_lrev {o : Bool} : ev G (.lrev e o) δ S = (ev G e δ S).bind fun x S1 => (liftO S1 (x.lseq S1)).bind fun ds S2 => mkList o ds.reverse S2 := id rfl
@[simp] theorem ev_rev : ev G (.rev e) δ S = (ev G e δ S).bind fun x S1 => lift S1 (revF x S1) := id rfl
@[simp] theorem ev_ext : ev G (.ext a e) δ S = (ev G a δ S).bind fun x S1 => (liftO S1 x.asO).bind fun n S1 => (ev G e δ S1).bind fun y S2 => extF n y S2 := id rfl
@[simp] theorem ev_binO {o : BinO} : ev G (.binO o a b) δ S = (ev G a δ S).bind fun x S1 => (ev G b δ S1).bind fun y S2 => binOF o x y S2 := id rfl
@[simp] theorem ev_dnew : ev G .dnew δ S = mkDic [] [] S := id rfl
@[simp] theorem ev_lidx : ev G (.lidx o e) δ S = (ev G o δ S).bind fun x S1 => (liftO S1 (x.lseq S1)).bind fun _ S1 => (ev G e δ S1).bind fun y S2 => lift S2 (lidxF x y S2) := id rfl
@[simp] theorem ev_tupz : ev G (.tupz e) δ S = (ev G e δ S).bind fun x S1 => lift S1 (tupzF x S1) := id rfl
@[simp] theorem ev_unz : ev G (.unz e) δ S = (ev G e δ S).bind fun x S1 => lift S1 (unzF x) := id rfl
@[simp] theorem ev_dictZ : ev G (.dictZ e) δ S = (ev G e δ S).bind fun x S1 => lift S1 (dictZF x) := id rfl
@[simp] theorem ev_dictO : ev G (.dictO e) δ S = (ev G e δ S).bind fun x S1 => (liftO S1 (dictP x S1)).bind fun p S1 => mkDic p.1 p.2 S1 := id rfl
@[simp] theorem ev_listO : ev G (.listO e) δ S = (ev G e δ S).bind fun x S1 => (liftO S1 (x.seq S1)).bind fun ds S1 => mkList true ds S1 := id rfl
@[simp] theorem ev_met0 {m : Met0} : ev G (.met0 m a) δ S = (ev G a δ S).bind fun x S1 => (liftO S1 x.asS).bind fun t S1 => lift S1 (dMet0 m t) := id rfl
@[simp] theorem tst_met0 {m : Met0} : tst G (.met0 m a) δ S = (ev G a δ S).bind fun x S1 => (liftO S1 x.asS).bind fun t S1 => (lift S1 (dMet0 m t)).bind fun z S3 => liftB S3 (z.tru S3) := id rfl
@[simp] theorem ev_split {o : Bool} : ev G (.split a e o) δ S = (ev G a δ S).bind fun x S1 => (liftO S1 x.asS).bind fun t S1 => (ev G e δ S1).bind fun y S2 => (liftO S2 (dSplit t y)).bind fun ds S2 => mkList o ds S2 := id rfl
@[simp] theorem evs_star : evs G (.star e es) δ S = (ev G e δ S).bind fun x S1 => (liftO S1 (x.seq S1)).bind fun ds S1 => (evs G es δ S1).bind fun xs S2 => .ok (ds ++ xs) S2 := id rfl
@[simp] theorem evI_rng3 : evI G (.rng3 a b c) δ S = (ev G a δ S).bind fun x S1 => (ev G b δ S1).bind fun y S2 => (ev G c δ S2).bind fun z S3 => liftO S3 (rng3S x y z) := id rfl
@[simp] theorem evI_zip : evI G (.zip a b) δ S = (ev G a δ S).bind fun x S1 => (ev G b δ S1).bind fun y S2 => liftO S2 (zipS x y) := id rfl
@[simp] theorem evI_enm : evI G (.enm a) δ S = (ev G a δ S).bind fun x S1 => liftO S1 (enmS x) := id rfl
@[simp] theorem evS_setd {i : Nat} : evS G (.setd i a e) δ S = exS δ (ev G e δ S) fun v S1 => (liftO S1 ((getD δ i).bind D.asDO)).bind fun n S1 => exS δ (ev G a δ S1) fun y S2 => (setdF n y v S2).bind fun _ S3 => .ok (.nx δ) S3 := id rfl
@[simp] theorem evS_seti {i : Nat} : evS G (.seti i a e) δ S = exS δ (ev G e δ S) fun v S1 => (liftO S1 ((getD δ i).bind D.asO)).bind fun n S1 => exS δ (ev G a δ S1) fun y S2 => (setiF n y v S2).bind fun _ S3 => .ok (.nx δ) S3 := id rfl
@[simp] theorem rev_tup (ds : List D) : revF (.tup ds) S = some (.tup ds.reverse) := id rfl
@[simp] theorem rev_lst (ds : List D) : revF (.lst ds) S = some (.lst ds.reverse) := id rfl
@[simp] theorem zip_tup (ds es : List D) : zipS (.tup ds) (.tup es) = some (.st (zipL ds es)) := id rfl
@[simp] theorem zip_lst (ds es : List D) : zipS (.lst ds) (.lst es) = some (.st (zipL ds es)) := id rfl
@[simp] theorem enm_tup (ds : List D) : enmS (.tup ds) = some (.st (numL 0 ds)) := id rfl
@[simp] theorem enm_lst (ds : List D) : enmS (.lst ds) = some (.st (numL 0 ds)) := id rfl
@[simp] theorem enm_str (s : List Nat) : enmS (.str s) = some (.st (numL 0 (s.map fun c => .str [c]))) := id rfl
@[simp] theorem slots_tq (js : List Tgi) : (Tg.tq js).slots = js.flatMap Tgi.slots := id rfl
@[simp] theorem tset_tq (js : List Tgi) (ds : List D) (δ : DEnv) : tset (.tq js) (.tup ds) δ = setQ js ds δ := id rfl
@[simp] theorem setQ_nil (δ : DEnv) : setQ [] [] δ = some δ := id rfl
@[simp] theorem setQ_n (i : Nat) (js : List Tgi) (d : D) (ds : List D) (δ : DEnv) : setQ (.n i :: js) (d :: ds) δ = setQ js ds (δ.set i (some d)) := id rfl
@[simp] theorem setQ_t (is : List Nat) (js : List Tgi) (es ds : List D) (δ : DEnv) (h : es.length = is.length) : setQ (.t is :: js) (.tup es :: ds) δ = setQ js ds (setAll is es δ) := if_pos h
@[simp] theorem ev_kin {n : Bool} {i : Nat} : ev G (.kin n i e) δ S = (liftO S (G.Δ i)).bind fun l S => (ev G e δ S).bind fun x S1 => lift S1 (kinF n l x) := id rfl
@[simp] theorem ev_kidx {i : Nat} : ev G (.kidx i e) δ S = (liftO S (G.Δ i)).bind fun l S => (ev G e δ S).bind fun x S1 => lift S1 (kidxF l x) := id rfl
@[simp] theorem tst_not : tst G (.not a) δ S = (tst G a δ S).bind fun b S1 => .ok (!b) S1 := id rfl
@[simp] theorem tst_and : tst G (.and a b) δ S = (tst G a δ S).bind fun t S1 => if t then tst G b δ S1 else .ok false S1 := id rfl
@[simp] theorem tst_or : tst G (.or a b) δ S = (tst G a δ S).bind fun t S1 => if t then .ok true S1 else tst G b δ S1 := id rfl
@[simp] theorem tst_one : tst G (.one a) δ S = tst G a δ S := id rfl
@[simp] theorem tst_ite : tst G (.ite c a b) δ S = (tst G c δ S).bind fun t S1 => if t then tst G a δ S1 else tst G b δ S1 := id rfl
@[simp] theorem tst_cmp {o : CmpO} : tst G (.cmp o a b) δ S = (ev G a δ S).bind fun x S1 => (ev G b δ S1).bind fun y S2 => (lift S2 (cmpF o x y S2)).bind fun z S3 => liftB S3 z.asB := id rfl
@[simp] theorem tst_chn {o o' : CmpO} : tst G (.chn o o' a b c) δ S = (ev G a δ S).bind fun x S1 => (ev G b δ S1).bind fun y S2 => (lift S2 (cmpF o x y S2)).bind fun t S3 => (liftB S3 t.asB).bind fun t S3 => if t then (ev G c δ S3).bind fun z S4 => (lift S4 (cmpF o' y z S4)).bind fun z S5 => liftB S5 z.asB else .ok false S3 := id rfl
@[simp] theorem tst_cst : tst G (.cst d) δ S = liftB S (d.tru S) := id rfl
@[simp] theorem tst_var {i : Nat} : tst G (.var i) δ S = (lift S (getD δ i)).bind fun z S1 => liftB S1 (z.tru S1) := id rfl
@[simp] theorem tst_idx : tst G (.idx a b) δ S = (ev G a δ S).bind fun x S1 => (ev G b δ S1).bind fun y S2 => (lift S2 (dIdx x y S2)).bind fun z S3 => liftB S3 (z.tru S3) := id rfl
@[simp] theorem tst_call {f : Nat} : tst G (.call f es) δ S = (evs G es δ S).bind fun ds S1 => (G.Φ f ds S1).bind fun z S2 => liftB S2 (z.tru S2) := id rfl
@[simp] theorem tst_bif {f : Bif} : tst G (.bif f es) δ S = (evs G es δ S).bind fun ds S1 => (lift S1 (bifF f ds S1)).bind fun z S2 => liftB S2 (z.tru S2) := id rfl
@[simp] theorem tst_isin {t : String} : tst G (.isin e t) δ S = (ev G e δ S).bind fun x S1 => (lift S1 (isinF x t S1)).bind fun z S2 => liftB S2 (z.tru S2) := id rfl
@[simp] theorem tst_kin {n : Bool} {i : Nat} : tst G (.kin n i e) δ S = (liftO S (G.Δ i)).bind fun l S => (ev G e δ S).bind fun x S1 => (lift S1 (kinF n l x)).bind fun z S2 => liftB S2 (z.tru S2) := id rfl
@[simp] theorem tst_kidx {i : Nat} : tst G (.kidx i e) δ S = (liftO S (G.Δ i)).bind fun l S => (ev G e δ S).bind fun x S1 => (lift S1 (kidxF l x)).bind fun z S2 => liftB S2 (z.tru S2) := id rfl
@[simp] theorem evs_nil : evs G .nil δ S = .ok [] S := id rfl
@[simp] theorem evs_cons : evs G (.cons e es) δ S = (ev G e δ S).bind fun x S1 => (evs G es δ S1).bind fun xs S2 => .ok (x :: xs) S2 := id rfl
@[simp] theorem tsts_nil : tsts G .nil δ S = .ok true S := id rfl
@[simp] theorem tsts_one : tsts G (.cons e .nil) δ S = tst G e δ S := id rfl
@[simp] theorem evo_no : evo G .no δ S = .ok none S := id rfl
@[simp] theorem evo_ex : evo G (.ex e) δ S = (ev G e δ S).bind fun x S1 => (liftO S1 x.asI).bind fun i S2 => .ok (some i) S2 := id rfl
@[simp] theorem evI_seq : evI G (.seq e) δ S = (ev G e δ S).bind fun x S1 => liftO S1 (srcOf x) := id rfl
@[simp] theorem evI_rng1 : evI G (.rng1 a) δ S = (ev G a δ S).bind fun x S1 => liftO S1 (rngS (.int 0) x) := id rfl
@[simp] theorem evI_rng2 : evI G (.rng2 a b) δ S = (ev G a δ S).bind fun x S1 => (ev G b δ S1).bind fun y S2 => liftO S2 (rngS x y) := id rfl
variable {s : PD.St} {ss sa sb : Sts} {t : Tg}
@[simp] theorem evS_set {i : Nat} : evS G (.set i e) δ S = exS δ (ev G e δ S) fun d S1 => .ok (.nx (δ.set i (some d))) S1 := id rfl
@[simp] theorem evS_unp : evS G (.unp t e) δ S = exS δ (ev G e δ S) fun d S1 => (liftO S1 (tset t d δ)).bind fun δ' S1 => .ok (.nx δ') S1 := id rfl
@[simp] theorem evS_par2 {i j : Nat} : evS G (.par2 i j a b) δ S = exS δ (ev G a δ S) fun x S1 => exS δ (ev G b δ S1) fun y S2 => .ok (.nx ((δ.set i (some x)).set j (some y))) S2 := id rfl
@[simp] theorem evS_par3 {i j k : Nat} : evS G (.par3 i j k a b c) δ S = exS δ (ev G a δ S) fun x S1 => exS δ (ev G b δ S1) fun y S2 => exS δ (ev G c δ S2) fun z S3 => .ok (.nx (((δ.set i (some x)).set j (some y)).set k (some z))) S3 := id rfl
@[simp] theorem evS_aug {i : Nat} {o : BinO} : evS G (.aug i o e) δ S = (liftO S (getD δ i)).bind fun x S => exS δ (ev G e δ S) fun y S1 => (liftO S1 (augF o x y S1)).bind fun z S2 => .ok (.nx (δ.set i (some z))) S2 := id rfl
@[simp] theorem evS_exp : evS G (.exp e) δ S = exS δ (ev G e δ S) fun _ S1 => .ok (.nx δ) S1 := id rfl
@[simp] theorem evS_ret : evS G (.ret e) δ S = exS δ (ev G e δ S) fun d S1 => .ok (.rt d) S1 := id rfl
@[simp] theorem evS_iff : evS G (.iff e sa sb) δ S = exS δ (tst G e δ S) fun t S1 => if t then evSs G sa δ S1 else evSs G sb δ S1 := id rfl
@[simp] theorem evS_raise {c : String} : evS G (.raise c) δ S = .ok (.ex c δ) S := id rfl
@[simp] theorem evS_tryW {i : Nat} {c : String} : evS G (.tryW sa i c) δ S = catchF (fun x => G.xd.sub x c) (fun x S => liftW S (G.xd.word x)) (evSs G sa δ S) := id rfl
@[simp] theorem evS_pass : evS G .pass δ S = .ok (.nx δ) S := id rfl
@[simp] theorem evS_brk : evS G .brk δ S = .ok (.bk δ) S := id rfl
@[simp] theorem evS_cnt : evS G .cnt δ S = .ok (.ct δ) S := id rfl
@[simp] theorem evSs_nil : evSs G .nil δ S = .ok (.nx δ) S := id rfl
@[simp] theorem evSs_cons : evSs G (.cons s ss) δ S = thenF (evS G s δ S) fun δ1 S1 => evSs G ss δ1 S1 := id rfl
@[simp] theorem catchF_ex {sub : String → Option Bool} {h : String → Store → Out Fl} {x : String} : catchF sub h (.ok (.ex x δ) S) = match sub x with | some true => h x S | some false => .ok (.ex x δ) S | none => .bad := id rfl
@[simp] theorem liftW_some {w : List Nat} : liftW S (some w) = .ok (.rt (.str w)) S := id rfl
/-- a turn of a comprehension, of a generator expression -/
def turnB (G : Dn) (el : Ex) (t : Tg) (cs : Exs) (δ : DEnv) : D → Store → Out (Option D) := fun x S => (liftO S (tset t x (wipeD δ t.slots))).bind fun δ' S => (tsts G cs δ' S).bind fun b S2 => if b then (ev G el δ' S2).bind fun y S3 => .ok (some y) S3 else .ok none S2
theorem ev_comp {el : Ex} {it : It} {cs : Exs} {o : Bool} : ev G (.comp el t it cs o) δ S = (evI G it δ S).bind fun src S1 => (liftO S1 src.items).bind fun ds S1 => (nox (mapL (turnB G el t cs δ) ds S1)).bind fun ys S2 => mkList o ys S2 := rfl
theorem ev_compV {el : Ex} {it : It} {cs : Exs} {o : Bool} : ev G (.compV el t it cs o) δ S = (evI G it δ S).bind fun src S1 => (liftO S1 src.lvN).bind fun n S1 => (liftO S1 (cellL n S1)).bind fun ds S1 => (nox (mapL (keptB n ds (turnB G el t cs δ)) ds S1)).bind fun ys S2 => mkList o ys S2 := rfl
theorem ev_allG {el : Ex} {it : It} {cs : Exs} {o : Bool} : ev G (.allG o el t it cs) δ S = (evI G it δ S).bind fun src S1 => (liftO S1 src.items).bind fun ds S1 => (nox (allL o (turnB G el t cs δ) ds S1)).bind fun b S2 => .ok (.bl b) S2 := rfl
theorem tst_allG {el : Ex} {it : It} {cs : Exs} {o : Bool} : tst G (.allG o el t it cs) δ S = (evI G it δ S).bind fun src S1 => (liftO S1 src.items).bind fun ds S1 => (nox (allL o (turnB G el t cs δ) ds S1)).bind fun b S2 => .ok b S2 := rfl
/-- a loop's turn -/
def turnS (G : Dn) (t : Tg) (b : Sts) : D → DEnv → Store → Out Fl := fun x δ S => (liftO S (tset t x δ)).bind fun δ' S => evSs G b δ' S
theorem evS_forr {it : It} : evS G (.forr t it ss) δ S = exS δ (evI G it δ S) fun src S1 => match src with
    | .st ds => forL (turnS G t ss) ds δ S1
    | .lv n => forV n (turnS G t ss) manyT 0 δ S1 := rfl
theorem evS_whl : evS G (.whl c ss) δ S = whileF (fun δ S => tst G c δ S) (fun δ S => evSs G ss δ S) manyT δ S := rfl
end
theorem le_one (a b : Nat) : (!decide (([b] : List Nat) < [a])) = decide (a ≤ b) := by
  by_cases h : a ≤ b
  · have h2 : ¬ b < a := by omega
    simp [List.cons_lt_cons_iff, h, h2]
  · have h2 : b < a := by omega
    simp [List.cons_lt_cons_iff, h, h2]
@[simp] theorem tset_nm {i : Nat} {d : D} {δ : DEnv} : tset (.nm i) d δ = some (δ.set i (some d)) := id rfl
@[simp] theorem slots_nm {i : Nat} : (Tg.nm i).slots = [i] := id rfl
@[simp] theorem slots_tp {l : List Nat} : (Tg.tp l).slots = l := id rfl
end PD

set_option Elab.async false
set_option linter.all false
set_option maxRecDepth 100000
namespace PD
open PySem L2
@[simp] theorem szl : sizeLine = 16777216 := sizeLine_lit
@[simp] theorem isin_non_bool (S : Store) : isinF (.non) "bool" S = some (.bl false) := id rfl
@[simp] theorem isin_non_int (S : Store) : isinF (.non) "int" S = some (.bl false) := id rfl
@[simp] theorem isin_non_str (S : Store) : isinF (.non) "str" S = some (.bl false) := id rfl
@[simp] theorem isin_non_tuple (S : Store) : isinF (.non) "tuple" S = some (.bl false) := id rfl
@[simp] theorem isin_non_list (S : Store) : isinF (.non) "list" S = some (.bl false) := id rfl
@[simp] theorem isin_bl_bool (b : Bool) (S : Store) : isinF (.bl b) "bool" S = some (.bl true) := id rfl
@[simp] theorem isin_bl_int (b : Bool) (S : Store) : isinF (.bl b) "int" S = some (.bl true) := id rfl
@[simp] theorem isin_bl_str (b : Bool) (S : Store) : isinF (.bl b) "str" S = some (.bl false) := id rfl
@[simp] theorem isin_bl_tuple (b : Bool) (S : Store) : isinF (.bl b) "tuple" S = some (.bl false) := id rfl
@[simp] theorem isin_bl_list (b : Bool) (S : Store) : isinF (.bl b) "list" S = some (.bl false) := id rfl
@[simp] theorem isin_int_bool (i : Int) (S : Store) : isinF (.int i) "bool" S = some (.bl false) := id rfl
@[simp] theorem isin_int_int (i : Int) (S : Store) : isinF (.int i) "int" S = some (.bl true) := id rfl
@[simp] theorem isin_int_str (i : Int) (S : Store) : isinF (.int i) "str" S = some (.bl false) := id rfl
@[simp] theorem isin_int_tuple (i : Int) (S : Store) : isinF (.int i) "tuple" S = some (.bl false) := id rfl
@[simp] theorem isin_int_list (i : Int) (S : Store) : isinF (.int i) "list" S = some (.bl false) := id rfl
@[simp] theorem isin_str_bool (s : List Nat) (S : Store) : isinF (.str s) "bool" S = some (.bl false) := id rfl
@[simp] theorem isin_str_int (s : List Nat) (S : Store) : isinF (.str s) "int" S = some (.bl false) := id rfl
@[simp] theorem isin_str_str (s : List Nat) (S : Store) : isinF (.str s) "str" S = some (.bl true) := id rfl
@[simp] theorem isin_str_tuple (s : List Nat) (S : Store) : isinF (.str s) "tuple" S = some (.bl false) := id rfl
@[simp] theorem isin_str_list (s : List Nat) (S : Store) : isinF (.str s) "list" S = some (.bl false) := id rfl
@[simp] theorem isin_tup_bool (ds : List D) (S : Store) : isinF (.tup ds) "bool" S = some (.bl false) := id rfl
@[simp] theorem isin_tup_int (ds : List D) (S : Store) : isinF (.tup ds) "int" S = some (.bl false) := id rfl
@[simp] theorem isin_tup_str (ds : List D) (S : Store) : isinF (.tup ds) "str" S = some (.bl false) := id rfl
@[simp] theorem isin_tup_tuple (ds : List D) (S : Store) : isinF (.tup ds) "tuple" S = some (.bl true) := id rfl
@[simp] theorem isin_tup_list (ds : List D) (S : Store) : isinF (.tup ds) "list" S = some (.bl false) := id rfl
@[simp] theorem isin_lst_bool (ds : List D) (S : Store) : isinF (.lst ds) "bool" S = some (.bl false) := id rfl
@[simp] theorem isin_lst_int (ds : List D) (S : Store) : isinF (.lst ds) "int" S = some (.bl false) := id rfl
@[simp] theorem isin_lst_str (ds : List D) (S : Store) : isinF (.lst ds) "str" S = some (.bl false) := id rfl
@[simp] theorem isin_lst_tuple (ds : List D) (S : Store) : isinF (.lst ds) "tuple" S = some (.bl false) := id rfl
@[simp] theorem isin_lst_list (ds : List D) (S : Store) : isinF (.lst ds) "list" S = some (.bl true) := id rfl
@[simp] theorem isin_rol_bool (ds : List D) (S : Store) : isinF (.rol ds) "bool" S = some (.bl false) := id rfl
@[simp] theorem isin_rol_int (ds : List D) (S : Store) : isinF (.rol ds) "int" S = some (.bl false) := id rfl
@[simp] theorem isin_rol_str (ds : List D) (S : Store) : isinF (.rol ds) "str" S = some (.bl false) := id rfl
@[simp] theorem isin_rol_tuple (ds : List D) (S : Store) : isinF (.rol ds) "tuple" S = some (.bl false) := id rfl
@[simp] theorem isin_rol_list (ds : List D) (S : Store) : isinF (.rol ds) "list" S = some (.bl true) := id rfl
section
variable (S : Store)
@[simp] theorem b_add_int (i j : Int) : binF .add (.int i) (.int j) S = some (.int (i + j)) := id rfl
@[simp] theorem b_sub_int (i j : Int) : binF .sub (.int i) (.int j) S = some (.int (i - j)) := id rfl
theorem b_add_str {a b : List Nat} (h : a.length + b.length ≤ 16777216) : binF .add (.str a) (.str b) S = some (.str (a ++ b)) := if_pos (by rw [sizeLine_lit]; exact h)
theorem b_add_lst {a b : List D} (h : a.length + b.length ≤ 16777216) : binF .add (.lst a) (.lst b) S = some (.lst (a ++ b)) := if_pos (by rw [sizeLine_lit]; exact h)
theorem b_add_tup {a b : List D} (h : a.length + b.length ≤ 16777216) : binF .add (.tup a) (.tup b) S = some (.tup (a ++ b)) := if_pos (by rw [sizeLine_lit]; exact h)
theorem b_mul_int {i j : Int} (h : mulOk i j = true) : binF .mul (.int i) (.int j) S = some (.int (i * j)) := if_pos h
theorem b_mul_str {a : List Nat} {j : Int} (h : j < 9223372036854775808 ∧ -9223372036854775808 ≤ j ∧ a.length * j.toNat ≤ 16777216) : binF .mul (.str a) (.int j) S = some (.str (rep j.toNat a)) := if_pos ⟨h.1, h.2.1, by rw [sizeLine_lit]; exact h.2.2⟩
theorem b_mul_lst {a : List D} {j : Int} (h : j < 9223372036854775808 ∧ -9223372036854775808 ≤ j ∧ a.length * j.toNat ≤ 16777216) : binF .mul (.lst a) (.int j) S = some (.lst (rep j.toNat a)) := if_pos ⟨h.1, h.2.1, by rw [sizeLine_lit]; exact h.2.2⟩
theorem b_div_int {i j : Int} (h : 0 < j ∧ j < 1073741824) : binF .div (.int i) (.int j) S = some (.int (i / j)) := if_pos h
@[simp] theorem c_lt_int (i j : Int) : cmpF .lt (.int i) (.int j) S = some (.bl (decide (i < j))) := id rfl
@[simp] theorem c_le_int (i j : Int) : cmpF .le (.int i) (.int j) S = some (.bl (decide (i ≤ j))) := id rfl
@[simp] theorem c_gt_int (i j : Int) : cmpF .gt (.int i) (.int j) S = some (.bl (decide (j < i))) := id rfl
@[simp] theorem c_ge_int (i j : Int) : cmpF .ge (.int i) (.int j) S = some (.bl (decide (j ≤ i))) := id rfl
theorem c_lt_str (a b : List Nat) : cmpF .lt (.str a) (.str b) S = some (.bl (decide (a < b))) := rfl
theorem c_le_str (a b : List Nat) : cmpF .le (.str a) (.str b) S = some (.bl (!decide (b < a))) := rfl
theorem c_gt_str (a b : List Nat) : cmpF .gt (.str a) (.str b) S = some (.bl (decide (b < a))) := rfl
theorem c_ge_str (a b : List Nat) : cmpF .ge (.str a) (.str b) S = some (.bl (!decide (a < b))) := rfl
@[simp] theorem c_eq_int (i j : Int) : cmpF .eq (.int i) (.int j) S = some (.bl (decide (i = j))) := id rfl
@[simp] theorem c_eq_str (x y : List Nat) : cmpF .eq (.str x) (.str y) S = some (.bl (decide (x = y))) := id rfl
@[simp] theorem c_eq_bl (x y : Bool) : cmpF .eq (.bl x) (.bl y) S = some (.bl ((x == y))) := id rfl
@[simp] theorem c_eq_non_bl (b2 : Bool) : cmpF .eq (.non) (.bl b2) S = some (.bl false) := id rfl
@[simp] theorem c_eq_non_int (i2 : Int) : cmpF .eq (.non) (.int i2) S = some (.bl false) := id rfl
@[simp] theorem c_eq_non_str (s2 : List Nat) : cmpF .eq (.non) (.str s2) S = some (.bl false) := id rfl
@[simp] theorem c_eq_bl_non (b1 : Bool) : cmpF .eq (.bl b1) (.non) S = some (.bl false) := id rfl
@[simp] theorem c_eq_bl_str (b1 : Bool) (s2 : List Nat) : cmpF .eq (.bl b1) (.str s2) S = some (.bl false) := id rfl
@[simp] theorem c_eq_int_non (i1 : Int) : cmpF .eq (.int i1) (.non) S = some (.bl false) := id rfl
@[simp] theorem c_eq_int_str (i1 : Int) (s2 : List Nat) : cmpF .eq (.int i1) (.str s2) S = some (.bl false) := id rfl
@[simp] theorem c_eq_str_non (s1 : List Nat) : cmpF .eq (.str s1) (.non) S = some (.bl false) := id rfl
@[simp] theorem c_eq_str_bl (s1 : List Nat) (b2 : Bool) : cmpF .eq (.str s1) (.bl b2) S = some (.bl false) := id rfl
@[simp] theorem c_eq_str_int (s1 : List Nat) (i2 : Int) : cmpF .eq (.str s1) (.int i2) S = some (.bl false) := id rfl
@[simp] theorem c_eq_non_non : cmpF .eq .non .non S = some (.bl true) := id rfl
@[simp] theorem c_ne_int (i j : Int) : cmpF .ne (.int i) (.int j) S = some (.bl (!decide (i = j))) := id rfl
@[simp] theorem c_ne_str (x y : List Nat) : cmpF .ne (.str x) (.str y) S = some (.bl (!decide (x = y))) := id rfl
@[simp] theorem c_ne_bl (x y : Bool) : cmpF .ne (.bl x) (.bl y) S = some (.bl (!(x == y))) := id rfl
@[simp] theorem c_ne_non_bl (b2 : Bool) : cmpF .ne (.non) (.bl b2) S = some (.bl true) := id rfl
@[simp] theorem c_ne_non_int (i2 : Int) : cmpF .ne (.non) (.int i2) S = some (.bl true) := id rfl
@[simp] theorem c_ne_non_str (s2 : List Nat) : cmpF .ne (.non) (.str s2) S = some (.bl true) := id rfl
@[simp] theorem c_ne_bl_non (b1 : Bool) : cmpF .ne (.bl b1) (.non) S = some (.bl true) := id rfl
@[simp] theorem c_ne_bl_str (b1 : Bool) (s2 : List Nat) : cmpF .ne (.bl b1) (.str s2) S = some (.bl true) := id rfl
@[simp] theorem c_ne_int_non (i1 : Int) : cmpF .ne (.int i1) (.non) S = some (.bl true) := id rfl
@[simp] theorem c_ne_int_str (i1 : Int) (s2 : List Nat) : cmpF .ne (.int i1) (.str s2) S = some (.bl true) := id rfl
@[simp] theorem c_ne_str_non (s1 : List Nat) : cmpF .ne (.str s1) (.non) S = some (.bl true) := id rfl
@[simp] theorem c_ne_str_bl (s1 : List Nat) (b2 : Bool) : cmpF .ne (.str s1) (.bl b2) S = some (.bl true) := id rfl
@[simp] theorem c_ne_str_int (s1 : List Nat) (i2 : Int) : cmpF .ne (.str s1) (.int i2) S = some (.bl true) := id rfl
@[simp] theorem c_ne_non_non : cmpF .ne .non .non S = some (.bl false) := id rfl
theorem c_eq_of {x y : D} (h1 : x.plain = true) (h2 : y.plain = true) (h3 : min x.depth y.depth ≤ 150) (hx : x.rd S = x) (hy : y.rd S = y) : cmpF .eq x y S = some (.bl (x.eqv y)) := by
  show dEq x y S = _
  unfold dEq
  rw [hx, hy, h1, h2, decide_eq_true h3]; rfl
theorem c_ne_of {x y : D} (h1 : x.plain = true) (h2 : y.plain = true) (h3 : min x.depth y.depth ≤ 150) (hx : x.rd S = x) (hy : y.rd S = y) : cmpF .ne x y S = some (.bl (!x.eqv y)) := by
  show dNe x y S = _
  unfold dNe
  rw [hx, hy, h1, h2, decide_eq_true h3]; rfl
@[simp] theorem c_is_non (x : D) : cmpF .is_ x .non S = some (.bl x.isNon) := by cases x <;> rfl
@[simp] theorem c_isNot_non (x : D) : cmpF .isNot x .non S = some (.bl (!x.isNon)) := by cases x <;> rfl
@[simp] theorem c_is_bl (a b : Bool) : cmpF .is_ (.bl a) (.bl b) S = some (.bl (decide (a = b))) := id rfl
@[simp] theorem c_isNot_bl (a b : Bool) : cmpF .isNot (.bl a) (.bl b) S = some (.bl (!decide (a = b))) := id rfl
@[simp] theorem isNon_non : D.isNon (.non) = true := id rfl
@[simp] theorem isNon_bl (b : Bool) : D.isNon (.bl b) = false := id rfl
@[simp] theorem isNon_int (i : Int) : D.isNon (.int i) = false := id rfl
@[simp] theorem isNon_str (s : List Nat) : D.isNon (.str s) = false := id rfl
@[simp] theorem isNon_tup (ds : List D) : D.isNon (.tup ds) = false := id rfl
@[simp] theorem isNon_lst (ds : List D) : D.isNon (.lst ds) = false := id rfl
@[simp] theorem isNon_rol (ds : List D) : D.isNon (.rol ds) = false := id rfl
@[simp] theorem len_tup (ds : List D) : bifF .len [.tup ds] S = some (.int ds.length) := id rfl
@[simp] theorem len_lst (ds : List D) : bifF .len [.lst ds] S = some (.int ds.length) := id rfl
@[simp] theorem len_rol (ds : List D) : bifF .len [.rol ds] S = some (.int ds.length) := id rfl
@[simp] theorem len_str (s : List Nat) : bifF .len [.str s] S = some (.int s.length) := id rfl
@[simp] theorem bf_int (i : Int) : bifF .int [.int i] S = some (.int i) := id rfl
@[simp] theorem bf_abs (i : Int) : bifF .abs [.int i] S = some (.int (if i < 0 then -i else i)) := id rfl
@[simp] theorem bf_min2 (i j : Int) : bifF .min2 [.int i, .int j] S = some (.int (min i j)) := by show some (D.int (if j < i then j else i)) = _; congr 2; omega
@[simp] theorem bf_max2 (i j : Int) : bifF .max2 [.int i, .int j] S = some (.int (max i j)) := by show some (D.int (if j > i then j else i)) = _; congr 2; omega
@[simp] theorem bf_tuple_tup (ds : List D) : bifF .tuple [.tup ds] S = some (.tup ds) := id rfl
@[simp] theorem bf_list_tup (ds : List D) : bifF .list [.tup ds] S = some (.lst ds) := id rfl
@[simp] theorem bf_tuple_lst (ds : List D) : bifF .tuple [.lst ds] S = some (.tup ds) := id rfl
@[simp] theorem bf_list_lst (ds : List D) : bifF .list [.lst ds] S = some (.lst ds) := id rfl
@[simp] theorem bf_tuple_rol (ds : List D) : bifF .tuple [.rol ds] S = some (.tup ds) := id rfl
@[simp] theorem bf_list_rol (ds : List D) : bifF .list [.rol ds] S = some (.lst ds) := id rfl
@[simp] theorem ng_int (i : Int) : negF (.int i) = some (.int (-i)) := id rfl
theorem ix_nat {α : Type} {xs : List α} {i : Nat} : L2.atI xs (i : Int) = xs[i]? := by
  unfold L2.atI ixN
  by_cases h : i < xs.length
  · have h1 : (0 : Int) ≤ (i : Int) := by omega
    have h2 : (i : Int) < (xs.length : Int) := by omega
    simp [h2]
  · have h2 : ¬ (i : Int) < (xs.length : Int) := by omega
    simp [h2, List.getElem?_eq_none (Nat.le_of_not_lt h)]
theorem ix_int {α : Type} {xs : List α} {i : Int} (h : 0 ≤ i) : L2.atI xs i = xs[i.toNat]? := by
  obtain ⟨n, rfl⟩ := Int.eq_ofNat_of_zero_le h
  exact ix_nat
theorem ix_last {α : Type} {xs : List α} : L2.atI xs (-1) = xs.getLast? := by
  unfold L2.atI ixN
  cases xs with
  | nil => simp
  | cons x xs =>
    have h : ¬ ((0 : Int) ≤ -1) := by omega
    have h2 : -(((x :: xs).length : Nat) : Int) ≤ -1 := by simp; omega
    have h3 : (-1 + (((x :: xs).length : Nat) : Int)).toNat = xs.length := by simp; omega
    rw [if_neg h, if_pos h2, Option.bind_some, h3, List.getLast?_eq_getElem?]
    simp
@[simp] theorem ix0 {α : Type} {a : α} {r : List α} : L2.atI (a :: r) 0 = some a := ix_nat (i := 0)
@[simp] theorem ix1 {α : Type} {a b : α} {r : List α} : L2.atI (a :: b :: r) 1 = some b := ix_nat (i := 1)
@[simp] theorem ix2 {α : Type} {a b c : α} {r : List α} : L2.atI (a :: b :: c :: r) 2 = some c := ix_nat (i := 2)
@[simp] theorem ix3 {α : Type} {a b c d : α} {r : List α} : L2.atI (a :: b :: c :: d :: r) 3 = some d := ix_nat (i := 3)
@[simp] theorem ix4 {α : Type} {a b c d e : α} {r : List α} : L2.atI (a :: b :: c :: d :: e :: r) 4 = some e := ix_nat (i := 4)
@[simp] theorem dIdx_tup (ds : List D) (i : Int) : dIdx (.tup ds) (.int i) S = L2.atI ds i := id rfl
@[simp] theorem dIdx_lst (ds : List D) (i : Int) : dIdx (.lst ds) (.int i) S = L2.atI ds i := id rfl
@[simp] theorem dIdx_rol (ds : List D) (i : Int) : dIdx (.rol ds) (.int i) S = L2.atI ds i := id rfl
@[simp] theorem dIdx_str (s : List Nat) (i : Int) : dIdx (.str s) (.int i) S = (L2.atI s i).map fun c => .str [c] := id rfl
@[simp] theorem dCut_str (s : List Nat) (lo hi : Option Int) : dCut (.str s) lo hi S = some (.str (cutD s lo hi)) := id rfl
@[simp] theorem dCut_tup (s : List D) (lo hi : Option Int) : dCut (.tup s) lo hi S = some (.tup (cutD s lo hi)) := id rfl
@[simp] theorem dCut_lst (s : List D) (lo hi : Option Int) : dCut (.lst s) lo hi S = some (.lst (cutD s lo hi)) := id rfl
@[simp] theorem dCut_rol (s : List D) (lo hi : Option Int) : dCut (.rol s) lo hi S = some (.lst (cutD s lo hi)) := id rfl
end
theorem sIx_int (n d : Nat) {i : Int} (h : 0 ≤ i) : HT.sIx n d (some i) = min i.toNat n := by
  show (if i < 0 then (i + (n : Int)).toNat else min i.toNat n) = _
  rw [if_neg (by omega)]
theorem cutD_to {α : Type} (xs : List α) {b : Int} (h : 0 ≤ b) : cutD xs none (some b) = xs.take b.toNat := by
  unfold cutD
  rw [sIx_int _ _ h]
  show (xs.drop 0).take (min b.toNat xs.length - 0) = _
  rw [List.drop_zero, Nat.sub_zero, ← List.take_eq_take_min]
theorem cutD_from {α : Type} (xs : List α) {a : Int} (h : 0 ≤ a) : cutD xs (some a) none = xs.drop a.toNat := by
  unfold cutD
  rw [sIx_int _ _ h]
  show (xs.drop (min a.toNat xs.length)).take (xs.length - min a.toNat xs.length) = _
  rw [List.take_of_length_le (by rw [List.length_drop]; omega)]
  by_cases z : a.toNat ≤ xs.length
  · rw [Nat.min_eq_left z]
  · rw [Nat.min_eq_right (by omega), List.drop_length, List.drop_eq_nil_of_le (by omega)]
theorem cutD_mid {α : Type} (xs : List α) {a b : Int} (ha : 0 ≤ a) (hb : 0 ≤ b) : cutD xs (some a) (some b) = (xs.take b.toNat).drop a.toNat := by
  unfold cutD
  rw [sIx_int _ _ ha, sIx_int _ _ hb, List.drop_take]
  by_cases z : a.toNat ≤ xs.length
  · rw [Nat.min_eq_left z]
    by_cases y : b.toNat ≤ xs.length
    · rw [Nat.min_eq_left y]
    · rw [Nat.min_eq_right (by omega), List.take_of_length_le (by rw [List.length_drop]; omega), List.take_of_length_le (by rw [List.length_drop]; omega)]
  · rw [List.drop_eq_nil_of_le (i := min a.toNat xs.length) (by omega), List.drop_eq_nil_of_le (i := a.toNat) (by omega), List.take_nil, List.take_nil]
@[simp] theorem cutD_all' {α : Type} (xs : List α) : cutD xs none none = xs := by
  unfold cutD
  show (xs.drop 0).take (xs.length - 0) = _
  rw [List.drop_zero, Nat.sub_zero, List.take_length]
@[simp] theorem cutD_ton {α : Type} (xs : List α) (b : Nat) : cutD xs none (some (b : Int)) = xs.take b := cutD_to xs (by omega)
@[simp] theorem cutD_fromn {α : Type} (xs : List α) (a : Nat) : cutD xs (some (a : Int)) none = xs.drop a := cutD_from xs (by omega)
@[simp] theorem cutD_midn {α : Type} (xs : List α) (a b : Nat) : cutD xs (some (a : Int)) (some (b : Int)) = (xs.take b).drop a := cutD_mid xs (by omega) (by omega)
@[simp] theorem mkList_v {ds : List D} {S : Store} (h : ds.length ≤ 16777216) : mkList false ds S = .ok (.lst ds) S := if_pos (by rw [sizeLine_lit]; exact h)
@[simp] theorem tru_int (S : Store) (i : Int) : (D.int i).tru S = some (decide (i ≠ 0)) := id rfl
@[simp] theorem tru_str (S : Store) (s : List Nat) : (D.str s).tru S = some (!s.isEmpty) := id rfl
@[simp] theorem tru_non (S : Store) : D.non.tru S = some false := id rfl
@[simp] theorem tset_tp {is : List Nat} {ds : List D} {δ : DEnv} (h : ds.length = is.length) : tset (.tp is) (.tup ds) δ = some (setAll is ds δ) := if_pos h
@[simp] theorem aug_add_int (i j : Int) (S : Store) : augF .add (.int i) (.int j) S = some (.int (i + j)) := id rfl
@[simp] theorem aug_sub_int (i j : Int) (S : Store) : augF .sub (.int i) (.int j) S = some (.int (i - j)) := id rfl
theorem aug_add_str {a b : List Nat} (S : Store) (h : a.length + b.length ≤ 16777216) : augF .add (.str a) (.str b) S = some (.str (a ++ b)) := if_pos (by rw [sizeLine_lit]; exact h)
@[simp] theorem src_tup (ds : List D) : srcOf (.tup ds) = some (.st ds) := id rfl
@[simp] theorem src_lst (ds : List D) : srcOf (.lst ds) = some (.st ds) := id rfl
@[simp] theorem src_rol (ds : List D) : srcOf (.rol ds) = some (.st ds) := id rfl
@[simp] theorem src_str (s : List Nat) : srcOf (.str s) = some (.st (s.map fun c => .str [c])) := id rfl
@[simp] theorem src_obj (n : Nat) : srcOf (.obj n) = some (.lv n) := id rfl
@[simp] theorem items_st (ds : List D) : (Src.st ds).items = some ds := id rfl
@[simp] theorem asI_int (i : Int) : (D.int i).asI = some i := id rfl
@[simp] theorem asS_str (s : List Nat) : (D.str s).asS = some s := id rfl
@[simp] theorem asO_obj (n : Nat) : (D.obj n).asO = some n := id rfl
theorem rngS_lit {a b : Int} (h : -4611686018427387904 ≤ a ∧ a < 4611686018427387904 ∧ -4611686018427387904 ≤ b ∧ b < 4611686018427387904) : rngS (.int a) (.int b) = some (.st (rngL a b)) := by
  have : rngOk a b = true := decide_eq_true h
  unfold rngS
  simp only [this, if_true]
theorem rngL_0 (n : Nat) : rngL 0 (n : Int) = (List.range n).map fun (k : Nat) => D.int (k : Int) := by
  unfold rngL
  have : ((n : Int) - 0).toNat = n := by omega
  rw [this]
  simp
theorem rngS_0 {n : Nat} (h : n ≤ 1000000000) : rngS (.int 0) (.int (n : Int)) = some (.st ((List.range n).map fun (k : Nat) => D.int (k : Int))) := by
  rw [rngS_lit (by omega), rngL_0]
theorem run_nx {G : Dn} {fz : Bool} {b : Sts} {len : Nat} {ds : List D} {S S' : Store} {δ : DEnv} (h : evSs G b (startD len ds) S = .ok (.nx δ) S') : runF G fz b len ds S = .ok .non (S'.take S.length) := by unfold runF; rw [h]
theorem run_ex {G : Dn} {fz : Bool} {b : Sts} {len : Nat} {ds : List D} {S S' : Store} {x : String} {δ : DEnv} (h : evSs G b (startD len ds) S = .ok (.ex x δ) S') : runF G fz b len ds S = .exc x (S'.take S.length) := by unfold runF; rw [h]
@[simp] theorem runF_def {G : Dn} {fz : Bool} {b : Sts} {len : Nat} {ds : List D} {S : Store} : runF G fz b len ds S = (match evSs G b (startD len ds) S with
  | .ok (.rt d) S' => fin fz S.length d S'
  | .ok (.nx _) S' => .ok .non (S'.take S.length)
  | .ok (.ex x _) S' => .exc x (S'.take S.length)
  | _ => .bad) := rfl
@[simp] theorem startD_0 {len : Nat} : startD len [] = List.replicate len none := by simp [startD]
@[simp] theorem startD_s {len : Nat} {d : D} {ds : List D} : startD (len + 1) (d :: ds) = some d :: startD len ds := by simp [startD]
theorem fin_plain {b : Bool} {N : Nat} {d : D} {S : Store} (h : d.plain = true) : fin b N d S = .ok d (S.take N) := fin_pure (plain_pure h)
@[simp] theorem plain_tup (ds : List D) : (D.tup ds).plain = D.plains ds := id rfl
@[simp] theorem plain_lst (ds : List D) : (D.lst ds).plain = D.plains ds := id rfl
@[simp] theorem plain_str (s : List Nat) : (D.str s).plain = true := id rfl
@[simp] theorem plain_int (s : Int) : (D.int s).plain = true := id rfl
@[simp] theorem plain_bl (s : Bool) : (D.bl s).plain = true := id rfl
@[simp] theorem plain_non : D.non.plain = true := id rfl
@[simp] theorem plains_nil : D.plains [] = true := id rfl
@[simp] theorem plains_cons (d : D) (ds : List D) : D.plains (d :: ds) = (d.plain && D.plains ds) := id rfl
@[simp] theorem fin_tup {b : Bool} {N : Nat} {ds : List D} {S : Store} (h : D.plains ds = true) : fin b N (.tup ds) S = .ok (.tup ds) (S.take N) := fin_plain h
@[simp] theorem fin_lst {b : Bool} {N : Nat} {ds : List D} {S : Store} (h : D.plains ds = true) : fin b N (.lst ds) S = .ok (.lst ds) (S.take N) := fin_plain h
@[simp] theorem tup_ok {ds : List D} {S : Store} (h : ds.length ≤ 16777216) : (if ds.length ≤ sizeLine then Out.ok (D.tup ds) S else .bad) = .ok (.tup ds) S := if_pos (by rw [sizeLine_lit]; exact h)
/-- one statement on -/
theorem step {G : Dn} {s : PD.St} {ss : Sts} {δ δ1 : DEnv} {S S1 : Store} (h : evS G s δ S = .ok (.nx δ1) S1) : evSs G (.cons s ss) δ S = evSs G ss δ1 S1 := by rw [evSs_cons, h, thenF_nx]
theorem step_rt {G : Dn} {s : PD.St} {ss : Sts} {δ : DEnv} {S S1 : Store} {d : D} (h : evS G s δ S = .ok (.rt d) S1) : evSs G (.cons s ss) δ S = .ok (.rt d) S1 := by rw [evSs_cons, h, thenF_rt]
theorem whileF_go {c : DEnv → Store → Out Bool} {body : DEnv → Store → Out Fl} {k : Nat} {δ δ1 : DEnv} {S S1 S2 : Store} (h : c δ S = .ok true S1) (hb : body δ S1 = .ok (.nx δ1) S2) : whileF c body (k + 1) δ S = whileF c body k δ1 S2 := by
  show exS δ (c δ S) _ = _
  rw [h, exS_ok, if_pos rfl, hb, turnF_nx]
theorem whileF_end {c : DEnv → Store → Out Bool} {body : DEnv → Store → Out Fl} {k : Nat} {δ : DEnv} {S S1 : Store} (h : c δ S = .ok false S1) : whileF c body (k + 1) δ S = .ok (.nx δ) S1 := by
  show exS δ (c δ S) _ = _
  rw [h, exS_ok, if_neg Bool.false_ne_true]
/-- a count that goes up -/
theorem while_up {c : DEnv → Store → Out Bool} {body : DEnv → Store → Out Fl} {S : Store} (δ : Nat → DEnv) {m K : Nat} (hK : m < K) (go : ∀ i, i < m → c (δ i) S = .ok true S ∧ body (δ i) S = .ok (.nx (δ (i + 1))) S) (stop : c (δ m) S = .ok false S) :
    whileF c body K (δ 0) S = .ok (.nx (δ m)) S := by
  have key : ∀ n i K, i + n = m → n < K → whileF c body K (δ i) S = .ok (.nx (δ m)) S := by
    intro n
    induction n with
    | zero =>
      intro i K h1 h2
      obtain ⟨K', rfl⟩ : ∃ K', K = K' + 1 := ⟨K - 1, by omega⟩
      have : i = m := by omega
      subst this
      exact whileF_end stop
    | succ n ih =>
      intro i K h1 h2
      obtain ⟨K', rfl⟩ : ∃ K', K = K' + 1 := ⟨K - 1, by omega⟩
      obtain ⟨h3, h4⟩ := go i (by omega)
      rw [whileF_go h3 h4]
      exact ih (i + 1) K' (by omega) (by omega)
  exact key m 0 K (by omega) hK
theorem comp_pure {G : Dn} {el : Ex} {t : Tg} {it : It} {cs : Exs} {δ : DEnv} {S : Store} {ds : List D} (g : D → Option D) (hi : evI G it δ S = .ok (.st ds) S) (h : ∀ x ∈ ds, turnB G el t cs δ x S = .ok (g x) S) (hl : ds.length ≤ 16777216) :
    ev G (.comp el t it cs false) δ S = .ok (.lst (ds.filterMap g)) S := by
  rw [ev_comp, hi, Out.bind_ok, items_st, liftO_some, Out.bind_ok, mapL_pure h, nox_ok, Out.bind_ok, mkList_v (Nat.le_trans (List.length_filterMap_le _ _) hl)]
theorem all_pure {G : Dn} {el : Ex} {t : Tg} {it : It} {cs : Exs} {δ : DEnv} {S : Store} {ds : List D} {isAny : Bool} (g : D → Bool) (hi : evI G it δ S = .ok (.st ds) S) (h : ∀ x ∈ ds, turnB G el t cs δ x S = .ok (some (.bl (g x))) S) :
    ev G (.allG isAny el t it cs) δ S = .ok (.bl (if isAny then ds.any g else ds.all g)) S := by
  rw [ev_allG, hi, Out.bind_ok, items_st, liftO_some, Out.bind_ok, allL_pure h, nox_ok, Out.bind_ok]
theorem tst_all {G : Dn} {el : Ex} {t : Tg} {it : It} {cs : Exs} {δ : DEnv} {S : Store} {o : Bool} : tst G (.allG o el t it cs) δ S = (ev G (.allG o el t it cs) δ S).bind fun z S1 => liftB S1 z.asB := by
  rw [tst_allG, ev_allG]
  simp only [Out.bind_assoc, Out.bind_ok, D.asB_bl, liftB_some]
/-- a turn over one name, one test -/
theorem turn_if {G : Dn} {el c : Ex} {i : Nat} {δ : DEnv} {S S1 : Store} {x : D} {b : Bool} (hc : tst G c ((δ.set i none).set i (some x)) S = .ok b S1) : turnB G el (.nm i) (.cons c .nil) δ x S = if b then (ev G el ((δ.set i none).set i (some x)) S1).bind fun y S3 => .ok (some y) S3 else .ok none S1 := by
  simp only [turnB, slots_nm, wipeD_cons, wipeD_nil, tset_nm, liftO_some, Out.bind_ok, tsts_one, hc]
theorem turn_el {G : Dn} {el : Ex} {i : Nat} {δ : DEnv} {S : Store} {x : D} : turnB G el (.nm i) .nil δ x S = (ev G el ((δ.set i none).set i (some x)) S).bind fun y S3 => .ok (some y) S3 := by
  simp only [turnB, slots_nm, wipeD_cons, wipeD_nil, tset_nm, liftO_some, Out.bind_ok, tsts_nil, if_true]
/-- nothing passes the test -/
theorem comp_non {G : Dn} {el c : Ex} {i : Nat} {it : It} {δ : DEnv} {S : Store} {ds : List D} (hi : evI G it δ S = .ok (.st ds) S) (h : ∀ x ∈ ds, tst G c ((δ.set i none).set i (some x)) S = .ok false S) (hl : ds.length ≤ 16777216) :
    ev G (.comp el (.nm i) it (.cons c .nil) false) δ S = .ok (.lst []) S := by
  rw [comp_pure (fun _ => none) hi (fun x hx => by rw [turn_if (h x hx), if_neg Bool.false_ne_true]) hl]
  simp
@[simp] theorem c_eq_nil (S : Store) : cmpF .eq (.lst []) (.lst []) S = some (.bl true) := id rfl
@[simp] theorem c_ne_nil (S : Store) : cmpF .ne (.lst []) (.lst []) S = some (.bl false) := id rfl
mutual
theorem eqv_refl : ∀ (x : D), x.plain = true → x.eqv x = true
  | .non, _ => rfl
  | .bl b, _ => by simp [D.eqv]
  | .int i, _ => by simp [D.eqv]
  | .str s, _ => by simp [D.eqv]
  | .tup ds, h => by simp only [D.eqv]; exact eqvs_refl ds h
  | .lst ds, h => by simp only [D.eqv]; exact eqvs_refl ds h
  | .rol ds, h => by simp only [D.eqv]; exact eqvs_refl ds h
  | .dic _ _, h => by cases h
  | .st _, h => by cases h
  | .obj _, h => by cases h
  | .exn _, h => by cases h
theorem eqvs_refl : ∀ (xs : List D), D.plains xs = true → D.eqvs xs xs = true
  | [], _ => rfl
  | x :: xs, h => by
    simp only [D.plains, Bool.and_eq_true] at h
    simp only [D.eqvs, eqv_refl x h.1, eqvs_refl xs h.2, Bool.and_self]
end
theorem plains_mem : ∀ {ds : List D} {x : D}, D.plains ds = true → x ∈ ds → x.plain = true
  | d :: ds, x, h, hx => by
    simp only [D.plains, Bool.and_eq_true] at h
    rcases List.mem_cons.mp hx with rfl | hx
    · exact h.1
    · exact plains_mem h.2 hx
theorem depths_mem : ∀ {ds : List D} {x : D}, x ∈ ds → x.depth ≤ D.depths ds
  | d :: ds, x, hx => by
    simp only [D.depths]
    rcases List.mem_cons.mp hx with rfl | hx
    · omega
    · have := depths_mem hx; omega
theorem plains_iff : ∀ {ds : List D}, D.plains ds = true ↔ ∀ x ∈ ds, x.plain = true
  | [] => by simp
  | d :: ds => by simp [D.plains, plains_iff (ds := ds)]
theorem it_rng1 {G : Dn} {e : Ex} {δ : DEnv} {S S1 : Store} {n : Nat} (he : ev G e δ S = .ok (.int (n : Int)) S1) (hn : n ≤ 1000000000) : evI G (.rng1 e) δ S = .ok (.st ((List.range n).map fun (k : Nat) => D.int (k : Int))) S1 := by
  rw [evI_rng1, he, Out.bind_ok, rngS_0 hn, liftO_some]
theorem it_rng2 {G : Dn} {e f : Ex} {δ : DEnv} {S S1 S2 : Store} {a b : Int} (he : ev G e δ S = .ok (.int a) S1) (hf : ev G f δ S1 = .ok (.int b) S2) (h : -4611686018427387904 ≤ a ∧ a < 4611686018427387904 ∧ -4611686018427387904 ≤ b ∧ b < 4611686018427387904) : evI G (.rng2 e f) δ S = .ok (.st (rngL a b)) S2 := by
  rw [evI_rng2, he, Out.bind_ok, hf, Out.bind_ok, rngS_lit h, liftO_some]
theorem mapL_inv {F : D → Store → Out (Option D)} (P : Store → Prop) (Q : D → Prop) : ∀ {xs : List D} {S : Store}, (∀ x ∈ xs, ∀ S, P S → ∃ y S', F x S = .ok (some y) S' ∧ Q y ∧ P S') → P S → ∃ ys S', mapL F xs S = .ok ys S' ∧ (∀ y ∈ ys, Q y) ∧ ys.length = xs.length ∧ P S'
  | [], S, _, hS => ⟨[], S, rfl, fun _ h => (nomatch h), rfl, hS⟩
  | x :: xs, S, h, hS => by
    obtain ⟨y, S1, e1, q1, p1⟩ := h x List.mem_cons_self S hS
    obtain ⟨ys, S2, e2, q2, l2, p2⟩ := mapL_inv P Q (xs := xs) (fun z hz => h z (List.mem_cons_of_mem _ hz)) p1
    refine ⟨y :: ys, S2, ?_, fun z hz => ?_, by simp [l2], p2⟩
    · unfold mapL
      rw [e1, Out.bind_ok, e2, Out.bind_ok]
    · rcases List.mem_cons.mp hz with rfl | hz
      · exact q1
      · exact q2 z hz
theorem comp_inv {G : Dn} {el : Ex} {t : Tg} {it : It} {cs : Exs} {δ : DEnv} {S S0 : Store} {ds : List D} (P : Store → Prop) (Q : D → Prop) (hi : evI G it δ S = .ok (.st ds) S0) (h : ∀ x ∈ ds, ∀ S, P S → ∃ y S', turnB G el t cs δ x S = .ok (some y) S' ∧ Q y ∧ P S') (hS : P S0) (hl : ds.length ≤ 16777216) :
    ∃ ys S', ev G (.comp el t it cs false) δ S = .ok (.lst ys) S' ∧ (∀ y ∈ ys, Q y) ∧ ys.length = ds.length ∧ P S' := by
  obtain ⟨ys, S', e, q, l, p⟩ := mapL_inv P Q h hS
  refine ⟨ys, S', ?_, q, l, p⟩
  rw [ev_comp, hi, Out.bind_ok, items_st, liftO_some, Out.bind_ok, e, nox_ok, Out.bind_ok, mkList_v (by omega)]
theorem join_one : ∀ {ds : List D} (S : Store), (∀ d ∈ ds, ∃ c : Nat, d = .str [c]) → ds.length ≤ 16777216 → ∃ cs : List Nat, ds = cs.map (fun c => D.str [c]) ∧ dJoin [] (.lst ds) S = some (.str cs) := by
  intro ds S h hl
  obtain ⟨cs, rfl⟩ : ∃ cs : List Nat, ds = cs.map (fun c => D.str [c]) := by
    clear hl
    induction ds with
    | nil => exact ⟨[], rfl⟩
    | cons d ds ih =>
      obtain ⟨c, rfl⟩ := h d List.mem_cons_self
      obtain ⟨cs, rfl⟩ := ih fun z hz => h z (List.mem_cons_of_mem _ hz)
      exact ⟨c :: cs, rfl⟩
  refine ⟨cs, rfl, ?_⟩
  have e1 : strsOf (cs.map (fun c => D.str [c])) = some (cs.map ([·])) := by
    induction cs with
    | nil => rfl
    | cons c cs ih => simp only [List.map_cons, strsOf, ih (fun d hd => h d (List.mem_cons_of_mem _ hd)) (by simp at hl ⊢; omega), Option.map_some]
  have e2 : ∀ cs : List Nat, TL.joinL [] (cs.map ([·])) = cs := fun cs => by
    induction cs with
    | nil => rfl
    | cons c cs ih =>
      cases cs with
      | nil => rfl
      | cons d cs =>
        have : TL.joinL [] ([c] :: [d] :: cs.map ([·])) = [c] ++ [] ++ TL.joinL [] ([d] :: cs.map ([·])) := rfl
        rw [List.map_cons, List.map_cons, this]
        rw [List.map_cons] at ih
        rw [ih]; rfl
  have e3 : ((cs.map ([·])).map List.length).sum = cs.length := by
    clear e1 hl h
    induction cs with
    | nil => rfl
    | cons c cs ih => simp only [List.map_cons, List.sum_cons, ih, List.length_cons, List.length_nil]; omega
  rw [List.length_map] at hl
  unfold dJoin
  show ((some _).bind strsOf).bind _ = _
  rw [Option.bind_some, e1, Option.bind_some, e2, e3, if_pos ⟨by simp; omega, by rw [sizeLine_lit]; exact hl⟩]
theorem mapL_none {F : D → Store → Out (Option D)} (P : Store → Prop) : ∀ {xs : List D} {S : Store}, (∀ x ∈ xs, ∀ S, P S → ∃ S', F x S = .ok none S' ∧ P S') → P S → ∃ S', mapL F xs S = .ok [] S' ∧ P S'
  | [], S, _, hS => ⟨S, rfl, hS⟩
  | x :: xs, S, h, hS => by
    obtain ⟨S1, e1, p1⟩ := h x List.mem_cons_self S hS
    obtain ⟨S2, e2, p2⟩ := mapL_none P (xs := xs) (fun z hz => h z (List.mem_cons_of_mem _ hz)) p1
    refine ⟨S2, ?_, p2⟩
    unfold mapL
    rw [e1, Out.bind_ok, e2, Out.bind_ok]
theorem comp_none {G : Dn} {el c : Ex} {i : Nat} {it : It} {δ : DEnv} {S S0 : Store} {ds : List D} (P : Store → Prop) (hi : evI G it δ S = .ok (.st ds) S0) (h : ∀ x ∈ ds, ∀ S, P S → ∃ S', tst G c ((δ.set i none).set i (some x)) S = .ok false S' ∧ P S') (hS : P S0) :
    ∃ S', ev G (.comp el (.nm i) it (.cons c .nil) false) δ S = .ok (.lst []) S' ∧ P S' := by
  obtain ⟨S', e, p⟩ := mapL_none (F := turnB G el (.nm i) (.cons c .nil) δ) P (fun x hx S hp => by
    obtain ⟨S', e, p'⟩ := h x hx S hp
    exact ⟨S', by rw [turn_if e, if_neg Bool.false_ne_true], p'⟩) hS
  exact ⟨S', by rw [ev_comp, hi, Out.bind_ok, items_st, liftO_some, Out.bind_ok, e, nox_ok, Out.bind_ok, mkList_v (by simp)], p⟩
theorem turnS_nm {G : Dn} {i : Nat} {b : Sts} {x : D} {δ : DEnv} {S : Store} : turnS G (.nm i) b x δ S = evSs G b (δ.set i (some x)) S := by rw [turnS, tset_nm, liftO_some, Out.bind_ok]
theorem turnS_tp {G : Dn} {is : List Nat} {b : Sts} {ds : List D} {δ : DEnv} {S : Store} (h : ds.length = is.length) : turnS G (.tp is) b (.tup ds) δ S = evSs G b (setAll is ds δ) S := by rw [turnS, tset_tp h, liftO_some, Out.bind_ok]
end PD

set_option Elab.async false
set_option linter.all false
set_option maxRecDepth 100000
namespace PD
open PySem
theorem eq_nil {ds : List D} (S : Store) (h : D.plains ds = true) : cmpF .eq (.lst ds) (.lst []) S = some (.bl ds.isEmpty) := by
  rw [c_eq_of S (by simpa using h) rfl (by simp [D.depth, D.depths]) rfl rfl]
  cases ds <;> rfl
theorem ne_nil {ds : List D} (S : Store) (h : D.plains ds = true) : cmpF .ne (.lst ds) (.lst []) S = some (.bl (!ds.isEmpty)) := by
  rw [c_ne_of S (by simpa using h) rfl (by simp [D.depth, D.depths]) rfl rfl]
  cases ds <;> rfl
theorem joinL_nil : ∀ (ys : List (List Nat)), TL.joinL [] ys = ys.flatten
  | [] => rfl
  | [y] => by simp [TL.joinL]
  | y :: z :: r => by
    have ih := joinL_nil (z :: r)
    unfold TL.joinL
    rw [ih]; simp
theorem strsOf_map (ys : List (List Nat)) : strsOf (ys.map D.str) = some ys := by
  induction ys with
  | nil => rfl
  | cons y ys ih => simp only [List.map_cons, strsOf, ih, Option.map_some]
theorem join_flat {ys : List (List Nat)} (S : Store) (h : ys.flatten.length ≤ 16777216) : dJoin [] (.lst (ys.map D.str)) S = some (.str ys.flatten) := by
  unfold dJoin
  show ((some (ys.map D.str)).bind strsOf).bind _ = _
  rw [Option.bind_some, strsOf_map, Option.bind_some, joinL_nil, if_pos ⟨by rw [← List.length_flatten]; simpa using h, by rw [sizeLine_lit]; exact h⟩]
/-- a loop that goes on at good items, returns d at the first other one -/
theorem forL_ret {body : D → DEnv → Store → Out Fl} {good : D → Bool} {d : D} {S : Store} (P : DEnv → Prop) : ∀ {xs : List D} {δ : DEnv}, P δ → (∀ x ∈ xs, ∀ δ, P δ → if good x = true then ∃ δ', body x δ S = .ok (.nx δ') S ∧ P δ' else body x δ S = .ok (.rt d) S) →
    if xs.all good = true then ∃ δ', forL body xs δ S = .ok (.nx δ') S ∧ P δ' else forL body xs δ S = .ok (.rt d) S
  | [], δ, h0, _ => by simp only [List.all_nil, if_true]; exact ⟨δ, rfl, h0⟩
  | x :: xs, δ, h0, h => by
    have hx := h x List.mem_cons_self δ h0
    cases hg : good x with
    | false =>
      rw [hg] at hx
      simp only [Bool.false_eq_true, if_false] at hx
      simp only [List.all_cons, hg, Bool.false_and, Bool.false_eq_true, if_false]
      unfold forL
      rw [hx, turnF_rt]
    | true =>
      rw [hg] at hx
      simp only [if_true] at hx
      obtain ⟨δ1, e1, p1⟩ := hx
      have ih := forL_ret P (xs := xs) p1 fun y hy => h y (List.mem_cons_of_mem _ hy)
      simp only [List.all_cons, hg, Bool.true_and]
      split at ih
      · rename_i ha
        rw [if_pos ha]
        obtain ⟨δ2, e2, p2⟩ := ih
        exact ⟨δ2, by unfold forL; rw [e1, turnF_nx, e2], p2⟩
      · rename_i ha
        rw [if_neg ha]
        unfold forL
        rw [e1, turnF_nx, ih]
/-- a while that ends behind at most m turns -/
theorem while_inv {c : DEnv → Store → Out Bool} {body : DEnv → Store → Out Fl} (P : Nat → DEnv → Store → Prop) (Q : DEnv → Store → Prop) : ∀ (m : Nat) {K : Nat} {δ : DEnv} {S : Store}, m < K → P m δ S →
    (∀ i δ S, P i δ S → (∃ S', c δ S = .ok false S' ∧ Q δ S') ∨ (∃ S1 δ1 S2 j, c δ S = .ok true S1 ∧ body δ S1 = .ok (.nx δ1) S2 ∧ j < i ∧ P j δ1 S2)) → ∃ δ' S', whileF c body K δ S = .ok (.nx δ') S' ∧ Q δ' S' := by
  intro m
  induction m using Nat.strongRecOn with
  | _ m ih =>
    intro K δ S hK h0 st
    obtain ⟨K', rfl⟩ : ∃ K', K = K' + 1 := ⟨K - 1, by omega⟩
    rcases st m δ S h0 with ⟨S', e, q⟩ | ⟨S1, δ1, S2, j, e1, e2, hj, p⟩
    · exact ⟨δ, S', whileF_end e, q⟩
    · obtain ⟨δ', S', e3, q⟩ := ih j hj (K := K') (by omega) p st
      exact ⟨δ', S', by rw [whileF_go e1 e2, e3], q⟩
theorem step_ex {G : Dn} {s : PD.St} {ss : Sts} {δ δ1 : DEnv} {S S1 : Store} {x : String} (h : evS G s δ S = .ok (.ex x δ1) S1) : evSs G (.cons s ss) δ S = .ok (.ex x δ1) S1 := by rw [evSs_cons, h, thenF_ex]
theorem top_get (S : Store) (c : C) : (S ++ [c])[S.length]? = some c := by simp
theorem app_top {S : Store} {ds : List D} {v : D} (hp : v.pure = true) (h : ds.length ≤ 1000000) : appF S.length v (S ++ [.lst ds]) = .ok .non (S ++ [.lst (ds ++ [v])]) := by
  have : ds.length < 16777216 := by omega
  simp [appF, hp, this, sizeLine_lit]
theorem tuple_top {S : Store} {ds : List D} : bifF .tuple [.obj S.length] (S ++ [.lst ds]) = some (.tup ds) := by
  show Option.map _ _ = _
  simp [D.seq]
theorem new_top (S : Store) : mkList true [] S = .ok (.obj S.length) (S ++ [.lst []]) := by simp [mkList]
end PD

set_option linter.all false
namespace Tx
def ah : List Nat → List Nat → Nat
  | a :: as, b :: bs => if a = b then ah as bs + 1 else 0
  | _, _ => 0
theorem ah_le : ∀ (a b : List Nat), ah a b ≤ a.length ∧ ah a b ≤ b.length
  | [], _ => by simp [ah]
  | _ :: _, [] => by simp [ah]
  | x :: a, y :: b => by
    unfold ah
    have := ah_le a b
    split <;> simp <;> omega
theorem ah_take : ∀ (a b : List Nat), a.take (ah a b) = b.take (ah a b)
  | [], b => by simp [ah]
  | x :: a, [] => by simp [ah]
  | x :: a, y :: b => by
    unfold ah
    split
    · rename_i h; subst h; rw [List.take_succ_cons, List.take_succ_cons, ah_take a b]
    · simp
theorem ah_iff : ∀ (a b : List Nat) (i : Nat), i ≤ a.length → i ≤ b.length → (a.take i = b.take i ↔ i ≤ ah a b)
  | _, _, 0, _, _ => by simp
  | [], b, i + 1, h, _ => by simp at h
  | x :: a, [], i + 1, _, h => by simp at h
  | x :: a, y :: b, i + 1, h1, h2 => by
    unfold ah
    rw [List.take_succ_cons, List.take_succ_cons]
    have ih := ah_iff a b i (by simpa using h1) (by simpa using h2)
    by_cases h : x = y
    · subst h; rw [if_pos rfl]; simp [ih]
    · rw [if_neg h]; simp [h]
theorem ah_at : ∀ (a b : List Nat) (i : Nat), i < ah a b → a[i]? = b[i]? ∧ i < a.length ∧ i < b.length := by
  intro a b i h
  have l := ah_le a b
  have t := ah_take a b
  have : (a.take (ah a b))[i]? = (b.take (ah a b))[i]? := by rw [t]
  rw [List.getElem?_take_of_lt h, List.getElem?_take_of_lt h] at this
  exact ⟨this, by omega, by omega⟩
theorem ah_end : ∀ (a b : List Nat), ah a b < a.length → ah a b < b.length → a[ah a b]? ≠ b[ah a b]?
  | [], _, h, _ => by simp at h
  | _ :: _, [], _, h => by simp at h
  | x :: a, y :: b, h1, h2 => by
    unfold ah at h1 h2 ⊢
    by_cases h : x = y
    · subst h
      rw [if_pos rfl] at h1 h2 ⊢
      simpa using ah_end a b (by simpa using h1) (by simpa using h2)
    · rw [if_neg h]; simpa using h
/-- alike at the end, at most m -/
def be (a b : List Nat) (m : Nat) : Nat := ah (a.reverse.take m) (b.reverse.take m)
theorem be_le (a b : List Nat) (m : Nat) : be a b m ≤ m ∧ be a b m ≤ a.length ∧ be a b m ≤ b.length := by
  have := ah_le (a.reverse.take m) (b.reverse.take m)
  simp only [List.length_take, List.length_reverse] at this
  unfold be
  omega
theorem rev_take {α : Type} (a : List α) (i : Nat) : a.reverse.take i = (a.drop (a.length - i)).reverse := by
  rw [List.take_reverse]
theorem be_iff (a b : List Nat) {m i : Nat} (hm : i ≤ m) (h1 : i ≤ a.length) (h2 : i ≤ b.length) : a.drop (a.length - i) = b.drop (b.length - i) ↔ i ≤ be a b m := by
  have h := ah_iff (a.reverse.take m) (b.reverse.take m) i (by simp; omega) (by simp; omega)
  rw [List.take_take, List.take_take, Nat.min_eq_left hm, rev_take, rev_take] at h
  unfold be
  rw [← h]
  exact ⟨fun e => by rw [e], fun e => by simpa using e⟩
theorem be_drop (a b : List Nat) (m : Nat) : a.drop (a.length - be a b m) = b.drop (b.length - be a b m) := by
  obtain ⟨h1, h2, h3⟩ := be_le a b m
  exact (be_iff a b h1 h2 h3).mpr (Nat.le_refl _)
theorem be_at (a b : List Nat) {m i : Nat} (h : i < be a b m) : a[a.length - 1 - i]? = b[b.length - 1 - i]? := by
  obtain ⟨h1, h2, h3⟩ := be_le a b m
  have e := (ah_at (a.reverse.take m) (b.reverse.take m) i h).1
  rw [List.getElem?_take_of_lt (by omega), List.getElem?_take_of_lt (by omega), List.getElem?_reverse (by omega), List.getElem?_reverse (by omega)] at e
  exact e
theorem be_end (a b : List Nat) {m : Nat} (hm : be a b m < m) (h1 : be a b m < a.length) (h2 : be a b m < b.length) : a[a.length - 1 - be a b m]? ≠ b[b.length - 1 - be a b m]? := by
  have e := ah_end (a.reverse.take m) (b.reverse.take m) (by show be a b m < _; simp; omega) (by show be a b m < _; simp; omega)
  have q : ah (a.reverse.take m) (b.reverse.take m) = be a b m := rfl
  rw [q, List.getElem?_take_of_lt hm, List.getElem?_take_of_lt hm, List.getElem?_reverse (by omega), List.getElem?_reverse (by omega)] at e
  exact e
/-- a text behind an edit -/
def put (t : List Nat) (p g : Nat) (c : List Nat) : List Nat := t.take p ++ c ++ t.drop (p + g)
theorem put_len {t : List Nat} {p g : Nat} {c : List Nat} (h : p + g ≤ t.length) : (put t p g c).length = t.length - g + c.length := by
  unfold put
  simp only [List.length_append, List.length_take, List.length_drop]
  omega
theorem put_back {t : List Nat} {p g : Nat} {c : List Nat} (h : p + g ≤ t.length) : put (put t p g c) p c.length ((t.take (p + g)).drop p) = t := by
  have hl : (t.take p).length = p := by rw [List.length_take]; omega
  unfold put
  have e1 : (t.take p ++ c ++ t.drop (p + g)).take p = t.take p := by rw [List.append_assoc, List.take_left' hl]
  have e2 : (t.take p ++ c ++ t.drop (p + g)).drop (p + c.length) = t.drop (p + g) := List.drop_left' (by rw [List.length_append, hl])
  rw [e1, e2]
  have e3 : t.take p ++ (t.take (p + g)).drop p = t.take (p + g) := by
    have : t.take p = (t.take (p + g)).take p := by rw [List.take_take, Nat.min_eq_left (by omega)]
    rw [this, List.take_append_drop]
  rw [e3, List.take_append_drop]
/-- what an edit between two texts is -/
structure Btw where
  p : Nat
  g : Nat
  c : List Nat
def btw (a b : List Nat) : Btw := ⟨ah a b, a.length - ah a b - be a b (min a.length b.length - ah a b), (b.take (b.length - be a b (min a.length b.length - ah a b))).drop (ah a b)⟩
theorem btw_le (a b : List Nat) : ah a b + be a b (min a.length b.length - ah a b) ≤ a.length ∧ ah a b + be a b (min a.length b.length - ah a b) ≤ b.length := by
  have h1 := ah_le a b
  have h2 := be_le a b (min a.length b.length - ah a b)
  omega
theorem btw_put (a b : List Nat) : put a (btw a b).p (btw a b).g (btw a b).c = b := by
  obtain ⟨h1, h2⟩ := btw_le a b
  have t := ah_take a b
  have d := be_drop a b (min a.length b.length - ah a b)
  unfold put btw
  simp only
  have e1 : ah a b + (a.length - ah a b - be a b (min a.length b.length - ah a b)) = a.length - be a b (min a.length b.length - ah a b) := by omega
  rw [e1, d, t]
  generalize ah a b = p at *
  generalize be a b _ = q at *
  have e3 : b.take p ++ (b.take (b.length - q)).drop p = b.take (b.length - q) := by
    have : b.take p = (b.take (b.length - q)).take p := by rw [List.take_take, Nat.min_eq_left (by omega)]
    rw [this, List.take_append_drop]
  rw [e3, List.take_append_drop]
theorem btw_len (a b : List Nat) : (btw a b).c.length = b.length - be a b (min a.length b.length - ah a b) - ah a b := by
  unfold btw
  simp only [List.length_drop, List.length_take]
  omega
/-- nothing left and nothing come: the same -/
theorem btw_nil {a b : List Nat} : ((btw a b).g = 0 ∧ (btw a b).c = []) ↔ a = b := by
  constructor
  · rintro ⟨h1, h2⟩
    have h := btw_put a b
    rw [h1, h2] at h
    unfold put at h
    rw [List.append_nil, Nat.add_zero, List.take_append_drop] at h
    exact h
  · rintro rfl
    have e : ah a a = a.length := by
      have := (ah_iff a a a.length (Nat.le_refl _) (Nat.le_refl _)).mp rfl
      have := ah_le a a
      omega
    have l := btw_len a a
    unfold btw at l ⊢
    simp only at l ⊢
    rw [e] at l ⊢
    exact ⟨by omega, List.eq_nil_of_length_eq_zero (by rw [l]; omega)⟩
/-- the text behind an edit, made sign by sign up to i -/
def dn (t : List Nat) (p g : Nat) (c : List Nat) (i : Nat) : List Nat := if i ≤ p then t.take i else t.take p ++ c ++ (t.drop (p + g)).take (i - (p + g))
theorem dn_len {t : List Nat} {p g : Nat} {c : List Nat} {i : Nat} : (dn t p g c i).length ≤ 2 * t.length + c.length := by
  unfold dn
  split <;> simp only [List.length_append, List.length_take, List.length_drop] <;> omega
theorem dn_all {t : List Nat} {p g : Nat} {c : List Nat} (h : p + g ≤ t.length) : dn t p g c (t.length + 1) = put t p g c := by
  unfold dn put
  rw [if_neg (by omega), List.take_of_length_le (i := t.length + 1 - (p + g)) (by rw [List.length_drop]; omega)]
/-- the two steps at a place -/
theorem dn_step {t : List Nat} {p g : Nat} {c : List Nat} {i : Nat} (h : p + g ≤ t.length) (hi : i ≤ t.length) :
    dn t p g c (i + 1) = (if i = p then dn t p g c i ++ c else dn t p g c i) ++ (if h : i < t.length then (if p ≤ i ∧ i < p + g then [] else [t[i]]) else []) := by
  unfold dn
  by_cases h1 : i < p
  · have a1 : i + 1 ≤ p := h1
    have a2 : ¬ i = p := by omega
    have a3 : i ≤ p := by omega
    have a4 : i < t.length := by omega
    have a5 : ¬ (p ≤ i ∧ i < p + g) := by omega
    rw [if_pos a1, if_neg a2, if_pos a3, dif_pos a4, if_neg a5, List.take_succ, List.getElem?_eq_getElem a4]
    rfl
  · by_cases h2 : i = p
    · subst h2
      rw [if_neg (by omega), if_pos rfl, if_pos (Nat.le_refl _)]
      by_cases h3 : i < t.length
      · rw [dif_pos h3]
        by_cases h4 : g = 0
        · subst h4
          rw [if_neg (by omega)]
          have : i + 1 - (i + 0) = 1 := by omega
          rw [this, Nat.add_zero, List.take_succ, List.take_zero, List.getElem?_drop, Nat.add_zero, List.getElem?_eq_getElem h3]
          rfl
        · rw [if_pos (by omega)]
          have : i + 1 - (i + g) = 0 := by omega
          rw [this, List.take_zero]
      · rw [dif_neg h3, List.drop_eq_nil_of_le (by omega), List.take_nil]
    · rw [if_neg (by omega), if_neg h2, if_neg (by omega)]
      by_cases h3 : i < t.length
      · rw [dif_pos h3]
        by_cases h4 : i < p + g
        · rw [if_pos (by omega)]
          have a1 : i + 1 - (p + g) = 0 := by omega
          have a2 : i - (p + g) = 0 := by omega
          rw [a1, a2, List.append_nil]
        · rw [if_neg (by omega)]
          have a1 : i + 1 - (p + g) = (i - (p + g)) + 1 := by omega
          have a2 : p + g + (i - (p + g)) = i := by omega
          rw [a1, List.take_succ, List.getElem?_drop, a2, List.getElem?_eq_getElem h3, ← List.append_assoc]
          rfl
      · rw [dif_neg h3, List.append_nil]
        rw [List.take_of_length_le (i := i + 1 - (p + g)) (by rw [List.length_drop]; omega), List.take_of_length_le (i := i - (p + g)) (by rw [List.length_drop]; omega)]
theorem put_take {t : List Nat} {p g b : Nat} {c : List Nat} (h : b ≤ p) (hp : p ≤ t.length) : (put t p g c).take b = t.take b := by
  unfold put
  rw [List.append_assoc, List.take_append_of_le_length (by rw [List.length_take]; omega), List.take_take, Nat.min_eq_left h]
theorem put_drop {t : List Nat} {p g e : Nat} {c : List Nat} (h : p + g ≤ t.length) (he : p + c.length ≤ e) : (put t p g c).drop e = t.drop (e - c.length + g) := by
  unfold put
  have l : (t.take p ++ c).length = p + c.length := by rw [List.length_append, List.length_take]; omega
  rw [List.drop_append, l, List.drop_eq_nil_of_le (by omega), List.nil_append, List.drop_drop]
  congr 1
  omega
theorem put_all {t c : List Nat} {p g : Nat} {f : Nat → Bool} (ht : t.all f = true) (hc : c.all f = true) : (put t p g c).all f = true := by
  rw [List.all_eq_true] at *
  intro x hx
  unfold put at hx
  rcases List.mem_append.mp hx with hx | hx
  · rcases List.mem_append.mp hx with hx | hx
    · exact ht x (List.mem_of_mem_take hx)
    · exact hc x hx
  · exact ht x (List.mem_of_mem_drop hx)
theorem cut_all {t : List Nat} {a b : Nat} {f : Nat → Bool} (ht : t.all f = true) : ((t.take b).drop a).all f = true := by
  rw [List.all_eq_true] at *
  intro x hx
  exact ht x (List.mem_of_mem_take (List.mem_of_mem_drop hx))
theorem cut_join {l : List Nat} {a b : Nat} (h : a ≤ b) : l.take a ++ (l.take b).drop a ++ l.drop b = l := by
  have : l.take a = (l.take b).take a := by rw [List.take_take, Nat.min_eq_left h]
  rw [this, List.take_append_drop, List.take_append_drop]
/-- a part taken out of a text, changed -/
theorem put_in {t : List Nat} {p g a b : Nat} {c : List Nat} (h : p + g ≤ t.length) (hab : a + b ≤ g) : put t (p + a) b c = t.take p ++ put ((t.take (p + g)).drop p) a b c ++ t.drop (p + g) := by
  have l : (t.take p).length = p := by rw [List.length_take]; omega
  unfold put
  have e1 : t.take (p + a) = t.take p ++ ((t.take (p + g)).drop p).take a := by
    rw [List.drop_take, List.take_take]
    have : min a (p + g - p) = a := by omega
    rw [this, List.take_add]
  have e2 : t.drop (p + a + b) = ((t.take (p + g)).drop p).drop (a + b) ++ t.drop (p + g) := by
    rw [List.drop_drop, List.drop_take]
    have e3 : t.drop (p + g) = (t.drop (p + a + b)).drop (p + g - (p + a + b)) := by rw [List.drop_drop]; congr 1; omega
    have e4 : p + (a + b) = p + a + b := by omega
    rw [e4]
    rw [e3, List.take_append_drop]
  rw [e1, e2]
  simp only [List.append_assoc]
/-- two edits joined, plain -/
structure JnOk (t : List Nat) (last : List Nat) (b g : Nat) (c : List Nat) : Prop where
  le : b + g ≤ t.length
  put : put t b g c = last
  len : c.length ≤ last.length
theorem jn_ok {t c d : List Nat} {p g q h : Nat} (h1 : p + g ≤ t.length) (h2 : q + h ≤ (put t p g c).length) :
    JnOk t (put (put t p g c) q h d) (min p q) (max (p + c.length) (q + h) + g - c.length - min p q) (((put (put t p g c) q h d).take (max (p + c.length) (q + h) - h + d.length)).drop (min p q)) := by
  have lm := put_len (c := c) h1
  refine ⟨by omega, ?_, by simp only [List.length_drop, List.length_take]; omega⟩
  have e1 : t.take (min p q) = (put (put t p g c) q h d).take (min p q) := by
    rw [put_take (by omega) (by omega), put_take (by omega) (by omega)]
  have e2 : t.drop (min p q + (max (p + c.length) (q + h) + g - c.length - min p q)) = (put (put t p g c) q h d).drop (max (p + c.length) (q + h) - h + d.length) := by
    rw [put_drop h2 (by omega), put_drop h1 (by omega)]
    congr 1
    omega
  have e3 : put t (min p q) (max (p + c.length) (q + h) + g - c.length - min p q) (((put (put t p g c) q h d).take (max (p + c.length) (q + h) - h + d.length)).drop (min p q)) = t.take (min p q) ++ ((put (put t p g c) q h d).take (max (p + c.length) (q + h) - h + d.length)).drop (min p q) ++ t.drop (min p q + (max (p + c.length) (q + h) + g - c.length - min p q)) := rfl
  rw [e3, e1, e2]
  exact cut_join (by omega)
/-- pared, plain: of what it tells -/
theorem pr_put {t c : List Nat} {p g : Nat} (h : p + g ≤ t.length) : put t (p + (btw ((t.take (p + g)).drop p) c).p) (btw ((t.take (p + g)).drop p) c).g (btw ((t.take (p + g)).drop p) c).c = put t p g c ∧ p + (btw ((t.take (p + g)).drop p) c).p + (btw ((t.take (p + g)).drop p) c).g ≤ p + g := by
  have lr : ((t.take (p + g)).drop p).length = g := by rw [List.length_drop, List.length_take]; omega
  have l2 := btw_le ((t.take (p + g)).drop p) c
  have hle : (btw ((t.take (p + g)).drop p) c).p + (btw ((t.take (p + g)).drop p) c).g ≤ g := by
    unfold btw
    simp only
    omega
  refine ⟨?_, by omega⟩
  rw [put_in h hle, btw_put]
  rfl
theorem put_same {t c : List Nat} {p g : Nat} (h : p + g ≤ t.length) : put t p g c = t ↔ (t.take (p + g)).drop p = c := by
  have e := cut_join (l := t) (a := p) (b := p + g) (by omega)
  constructor
  · intro q
    have : put t p g c = t.take p ++ (t.take (p + g)).drop p ++ t.drop (p + g) := by rw [q, e]
    unfold put at this
    have := List.append_cancel_right this
    exact (List.append_cancel_left this).symm
  · intro q
    unfold put
    rw [← q]
    exact e
/-- what is left and what came begin and end with other signs -/
theorem btw_ends {r c : List Nat} {L : List Nat} (hL : L = (r.take ((btw r c).p + (btw r c).g)).drop (btw r c).p) (h1 : L ≠ []) (h2 : (btw r c).c ≠ []) : ∃ x y z w, L[0]? = some x ∧ (btw r c).c[0]? = some y ∧ x ≠ y ∧ L.getLast? = some z ∧ (btw r c).c.getLast? = some w ∧ z ≠ w := by
  have l1 := ah_le r c
  have l2 := btw_le r c
  have l3 := be_le r c (min r.length c.length - ah r c)
  have bl := btw_len r c
  have hc : 0 < (btw r c).c.length := List.length_pos_iff.mpr h2
  have hLl : 0 < L.length := List.length_pos_iff.mpr h1
  have hg : (btw r c).p + (btw r c).g = r.length - be r c (min r.length c.length - ah r c) := by unfold btw; simp only; omega
  rw [hg] at hL
  have hLn : L.length = r.length - be r c (min r.length c.length - ah r c) - ah r c := by rw [hL, List.length_drop, List.length_take]; show _ - ah r c = _; omega
  have hC : (btw r c).c = (c.take (c.length - be r c (min r.length c.length - ah r c))).drop (ah r c) := rfl
  have hP : (btw r c).p = ah r c := rfl
  rw [hP] at hL
  have e1 := ah_end r c (by omega) (by omega)
  have e2 := be_end r c (m := min r.length c.length - ah r c) (by omega) (by omega) (by omega)
  generalize be r c (min r.length c.length - ah r c) = q at *
  generalize ah r c = p at *
  generalize (btw r c).c = C at *
  have a1 : L[0]? = r[p]? := by rw [hL, List.getElem?_drop, List.getElem?_take_of_lt (by omega)]; rfl
  have a2 : C[0]? = c[p]? := by rw [hC, List.getElem?_drop, List.getElem?_take_of_lt (by omega)]; rfl
  have a3 : L.getLast? = r[r.length - 1 - q]? := by
    rw [List.getLast?_eq_getElem?, hL, List.getElem?_drop]
    rw [← hL, List.getElem?_take_of_lt (by omega)]
    congr 1
    omega
  have a4 : C.getLast? = c[c.length - 1 - q]? := by
    rw [List.getLast?_eq_getElem?, hC, List.getElem?_drop]
    rw [← hC, List.getElem?_take_of_lt (by omega)]
    congr 1
    omega
  rw [a1, a2, a3, a4]
  have g1 : p < r.length := by omega
  have g2 : p < c.length := by omega
  have g3 : r.length - 1 - q < r.length := by omega
  have g4 : c.length - 1 - q < c.length := by omega
  rw [List.getElem?_eq_getElem g1, List.getElem?_eq_getElem g2] at *
  rw [List.getElem?_eq_getElem g3, List.getElem?_eq_getElem g4] at *
  exact ⟨_, _, _, _, rfl, rfl, fun e => e1 (by rw [e]), rfl, rfl, fun e => e2 (by rw [e])⟩
end Tx

set_option linter.all false
namespace Ty
abbrev Ed := Tx.Btw
/-- all of them, the last first -/
def allA (t : List Nat) (es : List Ed) : List Nat := es.foldr (fun e t => Tx.put t e.p e.g e.c) t
/-- apart, from lo on, within n -/
def sp (n : Nat) : Nat → List Ed → Prop
  | _, [] => True
  | lo, e :: es => lo ≤ e.p ∧ e.p + e.g ≤ n ∧ sp n (e.p + e.g + 1) es
theorem sp_mono {n : Nat} : ∀ {es : List Ed} {a b : Nat}, b ≤ a → sp n a es → sp n b es
  | [], _, _, _, _ => trivial
  | e :: es, a, b, h, ⟨h1, h2, h3⟩ => ⟨by omega, h2, h3⟩
theorem sp_mem {n : Nat} : ∀ {es : List Ed} {lo : Nat} {e : Ed}, sp n lo es → e ∈ es → lo ≤ e.p ∧ e.p + e.g ≤ n
  | d :: es, lo, e, ⟨h1, h2, h3⟩, he => by
    rcases List.mem_cons.mp he with rfl | he
    · exact ⟨h1, h2⟩
    · have := sp_mem h3 he; omega
/-- read from the place `at` on -/
def go (t : List Nat) : Nat → List Ed → List Nat
  | at_, [] => t.drop at_
  | at_, e :: es => (t.take e.p).drop at_ ++ e.c ++ go t (e.p + e.g) es
theorem allA_go {t : List Nat} : ∀ {es : List Ed} {lo : Nat}, sp t.length lo es → allA t es = t.take lo ++ go t lo es
  | [], lo, _ => by simp [allA, go]
  | e :: es, lo, ⟨h1, h2, h3⟩ => by
    have ih := allA_go (sp_mono (b := e.p + e.g) (by omega) h3)
    have hl : (t.take (e.p + e.g)).length = e.p + e.g := by rw [List.length_take]; omega
    have e1 : allA t (e :: es) = Tx.put (allA t es) e.p e.g e.c := rfl
    have e2 : go t lo (e :: es) = (t.take e.p).drop lo ++ e.c ++ go t (e.p + e.g) es := rfl
    rw [e1, ih, e2]
    unfold Tx.put
    rw [List.take_append_of_le_length (by omega), List.take_take, Nat.min_eq_left (by omega), List.drop_left' hl]
    rw [← List.append_assoc, ← List.append_assoc]
    congr 2
    have : t.take lo = (t.take e.p).take lo := by rw [List.take_take, Nat.min_eq_left h1]
    rw [this, List.take_append_drop]
theorem allA_go0 {t : List Nat} {es : List Ed} (h : sp t.length 0 es) : allA t es = go t 0 es := by rw [allA_go h]; simp
def sum (es : List Ed) : Int := (es.map fun e => (e.c.length : Int) - e.g).sum
theorem go_len {t : List Nat} : ∀ {es : List Ed} {at_ : Nat}, at_ ≤ t.length → sp t.length at_ es → ((go t at_ es).length : Int) = (t.length - at_ : Nat) + sum es
  | [], at_, h, _ => by simp [go, sum]
  | e :: es, at_, h, ⟨h1, h2, h3⟩ => by
    have ih := go_len (es := es) h2 (sp_mono (by omega) h3)
    have e1 : sum (e :: es) = (e.c.length : Int) - e.g + sum es := by simp [sum]
    rw [e1]
    simp only [go, List.length_append, List.length_drop, List.length_take]
    omega
/-- one behind the other: a signs stand for those ahead of `at` -/
def turns : Nat → Nat → List Ed → List Ed
  | _, _, [] => []
  | at_, a, e :: es => ⟨a + (e.p - at_), e.g, e.c⟩ :: turns (e.p + e.g) (a + (e.p - at_) + e.c.length) es
theorem turns_len : ∀ {es : List Ed} {at_ a : Nat}, (turns at_ a es).length = es.length
  | [], _, _ => rfl
  | e :: es, at_, a => by simp [turns, turns_len (es := es)]
def seqA (t : List Nat) (es : List Ed) : List Nat := es.foldl (fun t e => Tx.put t e.p e.g e.c) t
theorem seq_go {t : List Nat} : ∀ {es : List Ed} {at_ : Nat} {A : List Nat}, at_ ≤ t.length → sp t.length at_ es → seqA (A ++ t.drop at_) (turns at_ A.length es) = A ++ go t at_ es
  | [], at_, A, _, _ => by simp [seqA, turns, go]
  | e :: es, at_, A, h, ⟨h1, h2, h3⟩ => by
    have ih := seq_go (t := t) (es := es) (at_ := e.p + e.g) (A := A ++ (t.take e.p).drop at_ ++ e.c) h2 (sp_mono (by omega) h3)
    have hl : (A ++ (t.take e.p).drop at_ ++ e.c).length = A.length + (e.p - at_) + e.c.length := by
      simp only [List.length_append, List.length_drop, List.length_take]; omega
    rw [hl] at ih
    have e1 : Tx.put (A ++ t.drop at_) (A.length + (e.p - at_)) e.g e.c = A ++ (t.take e.p).drop at_ ++ e.c ++ t.drop (e.p + e.g) := by
      unfold Tx.put
      rw [List.take_length_add_append, Nat.add_assoc, List.drop_length_add_append, List.drop_drop]
      have q1 : (t.drop at_).take (e.p - at_) = (t.take e.p).drop at_ := by rw [List.drop_take]
      have q2 : at_ + (e.p - at_ + e.g) = e.p + e.g := by omega
      rw [q1, q2]
    show seqA (Tx.put (A ++ t.drop at_) (A.length + (e.p - at_)) e.g e.c) (turns (e.p + e.g) (A.length + (e.p - at_) + e.c.length) es) = _
    rw [e1, ih]
    simp [go, List.append_assoc]
/-- each text on the way is not longer than hi -/
theorem seq_lens {t : List Nat} {hi : Nat} : ∀ {es : List Ed} {at_ : Nat} {A : List Nat}, at_ ≤ t.length → sp t.length at_ es → (A.length + (t.length - at_) + (es.map fun e => e.c.length).sum ≤ hi) → ∀ i, (seqA (A ++ t.drop at_) ((turns at_ A.length es).take i)).length ≤ hi
  | [], at_, A, h, _, hh, i => by simp [seqA, turns] at hh ⊢; omega
  | e :: es, at_, A, h, _, hh, 0 => by simp [seqA] at hh ⊢; omega
  | e :: es, at_, A, h, ⟨h1, h2, h3⟩, hh, i + 1 => by
    have hl : (A ++ (t.take e.p).drop at_ ++ e.c).length = A.length + (e.p - at_) + e.c.length := by
      simp only [List.length_append, List.length_drop, List.length_take]; omega
    have ih := seq_lens (t := t) (hi := hi) (es := es) (at_ := e.p + e.g) (A := A ++ (t.take e.p).drop at_ ++ e.c) h2 (sp_mono (by omega) h3) (by rw [hl]; simp at hh; omega) i
    rw [hl] at ih
    have e1 : Tx.put (A ++ t.drop at_) (A.length + (e.p - at_)) e.g e.c = A ++ (t.take e.p).drop at_ ++ e.c ++ t.drop (e.p + e.g) := by
      unfold Tx.put
      rw [List.take_length_add_append, Nat.add_assoc, List.drop_length_add_append, List.drop_drop]
      have q1 : (t.drop at_).take (e.p - at_) = (t.take e.p).drop at_ := by rw [List.drop_take]
      have q2 : at_ + (e.p - at_ + e.g) = e.p + e.g := by omega
      rw [q1, q2]
    show (seqA (Tx.put (A ++ t.drop at_) (A.length + (e.p - at_)) e.g e.c) ((turns (e.p + e.g) (A.length + (e.p - at_) + e.c.length) es).take i)).length ≤ hi
    rw [e1]; exact ih
/-- what brings the text back -/
def inv (t : List Nat) : Nat → Nat → List Ed → List Ed
  | _, _, [] => []
  | at_, a, e :: es => ⟨a + (e.p - at_), e.c.length, (t.take (e.p + e.g)).drop e.p⟩ :: inv t (e.p + e.g) (a + (e.p - at_) + e.c.length) es
theorem inv_len {t : List Nat} : ∀ {es : List Ed} {at_ a : Nat}, (inv t at_ a es).length = es.length
  | [], _, _ => rfl
  | e :: es, at_, a => by simp [inv, inv_len (es := es)]
theorem cut_app {t : List Nat} {a b : Nat} (h : a ≤ b) : (t.take b).drop a ++ t.drop b = t.drop a := by
  by_cases hb : b ≤ t.length
  · have e : t = t.take b ++ t.drop b := (List.take_append_drop b t).symm
    conv => rhs; rw [e]
    rw [List.drop_append_of_le_length (by rw [List.length_take]; omega)]
  · rw [List.take_of_length_le (by omega), List.drop_of_length_le (l := t) (i := b) (by omega), List.append_nil]
theorem inv_go {t : List Nat} : ∀ {es : List Ed} {at_ : Nat} {A : List Nat}, at_ ≤ t.length → sp t.length at_ es → go (A ++ go t at_ es) A.length (inv t at_ A.length es) = t.drop at_
  | [], at_, A, _, _ => by simp [inv, go]
  | e :: es, at_, A, h, ⟨h1, h2, h3⟩ => by
    have hl : (A ++ (t.take e.p).drop at_ ++ e.c).length = A.length + (e.p - at_) + e.c.length := by
      simp only [List.length_append, List.length_drop, List.length_take]; omega
    have ih := inv_go (t := t) (es := es) (at_ := e.p + e.g) (A := A ++ (t.take e.p).drop at_ ++ e.c) h2 (sp_mono (by omega) h3)
    rw [hl] at ih
    have hX : ((t.take e.p).drop at_).length = e.p - at_ := by simp only [List.length_drop, List.length_take]; omega
    have e1 : A ++ go t at_ (e :: es) = A ++ (t.take e.p).drop at_ ++ e.c ++ go t (e.p + e.g) es := by simp [go]
    rw [e1]
    show ((A ++ (t.take e.p).drop at_ ++ e.c ++ go t (e.p + e.g) es).take (A.length + (e.p - at_))).drop A.length ++ (t.take (e.p + e.g)).drop e.p ++ go _ (A.length + (e.p - at_) + e.c.length) (inv t (e.p + e.g) (A.length + (e.p - at_) + e.c.length) es) = _
    rw [ih]
    have e2 : ((A ++ (t.take e.p).drop at_ ++ e.c ++ go t (e.p + e.g) es).take (A.length + (e.p - at_))).drop A.length = (t.take e.p).drop at_ := by
      rw [List.append_assoc, List.take_append_of_le_length (by simp only [List.length_append, hX]; omega), List.take_of_length_le (by simp only [List.length_append, hX]; omega), List.drop_left]
    rw [e2, List.append_assoc, cut_app (by omega), cut_app h1]
theorem inv_sp {t : List Nat} {n : Nat} : ∀ {es : List Ed} {at_ lo a : Nat}, at_ ≤ lo → at_ ≤ t.length → sp t.length lo es → a + (go t at_ es).length ≤ n → sp n (a + (lo - at_)) (inv t at_ a es)
  | [], _, _, _, _, _, _, _ => trivial
  | e :: es, at_, lo, a, h0, h, ⟨h1, h2, h3⟩, hn => by
    have hg : (go t at_ (e :: es)).length = (e.p - at_) + e.c.length + (go t (e.p + e.g) es).length := by
      simp only [go, List.length_append, List.length_drop, List.length_take]; omega
    have ih := inv_sp (n := n) (es := es) (at_ := e.p + e.g) (lo := e.p + e.g + 1) (a := a + (e.p - at_) + e.c.length) (by omega) h2 h3 (by omega)
    refine ⟨by simp only; omega, by simp only; omega, ?_⟩
    have : e.p + e.g + 1 - (e.p + e.g) = 1 := by omega
    rw [this] at ih
    exact ih
theorem inv_sum {t : List Nat} : ∀ {es : List Ed} {at_ a lo : Nat}, sp t.length lo es → sum (inv t at_ a es) = - sum es
  | [], _, _, _, _ => by simp [inv, sum]
  | e :: es, at_, a, lo, ⟨h1, h2, h3⟩ => by
    have ih := inv_sum (t := t) (es := es) (at_ := e.p + e.g) (a := a + (e.p - at_) + e.c.length) h3
    have e1 : sum (e :: es) = (e.c.length : Int) - e.g + sum es := by simp [sum]
    have e2 : sum (inv t at_ a (e :: es)) = (((t.take (e.p + e.g)).drop e.p).length : Int) - e.c.length + sum (inv t (e.p + e.g) (a + (e.p - at_) + e.c.length) es) := by simp [sum, inv]
    rw [e1, e2, ih, List.length_drop, List.length_take]
    omega
theorem inv_mem {t : List Nat} {f : Nat → Bool} (ht : t.all f = true) : ∀ {es : List Ed} {at_ a : Nat} {e : Ed}, e ∈ inv t at_ a es → e.c.all f = true ∧ e.c.length ≤ t.length
  | [], _, _, _, h => by cases h
  | d :: es, at_, a, e, h => by
    rcases List.mem_cons.mp h with rfl | h
    · refine ⟨Tx.cut_all ht, ?_⟩
      simp only [List.length_drop, List.length_take]; omega
    · exact inv_mem ht h
/-- where the last one ends -/
def fin : Nat → List Ed → Nat
  | at_, [] => at_
  | _, e :: es => fin (e.p + e.g) es
theorem fin_le {n : Nat} : ∀ {es : List Ed} {at_ : Nat}, at_ ≤ n → sp n at_ es → at_ ≤ fin at_ es ∧ fin at_ es ≤ n
  | [], _, h, _ => ⟨Nat.le_refl _, h⟩
  | e :: es, at_, h, ⟨h1, h2, h3⟩ => by
    have := fin_le (n := n) (es := es) (at_ := e.p + e.g) h2 (sp_mono (by omega) h3)
    unfold fin
    omega
theorem go_fin {t : List Nat} : ∀ {es : List Ed} {at_ : Nat}, ∃ M, go t at_ es = M ++ t.drop (fin at_ es)
  | [], at_ => ⟨[], by simp [go, fin]⟩
  | e :: es, at_ => by
    obtain ⟨M, h⟩ := go_fin (t := t) (es := es) (at_ := e.p + e.g)
    exact ⟨(t.take e.p).drop at_ ++ e.c ++ M, by simp [go, fin, h]⟩
/-- one edit for all -/
theorem one_put {t : List Nat} {e : Ed} {es : List Ed} (h : sp t.length 0 (e :: es)) :
    Tx.put t e.p (fin 0 (e :: es) - e.p) (((allA t (e :: es)).take ((allA t (e :: es)).length - (t.length - fin 0 (e :: es)))).drop e.p) = allA t (e :: es) ∧ e.p ≤ fin 0 (e :: es) ∧ fin 0 (e :: es) ≤ t.length ∧ t.length - fin 0 (e :: es) ≤ (allA t (e :: es)).length := by
  obtain ⟨h1, h2, h3⟩ := id h
  have hf := fin_le (n := t.length) (es := es) (at_ := e.p + e.g) h2 (sp_mono (by omega) h3)
  have hfe : fin 0 (e :: es) = fin (e.p + e.g) es := rfl
  obtain ⟨M, hM⟩ := go_fin (t := t) (es := es) (at_ := e.p + e.g)
  have hA : allA t (e :: es) = t.take e.p ++ (e.c ++ M) ++ t.drop (fin 0 (e :: es)) := by
    rw [allA_go0 h]; simp [go, hM, hfe]
  have hd : (t.drop (fin 0 (e :: es))).length = t.length - fin 0 (e :: es) := List.length_drop
  have hp : (t.take e.p).length = e.p := by rw [List.length_take]; omega
  rw [hfe] at *
  generalize fin (e.p + e.g) es = F at *
  refine ⟨?_, by omega, hf.2, by rw [hA]; simp only [List.length_append, hd]; omega⟩
  rw [hA]
  have e1 : (t.take e.p ++ (e.c ++ M) ++ t.drop F).length - (t.length - F) = (t.take e.p ++ (e.c ++ M)).length := by
    rw [List.length_append (as := t.take e.p ++ (e.c ++ M)), hd]; omega
  rw [e1, List.take_left, List.drop_left' hp]
  unfold Tx.put
  have e2 : e.p + (F - e.p) = F := by omega
  rw [e2]
def ins (es : List Ed) (i : Nat) : List Nat := (es.filter fun e => decide (e.p = i)).flatMap fun e => e.c
def cov (es : List Ed) (i : Nat) : Bool := es.any fun e => decide (e.p ≤ i) && decide (i < e.p + e.g)
def keep (t : List Nat) (es : List Ed) (i : Nat) : List Nat := if cov es i then [] else (t.drop i).take 1
def spot (t : List Nat) (es : List Ed) (i : Nat) : List Nat := ins es i ++ keep t es i
def spots (t : List Nat) (es : List Ed) (a n : Nat) : List Nat := (List.range' a n).flatMap (spot t es)
theorem ins_none {es : List Ed} {i : Nat} (h : ∀ e ∈ es, e.p ≠ i) : ins es i = [] := by
  unfold ins
  have : es.filter (fun e => decide (e.p = i)) = [] := by
    rw [List.filter_eq_nil_iff]
    intro e he
    simpa using h e he
  rw [this]; rfl
theorem cov_none {es : List Ed} {i : Nat} (h : ∀ e ∈ es, i < e.p) : cov es i = false := by
  unfold cov
  rw [List.any_eq_false]
  intro e he
  have := h e he
  simp; omega
theorem drop1 {t : List Nat} (i : Nat) : (t.drop i).take 1 ++ t.drop (i + 1) = t.drop i := by
  have : t.drop (i + 1) = (t.drop i).drop 1 := by rw [List.drop_drop]
  rw [this, List.take_append_drop]
theorem spots_plain {t : List Nat} {es : List Ed} : ∀ {n a : Nat}, (∀ e ∈ es, a + n ≤ e.p) → spots t es a n = (t.take (a + n)).drop a
  | 0, a, _ => by
    simp [spots]
  | n + 1, a, h => by
    have e1 : spots t es a (n + 1) = spot t es a ++ spots t es (a + 1) n := by simp [spots, List.range'_succ]
    have e2 : spot t es a = (t.drop a).take 1 := by
      unfold spot
      rw [ins_none fun e he => by have := h e he; omega]
      unfold keep
      rw [cov_none fun e he => by have := h e he; omega]
      rfl
    rw [e1, e2, spots_plain (n := n) (a := a + 1) fun e he => by have := h e he; omega]
    have : a + 1 + n = a + (n + 1) := by omega
    rw [this, List.drop_take, List.drop_take]
    have e3 : a + (n + 1) - (a + 1) = n := by omega
    have e4 : a + (n + 1) - a = n + 1 := by omega
    rw [e3, e4]
    have e5 : t.drop (a + 1) = (t.drop a).drop 1 := by rw [List.drop_drop]
    rw [e5]
    generalize t.drop a = u
    cases u with
    | nil => simp
    | cons x u => simp
theorem spots_app {t : List Nat} {es : List Ed} {a n m : Nat} : spots t es a (n + m) = spots t es a n ++ spots t es (a + n) m := by
  unfold spots
  rw [← List.flatMap_append]
  congr 1
  rw [List.range'_append_1]
theorem spots_eq {t : List Nat} {es fs : List Ed} {a n : Nat} (h : ∀ i, a ≤ i → i < a + n → spot t es i = spot t fs i) : spots t es a n = spots t fs a n := by
  unfold spots
  have : ∀ l : List Nat, (∀ i ∈ l, spot t es i = spot t fs i) → l.flatMap (spot t es) = l.flatMap (spot t fs) := by
    intro l
    induction l with
    | nil => intro _; rfl
    | cons x l ih => intro h; rw [List.flatMap_cons, List.flatMap_cons, h x List.mem_cons_self, ih fun i hi => h i (List.mem_cons_of_mem _ hi)]
  exact this _ fun i hi => by
    have := List.mem_range'_1.mp hi
    exact h i this.1 this.2
theorem spots_go {t : List Nat} : ∀ {es : List Ed} {at_ : Nat}, at_ ≤ t.length → sp t.length at_ es → spots t es at_ (t.length + 1 - at_) = go t at_ es
  | [], at_, h, _ => by
    have : t.length + 1 - at_ = (t.length - at_) + 1 := by omega
    rw [this, spots_app, spots_plain (fun e he => by cases he)]
    have e : at_ + (t.length - at_) = t.length := by omega
    rw [e, List.take_length]
    simp [go, spots, spot, ins, keep, cov]
  | e :: es, at_, h, ⟨h1, h2, h3⟩ => by
    have hlow : ∀ d ∈ es, e.p + e.g + 1 ≤ d.p := fun d hd => (sp_mem h3 hd).1
    have ih := spots_go (t := t) (es := es) (at_ := e.p + e.g) h2 (sp_mono (by omega) h3)
    have n1 : t.length + 1 - at_ = (e.p - at_) + (t.length + 1 - e.p) := by omega
    rw [n1, spots_app, spots_plain (n := e.p - at_) (a := at_) fun d hd => by
      rcases List.mem_cons.mp hd with rfl | hd
      · omega
      · have := hlow d hd; omega]
    have z1 : at_ + (e.p - at_) = e.p := by omega
    rw [z1]
    unfold go
    rw [List.append_assoc]
    congr 1
    -- from e.p on
    have hins : ∀ i, e.p ≠ i → ins (e :: es) i = ins es i := fun i hi => by
      unfold ins
      rw [List.filter_cons_of_neg (by simpa using hi)]
    have hinsp : ins (e :: es) e.p = e.c := by
      have := ins_none (es := es) (i := e.p) fun d hd => by have := hlow d hd; omega
      unfold ins at this ⊢
      rw [List.filter_cons_of_pos (by simp), List.flatMap_cons, this, List.append_nil]
    have hcov : ∀ i, e.p + e.g ≤ i → cov (e :: es) i = cov es i := fun i hi => by
      unfold cov
      rw [List.any_cons]
      have : (decide (e.p ≤ i) && decide (i < e.p + e.g)) = false := by simp; omega
      rw [this, Bool.false_or]
    have hcovin : ∀ i, e.p ≤ i → i < e.p + e.g → cov (e :: es) i = true := fun i q1 q2 => by
      unfold cov
      rw [List.any_cons]
      simp [q1, q2]
    cases hg : e.g with
    | zero =>
      have n2 : t.length + 1 - e.p = 1 + (t.length - e.p) := by omega
      rw [n2, spots_app]
      have s1 : spots t (e :: es) e.p 1 = e.c ++ spots t es e.p 1 := by
        simp only [spots, List.range'_one, List.flatMap_cons, List.flatMap_nil, List.append_nil]
        unfold spot
        rw [hinsp, ins_none (es := es) fun d hd => by have := hlow d hd; omega]
        unfold keep
        rw [hcov e.p (by omega)]
        rfl
      have s2 : spots t (e :: es) (e.p + 1) (t.length - e.p) = spots t es (e.p + 1) (t.length - e.p) := spots_eq fun i q1 q2 => by
        unfold spot keep
        rw [hins i (by omega), hcov i (by omega)]
      rw [hg] at ih
      rw [s1, s2, List.append_assoc, ← spots_app, ← n2]
      simpa using ih
    | succ g =>
      have n2 : t.length + 1 - e.p = 1 + (g + (t.length + 1 - (e.p + e.g))) := by omega
      rw [n2, spots_app, spots_app]
      have s1 : spots t (e :: es) e.p 1 = e.c := by
        simp only [spots, List.range'_one, List.flatMap_cons, List.flatMap_nil, List.append_nil]
        unfold spot
        rw [hinsp]
        unfold keep
        rw [hcovin e.p (by omega) (by omega)]
        simp
      have s2 : spots t (e :: es) (e.p + 1) g = [] := by
        unfold spots
        rw [List.flatMap_eq_nil_iff]
        intro i hi
        have := List.mem_range'_1.mp hi
        unfold spot
        rw [hins i (by omega), ins_none (es := es) fun d hd => by have := hlow d hd; omega]
        unfold keep
        rw [hcovin i (by omega) (by omega)]
        rfl
      have z2 : e.p + 1 + g = e.p + e.g := by omega
      rw [s1, s2, z2, List.nil_append]
      congr 1
      rw [← hg]
      rw [← ih]
      refine spots_eq fun i q1 q2 => ?_
      unfold spot keep
      rw [hins i (by omega), hcov i (by omega)]
end Ty

set_option linter.all false
namespace Tl
/-- where lines begin, but the first one; i signs stand ahead -/
def nls : Nat → List Nat → List Nat
  | _, [] => []
  | i, c :: r => if c = 10 then (i + 1) :: nls (i + 1) r else nls (i + 1) r
def starts (t : List Nat) : List Nat := 0 :: nls 0 t
def cnt (t : List Nat) (p : Nat) : Nat := (t.take p).count 10
theorem nls_app : ∀ (a b : List Nat) (i : Nat), nls i (a ++ b) = nls i a ++ nls (i + a.length) b
  | [], b, i => by simp [nls]
  | c :: a, b, i => by
    have ih := nls_app a b (i + 1)
    have e : i + (c :: a).length = i + 1 + a.length := by simp; omega
    simp only [List.cons_append, nls, e, ih]
    split <;> simp
theorem nls_len : ∀ (a : List Nat) (i : Nat), (nls i a).length = a.count 10
  | [], _ => rfl
  | c :: a, i => by
    have ih := nls_len a (i + 1)
    unfold nls
    by_cases h : c = 10
    · subst h; simp [ih]
    · rw [if_neg h, ih, List.count_cons]
      have : (c == 10) = false := by simpa using h
      simp [this]
theorem nls_shift : ∀ (a : List Nat) (i k : Nat), (nls i a).map (· + k) = nls (i + k) a
  | [], _, _ => rfl
  | c :: a, i, k => by
    have ih := nls_shift a (i + 1) k
    have e : i + 1 + k = i + k + 1 := by omega
    unfold nls
    split
    · rw [List.map_cons, ih, e]
    · rw [ih, e]
theorem nls_mem : ∀ {a : List Nat} {i x : Nat}, x ∈ nls i a → i < x ∧ x ≤ i + a.length
  | c :: a, i, x, h => by
    unfold nls at h
    rw [List.length_cons]
    split at h
    · rcases List.mem_cons.mp h with rfl | h
      · omega
      · have := nls_mem h; omega
    · have := nls_mem h; omega
theorem starts_len (t : List Nat) : (starts t).length = t.count 10 + 1 := by simp [starts, nls_len]
theorem starts_split (t : List Nat) (p : Nat) (h : p ≤ t.length) : starts t = (0 :: nls 0 (t.take p)) ++ nls p (t.drop p) := by
  have : t = t.take p ++ t.drop p := (List.take_append_drop p t).symm
  have hl : (t.take p).length = p := by rw [List.length_take]; omega
  unfold starts
  conv => lhs; rw [this, nls_app, hl, Nat.zero_add]
  rfl
/-- the rank of a place -/
theorem rank {t : List Nat} {p j : Nat} (h : p ≤ t.length) {x : Nat} (hx : (starts t)[j]? = some x) : x ≤ p ↔ j ≤ cnt t p := by
  rw [starts_split t p h] at hx
  have hl : (0 :: nls 0 (t.take p)).length = cnt t p + 1 := by simp [nls_len, cnt]
  by_cases hj : j < cnt t p + 1
  · rw [List.getElem?_append_left (by omega)] at hx
    have hm := List.mem_of_getElem? hx
    constructor
    · intro _; omega
    · intro _
      rcases List.mem_cons.mp hm with rfl | hm
      · omega
      · have := nls_mem hm
        rw [List.length_take] at this
        omega
  · rw [List.getElem?_append_right (by omega)] at hx
    have hm := nls_mem (List.mem_of_getElem? hx)
    omega
theorem cnt_lt {t : List Nat} {p : Nat} : cnt t p < (starts t).length := by
  rw [starts_len]
  have h1 : (t.take p).count 10 + (t.drop p).count 10 = t.count 10 := by rw [← List.count_append, List.take_append_drop]
  unfold cnt; omega
theorem starts_mem {t : List Nat} {x : Nat} (h : x ∈ starts t) : x ≤ t.length := by
  rcases List.mem_cons.mp h with rfl | h
  · omega
  · have := nls_mem h; omega
/-- strictly up -/
theorem nls_up : ∀ {a : List Nat} {i j x y : Nat}, (nls i a)[j]? = some x → (nls i a)[j + 1]? = some y → x < y
  | c :: a, i, j, x, y, h1, h2 => by
    unfold nls at h1 h2
    split at h1
    · rename_i hc
      rw [if_pos hc] at h2
      cases j with
      | zero =>
        simp at h1 h2
        subst h1
        have := nls_mem (List.mem_of_getElem? h2)
        omega
      | succ j => exact nls_up (by simpa using h1) (by simpa using h2)
    · rename_i hc
      rw [if_neg hc] at h2
      exact nls_up h1 h2
theorem starts_up {t : List Nat} {j x y : Nat} (h1 : (starts t)[j]? = some x) (h2 : (starts t)[j + 1]? = some y) : x < y := by
  unfold starts at h1 h2
  cases j with
  | zero =>
    simp at h1 h2
    subst h1
    have := nls_mem (List.mem_of_getElem? h2)
    omega
  | succ j => exact nls_up (by simpa using h1) (by simpa using h2)
/-- the table behind an edit -/
theorem starts_put {t c : List Nat} {p g : Nat} (h : p + g ≤ t.length) : starts (Tx.put t p g c) = (starts t).take (cnt t p + 1) ++ nls p c ++ ((starts t).drop (cnt t (p + g) + 1)).map (fun x => x - g + c.length) := by
  have hl : (t.take p).length = p := by rw [List.length_take]; omega
  have e1 : (starts t).take (cnt t p + 1) = 0 :: nls 0 (t.take p) := by
    rw [starts_split t p (by omega), List.take_left' (by simp [nls_len, cnt])]
  have e2 : (starts t).drop (cnt t (p + g) + 1) = nls (p + g) (t.drop (p + g)) := by
    rw [starts_split t (p + g) h, List.drop_left' (by simp [nls_len, cnt])]
  have e3 : (nls (p + g) (t.drop (p + g))).map (fun x => x - g + c.length) = nls (p + c.length) (t.drop (p + g)) := by
    have h1 := nls_shift (t.drop (p + g)) p g
    have h2 := nls_shift (t.drop (p + g)) p c.length
    rw [← h1, List.map_map, ← h2]
    refine List.map_congr_left fun x _ => ?_
    simp only [Function.comp]
    omega
  rw [e1, e2, e3]
  unfold starts Tx.put
  rw [nls_app, nls_app, List.length_append, hl]
  simp
def ls : List Nat → List (List Nat)
  | [] => [[]]
  | c :: r => if c = 10 then [] :: ls r else match ls r with
    | l :: rest => (c :: l) :: rest
    | [] => [[c]]
theorem ls_ne : ∀ (t : List Nat), ls t ≠ []
  | [] => by simp [ls]
  | c :: r => by
    unfold ls
    split
    · simp
    · split <;> simp
theorem ls_cons {c : Nat} {r : List Nat} (h : c ≠ 10) : ∃ l rest, ls r = l :: rest ∧ ls (c :: r) = (c :: l) :: rest := by
  cases hr : ls r with
  | nil => exact absurd hr (ls_ne r)
  | cons l rest => exact ⟨l, rest, rfl, by simp [ls, h, hr]⟩
theorem ls_nl (r : List Nat) : ls (10 :: r) = [] :: ls r := by simp [ls]
theorem ls_len : ∀ (t : List Nat), (ls t).length = t.count 10 + 1
  | [] => rfl
  | c :: r => by
    have ih := ls_len r
    by_cases h : c = 10
    · subst h; rw [ls_nl]; simp [ih]
    · obtain ⟨l, rest, h1, h2⟩ := ls_cons (r := r) h
      have : (c == 10) = false := by simpa using h
      rw [h2, List.count_cons, this]
      rw [h1] at ih
      simpa using ih
/-- begins, from the lines' lengths -/
def acc : Nat → List (List Nat) → List Nat
  | _, [] => []
  | _, [_] => []
  | i, l :: m :: r => (i + l.length + 1) :: acc (i + l.length + 1) (m :: r)
theorem acc_ls : ∀ (t : List Nat) (i : Nat), nls i t = acc i (ls t)
  | [], i => rfl
  | c :: r, i => by
    have ih := acc_ls r (i + 1)
    by_cases h : c = 10
    · subst h
      rw [ls_nl]
      cases hr : ls r with
      | nil => exact absurd hr (ls_ne r)
      | cons m q =>
        rw [hr] at ih
        simp [nls, acc, ih]
    · obtain ⟨l, rest, h1, h2⟩ := ls_cons (r := r) h
      rw [h2]
      unfold nls
      rw [if_neg h, ih, h1]
      cases rest with
      | nil => rfl
      | cons m q =>
        have : i + 1 + l.length + 1 = i + (c :: l).length + 1 := by simp; omega
        simp only [acc, this]
/-- lines of two texts, one behind the other -/
theorem ls_app : ∀ (a b : List Nat), ∃ x y, (ls a).getLast? = some x ∧ (ls b).head? = some y ∧ ls (a ++ b) = (ls a).dropLast ++ (x ++ y) :: (ls b).tail
  | [], b => by
    cases hb : ls b with
    | nil => exact absurd hb (ls_ne b)
    | cons y q => exact ⟨[], y, by simp [ls], by simp, by simp [ls, hb]⟩
  | c :: a, b => by
    obtain ⟨x, y, h1, h2, h3⟩ := ls_app a b
    by_cases h : c = 10
    · subst h
      have na := ls_ne a
      refine ⟨x, y, ?_, h2, ?_⟩
      · rw [ls_nl]
        cases ha : ls a with
        | nil => exact absurd ha na
        | cons m q => rw [ha] at h1; rw [List.getLast?_cons_cons]; exact h1
      · rw [List.cons_append, ls_nl, ls_nl, h3]
        cases ha : ls a with
        | nil => exact absurd ha na
        | cons m q => simp
    · obtain ⟨l, rest, e1, e2⟩ := ls_cons (r := a) h
      obtain ⟨l', rest', e3, e4⟩ := ls_cons (r := a ++ b) h
      rw [e1] at h1 h3
      rw [e3] at h3
      cases rest with
      | nil =>
        simp at h1 h3
        obtain ⟨rfl, rfl⟩ := h3
        subst h1
        exact ⟨c :: l, y, by rw [e2]; simp, h2, by rw [List.cons_append, e4, e2]; simp⟩
      | cons m q =>
        simp only [List.dropLast_cons₂, List.cons_append, List.cons.injEq] at h3
        obtain ⟨rfl, rfl⟩ := h3
        refine ⟨x, y, by rw [e2, List.getLast?_cons_cons]; rw [List.getLast?_cons_cons] at h1; exact h1, h2, ?_⟩
        rw [List.cons_append, e4, e2]
        simp
theorem ls_take {a b : List Nat} : (ls (a ++ b)).take (a.count 10) = (ls a).dropLast := by
  obtain ⟨x, y, h1, h2, h3⟩ := ls_app a b
  rw [h3, List.take_left' (by rw [List.length_dropLast, ls_len]; omega)]
theorem ls_drop {a b : List Nat} : (ls (a ++ b)).drop (a.count 10 + 1) = (ls b).tail := by
  obtain ⟨x, y, h1, h2, h3⟩ := ls_app a b
  have : (ls (a ++ b)) = ((ls a).dropLast ++ [x ++ y]) ++ (ls b).tail := by rw [h3]; simp
  rw [this, List.drop_left' (by rw [List.length_append, List.length_dropLast, ls_len]; simp)]
theorem join_ls : ∀ (t : List Nat), TL.joinL [10] (ls t) = t
  | [] => rfl
  | c :: r => by
    have ih := join_ls r
    by_cases h : c = 10
    · subst h
      rw [ls_nl]
      cases hr : ls r with
      | nil => exact absurd hr (ls_ne r)
      | cons m q =>
        rw [hr] at ih
        unfold TL.joinL
        rw [ih]; rfl
    · obtain ⟨l, rest, h1, h2⟩ := ls_cons (r := r) h
      rw [h2]
      rw [h1] at ih
      cases rest with
      | nil => unfold TL.joinL at ih ⊢; rw [ih]
      | cons m q =>
        unfold TL.joinL at ih ⊢
        rw [← ih]; simp
theorem join_app : ∀ {A B : List (List Nat)}, A ≠ [] → B ≠ [] → TL.joinL [10] (A ++ B) = TL.joinL [10] A ++ 10 :: TL.joinL [10] B
  | [], _, h, _ => absurd rfl h
  | [a], B, _, hB => by
    cases B with
    | nil => exact absurd rfl hB
    | cons b r => simp [TL.joinL]
  | a :: m :: r, B, _, hB => by
    have ih := join_app (A := m :: r) (B := B) (by simp) hB
    have e1 : TL.joinL [10] (a :: m :: r ++ B) = a ++ 10 :: TL.joinL [10] (m :: r ++ B) := by simp [TL.joinL]
    have e2 : TL.joinL [10] (a :: m :: r) = a ++ 10 :: TL.joinL [10] (m :: r) := by simp [TL.joinL]
    rw [e1, ih, e2]; simp
theorem acc_len : ∀ (L : List (List Nat)) (i : Nat), (acc i L).length = L.length - 1
  | [], _ => rfl
  | [_], _ => rfl
  | l :: m :: r, i => by simp [acc, acc_len (m :: r)]
theorem acc_at : ∀ {L : List (List Nat)} {i j : Nat}, j + 1 < L.length → (acc i L)[j]? = some (i + (TL.joinL [10] (L.take (j + 1))).length + 1)
  | [], _, _, h => by simp at h
  | [_], _, _, h => by simp at h
  | l :: m :: r, i, 0, _ => by simp [acc, TL.joinL]
  | l :: m :: r, i, j + 1, h => by
    have ih := acc_at (L := m :: r) (i := i + l.length + 1) (j := j) (by simpa using h)
    have e : TL.joinL [10] ((l :: m :: r).take (j + 1 + 1)) = l ++ 10 :: TL.joinL [10] ((m :: r).take (j + 1)) := by
      rw [List.take_succ_cons, List.take_succ_cons]; simp [TL.joinL]
    rw [e]
    simp only [acc, List.getElem?_cons_succ, ih, List.length_append, List.length_cons]
    congr 1; omega
/-- the begin of line j -/
def st (t : List Nat) (j : Nat) : Nat := (starts t).getD j 0
/-- the end of line j -/
def en (t : List Nat) (j : Nat) : Nat := if j + 1 < (starts t).length then st t (j + 1) - 1 else t.length
theorem starts_ls (t : List Nat) : (starts t).length = (ls t).length := by rw [starts_len, ls_len]
theorem st_at {t : List Nat} {j : Nat} (h : j < (starts t).length) : (starts t)[j]? = some (st t j) := by
  unfold st
  rw [List.getD_eq_getElem?_getD, List.getElem?_eq_getElem h]; rfl
theorem st_zero (t : List Nat) : st t 0 = 0 := rfl
theorem st_succ {t : List Nat} {j : Nat} (h : j + 1 < (ls t).length) : st t (j + 1) = (TL.joinL [10] ((ls t).take (j + 1))).length + 1 := by
  unfold st starts
  rw [List.getD_cons_succ, acc_ls, List.getD_eq_getElem?_getD, acc_at h]
  simp
theorem en_join {t : List Nat} {j : Nat} (h : j < (ls t).length) : en t j = (TL.joinL [10] ((ls t).take (j + 1))).length := by
  unfold en
  rw [starts_ls]
  split
  · rename_i h2; rw [st_succ h2]; rfl
  · rw [List.take_of_length_le (by omega), join_ls]
theorem en_line {t : List Nat} {j : Nat} {l : List Nat} (h : (ls t)[j]? = some l) : en t j = st t j + l.length := by
  have hj := (List.getElem?_eq_some_iff.mp h).1
  rw [en_join hj]
  have e : (ls t).take (j + 1) = (ls t).take j ++ [l] := by rw [List.take_add_one, h]; rfl
  rw [e]
  cases j with
  | zero => simp [st_zero, TL.joinL]
  | succ j =>
    have hne : (ls t).take (j + 1) ≠ [] := by
      intro z
      have := congrArg List.length z
      rw [List.length_take, List.length_nil] at this
      omega
    rw [join_app hne (by simp), st_succ hj]
    simp [TL.joinL]; omega
theorem st_en {t : List Nat} {j : Nat} (h : j < (ls t).length) : st t j ≤ en t j ∧ en t j ≤ t.length := by
  have e := en_line (List.getElem?_eq_getElem h)
  refine ⟨by omega, ?_⟩
  unfold en
  split
  · rename_i h2
    have := starts_mem (List.mem_of_getElem? (st_at h2))
    omega
  · exact Nat.le_refl _
/-- the place in its line -/
theorem in_line {t : List Nat} {p : Nat} (h : p ≤ t.length) : st t (cnt t p) ≤ p ∧ p ≤ en t (cnt t p) := by
  have cl := cnt_lt (t := t) (p := p)
  refine ⟨(rank h (st_at cl)).mpr (Nat.le_refl _), ?_⟩
  unfold en
  split
  · rename_i h2
    have := (rank h (st_at h2))
    have : ¬ st t (cnt t p + 1) ≤ p := fun z => by have := this.mp z; omega
    omega
  · exact h
theorem take_st {t : List Nat} {j : Nat} (h0 : 0 < j) (h : j < (ls t).length) : t.take (st t j) = TL.joinL [10] ((ls t).take j) ++ [10] ∧ t.drop (st t j) = TL.joinL [10] ((ls t).drop j) ∧ t.take (st t j - 1) = TL.joinL [10] ((ls t).take j) := by
  obtain ⟨i, rfl⟩ : ∃ i, j = i + 1 := ⟨j - 1, by omega⟩
  have e := st_succ h
  have hA : (ls t).take (i + 1) ≠ [] := by
    intro z
    have := congrArg List.length z
    rw [List.length_take, List.length_nil] at this
    omega
  have hB : (ls t).drop (i + 1) ≠ [] := by
    intro z
    have := congrArg List.length z
    rw [List.length_drop, List.length_nil] at this
    omega
  have ej : t = TL.joinL [10] ((ls t).take (i + 1)) ++ 10 :: TL.joinL [10] ((ls t).drop (i + 1)) := by
    rw [← join_app hA hB, List.take_append_drop, join_ls]
  generalize hP : TL.joinL [10] ((ls t).take (i + 1)) = P at *
  generalize hQ : TL.joinL [10] ((ls t).drop (i + 1)) = Q at *
  have ej' : t = (P ++ [10]) ++ Q := by rw [ej]; simp
  have hl : (P ++ [10]).length = st t (i + 1) := by rw [e]; simp
  have e2 : st t (i + 1) - 1 = P.length := by omega
  generalize st t (i + 1) = x at *
  refine ⟨?_, ?_, ?_⟩
  · rw [ej', ← hl, List.take_left]
  · rw [ej', ← hl, List.drop_left]
  · rw [e2, ej, List.take_left]
end Tl

set_option Elab.async false
set_option linter.all false
set_option maxRecDepth 100000
namespace PD
open PySem
theorem cnt_nat (l : List Nat) : PyProof.Rows.cnt 10 l = (l.count 10 : Int) := by
  induction l with
  | nil => rfl
  | cons c l ih =>
    rw [PyProof.Rows.cnt_cons, ih, List.count_cons]
    by_cases h : c = 10
    · subst h; simp; omega
    · have : (c == 10) = false := by simpa using h
      simp [h]
theorem count_nl (a : List Nat) : dMet1 .count a (.str [10]) = some (.int (a.count 10 : Int)) := by
  show some (D.int (Txt.count ⟨a.toArray⟩ ⟨[10].toArray⟩)) = _
  have := PyProof.Rows.count_cnt ⟨a.toArray⟩ 10
  have e : (⟨[10].toArray⟩ : Str) = ⟨#[10]⟩ := rfl
  rw [e, this, cnt_nat]
theorem pre_one (c : Nat) (r : List Nat) : TL.pre [10] (c :: r) = decide (c = 10) := by
  by_cases h : c = 10
  · subst h
    have := TL.pre_self [10] r
    simpa using this
  · have := TL.pre_of_head (s := 10) (c := c) [] r h
    simp [this, h]
theorem spl_ls : ∀ (t acc : List Nat), TL.spl [10] 0 acc t = match Tl.ls t with
    | l :: rest => (acc ++ l) :: rest
    | [] => [acc]
  | [], acc => by rw [TL.spl_nil]; simp [Tl.ls]
  | c :: r, acc => by
    by_cases h : c = 10
    · subst h
      rw [TL.spl_hit (by rw [pre_one]; simp), Tl.ls_nl]
      have ih := spl_ls r []
      show acc :: TL.spl [10] 0 [] r = _
      rw [ih]
      cases hr : Tl.ls r with
      | nil => exact absurd hr (Tl.ls_ne r)
      | cons m q => simp
    · rw [TL.spl_miss (by rw [pre_one]; simpa using h), spl_ls r (acc ++ [c])]
      obtain ⟨l, rest, h1, h2⟩ := Tl.ls_cons (r := r) h
      rw [h1, h2]; simp
theorem spl_ls0 (t : List Nat) : TL.spl [10] 0 [] t = Tl.ls t := by
  rw [spl_ls]
  cases hr : Tl.ls t with
  | nil => exact absurd hr (Tl.ls_ne t)
  | cons m q => simp
theorem ls_mem : ∀ {t l : List Nat}, l ∈ Tl.ls t → l.length ≤ t.length ∧ ∀ c ∈ l, c ∈ t
  | [], l, h => by
    have : l = [] := by simpa [Tl.ls] using h
    subst this; simp
  | c :: r, l, h => by
    by_cases hc : c = 10
    · subst hc
      rw [Tl.ls_nl] at h
      rcases List.mem_cons.mp h with rfl | h
      · simp
      · obtain ⟨h1, h2⟩ := ls_mem h
        exact ⟨by simp; omega, fun d hd => List.mem_cons_of_mem _ (h2 d hd)⟩
    · obtain ⟨l', rest, h1, h2⟩ := Tl.ls_cons (r := r) hc
      rw [h2] at h
      rcases List.mem_cons.mp h with rfl | h
      · obtain ⟨h3, h4⟩ := ls_mem (t := r) (l := l') (by rw [h1]; exact List.mem_cons_self)
        refine ⟨by simp; omega, fun d hd => ?_⟩
        rcases List.mem_cons.mp hd with rfl | hd
        · exact List.mem_cons_self
        · exact List.mem_cons_of_mem _ (h4 d hd)
      · obtain ⟨h3, h4⟩ := ls_mem (t := r) (l := l) (by rw [h1]; exact List.mem_cons_of_mem _ h)
        exact ⟨by simp; omega, fun d hd => List.mem_cons_of_mem _ (h4 d hd)⟩
theorem strsOk_S : ∀ {L : List (List Nat)}, (∀ l ∈ L, l.length ≤ 16777216 ∧ ∀ c ∈ l, c < 1000) → strsOk (L.map SX.S) = some (L.map D.str)
  | [], _ => rfl
  | l :: L, h => by
    obtain ⟨h1, h2⟩ := h l List.mem_cons_self
    have ih := strsOk_S (L := L) fun m hm => h m (List.mem_cons_of_mem _ hm)
    have e : strOk (SX.S l) = some (.str l) := by
      unfold strOk
      have e1 : (SX.S l).cps.toList = l := by simp [SX.S]
      rw [e1, if_pos ⟨by rw [sizeLine_lit]; exact h1, by
        rw [List.all_eq_true]
        intro c hc
        have := h2 c hc
        simp; omega⟩]
    simp only [List.map_cons, strsOk, e, ih, Option.bind_some, Option.map_some]
theorem split_nl {t : List Nat} (hl : t.length ≤ 1000000) (hc : ∀ c ∈ t, c < 1000) : dSplit t (.str [10]) = some ((Tl.ls t).map D.str) := by
  have e := SX.split_S (a := t) (b := [10]) (by simp) rfl
  rw [spl_ls0] at e
  show (if (([10] : List Nat).length == 0) = false ∧ t.length + 2 ≤ sizeLine then strsOk (Txt.split (SX.S t) (SX.S [10])) else none) = _
  rw [if_pos ⟨rfl, by rw [sizeLine_lit]; omega⟩, e]
  exact strsOk_S fun l hm => by
    obtain ⟨h1, h2⟩ := ls_mem hm
    exact ⟨by omega, fun c h => hc c (h2 c h)⟩
end PD

set_option Elab.async false
set_option linter.all false
set_option maxHeartbeats 0
namespace PD
open PySem PySem.Spec PyProof.Rows L2
theorem or_f {G : Dn} {a b : Ex} {δ : DEnv} {S S1 : Store} {r : Out Bool} (h : tst G a δ S = .ok false S1) (h2 : tst G b δ S1 = r) : tst G (.or a b) δ S = r := by
  rw [tst_or, h, Out.bind_ok, if_neg Bool.false_ne_true, h2]
theorem or_t {G : Dn} {a b : Ex} {δ : DEnv} {S S1 : Store} (h : tst G a δ S = .ok true S1) : tst G (.or a b) δ S = .ok true S1 := by
  rw [tst_or, h, Out.bind_ok, if_pos rfl]
theorem and_t {G : Dn} {a b : Ex} {δ : DEnv} {S S1 : Store} {r : Out Bool} (h : tst G a δ S = .ok true S1) (h2 : tst G b δ S1 = r) : tst G (.and a b) δ S = r := by
  rw [tst_and, h, Out.bind_ok, if_pos rfl, h2]
theorem and_f {G : Dn} {a b : Ex} {δ : DEnv} {S S1 : Store} (h : tst G a δ S = .ok false S1) : tst G (.and a b) δ S = .ok false S1 := by
  rw [tst_and, h, Out.bind_ok, if_neg Bool.false_ne_true]
theorem one_of {G : Dn} {a : Ex} {δ : DEnv} {S : Store} {r : Out Bool} (h : tst G a δ S = r) : tst G (.one a) δ S = r := by
  rw [tst_one, h]
theorem not_of {G : Dn} {a : Ex} {δ : DEnv} {S S1 : Store} {b : Bool} (h : tst G a δ S = .ok b S1) : tst G (.not a) δ S = .ok (!b) S1 := by
  rw [tst_not, h, Out.bind_ok]
theorem iff_t {G : Dn} {c : Ex} {A B : Sts} {δ : DEnv} {S S1 : Store} {r : Out Fl} (h : tst G c δ S = .ok true S1) (h2 : evSs G A δ S1 = r) : evS G (.iff c A B) δ S = r := by
  rw [evS_iff, h]; exact h2
theorem iff_f {G : Dn} {c : Ex} {A B : Sts} {δ : DEnv} {S S1 : Store} {r : Out Fl} (h : tst G c δ S = .ok false S1) (h2 : evSs G B δ S1 = r) : evS G (.iff c A B) δ S = r := by
  rw [evS_iff, h]; exact h2
theorem iff_n {G : Dn} {c : Ex} {A : Sts} {δ : DEnv} {S S1 : Store} (h : tst G c δ S = .ok false S1) : evS G (.iff c A .nil) δ S = .ok (.nx δ) S1 := iff_f h evSs_nil
theorem iff_rt {G : Dn} {c : Ex} {d : D} {δ : DEnv} {S S1 : Store} (h : tst G c δ S = .ok true S1) : evS G (.iff c (.cons (.ret (.cst d)) .nil) .nil) δ S = .ok (.rt d) S1 := iff_t h (step_rt (by simp))
/-- the values of and -/
theorem vand_t {G : Dn} {a b : Ex} {δ : DEnv} {S S1 : Store} {r : Out D} (h : ev G a δ S = .ok (.bl true) S1) (h2 : ev G b δ S1 = r) : ev G (.and a b) δ S = r := by
  rw [ev_and, h, Out.bind_ok, D.asB_bl, liftB_some, Out.bind_ok, if_pos rfl, h2]
theorem vand_f {G : Dn} {a b : Ex} {δ : DEnv} {S S1 : Store} (h : ev G a δ S = .ok (.bl false) S1) : ev G (.and a b) δ S = .ok (.bl false) S1 := by
  rw [ev_and, h, Out.bind_ok, D.asB_bl, liftB_some, Out.bind_ok, if_neg Bool.false_ne_true]
theorem vone {G : Dn} {a : Ex} {δ : DEnv} {S : Store} {r : Out D} (h : ev G a δ S = r) : ev G (.one a) δ S = r := by
  rw [ev_one, h]
theorem ret_of {G : Dn} {e : Ex} {δ : DEnv} {S S1 : Store} {d : D} (h : ev G e δ S = .ok d S1) : evS G (.ret e) δ S = .ok (.rt d) S1 := by
  rw [evS_ret, h]; rfl
end PD

set_option Elab.async false
set_option linter.all false
set_option maxHeartbeats 0
namespace PD
open PySem PySem.Spec PyProof.Rows L2
@[simp] theorem seq_lst' (ds : List D) (S : Store) : (D.lst ds).seq S = some ds := id rfl
@[simp] theorem seq_tup' (ds : List D) (S : Store) : (D.tup ds).seq S = some ds := id rfl
theorem seq_top {S : Store} {ds : List D} : (D.obj S.length).seq (S ++ [.lst ds]) = some ds := by simp [D.seq]
@[simp] theorem top_len (S : Store) (ds : List D) : bifF .len [.obj S.length] (S ++ [.lst ds]) = some (.int ds.length) := by
  show Option.map _ ((D.obj S.length).seq _) = _
  rw [seq_top]; rfl
@[simp] theorem top_idx (S : Store) (ds : List D) (i : Int) : dIdx (.obj S.length) (.int i) (S ++ [.lst ds]) = L2.atI ds i := by
  show (match (D.obj S.length).seq (S ++ [.lst ds]) with | some ds => L2.atI ds i | none => none) = _
  rw [seq_top]
theorem top_app {S : Store} {ds : List D} {v : D} (hp : v.pure = true) (h : ds.length ≤ 1000000) : appF S.length v (S ++ [.lst ds]) = .ok .non (S ++ [.lst (ds ++ [v])]) := app_top hp h
@[simp] theorem top_tuple (S : Store) (ds : List D) : bifF .tuple [.obj S.length] (S ++ [.lst ds]) = some (.tup ds) := tuple_top
@[simp] theorem top_new (S : Store) : mkList true [] S = .ok (.obj S.length) (S ++ [.lst []]) := new_top S
theorem top_mk {S : Store} {ds : List D} (h : D.pures ds = true) (hl : ds.length ≤ 1000000) : mkList true ds S = .ok (.obj S.length) (S ++ [.lst ds]) := by
  have : ds.all D.pure = true := by
    clear hl
    induction ds with
    | nil => rfl
    | cons d ds ih => simp only [D.pures, Bool.and_eq_true] at h; simp [h.1, ih h.2]
  unfold mkList
  rw [if_pos (by rw [sizeLine_lit]; omega), if_pos rfl, if_pos this]
theorem top_set {S : Store} {ds : List D} {i : Int} {j : Nat} {v : D} (h : L2.ixN ds.length i = some j) (hp : v.pure = true) : setiF S.length (.int i) v (S ++ [.lst ds]) = .ok .non (S ++ [.lst (ds.set j v)]) := by
  unfold setiF
  rw [top_get]
  simp only [h, hp, if_true]
  rw [List.set_append_right _ _ (Nat.le_refl _), Nat.sub_self]
  rfl
theorem ixN_nat {n i : Nat} (h : i < n) : L2.ixN n (i : Int) = some i := by
  unfold L2.ixN
  rw [if_pos (by omega), if_pos (by omega)]; simp
theorem ixN_last {n : Nat} (h : 0 < n) : L2.ixN n (-1) = some (n - 1) := by
  unfold L2.ixN
  rw [if_neg (by omega), if_pos (by omega)]; congr 1; omega
@[simp] theorem top_take (S : Store) (c : C) : (S ++ [c]).take S.length = S := by simp
theorem fin_top {S : Store} {ds : List D} : fin true S.length (.obj S.length) (S ++ [.lst ds]) = .ok (.lst ds) S := by
  unfold fin
  simp [D.frz]
theorem top_ext {S : Store} {ds es : List D} {x : D} (hx : x.vseq (S ++ [.lst ds]) = some es) (hp : es.all D.pure = true) (h : ds.length + es.length ≤ 1000000) : extF S.length x (S ++ [.lst ds]) = .ok .non (S ++ [.lst (ds ++ es)]) := by
  unfold extF
  rw [top_get, hx]
  have : ds.length + es.length ≤ 16777216 := by omega
  simp [hp, this]
abbrev nD (n : Nat) : D := .int (n : Int)
abbrev nDs (l : List Nat) : List D := l.map fun (n : Nat) => D.int (n : Int)
theorem nDs_plain (l : List Nat) : D.plains (nDs l) = true := by
  rw [plains_iff]
  intro x hx
  obtain ⟨n, _, rfl⟩ := List.mem_map.mp hx
  rfl
theorem nDs_pures (l : List Nat) : D.pures (nDs l) = true := plains_pures (nDs_plain l)
theorem nDs_get {l : List Nat} {i v : Nat} (h : l[i]? = some v) : L2.atI (nDs l) (i : Int) = some (.int (v : Int)) := by
  rw [ix_nat, List.getElem?_map, h]; rfl
theorem nDs_set (l : List Nat) (i v : Nat) : (nDs l).set i (.int (v : Int)) = nDs (l.set i v) := List.map_set.symm
theorem nDs_rep (n : Nat) : rep n [D.int 0] = nDs (List.replicate n 0) := by
  unfold rep
  induction n with
  | zero => rfl
  | succ n ih => rw [List.replicate_succ, List.flatten_cons, ih, List.replicate_succ]; rfl
theorem nDs_depth (l : List Nat) : D.depths (nDs l) ≤ 1 := by
  induction l with
  | nil => simp [D.depths]
  | cons a r ih => simp [D.depths, D.depth] at ih ⊢; omega
theorem numL_get : ∀ {ds : List D} {n i : Nat} {x : D}, (numL n ds)[i]? = some x → ∃ d, ds[i]? = some d ∧ x = .tup [.int ((n + i : Nat) : Int), d]
  | [], n, i, x, h => by simp [numL] at h
  | d :: ds, n, 0, x, h => by simp [numL] at h; exact ⟨d, rfl, by rw [← h]; rfl⟩
  | d :: ds, n, i + 1, x, h => by
    obtain ⟨e, h1, h2⟩ := numL_get (ds := ds) (n := n + 1) (i := i) (x := x) (by simpa [numL] using h)
    exact ⟨e, by simpa using h1, by rw [h2]; congr 4; omega⟩
theorem rngL_len (a b : Int) : (rngL a b).length = (b - a).toNat := by unfold rngL; rw [List.length_map, List.length_range]
theorem rngL_get {a b : Int} {i : Nat} {x : D} (h : (rngL a b)[i]? = some x) : x = .int (a + (i : Int)) ∧ i < (b - a).toNat := by
  have h2 := (List.getElem?_eq_some_iff.mp h).1
  rw [rngL_len] at h2
  refine ⟨?_, h2⟩
  unfold rngL at h
  rw [List.getElem?_map, List.getElem?_range h2] at h
  exact (Option.some.inj h).symm
/-- a comprehension over numbers that tests them -/
theorem comp_filter {G : Dn} {c : Ex} {i : Nat} {it : PD.It} {δ : DEnv} {S : Store} {l : List Nat} (p : Nat → Bool) (hi : evI G it δ S = .ok (.st (nDs l)) S) (hδ : i < δ.length) (h : ∀ x ∈ l, tst G c ((δ.set i none).set i (some (.int (x : Int)))) S = .ok (p x) S) (hl : l.length ≤ 1000000) :
    ev G (.comp (.var i) (.nm i) it (.cons c .nil) false) δ S = .ok (.lst (nDs (l.filter p))) S := by
  rw [comp_pure (fun d => match d with | .int n => if p n.toNat then some d else none | _ => none) hi (fun x hx => by
    obtain ⟨n, hn, rfl⟩ := List.mem_map.mp hx
    have g : getD ((δ.set i none).set i (some (.int (n : Int)))) i = some (.int (n : Int)) := by
      unfold getD
      rw [List.getElem?_set_self (by rw [List.length_set]; exact hδ)]
    rw [turn_if (h n hn)]
    cases hp : p n
    · simp [hp]
    · simp [hp, g]
      rw [List.set_set] at g
      simp [g]) (by rw [List.length_map]; omega)]
  congr 2
  clear hi h hl
  induction l with
  | nil => rfl
  | cons a r ih =>
    rw [show nDs (a :: r) = .int (a : Int) :: nDs r from rfl, List.filterMap_cons, ih]
    cases hp : p a <;> simp [hp]
/-- a comprehension over numbers that makes numbers -/
theorem comp_map {G : Dn} {el : Ex} {i : Nat} {it : PD.It} {δ : DEnv} {S : Store} {l : List Nat} (f : Nat → D) (hi : evI G it δ S = .ok (.st (nDs l)) S) (h : ∀ x ∈ l, ev G el ((δ.set i none).set i (some (.int (x : Int)))) S = .ok (f x) S) (hl : l.length ≤ 1000000) :
    ev G (.comp el (.nm i) it .nil false) δ S = .ok (.lst (l.map f)) S := by
  rw [comp_pure (fun d => match d with | .int n => some (f n.toNat) | _ => none) hi (fun x hx => by
    obtain ⟨n, hn, rfl⟩ := List.mem_map.mp hx
    rw [turn_el, h n hn]
    simp) (by rw [List.length_map]; omega)]
  congr 2
  clear hi h hl
  induction l with
  | nil => rfl
  | cons a r ih => rw [show nDs (a :: r) = .int (a : Int) :: nDs r from rfl, List.filterMap_cons, ih]; simp
/-- a comprehension over numbers that tests them and makes something of them -/
theorem comp_fm {G : Dn} {el c : Ex} {i : Nat} {it : PD.It} {δ : DEnv} {S : Store} {l : List Nat} (p : Nat → Bool) (f : Nat → D) (hi : evI G it δ S = .ok (.st (nDs l)) S) (h : ∀ x ∈ l, tst G c ((δ.set i none).set i (some (.int (x : Int)))) S = .ok (p x) S) (h2 : ∀ x ∈ l, p x = true → ev G el ((δ.set i none).set i (some (.int (x : Int)))) S = .ok (f x) S) (hl : l.length ≤ 1000000) :
    ev G (.comp el (.nm i) it (.cons c .nil) false) δ S = .ok (.lst ((l.filter p).map f)) S := by
  rw [comp_pure (fun d => match d with | .int n => if p n.toNat then some (f n.toNat) else none | _ => none) hi (fun x hx => by
    obtain ⟨n, hn, rfl⟩ := List.mem_map.mp hx
    rw [turn_if (h n hn)]
    cases hp : p n
    · simp [hp]
    · rw [if_pos rfl, h2 n hn hp]; simp [hp]) (by rw [List.length_map]; omega)]
  congr 2
  clear hi h h2 hl
  induction l with
  | nil => rfl
  | cons a r ih =>
    rw [show nDs (a :: r) = .int (a : Int) :: nDs r from rfl, List.filterMap_cons, ih]
    cases hp : p a <;> simp [hp]
theorem set_last {α : Type} (l : List α) (x y : α) : (l ++ [x]).set ((l ++ [x]).length - 1) y = l ++ [y] := by
  rw [List.length_append, List.length_singleton, Nat.add_sub_cancel, List.set_append_right _ _ (Nat.le_refl _), Nat.sub_self]; rfl
theorem ix_snoc {α : Type} (l : List α) (x : α) : L2.atI (l ++ [x]) (-1) = some x := by
  rw [ix_last, List.getLast?_append]; rfl
end PD

set_option Elab.async false
set_option linter.all false
set_option maxHeartbeats 0
namespace PD
open PySem PySem.Spec PyProof.Rows L2
theorem sec_get (S : Store) (a b : C) : (S ++ [a, b])[S.length]? = some a := by simp
theorem fst_get (S : Store) (a b : C) : (S ++ [a, b])[S.length + 1]? = some b := by
  rw [List.getElem?_append_right (by omega)]; simp
theorem sec_set (S : Store) (a b c : C) : (S ++ [a, b]).set S.length c = S ++ [c, b] := by
  rw [List.set_append_right _ _ (Nat.le_refl _), Nat.sub_self]; rfl
theorem fst_set (S : Store) (a b c : C) : (S ++ [a, b]).set (S.length + 1) c = S ++ [a, c] := by
  rw [List.set_append_right _ _ (by omega), show S.length + 1 - S.length = 1 by omega]; rfl
theorem sec_app {S : Store} {a b : List D} {v : D} (hp : v.pure = true) (h : a.length ≤ 1000000) : appF S.length v (S ++ [.lst a, .lst b]) = .ok .non (S ++ [.lst (a ++ [v]), .lst b]) := by
  have : a.length < 16777216 := by omega
  unfold appF
  rw [sec_get]
  simp [hp, this, sec_set]
theorem fst_app {S : Store} {a b : List D} {v : D} (hp : v.pure = true) (h : b.length ≤ 1000000) : appF (S.length + 1) v (S ++ [.lst a, .lst b]) = .ok .non (S ++ [.lst a, .lst (b ++ [v])]) := by
  have : b.length < 16777216 := by omega
  unfold appF
  rw [fst_get]
  simp [hp, this, fst_set]
theorem fst_pop {S : Store} {a b : List D} {d : D} : popF (S.length + 1) (S ++ [.lst a, .lst (b ++ [d])]) = .ok d (S ++ [.lst a, .lst b]) := by
  unfold popF
  rw [fst_get]
  simp [fst_set]
theorem fst_ext {S : Store} {a b es : List D} (hp : D.pures es = true) (h : b.length + es.length ≤ 1000000) : extF (S.length + 1) (.lst es) (S ++ [.lst a, .lst b]) = .ok .non (S ++ [.lst a, .lst (b ++ es)]) := by
  have hp' : es.all D.pure = true := by
    clear h
    induction es with
    | nil => rfl
    | cons d ds ih => simp only [D.pures, Bool.and_eq_true] at hp; simp [hp.1, ih hp.2]
  have : b.length + es.length ≤ 16777216 := by omega
  unfold extF
  rw [fst_get]
  show (if es.all D.pure && decide (b.length + es.length ≤ sizeLine) then Out.ok D.non ((S ++ [C.lst a, C.lst b]).set (S.length + 1) (C.lst (b ++ es))) else .bad) = _
  rw [fst_set, hp', decide_eq_true (by rw [sizeLine_lit]; exact this)]; rfl
theorem fst_seq {S : Store} {a b : List D} : (D.obj (S.length + 1)).seq (S ++ [.lst a, .lst b]) = some b := by
  show (match (S ++ [C.lst a, C.lst b])[S.length + 1]? with | some (.lst ds) => some ds | _ => none) = _
  rw [fst_get]
theorem sec_seq {S : Store} {a b : List D} : (D.obj S.length).seq (S ++ [.lst a, .lst b]) = some a := by
  show (match (S ++ [C.lst a, C.lst b])[S.length]? with | some (.lst ds) => some ds | _ => none) = _
  rw [sec_get]
@[simp] theorem fst_len (S : Store) (a b : List D) : bifF .len [.obj (S.length + 1)] (S ++ [.lst a, .lst b]) = some (.int b.length) := by
  show Option.map _ ((D.obj (S.length + 1)).seq _) = _
  rw [fst_seq]; rfl
@[simp] theorem sec_len (S : Store) (a b : List D) : bifF .len [.obj S.length] (S ++ [.lst a, .lst b]) = some (.int a.length) := by
  show Option.map _ ((D.obj S.length).seq _) = _
  rw [sec_seq]; rfl
@[simp] theorem fst_idx (S : Store) (a b : List D) (i : Int) : dIdx (.obj (S.length + 1)) (.int i) (S ++ [.lst a, .lst b]) = L2.atI b i := by
  show (match (D.obj (S.length + 1)).seq (S ++ [C.lst a, C.lst b]) with | some ds => L2.atI ds i | none => none) = _
  rw [fst_seq]
@[simp] theorem sec_idx (S : Store) (a b : List D) (i : Int) : dIdx (.obj S.length) (.int i) (S ++ [.lst a, .lst b]) = L2.atI a i := by
  show (match (D.obj S.length).seq (S ++ [C.lst a, C.lst b]) with | some ds => L2.atI ds i | none => none) = _
  rw [sec_seq]
@[simp] theorem sec_tuple (S : Store) (a b : List D) : bifF .tuple [.obj S.length] (S ++ [.lst a, .lst b]) = some (.tup a) := by
  show Option.map _ ((D.obj S.length).seq _) = _
  rw [sec_seq]; rfl
@[simp] theorem fst_tuple (S : Store) (a b : List D) : bifF .tuple [.obj (S.length + 1)] (S ++ [.lst a, .lst b]) = some (.tup b) := by
  show Option.map _ ((D.obj (S.length + 1)).seq _) = _
  rw [fst_seq]; rfl
@[simp] theorem two_take (S : Store) (a b : C) : (S ++ [a, b]).take S.length = S := by simp
theorem fst_mk {S : Store} {x : C} {ds : List D} (h : D.pures ds = true) (hl : ds.length ≤ 1000000) : mkList true ds (S ++ [x]) = .ok (.obj (S.length + 1)) (S ++ [x, .lst ds]) := by
  rw [top_mk h hl]; simp
theorem sec_join {S : Store} {a : List Nat} {ys : List (List Nat)} {b : List D} (h : a = []) (hl : ys.flatten.length ≤ 16777216) : dJoin a (.obj S.length) (S ++ [.lst (ys.map D.str), .lst b]) = some (.str ys.flatten) := by
  subst h
  unfold dJoin
  rw [sec_seq, Option.bind_some, strsOf_map, Option.bind_some, joinL_nil, if_pos ⟨by rw [← List.length_flatten]; simpa using hl, by rw [sizeLine_lit]; exact hl⟩]
theorem top_join {S : Store} {ys : List (List Nat)} (hl : ys.flatten.length ≤ 16777216) : dJoin [] (.obj S.length) (S ++ [.lst (ys.map D.str)]) = some (.str ys.flatten) := by
  unfold dJoin
  rw [seq_top, Option.bind_some, strsOf_map, Option.bind_some, joinL_nil, if_pos ⟨by rw [← List.length_flatten]; simpa using hl, by rw [sizeLine_lit]; exact hl⟩]
/-- a comprehension over a list of the store that stays as it is -/
theorem compV_pure {G : Dn} {el : Ex} {t : Tg} {it : PD.It} {cs : Exs} {δ : DEnv} {S : Store} {n : Nat} {ds : List D} (g : D → Option D) (hi : evI G it δ S = .ok (.lv n) S) (hc : S[n]? = some (.lst ds)) (h : ∀ x ∈ ds, turnB G el t cs δ x S = .ok (g x) S) (hl : ds.length ≤ 16777216) :
    ev G (.compV el t it cs false) δ S = .ok (.lst (ds.filterMap g)) S := by
  have c1 : cellL n S = some ds := by unfold cellL; rw [hc]
  rw [ev_compV, hi, Out.bind_ok]
  show ((liftO S (some n)).bind _) = _
  rw [liftO_some, Out.bind_ok, c1, liftO_some, Out.bind_ok, mapL_pure (g := g), nox_ok, Out.bind_ok, mkList_v (Nat.le_trans (List.length_filterMap_le _ _) hl)]
  intro x hx
  unfold keptB
  rw [h x hx, Out.bind_ok, if_pos (isCell_eq.mpr hc)]
end PD

set_option linter.all false
set_option maxRecDepth 100000
namespace PD
open PySem
theorem in_dic {x : D} {ks vs : List D} {S : Store} (hk : x.key = true) : cmpF .in_ x (.dic ks vs) S = some (.bl (lookD ks vs x).isSome) := by
  show dIn x (.dic ks vs) S = _
  cases x <;> first | (cases hk; done) | (simp [dIn, hk]; done) | simp [dIn, D.key]
theorem in_dob {x : D} {n : Nat} {ks vs : List D} {S : Store} (h : S[n]? = some (.dic ks vs)) (hk : x.key = true) : cmpF .in_ x (.dob n) S = some (.bl (lookD ks vs x).isSome) := by
  show dIn x (.dob n) S = _
  cases x <;> first | (cases hk; done) | (simp [dIn, h, D.key]; done)
theorem idx_dic {x : D} {ks vs : List D} {S : Store} (hk : x.key = true) : dIdx (.dic ks vs) x S = lookD ks vs x := by
  show (if x.key then lookD ks vs x else none) = _
  rw [if_pos hk]
theorem idx_dob {x : D} {n : Nat} {ks vs : List D} {S : Store} (h : S[n]? = some (.dic ks vs)) (hk : x.key = true) : dIdx (.dob n) x S = lookD ks vs x := by
  show (match S[n]? with | some (.dic ks vs) => if x.key then lookD ks vs x else none | _ => none) = _
  rw [h]
  simp [hk]
theorem setd_at {n : Nat} {ks vs : List D} {S : Store} {y v : D} (h : S[n]? = some (.dic ks vs)) (hk : y.key = true) (hv : v.pure = true) (hl : ks.length ≤ 1000000) : setdF n y v S = .ok .non (S.set n (.dic (putK ks y) (putV ks vs y v))) := by
  unfold setdF
  rw [h]
  have : ks.length < 16777216 := by omega
  simp [hk, hv, sizeLine_lit, this]
theorem mkDic_ok {ks vs : List D} {S : Store} (h : (ks.all D.pure && vs.all D.pure) = true) : mkDic ks vs S = .ok (.dob S.length) (S ++ [.dic ks vs]) := if_pos h
end PD

set_option Elab.async false
set_option linter.all false
set_option maxRecDepth 100000
namespace PD
open PySem L2
theorem forV_inv {n : Nat} {body : D → DEnv → Store → Out Fl} {ds : List D} (P : Nat → DEnv → Store → Prop) (hc : ∀ i δ S, P i δ S → S[n]? = some (.lst ds))
    (step : ∀ i x δ S, ds[i]? = some x → P i δ S → ∃ δ' S', body x δ S = .ok (.nx δ') S' ∧ P (i + 1) δ' S') {δ : DEnv} {S : Store} (h0 : P 0 δ S) {K : Nat} (hK : ds.length < K) :
    ∃ δ' S', forV n body K 0 δ S = .ok (.nx δ') S' ∧ P ds.length δ' S' := by
  have key : ∀ m i K δ S, i + m = ds.length → m < K → P i δ S → ∃ δ' S', forV n body K i δ S = .ok (.nx δ') S' ∧ P ds.length δ' S' := by
    intro m
    induction m with
    | zero =>
      intro i K δ S hi hK hp
      obtain ⟨K', rfl⟩ : ∃ K', K = K' + 1 := ⟨K - 1, by omega⟩
      have e : ds[i]? = none := List.getElem?_eq_none (by omega)
      refine ⟨δ, S, ?_, by rw [← show i = ds.length by omega]; exact hp⟩
      unfold forV
      rw [hc i δ S hp]
      simp only [e]
    | succ m ih =>
      intro i K δ S hi hK hp
      obtain ⟨K', rfl⟩ : ∃ K', K = K' + 1 := ⟨K - 1, by omega⟩
      have e : ds[i]? = some ds[i] := List.getElem?_eq_getElem (by omega)
      obtain ⟨δ1, S1, e1, p1⟩ := step i _ δ S e hp
      obtain ⟨δ2, S2, e2, p2⟩ := ih (i + 1) K' δ1 S1 (by omega) (by omega) p1
      refine ⟨δ2, S2, ?_, p2⟩
      unfold forV
      rw [hc i δ S hp]
      simp only [e]
      rw [e1, turnF_nx, e2]
  exact key ds.length 0 K δ S (by omega) hK h0
theorem forL_step {body : D → DEnv → Store → Out Fl} {ds : List D} (P : Nat → DEnv → Store → Prop)
    (step : ∀ i x δ S, ds[i]? = some x → P i δ S → ∃ δ' S', body x δ S = .ok (.nx δ') S' ∧ P (i + 1) δ' S') {δ : DEnv} {S : Store} (h0 : P 0 δ S) :
    ∃ δ' S', forL body ds δ S = .ok (.nx δ') S' ∧ P ds.length δ' S' := by
  have key : ∀ m i δ S, i + m = ds.length → P i δ S → ∃ δ' S', forL body (ds.drop i) δ S = .ok (.nx δ') S' ∧ P ds.length δ' S' := by
    intro m
    induction m with
    | zero =>
      intro i δ S hi hp
      rw [List.drop_of_length_le (by omega)]
      exact ⟨δ, S, rfl, by rw [← show i = ds.length by omega]; exact hp⟩
    | succ m ih =>
      intro i δ S hi hp
      have e : ds[i]? = some ds[i] := List.getElem?_eq_getElem (by omega)
      obtain ⟨δ1, S1, e1, p1⟩ := step i _ δ S e hp
      obtain ⟨δ2, S2, e2, p2⟩ := ih (i + 1) δ1 S1 (by omega) p1
      refine ⟨δ2, S2, ?_, p2⟩
      rw [List.drop_eq_getElem_cons (by omega)]
      unfold forL
      rw [e1, turnF_nx, e2]
  have := key ds.length 0 δ S (by omega) h0
  rwa [List.drop_zero] at this
/-- l.index(x), a list of numbers -/
theorem ints_plain : ∀ (l : List Int), D.plains (l.map D.int) = true
  | [] => rfl
  | _ :: l => by simp [ints_plain l]
theorem ints_depth : ∀ (l : List Int), D.depths (l.map D.int) ≤ 1
  | [] => by simp [D.depths]
  | _ :: l => by
    have := ints_depth l
    simp only [List.map_cons, D.depths, D.depth]; omega
theorem in_ints {x : Int} {l : List Int} (S : Store) : cmpF .in_ (.int x) (.lst (l.map D.int)) S = some (.bl (decide (x ∈ l))) := by
  show dIn (.int x) (.lst (l.map D.int)) S = _
  unfold dIn
  show (match D.seq S (.lst (l.map D.int)) with | some ds => _ | none => none) = _
  simp only [D.seq]
  have e : ((D.int x).rd S) = .int x := rfl
  rw [e, ints_plain]
  have h : decide ((D.int x).depth ≤ 100) = true := by simp [D.depth]
  rw [h]
  have e2 : ((l.map D.int).any fun d => d.eqv (.int x)) = decide (x ∈ l) := by
    induction l with
    | nil => rfl
    | cons a l ih =>
      rw [List.map_cons, List.any_cons, ih]
      simp only [D.eqv, List.mem_cons, Bool.decide_or]
      congr 1
      by_cases z : a = x
      · simp [z]
      · have : ¬ x = a := fun e => z e.symm
        simp [z, this]
  rw [e2]; rfl
theorem lidx_ints {x : Int} {l : List Int} (S : Store) (h : x ∈ l) : lidxF (.lst (l.map D.int)) (.int x) S = some (.int ((l.findIdx fun y => decide (y = x) : Nat) : Int)) := by
  unfold lidxF
  have e : ((D.int x).rd S) = .int x := rfl
  simp only [D.lseq, Option.bind_some, e, ints_plain]
  have h1 : decide ((D.int x).depth ≤ 60) = true := by simp [D.depth]
  have h2 : decide (D.depths (l.map D.int) ≤ 60) = true := by have := ints_depth l; simp; omega
  rw [h1, h2]
  have h3 : (l.map D.int).findIdx? (fun d => d.eqv (.int x)) = some (l.findIdx fun y => decide (y = x)) := by
    rw [List.findIdx?_map]
    have e3 : ((fun d => D.eqv d (D.int x)) ∘ D.int) = fun y => decide (y = x) := by funext y; simp [D.eqv]
    rw [e3, List.findIdx?_eq_some_of_exists ⟨x, h, by simp⟩]
  simp only [Bool.and_self, D.plain, if_true, h3, Option.map_some]
theorem in_tup (x : D) (ds : List D) (S : Store) : cmpF .in_ x (.tup ds) S = if (x.rd S).plain && D.plains ds && decide ((x.rd S).depth ≤ 100) then some (.bl (ds.any fun d => d.eqv (x.rd S))) else none := by
  cases x with
  | str s =>
    match s with
    | [] => rfl
    | [_] => rfl
    | _ :: _ :: _ => rfl
  | _ => rfl
theorem in_lst (x : D) (ds : List D) (S : Store) : cmpF .in_ x (.lst ds) S = if (x.rd S).plain && D.plains ds && decide ((x.rd S).depth ≤ 100) then some (.bl (ds.any fun d => d.eqv (x.rd S))) else none := by
  cases x with
  | str s =>
    match s with
    | [] => rfl
    | [_] => rfl
    | _ :: _ :: _ => rfl
  | _ => rfl
end PD

set_option Elab.async false
set_option linter.all false
set_option maxRecDepth 100000
namespace PD
open PySem L2
theorem any_keq_false {ks : List D} {x : D} (h : ∀ k ∈ ks, D.keq k x = false) : ks.any (fun k => D.keq k x) = false := by
  rw [List.any_eq_false]
  intro k hk
  rw [h k hk]; decide
/-- pairs with different keys: as they stand -/
theorem pairsD_new : ∀ (l : List (D × D)) (ks vs : List D), (∀ p ∈ l, p.1.key = true) → (∀ p ∈ l, ∀ k ∈ ks, D.keq k p.1 = false) → l.Pairwise (fun p q => D.keq p.1 q.1 = false) →
    pairsD ks vs (l.map fun p => .tup [p.1, p.2]) = some (ks ++ l.map (·.1), vs ++ l.map (·.2))
  | [], ks, vs, _, _, _ => by simp [pairsD]
  | p :: l, ks, vs, hk, hn, hp => by
    rw [List.pairwise_cons] at hp
    have h1 := hk p List.mem_cons_self
    have h2 := any_keq_false (hn p List.mem_cons_self)
    rw [List.map_cons]
    unfold pairsD
    rw [if_pos h1]
    have ek : putK ks p.1 = ks ++ [p.1] := by unfold putK; rw [h2]; rfl
    have ev : putV ks vs p.1 p.2 = vs ++ [p.2] := by unfold putV; rw [h2]; rfl
    rw [ek, ev, pairsD_new l (ks ++ [p.1]) (vs ++ [p.2]) (fun q hq => hk q (List.mem_cons_of_mem _ hq)) (fun q hq k hk' => by
      rcases List.mem_append.mp hk' with z | z
      · exact hn q (List.mem_cons_of_mem _ hq) k z
      · rw [List.mem_singleton.mp z]; exact hp.1 q hq) hp.2]
    simp [List.append_assoc]
theorem lookD_map (l : List (D × D)) (x : D) : lookD (l.map (·.1)) (l.map (·.2)) x = (l.find? fun p => D.keq p.1 x).map (·.2) := by
  induction l with
  | nil => rfl
  | cons p l ih =>
    rw [List.map_cons, List.map_cons, List.find?_cons]
    unfold lookD
    by_cases h : D.keq p.1 x = true
    · rw [if_pos h, h]; rfl
    · rw [if_neg h, ih]
      rw [Bool.not_eq_true] at h
      rw [h]
end PD

set_option linter.all false
namespace Tm
open Ty
/-- a mark's place behind an edit; l: left -/
def mv (l : Bool) (q : Nat) (e : Ed) : Nat := if q < e.p then q else if e.p + e.g < q then q + e.c.length - e.g else if l then e.p else e.p + e.c.length
def mvs (l : Bool) (q : Nat) (es : List Ed) : Nat := es.foldl (mv l) q
theorem mv_le {l : Bool} {q n : Nat} {e : Ed} (h : e.p + e.g ≤ n) (hq : q ≤ n) : mv l q e ≤ n - e.g + e.c.length := by
  unfold mv; split
  · omega
  · split
    · omega
    · split <;> omega
theorem mv_mono {l : Bool} {q q' : Nat} {e : Ed} (h : q ≤ q') : mv l q e ≤ mv l q' e := by
  unfold mv
  cases l <;> simp only [if_true, Bool.false_eq_true, if_false] <;> (repeat' split) <;> omega
theorem mv_lr {q : Nat} {e : Ed} : mv true q e ≤ mv false q e := by
  unfold mv
  simp only [if_true, Bool.false_eq_true, if_false]
  (repeat' split) <;> omega
/-- how far what stands at i is moved -/
def sh (es : List Ed) (i : Nat) : Int := ((es.filter fun e => decide (e.p + e.g ≤ i)).map fun e => (e.c.length : Int) - e.g).sum
theorem sh_nil (i : Nat) : sh [] i = 0 := rfl
theorem sh_cons {e : Ed} {es : List Ed} {i : Nat} : sh (e :: es) i = (if e.p + e.g ≤ i then (e.c.length : Int) - e.g else 0) + sh es i := by
  unfold sh
  rw [List.filter_cons]
  by_cases h : e.p + e.g ≤ i <;> simp [h]
theorem sh_none {es : List Ed} {i : Nat} (h : ∀ e ∈ es, i < e.p) : sh es i = 0 := by
  unfold sh
  have : es.filter (fun e => decide (e.p + e.g ≤ i)) = [] := by
    rw [List.filter_eq_nil_iff]
    intro e he
    have := h e he
    simp; omega
  rw [this]; rfl
theorem cov_cons {e : Ed} {es : List Ed} {i : Nat} : cov (e :: es) i = (decide (e.p ≤ i) && decide (i < e.p + e.g) || cov es i) := by
  unfold cov; rw [List.any_cons]
/-- behind all, ahead of all that comes -/
theorem mvs_stay {l : Bool} {n : Nat} : ∀ {es : List Ed} {at_ a q : Nat}, sp n at_ es → (∀ e ∈ es, q < a + (e.p - at_) ) → mvs l q (turns at_ a es) = q
  | [], _, _, _, _, _ => rfl
  | e :: es, at_, a, q, ⟨h1, h2, h3⟩, h => by
    have h0 := h e List.mem_cons_self
    unfold mvs turns
    rw [List.foldl_cons]
    have : mv l q ⟨a + (e.p - at_), e.g, e.c⟩ = q := by unfold mv; rw [if_pos h0]
    rw [this]
    refine mvs_stay (Ty.sp_mono (by omega) h3) fun d hd => ?_
    have := (Ty.sp_mem h3 hd).1
    omega
/-- a right mark ahead of a sign that stays -/
theorem mvs_right {n : Nat} : ∀ {es : List Ed} {at_ a i : Nat}, sp n at_ es → at_ ≤ i → cov es i = false → (mvs false (a + (i - at_)) (turns at_ a es) : Int) = i + ((a : Int) - at_) + sh es i
  | [], at_, a, i, _, hi, _ => by unfold mvs turns; rw [List.foldl_nil, sh_nil]; omega
  | e :: es, at_, a, i, ⟨h1, h2, h3⟩, hi, hc => by
    rw [cov_cons, Bool.or_eq_false_iff] at hc
    obtain ⟨c1, c2⟩ := hc
    by_cases hb : i < e.p
    · have st := mvs_stay (l := false) (es := e :: es) (at_ := at_) (a := a) (q := a + (i - at_)) ⟨h1, h2, h3⟩ fun d hd => by
        rcases List.mem_cons.mp hd with rfl | hd
        · omega
        · have := (Ty.sp_mem h3 hd).1; omega
      rw [st, sh_none fun d hd => by
        rcases List.mem_cons.mp hd with rfl | hd
        · exact hb
        · have := (Ty.sp_mem h3 hd).1; omega]
      omega
    · have hg : e.p + e.g ≤ i := by
        simp only [Bool.and_eq_false_iff, decide_eq_false_iff_not] at c1; omega
      unfold mvs turns
      rw [List.foldl_cons]
      have e1 : mv false (a + (i - at_)) ⟨a + (e.p - at_), e.g, e.c⟩ = (a + (e.p - at_) + e.c.length) + (i - (e.p + e.g)) := by
        unfold mv
        simp only [Bool.false_eq_true, if_false]
        rw [if_neg (by omega)]
        split <;> omega
      rw [e1]
      have ih := mvs_right (es := es) (at_ := e.p + e.g) (a := a + (e.p - at_) + e.c.length) (i := i) (Ty.sp_mono (by omega) h3) hg c2
      unfold mvs at ih
      rw [ih, sh_cons, if_pos hg]
      omega
/-- a left mark behind a sign that stays -/
theorem mvs_left {n : Nat} : ∀ {es : List Ed} {at_ a i : Nat}, sp n at_ es → at_ ≤ i → cov es i = false → (mvs true (a + (i - at_) + 1) (turns at_ a es) : Int) = i + 1 + ((a : Int) - at_) + sh es i
  | [], at_, a, i, _, hi, _ => by unfold mvs turns; rw [List.foldl_nil, sh_nil]; omega
  | e :: es, at_, a, i, ⟨h1, h2, h3⟩, hi, hc => by
    rw [cov_cons, Bool.or_eq_false_iff] at hc
    obtain ⟨c1, c2⟩ := hc
    by_cases hb : i < e.p
    · have sn : sh (e :: es) i = 0 := sh_none fun d hd => by
        rcases List.mem_cons.mp hd with rfl | hd
        · exact hb
        · have := (Ty.sp_mem h3 hd).1; omega
      rw [sn]
      unfold mvs turns
      rw [List.foldl_cons]
      have e1 : mv true (a + (i - at_) + 1) ⟨a + (e.p - at_), e.g, e.c⟩ = a + (i - at_) + 1 := by
        unfold mv
        simp only [if_true]
        (repeat' split) <;> omega
      rw [e1]
      have st := mvs_stay (l := true) (es := es) (at_ := e.p + e.g) (a := a + (e.p - at_) + e.c.length) (q := a + (i - at_) + 1) (Ty.sp_mono (by omega) h3) fun d hd => by
        have := (Ty.sp_mem h3 hd).1; omega
      unfold mvs at st
      rw [st]; omega
    · have hg : e.p + e.g ≤ i := by
        simp only [Bool.and_eq_false_iff, decide_eq_false_iff_not] at c1; omega
      unfold mvs turns
      rw [List.foldl_cons]
      have e1 : mv true (a + (i - at_) + 1) ⟨a + (e.p - at_), e.g, e.c⟩ = (a + (e.p - at_) + e.c.length) + (i - (e.p + e.g)) + 1 := by
        unfold mv
        simp only
        rw [if_neg (by omega), if_pos (by omega)]
        omega
      rw [e1]
      have ih := mvs_left (es := es) (at_ := e.p + e.g) (a := a + (e.p - at_) + e.c.length) (i := i) (Ty.sp_mono (by omega) h3) hg c2
      unfold mvs at ih
      rw [ih, sh_cons, if_pos hg]
      omega
/-- the signs that stay, with how far they are moved -/
def held (es : List Ed) (a n : Nat) (m : Int) : List (Nat × Int) := ((List.range' a n).filter fun i => !cov es i).map fun i => (i, (i : Int) + (m + sh es i))
theorem held_app {es : List Ed} {a n k : Nat} {m : Int} : held es a (n + k) m = held es a n m ++ held es (a + n) k m := by
  unfold held
  rw [← List.range'_append_1, List.filter_append, List.map_append]
/-- gap by gap -/
def gaps (n : Nat) : Nat → Int → List Ed → List (Nat × Int)
  | at_, m, [] => (List.range' at_ (n - at_)).map fun (i : Nat) => (i, (i : Int) + m)
  | at_, m, e :: es => ((List.range' at_ (e.p - at_)).map fun (i : Nat) => (i, (i : Int) + m)) ++ gaps n (e.p + e.g) (m + e.c.length - e.g) es
theorem gaps_held {n : Nat} : ∀ {es : List Ed} {at_ : Nat} {m : Int}, at_ ≤ n → sp n at_ es → gaps n at_ m es = held es at_ (n - at_) m
  | [], at_, m, _, _ => by
    unfold gaps held
    have : (List.range' at_ (n - at_)).filter (fun i => !cov [] i) = List.range' at_ (n - at_) := List.filter_eq_self.mpr fun _ _ => rfl
    rw [this]
    simp [sh_nil]
  | e :: es, at_, m, h0, ⟨h1, h2, h3⟩ => by
    unfold gaps
    rw [gaps_held (es := es) (at_ := e.p + e.g) h2 (Ty.sp_mono (by omega) h3)]
    have e1 : n - at_ = (e.p - at_) + (e.g + (n - (e.p + e.g))) := by omega
    rw [e1, held_app, held_app]
    have e2 : at_ + (e.p - at_) = e.p := by omega
    rw [e2]
    have p1 : held (e :: es) at_ (e.p - at_) m = (List.range' at_ (e.p - at_)).map fun (i : Nat) => (i, (i : Int) + m) := by
      unfold held
      have lt : ∀ i ∈ List.range' at_ (e.p - at_), i < e.p := fun i hi => by rw [List.mem_range'_1] at hi; omega
      have fa : ∀ i ∈ List.range' at_ (e.p - at_), ∀ d ∈ e :: es, i < d.p := fun i hi d hd => by
        have := lt i hi
        rcases List.mem_cons.mp hd with rfl | hd
        · exact this
        · have := (Ty.sp_mem h3 hd).1; omega
      rw [List.filter_eq_self.mpr fun i hi => by rw [Ty.cov_none (fa i hi)]; rfl]
      refine List.map_congr_left fun i hi => ?_
      rw [sh_none (fa i hi), Int.add_zero]
    have p2 : held (e :: es) e.p e.g m = [] := by
      unfold held
      rw [List.filter_eq_nil_iff.mpr fun i hi => by
        rw [List.mem_range'_1] at hi
        rw [cov_cons]
        simp [hi.1, hi.2]]
      rfl
    have p3 : held (e :: es) (e.p + e.g) (n - (e.p + e.g)) m = held es (e.p + e.g) (n - (e.p + e.g)) (m + e.c.length - e.g) := by
      unfold held
      have ge : ∀ i ∈ List.range' (e.p + e.g) (n - (e.p + e.g)), e.p + e.g ≤ i := fun i hi => by rw [List.mem_range'_1] at hi; omega
      rw [List.filter_congr (q := fun i => !cov es i) fun i hi => by
        have := ge i hi
        rw [cov_cons]
        have : decide (i < e.p + e.g) = false := by simp; omega
        rw [this]; simp]
      refine List.map_congr_left fun i hi => ?_
      have := ge i (List.mem_filter.mp hi).1
      rw [sh_cons, if_pos this]
      congr 1
      omega
    rw [p1, p2, p3, List.nil_append]
variable {α : Type} [DecidableEq α]
/-- the first place of x -/
def ix (x : α) (l : List α) : Nat := l.findIdx fun y => decide (y = x)
theorem ix_app_l {x : α} {a b : List α} (h : x ∈ a) : ix x (a ++ b) = ix x a := by
  unfold ix
  rw [List.findIdx_append, if_pos]
  exact List.findIdx_lt_length_of_exists ⟨x, h, by simp⟩
theorem ix_app_r {x : α} {a b : List α} (h : x ∉ a) : ix x (a ++ b) = a.length + ix x b := by
  unfold ix
  rw [List.findIdx_append, if_neg]
  · have := (List.findIdx_eq_length (p := fun y => decide (y = x)) (xs := a)).mpr fun y hy => by
      simp; intro e; exact h (e ▸ hy)
    omega
  · intro h2
    have := (List.findIdx_eq_length (p := fun y => decide (y = x)) (xs := a)).mpr fun y hy => by
      simp; intro e; exact h (e ▸ hy)
    omega
theorem ix_get {l : List α} (h : l.Nodup) {i : Nat} {x : α} (hx : l[i]? = some x) : ix x l = i := by
  induction l generalizing i with
  | nil => simp at hx
  | cons a l ih =>
    rw [List.nodup_cons] at h
    unfold ix
    rw [List.findIdx_cons]
    cases i with
    | zero => simp at hx; simp [hx]
    | succ i =>
      have hx' : l[i]? = some x := by simpa using hx
      have ne : ¬ a = x := fun e => h.1 (e ▸ List.mem_of_getElem? hx')
      have := ih h.2 hx'
      unfold ix at this
      simp [ne, this]
/-- what an edit makes of the signs -/
def sg (L : List α) (e : Ed) (N : List α) : List α := L.take e.p ++ N ++ L.drop (e.p + e.g)
/-- a sign that stays: where it is then -/
theorem sg_ix {L N : List α} {e : Ed} (hl : L.Nodup) (hd : ∀ x ∈ N, x ∉ L) (hN : N.length = e.c.length) (hg : e.p + e.g ≤ L.length) {i : Nat} {x : α} (hx : L[i]? = some x) :
    (x ∈ sg L e N ↔ ¬ (e.p ≤ i ∧ i < e.p + e.g)) ∧ (i < e.p → ix x (sg L e N) = i) ∧ (e.p + e.g ≤ i → ix x (sg L e N) = i + e.c.length - e.g) := by
  have hi : i < L.length := (List.getElem?_eq_some_iff.mp hx).1
  have xl : x ∈ L := List.mem_of_getElem? hx
  have xn : x ∉ N := fun z => hd x z xl
  have uniq : ∀ j, L[j]? = some x → j = i := fun j hj => by rw [← ix_get hl hj, ix_get hl hx]
  have t1 : x ∈ L.take e.p ↔ i < e.p := by
    constructor
    · intro h
      obtain ⟨j, hj⟩ := List.mem_iff_getElem?.mp h
      rw [List.getElem?_take] at hj
      split at hj
      · have := uniq j hj; omega
      · cases hj
    · intro h
      refine List.mem_iff_getElem?.mpr ⟨i, ?_⟩
      rw [List.getElem?_take_of_lt h]; exact hx
  have t2 : x ∈ L.drop (e.p + e.g) ↔ e.p + e.g ≤ i := by
    constructor
    · intro h
      obtain ⟨j, hj⟩ := List.mem_iff_getElem?.mp h
      rw [List.getElem?_drop] at hj
      have := uniq _ hj; omega
    · intro h
      refine List.mem_iff_getElem?.mpr ⟨i - (e.p + e.g), ?_⟩
      rw [List.getElem?_drop]
      rw [show e.p + e.g + (i - (e.p + e.g)) = i by omega]; exact hx
  refine ⟨?_, fun h => ?_, fun h => ?_⟩
  · unfold sg
    rw [List.mem_append, List.mem_append, t1, t2]
    constructor
    · rintro ((h | h) | h)
      · omega
      · exact absurd h xn
      · omega
    · intro h
      by_cases z : i < e.p
      · exact .inl (.inl z)
      · exact .inr (by omega)
  · unfold sg
    rw [List.append_assoc, ix_app_l (t1.mpr h)]
    refine ix_get (hl.sublist (List.take_sublist _ _)) ?_
    rw [List.getElem?_take_of_lt h]; exact hx
  · have n1 : x ∉ L.take e.p := fun z => by have := t1.mp z; omega
    unfold sg
    rw [ix_app_r (by rw [List.mem_append]; rintro (z | z); exact n1 z; exact xn z)]
    have : ix x (L.drop (e.p + e.g)) = i - (e.p + e.g) := by
      refine ix_get (hl.sublist (List.drop_sublist _ _)) ?_
      rw [List.getElem?_drop, show e.p + e.g + (i - (e.p + e.g)) = i by omega]; exact hx
    rw [this, List.length_append, List.length_take, hN]
    omega
/-- what the words ask of a mark -/
def due (L L' : List α) (q : Nat) (e : Ed) (l : Bool) : Nat :=
  if l then (if q = 0 then 0 else match L[q - 1]? with
    | some x => if x ∈ L' then ix x L' + 1 else e.p
    | none => e.p)
  else match L[q]? with
    | some x => if x ∈ L' then ix x L' else e.p + e.c.length
    | none => if e.p + e.g < L.length then L'.length else e.p + e.c.length
theorem due_mv {L N : List α} {e : Ed} (hl : L.Nodup) (hd : ∀ x ∈ N, x ∉ L) (hN : N.length = e.c.length) (hg : e.p + e.g ≤ L.length) {q : Nat} (hq : q ≤ L.length) (l : Bool) : due L (sg L e N) q e l = mv l q e := by
  have len : (sg L e N).length = L.length - e.g + e.c.length := by
    unfold sg; rw [List.length_append, List.length_append, List.length_take, List.length_drop, hN]; omega
  unfold due
  cases l with
  | true =>
    simp only [if_true]
    by_cases z : q = 0
    · rw [if_pos z]
      unfold mv
      simp only [if_true]
      (repeat' split) <;> omega
    · rw [if_neg z]
      have hx : L[q - 1]? = some L[q - 1] := List.getElem?_eq_getElem (by omega)
      obtain ⟨m, a, b⟩ := sg_ix hl hd hN hg hx
      rw [hx]
      simp only
      by_cases c1 : q - 1 < e.p
      · rw [if_pos (m.mpr (by omega)), a c1]
        unfold mv
        simp only [if_true]
        (repeat' split) <;> omega
      · by_cases c2 : e.p + e.g ≤ q - 1
        · rw [if_pos (m.mpr (by omega)), b c2]
          unfold mv
          simp only [if_true]
          (repeat' split) <;> omega
        · rw [if_neg (fun h => m.mp h ⟨by omega, by omega⟩)]
          unfold mv
          simp only [if_true]
          (repeat' split) <;> omega
  | false =>
    simp only [Bool.false_eq_true, if_false]
    by_cases z : q < L.length
    · have hx : L[q]? = some L[q] := List.getElem?_eq_getElem z
      obtain ⟨m, a, b⟩ := sg_ix hl hd hN hg hx
      rw [hx]
      simp only
      by_cases c1 : q < e.p
      · rw [if_pos (m.mpr (by omega)), a c1]
        unfold mv
        simp only [Bool.false_eq_true, if_false]
        (repeat' split) <;> omega
      · by_cases c2 : e.p + e.g ≤ q
        · rw [if_pos (m.mpr (by omega)), b c2]
          unfold mv
          simp only [Bool.false_eq_true, if_false]
          (repeat' split) <;> omega
        · rw [if_neg (fun h => m.mp h ⟨by omega, by omega⟩)]
          unfold mv
          simp only [Bool.false_eq_true, if_false]
          (repeat' split) <;> omega
    · rw [List.getElem?_eq_none (by omega)]
      simp only
      rw [len]
      unfold mv
      simp only [Bool.false_eq_true, if_false]
      (repeat' split) <;> omega
theorem sg_nodup {L N : List α} {e : Ed} (hl : L.Nodup) (hn : N.Nodup) (hd : ∀ x ∈ N, x ∉ L) : (sg L e N).Nodup := by
  unfold sg
  rw [List.append_assoc, List.nodup_append]
  have s1 : (L.take e.p).Nodup := hl.sublist (List.take_sublist _ _)
  have s2 : (L.drop (e.p + e.g)).Nodup := hl.sublist (List.drop_sublist _ _)
  refine ⟨s1, List.nodup_append.mpr ⟨hn, s2, fun a ha b hb e => hd a ha (e ▸ List.mem_of_mem_drop hb)⟩, fun a ha b hb e1 => ?_⟩
  rcases List.mem_append.mp hb with hb | hb
  · exact hd b hb (e1 ▸ List.mem_of_mem_take ha)
  · subst e1
    obtain ⟨i, hi⟩ := List.mem_iff_getElem?.mp ha
    obtain ⟨j, hj⟩ := List.mem_iff_getElem?.mp hb
    rw [List.getElem?_take] at hi
    split at hi
    · rw [List.getElem?_drop] at hj
      have := (ix_get hl hi).symm.trans (ix_get hl hj)
      omega
    · cases hi
end Tm

set_option Elab.async false
set_option linter.all false
set_option maxRecDepth 100000
set_option maxHeartbeats 0
namespace Law
open PySem PySem.Spec PyProof.Rows L2 PD
def top (i : Nat) : Stmt := PySem.Challenge.pw_editsagree_k08_whole_marks_that_move.main.body.getD i (.Pass ⟨0, 0, 0, 0⟩)
def is_number_a_s0 : PD.St := .ret (.and (.isin (.var 0) "int") (.and (.not (.isin (.var 0) "bool")) (.one (.chn .le .le (.var 1) (.var 0) (.var 2)))))
def is_number_a0 : Sts := .cons is_number_a_s0 .nil
theorem is_number_a0_e : is_number_a0 = .cons is_number_a_s0 .nil := rfl
def d_is_number_b : Sts := is_number_a0
def d_is_number : Df := ⟨"is_number", top 8, ["value", "least", "most"], ["value", "least", "most"], true, false, d_is_number_b⟩
def is_signs_a_s0 : PD.St := .ret (.and (.isin (.var 0) "str") (.one (.allG false (.or (.cmp .eq (.var 1) (.glb 2)) (.one (.chn .le .le (.glb 0) (.var 1) (.glb 1)))) (.nm 1) (.seq (.var 0)) .nil)))
def is_signs_a0 : Sts := .cons is_signs_a_s0 .nil
theorem is_signs_a0_e : is_signs_a0 = .cons is_signs_a_s0 .nil := rfl
def d_is_signs_b : Sts := is_signs_a0
def d_is_signs : Df := ⟨"is_signs", top 15, ["value"], ["value", "sign"], true, true, d_is_signs_b⟩
def is_text_a_s0 : PD.St := .ret (.and (.call 1 (.cons (.var 0) .nil)) (.one (.cmp .le (.bif .len (.cons (.var 0) .nil)) (.glb 3))))
def is_text_a0 : Sts := .cons is_text_a_s0 .nil
theorem is_text_a0_e : is_text_a0 = .cons is_text_a_s0 .nil := rfl
def d_is_text_b : Sts := is_text_a0
def d_is_text : Df := ⟨"is_text", top 16, ["value"], ["value"], true, false, d_is_text_b⟩
def is_change_b_s0 : PD.St := .ret (.cst (.bl false))
def is_change_b0 : Sts := .cons is_change_b_s0 .nil
theorem is_change_b0_e : is_change_b0 = .cons is_change_b_s0 .nil := rfl
def is_change_a_s0 : PD.St := .iff (.or (.not (.isin (.var 1) "tuple")) (.or (.cmp .ne (.bif .len (.cons (.var 1) .nil)) (.cst (.int 3))) (.one (.not (.call 2 (.cons (.idx (.var 1) (.cst (.int 2))) .nil)))))) is_change_b0 .nil
def is_change_a_s1 : PD.St := .ret (.and (.call 0 (.cons (.idx (.var 1) (.cst (.int 0))) (.cons (.cst (.int 0)) (.cons (.bif .len (.cons (.var 0) .nil)) .nil)))) (.one (.call 0 (.cons (.idx (.var 1) (.cst (.int 1))) (.cons (.cst (.int 0)) (.cons (.bin .sub (.bif .len (.cons (.var 0) .nil)) (.idx (.var 1) (.cst (.int 0)))) .nil))))))
def is_change_a1 : Sts := .cons is_change_a_s1 .nil
def is_change_a0 : Sts := .cons is_change_a_s0 is_change_a1
theorem is_change_a0_e : is_change_a0 = .cons is_change_a_s0 is_change_a1 := rfl
theorem is_change_a1_e : is_change_a1 = .cons is_change_a_s1 .nil := rfl
def d_is_change_b : Sts := is_change_a0
def d_is_change : Df := ⟨"is_change", top 17, ["text", "value"], ["text", "value"], true, false, d_is_change_b⟩
def are_edits_b_s0 : PD.St := .ret (.cst (.bl false))
def are_edits_b0 : Sts := .cons are_edits_b_s0 .nil
theorem are_edits_b0_e : are_edits_b0 = .cons are_edits_b_s0 .nil := rfl
def are_edits_d_s0 : PD.St := .ret (.cst (.bl false))
def are_edits_d0 : Sts := .cons are_edits_d_s0 .nil
theorem are_edits_d0_e : are_edits_d0 = .cons are_edits_d_s0 .nil := rfl
def are_edits_a_s0 : PD.St := .iff (.or (.not (.isin (.var 1) "tuple")) (.or (.cmp .gt (.bif .len (.cons (.var 1) .nil)) (.glb 4)) (.one (.not (.allG false (.call 3 (.cons (.var 0) (.cons (.var 2) .nil))) (.nm 2) (.seq (.var 1)) .nil))))) are_edits_b0 .nil
def are_edits_a_s1 : PD.St := .iff (.not (.allG false (.cmp .lt (.bin .add (.idx (.idx (.var 1) (.bin .sub (.var 3) (.cst (.int 1)))) (.cst (.int 0))) (.idx (.idx (.var 1) (.bin .sub (.var 3) (.cst (.int 1)))) (.cst (.int 1)))) (.idx (.idx (.var 1) (.var 3)) (.cst (.int 0)))) (.nm 3) (.rng2 (.cst (.int 1)) (.bif .len (.cons (.var 1) .nil))) .nil)) are_edits_d0 .nil
def are_edits_a_s2 : PD.St := .ret (.cmp .le (.bin .add (.bif .len (.cons (.var 0) .nil)) (.bif .sum (.cons (.comp (.bin .sub (.bif .len (.cons (.var 6) .nil)) (.var 5)) (.tp [4, 5, 6]) (.seq (.var 1)) .nil false) .nil))) (.glb 3))
def are_edits_a2 : Sts := .cons are_edits_a_s2 .nil
def are_edits_a1 : Sts := .cons are_edits_a_s1 are_edits_a2
def are_edits_a0 : Sts := .cons are_edits_a_s0 are_edits_a1
theorem are_edits_a0_e : are_edits_a0 = .cons are_edits_a_s0 are_edits_a1 := rfl
theorem are_edits_a1_e : are_edits_a1 = .cons are_edits_a_s1 are_edits_a2 := rfl
theorem are_edits_a2_e : are_edits_a2 = .cons are_edits_a_s2 .nil := rfl
def d_are_edits_b : Sts := are_edits_a0
def d_are_edits : Df := ⟨"are_edits", top 18, ["text", "value"], ["text", "value", "one", "at", "_", "gone", "come"], true, true, d_are_edits_b⟩
def check_edits_b_s0 : PD.St := .raise "Malformed"
def check_edits_b0 : Sts := .cons check_edits_b_s0 .nil
theorem check_edits_b0_e : check_edits_b0 = .cons check_edits_b_s0 .nil := rfl
def check_edits_a_s0 : PD.St := .iff (.not (.call 4 (.cons (.var 0) (.cons (.var 1) .nil)))) check_edits_b0 .nil
def check_edits_a0 : Sts := .cons check_edits_a_s0 .nil
theorem check_edits_a0_e : check_edits_a0 = .cons check_edits_a_s0 .nil := rfl
def d_check_edits_b : Sts := check_edits_a0
def d_check_edits : Df := ⟨"check_edits", top 19, ["text", "edits"], ["text", "edits"], true, false, d_check_edits_b⟩
def in_turn_b_s0 : PD.St := .exp (.app (.var 2) (.tup (.cons (.bin .add (.var 4) (.var 3)) (.cons (.var 5) (.cons (.var 6) .nil)))))
def in_turn_b_s1 : PD.St := .aug 3 .add (.bin .sub (.bif .len (.cons (.var 6) .nil)) (.var 5))
def in_turn_b1 : Sts := .cons in_turn_b_s1 .nil
def in_turn_b0 : Sts := .cons in_turn_b_s0 in_turn_b1
theorem in_turn_b0_e : in_turn_b0 = .cons in_turn_b_s0 in_turn_b1 := rfl
theorem in_turn_b1_e : in_turn_b1 = .cons in_turn_b_s1 .nil := rfl
def in_turn_a_s0 : PD.St := .exp (.call 5 (.cons (.var 0) (.cons (.var 1) .nil)))
def in_turn_a_s1 : PD.St := .set 2 (.lstO .nil)
def in_turn_a_s2 : PD.St := .set 3 (.cst (.int 0))
def in_turn_a_s3 : PD.St := .forr (.tp [4, 5, 6]) (.seq (.var 1)) in_turn_b0
def in_turn_a_s4 : PD.St := .ret (.bif .tuple (.cons (.var 2) .nil))
def in_turn_a4 : Sts := .cons in_turn_a_s4 .nil
def in_turn_a3 : Sts := .cons in_turn_a_s3 in_turn_a4
def in_turn_a2 : Sts := .cons in_turn_a_s2 in_turn_a3
def in_turn_a1 : Sts := .cons in_turn_a_s1 in_turn_a2
def in_turn_a0 : Sts := .cons in_turn_a_s0 in_turn_a1
theorem in_turn_a0_e : in_turn_a0 = .cons in_turn_a_s0 in_turn_a1 := rfl
theorem in_turn_a1_e : in_turn_a1 = .cons in_turn_a_s1 in_turn_a2 := rfl
theorem in_turn_a2_e : in_turn_a2 = .cons in_turn_a_s2 in_turn_a3 := rfl
theorem in_turn_a3_e : in_turn_a3 = .cons in_turn_a_s3 in_turn_a4 := rfl
theorem in_turn_a4_e : in_turn_a4 = .cons in_turn_a_s4 .nil := rfl
def d_in_turn_b : Sts := in_turn_a0
def d_in_turn : Df := ⟨"in_turn", top 20, ["text", "edits"], ["text", "edits", "found", "more", "place", "gone", "come"], true, false, d_in_turn_b⟩
def is_mark_b_s0 : PD.St := .ret (.cst (.bl false))
def is_mark_b0 : Sts := .cons is_mark_b_s0 .nil
theorem is_mark_b0_e : is_mark_b0 = .cons is_mark_b_s0 .nil := rfl
def is_mark_a_s0 : PD.St := .iff (.or (.not (.isin (.var 1) "tuple")) (.or (.cmp .ne (.bif .len (.cons (.var 1) .nil)) (.cst (.int 2))) (.one (.not (.call 0 (.cons (.idx (.var 1) (.cst (.int 0))) (.cons (.cst (.int 0)) (.cons (.var 0) .nil)))))))) is_mark_b0 .nil
def is_mark_a_s1 : PD.St := .ret (.and (.isin (.idx (.var 1) (.cst (.int 1))) "str") (.one (.cmp .in_ (.idx (.var 1) (.cst (.int 1))) (.tup (.cons (.glb 6) (.cons (.glb 5) .nil))))))
def is_mark_a1 : Sts := .cons is_mark_a_s1 .nil
def is_mark_a0 : Sts := .cons is_mark_a_s0 is_mark_a1
theorem is_mark_a0_e : is_mark_a0 = .cons is_mark_a_s0 is_mark_a1 := rfl
theorem is_mark_a1_e : is_mark_a1 = .cons is_mark_a_s1 .nil := rfl
def d_is_mark_b : Sts := is_mark_a0
def d_is_mark : Df := ⟨"is_mark", top 24, ["long", "value"], ["long", "value"], true, false, d_is_mark_b⟩
def moved_b_s0 : PD.St := .ret (.var 0)
def moved_b0 : Sts := .cons moved_b_s0 .nil
theorem moved_b0_e : moved_b0 = .cons moved_b_s0 .nil := rfl
def moved_d_s0 : PD.St := .ret (.tup (.cons (.bin .sub (.bin .add (.var 2) (.bif .len (.cons (.var 6) .nil))) (.var 5)) (.cons (.var 3) .nil)))
def moved_d0 : Sts := .cons moved_d_s0 .nil
theorem moved_d0_e : moved_d0 = .cons moved_d_s0 .nil := rfl
def moved_a_s0 : PD.St := .unp (.tp [2, 3]) (.var 0)
def moved_a_s1 : PD.St := .unp (.tp [4, 5, 6]) (.var 1)
def moved_a_s2 : PD.St := .iff (.cmp .lt (.var 2) (.var 4)) moved_b0 .nil
def moved_a_s3 : PD.St := .iff (.cmp .gt (.var 2) (.bin .add (.var 4) (.var 5))) moved_d0 .nil
def moved_a_s4 : PD.St := .ret (.tup (.cons (.ite (.cmp .eq (.var 3) (.glb 6)) (.var 4) (.bin .add (.var 4) (.bif .len (.cons (.var 6) .nil)))) (.cons (.var 3) .nil)))
def moved_a4 : Sts := .cons moved_a_s4 .nil
def moved_a3 : Sts := .cons moved_a_s3 moved_a4
def moved_a2 : Sts := .cons moved_a_s2 moved_a3
def moved_a1 : Sts := .cons moved_a_s1 moved_a2
def moved_a0 : Sts := .cons moved_a_s0 moved_a1
theorem moved_a0_e : moved_a0 = .cons moved_a_s0 moved_a1 := rfl
theorem moved_a1_e : moved_a1 = .cons moved_a_s1 moved_a2 := rfl
theorem moved_a2_e : moved_a2 = .cons moved_a_s2 moved_a3 := rfl
theorem moved_a3_e : moved_a3 = .cons moved_a_s3 moved_a4 := rfl
theorem moved_a4_e : moved_a4 = .cons moved_a_s4 .nil := rfl
def d_moved_b : Sts := moved_a0
def d_moved : Df := ⟨"moved", top 25, ["mark", "edit"], ["mark", "edit", "place", "side", "begin", "gone", "come"], true, false, d_moved_b⟩
def moved_through_b_s0 : PD.St := .set 0 (.call 8 (.cons (.var 0) (.cons (.var 2) .nil)))
def moved_through_b0 : Sts := .cons moved_through_b_s0 .nil
theorem moved_through_b0_e : moved_through_b0 = .cons moved_through_b_s0 .nil := rfl
def moved_through_a_s0 : PD.St := .forr (.nm 2) (.seq (.var 1)) moved_through_b0
def moved_through_a_s1 : PD.St := .ret (.var 0)
def moved_through_a1 : Sts := .cons moved_through_a_s1 .nil
def moved_through_a0 : Sts := .cons moved_through_a_s0 moved_through_a1
theorem moved_through_a0_e : moved_through_a0 = .cons moved_through_a_s0 moved_through_a1 := rfl
theorem moved_through_a1_e : moved_through_a1 = .cons moved_through_a_s1 .nil := rfl
def d_moved_through_b : Sts := moved_through_a0
def d_moved_through : Df := ⟨"moved_through", top 26, ["mark", "edits"], ["mark", "edits", "edit"], true, false, d_moved_through_b⟩
def moved_at_once_a_s0 : PD.St := .ret (.call 9 (.cons (.var 1) (.cons (.call 6 (.cons (.var 0) (.cons (.var 2) .nil))) .nil)))
def moved_at_once_a0 : Sts := .cons moved_at_once_a_s0 .nil
theorem moved_at_once_a0_e : moved_at_once_a0 = .cons moved_at_once_a_s0 .nil := rfl
def d_moved_at_once_b : Sts := moved_at_once_a0
def d_moved_at_once : Df := ⟨"moved_at_once", top 27, ["text", "mark", "edits"], ["text", "mark", "edits"], true, false, d_moved_at_once_b⟩
def hold_of_b_s0 : PD.St := .exp (.ext (.var 2) (.comp (.tup (.cons (.var 8) (.cons (.bin .add (.var 8) (.var 3)) .nil))) (.nm 8) (.rng2 (.var 4) (.var 5)) .nil false))
def hold_of_b_s1 : PD.St := .unp (.tp [3, 4]) (.tup (.cons (.bin .sub (.bin .add (.var 3) (.bif .len (.cons (.var 7) .nil))) (.var 6)) (.cons (.bin .add (.var 5) (.var 6)) .nil)))
def hold_of_b1 : Sts := .cons hold_of_b_s1 .nil
def hold_of_b0 : Sts := .cons hold_of_b_s0 hold_of_b1
theorem hold_of_b0_e : hold_of_b0 = .cons hold_of_b_s0 hold_of_b1 := rfl
theorem hold_of_b1_e : hold_of_b1 = .cons hold_of_b_s1 .nil := rfl
def hold_of_a_s0 : PD.St := .exp (.call 5 (.cons (.var 0) (.cons (.var 1) .nil)))
def hold_of_a_s1 : PD.St := .set 2 (.lstO .nil)
def hold_of_a_s2 : PD.St := .unp (.tp [3, 4]) (.tup (.cons (.cst (.int 0)) (.cons (.cst (.int 0)) .nil)))
def hold_of_a_s3 : PD.St := .forr (.tp [5, 6, 7]) (.seq (.var 1)) hold_of_b0
def hold_of_a_s4 : PD.St := .exp (.ext (.var 2) (.comp (.tup (.cons (.var 8) (.cons (.bin .add (.var 8) (.var 3)) .nil))) (.nm 8) (.rng2 (.var 4) (.bif .len (.cons (.var 0) .nil))) .nil false))
def hold_of_a_s5 : PD.St := .ret (.bif .tuple (.cons (.var 2) .nil))
def hold_of_a5 : Sts := .cons hold_of_a_s5 .nil
def hold_of_a4 : Sts := .cons hold_of_a_s4 hold_of_a5
def hold_of_a3 : Sts := .cons hold_of_a_s3 hold_of_a4
def hold_of_a2 : Sts := .cons hold_of_a_s2 hold_of_a3
def hold_of_a1 : Sts := .cons hold_of_a_s1 hold_of_a2
def hold_of_a0 : Sts := .cons hold_of_a_s0 hold_of_a1
theorem hold_of_a0_e : hold_of_a0 = .cons hold_of_a_s0 hold_of_a1 := rfl
theorem hold_of_a1_e : hold_of_a1 = .cons hold_of_a_s1 hold_of_a2 := rfl
theorem hold_of_a2_e : hold_of_a2 = .cons hold_of_a_s2 hold_of_a3 := rfl
theorem hold_of_a3_e : hold_of_a3 = .cons hold_of_a_s3 hold_of_a4 := rfl
theorem hold_of_a4_e : hold_of_a4 = .cons hold_of_a_s4 hold_of_a5 := rfl
theorem hold_of_a5_e : hold_of_a5 = .cons hold_of_a_s5 .nil := rfl
def d_hold_of_b : Sts := hold_of_a0
def d_hold_of : Df := ⟨"hold_of", top 28, ["text", "edits"], ["text", "edits", "found", "more", "at", "place", "gone", "come", "old"], true, false, d_hold_of_b⟩
def law_draws_c_s0 : PD.St := .set 5 (.bin .mod (.bif .int (.cons (.bin .add (.bin .mul (.var 3) (.cst (.int 48271))) (.cst (.int 11))) .nil)) (.cst (.int 2147483647)))
def law_draws_c_s1 : PD.St := .exp (.app (.var 1) (.bin .mod (.bif .int (.cons (.bin .add (.bin .mul (.var 5) (.cst (.int 69621))) (.var 3)) .nil)) (.cst (.int 2147483629))))
def law_draws_c_s2 : PD.St := .exp (.app (.var 1) (.bin .mod (.bif .int (.cons (.bin .add (.var 5) (.bin .div (.var 3) (.cst (.int 7)))) .nil)) (.cst (.int 1000003))))
def law_draws_c_s3 : PD.St := .set 3 (.cst (.int 0))
def law_draws_c3 : Sts := .cons law_draws_c_s3 .nil
def law_draws_c2 : Sts := .cons law_draws_c_s2 law_draws_c3
def law_draws_c1 : Sts := .cons law_draws_c_s1 law_draws_c2
def law_draws_c0 : Sts := .cons law_draws_c_s0 law_draws_c1
theorem law_draws_c0_e : law_draws_c0 = .cons law_draws_c_s0 law_draws_c1 := rfl
theorem law_draws_c1_e : law_draws_c1 = .cons law_draws_c_s1 law_draws_c2 := rfl
theorem law_draws_c2_e : law_draws_c2 = .cons law_draws_c_s2 law_draws_c3 := rfl
theorem law_draws_c3_e : law_draws_c3 = .cons law_draws_c_s3 .nil := rfl
def law_draws_f_s0 : PD.St := .exp (.app (.var 1) (.bin .mod (.bif .int (.cons (.var 3) .nil)) (.cst (.int 997))))
def law_draws_f_s1 : PD.St := .set 3 (.bin .div (.var 3) (.cst (.int 997)))
def law_draws_f1 : Sts := .cons law_draws_f_s1 .nil
def law_draws_f0 : Sts := .cons law_draws_f_s0 law_draws_f1
theorem law_draws_f0_e : law_draws_f0 = .cons law_draws_f_s0 law_draws_f1 := rfl
theorem law_draws_f1_e : law_draws_f1 = .cons law_draws_f_s1 .nil := rfl
def law_draws_e_s0 : PD.St := .iff (.cmp .gt (.var 3) (.cst (.int 0))) law_draws_f0 .nil
def law_draws_e0 : Sts := .cons law_draws_e_s0 .nil
theorem law_draws_e0_e : law_draws_e0 = .cons law_draws_e_s0 .nil := rfl
def law_draws_b_s0 : PD.St := .set 3 (.bif .abs (.cons (.var 2) .nil))
def law_draws_b_s1 : PD.St := .iff (.cmp .lt (.var 3) (.bin .pow (.cst (.int 10)) (.cst (.int 18)))) law_draws_c0 .nil
def law_draws_b_s2 : PD.St := .forr (.nm 4) (.rng1 (.cst (.int 60))) law_draws_e0
def law_draws_b2 : Sts := .cons law_draws_b_s2 .nil
def law_draws_b1 : Sts := .cons law_draws_b_s1 law_draws_b2
def law_draws_b0 : Sts := .cons law_draws_b_s0 law_draws_b1
theorem law_draws_b0_e : law_draws_b0 = .cons law_draws_b_s0 law_draws_b1 := rfl
theorem law_draws_b1_e : law_draws_b1 = .cons law_draws_b_s1 law_draws_b2 := rfl
theorem law_draws_b2_e : law_draws_b2 = .cons law_draws_b_s2 .nil := rfl
def law_draws_h_s0 : PD.St := .set 6 (.bin .add (.cst (.int 1)) (.bif .abs (.cons (.idx (.var 0) (.cst (.int 0))) .nil)))
def law_draws_h0 : Sts := .cons law_draws_h_s0 .nil
theorem law_draws_h0_e : law_draws_h0 = .cons law_draws_h_s0 .nil := rfl
def law_draws_j_s0 : PD.St := .set 6 (.bin .mod (.bif .int (.cons (.bin .add (.bin .mul (.var 6) (.cst (.int 48271))) (.cst (.int 69621))) .nil)) (.cst (.int 2147483647)))
def law_draws_j_s1 : PD.St := .exp (.app (.var 1) (.bin .div (.var 6) (.cst (.int 5))))
def law_draws_j1 : Sts := .cons law_draws_j_s1 .nil
def law_draws_j0 : Sts := .cons law_draws_j_s0 law_draws_j1
theorem law_draws_j0_e : law_draws_j0 = .cons law_draws_j_s0 law_draws_j1 := rfl
theorem law_draws_j1_e : law_draws_j1 = .cons law_draws_j_s1 .nil := rfl
def law_draws_a_s0 : PD.St := .set 1 (.lstO .nil)
def law_draws_a_s1 : PD.St := .forr (.nm 2) (.seq (.var 0)) law_draws_b0
def law_draws_a_s2 : PD.St := .set 6 (.cst (.int 1))
def law_draws_a_s3 : PD.St := .iff (.cmp .gt (.bif .len (.cons (.var 0) .nil)) (.cst (.int 0))) law_draws_h0 .nil
def law_draws_a_s4 : PD.St := .forr (.nm 4) (.rng1 (.cst (.int 900))) law_draws_j0
def law_draws_a_s5 : PD.St := .ret (.lrev (.var 1) true)
def law_draws_a5 : Sts := .cons law_draws_a_s5 .nil
def law_draws_a4 : Sts := .cons law_draws_a_s4 law_draws_a5
def law_draws_a3 : Sts := .cons law_draws_a_s3 law_draws_a4
def law_draws_a2 : Sts := .cons law_draws_a_s2 law_draws_a3
def law_draws_a1 : Sts := .cons law_draws_a_s1 law_draws_a2
def law_draws_a0 : Sts := .cons law_draws_a_s0 law_draws_a1
theorem law_draws_a0_e : law_draws_a0 = .cons law_draws_a_s0 law_draws_a1 := rfl
theorem law_draws_a1_e : law_draws_a1 = .cons law_draws_a_s1 law_draws_a2 := rfl
theorem law_draws_a2_e : law_draws_a2 = .cons law_draws_a_s2 law_draws_a3 := rfl
theorem law_draws_a3_e : law_draws_a3 = .cons law_draws_a_s3 law_draws_a4 := rfl
theorem law_draws_a4_e : law_draws_a4 = .cons law_draws_a_s4 law_draws_a5 := rfl
theorem law_draws_a5_e : law_draws_a5 = .cons law_draws_a_s5 .nil := rfl
def d_law_draws_b : Sts := law_draws_a0
def d_law_draws : Df := ⟨"_law_draws", top 30, ["script"], ["script", "draws", "cell", "number", "k", "first", "seed"], false, false, d_law_draws_b⟩
def law_take_b_s0 : PD.St := .ret (.cst (.int 0))
def law_take_b0 : Sts := .cons law_take_b_s0 .nil
theorem law_take_b0_e : law_take_b0 = .cons law_take_b_s0 .nil := rfl
def law_take_a_s0 : PD.St := .iff (.cmp .eq (.bif .len (.cons (.var 0) .nil)) (.cst (.int 0))) law_take_b0 .nil
def law_take_a_s1 : PD.St := .ret (.bin .mod (.bif .int (.cons (.pop (.var 0)) .nil)) (.var 1))
def law_take_a1 : Sts := .cons law_take_a_s1 .nil
def law_take_a0 : Sts := .cons law_take_a_s0 law_take_a1
theorem law_take_a0_e : law_take_a0 = .cons law_take_a_s0 law_take_a1 := rfl
theorem law_take_a1_e : law_take_a1 = .cons law_take_a_s1 .nil := rfl
def d_law_take_b : Sts := law_take_a0
def d_law_take : Df := ⟨"_law_take", top 31, ["draws", "bound"], ["draws", "bound"], true, false, d_law_take_b⟩
def law_alike_c_s0 : PD.St := .ret (.cst (.bl false))
def law_alike_c0 : Sts := .cons law_alike_c_s0 .nil
theorem law_alike_c0_e : law_alike_c0 = .cons law_alike_c_s0 .nil := rfl
def law_alike_b_s0 : PD.St := .iff (.or (.cmp .ne (.isin (.var 0) "list") (.isin (.var 1) "list")) (.one (.cmp .ne (.isin (.var 0) "tuple") (.isin (.var 1) "tuple")))) law_alike_c0 .nil
def law_alike_b_s1 : PD.St := .ret (.and (.cmp .eq (.bif .len (.cons (.var 0) .nil)) (.bif .len (.cons (.var 1) .nil))) (.one (.cmp .eq (.comp (.var 2) (.nm 2) (.rng1 (.bif .len (.cons (.var 1) .nil))) (.cons (.not (.call 14 (.cons (.idx (.var 0) (.var 2)) (.cons (.idx (.var 1) (.var 2)) .nil)))) .nil) false) (.lst .nil))))
def law_alike_b1 : Sts := .cons law_alike_b_s1 .nil
def law_alike_b0 : Sts := .cons law_alike_b_s0 law_alike_b1
theorem law_alike_b0_e : law_alike_b0 = .cons law_alike_b_s0 law_alike_b1 := rfl
theorem law_alike_b1_e : law_alike_b1 = .cons law_alike_b_s1 .nil := rfl
def law_alike_f_s0 : PD.St := .ret (.cmp .is_ (.var 0) (.cst .non))
def law_alike_f0 : Sts := .cons law_alike_f_s0 .nil
theorem law_alike_f0_e : law_alike_f0 = .cons law_alike_f_s0 .nil := rfl
def law_alike_h_s0 : PD.St := .ret (.and (.isin (.var 0) "bool") (.and (.isin (.var 1) "bool") (.one (.cmp .eq (.var 0) (.var 1)))))
def law_alike_h0 : Sts := .cons law_alike_h_s0 .nil
theorem law_alike_h0_e : law_alike_h0 = .cons law_alike_h_s0 .nil := rfl
def law_alike_j_s0 : PD.St := .ret (.and (.isin (.var 0) "int") (.one (.cmp .eq (.var 0) (.var 1))))
def law_alike_j0 : Sts := .cons law_alike_j_s0 .nil
theorem law_alike_j0_e : law_alike_j0 = .cons law_alike_j_s0 .nil := rfl
def law_alike_a_s0 : PD.St := .iff (.or (.isin (.var 1) "list") (.one (.isin (.var 1) "tuple"))) law_alike_b0 .nil
def law_alike_a_s1 : PD.St := .iff (.cmp .is_ (.var 1) (.cst .non)) law_alike_f0 .nil
def law_alike_a_s2 : PD.St := .iff (.or (.isin (.var 1) "bool") (.one (.isin (.var 0) "bool"))) law_alike_h0 .nil
def law_alike_a_s3 : PD.St := .iff (.isin (.var 1) "int") law_alike_j0 .nil
def law_alike_a_s4 : PD.St := .ret (.and (.isin (.var 0) "str") (.one (.cmp .eq (.var 0) (.var 1))))
def law_alike_a4 : Sts := .cons law_alike_a_s4 .nil
def law_alike_a3 : Sts := .cons law_alike_a_s3 law_alike_a4
def law_alike_a2 : Sts := .cons law_alike_a_s2 law_alike_a3
def law_alike_a1 : Sts := .cons law_alike_a_s1 law_alike_a2
def law_alike_a0 : Sts := .cons law_alike_a_s0 law_alike_a1
theorem law_alike_a0_e : law_alike_a0 = .cons law_alike_a_s0 law_alike_a1 := rfl
theorem law_alike_a1_e : law_alike_a1 = .cons law_alike_a_s1 law_alike_a2 := rfl
theorem law_alike_a2_e : law_alike_a2 = .cons law_alike_a_s2 law_alike_a3 := rfl
theorem law_alike_a3_e : law_alike_a3 = .cons law_alike_a_s3 law_alike_a4 := rfl
theorem law_alike_a4_e : law_alike_a4 = .cons law_alike_a_s4 .nil := rfl
def d_law_alike_b : Sts := law_alike_a0
def d_law_alike : Df := ⟨"_law_alike", top 32, ["found", "due"], ["found", "due", "k"], true, false, d_law_alike_b⟩
def law_text_a_s0 : PD.St := .set 2 (.idx (.lst (.cons (.cst (.str [97, 98])) (.cons (.cst (.str [97, 98, 65, 32, 98, 10])) (.cons (.cst (.str [120, 121, 122, 48, 49, 57, 32, 95, 126, 10])) (.cons (.cst (.str [97])) .nil))))) (.call 13 (.cons (.var 0) (.cons (.cst (.int 4)) .nil))))
def law_text_a_s1 : PD.St := .ret (.join (.cst (.str [])) (.comp (.idx (.var 2) (.call 13 (.cons (.var 0) (.cons (.bif .len (.cons (.var 2) .nil)) .nil)))) (.nm 3) (.rng1 (.call 13 (.cons (.var 0) (.cons (.bin .add (.var 1) (.cst (.int 1))) .nil)))) .nil false))
def law_text_a1 : Sts := .cons law_text_a_s1 .nil
def law_text_a0 : Sts := .cons law_text_a_s0 law_text_a1
theorem law_text_a0_e : law_text_a0 = .cons law_text_a_s0 law_text_a1 := rfl
theorem law_text_a1_e : law_text_a1 = .cons law_text_a_s1 .nil := rfl
def d_law_text_b : Sts := law_text_a0
def d_law_text : Df := ⟨"_law_text", top 34, ["draws", "most"], ["draws", "most", "kinds", "sign"], true, false, d_law_text_b⟩
def law_edit_a_s0 : PD.St := .set 3 (.idx (.lst (.cons (.cst (.int 0)) (.cons (.bif .len (.cons (.var 1) .nil)) (.cons (.call 13 (.cons (.var 0) (.cons (.bin .add (.bif .len (.cons (.var 1) .nil)) (.cst (.int 1))) .nil))) (.cons (.call 13 (.cons (.var 0) (.cons (.bin .add (.bif .len (.cons (.var 1) .nil)) (.cst (.int 1))) .nil))) .nil))))) (.call 13 (.cons (.var 0) (.cons (.cst (.int 4)) .nil))))
def law_edit_a_s1 : PD.St := .set 4 (.idx (.lst (.cons (.cst (.int 0)) (.cons (.cst (.int 0)) (.cons (.bin .sub (.bif .len (.cons (.var 1) .nil)) (.var 3)) (.cons (.call 13 (.cons (.var 0) (.cons (.bin .add (.bin .sub (.bif .len (.cons (.var 1) .nil)) (.var 3)) (.cst (.int 1))) .nil))) .nil))))) (.call 13 (.cons (.var 0) (.cons (.cst (.int 4)) .nil))))
def law_edit_a_s2 : PD.St := .ret (.tup (.cons (.var 3) (.cons (.bif .min2 (.cons (.var 4) (.cons (.bin .add (.cst (.int 9)) (.call 13 (.cons (.var 0) (.cons (.cst (.int 40)) .nil)))) .nil))) (.cons (.call 15 (.cons (.var 0) (.cons (.var 2) .nil))) .nil))))
def law_edit_a2 : Sts := .cons law_edit_a_s2 .nil
def law_edit_a1 : Sts := .cons law_edit_a_s1 law_edit_a2
def law_edit_a0 : Sts := .cons law_edit_a_s0 law_edit_a1
theorem law_edit_a0_e : law_edit_a0 = .cons law_edit_a_s0 law_edit_a1 := rfl
theorem law_edit_a1_e : law_edit_a1 = .cons law_edit_a_s1 law_edit_a2 := rfl
theorem law_edit_a2_e : law_edit_a2 = .cons law_edit_a_s2 .nil := rfl
def d_law_edit_b : Sts := law_edit_a0
def d_law_edit : Df := ⟨"_law_edit", top 35, ["draws", "text", "most"], ["draws", "text", "most", "place", "gone"], true, false, d_law_edit_b⟩
def law_signs_a_s0 : PD.St := .ret (.bin .add (.bin .add (.cut (.var 0) .no (.ex (.idx (.var 1) (.cst (.int 0))))) (.comp (.bin .add (.var 2) (.var 3)) (.nm 3) (.rng1 (.bif .len (.cons (.idx (.var 1) (.cst (.int 2))) .nil))) .nil false)) (.cut (.var 0) (.ex (.bin .add (.idx (.var 1) (.cst (.int 0))) (.idx (.var 1) (.cst (.int 1))))) .no))
def law_signs_a0 : Sts := .cons law_signs_a_s0 .nil
theorem law_signs_a0_e : law_signs_a0 = .cons law_signs_a_s0 .nil := rfl
def d_law_signs_b : Sts := law_signs_a0
def d_law_signs : Df := ⟨"_law_signs", top 36, ["signs", "change", "newest"], ["signs", "change", "newest", "k"], true, false, d_law_signs_b⟩
def law_due_c_s0 : PD.St := .ret (.tup (.cons (.ite (.cmp .gt (.var 4) (.cst (.int 0))) (.bin .add (.lidx (.var 3) (.idx (.var 0) (.bin .sub (.var 4) (.cst (.int 1))))) (.cst (.int 1))) (.cst (.int 0))) (.cons (.var 5) .nil)))
def law_due_c0 : Sts := .cons law_due_c_s0 .nil
theorem law_due_c0_e : law_due_c0 = .cons law_due_c_s0 .nil := rfl
def law_due_b_s0 : PD.St := .iff (.or (.and (.cmp .eq (.var 4) (.cst (.int 0))) (.one (.cmp .gt (.idx (.var 2) (.cst (.int 0))) (.cst (.int 0))))) (.one (.and (.cmp .gt (.var 4) (.cst (.int 0))) (.one (.cmp .in_ (.idx (.var 0) (.bin .sub (.var 4) (.cst (.int 1)))) (.var 3)))))) law_due_c0 .nil
def law_due_b_s1 : PD.St := .ret (.tup (.cons (.idx (.var 2) (.cst (.int 0))) (.cons (.var 5) .nil)))
def law_due_b1 : Sts := .cons law_due_b_s1 .nil
def law_due_b0 : Sts := .cons law_due_b_s0 law_due_b1
theorem law_due_b0_e : law_due_b0 = .cons law_due_b_s0 law_due_b1 := rfl
theorem law_due_b1_e : law_due_b1 = .cons law_due_b_s1 .nil := rfl
def law_due_f_s0 : PD.St := .ret (.tup (.cons (.lidx (.var 3) (.idx (.var 0) (.var 4))) (.cons (.var 5) .nil)))
def law_due_f0 : Sts := .cons law_due_f_s0 .nil
theorem law_due_f0_e : law_due_f0 = .cons law_due_f_s0 .nil := rfl
def law_due_h_s0 : PD.St := .ret (.tup (.cons (.bif .len (.cons (.var 3) .nil)) (.cons (.var 5) .nil)))
def law_due_h0 : Sts := .cons law_due_h_s0 .nil
theorem law_due_h0_e : law_due_h0 = .cons law_due_h_s0 .nil := rfl
def law_due_a_s0 : PD.St := .unp (.tp [4, 5]) (.var 1)
def law_due_a_s1 : PD.St := .iff (.cmp .eq (.var 5) (.cst (.str [108, 101, 102, 116]))) law_due_b0 .nil
def law_due_a_s2 : PD.St := .iff (.and (.cmp .lt (.var 4) (.bif .len (.cons (.var 0) .nil))) (.one (.cmp .in_ (.idx (.var 0) (.var 4)) (.var 3)))) law_due_f0 .nil
def law_due_a_s3 : PD.St := .iff (.and (.cmp .eq (.var 4) (.bif .len (.cons (.var 0) .nil))) (.one (.cmp .lt (.bin .add (.idx (.var 2) (.cst (.int 0))) (.idx (.var 2) (.cst (.int 1)))) (.bif .len (.cons (.var 0) .nil))))) law_due_h0 .nil
def law_due_a_s4 : PD.St := .ret (.tup (.cons (.bin .add (.idx (.var 2) (.cst (.int 0))) (.bif .len (.cons (.idx (.var 2) (.cst (.int 2))) .nil))) (.cons (.var 5) .nil)))
def law_due_a4 : Sts := .cons law_due_a_s4 .nil
def law_due_a3 : Sts := .cons law_due_a_s3 law_due_a4
def law_due_a2 : Sts := .cons law_due_a_s2 law_due_a3
def law_due_a1 : Sts := .cons law_due_a_s1 law_due_a2
def law_due_a0 : Sts := .cons law_due_a_s0 law_due_a1
theorem law_due_a0_e : law_due_a0 = .cons law_due_a_s0 law_due_a1 := rfl
theorem law_due_a1_e : law_due_a1 = .cons law_due_a_s1 law_due_a2 := rfl
theorem law_due_a2_e : law_due_a2 = .cons law_due_a_s2 law_due_a3 := rfl
theorem law_due_a3_e : law_due_a3 = .cons law_due_a_s3 law_due_a4 := rfl
theorem law_due_a4_e : law_due_a4 = .cons law_due_a_s4 .nil := rfl
def d_law_due_b : Sts := law_due_a0
def d_law_due : Df := ⟨"_law_due", top 37, ["signs", "mark", "change", "later"], ["signs", "mark", "change", "later", "place", "side"], true, false, d_law_due_b⟩
def law_row_b_s0 : PD.St := .set 4 (.bif .min2 (.cons (.bin .sub (.bif .len (.cons (.var 1) .nil)) (.var 3)) (.cons (.call 13 (.cons (.var 0) (.cons (.cst (.int 4)) .nil))) .nil)))
def law_row_b_s1 : PD.St := .set 2 (.bin .add (.var 2) (.tup (.cons (.tup (.cons (.var 3) (.cons (.var 4) (.cons (.call 15 (.cons (.var 0) (.cons (.cst (.int 4)) .nil))) .nil)))) .nil)))
def law_row_b_s2 : PD.St := .set 3 (.bin .add (.bin .add (.bin .add (.var 3) (.var 4)) (.cst (.int 1))) (.call 13 (.cons (.var 0) (.cons (.cst (.int 6)) .nil))))
def law_row_b2 : Sts := .cons law_row_b_s2 .nil
def law_row_b1 : Sts := .cons law_row_b_s1 law_row_b2
def law_row_b0 : Sts := .cons law_row_b_s0 law_row_b1
theorem law_row_b0_e : law_row_b0 = .cons law_row_b_s0 law_row_b1 := rfl
theorem law_row_b1_e : law_row_b1 = .cons law_row_b_s1 law_row_b2 := rfl
theorem law_row_b2_e : law_row_b2 = .cons law_row_b_s2 .nil := rfl
def law_row_a_s0 : PD.St := .par2 2 3 (.tup .nil) (.call 13 (.cons (.var 0) (.cons (.cst (.int 3)) .nil)))
def law_row_a_s1 : PD.St := .whl (.and (.cmp .le (.var 3) (.bif .len (.cons (.var 1) .nil))) (.and (.cmp .lt (.bif .len (.cons (.var 2) .nil)) (.cst (.int 6))) (.one (.cmp .gt (.call 13 (.cons (.var 0) (.cons (.cst (.int 6)) .nil))) (.cst (.int 0)))))) law_row_b0
def law_row_a_s2 : PD.St := .ret (.var 2)
def law_row_a2 : Sts := .cons law_row_a_s2 .nil
def law_row_a1 : Sts := .cons law_row_a_s1 law_row_a2
def law_row_a0 : Sts := .cons law_row_a_s0 law_row_a1
theorem law_row_a0_e : law_row_a0 = .cons law_row_a_s0 law_row_a1 := rfl
theorem law_row_a1_e : law_row_a1 = .cons law_row_a_s1 law_row_a2 := rfl
theorem law_row_a2_e : law_row_a2 = .cons law_row_a_s2 .nil := rfl
def d_law_row_b : Sts := law_row_a0
def d_law_row : Df := ⟨"_law_row", top 38, ["draws", "text"], ["draws", "text", "found", "place", "gone"], true, false, d_law_row_b⟩
def law_told_b_s0 : PD.St := .ret (.ite (.cmp .eq (.var 0) (.cst (.int 0))) (.call 11 (.cons (.var 1) (.cons (.var 2) .nil))) (.call 10 (.cons (.var 1) (.cons (.var 3) (.cons (.var 2) .nil)))))
def law_told_b0 : Sts := .cons law_told_b_s0 .nil
theorem law_told_b0_e : law_told_b0 = .cons law_told_b_s0 .nil := rfl
def law_told_a_s0 : PD.St := .tryW law_told_b0 4 "EditError"
def law_told_a0 : Sts := .cons law_told_a_s0 .nil
theorem law_told_a0_e : law_told_a0 = .cons law_told_a_s0 .nil := rfl
def d_law_told_b : Sts := law_told_a0
def d_law_told : Df := ⟨"_law_told", top 39, ["which", "text", "one", "other"], ["which", "text", "one", "other", "e"], true, false, d_law_told_b⟩
def law_held_c_s0 : PD.St := .set 4 (.bif .sum (.cons (.comp (.bin .sub (.bif .len (.cons (.idx (.var 5) (.cst (.int 2))) .nil)) (.idx (.var 5) (.cst (.int 1)))) (.nm 5) (.seq (.var 1)) (.cons (.cmp .le (.bin .add (.idx (.var 5) (.cst (.int 0))) (.idx (.var 5) (.cst (.int 1)))) (.var 3)) .nil) false) .nil))
def law_held_c_s1 : PD.St := .exp (.app (.var 2) (.tup (.cons (.var 3) (.cons (.bin .add (.var 3) (.var 4)) .nil))))
def law_held_c1 : Sts := .cons law_held_c_s1 .nil
def law_held_c0 : Sts := .cons law_held_c_s0 law_held_c1
theorem law_held_c0_e : law_held_c0 = .cons law_held_c_s0 law_held_c1 := rfl
theorem law_held_c1_e : law_held_c1 = .cons law_held_c_s1 .nil := rfl
def law_held_b_s0 : PD.St := .iff (.cmp .eq (.comp (.var 5) (.nm 5) (.seq (.var 1)) (.cons (.chn .le .lt (.idx (.var 5) (.cst (.int 0))) (.var 3) (.bin .add (.idx (.var 5) (.cst (.int 0))) (.idx (.var 5) (.cst (.int 1))))) .nil) false) (.lst .nil)) law_held_c0 .nil
def law_held_b0 : Sts := .cons law_held_b_s0 .nil
theorem law_held_b0_e : law_held_b0 = .cons law_held_b_s0 .nil := rfl
def law_held_a_s0 : PD.St := .set 2 (.lstO .nil)
def law_held_a_s1 : PD.St := .forr (.nm 3) (.rng1 (.bif .len (.cons (.var 0) .nil))) law_held_b0
def law_held_a_s2 : PD.St := .ret (.tupz (.var 2))
def law_held_a2 : Sts := .cons law_held_a_s2 .nil
def law_held_a1 : Sts := .cons law_held_a_s1 law_held_a2
def law_held_a0 : Sts := .cons law_held_a_s0 law_held_a1
theorem law_held_a0_e : law_held_a0 = .cons law_held_a_s0 law_held_a1 := rfl
theorem law_held_a1_e : law_held_a1 = .cons law_held_a_s1 law_held_a2 := rfl
theorem law_held_a2_e : law_held_a2 = .cons law_held_a_s2 .nil := rfl
def d_law_held_b : Sts := law_held_a0
def d_law_held : Df := ⟨"_law_held", top 40, ["text", "changes"], ["text", "changes", "found", "spot", "more", "change"], true, false, d_law_held_b⟩
def law_b_s0 : PD.St := .set 5 (.bin .add (.var 5) (.lst (.cons (.tup (.cons (.var 6) (.cons (.cst (.str [108, 101, 102, 116])) .nil))) (.cons (.tup (.cons (.var 6) (.cons (.cst (.str [114, 105, 103, 104, 116])) .nil))) .nil))))
def law_b0 : Sts := .cons law_b_s0 .nil
theorem law_b0_e : law_b0 = .cons law_b_s0 .nil := rfl
def law_d_s0 : PD.St := .ret (.cst (.bl false))
def law_d0 : Sts := .cons law_d_s0 .nil
theorem law_d0_e : law_d0 = .cons law_d_s0 .nil := rfl
def law_g_s0 : PD.St := .ret (.cst (.bl false))
def law_g0 : Sts := .cons law_g_s0 .nil
theorem law_g0_e : law_g0 = .cons law_g_s0 .nil := rfl
def law_f_s0 : PD.St := .set 14 (.comp (.var 16) (.nm 16) (.rng1 (.bif .len (.cons (.var 13) .nil))) (.cons (.and (.cmp .lt (.idx (.idx (.var 9) (.var 16)) (.cst (.int 0))) (.idx (.idx (.var 9) (.var 4)) (.cst (.int 0)))) (.and (.cmp .eq (.idx (.idx (.var 9) (.var 16)) (.cst (.int 1))) (.idx (.idx (.var 9) (.var 4)) (.cst (.int 1)))) (.one (.cmp .gt (.idx (.idx (.var 13) (.var 16)) (.cst (.int 0))) (.idx (.idx (.var 13) (.var 4)) (.cst (.int 0))))))) .nil) false)
def law_f_s1 : PD.St := .iff (.or (.cmp .ne (.var 14) (.lst .nil)) (.one (.cmp .ne (.comp (.var 16) (.nm 16) (.rng1 (.bif .len (.cons (.var 13) .nil))) (.cons (.and (.cmp .eq (.idx (.var 9) (.var 16)) (.tup (.cons (.idx (.idx (.var 9) (.var 4)) (.cst (.int 0))) (.cons (.cst (.str [114, 105, 103, 104, 116])) .nil)))) (.and (.cmp .eq (.idx (.idx (.var 9) (.var 4)) (.cst (.int 1))) (.cst (.str [108, 101, 102, 116]))) (.one (.cmp .lt (.idx (.idx (.var 13) (.var 16)) (.cst (.int 0))) (.idx (.idx (.var 13) (.var 4)) (.cst (.int 0))))))) .nil) false) (.lst .nil)))) law_g0 .nil
def law_f1 : Sts := .cons law_f_s1 .nil
def law_f0 : Sts := .cons law_f_s0 law_f1
theorem law_f0_e : law_f0 = .cons law_f_s0 law_f1 := rfl
theorem law_f1_e : law_f1 = .cons law_f_s1 .nil := rfl
def law_c_s0 : PD.St := .set 11 (.call 16 (.cons (.var 1) (.cons (.var 8) (.cons (.cst (.int 6)) .nil))))
def law_c_s1 : PD.St := .set 12 (.call 17 (.cons (.var 3) (.cons (.var 11) (.cons (.bin .mul (.cst (.int 100000)) (.bin .add (.var 10) (.cst (.int 1)))) .nil))))
def law_c_s2 : PD.St := .set 13 (.comp (.call 8 (.cons (.var 15) (.cons (.var 11) .nil))) (.nm 15) (.seq (.var 9)) .nil false)
def law_c_s3 : PD.St := .iff (.or (.cmp .ne (.comp (.var 4) (.nm 4) (.rng1 (.bif .len (.cons (.var 9) .nil))) (.cons (.not (.call 14 (.cons (.idx (.var 13) (.var 4)) (.cons (.call 18 (.cons (.var 3) (.cons (.idx (.var 9) (.var 4)) (.cons (.var 11) (.cons (.var 12) .nil))))) .nil)))) .nil) false) (.lst .nil)) (.one (.cmp .ne (.comp (.var 15) (.nm 15) (.seq (.var 13)) (.cons (.cmp .isNot (.call 7 (.cons (.bif .len (.cons (.var 12) .nil)) (.cons (.var 15) .nil))) (.cst (.bl true))) .nil) false) (.lst .nil)))) law_d0 .nil
def law_c_s4 : PD.St := .forr (.nm 4) (.rng1 (.bif .len (.cons (.var 13) .nil))) law_f0
def law_c_s5 : PD.St := .exp (.app (.var 7) (.var 11))
def law_c_s6 : PD.St := .set 8 (.bin .add (.bin .add (.cut (.var 8) .no (.ex (.idx (.var 11) (.cst (.int 0))))) (.idx (.var 11) (.cst (.int 2)))) (.cut (.var 8) (.ex (.bin .add (.idx (.var 11) (.cst (.int 0))) (.idx (.var 11) (.cst (.int 1))))) .no))
def law_c_s7 : PD.St := .unp (.tp [9, 3]) (.tup (.cons (.var 13) (.cons (.var 12) .nil)))
def law_c7 : Sts := .cons law_c_s7 .nil
def law_c6 : Sts := .cons law_c_s6 law_c7
def law_c5 : Sts := .cons law_c_s5 law_c6
def law_c4 : Sts := .cons law_c_s4 law_c5
def law_c3 : Sts := .cons law_c_s3 law_c4
def law_c2 : Sts := .cons law_c_s2 law_c3
def law_c1 : Sts := .cons law_c_s1 law_c2
def law_c0 : Sts := .cons law_c_s0 law_c1
theorem law_c0_e : law_c0 = .cons law_c_s0 law_c1 := rfl
theorem law_c1_e : law_c1 = .cons law_c_s1 law_c2 := rfl
theorem law_c2_e : law_c2 = .cons law_c_s2 law_c3 := rfl
theorem law_c3_e : law_c3 = .cons law_c_s3 law_c4 := rfl
theorem law_c4_e : law_c4 = .cons law_c_s4 law_c5 := rfl
theorem law_c5_e : law_c5 = .cons law_c_s5 law_c6 := rfl
theorem law_c6_e : law_c6 = .cons law_c_s6 law_c7 := rfl
theorem law_c7_e : law_c7 = .cons law_c_s7 .nil := rfl
def law_j_s0 : PD.St := .ret (.cst (.bl false))
def law_j0 : Sts := .cons law_j_s0 .nil
theorem law_j0_e : law_j0 = .cons law_j_s0 .nil := rfl
def law_i_s0 : PD.St := .iff (.or (.cmp .ne (.call 9 (.cons (.idx (.var 5) (.var 4)) (.cons (.var 7) .nil))) (.idx (.var 9) (.var 4))) (.one (.cmp .ne (.call 9 (.cons (.idx (.var 5) (.var 4)) (.cons (.bif .tuple (.cons (.cut (.var 7) .no (.ex (.cst (.int 1)))) .nil)) .nil))) (.call 8 (.cons (.idx (.var 5) (.var 4)) (.cons (.idx (.var 7) (.cst (.int 0))) .nil)))))) law_j0 .nil
def law_i0 : Sts := .cons law_i_s0 .nil
theorem law_i0_e : law_i0 = .cons law_i_s0 .nil := rfl
def law_l_s0 : PD.St := .ret (.cst (.bl false))
def law_l0 : Sts := .cons law_l_s0 .nil
theorem law_l0_e : law_l0 = .cons law_l_s0 .nil := rfl
def law_o_s0 : PD.St := .ret (.cst (.bl false))
def law_o0 : Sts := .cons law_o_s0 .nil
theorem law_o0_e : law_o0 = .cons law_o_s0 .nil := rfl
def law_q_s0 : PD.St := .set 22 (.call 8 (.cons (.var 22) (.cons (.tup (.cons (.bin .add (.idx (.var 11) (.cst (.int 0))) (.var 23)) (.cons (.idx (.var 11) (.cst (.int 1))) (.cons (.idx (.var 11) (.cst (.int 2))) .nil)))) .nil)))
def law_q_s1 : PD.St := .set 23 (.bin .sub (.bin .add (.var 23) (.bif .len (.cons (.idx (.var 11) (.cst (.int 2))) .nil))) (.idx (.var 11) (.cst (.int 1))))
def law_q1 : Sts := .cons law_q_s1 .nil
def law_q0 : Sts := .cons law_q_s0 law_q1
theorem law_q0_e : law_q0 = .cons law_q_s0 law_q1 := rfl
theorem law_q1_e : law_q1 = .cons law_q_s1 .nil := rfl
def law_r_s0 : PD.St := .ret (.cst (.bl false))
def law_r0 : Sts := .cons law_r_s0 .nil
theorem law_r0_e : law_r0 = .cons law_r_s0 .nil := rfl
def law_n_s0 : PD.St := .set 20 (.call 20 (.cons (.cst (.int 1)) (.cons (.var 2) (.cons (.var 17) (.cons (.tup (.cons (.var 6) (.cons (.var 19) .nil))) .nil)))))
def law_n_s1 : PD.St := .set 21 (.ite (.cmp .eq (.var 19) (.cst (.str [108, 101, 102, 116]))) (.bin .sub (.var 6) (.cst (.int 1))) (.var 6))
def law_n_s2 : PD.St := .iff (.and (.cmp .in_ (.var 21) (.var 18)) (.one (.cmp .ne (.var 20) (.tup (.cons (.bin .add (.idx (.var 18) (.var 21)) (.bif .int (.cons (.cmp .eq (.var 19) (.cst (.str [108, 101, 102, 116]))) .nil))) (.cons (.var 19) .nil)))))) law_o0 .nil
def law_n_s3 : PD.St := .set 22 (.tup (.cons (.var 6) (.cons (.var 19) .nil)))
def law_n_s4 : PD.St := .set 23 (.cst (.int 0))
def law_n_s5 : PD.St := .forr (.nm 11) (.seq (.var 17)) law_q0
def law_n_s6 : PD.St := .iff (.cmp .ne (.var 20) (.var 22)) law_r0 .nil
def law_n6 : Sts := .cons law_n_s6 .nil
def law_n5 : Sts := .cons law_n_s5 law_n6
def law_n4 : Sts := .cons law_n_s4 law_n5
def law_n3 : Sts := .cons law_n_s3 law_n4
def law_n2 : Sts := .cons law_n_s2 law_n3
def law_n1 : Sts := .cons law_n_s1 law_n2
def law_n0 : Sts := .cons law_n_s0 law_n1
theorem law_n0_e : law_n0 = .cons law_n_s0 law_n1 := rfl
theorem law_n1_e : law_n1 = .cons law_n_s1 law_n2 := rfl
theorem law_n2_e : law_n2 = .cons law_n_s2 law_n3 := rfl
theorem law_n3_e : law_n3 = .cons law_n_s3 law_n4 := rfl
theorem law_n4_e : law_n4 = .cons law_n_s4 law_n5 := rfl
theorem law_n5_e : law_n5 = .cons law_n_s5 law_n6 := rfl
theorem law_n6_e : law_n6 = .cons law_n_s6 .nil := rfl
def law_t_s0 : PD.St := .ret (.cst (.bl false))
def law_t0 : Sts := .cons law_t_s0 .nil
theorem law_t0_e : law_t0 = .cons law_t_s0 .nil := rfl
def law_a_s0 : PD.St := .set 1 (.call 12 (.cons (.var 0) .nil))
def law_a_s1 : PD.St := .set 2 (.call 15 (.cons (.var 1) (.cons (.idx (.lst (.cons (.cst (.int 6)) (.cons (.cst (.int 20)) (.cons (.cst (.int 60)) .nil)))) (.call 13 (.cons (.var 1) (.cons (.cst (.int 3)) .nil)))) .nil)))
def law_a_s2 : PD.St := .set 3 (.comp (.bin .add (.cst (.int 1000)) (.var 4)) (.nm 4) (.rng1 (.bif .len (.cons (.var 2) .nil))) .nil false)
def law_a_s3 : PD.St := .set 5 (.lst .nil)
def law_a_s4 : PD.St := .forr (.nm 6) (.rng1 (.bin .add (.bif .len (.cons (.var 2) .nil)) (.cst (.int 1)))) law_b0
def law_a_s5 : PD.St := .set 7 (.lstO .nil)
def law_a_s6 : PD.St := .unp (.tp [8, 9]) (.tup (.cons (.var 2) (.cons (.var 5) .nil)))
def law_a_s7 : PD.St := .forr (.nm 10) (.rng1 (.bin .add (.cst (.int 1)) (.call 13 (.cons (.var 1) (.cons (.cst (.int 5)) .nil))))) law_c0
def law_a_s8 : PD.St := .forr (.nm 4) (.rng1 (.bif .len (.cons (.var 5) .nil))) law_i0
def law_a_s9 : PD.St := .set 17 (.call 19 (.cons (.var 1) (.cons (.var 2) .nil)))
def law_a_s10 : PD.St := .iff (.not (.call 14 (.cons (.call 20 (.cons (.cst (.int 0)) (.cons (.var 2) (.cons (.var 17) (.cons (.cst .non) .nil))))) (.cons (.unz (.call 21 (.cons (.var 2) (.cons (.var 17) .nil)))) .nil)))) law_l0 .nil
def law_a_s11 : PD.St := .set 18 (.dictZ (.call 21 (.cons (.var 2) (.cons (.var 17) .nil))))
def law_a_s12 : PD.St := .forr (.tp [6, 19]) (.seq (.var 5)) law_n0
def law_a_s13 : PD.St := .iff (.cmp .ne (.comp (.call 20 (.cons (.var 24) (.cons (.var 2) (.cons (.tup (.cons (.tup (.cons (.cst (.int 0)) (.cons (.bin .add (.bif .len (.cons (.var 2) .nil)) (.cst (.int 1))) (.cons (.cst (.str [])) .nil)))) .nil)) (.cons (.tup (.cons (.cst (.int 0)) (.cons (.cst (.str [108, 101, 102, 116])) .nil))) .nil))))) (.nm 24) (.seq (.lst (.cons (.cst (.int 0)) (.cons (.cst (.int 1)) .nil)))) .nil false) (.bin .mul (.lst (.cons (.cst (.str [102, 111, 114, 109])) .nil)) (.cst (.int 2)))) law_t0 .nil
def law_a_s14 : PD.St := .set 25 (.lst (.cons (.cst .non) (.cons (.cst (.int 5)) (.cons (.tup (.cons (.cst (.int 0)) .nil)) (.cons (.lst (.cons (.cst (.int 0)) (.cons (.cst (.str [108, 101, 102, 116])) .nil))) (.cons (.tup (.cons (.neg (.cst (.int 1))) (.cons (.cst (.str [108, 101, 102, 116])) .nil))) (.cons (.tup (.cons (.bin .add (.bif .len (.cons (.var 2) .nil)) (.cst (.int 1))) (.cons (.cst (.str [108, 101, 102, 116])) .nil))) (.cons (.tup (.cons (.cst (.int 0)) (.cons (.cst (.str [109, 105, 100, 100, 108, 101])) .nil))) (.cons (.tup (.cons (.cst (.int 0)) (.cons (.cst .non) .nil))) (.cons (.tup (.cons (.cst (.bl true)) (.cons (.cst (.str [108, 101, 102, 116])) .nil))) (.cons (.tup (.cons (.cst (.int 0)) (.cons (.cst (.str [108, 101, 102, 116])) (.cons (.cst (.int 0)) .nil)))) (.cons (.tup (.cons (.cst (.str [48])) (.cons (.cst (.str [108, 101, 102, 116])) .nil))) (.cons (.tup (.cons (.cst (.int 0)) (.cons (.cst (.str [])) .nil))) .nil)))))))))))))
def law_a_s15 : PD.St := .ret (.cmp .eq (.comp (.var 26) (.nm 26) (.seq (.var 25)) (.cons (.cmp .isNot (.call 7 (.cons (.bif .len (.cons (.var 2) .nil)) (.cons (.var 26) .nil))) (.cst (.bl false))) .nil) false) (.lst .nil))
def law_a15 : Sts := .cons law_a_s15 .nil
def law_a14 : Sts := .cons law_a_s14 law_a15
def law_a13 : Sts := .cons law_a_s13 law_a14
def law_a12 : Sts := .cons law_a_s12 law_a13
def law_a11 : Sts := .cons law_a_s11 law_a12
def law_a10 : Sts := .cons law_a_s10 law_a11
def law_a9 : Sts := .cons law_a_s9 law_a10
def law_a8 : Sts := .cons law_a_s8 law_a9
def law_a7 : Sts := .cons law_a_s7 law_a8
def law_a6 : Sts := .cons law_a_s6 law_a7
def law_a5 : Sts := .cons law_a_s5 law_a6
def law_a4 : Sts := .cons law_a_s4 law_a5
def law_a3 : Sts := .cons law_a_s3 law_a4
def law_a2 : Sts := .cons law_a_s2 law_a3
def law_a1 : Sts := .cons law_a_s1 law_a2
def law_a0 : Sts := .cons law_a_s0 law_a1
theorem law_a0_e : law_a0 = .cons law_a_s0 law_a1 := rfl
theorem law_a1_e : law_a1 = .cons law_a_s1 law_a2 := rfl
theorem law_a2_e : law_a2 = .cons law_a_s2 law_a3 := rfl
theorem law_a3_e : law_a3 = .cons law_a_s3 law_a4 := rfl
theorem law_a4_e : law_a4 = .cons law_a_s4 law_a5 := rfl
theorem law_a5_e : law_a5 = .cons law_a_s5 law_a6 := rfl
theorem law_a6_e : law_a6 = .cons law_a_s6 law_a7 := rfl
theorem law_a7_e : law_a7 = .cons law_a_s7 law_a8 := rfl
theorem law_a8_e : law_a8 = .cons law_a_s8 law_a9 := rfl
theorem law_a9_e : law_a9 = .cons law_a_s9 law_a10 := rfl
theorem law_a10_e : law_a10 = .cons law_a_s10 law_a11 := rfl
theorem law_a11_e : law_a11 = .cons law_a_s11 law_a12 := rfl
theorem law_a12_e : law_a12 = .cons law_a_s12 law_a13 := rfl
theorem law_a13_e : law_a13 = .cons law_a_s13 law_a14 := rfl
theorem law_a14_e : law_a14 = .cons law_a_s14 law_a15 := rfl
theorem law_a15_e : law_a15 = .cons law_a_s15 .nil := rfl
def d_law_b : Sts := law_a0
def d_law : Df := ⟨"law", top 41, ["script"], ["script", "draws", "text", "signs", "k", "marks", "place", "changes", "now", "row", "turn", "change", "later", "told", "passed", "mark", "j", "at_once", "held", "side", "found", "beside", "swung", "more", "which", "wrong", "value"], true, false, d_law_b⟩
def dfs : List Df := [d_is_number, d_is_signs, d_is_text, d_is_change, d_are_edits, d_check_edits, d_in_turn, d_is_mark, d_moved, d_moved_through, d_moved_at_once, d_hold_of, d_law_draws, d_law_take, d_law_alike, d_law_text, d_law_edit, d_law_signs, d_law_due, d_law_row, d_law_told, d_law_held, d_law]
def gts : List (Str × D) := [("FIRST_SIGN", (.str [32])), ("LAST_SIGN", (.str [126])), ("LINE_END", (.str [10])), ("MOST_SIGNS", (.int 2000)), ("MOST_EDITS", (.int 200)), ("RIGHT", (.str [114, 105, 103, 104, 116])), ("LEFT", (.str [108, 101, 102, 116]))]
def xd : XD := ⟨["Malformed"], ["EditError"], [(("Malformed", "EditError"), true)], [("Malformed", [102, 111, 114, 109])], "_law_word"⟩
def wfd : Wf := ⟨"_law_word", top 33, "e", "kinds", "kind"⟩
def hk : Hk := ⟨gts, dfs, xd, some wfd⟩
theorem Ph_ex : ∃ f : Nat → Nat → List D → Store → Out D, ∀ k, f k = Phi hk.cs hk.dfs k := ⟨_, fun _ => rfl⟩
noncomputable def Ph : Nat → Nat → List D → Store → Out D := Classical.choose Ph_ex
theorem Ph_spec (k : Nat) : Ph k = Phi hk.cs hk.dfs k := Classical.choose_spec Ph_ex k
theorem GG_ex : ∃ f : Nat → Dn, ∀ k, f k = gDn hk.cs hk.dfs k := ⟨_, fun _ => rfl⟩
noncomputable def GG : Nat → Dn := Classical.choose GG_ex
theorem GG_spec (k : Nat) : GG k = gDn hk.cs hk.dfs k := Classical.choose_spec GG_ex k
@[simp] theorem GG_call (k f : Nat) (ds : List D) (S : Store) : (GG k).Φ f ds S = Ph k f ds S := by rw [GG_spec, Ph_spec]
@[simp] theorem GG_xd (k : Nat) : (GG k).xd = xd := by rw [GG_spec]; rfl
@[simp] theorem GG_g0 (k : Nat) : (GG k).Γ 0 = some (.str [32]) := by rw [GG_spec]; rfl -- FIRST_SIGN
@[simp] theorem GG_g1 (k : Nat) : (GG k).Γ 1 = some (.str [126]) := by rw [GG_spec]; rfl -- LAST_SIGN
@[simp] theorem GG_g2 (k : Nat) : (GG k).Γ 2 = some (.str [10]) := by rw [GG_spec]; rfl -- LINE_END
@[simp] theorem GG_g3 (k : Nat) : (GG k).Γ 3 = some (.int 2000) := by rw [GG_spec]; rfl -- MOST_SIGNS
@[simp] theorem GG_g4 (k : Nat) : (GG k).Γ 4 = some (.int 200) := by rw [GG_spec]; rfl -- MOST_EDITS
@[simp] theorem GG_g5 (k : Nat) : (GG k).Γ 5 = some (.str [114, 105, 103, 104, 116]) := by rw [GG_spec]; rfl -- RIGHT
@[simp] theorem GG_g6 (k : Nat) : (GG k).Γ 6 = some (.str [108, 101, 102, 116]) := by rw [GG_spec]; rfl -- LEFT
@[simp] theorem xd_Malformed_EditError : xd.sub "Malformed" "EditError" = some true := id rfl
@[simp] theorem xd_Malformed : xd.word "Malformed" = some [102, 111, 114, 109] := id rfl
abbrev i_is_number : Nat := 0
theorem ph_is_number (k : Nat) (x0 x1 x2 : D) (S : Store) : Ph (k + 1) i_is_number [x0, x1, x2] S = runF (GG k) true d_is_number_b 3 [x0, x1, x2] S := by rw [GG_spec, Ph_spec]; rfl
abbrev i_is_signs : Nat := 1
theorem ph_is_signs (k : Nat) (x0 : D) (S : Store) : Ph (k + 1) i_is_signs [x0] S = runF (GG k) true d_is_signs_b 2 [x0] S := by rw [GG_spec, Ph_spec]; rfl
abbrev i_is_text : Nat := 2
theorem ph_is_text (k : Nat) (x0 : D) (S : Store) : Ph (k + 1) i_is_text [x0] S = runF (GG k) true d_is_text_b 1 [x0] S := by rw [GG_spec, Ph_spec]; rfl
abbrev i_is_change : Nat := 3
theorem ph_is_change (k : Nat) (x0 x1 : D) (S : Store) : Ph (k + 1) i_is_change [x0, x1] S = runF (GG k) true d_is_change_b 2 [x0, x1] S := by rw [GG_spec, Ph_spec]; rfl
abbrev i_are_edits : Nat := 4
theorem ph_are_edits (k : Nat) (x0 x1 : D) (S : Store) : Ph (k + 1) i_are_edits [x0, x1] S = runF (GG k) true d_are_edits_b 7 [x0, x1] S := by rw [GG_spec, Ph_spec]; rfl
abbrev i_check_edits : Nat := 5
theorem ph_check_edits (k : Nat) (x0 x1 : D) (S : Store) : Ph (k + 1) i_check_edits [x0, x1] S = runF (GG k) true d_check_edits_b 2 [x0, x1] S := by rw [GG_spec, Ph_spec]; rfl
abbrev i_in_turn : Nat := 6
theorem ph_in_turn (k : Nat) (x0 x1 : D) (S : Store) : Ph (k + 1) i_in_turn [x0, x1] S = runF (GG k) true d_in_turn_b 7 [x0, x1] S := by rw [GG_spec, Ph_spec]; rfl
abbrev i_is_mark : Nat := 7
theorem ph_is_mark (k : Nat) (x0 x1 : D) (S : Store) : Ph (k + 1) i_is_mark [x0, x1] S = runF (GG k) true d_is_mark_b 2 [x0, x1] S := by rw [GG_spec, Ph_spec]; rfl
abbrev i_moved : Nat := 8
theorem ph_moved (k : Nat) (x0 x1 : D) (S : Store) : Ph (k + 1) i_moved [x0, x1] S = runF (GG k) true d_moved_b 7 [x0, x1] S := by rw [GG_spec, Ph_spec]; rfl
abbrev i_moved_through : Nat := 9
theorem ph_moved_through (k : Nat) (x0 x1 : D) (S : Store) : Ph (k + 1) i_moved_through [x0, x1] S = runF (GG k) true d_moved_through_b 3 [x0, x1] S := by rw [GG_spec, Ph_spec]; rfl
abbrev i_moved_at_once : Nat := 10
theorem ph_moved_at_once (k : Nat) (x0 x1 x2 : D) (S : Store) : Ph (k + 1) i_moved_at_once [x0, x1, x2] S = runF (GG k) true d_moved_at_once_b 3 [x0, x1, x2] S := by rw [GG_spec, Ph_spec]; rfl
abbrev i_hold_of : Nat := 11
theorem ph_hold_of (k : Nat) (x0 x1 : D) (S : Store) : Ph (k + 1) i_hold_of [x0, x1] S = runF (GG k) true d_hold_of_b 9 [x0, x1] S := by rw [GG_spec, Ph_spec]; rfl
abbrev i_law_draws : Nat := 12
theorem ph_law_draws (k : Nat) (x0 : D) (S : Store) : Ph (k + 1) i_law_draws [x0] S = runF (GG k) false d_law_draws_b 7 [x0] S := by rw [GG_spec, Ph_spec]; rfl
abbrev i_law_take : Nat := 13
theorem ph_law_take (k : Nat) (x0 x1 : D) (S : Store) : Ph (k + 1) i_law_take [x0, x1] S = runF (GG k) true d_law_take_b 2 [x0, x1] S := by rw [GG_spec, Ph_spec]; rfl
abbrev i_law_alike : Nat := 14
theorem ph_law_alike (k : Nat) (x0 x1 : D) (S : Store) : Ph (k + 1) i_law_alike [x0, x1] S = runF (GG k) true d_law_alike_b 3 [x0, x1] S := by rw [GG_spec, Ph_spec]; rfl
abbrev i_law_text : Nat := 15
theorem ph_law_text (k : Nat) (x0 x1 : D) (S : Store) : Ph (k + 1) i_law_text [x0, x1] S = runF (GG k) true d_law_text_b 4 [x0, x1] S := by rw [GG_spec, Ph_spec]; rfl
abbrev i_law_edit : Nat := 16
theorem ph_law_edit (k : Nat) (x0 x1 x2 : D) (S : Store) : Ph (k + 1) i_law_edit [x0, x1, x2] S = runF (GG k) true d_law_edit_b 5 [x0, x1, x2] S := by rw [GG_spec, Ph_spec]; rfl
abbrev i_law_signs : Nat := 17
theorem ph_law_signs (k : Nat) (x0 x1 x2 : D) (S : Store) : Ph (k + 1) i_law_signs [x0, x1, x2] S = runF (GG k) true d_law_signs_b 4 [x0, x1, x2] S := by rw [GG_spec, Ph_spec]; rfl
abbrev i_law_due : Nat := 18
theorem ph_law_due (k : Nat) (x0 x1 x2 x3 : D) (S : Store) : Ph (k + 1) i_law_due [x0, x1, x2, x3] S = runF (GG k) true d_law_due_b 6 [x0, x1, x2, x3] S := by rw [GG_spec, Ph_spec]; rfl
abbrev i_law_row : Nat := 19
theorem ph_law_row (k : Nat) (x0 x1 : D) (S : Store) : Ph (k + 1) i_law_row [x0, x1] S = runF (GG k) true d_law_row_b 5 [x0, x1] S := by rw [GG_spec, Ph_spec]; rfl
abbrev i_law_told : Nat := 20
theorem ph_law_told (k : Nat) (x0 x1 x2 x3 : D) (S : Store) : Ph (k + 1) i_law_told [x0, x1, x2, x3] S = runF (GG k) true d_law_told_b 5 [x0, x1, x2, x3] S := by rw [GG_spec, Ph_spec]; rfl
abbrev i_law_held : Nat := 21
theorem ph_law_held (k : Nat) (x0 x1 : D) (S : Store) : Ph (k + 1) i_law_held [x0, x1] S = runF (GG k) true d_law_held_b 6 [x0, x1] S := by rw [GG_spec, Ph_spec]; rfl
abbrev i_law : Nat := 22
theorem ph_law (k : Nat) (x0 : D) (S : Store) : Ph (k + 1) i_law [x0] S = runF (GG k) true d_law_b 27 [x0] S := by rw [GG_spec, Ph_spec]; rfl
end Law

set_option Elab.async false
set_option linter.all false
set_option maxRecDepth 100000
set_option maxHeartbeats 0
namespace Law
open PySem PySem.Spec PyProof.Rows L2 PD
def numB (v : D) (lo hi : Int) : Bool := match v with
  | .int i => decide (lo ≤ i) && decide (i ≤ hi)
  | _ => false
def signC (c : Nat) : Bool := decide (c = 10) || (decide (32 ≤ c) && decide (c ≤ 126))
def signsB (v : D) : Bool := match v with
  | .str s => s.all signC
  | _ => false
def textB (v : D) : Bool := match v with
  | .str s => s.all signC && decide (s.length ≤ 2000)
  | _ => false
def changeB (t : List Nat) (v : D) : Bool := match v with
  | .tup [p, g, c] => textB c && (match p with
    | .int p => numB (.int p) 0 t.length && numB g 0 (t.length - p)
    | _ => false)
  | _ => false
def editB (t : List Nat) (v : D) : Bool := changeB t v && (match v with
  | .tup [_, .int g, .str c] => decide ((t.length : Int) - g + c.length ≤ 2000)
  | _ => false)
theorem is_number_ok (k : Nat) {v : D} (hv : v.plain = true) (lo hi : Int) (S : Store) : Ph (k + 1) i_is_number [v, .int lo, .int hi] S = .ok (.bl (numB v lo hi)) S := by
  rw [ph_is_number]
  cases v with
  | int i => by_cases h1 : lo ≤ i <;> simp [d_is_number_b, is_number_a_s0, is_number_a0, numB, h1]
  | dic _ _ => cases hv
  | st _ => cases hv
  | obj _ => cases hv
  | dob _ => cases hv
  | exn _ => cases hv
  | _ => simp [d_is_number_b, is_number_a_s0, is_number_a0, numB]
theorem is_signs_ok (k : Nat) {v : D} (hv : v.plain = true) (S : Store) : Ph (k + 1) i_is_signs [v] S = .ok (.bl (signsB v)) S := by
  rw [ph_is_signs]
  cases v with
  | str s =>
    have key : ∀ el, is_signs_a_s0 = .ret (.and (.isin (.var 0) "str") (.one (.allG false el (.nm 1) (.seq (.var 0)) .nil))) → allL false (turnB (GG k) el (.nm 1) .nil [some (.str s), none]) (s.map fun c => D.str [c]) S = .ok (s.all signC) S := fun el hel => by
      rw [allL_pure (g := fun d => match d with | .str [c] => signC c | _ => false)]
      · simp [List.all_map, Function.comp_def]
      · intro x hx
        obtain ⟨c, hc, rfl⟩ := List.mem_map.mp hx
        have e : is_signs_a_s0 = _ := hel
        simp only [is_signs_a_s0, St.ret.injEq, Ex.and.injEq, Ex.one.injEq, Ex.allG.injEq] at e
        obtain ⟨_, _, rfl, _⟩ := e
        by_cases h0 : c = 10
        · subst h0; simp [turnB, signC]
        · by_cases h1 : 32 ≤ c <;> simp [turnB, signC, h0, c_le_str, le_one, h1]
    simp [d_is_signs_b, is_signs_a0, is_signs_a_s0, ev_allG, key _ rfl, signsB]
  | dic _ _ => cases hv
  | st _ => cases hv
  | obj _ => cases hv
  | dob _ => cases hv
  | exn _ => cases hv
  | _ => simp [d_is_signs_b, is_signs_a_s0, is_signs_a0, signsB]
theorem is_text_ok (k : Nat) {v : D} (hv : v.plain = true) (S : Store) : Ph (k + 2) i_is_text [v] S = .ok (.bl (textB v)) S := by
  rw [ph_is_text]
  have e1 := is_signs_ok k hv S
  cases v with
  | str s =>
    cases h : s.all signC with
    | false => simp [d_is_text_b, is_text_a_s0, is_text_a0, e1, signsB, textB, h]
    | true => 
      have e : decide ((s.length : Int) ≤ 2000) = decide (s.length ≤ 2000) := by congr 1; apply propext; omega
      simp [d_is_text_b, is_text_a_s0, is_text_a0, e1, signsB, textB, h, e]
  | dic _ _ => cases hv
  | st _ => cases hv
  | obj _ => cases hv
  | dob _ => cases hv
  | exn _ => cases hv
  | _ => simp [d_is_text_b, is_text_a_s0, is_text_a0, e1, signsB, textB]
theorem is_change_ok (k : Nat) (t : List Nat) {v : D} (hv : v.plain = true) (S : Store) : Ph (k + 3) i_is_change [.str t, v] S = .ok (.bl (changeB t v)) S := by
  rw [ph_is_change]
  cases v with
  | tup ds =>
    match ds with
    | [] => simp [d_is_change_b, is_change_b_s0, is_change_b0, is_change_a_s0, is_change_a_s1, is_change_a1, is_change_a0, changeB]
    | [_] => simp [d_is_change_b, is_change_b_s0, is_change_b0, is_change_a_s0, is_change_a_s1, is_change_a1, is_change_a0, changeB]
    | [_, _] => simp [d_is_change_b, is_change_b_s0, is_change_b0, is_change_a_s0, is_change_a_s1, is_change_a1, is_change_a0, changeB]
    | _ :: _ :: _ :: _ :: r =>
      have : ¬ ((r.length : Int) + 1 + 1 + 1 + 1 = 3) := by omega
      simp [d_is_change_b, is_change_b_s0, is_change_b0, is_change_a_s0, is_change_a_s1, is_change_a1, is_change_a0, changeB, this]
    | [p, g, c] =>
      simp only [plain_tup, plains_cons, plains_nil, Bool.and_true, Bool.and_eq_true] at hv
      obtain ⟨h1, h2, h3⟩ := hv
      have e1 := is_text_ok k h3 S
      have e2 := is_number_ok (k + 1) h1 0 t.length S
      cases hc : textB c with
      | false => simp [d_is_change_b, is_change_b_s0, is_change_b0, is_change_a_s0, is_change_a_s1, is_change_a1, is_change_a0, changeB, e1, hc]
      | true =>
        cases p with
        | int p =>
          have e3 := is_number_ok (k + 1) h2 0 (t.length - p) S
          cases hn : numB (.int p) 0 t.length with
          | false => simp [d_is_change_b, is_change_b_s0, is_change_b0, is_change_a_s0, is_change_a_s1, is_change_a1, is_change_a0, changeB, e1, hc, e2, hn]
          | true => simp [d_is_change_b, is_change_b_s0, is_change_b0, is_change_a_s0, is_change_a_s1, is_change_a1, is_change_a0, changeB, e1, hc, e2, hn, e3]
        | dic _ _ => cases h1
        | st _ => cases h1
        | obj _ => cases h1
        | dob _ => cases h1
        | exn _ => cases h1
        | _ => simp [d_is_change_b, is_change_b_s0, is_change_b0, is_change_a_s0, is_change_a_s1, is_change_a1, is_change_a0, changeB, e1, hc, e2, numB]
  | dic _ _ => cases hv
  | st _ => cases hv
  | obj _ => cases hv
  | dob _ => cases hv
  | exn _ => cases hv
  | _ => simp [d_is_change_b, is_change_b_s0, is_change_b0, is_change_a_s0, is_change_a_s1, is_change_a1, is_change_a0, changeB]
abbrev E (p g : Nat) (c : List Nat) : D := .tup [.int (p : Int), .int (g : Int), .str c]
theorem changeB_eq {t : List Nat} {v : D} (h : changeB t v = true) : ∃ p g c, v = E p g c ∧ p + g ≤ t.length ∧ c.all signC = true ∧ c.length ≤ 2000 := by
  unfold changeB at h
  split at h
  · rename_i p g c
    simp only [Bool.and_eq_true] at h
    obtain ⟨h1, h2⟩ := h
    unfold textB at h1
    split at h1
    · rename_i s
      simp only [Bool.and_eq_true, decide_eq_true_eq] at h1
      split at h2
      · rename_i p
        simp only [numB, Bool.and_eq_true, decide_eq_true_eq] at h2
        obtain ⟨⟨h3, h4⟩, h5⟩ := h2
        split at h5
        · rename_i i
          simp only [Bool.and_eq_true, decide_eq_true_eq] at h5
          obtain ⟨n, rfl⟩ := Int.eq_ofNat_of_zero_le h3
          obtain ⟨m, rfl⟩ := Int.eq_ofNat_of_zero_le h5.1
          exact ⟨n, m, s, rfl, by omega, h1.1, h1.2⟩
        · cases h5
      · cases h2
    · cases h1
  · cases h
theorem changeB_E {t c : List Nat} {p g : Nat} (h : p + g ≤ t.length) (hc : c.all signC = true) (hl : c.length ≤ 2000) : changeB t (E p g c) = true := by
  simp only [changeB, textB, numB, hc, Bool.true_and, Bool.and_eq_true, decide_eq_true_eq]
  omega
theorem editB_E {t c : List Nat} {p g : Nat} (h : p + g ≤ t.length) (hc : c.all signC = true) (hl : c.length ≤ 2000) (hs : t.length - g + c.length ≤ 2000) : editB t (E p g c) = true := by
  unfold editB
  rw [changeB_E h hc hl, Bool.true_and]
  simp only [decide_eq_true_eq]
  omega
theorem editB_eq {t : List Nat} {v : D} (h : editB t v = true) : ∃ p g c, v = E p g c ∧ p + g ≤ t.length ∧ c.all signC = true ∧ c.length ≤ 2000 ∧ t.length - g + c.length ≤ 2000 := by
  unfold editB at h
  rw [Bool.and_eq_true] at h
  obtain ⟨p, g, c, rfl, h1, h2, h3⟩ := changeB_eq h.1
  have h4 := h.2
  simp only [decide_eq_true_eq] at h4
  exact ⟨p, g, c, rfl, h1, h2, h3, by omega⟩
end Law

set_option Elab.async false
set_option linter.all false
set_option maxRecDepth 100000
set_option maxHeartbeats 0
namespace Law
open PySem PySem.Spec PyProof.Rows L2 PD
def edOf (v : D) : Ty.Ed := match v with
  | .tup [.int p, .int g, .str c] => ⟨p.toNat, g.toNat, c⟩
  | _ => ⟨0, 0, []⟩
abbrev EV (b : Ty.Ed) : D := E b.p b.g b.c
@[simp] theorem edOf_E (p g : Nat) (c : List Nat) : edOf (E p g c) = ⟨p, g, c⟩ := by simp [edOf]
def sepB : List Ty.Ed → Bool
  | a :: b :: r => decide (a.p + a.g < b.p) && sepB (b :: r)
  | _ => true
def areB (t : List Nat) (v : D) : Bool := match v with
  | .tup ds => decide (ds.length ≤ 200) && ds.all (changeB t) && sepB (ds.map edOf) && decide ((t.length : Int) + Ty.sum (ds.map edOf) ≤ 2000)
  | _ => false
theorem intsOf_map (ns : List Int) : intsOf (ns.map D.int) = some ns := by
  induction ns with
  | nil => rfl
  | cons n ns ih => simp only [List.map_cons, intsOf, ih, Option.map_some]
theorem sum_lst (ns : List Int) (S : Store) : bifF .sum [.lst (ns.map D.int)] S = some (.int ns.sum) := by
  show ((some (ns.map D.int)).bind intsOf).map _ = _
  rw [Option.bind_some, intsOf_map]; rfl
def nth (es : List Ty.Ed) (j : Nat) : Ty.Ed := es.getD j ⟨0, 0, []⟩
def gS (es : List Ty.Ed) (d : D) : Bool := match d with
  | .int i => decide ((nth es (i.toNat - 1)).p + (nth es (i.toNat - 1)).g < (nth es i.toNat).p)
  | _ => false
theorem gS_int (es : List Ty.Ed) (j : Nat) : gS es (.int ((j + 1 : Nat) : Int)) = decide ((nth es j).p + (nth es j).g < (nth es (j + 1)).p) := by
  have z4 : ((j + 1 : Nat) : Int).toNat = j + 1 := by omega
  show decide ((nth es (((j + 1 : Nat) : Int).toNat - 1)).p + (nth es (((j + 1 : Nat) : Int).toNat - 1)).g < (nth es ((j + 1 : Nat) : Int).toNat).p) = _
  rw [z4]; rfl
theorem sepB_range : ∀ (es : List Ty.Ed), ((List.range (es.length - 1)).all fun j => decide ((nth es j).p + (nth es j).g < (nth es (j + 1)).p)) = sepB es
  | [] => rfl
  | [_] => rfl
  | a :: b :: r => by
    have ih := sepB_range (b :: r)
    have h1 : (a :: b :: r).length - 1 = ((b :: r).length - 1) + 1 := by simp
    rw [h1, List.range_succ_eq_map, List.all_cons, List.all_map]
    unfold sepB
    rw [← ih]
    rfl
theorem changes_eq {t : List Nat} : ∀ {ds : List D}, ds.all (changeB t) = true → ds = (ds.map edOf).map EV ∧ ∀ e ∈ ds.map edOf, e.p + e.g ≤ t.length ∧ e.c.all signC = true ∧ e.c.length ≤ 2000
  | [], _ => ⟨rfl, fun _ h => nomatch h⟩
  | d :: ds, h => by
    rw [List.all_cons, Bool.and_eq_true] at h
    obtain ⟨p, g, c, rfl, h1, h2, h3⟩ := changeB_eq h.1
    obtain ⟨q1, q2⟩ := changes_eq h.2
    refine ⟨?_, fun e he => ?_⟩
    · rw [List.map_cons, List.map_cons, edOf_E, ← q1]
    · rw [List.map_cons, edOf_E] at he
      rcases List.mem_cons.mp he with rfl | he
      · exact ⟨h1, h2, h3⟩
      · exact q2 e he
theorem rngL_1 (n : Nat) : rngL 1 (n : Int) = (List.range (n - 1)).map fun (j : Nat) => D.int (1 + (j : Int)) := by
  unfold rngL
  have : ((n : Int) - 1).toNat = n - 1 := by omega
  rw [this]
theorem are_edits_ok (k : Nat) (t : List Nat) {v : D} (hv : v.plain = true) (S : Store) : Ph (k + 4) i_are_edits [.str t, v] S = .ok (.bl (areB t v)) S := by
  rw [ph_are_edits]
  cases v with
  | tup ds =>
    have pl : D.plains ds = true := hv
    by_cases h1 : ds.length ≤ 200
    · have h1' : ¬ ((200 : Int) < (ds.length : Int)) := by omega
      have q1 := all_pure (G := GG (k + 3)) (el := .call i_is_change (.cons (.var 0) (.cons (.var 2) .nil))) (t := .nm 2) (it := .seq (.var 1)) (cs := .nil) (δ := [some (.str t), some (.tup ds), none, none, none, none, none]) (S := S) (ds := ds) (isAny := false) (changeB t) (by simp) (fun x hx => by
        have e := is_change_ok k t (plains_mem pl hx) S
        rw [turn_el]
        simp [e])
      cases h2 : ds.all (changeB t) with
      | false =>
        have s0 : evS (GG (k + 3)) are_edits_a_s0 [some (.str t), some (.tup ds), none, none, none, none, none] S = .ok (.rt (.bl false)) S := by
          have q2 : tst (GG (k + 3)) (.allG false (.call i_is_change (.cons (.var 0) (.cons (.var 2) .nil))) (.nm 2) (.seq (.var 1)) .nil) [some (.str t), some (.tup ds), none, none, none, none, none] S = .ok false S := by
            rw [tst_all, q1]; simp [h2]
          unfold are_edits_a_s0
          simp [h1', q2, are_edits_b0, are_edits_b_s0]
        refine (run_rt (S' := S) (d := .bl false) ?_).trans (by simp [areB, h2])
        exact step_rt (ss := are_edits_a1) s0
      | true =>
        have s0 : evS (GG (k + 3)) are_edits_a_s0 [some (.str t), some (.tup ds), none, none, none, none, none] S = .ok (.nx [some (.str t), some (.tup ds), none, none, none, none, none]) S := by
          have q2 : tst (GG (k + 3)) (.allG false (.call i_is_change (.cons (.var 0) (.cons (.var 2) .nil))) (.nm 2) (.seq (.var 1)) .nil) [some (.str t), some (.tup ds), none, none, none, none, none] S = .ok true S := by
            rw [tst_all, q1]; simp [h2]
          unfold are_edits_a_s0
          simp [h1', q2]
        obtain ⟨eq, hm⟩ := changes_eq h2
        have hlen : (ds.map edOf).length = ds.length := by simp
        generalize hes : ds.map edOf = es at *
        have at_ : ∀ j, j < es.length → ds[j]? = some (EV (nth es j)) := fun j hj => by
          rw [eq, List.getElem?_map, List.getElem?_eq_getElem hj]
          unfold nth
          rw [List.getD_eq_getElem?_getD, List.getElem?_eq_getElem hj]; rfl
        have q3 := all_pure (G := GG (k + 3)) (el := .cmp .lt (.bin .add (.idx (.idx (.var 1) (.bin .sub (.var 3) (.cst (.int 1)))) (.cst (.int 0))) (.idx (.idx (.var 1) (.bin .sub (.var 3) (.cst (.int 1)))) (.cst (.int 1)))) (.idx (.idx (.var 1) (.var 3)) (.cst (.int 0)))) (t := .nm 3) (it := .rng2 (.cst (.int 1)) (.bif .len (.cons (.var 1) .nil))) (cs := .nil)
          (δ := [some (.str t), some (.tup ds), none, none, none, none, none]) (S := S) (ds := (List.range (ds.length - 1)).map fun (j : Nat) => D.int (1 + (j : Int))) (isAny := false)
          (gS es) (by
            rw [it_rng2 (a := 1) (b := (ds.length : Int)) (S1 := S) (S2 := S) (by simp) (by simp) (by omega), rngL_1]) (fun x hx => by
            obtain ⟨j, hj, rfl⟩ := List.mem_map.mp hx
            have hj := List.mem_range.mp hj
            have a1 := at_ j (by omega)
            have a2 := at_ (j + 1) (by omega)
            have z1 : (1 : Int) + (j : Int) - 1 = (j : Int) := by omega
            have z2 : (1 : Int) + (j : Int) = ((j + 1 : Nat) : Int) := by omega
            rw [turn_el]
            rw [z2]
            have z3 : ((j + 1 : Nat) : Int) - 1 = (j : Int) := by omega
            have i1 : L2.atI ds (j : Int) = some (EV (nth es j)) := by rw [ix_nat, a1]
            have i2 : L2.atI ds ((j + 1 : Nat) : Int) = some (EV (nth es (j + 1))) := by rw [ix_nat, a2]
            rw [gS_int]
            generalize ((j + 1 : Nat) : Int) = J at *
            generalize nth es (j + 1) = B at *
            generalize nth es j = A at *
            have z6 : decide ((A.p : Int) + (A.g : Int) < (B.p : Int)) = decide (A.p + A.g < B.p) := by congr 1; apply propext; omega
            simp [z3, i1, i2, E, z6])
        have q4 : ((List.range (ds.length - 1)).map fun (j : Nat) => D.int (1 + (j : Int))).all (gS es) = sepB es := by
          rw [← sepB_range es, List.all_map, hlen]
          refine List.all_congr rfl fun j => ?_
          have z4 : (1 : Int) + (j : Int) = ((j + 1 : Nat) : Int) := by omega
          rw [Function.comp, z4, gS_int]
        cases h3 : sepB es with
        | false =>
          have s1 : evS (GG (k + 3)) are_edits_a_s1 [some (.str t), some (.tup ds), none, none, none, none, none] S = .ok (.rt (.bl false)) S := by
            unfold are_edits_a_s1
            rw [evS_iff, tst_not, tst_all, q3]
            simp [q4, h3, are_edits_d0, are_edits_d_s0]
          refine (run_rt (S' := S) (d := .bl false) ?_).trans (by simp [areB, hes, h3])
          exact (step (ss := are_edits_a1) s0).trans (step_rt (ss := are_edits_a2) s1)
        | true =>
          have s1 : evS (GG (k + 3)) are_edits_a_s1 [some (.str t), some (.tup ds), none, none, none, none, none] S = .ok (.nx [some (.str t), some (.tup ds), none, none, none, none, none]) S := by
            unfold are_edits_a_s1
            rw [evS_iff, tst_not, tst_all, q3]
            simp [q4, h3]
          have q5 := comp_pure (G := GG (k + 3)) (el := .bin .sub (.bif .len (.cons (.var 6) .nil)) (.var 5)) (t := .tp [4, 5, 6]) (it := .seq (.var 1)) (cs := .nil) (δ := [some (.str t), some (.tup ds), none, none, none, none, none]) (S := S) (ds := ds) (fun d => some (.int (((edOf d).c.length : Int) - (edOf d).g))) (by simp) (fun x hx => by
            rw [eq] at hx
            obtain ⟨e, he, rfl⟩ := List.mem_map.mp hx
            simp [turnB, E, edOf]) (by omega)
          have q6 : ds.filterMap (fun d => some (D.int (((edOf d).c.length : Int) - (edOf d).g))) = (es.map fun e => (e.c.length : Int) - e.g).map D.int := by
            rw [List.filterMap_eq_map', ← hes, List.map_map, List.map_map]; rfl
          rw [q6] at q5
          have q7 := sum_lst (es.map fun e => (e.c.length : Int) - e.g) S
          have q8 : ((es.map fun e => (e.c.length : Int) - e.g)).sum = Ty.sum es := rfl
          rw [q8] at q7
          generalize (es.map fun e => (e.c.length : Int) - e.g).map D.int = Ls at q5 q7
          have s2 : evS (GG (k + 3)) are_edits_a_s2 [some (.str t), some (.tup ds), none, none, none, none, none] S = .ok (.rt (.bl (decide ((t.length : Int) + Ty.sum es ≤ 2000)))) S := by
            unfold are_edits_a_s2
            simp [q5, q7]
          refine (run_rt (S' := S) (d := .bl (decide ((t.length : Int) + Ty.sum es ≤ 2000))) ?_).trans (by simp [areB, h1, h2, hes, h3])
          exact (step (ss := are_edits_a1) s0).trans ((step (ss := are_edits_a2) s1).trans (step_rt (ss := .nil) s2))
    · have h1' : (200 : Int) < (ds.length : Int) := by omega
      simp [d_are_edits_b, are_edits_b_s0, are_edits_b0, are_edits_d_s0, are_edits_d0, are_edits_a_s0, are_edits_a_s1, are_edits_a_s2, are_edits_a2, are_edits_a1, are_edits_a0, areB, h1, h1']
  | dic _ _ => cases hv
  | st _ => cases hv
  | obj _ => cases hv
  | dob _ => cases hv
  | exn _ => cases hv
  | _ => simp [d_are_edits_b, are_edits_b_s0, are_edits_b0, are_edits_d_s0, are_edits_d0, are_edits_a_s0, are_edits_a_s1, are_edits_a_s2, are_edits_a2, are_edits_a1, are_edits_a0, areB]
theorem sepB_sp {n : Nat} : ∀ {es : List Ty.Ed}, (∀ e ∈ es, e.p + e.g ≤ n) → sepB es = true → Ty.sp n 0 es := by
  have key : ∀ (es : List Ty.Ed) (lo : Nat), (∀ e ∈ es, e.p + e.g ≤ n) → sepB es = true → (∀ e, es.head? = some e → lo ≤ e.p) → Ty.sp n lo es := by
    intro es
    induction es with
    | nil => intro _ _ _ _; trivial
    | cons a r ih =>
      intro lo h1 h2 h3
      refine ⟨h3 a rfl, h1 a List.mem_cons_self, ih _ (fun e he => h1 e (List.mem_cons_of_mem _ he)) ?_ fun e he => ?_⟩
      · cases r with
        | nil => rfl
        | cons b r => simp only [sepB, Bool.and_eq_true] at h2; exact h2.2
      · cases r with
        | nil => cases he
        | cons b r =>
          cases he
          simp only [sepB, Bool.and_eq_true, decide_eq_true_eq] at h2
          omega
  exact fun {es} h1 h2 => key es 0 h1 h2 fun _ _ => Nat.zero_le _
theorem sp_sepB {n : Nat} : ∀ {es : List Ty.Ed} {lo : Nat}, Ty.sp n lo es → sepB es = true
  | [], _, _ => rfl
  | [_], _, _ => rfl
  | a :: b :: r, lo, ⟨h1, h2, h3⟩ => by
    have h4 := h3.1
    simp only [sepB, sp_sepB h3, Bool.and_true, decide_eq_true_eq]
    omega
/-- what edits at once are -/
structure Are (t : List Nat) (es : List Ty.Ed) : Prop where
  len : es.length ≤ 200
  sp : Ty.sp t.length 0 es
  sg : ∀ e ∈ es, e.c.all signC = true ∧ e.c.length ≤ 2000
  sum : (t.length : Int) + Ty.sum es ≤ 2000
theorem areB_eq {t : List Nat} {v : D} (h : areB t v = true) : ∃ es, v = .tup (es.map EV) ∧ Are t es := by
  unfold areB at h
  split at h
  · rename_i ds
    simp only [Bool.and_eq_true, decide_eq_true_eq] at h
    obtain ⟨⟨⟨h1, h2⟩, h3⟩, h4⟩ := h
    obtain ⟨e, hm⟩ := changes_eq h2
    refine ⟨ds.map edOf, by rw [← e], by simpa using h1, sepB_sp (fun d hd => (hm d hd).1) h3, fun d hd => (hm d hd).2, h4⟩
  · cases h
theorem areB_E {t : List Nat} {es : List Ty.Ed} (h : Are t es) : areB t (.tup (es.map EV)) = true := by
  have e1 : (es.map EV).map edOf = es := by
    rw [List.map_map]
    have : (edOf ∘ EV) = id := by funext e; simp
    rw [this, List.map_id]
  have e2 : (es.map EV).all (changeB t) = true := by
    rw [List.all_eq_true]
    intro x hx
    obtain ⟨e, he, rfl⟩ := List.mem_map.mp hx
    exact changeB_E (Ty.sp_mem h.sp he).2 (h.sg e he).1 (h.sg e he).2
  unfold areB
  simp only [e1, e2, sp_sepB h.sp, Bool.and_true, Bool.and_eq_true, decide_eq_true_eq, List.length_map]
  exact ⟨h.len, h.sum⟩
theorem evs_plain (es : List Ty.Ed) : D.plains (es.map EV) = true := by
  rw [plains_iff]
  intro x hx
  obtain ⟨e, _, rfl⟩ := List.mem_map.mp hx
  rfl
theorem check_edits_ok (k : Nat) {t : List Nat} {es : List Ty.Ed} (h : Are t es) (S : Store) : Ph (k + 5) i_check_edits [.str t, .tup (es.map EV)] S = .ok .non S := by
  rw [ph_check_edits]
  have e := are_edits_ok k t (v := .tup (es.map EV)) (evs_plain es) S
  rw [areB_E h] at e
  simp [d_check_edits_b, check_edits_b_s0, check_edits_b0, check_edits_a_s0, check_edits_a0, e]
theorem check_edits_bad (k : Nat) {t : List Nat} {v : D} (hv : v.plain = true) (h : areB t v = false) (S : Store) : Ph (k + 5) i_check_edits [.str t, v] S = .exc "Malformed" S := by
  rw [ph_check_edits]
  have e := are_edits_ok k t hv S
  rw [h] at e
  simp [d_check_edits_b, check_edits_b_s0, check_edits_b0, check_edits_a_s0, check_edits_a0, e]
end Law

set_option Elab.async false
set_option linter.all false
set_option maxRecDepth 100000
set_option maxHeartbeats 0
namespace Law
open PySem PySem.Spec PyProof.Rows L2 PD
theorem EV_pure (e : Ty.Ed) : (EV e).pure = true := rfl
theorem turn_loop (k : Nat) (t : D) (w : D) (n : Nat) (S : Store) : ∀ (r : List Ty.Ed) (at_ a : Nat) (done : List Ty.Ed) (o4 o5 o6 : Option D), Ty.sp n at_ r → done.length + r.length ≤ 1000000 →
    ∃ m' o4' o5' o6', forL (turnS (GG k) (.tp [4, 5, 6]) in_turn_b0) (r.map EV) [some t, some w, some (.obj S.length), some (.int ((a : Int) - at_)), o4, o5, o6] (S ++ [.lst (done.map EV)]) = .ok (.nx [some t, some w, some (.obj S.length), m', o4', o5', o6']) (S ++ [.lst ((done ++ Ty.turns at_ a r).map EV)])
  | [], at_, a, done, o4, o5, o6, _, _ => ⟨some (.int ((a : Int) - at_)), o4, o5, o6, by simp [forL, Ty.turns]⟩
  | e :: r, at_, a, done, o4, o5, o6, ⟨h1, h2, h3⟩, hz => by
    rw [List.length_cons] at hz
    obtain ⟨m', o4', o5', o6', ih⟩ := turn_loop k t w n S r (e.p + e.g) (a + (e.p - at_) + e.c.length) (done ++ ([⟨a + (e.p - at_), e.g, e.c⟩] : List Ty.Ed)) (some (.int (e.p : Int))) (some (.int (e.g : Int))) (some (.str e.c)) (Ty.sp_mono (by omega) h3) (by simp; omega)
    refine ⟨m', o4', o5', o6', ?_⟩
    have z1 : (e.p : Int) + ((a : Int) - at_) = ((a + (e.p - at_) : Nat) : Int) := by omega
    have z2 : (a : Int) - at_ + ((e.c.length : Int) - e.g) = ((a + (e.p - at_) + e.c.length : Nat) : Int) - ((e.p + e.g : Nat) : Int) := by omega
    have ap := app_top (S := S) (ds := done.map EV) (v := .tup [.int ((a + (e.p - at_) : Nat) : Int), .int (e.g : Int), .str e.c]) rfl (by simp; omega)
    have b : turnS (GG k) (.tp [4, 5, 6]) in_turn_b0 (EV e) [some t, some w, some (.obj S.length), some (.int ((a : Int) - at_)), o4, o5, o6] (S ++ [.lst (done.map EV)]) = .ok (.nx [some t, some w, some (.obj S.length), some (.int (((a + (e.p - at_) + e.c.length : Nat) : Int) - ((e.p + e.g : Nat) : Int))), some (.int (e.p : Int)), some (.int (e.g : Int)), some (.str e.c)]) (S ++ [.lst ((done ++ ([⟨a + (e.p - at_), e.g, e.c⟩] : List Ty.Ed)).map EV)]) := by
      rw [turnS_tp rfl]
      have s0 : evS (GG k) in_turn_b_s0 [some t, some w, some (.obj S.length), some (.int ((a : Int) - at_)), some (.int (e.p : Int)), some (.int (e.g : Int)), some (.str e.c)] (S ++ [.lst (done.map EV)]) = .ok (.nx [some t, some w, some (.obj S.length), some (.int ((a : Int) - at_)), some (.int (e.p : Int)), some (.int (e.g : Int)), some (.str e.c)]) (S ++ [.lst (done.map EV ++ [.tup [.int ((a + (e.p - at_) : Nat) : Int), .int (e.g : Int), .str e.c]])]) := by
        unfold in_turn_b_s0
        simp only [evS_exp, ev_app, ev_var, getD_succ, getD_zero, lift_some, Out.bind_ok, asO_obj, liftO_some, ev_tup, evs_cons, evs_nil, ev_bin, b_add_int, z1]
        rw [tup_ok (by simp), Out.bind_ok, ap, exS_ok]
      have s1 : evS (GG k) in_turn_b_s1 [some t, some w, some (.obj S.length), some (.int ((a : Int) - at_)), some (.int (e.p : Int)), some (.int (e.g : Int)), some (.str e.c)] (S ++ [.lst (done.map EV ++ [.tup [.int ((a + (e.p - at_) : Nat) : Int), .int (e.g : Int), .str e.c]])]) = .ok (.nx [some t, some w, some (.obj S.length), some (.int (((a + (e.p - at_) + e.c.length : Nat) : Int) - ((e.p + e.g : Nat) : Int))), some (.int (e.p : Int)), some (.int (e.g : Int)), some (.str e.c)]) (S ++ [.lst (done.map EV ++ [.tup [.int ((a + (e.p - at_) : Nat) : Int), .int (e.g : Int), .str e.c]])]) := by
        rw [← z2]
        simp [in_turn_b_s1]
      have e0 : setAll [4, 5, 6] [D.int (e.p : Int), .int (e.g : Int), .str e.c] [some t, some w, some (.obj S.length), some (.int ((a : Int) - at_)), o4, o5, o6] = [some t, some w, some (.obj S.length), some (.int ((a : Int) - at_)), some (.int (e.p : Int)), some (.int (e.g : Int)), some (.str e.c)] := by simp
      rw [e0, in_turn_b0_e]
      refine ((step (ss := in_turn_b1) s0).trans ((step (ss := .nil) s1).trans evSs_nil)).trans ?_
      rw [List.map_append]; rfl
    rw [List.map_cons]
    unfold forL
    rw [b, turnF_nx, ih]
    rw [List.append_assoc]; rfl
theorem in_turn_ok (k : Nat) {t : List Nat} {es : List Ty.Ed} (h : Are t es) (S : Store) : Ph (k + 6) i_in_turn [.str t, .tup (es.map EV)] S = .ok (.tup ((Ty.turns 0 0 es).map EV)) S := by
  rw [ph_in_turn]
  have e := check_edits_ok k h S
  obtain ⟨m', o4, o5, o6, e3⟩ := turn_loop (k + 5) (.str t) (.tup (es.map EV)) t.length S es 0 0 [] none none none h.sp (by have := h.len; simp; omega)
  have s0 : evS (GG (k + 5)) in_turn_a_s0 [some (.str t), some (.tup (es.map EV)), none, none, none, none, none] S = .ok (.nx [some (.str t), some (.tup (es.map EV)), none, none, none, none, none]) S := by simp [in_turn_a_s0, e]
  have s1 : evS (GG (k + 5)) in_turn_a_s1 [some (.str t), some (.tup (es.map EV)), none, none, none, none, none] S = .ok (.nx [some (.str t), some (.tup (es.map EV)), some (.obj S.length), none, none, none, none]) (S ++ [.lst []]) := by simp [in_turn_a_s1, new_top]
  have s2 : evS (GG (k + 5)) in_turn_a_s2 [some (.str t), some (.tup (es.map EV)), some (.obj S.length), none, none, none, none] (S ++ [.lst []]) = .ok (.nx [some (.str t), some (.tup (es.map EV)), some (.obj S.length), some (.int 0), none, none, none]) (S ++ [.lst []]) := by simp [in_turn_a_s2]
  have s3 : evS (GG (k + 5)) in_turn_a_s3 [some (.str t), some (.tup (es.map EV)), some (.obj S.length), some (.int 0), none, none, none] (S ++ [.lst []]) = .ok (.nx [some (.str t), some (.tup (es.map EV)), some (.obj S.length), m', o4, o5, o6]) (S ++ [.lst ((Ty.turns 0 0 es).map EV)]) := by
    unfold in_turn_a_s3
    rw [evS_forr]
    simp only [evI_seq, ev_var, getD_succ, getD_zero, lift_some, Out.bind_ok, src_tup, liftO_some, exS_ok]
    exact e3
  have s4 : evS (GG (k + 5)) in_turn_a_s4 [some (.str t), some (.tup (es.map EV)), some (.obj S.length), m', o4, o5, o6] (S ++ [.lst ((Ty.turns 0 0 es).map EV)]) = .ok (.rt (.tup ((Ty.turns 0 0 es).map EV))) (S ++ [.lst ((Ty.turns 0 0 es).map EV)]) := by
    simp [in_turn_a_s4, tuple_top]
  refine (run_rt (S' := S ++ [.lst ((Ty.turns 0 0 es).map EV)]) (d := .tup ((Ty.turns 0 0 es).map EV)) ?_).trans (by rw [PD.fin_tup (evs_plain _), List.take_left])
  exact (step (ss := in_turn_a1) s0).trans ((step (ss := in_turn_a2) s1).trans ((step (ss := in_turn_a3) s2).trans ((step (ss := in_turn_a4) s3).trans (step_rt (ss := .nil) s4))))
theorem in_turn_bad (k : Nat) {t : List Nat} {v : D} (hv : v.plain = true) (h : areB t v = false) (S : Store) : Ph (k + 6) i_in_turn [.str t, v] S = .exc "Malformed" S := by
  rw [ph_in_turn]
  have e := check_edits_bad k hv h S
  simp [d_in_turn_b, in_turn_b_s0, in_turn_b_s1, in_turn_b1, in_turn_b0, in_turn_a_s0, in_turn_a_s1, in_turn_a_s2, in_turn_a_s3, in_turn_a_s4, in_turn_a4, in_turn_a3, in_turn_a2, in_turn_a1, in_turn_a0, e]
end Law

set_option Elab.async false
set_option linter.all false
set_option maxRecDepth 100000
set_option maxHeartbeats 0
namespace Law
open PySem PySem.Spec PyProof.Rows L2 PD
theorem rngS_ok {a b : Int} (h : rngOk a b = true) : rngS (.int a) (.int b) = some (.st (rngL a b)) := by
  unfold rngS
  simp only [h, if_true]
theorem atI_zero {x : D} {xs : List D} : L2.atI (x :: xs) 0 = some x := ix0
abbrev Sx (xs : List Int) : Store := [.lst (xs.map .int)]
theorem app_ok {xs : List Int} {v : Int} (h : xs.length ≤ 100000) : appF 0 (.int v) (Sx xs) = .ok .non (Sx (xs ++ [v])) := by
  have : xs.length < 16777216 := by omega
  simp [appF, D.pure, this]
def drInB : Sts := (.cons (.iff (.cmp .gt (.var 3) (.cst (.int 0))) (.cons (.exp (.app (.var 1) (.bin .mod (.bif .int (.cons (.var 3) .nil)) (.cst (.int 997))))) (.cons (.set 3 (.bin .div (.var 3) (.cst (.int 997)))) .nil)) .nil) .nil)
theorem dr_in (G : Dn) (xs : List Int) (h : xs.length ≤ 100000) (s : D) (c f sd k0 : Option D) (x : D) (n : Int) : ∃ ys n' k', turnS G (.nm 4) drInB x [some s, some (.obj 0), c, some (.int n), k0, f, sd] (Sx xs) = .ok (.nx [some s, some (.obj 0), c, some (.int n'), k', f, sd]) (Sx ys) ∧ ys.length ≤ xs.length + 1 := by
  by_cases hn : 0 < n
  · have e := app_ok (v := n % 997) h
    refine ⟨xs ++ [n % 997], n / 997, some x, ?_, by simp⟩
    simp [turnS, drInB, isinF, D.ty, isT, D.tru, D.seq, cmpF, dLt, dLe, dGt, dGe, dEq, dNe, dIs, dIsNot, D.isNon, dIdx, binF, dAdd, dSub, dMul, dMod, dDiv, bifF, dLen, dTuple, dList, dAbs, dInt, D.asI, D.asO, D.rd, D.plain, D.plains, D.depth, D.depths, D.eqv, D.eqvs, negF, hn, e]
  · exact ⟨xs, n, some x, by simp [turnS, drInB, isinF, D.ty, isT, D.tru, D.seq, cmpF, dLt, dLe, dGt, dGe, dEq, dNe, dIs, dIsNot, D.isNon, dIdx, binF, dAdd, dSub, dMul, dMod, dDiv, bifF, dLen, dTuple, dList, dAbs, dInt, D.asI, D.asO, D.rd, D.plain, D.plains, D.depth, D.depths, D.eqv, D.eqvs, negF, hn], by omega⟩
def drOutB : Sts := (.cons (.set 6 (.bin .mod (.bif .int (.cons (.bin .add (.bin .mul (.var 6) (.cst (.int 48271))) (.cst (.int 69621))) .nil)) (.cst (.int 2147483647)))) (.cons (.exp (.app (.var 1) (.bin .div (.var 6) (.cst (.int 5))))) .nil))
theorem dr_out (G : Dn) (xs : List Int) (h : xs.length ≤ 100000) (s : D) (c nb f k0 : Option D) (x : D) (n : Int) : ∃ ys n' k', turnS G (.nm 4) drOutB x [some s, some (.obj 0), c, nb, k0, f, some (.int n)] (Sx xs) = .ok (.nx [some s, some (.obj 0), c, nb, k', f, some (.int n')]) (Sx ys) ∧ ys.length ≤ xs.length + 1 := by
  have hm : mulOk n 48271 = true := by simp [mulOk]
  have e := app_ok (v := ((n * 48271 + 69621) % 2147483647) / 5) h
  refine ⟨xs ++ [((n * 48271 + 69621) % 2147483647) / 5], (n * 48271 + 69621) % 2147483647, some x, ?_, by simp⟩
  simp [turnS, drOutB, isinF, D.ty, isT, D.tru, D.seq, cmpF, dLt, dLe, dGt, dGe, dEq, dNe, dIs, dIsNot, D.isNon, dIdx, binF, dAdd, dSub, dMul, dMod, dDiv, bifF, dLen, dTuple, dList, dAbs, dInt, D.asI, D.asO, D.rd, D.plain, D.plains, D.depth, D.depths, D.eqv, D.eqvs, negF, hm, e]
def drOneB : PD.St := (.iff (.cmp .lt (.var 3) (.bin .pow (.cst (.int 10)) (.cst (.int 18)))) (.cons (.set 5 (.bin .mod (.bif .int (.cons (.bin .add (.bin .mul (.var 3) (.cst (.int 48271))) (.cst (.int 11))) .nil)) (.cst (.int 2147483647)))) (.cons (.exp (.app (.var 1) (.bin .mod (.bif .int (.cons (.bin .add (.bin .mul (.var 5) (.cst (.int 69621))) (.var 3)) .nil)) (.cst (.int 2147483629))))) (.cons (.exp (.app (.var 1) (.bin .mod (.bif .int (.cons (.bin .add (.var 5) (.bin .div (.var 3) (.cst (.int 7)))) .nil)) (.cst (.int 1000003))))) (.cons (.set 3 (.cst (.int 0))) .nil)))) .nil)
theorem pow18 (S : Store) : dPow (.int 10) (.int 18) S = some (.int 1000000000000000000) := rfl
theorem dr_one (G : Dn) (xs : List Int) (h : xs.length ≤ 90000) (s : D) (c k0 f sd : Option D) (n : Int) : ∃ ys n' f', evS G drOneB [some s, some (.obj 0), c, some (.int n), k0, f, sd] (Sx xs) = .ok (.nx [some s, some (.obj 0), c, some (.int n'), k0, f', sd]) (Sx ys) ∧ ys.length ≤ xs.length + 2 := by
  by_cases hn : n < 1000000000000000000
  · have hm : mulOk n 48271 = true := by simp [mulOk]
    have hm2 : mulOk ((n * 48271 + 11) % 2147483647) 69621 = true := by simp [mulOk]
    have e1 := app_ok (xs := xs) (v := ((n * 48271 + 11) % 2147483647 * 69621 + n) % 2147483629) (by omega)
    have e2 := app_ok (xs := xs ++ [((n * 48271 + 11) % 2147483647 * 69621 + n) % 2147483629]) (v := ((n * 48271 + 11) % 2147483647 + n / 7) % 1000003) (by simp; omega)
    refine ⟨xs ++ [((n * 48271 + 11) % 2147483647 * 69621 + n) % 2147483629] ++ [((n * 48271 + 11) % 2147483647 + n / 7) % 1000003], 0, some (.int ((n * 48271 + 11) % 2147483647)), ?_, by simp⟩
    have e2' := e2
    simp only [Sx] at e1 e2'
    simp [drOneB, isinF, D.ty, cmpF, dLt, binF, dAdd, dMul, dMod, dDiv, bifF, dInt, D.asO, pow18, hn, hm, hm2, e1] at e2' ⊢
    simp [e2']
  · exact ⟨xs, n, f, by simp [drOneB, cmpF, dLt, binF, pow18, hn], by omega⟩
theorem rng60 : rngS (.int 0) (.int 60) = some (.st (rngL 0 60)) := rngS_ok (by decide +kernel)
theorem rng900 : rngS (.int 0) (.int 900) = some (.st (rngL 0 900)) := rngS_ok (by decide +kernel)
theorem len60 : (rngL 0 60).length = 60 := by simp [rngL]
theorem len900 : (rngL 0 900).length = 900 := by simp [rngL]
theorem dr_60 (G : Dn) (xs : List Int) (h : xs.length ≤ 90000) (s : D) (c k0 f sd : Option D) (n : Int) : ∃ ys n' k', evS G (.forr (.nm 4) (.rng1 (.cst (.int 60))) drInB) [some s, some (.obj 0), c, some (.int n), k0, f, sd] (Sx xs) = .ok (.nx [some s, some (.obj 0), c, some (.int n'), k', f, sd]) (Sx ys) ∧ ys.length ≤ xs.length + 60 := by
  rw [evS_forr, evI_rng1, ev_cst, Out.bind_ok, rng60, liftO_some, exS_ok]
  obtain ⟨δ', S', e, n', k', ys, rfl, rfl, hl⟩ := forL_inv (body := turnS G (.nm 4) drInB) (xs := rngL 0 60) (P := fun i δ S => ∃ n' k' ys, δ = [some s, some (.obj 0), c, some (.int n'), k', f, sd] ∧ S = Sx ys ∧ ys.length ≤ xs.length + i) (δ := [some s, some (.obj 0), c, some (.int n), k0, f, sd]) (S := Sx xs) ⟨n, k0, xs, rfl, rfl, by omega⟩ fun i x δ S hx ⟨n', k', ys, e1, e2, hl⟩ => by
    subst e1; subst e2
    have hi : i < 60 := by
      have := (List.getElem?_eq_some_iff.mp hx).1
      rwa [len60] at this
    obtain ⟨zs, n2, k2, e, hz⟩ := dr_in G ys (by omega) s c f sd k' x n'
    exact ⟨_, _, .inl e, n2, k2, zs, rfl, rfl, by omega⟩
  exact ⟨ys, n', k', e, by rw [len60] at hl; omega⟩
theorem dr_900 (G : Dn) (xs : List Int) (h : xs.length ≤ 90000) (s : D) (c nb f k0 : Option D) (n : Int) : ∃ ys n' k', evS G (.forr (.nm 4) (.rng1 (.cst (.int 900))) drOutB) [some s, some (.obj 0), c, nb, k0, f, some (.int n)] (Sx xs) = .ok (.nx [some s, some (.obj 0), c, nb, k', f, some (.int n')]) (Sx ys) ∧ ys.length ≤ xs.length + 900 := by
  rw [evS_forr, evI_rng1, ev_cst, Out.bind_ok, rng900, liftO_some, exS_ok]
  obtain ⟨δ', S', e, n', k', ys, rfl, rfl, hl⟩ := forL_inv (body := turnS G (.nm 4) drOutB) (xs := rngL 0 900) (P := fun i δ S => ∃ n' k' ys, δ = [some s, some (.obj 0), c, nb, k', f, some (.int n')] ∧ S = Sx ys ∧ ys.length ≤ xs.length + i) (δ := [some s, some (.obj 0), c, nb, k0, f, some (.int n)]) (S := Sx xs) ⟨n, k0, xs, rfl, rfl, by omega⟩ fun i x δ S hx ⟨n', k', ys, e1, e2, hl⟩ => by
    subst e1; subst e2
    have hi : i < 900 := by
      have := (List.getElem?_eq_some_iff.mp hx).1
      rwa [len900] at this
    obtain ⟨zs, n2, k2, e, hz⟩ := dr_out G ys (by omega) s c nb f k' x n'
    exact ⟨_, _, .inl e, n2, k2, zs, rfl, rfl, by omega⟩
  exact ⟨ys, n', k', e, by rw [len900] at hl; omega⟩
def drCellB : Sts := .cons (.set 3 (.bif .abs (.cons (.var 2) .nil))) (.cons drOneB (.cons (.forr (.nm 4) (.rng1 (.cst (.int 60))) drInB) .nil))
theorem dr_cell (G : Dn) (xs : List Int) (h : xs.length ≤ 80000) (s : D) (c0 nb k0 f sd : Option D) (c : Int) : ∃ ys c' nb' k' f', turnS G (.nm 2) drCellB (.int c) [some s, some (.obj 0), c0, nb, k0, f, sd] (Sx xs) = .ok (.nx [some s, some (.obj 0), c', nb', k', f', sd]) (Sx ys) ∧ ys.length ≤ xs.length + 62 := by
  obtain ⟨ys, n1, f1, e1, h1⟩ := dr_one G xs (by omega) s (some (.int c)) k0 f sd (if c < 0 then -c else c)
  obtain ⟨zs, n2, k2, e2, h2⟩ := dr_60 G ys (by omega) s (some (.int c)) k0 f1 sd n1
  refine ⟨zs, some (.int c), some (.int n2), k2, f1, ?_, by omega⟩
  have e0 : ∀ δ : DEnv, δ = [some s, some (.obj 0), some (.int c), nb, k0, f, sd] → evS G (.set 3 (.bif .abs (.cons (.var 2) .nil))) δ (Sx xs) = .ok (.nx [some s, some (.obj 0), some (.int c), some (.int (if c < 0 then -c else c)), k0, f, sd]) (Sx xs) := by
    rintro _ rfl
    rfl
  have et : turnS G (.nm 2) drCellB (.int c) [some s, some (.obj 0), c0, nb, k0, f, sd] (Sx xs) = evSs G drCellB [some s, some (.obj 0), some (.int c), nb, k0, f, sd] (Sx xs) := by
    simp only [turnS, tset_nm, List.set, liftO_some, Out.bind_ok]
  rw [et]
  unfold drCellB
  rw [evSs_cons, e0 _ rfl, thenF_nx, evSs_cons, e1, thenF_nx, evSs_cons, e2, thenF_nx, evSs_nil]
theorem dr_cells (G : Dn) (s : D) (c0 nb k0 f sd : Option D) (xs : List Int) (cs : List Int) (hc : cs.length ≤ 1000) (hx : xs = []) : ∃ ys c' nb' k' f', forL (turnS G (.nm 2) drCellB) (cs.map .int) [some s, some (.obj 0), c0, nb, k0, f, sd] (Sx xs) = .ok (.nx [some s, some (.obj 0), c', nb', k', f', sd]) (Sx ys) ∧ ys.length ≤ 62000 := by
  subst hx
  obtain ⟨δ', S', e, c', nb', k', f', ys, rfl, rfl, hl⟩ := forL_inv (body := turnS G (.nm 2) drCellB) (xs := cs.map .int) (P := fun i δ S => ∃ c' nb' k' f' ys, δ = [some s, some (.obj 0), c', nb', k', f', sd] ∧ S = Sx ys ∧ ys.length ≤ 62 * i) (δ := [some s, some (.obj 0), c0, nb, k0, f, sd]) (S := Sx []) ⟨c0, nb, k0, f, [], rfl, rfl, by simp⟩ fun i x δ S hx ⟨c', nb', k', f', ys, e1, e2, hl⟩ => by
    subst e1; subst e2
    have hi := (List.getElem?_eq_some_iff.mp hx).1
    rw [List.length_map] at hi
    rw [List.getElem?_map] at hx
    obtain ⟨y, _, rfl⟩ := Option.map_eq_some_iff.mp hx
    obtain ⟨zs, c2, n2, k2, f2, e, hz⟩ := dr_cell G ys (by omega) s c' nb' k' f' sd y
    exact ⟨_, _, .inl e, c2, n2, k2, f2, zs, rfl, rfl, by omega⟩
  exact ⟨ys, c', nb', k', f', e, by rw [List.length_map] at hl; omega⟩
theorem draws_body : d_law_draws_b = .cons (.set 1 (.lstO .nil)) (.cons (.forr (.nm 2) (.seq (.var 0)) drCellB) (.cons (.set 6 (.cst (.int 1))) (.cons (.iff (.cmp .gt (.bif .len (.cons (.var 0) .nil)) (.cst (.int 0))) (.cons (.set 6 (.bin .add (.cst (.int 1)) (.bif .abs (.cons (.idx (.var 0) (.cst (.int 0))) .nil)))) .nil) .nil) (.cons (.forr (.nm 4) (.rng1 (.cst (.int 900))) drOutB) (.cons (.ret (.lrev (.var 1) true)) .nil))))) := rfl
theorem sc_iter {ns : List Int} {s : D} (hs : IsScript ns s) : srcOf s = some (.st (ns.map .int)) := by
  rcases hs with rfl | rfl <;> rfl
theorem dr_seed (G : Dn) {ns : List Int} {s : D} (hs : IsScript ns s) (c nb k0 f : Option D) (xs : List Int) : ∃ n, evS G (.iff (.cmp .gt (.bif .len (.cons (.var 0) .nil)) (.cst (.int 0))) (.cons (.set 6 (.bin .add (.cst (.int 1)) (.bif .abs (.cons (.idx (.var 0) (.cst (.int 0))) .nil)))) .nil) .nil) [some s, some (.obj 0), c, nb, k0, f, some (.int 1)] (Sx xs) = .ok (.nx [some s, some (.obj 0), c, nb, k0, f, some (.int n)]) (Sx xs) := by
  cases ns with
  | nil => exact ⟨1, by rcases hs with rfl | rfl <;> simp [isinF, D.ty, isT, D.tru, D.seq, cmpF, dLt, dLe, dGt, dGe, dEq, dNe, dIs, dIsNot, D.isNon, dIdx, binF, dAdd, dSub, dMul, dMod, dDiv, bifF, dLen, dTuple, dList, dAbs, dInt, D.asI, D.asO, D.rd, D.plain, D.plains, D.depth, D.depths, D.eqv, D.eqvs, negF]⟩
  | cons n ns => exact ⟨1 + (if n < 0 then -n else n), by
      have p : (0 : Int) < (ns.length : Int) + 1 := by omega
      rcases hs with rfl | rfl <;> simp [isinF, D.ty, isT, D.tru, D.seq, cmpF, dLt, dLe, dGt, dGe, dEq, dNe, dIs, dIsNot, D.isNon, dIdx, binF, dAdd, dSub, dMul, dMod, dDiv, bifF, dLen, dTuple, dList, dAbs, dInt, D.asI, D.asO, D.rd, D.plain, D.plains, D.depth, D.depths, D.eqv, D.eqvs, negF, p, atI_zero]⟩
theorem draws_ok (k : Nat) {ns : List Int} {s : D} (hn : ns.length ≤ 1000) (hs : IsScript ns s) : ∃ ys, Ph (k + 1) i_law_draws [s] [] = .ok (.obj 0) (Sx ys) := by
  obtain ⟨ys, c1, n1, k1, f1, e1, h1⟩ := dr_cells (GG k) s none none none none none [] ns hn rfl
  obtain ⟨n, e2⟩ := dr_seed (GG k) hs c1 n1 k1 f1 ys
  obtain ⟨zs, n2, k2, e3, h2⟩ := dr_900 (GG k) ys (by omega) s c1 n1 f1 k1 n
  refine ⟨zs.reverse, ?_⟩
  have hz : zs.length ≤ 16777216 := by omega
  have key : evSs (GG k) d_law_draws_b [some s, none, none, none, none, none, none] [] = .ok (.rt (.obj 1)) [.lst (zs.map .int), .lst ((zs.map .int).reverse)] := by
    have a1 : evS (GG k) (.set 1 (.lstO .nil)) [some s, none, none, none, none, none, none] [] = .ok (.nx [some s, some (.obj 0), none, none, none, none, none]) (Sx []) := by
      simp [mkList]
    have a2 : evS (GG k) (.set 6 (.cst (.int 1))) [some s, some (.obj 0), c1, n1, k1, f1, none] (Sx ys) = .ok (.nx [some s, some (.obj 0), c1, n1, k1, f1, some (.int 1)]) (Sx ys) := by
      simp
    have a3 : evS (GG k) (.ret (.lrev (.var 1) true)) [some s, some (.obj 0), c1, n1, k2, f1, some (.int n2)] (Sx zs) = .ok (.rt (.obj 1)) [.lst (zs.map .int), .lst ((zs.map .int).reverse)] := by
      have ap : (zs.map D.int).all D.pure = true := by simp [D.pure]
      simp [mkList, D.lseq, hz, D.pure]
    have a4 : evS (GG k) (.forr (.nm 2) (.seq (.var 0)) drCellB) [some s, some (.obj 0), none, none, none, none, none] (Sx []) = .ok (.nx [some s, some (.obj 0), c1, n1, k1, f1, none]) (Sx ys) := by
      rw [evS_forr, evI_seq, ev_var, getD_zero, lift_some, Out.bind_ok, sc_iter hs, liftO_some, exS_ok]
      exact e1
    rw [draws_body, evSs_cons, a1, thenF_nx, evSs_cons, a4, thenF_nx, evSs_cons, a2, thenF_nx, evSs_cons, e2, thenF_nx, evSs_cons, e3, thenF_nx, evSs_cons, a3, thenF_rt]
  rw [ph_law_draws]
  refine (run_rt (S' := [.lst (zs.map .int), .lst ((zs.map .int).reverse)]) key).trans ?_
  simp [d_law_draws, fin]
theorem take_ok (k : Nat) (xs : List Int) {m : Int} (h : 0 < m) : ∃ (v : Nat) (ys : List Int), (v : Int) < m ∧ Ph (k + 1) i_law_take [.obj 0, .int m] (Sx xs) = .ok (.int v) (Sx ys) := by
  rw [ph_law_take]
  rcases List.eq_nil_or_concat xs with rfl | ⟨ys, y, rfl⟩
  · exact ⟨0, [], by simpa using h, by simp [d_law_take_b, law_take_b_s0, law_take_b0, law_take_a_s0, law_take_a_s1, law_take_a1, law_take_a0, bifF, dLen, D.seq]⟩
  · have h1 := Int.emod_nonneg y (show m ≠ 0 by omega)
    obtain ⟨v, hv⟩ := Int.eq_ofNat_of_zero_le h1
    refine ⟨v, ys, by have := Int.emod_lt_of_pos y h; omega, ?_⟩
    have nz : ¬ ((ys.length : Int) + 1 = 0) := by omega
    simp [d_law_take_b, law_take_b_s0, law_take_b0, law_take_a_s0, law_take_a_s1, law_take_a1, law_take_a0, bifF, dLen, dInt, D.seq, nz, popF, binF, dMod, h, hv]
theorem take_nat (k : Nat) (xs : List Int) {m : Nat} (h : 0 < m) : ∃ (v : Nat) (ys : List Int), v < m ∧ Ph (k + 1) i_law_take [.obj 0, .int (m : Int)] (Sx xs) = .ok (.int v) (Sx ys) := by
  obtain ⟨v, ys, h1, h2⟩ := take_ok k xs (m := (m : Int)) (by omega)
  exact ⟨v, ys, by omega, h2⟩
end Law

set_option Elab.async false
set_option linter.all false
set_option maxRecDepth 100000
set_option maxHeartbeats 0
namespace Law
open PySem PySem.Spec PyProof.Rows L2 PD
mutual
def smallB : D → Bool
  | .tup ds => decide (ds.length ≤ 1000000) && smallsB ds
  | .lst ds => decide (ds.length ≤ 1000000) && smallsB ds
  | .rol ds => decide (ds.length ≤ 1000000) && smallsB ds
  | _ => true
def smallsB : List D → Bool
  | [] => true
  | d :: ds => smallB d && smallsB ds
end
theorem smalls_mem : ∀ {ds : List D} {x : D}, smallsB ds = true → x ∈ ds → smallB x = true
  | d :: ds, x, h, hx => by
    simp only [smallsB, Bool.and_eq_true] at h
    rcases List.mem_cons.mp hx with rfl | hx
    · exact h.1
    · exact smalls_mem h.2 hx
theorem alike_comp {k : Nat} {ds : List D} {S : Store} (w : D) (hw : ∀ (i : Int) (S : Store), dIdx w (.int i) S = L2.atI ds i) (hl : ds.length ≤ 1000000) (hn : bifF .len [w] S = some (.int ds.length)) (h : ∀ x ∈ ds, Ph k i_law_alike [x, x] S = .ok (.bl true) S) :
    ev (GG k) (.comp (.var 2) (.nm 2) (.rng1 (.bif .len (.cons (.var 1) .nil))) (.cons (.not (.call i_law_alike (.cons (.idx (.var 0) (.var 2)) (.cons (.idx (.var 1) (.var 2)) .nil)))) .nil) false) [some w, some w, none] S = .ok (.lst []) S := by
  refine comp_non (ds := (List.range ds.length).map fun (j : Nat) => D.int (j : Int)) ?_ (fun x hx => ?_) (by simp; omega)
  · exact it_rng1 (by simp [hn]) (by omega)
  · obtain ⟨j, hj, rfl⟩ := List.mem_map.mp hx
    have hj' := List.mem_range.mp hj
    have e1 : ds[j]? = some ds[j] := List.getElem?_eq_getElem hj'
    have e2 := h ds[j] (List.getElem_mem hj')
    simp [hw, ix_nat, e1, e2]
theorem alike_seq {k : Nat} {ds : List D} {S : Store} (w : D) (hw : ∀ (i : Int) (S : Store), dIdx w (.int i) S = L2.atI ds i) (hl : ds.length ≤ 1000000) (hn : bifF .len [w] S = some (.int ds.length)) (h : ∀ x ∈ ds, Ph k i_law_alike [x, x] S = .ok (.bl true) S)
    (h1 : evS (GG k) law_alike_b_s0 [some w, some w, none] S = .ok (.nx [some w, some w, none]) S) (h2 : tst (GG k) (.or (.isin (.var 1) "list") (.one (.isin (.var 1) "tuple"))) [some w, some w, none] S = .ok true S) :
    evSs (GG k) d_law_alike_b [some w, some w, none] S = .ok (.rt (.bl true)) S := by
  have e := alike_comp (k := k) (S := S) w hw hl hn h
  have e1 : evS (GG k) law_alike_b_s1 [some w, some w, none] S = .ok (.rt (.bl true)) S := by
    unfold law_alike_b_s1
    simp [hn, e]
  have e2 : evS (GG k) law_alike_a_s0 [some w, some w, none] S = .ok (.rt (.bl true)) S := by
    unfold law_alike_a_s0
    rw [evS_iff, h2, exS_ok, if_pos rfl, law_alike_b0_e, evSs_cons, h1, thenF_nx, law_alike_b1_e, evSs_cons, e1, thenF_rt]
  show evSs (GG k) law_alike_a0 _ S = _
  rw [law_alike_a0_e, evSs_cons, e2, thenF_rt]
theorem alike_run {k : Nat} {x : D} {S : Store} (h : evSs (GG k) d_law_alike_b [some x, some x, none] S = .ok (.rt (.bl true)) S) : Ph (k + 1) i_law_alike [x, x] S = .ok (.bl true) S := by
  rw [ph_law_alike]
  exact (run_rt (S' := S) h).trans (by simp)
theorem alike_s0 {k : Nat} {x : D} {S : Store} (h1 : isinF x "list" S = some (.bl false)) (h2 : isinF x "tuple" S = some (.bl false)) : evS (GG k) law_alike_a_s0 [some x, some x, none] S = .ok (.nx [some x, some x, none]) S := by
  unfold law_alike_a_s0
  rw [evS_iff]
  simp [h1, h2]
theorem alike_ok : ∀ (n k : Nat) (x : D) (S : Store), x.depth ≤ n → x.plain = true → smallB x = true → Ph (k + n + 1) i_law_alike [x, x] S = .ok (.bl true) S := by
  have leaf : ∀ (k : Nat) (x : D) (S : Store), x.depth = 0 → x.plain = true → Ph (k + 1) i_law_alike [x, x] S = .ok (.bl true) S := by
    intro k x S hd hp
    refine alike_run ?_
    show evSs (GG k) law_alike_a0 _ S = _
    cases x with
    | dic _ _ => cases hp
    | st _ => cases hp
    | obj _ => cases hp
    | dob _ => cases hp
    | exn _ => cases hp
    | tup ds => simp [D.depth] at hd
    | lst ds => simp [D.depth] at hd
    | rol ds => simp [D.depth] at hd
    | _ => rw [law_alike_a0_e, evSs_cons, alike_s0 rfl rfl, thenF_nx]; simp [law_alike_a1, law_alike_a_s1, law_alike_a2, law_alike_a_s2, law_alike_a3, law_alike_a_s3, law_alike_a4, law_alike_a_s4, law_alike_f0, law_alike_f_s0, law_alike_h0, law_alike_h_s0, law_alike_j0, law_alike_j_s0]
  intro n
  induction n with
  | zero => intro k x S hd hp hs; exact leaf k x S (by omega) hp
  | succ n ih =>
    intro k x S hd hp hs
    have go : ∀ ds, D.depths ds ≤ n → D.plains ds = true → smallsB ds = true → ∀ x ∈ ds, Ph (k + (n + 1)) i_law_alike [x, x] S = .ok (.bl true) S := fun ds h1 h2 h3 x hx => ih k x S (Nat.le_trans (depths_mem hx) h1) (plains_mem h2 hx) (smalls_mem h3 hx)
    cases x with
    | tup ds =>
      simp only [smallB, Bool.and_eq_true, decide_eq_true_eq] at hs
      exact alike_run (alike_seq (ds := ds) (.tup ds) (fun _ _ => rfl) hs.1 (len_tup S ds) (go ds (by simp only [D.depth] at hd; omega) hp hs.2) (by simp [law_alike_b_s0]) (by simp))
    | lst ds =>
      simp only [smallB, Bool.and_eq_true, decide_eq_true_eq] at hs
      exact alike_run (alike_seq (ds := ds) (.lst ds) (fun _ _ => rfl) hs.1 (len_lst S ds) (go ds (by simp only [D.depth] at hd; omega) hp hs.2) (by simp [law_alike_b_s0]) (by simp))
    | rol ds =>
      simp only [smallB, Bool.and_eq_true, decide_eq_true_eq] at hs
      exact alike_run (alike_seq (ds := ds) (.rol ds) (fun _ _ => rfl) hs.1 (len_rol S ds) (go ds (by simp only [D.depth] at hd; omega) hp hs.2) (by simp [law_alike_b_s0]) (by simp))
    | dic _ _ => cases hp
    | st _ => cases hp
    | obj _ => cases hp
    | dob _ => cases hp
    | exn _ => cases hp
    | _ => exact leaf (k + (n + 1)) _ S rfl hp
end Law

set_option Elab.async false
set_option linter.all false
set_option maxRecDepth 100000
set_option maxHeartbeats 0
namespace Law
open PySem PySem.Spec PyProof.Rows L2 PD
def kindL : Nat → List Nat
  | 0 => [97, 98]
  | 1 => [97, 98, 65, 32, 98, 10]
  | 2 => [120, 121, 122, 48, 49, 57, 32, 95, 126, 10]
  | _ => [97]
def kindC (c : Nat) : Bool := [97, 98, 65, 32, 10, 120, 121, 122, 48, 49, 57, 95, 126].contains c
theorem kindC_sign {c : Nat} (h : kindC c = true) : signC c = true := by
  unfold kindC at h
  simp only [List.contains_iff_mem, List.mem_cons, List.not_mem_nil, or_false] at h
  rcases h with rfl | rfl | rfl | rfl | rfl | rfl | rfl | rfl | rfl | rfl | rfl | rfl | rfl <;> rfl
theorem kindC_all {t : List Nat} (h : t.all kindC = true) : t.all signC = true := by
  rw [List.all_eq_true] at h ⊢
  exact fun x hx => kindC_sign (h x hx)
theorem kind_ok (v : Nat) : (kindL v).all kindC = true ∧ 0 < (kindL v).length := by
  match v with
  | 0 => decide
  | 1 => decide
  | 2 => decide
  | n + 3 =>
    have : kindL (n + 3) = [97] := rfl
    rw [this]
    decide
theorem law_text_kind (k : Nat) (xs : List Int) {m : Nat} (hm : m ≤ 1000000) : ∃ (t : List Nat) (ys : List Int), t.all kindC = true ∧ t.length ≤ m ∧ Ph (k + 2) i_law_text [.obj 0, .int (m : Int)] (Sx xs) = .ok (.str t) (Sx ys) := by
  obtain ⟨v, x1, hv, e1⟩ := take_nat k xs (m := 4) (by omega)
  obtain ⟨n, x2, hn, e2⟩ := take_nat k x1 (m := m + 1) (by omega)
  have es0 : evS (GG (k + 1)) law_text_a_s0 [some (.obj 0), some (.int (m : Int)), none, none] (Sx xs) = .ok (.nx [some (.obj 0), some (.int (m : Int)), some (.str (kindL v)), none]) (Sx x1) := by
    have e1' : Ph (k + 1) i_law_take [.obj 0, .int 4] (Sx xs) = .ok (.int (v : Nat)) (Sx x1) := e1
    have ix : L2.atI [D.str [97, 98], .str [97, 98, 65, 32, 98, 10], .str [120, 121, 122, 48, 49, 57, 32, 95, 126, 10], .str [97]] (v : Int) = some (.str (kindL v)) := by
      rw [ix_nat]
      match v, hv with
      | 0, _ => rfl
      | 1, _ => rfl
      | 2, _ => rfl
      | 3, _ => rfl
    simp [law_text_a_s0, e1', ix]
  obtain ⟨kd1, kd2⟩ := kind_ok v
  obtain ⟨ys, S', e3, q3, l3, zs, rfl⟩ := comp_inv (G := GG (k + 1)) (el := .idx (.var 2) (.call i_law_take (.cons (.var 0) (.cons (.bif .len (.cons (.var 2) .nil)) .nil)))) (t := .nm 3) (it := .rng1 (.call i_law_take (.cons (.var 0) (.cons (.bin .add (.var 1) (.cst (.int 1))) .nil)))) (cs := .nil)
    (δ := [some (.obj 0), some (.int (m : Int)), some (.str (kindL v)), none]) (S := Sx x1) (fun S => ∃ zs, S = Sx zs) (fun d => ∃ c : Nat, kindC c = true ∧ d = .str [c]) (it_rng1 (n := n) (S1 := Sx x2) (by simpa using e2) (by omega)) (fun x hx S ⟨zs, hS⟩ => by
      subst hS
      obtain ⟨j, z2, hj, e4⟩ := take_nat k zs (m := (kindL v).length) kd2
      have e5 : (kindL v)[j]? = some (kindL v)[j] := List.getElem?_eq_getElem hj
      refine ⟨.str [(kindL v)[j]], Sx z2, ?_, ⟨_, List.all_eq_true.mp kd1 _ (List.getElem_mem hj), rfl⟩, z2, rfl⟩
      rw [turn_el]
      simp [e4, ix_nat, e5]) ⟨x2, rfl⟩ (by simp; omega)
  obtain ⟨cs, rfl, e6⟩ := join_one (Sx zs) (fun d hd => let ⟨c, _, h⟩ := q3 d hd; ⟨c, h⟩) (by rw [l3]; simp; omega)
  have lc : cs.length = n := by simpa using l3
  refine ⟨cs, zs, ?_, by omega, ?_⟩
  · rw [List.all_eq_true]
    intro c hc
    obtain ⟨c', h1, h2⟩ := q3 (.str [c]) (List.mem_map_of_mem hc)
    cases h2
    exact h1
  · have es1 : evS (GG (k + 1)) law_text_a_s1 [some (.obj 0), some (.int (m : Int)), some (.str (kindL v)), none] (Sx x1) = .ok (.rt (.str cs)) (Sx zs) := by
      unfold law_text_a_s1
      rw [evS_ret, ev_join, ev_cst, Out.bind_ok, asS_str, liftO_some, Out.bind_ok, e3, Out.bind_ok, e6, lift_some, exS_ok]
    rw [ph_law_text]
    refine (run_rt (S' := Sx zs) (d := .str cs) ?_).trans (by simp)
    show evSs (GG (k + 1)) law_text_a0 [some (.obj 0), some (.int (m : Int)), none, none] (Sx xs) = _
    rw [law_text_a0_e, evSs_cons, es0, thenF_nx, law_text_a1_e, evSs_cons, es1, thenF_rt]
theorem law_text_ok (k : Nat) (xs : List Int) {m : Nat} (hm : m ≤ 1000000) : ∃ (t : List Nat) (ys : List Int), t.all signC = true ∧ t.length ≤ m ∧ Ph (k + 2) i_law_text [.obj 0, .int (m : Int)] (Sx xs) = .ok (.str t) (Sx ys) := by
  obtain ⟨t, ys, h1, h2, h3⟩ := law_text_kind k xs hm
  exact ⟨t, ys, kindC_all h1, h2, h3⟩
end Law

set_option Elab.async false
set_option linter.all false
set_option maxRecDepth 100000
set_option maxHeartbeats 0
namespace Law
open PySem PySem.Spec PyProof.Rows L2 PD
theorem law_edit_ok (k : Nat) (xs : List Int) (t : List Nat) (ht : t.length ≤ 100000) {m : Nat} (hm : m ≤ 1000000) : ∃ (p g : Nat) (c : List Nat) (ys : List Int), p + g ≤ t.length ∧ c.all signC = true ∧ c.length ≤ m ∧ Ph (k + 3) i_law_edit [.obj 0, .str t, .int (m : Int)] (Sx xs) = .ok (E p g c) (Sx ys) := by
  obtain ⟨a, x1, ha, e1⟩ := take_nat (k + 1) xs (m := t.length + 1) (by omega)
  obtain ⟨b, x2, hb, e2⟩ := take_nat (k + 1) x1 (m := t.length + 1) (by omega)
  obtain ⟨v, x3, hv, e3⟩ := take_nat (k + 1) x2 (m := 4) (by omega)
  have ⟨p, hp, ix1⟩ : ∃ p : Nat, p ≤ t.length ∧ L2.atI [D.int 0, .int (t.length : Int), .int (a : Int), .int (b : Int)] (v : Int) = some (.int (p : Int)) := by
    rw [ix_nat]
    match v, hv with
    | 0, _ => exact ⟨0, by omega, rfl⟩
    | 1, _ => exact ⟨t.length, by omega, rfl⟩
    | 2, _ => exact ⟨a, by omega, rfl⟩
    | 3, _ => exact ⟨b, by omega, rfl⟩
  have es0 : evS (GG (k + 2)) law_edit_a_s0 [some (.obj 0), some (.str t), some (.int (m : Int)), none, none] (Sx xs) = .ok (.nx [some (.obj 0), some (.str t), some (.int (m : Int)), some (.int (p : Int)), none]) (Sx x3) := by
    have e1' : Ph (k + 1 + 1) i_law_take [.obj 0, .int ((t.length : Int) + 1)] (Sx xs) = .ok (.int (a : Nat)) (Sx x1) := e1
    have e2' : Ph (k + 1 + 1) i_law_take [.obj 0, .int ((t.length : Int) + 1)] (Sx x1) = .ok (.int (b : Nat)) (Sx x2) := e2
    have e3' : Ph (k + 1 + 1) i_law_take [.obj 0, .int 4] (Sx x2) = .ok (.int (v : Nat)) (Sx x3) := e3
    simp [law_edit_a_s0, e1', e2', e3', ix1]
  obtain ⟨d, x4, hd, e4⟩ := take_nat (k + 1) x3 (m := t.length - p + 1) (by omega)
  obtain ⟨w, x5, hw, e5⟩ := take_nat (k + 1) x4 (m := 4) (by omega)
  have ⟨g, hg, ix2⟩ : ∃ g : Nat, p + g ≤ t.length ∧ L2.atI [D.int 0, .int 0, .int ((t.length : Int) - (p : Int)), .int (d : Int)] (w : Int) = some (.int (g : Int)) := by
    rw [ix_nat]
    match w, hw with
    | 0, _ => exact ⟨0, by omega, rfl⟩
    | 1, _ => exact ⟨0, by omega, rfl⟩
    | 2, _ =>
      have : (t.length : Int) - (p : Int) = ((t.length - p : Nat) : Int) := by omega
      exact ⟨t.length - p, by omega, by rw [this]; rfl⟩
    | 3, _ => exact ⟨d, by omega, rfl⟩
  have es1 : evS (GG (k + 2)) law_edit_a_s1 [some (.obj 0), some (.str t), some (.int (m : Int)), some (.int (p : Int)), none] (Sx x3) = .ok (.nx [some (.obj 0), some (.str t), some (.int (m : Int)), some (.int (p : Int)), some (.int (g : Int))]) (Sx x5) := by
    have z : (((t.length - p + 1 : Nat)) : Int) = (t.length : Int) - (p : Int) + 1 := by omega
    rw [z] at e4
    have e5' : Ph (k + 1 + 1) i_law_take [.obj 0, .int 4] (Sx x4) = .ok (.int (w : Nat)) (Sx x5) := e5
    simp [law_edit_a_s1, e4, e5', ix2]
  obtain ⟨f, x6, hf, e6⟩ := take_nat (k + 1) x5 (m := 40) (by omega)
  obtain ⟨c, x7, hc1, hc2, e7⟩ := law_text_ok k x6 hm
  have z6 : min (g : Int) (9 + (f : Int)) = ((min g (9 + f) : Nat) : Int) := by omega
  have es2 : evS (GG (k + 2)) law_edit_a_s2 [some (.obj 0), some (.str t), some (.int (m : Int)), some (.int (p : Int)), some (.int (g : Int))] (Sx x5) = .ok (.rt (E p (min g (9 + f)) c)) (Sx x7) := by
    have e6' : Ph (k + 1 + 1) i_law_take [.obj 0, .int 40] (Sx x5) = .ok (.int (f : Nat)) (Sx x6) := e6
    simp [law_edit_a_s2, e6', e7, z6, E]
  refine ⟨p, min g (9 + f), c, x7, by omega, hc1, hc2, ?_⟩
  rw [ph_law_edit]
  refine (run_rt (S' := Sx x7) (d := E p (min g (9 + f)) c) ?_).trans (by simp [E])
  show evSs (GG (k + 2)) law_edit_a0 [some (.obj 0), some (.str t), some (.int (m : Int)), none, none] (Sx xs) = _
  rw [law_edit_a0_e, evSs_cons, es0, thenF_nx, law_edit_a1_e, evSs_cons, es1, thenF_nx, law_edit_a2_e, evSs_cons, es2, thenF_rt]
end Law

set_option Elab.async false
set_option linter.all false
set_option maxRecDepth 100000
set_option maxHeartbeats 0
namespace Law
open PySem PySem.Spec PyProof.Rows L2 PD
abbrev Sy (T : Store) (xs : List Int) : Store := .lst (xs.map .int) :: T
theorem take_T (T : Store) (k : Nat) (xs : List Int) {m : Int} (h : 0 < m) : ∃ (v : Nat) (ys : List Int), (v : Int) < m ∧ Ph (k + 1) i_law_take [.obj 0, .int m] (Sy T xs) = .ok (.int v) (Sy T ys) := by
  rw [ph_law_take]
  rcases List.eq_nil_or_concat xs with rfl | ⟨ys, y, rfl⟩
  · exact ⟨0, [], by simpa using h, by simp [d_law_take_b, law_take_b_s0, law_take_b0, law_take_a_s0, law_take_a_s1, law_take_a1, law_take_a0, bifF, dLen, D.seq]⟩
  · have h1 := Int.emod_nonneg y (show m ≠ 0 by omega)
    obtain ⟨v, hv⟩ := Int.eq_ofNat_of_zero_le h1
    refine ⟨v, ys, by have := Int.emod_lt_of_pos y h; omega, ?_⟩
    have nz : ¬ ((ys.length : Int) + 1 = 0) := by omega
    simp [d_law_take_b, law_take_b_s0, law_take_b0, law_take_a_s0, law_take_a_s1, law_take_a1, law_take_a0, bifF, dLen, dInt, D.seq, nz, popF, binF, dMod, h, hv]
theorem take_natT (T : Store) (k : Nat) (xs : List Int) {m : Nat} (h : 0 < m) : ∃ (v : Nat) (ys : List Int), v < m ∧ Ph (k + 1) i_law_take [.obj 0, .int (m : Int)] (Sy T xs) = .ok (.int v) (Sy T ys) := by
  obtain ⟨v, ys, h1, h2⟩ := take_T T k xs (m := (m : Int)) (by omega)
  exact ⟨v, ys, by omega, h2⟩
end Law

set_option Elab.async false
set_option linter.all false
set_option maxRecDepth 100000
set_option maxHeartbeats 0
namespace Law
open PySem PySem.Spec PyProof.Rows L2 PD
theorem law_text_kindT (T : Store) (k : Nat) (xs : List Int) {m : Nat} (hm : m ≤ 1000000) : ∃ (t : List Nat) (ys : List Int), t.all kindC = true ∧ t.length ≤ m ∧ Ph (k + 2) i_law_text [.obj 0, .int (m : Int)] (Sy T xs) = .ok (.str t) (Sy T ys) := by
  obtain ⟨v, x1, hv, e1⟩ := take_natT T k xs (m := 4) (by omega)
  obtain ⟨n, x2, hn, e2⟩ := take_natT T k x1 (m := m + 1) (by omega)
  have es0 : evS (GG (k + 1)) law_text_a_s0 [some (.obj 0), some (.int (m : Int)), none, none] (Sy T xs) = .ok (.nx [some (.obj 0), some (.int (m : Int)), some (.str (kindL v)), none]) (Sy T x1) := by
    have e1' : Ph (k + 1) i_law_take [.obj 0, .int 4] (Sy T xs) = .ok (.int (v : Nat)) (Sy T x1) := e1
    have ix : L2.atI [D.str [97, 98], .str [97, 98, 65, 32, 98, 10], .str [120, 121, 122, 48, 49, 57, 32, 95, 126, 10], .str [97]] (v : Int) = some (.str (kindL v)) := by
      rw [ix_nat]
      match v, hv with
      | 0, _ => rfl
      | 1, _ => rfl
      | 2, _ => rfl
      | 3, _ => rfl
    simp [law_text_a_s0, e1', ix]
  obtain ⟨kd1, kd2⟩ := kind_ok v
  obtain ⟨ys, S', e3, q3, l3, zs, rfl⟩ := comp_inv (G := GG (k + 1)) (el := .idx (.var 2) (.call i_law_take (.cons (.var 0) (.cons (.bif .len (.cons (.var 2) .nil)) .nil)))) (t := .nm 3) (it := .rng1 (.call i_law_take (.cons (.var 0) (.cons (.bin .add (.var 1) (.cst (.int 1))) .nil)))) (cs := .nil)
    (δ := [some (.obj 0), some (.int (m : Int)), some (.str (kindL v)), none]) (S := Sy T x1) (fun S => ∃ zs, S = Sy T zs) (fun d => ∃ c : Nat, kindC c = true ∧ d = .str [c]) (it_rng1 (n := n) (S1 := Sy T x2) (by simpa using e2) (by omega)) (fun x hx S ⟨zs, hS⟩ => by
      subst hS
      obtain ⟨j, z2, hj, e4⟩ := take_natT T k zs (m := (kindL v).length) kd2
      have e5 : (kindL v)[j]? = some (kindL v)[j] := List.getElem?_eq_getElem hj
      refine ⟨.str [(kindL v)[j]], Sy T z2, ?_, ⟨_, List.all_eq_true.mp kd1 _ (List.getElem_mem hj), rfl⟩, z2, rfl⟩
      rw [turn_el]
      simp [e4, ix_nat, e5]) ⟨x2, rfl⟩ (by simp; omega)
  obtain ⟨cs, rfl, e6⟩ := join_one (Sy T zs) (fun d hd => let ⟨c, _, h⟩ := q3 d hd; ⟨c, h⟩) (by rw [l3]; simp; omega)
  have lc : cs.length = n := by simpa using l3
  refine ⟨cs, zs, ?_, by omega, ?_⟩
  · rw [List.all_eq_true]
    intro c hc
    obtain ⟨c', h1, h2⟩ := q3 (.str [c]) (List.mem_map_of_mem hc)
    cases h2
    exact h1
  · have es1 : evS (GG (k + 1)) law_text_a_s1 [some (.obj 0), some (.int (m : Int)), some (.str (kindL v)), none] (Sy T x1) = .ok (.rt (.str cs)) (Sy T zs) := by
      unfold law_text_a_s1
      rw [evS_ret, ev_join, ev_cst, Out.bind_ok, asS_str, liftO_some, Out.bind_ok, e3, Out.bind_ok, e6, lift_some, exS_ok]
    rw [ph_law_text]
    refine (run_rt (S' := Sy T zs) (d := .str cs) ?_).trans (by simp)
    show evSs (GG (k + 1)) law_text_a0 [some (.obj 0), some (.int (m : Int)), none, none] (Sy T xs) = _
    rw [law_text_a0_e, evSs_cons, es0, thenF_nx, law_text_a1_e, evSs_cons, es1, thenF_rt]
theorem law_text_okT (T : Store) (k : Nat) (xs : List Int) {m : Nat} (hm : m ≤ 1000000) : ∃ (t : List Nat) (ys : List Int), t.all signC = true ∧ t.length ≤ m ∧ Ph (k + 2) i_law_text [.obj 0, .int (m : Int)] (Sy T xs) = .ok (.str t) (Sy T ys) := by
  obtain ⟨t, ys, h1, h2, h3⟩ := law_text_kindT T k xs hm
  exact ⟨t, ys, kindC_all h1, h2, h3⟩
end Law

set_option Elab.async false
set_option linter.all false
set_option maxRecDepth 100000
set_option maxHeartbeats 0
namespace Law
open PySem PySem.Spec PyProof.Rows L2 PD
theorem law_edit_okT (T : Store) (k : Nat) (xs : List Int) (t : List Nat) (ht : t.length ≤ 100000) {m : Nat} (hm : m ≤ 1000000) : ∃ (p g : Nat) (c : List Nat) (ys : List Int), p + g ≤ t.length ∧ c.all signC = true ∧ c.length ≤ m ∧ Ph (k + 3) i_law_edit [.obj 0, .str t, .int (m : Int)] (Sy T xs) = .ok (E p g c) (Sy T ys) := by
  obtain ⟨a, x1, ha, e1⟩ := take_natT T (k + 1) xs (m := t.length + 1) (by omega)
  obtain ⟨b, x2, hb, e2⟩ := take_natT T (k + 1) x1 (m := t.length + 1) (by omega)
  obtain ⟨v, x3, hv, e3⟩ := take_natT T (k + 1) x2 (m := 4) (by omega)
  have ⟨p, hp, ix1⟩ : ∃ p : Nat, p ≤ t.length ∧ L2.atI [D.int 0, .int (t.length : Int), .int (a : Int), .int (b : Int)] (v : Int) = some (.int (p : Int)) := by
    rw [ix_nat]
    match v, hv with
    | 0, _ => exact ⟨0, by omega, rfl⟩
    | 1, _ => exact ⟨t.length, by omega, rfl⟩
    | 2, _ => exact ⟨a, by omega, rfl⟩
    | 3, _ => exact ⟨b, by omega, rfl⟩
  have es0 : evS (GG (k + 2)) law_edit_a_s0 [some (.obj 0), some (.str t), some (.int (m : Int)), none, none] (Sy T xs) = .ok (.nx [some (.obj 0), some (.str t), some (.int (m : Int)), some (.int (p : Int)), none]) (Sy T x3) := by
    have e1' : Ph (k + 1 + 1) i_law_take [.obj 0, .int ((t.length : Int) + 1)] (Sy T xs) = .ok (.int (a : Nat)) (Sy T x1) := e1
    have e2' : Ph (k + 1 + 1) i_law_take [.obj 0, .int ((t.length : Int) + 1)] (Sy T x1) = .ok (.int (b : Nat)) (Sy T x2) := e2
    have e3' : Ph (k + 1 + 1) i_law_take [.obj 0, .int 4] (Sy T x2) = .ok (.int (v : Nat)) (Sy T x3) := e3
    simp [law_edit_a_s0, e1', e2', e3', ix1]
  obtain ⟨d, x4, hd, e4⟩ := take_natT T (k + 1) x3 (m := t.length - p + 1) (by omega)
  obtain ⟨w, x5, hw, e5⟩ := take_natT T (k + 1) x4 (m := 4) (by omega)
  have ⟨g, hg, ix2⟩ : ∃ g : Nat, p + g ≤ t.length ∧ L2.atI [D.int 0, .int 0, .int ((t.length : Int) - (p : Int)), .int (d : Int)] (w : Int) = some (.int (g : Int)) := by
    rw [ix_nat]
    match w, hw with
    | 0, _ => exact ⟨0, by omega, rfl⟩
    | 1, _ => exact ⟨0, by omega, rfl⟩
    | 2, _ =>
      have : (t.length : Int) - (p : Int) = ((t.length - p : Nat) : Int) := by omega
      exact ⟨t.length - p, by omega, by rw [this]; rfl⟩
    | 3, _ => exact ⟨d, by omega, rfl⟩
  have es1 : evS (GG (k + 2)) law_edit_a_s1 [some (.obj 0), some (.str t), some (.int (m : Int)), some (.int (p : Int)), none] (Sy T x3) = .ok (.nx [some (.obj 0), some (.str t), some (.int (m : Int)), some (.int (p : Int)), some (.int (g : Int))]) (Sy T x5) := by
    have z : (((t.length - p + 1 : Nat)) : Int) = (t.length : Int) - (p : Int) + 1 := by omega
    rw [z] at e4
    have e5' : Ph (k + 1 + 1) i_law_take [.obj 0, .int 4] (Sy T x4) = .ok (.int (w : Nat)) (Sy T x5) := e5
    simp [law_edit_a_s1, e4, e5', ix2]
  obtain ⟨f, x6, hf, e6⟩ := take_natT T (k + 1) x5 (m := 40) (by omega)
  obtain ⟨c, x7, hc1, hc2, e7⟩ := law_text_okT T k x6 hm
  have z6 : min (g : Int) (9 + (f : Int)) = ((min g (9 + f) : Nat) : Int) := by omega
  have es2 : evS (GG (k + 2)) law_edit_a_s2 [some (.obj 0), some (.str t), some (.int (m : Int)), some (.int (p : Int)), some (.int (g : Int))] (Sy T x5) = .ok (.rt (E p (min g (9 + f)) c)) (Sy T x7) := by
    have e6' : Ph (k + 1 + 1) i_law_take [.obj 0, .int 40] (Sy T x5) = .ok (.int (f : Nat)) (Sy T x6) := e6
    simp [law_edit_a_s2, e6', e7, z6, E]
  refine ⟨p, min g (9 + f), c, x7, by omega, hc1, hc2, ?_⟩
  rw [ph_law_edit]
  refine (run_rt (S' := Sy T x7) (d := E p (min g (9 + f)) c) ?_).trans (by simp [E])
  show evSs (GG (k + 2)) law_edit_a0 [some (.obj 0), some (.str t), some (.int (m : Int)), none, none] (Sy T xs) = _
  rw [law_edit_a0_e, evSs_cons, es0, thenF_nx, law_edit_a1_e, evSs_cons, es1, thenF_nx, law_edit_a2_e, evSs_cons, es2, thenF_rt]
end Law

set_option Elab.async false
set_option linter.all false
set_option maxRecDepth 100000
set_option maxHeartbeats 0
namespace Law
open PySem PySem.Spec PyProof.Rows L2 PD
def sd (l : Bool) : List Nat := if l then [108, 101, 102, 116] else [114, 105, 103, 104, 116]
abbrev MD (q : Nat) (l : Bool) : D := .tup [.int (q : Int), .str (sd l)]
theorem MD_plain (q : Nat) (l : Bool) : (MD q l).plain = true := rfl
theorem moved_ok (k q : Nat) (l : Bool) (e : Ty.Ed) (S : Store) : Ph (k + 1) i_moved [MD q l, EV e] S = .ok (MD (Tm.mv l q e) l) S := by
  obtain ⟨p, g, c⟩ := e
  rw [ph_moved]
  unfold Tm.mv
  by_cases h1 : q < p
  · have h1' : (q : Int) < (p : Int) := by omega
    rw [if_pos h1]
    cases l <;> simp [d_moved_b, moved_b_s0, moved_b0, moved_d_s0, moved_d0, moved_a_s0, moved_a_s1, moved_a_s2, moved_a_s3, moved_a_s4, moved_a4, moved_a3, moved_a2, moved_a1, moved_a0, sd, E, h1, h1']
  · have h1' : ¬ (q : Int) < (p : Int) := by omega
    rw [if_neg h1]
    by_cases h2 : p + g < q
    · have h2' : (p : Int) + (g : Int) < (q : Int) := by omega
      have e2 : ((q + c.length - g : Nat) : Int) = (q : Int) + (c.length : Int) - (g : Int) := by omega
      rw [if_pos h2]
      show _ = Out.ok (D.tup [.int ((q + c.length - g : Nat) : Int), .str (sd l)]) S
      rw [e2]
      cases l <;> simp [d_moved_b, moved_b_s0, moved_b0, moved_d_s0, moved_d0, moved_a_s0, moved_a_s1, moved_a_s2, moved_a_s3, moved_a_s4, moved_a4, moved_a3, moved_a2, moved_a1, moved_a0, sd, E, h1, h1', h2']
    · have h2' : ¬ (p : Int) + (g : Int) < (q : Int) := by omega
      rw [if_neg h2]
      cases l <;> simp [d_moved_b, moved_b_s0, moved_b0, moved_d_s0, moved_d0, moved_a_s0, moved_a_s1, moved_a_s2, moved_a_s3, moved_a_s4, moved_a4, moved_a3, moved_a2, moved_a1, moved_a0, sd, E, h1, h1', h2']
theorem through_turn (k q : Nat) (l : Bool) (e : Ty.Ed) (w : D) (o2 : Option D) (S : Store) : turnS (GG (k + 1)) (.nm 2) moved_through_b0 (EV e) [some (MD q l), some w, o2] S = .ok (.nx [some (MD (Tm.mv l q e) l), some w, some (EV e)]) S := by
  have h := moved_ok k q l e S
  rw [turnS_nm]
  generalize MD (Tm.mv l q e) l = R at *
  generalize MD q l = M at *
  generalize EV e = A at *
  simp [d_moved_through_b, moved_through_b_s0, moved_through_b0, moved_through_a_s0, moved_through_a_s1, moved_through_a1, moved_through_a0, h]
theorem through_st (k : Nat) (l : Bool) (w : D) (S : Store) : ∀ (es : List Ty.Ed) (q : Nat) (o2 : Option D), ∃ o2', forL (turnS (GG (k + 1)) (.nm 2) moved_through_b0) (es.map EV) [some (MD q l), some w, o2] S = .ok (.nx [some (MD (Tm.mvs l q es) l), some w, o2']) S
  | [], q, o2 => ⟨o2, rfl⟩
  | e :: es, q, o2 => by
    obtain ⟨o2', ih⟩ := through_st k l w S es (Tm.mv l q e) (some (EV e))
    refine ⟨o2', ?_⟩
    rw [List.map_cons]
    unfold forL
    rw [through_turn, turnF_nx, ih]
    rfl
theorem through_fin {k q : Nat} {l : Bool} {es : List Ty.Ed} {w : D} {S : Store} {o2' : Option D} (h : evS (GG (k + 1)) moved_through_a_s0 [some (MD q l), some w, none] S = .ok (.nx [some (MD (Tm.mvs l q es) l), some w, o2']) S) :
    Ph (k + 2) i_moved_through [MD q l, w] S = .ok (MD (Tm.mvs l q es) l) S := by
  rw [ph_moved_through]
  refine (run_rt (S' := S) (d := MD (Tm.mvs l q es) l) ?_).trans (by rw [PD.fin_plain (MD_plain _ _), List.take_length])
  simp only [startD_s, startD_0, List.replicate]
  show evSs (GG (k + 1)) moved_through_a0 _ _ = _
  rw [moved_through_a0_e, step h]
  generalize MD (Tm.mvs l q es) l = R
  simp [d_moved_through_b, moved_through_b_s0, moved_through_b0, moved_through_a_s0, moved_through_a_s1, moved_through_a1, moved_through_a0]
theorem moved_through_ok (k q : Nat) (l : Bool) (es : List Ty.Ed) (S : Store) (w : D) (hw : srcOf w = some (.st (es.map EV))) : Ph (k + 2) i_moved_through [MD q l, w] S = .ok (MD (Tm.mvs l q es) l) S := by
  obtain ⟨o2', h⟩ := through_st k l w S es q none
  refine through_fin (o2' := o2') ?_
  unfold moved_through_a_s0
  rw [evS_forr]
  simp only [evI_seq, ev_var, getD_succ, getD_zero, lift_some, Out.bind_ok, hw, liftO_some, exS_ok]
  exact h
theorem moved_through_obj (k q : Nat) (l : Bool) (es : List Ty.Ed) (S : Store) {n : Nat} (hn : S[n]? = some (.lst (es.map EV))) (hl : es.length ≤ 1000000) : Ph (k + 2) i_moved_through [MD q l, .obj n] S = .ok (MD (Tm.mvs l q es) l) S := by
  obtain ⟨δ', S', h, p1, p2⟩ := forV_inv (n := n) (body := turnS (GG (k + 1)) (.nm 2) moved_through_b0) (ds := es.map EV) (fun i δ T => (∃ o, δ = [some (MD (Tm.mvs l q (es.take i)) l), some (.obj n), o]) ∧ T = S) (fun i δ T h => by rw [h.2]; exact hn)
    (fun i x δ T hx h => by
      obtain ⟨⟨o, rfl⟩, rfl⟩ := h
      rw [List.getElem?_map, Option.map_eq_some_iff] at hx
      obtain ⟨e, he, rfl⟩ := hx
      refine ⟨_, T, through_turn k _ l e _ _ T, ⟨some (EV e), ?_⟩, rfl⟩
      have : es.take (i + 1) = es.take i ++ [e] := by rw [List.take_add_one, he]; rfl
      rw [this]
      unfold Tm.mvs
      rw [List.foldl_append]; rfl) (δ := [some (MD q l), some (.obj n), none]) (S := S) ⟨⟨none, by simp [Tm.mvs]⟩, rfl⟩ (K := manyT) (by rw [List.length_map]; unfold manyT; omega)
  obtain ⟨o, rfl⟩ := p1
  subst p2
  rw [List.length_map, List.take_length] at h
  refine through_fin (o2' := o) ?_
  unfold moved_through_a_s0
  rw [evS_forr]
  simp only [evI_seq, ev_var, getD_succ, getD_zero, lift_some, Out.bind_ok, src_obj, liftO_some, exS_ok]
  exact h
/-- a mark in a text so long -/
def markB (n : Nat) (v : D) : Bool := match v with
  | .tup [q, .str s] => numB q 0 n && (decide (s = sd true) || decide (s = sd false))
  | _ => false
theorem markB_MD {n q : Nat} (l : Bool) (h : q ≤ n) : markB n (MD q l) = true := by
  unfold markB MD
  simp only
  have : numB (.int (q : Int)) 0 (n : Int) = true := by unfold numB; simp; omega
  rw [this]
  cases l <;> simp [sd]
theorem is_mark_ok (k n : Nat) {v : D} (hv : v.plain = true) (S : Store) : Ph (k + 2) i_is_mark [.int (n : Int), v] S = .ok (.bl (markB n v)) S := by
  rw [ph_is_mark]
  by_cases ht : ∃ a b, v = .tup [a, b]
  · obtain ⟨a, b, rfl⟩ := ht
    simp only [plain_tup, plains_cons, plains_nil, Bool.and_true, Bool.and_eq_true] at hv
    have e0 := is_number_ok k hv.1 0 (n : Int) S
    cases hn : numB a 0 (n : Int) with
    | false =>
      rw [hn] at e0
      have : markB n (.tup [a, b]) = false := by
        unfold markB
        split
        · rename_i heq
          cases heq
          rw [hn]; rfl
        · rfl
      rw [this]
      simp [d_is_mark_b, is_mark_b_s0, is_mark_b0, is_mark_a_s0, is_mark_a_s1, is_mark_a1, is_mark_a0, e0]
    | true =>
      rw [hn] at e0
      have key : ∀ b : D, isinF b "str" S = some (.bl false) → (∀ s, b ≠ .str s) → runF (GG (k + 1)) true d_is_mark_b 2 [.int (n : Int), .tup [a, b]] S = .ok (.bl (markB n (.tup [a, b]))) S := fun b h1 h2 => by
        have : markB n (.tup [a, b]) = false := by
          unfold markB
          split
          · rename_i heq
            cases heq
            exact absurd rfl (h2 _)
          · rfl
        rw [this]
        simp [d_is_mark_b, is_mark_b_s0, is_mark_b0, is_mark_a_s0, is_mark_a_s1, is_mark_a1, is_mark_a0, e0, h1]
      cases b with
      | str s =>
        have e1 : markB n (.tup [a, .str s]) = (decide (s = sd true) || decide (s = sd false)) := by
          unfold markB; simp only [hn, Bool.true_and]
        have e2 : cmpF .in_ (.str s) (.tup [.str [108, 101, 102, 116], .str [114, 105, 103, 104, 116]]) S = some (.bl (decide (s = sd true) || decide (s = sd false))) := by
          rw [in_tup]
          simp [D.rd, D.depth, D.eqv, sd, eq_comm]
        rw [e1]
        simp [d_is_mark_b, is_mark_b_s0, is_mark_b0, is_mark_a_s0, is_mark_a_s1, is_mark_a1, is_mark_a0, e0, e2]
      | non => exact key _ rfl (fun s h => by cases h)
      | bl _ => exact key _ rfl (fun s h => by cases h)
      | int _ => exact key _ rfl (fun s h => by cases h)
      | tup _ => exact key _ rfl (fun s h => by cases h)
      | lst _ => exact key _ rfl (fun s h => by cases h)
      | rol _ => exact key _ rfl (fun s h => by cases h)
      | dic _ _ => simp [D.plain] at hv
      | st _ => simp [D.plain] at hv
      | obj _ => simp [D.plain] at hv
      | dob _ => simp [D.plain] at hv
      | exn _ => simp [D.plain] at hv
  · have hm : markB n v = false := by
      unfold markB
      split
      · rename_i heq
        exact absurd ⟨_, _, rfl⟩ ht
      · rfl
    rw [hm]
    cases v with
    | tup ds =>
      have hl : ¬ (ds.length : Int) = 2 := by
        intro e
        match ds, e with
        | [a, b], _ => exact ht ⟨a, b, rfl⟩
        | [], e => simp at e
        | [_], e => simp at e
        | _ :: _ :: _ :: _, e => simp at e; omega
      simp [d_is_mark_b, is_mark_b_s0, is_mark_b0, is_mark_a_s0, is_mark_a_s1, is_mark_a1, is_mark_a0, hl]
    | _ => first | (simp [d_is_mark_b, is_mark_b_s0, is_mark_b0, is_mark_a_s0, is_mark_a_s1, is_mark_a1, is_mark_a0]; done) | (simp [D.plain] at hv; done)
end Law

set_option Elab.async false
set_option linter.all false
set_option maxRecDepth 100000
set_option maxHeartbeats 0
namespace Law
open PySem PySem.Spec PyProof.Rows L2 PD
theorem moved_at_once_ok (k q : Nat) (l : Bool) {t : List Nat} {es : List Ty.Ed} (h : Are t es) (S : Store) : Ph (k + 7) i_moved_at_once [.str t, MD q l, .tup (es.map EV)] S = .ok (MD (Tm.mvs l q (Ty.turns 0 0 es)) l) S := by
  have e1 := in_turn_ok k h S
  have e2 := moved_through_ok (k + 4) q l (Ty.turns 0 0 es) S (.tup ((Ty.turns 0 0 es).map EV)) rfl
  have pl := MD_plain (Tm.mvs l q (Ty.turns 0 0 es)) l
  rw [ph_moved_at_once]
  generalize (Ty.turns 0 0 es).map EV = L at *
  generalize es.map EV = L0 at *
  generalize MD (Tm.mvs l q (Ty.turns 0 0 es)) l = R at *
  generalize MD q l = M at *
  simp [d_moved_at_once_b, moved_at_once_a_s0, moved_at_once_a0, e1, e2, fin_plain pl]
theorem moved_at_once_bad (k : Nat) {t : List Nat} {m v : D} (hv : v.plain = true) (h : areB t v = false) (S : Store) : Ph (k + 7) i_moved_at_once [.str t, m, v] S = .exc "Malformed" S := by
  have e1 := in_turn_bad k hv h S
  rw [ph_moved_at_once]
  simp [d_moved_at_once_b, moved_at_once_a_s0, moved_at_once_a0, e1]
/-- a pair of an old and a new place -/
abbrev PR (p : Nat × Int) : D := .tup [.int (p.1 : Int), .int p.2]
theorem prs_plain (l : List (Nat × Int)) : D.plains (l.map PR) = true := by
  rw [plains_iff]
  intro x hx
  obtain ⟨p, _, rfl⟩ := List.mem_map.mp hx
  rfl
theorem rngL_range' (a b : Nat) : rngL (a : Int) (b : Int) = (List.range' a (b - a)).map fun (i : Nat) => D.int (i : Int) := by
  unfold rngL
  rw [show (((b : Int) - (a : Int))).toNat = b - a by omega, List.range'_eq_map_range, List.map_map]
  refine List.map_congr_left fun i _ => ?_
  simp
theorem pair_comp (k : Nat) {e : Ex} {δ : DEnv} {S : Store} {a b : Nat} {m : Int} (h4 : getD δ 4 = some (.int (a : Int))) (h3 : getD δ 3 = some (.int m)) (hδ : 8 < δ.length) (he : ev (GG k) e δ S = .ok (.int (b : Int)) S) (ha : a ≤ 1000000) (hb : b ≤ 1000000) :
    ev (GG k) (.comp (.tup (.cons (.var 8) (.cons (.bin .add (.var 8) (.var 3)) .nil))) (.nm 8) (.rng2 (.var 4) e) .nil false) δ S = .ok (.lst (((List.range' a (b - a)).map fun (i : Nat) => ((i, (i : Int) + m) : Nat × Int)).map PR)) S := by
  rw [comp_pure (ds := (List.range' a (b - a)).map fun (i : Nat) => D.int (i : Int)) (fun d => match d with | .int i => some (.tup [.int i, .int (i + m)]) | _ => none) (by
      rw [it_rng2 (S1 := S) (S2 := S) (a := (a : Int)) (b := (b : Int)) (by simp [h4]) he (by omega), rngL_range']) (fun x hx => by
      obtain ⟨i, _, rfl⟩ := List.mem_map.mp hx
      have g8 : getD (δ.set 8 (some (.int (i : Int)))) 8 = some (.int (i : Int)) := by
        unfold getD
        rw [List.getElem?_set_self hδ]
      have g3 : getD (δ.set 8 (some (.int (i : Int)))) 3 = some (.int m) := by
        rw [← h3]
        unfold getD
        rw [List.getElem?_set_ne (by omega)]
      rw [turn_el]
      simp [g8, g3]) (by simp; omega)]
  congr 2
  rw [List.filterMap_map, List.map_map]
  rw [← List.filterMap_eq_map]
  rfl
theorem hold_loop (k : Nat) (t : List Nat) (w : D) (S : Store) (ht : t.length ≤ 100000) : ∀ (r : List Ty.Ed) (at_ : Nat) (m : Int) (done : List (Nat × Int)) (o5 o6 o7 o8 : Option D), Ty.sp t.length at_ r → at_ ≤ t.length → done.length ≤ at_ →
    ∃ (at' : Nat) (m' : Int) (dn : List (Nat × Int)) (o5' o6' o7' o8' : Option D), at' ≤ t.length ∧ dn.length ≤ at' ∧ dn ++ Tm.gaps t.length at' m' [] = done ++ Tm.gaps t.length at_ m r ∧
      forL (turnS (GG k) (.tp [5, 6, 7]) hold_of_b0) (r.map EV) [some (.str t), some w, some (.obj S.length), some (.int m), some (.int (at_ : Int)), o5, o6, o7, o8] (S ++ [.lst (done.map PR)]) = .ok (.nx [some (.str t), some w, some (.obj S.length), some (.int m'), some (.int (at' : Int)), o5', o6', o7', o8']) (S ++ [.lst (dn.map PR)])
  | [], at_, m, done, o5, o6, o7, o8, _, h1, h2 => ⟨at_, m, done, o5, o6, o7, o8, h1, h2, rfl, rfl⟩
  | e :: r, at_, m, done, o5, o6, o7, o8, ⟨h1, h2, h3⟩, hat, hd => by
    have hnew : (done ++ (List.range' at_ (e.p - at_)).map fun (i : Nat) => ((i, (i : Int) + m) : Nat × Int)).length ≤ e.p + e.g := by
      rw [List.length_append, List.length_map, List.length_range']; omega
    obtain ⟨at', m', dn, o5', o6', o7', o8', q1, q2, q3, ih⟩ := hold_loop k t w S ht r (e.p + e.g) (m + e.c.length - e.g) (done ++ (List.range' at_ (e.p - at_)).map fun (i : Nat) => ((i, (i : Int) + m) : Nat × Int)) (some (.int (e.p : Int))) (some (.int (e.g : Int))) (some (.str e.c)) o8 (Ty.sp_mono (by omega) h3) h2 hnew
    refine ⟨at', m', dn, o5', o6', o7', o8', q1, q2, ?_, ?_⟩
    · rw [q3]
      show _ = done ++ (_ ++ _)
      rw [List.append_assoc]
    · rw [List.map_cons]
      unfold forL
      have pc := pair_comp k (e := .var 5) (δ := [some (.str t), some w, some (.obj S.length), some (.int m), some (.int (at_ : Int)), some (.int (e.p : Int)), some (.int (e.g : Int)), some (.str e.c), o8]) (S := S ++ [.lst (done.map PR)]) (a := at_) (b := e.p) (m := m) rfl rfl (by simp) (by simp) (by omega) (by omega)
      have ex := top_ext (S := S) (ds := done.map PR) (es := ((List.range' at_ (e.p - at_)).map fun (i : Nat) => ((i, (i : Int) + m) : Nat × Int)).map PR) (x := .lst (((List.range' at_ (e.p - at_)).map fun (i : Nat) => ((i, (i : Int) + m) : Nat × Int)).map PR)) rfl (by rw [pures_all]; exact plains_pures (prs_plain _)) (by simp; omega)
      have b : turnS (GG k) (.tp [5, 6, 7]) hold_of_b0 (EV e) [some (.str t), some w, some (.obj S.length), some (.int m), some (.int (at_ : Int)), o5, o6, o7, o8] (S ++ [.lst (done.map PR)]) = .ok (.nx [some (.str t), some w, some (.obj S.length), some (.int (m + e.c.length - e.g)), some (.int ((e.p + e.g : Nat) : Int)), some (.int (e.p : Int)), some (.int (e.g : Int)), some (.str e.c), o8]) (S ++ [.lst ((done ++ (List.range' at_ (e.p - at_)).map fun (i : Nat) => ((i, (i : Int) + m) : Nat × Int)).map PR)]) := by
        rw [turnS_tp rfl]
        show evSs (GG k) hold_of_b0 [some (.str t), some w, some (.obj S.length), some (.int m), some (.int (at_ : Int)), some (.int (e.p : Int)), some (.int (e.g : Int)), some (.str e.c), o8] _ = _
        have s0 : evS (GG k) hold_of_b_s0 [some (.str t), some w, some (.obj S.length), some (.int m), some (.int (at_ : Int)), some (.int (e.p : Int)), some (.int (e.g : Int)), some (.str e.c), o8] (S ++ [.lst (done.map PR)]) = .ok (.nx [some (.str t), some w, some (.obj S.length), some (.int m), some (.int (at_ : Int)), some (.int (e.p : Int)), some (.int (e.g : Int)), some (.str e.c), o8]) (S ++ [.lst ((done ++ (List.range' at_ (e.p - at_)).map fun (i : Nat) => ((i, (i : Int) + m) : Nat × Int)).map PR)]) := by
          rw [List.map_append]
          unfold hold_of_b_s0
          rw [evS_exp, ev_ext]
          simp only [ev_var, getD_succ, getD_zero, lift_some, Out.bind_ok, asO_obj, liftO_some]
          rw [pc, Out.bind_ok, ex, exS_ok]
        rw [hold_of_b0_e, step s0]
        generalize S ++ [C.lst ((done ++ (List.range' at_ (e.p - at_)).map fun (i : Nat) => ((i, (i : Int) + m) : Nat × Int)).map PR)] = S2
        simp [d_hold_of_b, hold_of_b_s0, hold_of_b_s1, hold_of_b1, hold_of_b0, hold_of_a_s0, hold_of_a_s1, hold_of_a_s2, hold_of_a_s3, hold_of_a_s4, hold_of_a_s5, hold_of_a5, hold_of_a4, hold_of_a3, hold_of_a2, hold_of_a1, hold_of_a0]
      rw [b, turnF_nx, ih]
theorem hold_of_ok (k : Nat) {t : List Nat} {es : List Ty.Ed} (h : Are t es) (ht : t.length ≤ 100000) (S : Store) : Ph (k + 6) i_hold_of [.str t, .tup (es.map EV)] S = .ok (.tup ((Tm.held es 0 t.length 0).map PR)) S := by
  have ck := check_edits_ok k h S
  obtain ⟨at', m', dn, o5, o6, o7, o8, q1, q2, q3, lp⟩ := hold_loop (k + 5) t (.tup (es.map EV)) S ht es 0 0 [] none none none none h.sp (Nat.zero_le _) (Nat.le_refl _)
  rw [List.nil_append, Tm.gaps_held (Nat.zero_le _) h.sp, Nat.sub_zero] at q3
  have gp : Tm.gaps t.length at' m' [] = (List.range' at' (t.length - at')).map fun (i : Nat) => (i, (i : Int) + m') := rfl
  rw [gp] at q3
  rw [ph_hold_of]
  refine (run_rt (S' := S ++ [.lst ((Tm.held es 0 t.length 0).map PR)]) (d := .tup ((Tm.held es 0 t.length 0).map PR)) ?_).trans (by rw [PD.fin_tup (prs_plain _), List.take_left])
  simp only [startD_s, startD_0, List.replicate]
  show evSs (GG (k + 5)) hold_of_a0 _ _ = _
  rw [hold_of_a0_e]
  rw [step (δ1 := [some (.str t), some (.tup (es.map EV)), none, none, none, none, none, none, none]) (S1 := S) (by simp [hold_of_a_s0, ck])]
  rw [hold_of_a1_e, step (δ1 := [some (.str t), some (.tup (es.map EV)), some (.obj S.length), none, none, none, none, none, none]) (S1 := S ++ [.lst []]) (by simp [hold_of_a_s1, new_top])]
  rw [hold_of_a2_e, step (δ1 := [some (.str t), some (.tup (es.map EV)), some (.obj S.length), some (.int 0), some (.int 0), none, none, none, none]) (S1 := S ++ [.lst []]) (by simp [hold_of_a_s2])]
  rw [hold_of_a3_e, step (δ1 := [some (.str t), some (.tup (es.map EV)), some (.obj S.length), some (.int m'), some (.int (at' : Int)), o5, o6, o7, o8]) (S1 := S ++ [.lst (dn.map PR)]) (by
    unfold hold_of_a_s3
    rw [evS_forr]
    simp only [evI_seq, ev_var, getD_succ, getD_zero, lift_some, Out.bind_ok, src_tup, liftO_some, exS_ok]
    exact lp)]
  have pc := pair_comp (k + 5) (e := .bif .len (.cons (.var 0) .nil)) (δ := [some (.str t), some (.tup (es.map EV)), some (.obj S.length), some (.int m'), some (.int (at' : Int)), o5, o6, o7, o8]) (S := S ++ [.lst (dn.map PR)]) (a := at') (b := t.length) (m := m') rfl rfl (by simp) (by simp) (by omega) (by omega)
  have ex := top_ext (S := S) (ds := dn.map PR) (es := ((List.range' at' (t.length - at')).map fun (i : Nat) => ((i, (i : Int) + m') : Nat × Int)).map PR) (x := .lst (((List.range' at' (t.length - at')).map fun (i : Nat) => ((i, (i : Int) + m') : Nat × Int)).map PR)) rfl (by rw [pures_all]; exact plains_pures (prs_plain _)) (by simp; omega)
  rw [← List.map_append, q3] at ex
  rw [hold_of_a4_e, step (δ1 := [some (.str t), some (.tup (es.map EV)), some (.obj S.length), some (.int m'), some (.int (at' : Int)), o5, o6, o7, o8]) (S1 := S ++ [.lst ((Tm.held es 0 t.length 0).map PR)]) (by
    unfold hold_of_a_s4
    rw [evS_exp, ev_ext]
    simp only [ev_var, getD_succ, getD_zero, lift_some, Out.bind_ok, asO_obj, liftO_some]
    rw [pc, Out.bind_ok, ex, exS_ok])]
  rw [hold_of_a5_e]
  simp [hold_of_a_s5, tuple_top]
theorem hold_of_bad (k : Nat) {t : List Nat} {v : D} (hv : v.plain = true) (h : areB t v = false) (S : Store) : Ph (k + 6) i_hold_of [.str t, v] S = .exc "Malformed" S := by
  have e1 := check_edits_bad k hv h S
  rw [ph_hold_of]
  simp [d_hold_of_b, hold_of_b_s0, hold_of_b_s1, hold_of_b1, hold_of_b0, hold_of_a_s0, hold_of_a_s1, hold_of_a_s2, hold_of_a_s3, hold_of_a_s4, hold_of_a_s5, hold_of_a5, hold_of_a4, hold_of_a3, hold_of_a2, hold_of_a1, hold_of_a0, e1]
end Law

set_option Elab.async false
set_option linter.all false
set_option maxRecDepth 100000
set_option maxHeartbeats 0
namespace Law
open PySem PySem.Spec PyProof.Rows L2 PD
def covD (i : Nat) (d : D) : Option D := match d with
  | .tup [.int p, .int g, _] => if p ≤ (i : Int) ∧ (i : Int) < p + g then some d else none
  | _ => none
def endD (i : Nat) (d : D) : Option D := match d with
  | .tup [.int p, .int g, .str c] => if p + g ≤ (i : Int) then some (.int ((c.length : Int) - g)) else none
  | _ => none
theorem cov_comp (k : Nat) {δ : DEnv} {S : Store} {es : List Ty.Ed} {i : Nat} (h1 : getD δ 1 = some (.tup (es.map EV))) (h3 : getD δ 3 = some (.int (i : Int))) (hδ : 5 < δ.length) (hl : es.length ≤ 1000000) :
    tst (GG k) (.cmp .eq (.comp (.var 5) (.nm 5) (.seq (.var 1)) (.cons (.chn .le .lt (.idx (.var 5) (.cst (.int 0))) (.var 3) (.bin .add (.idx (.var 5) (.cst (.int 0))) (.idx (.var 5) (.cst (.int 1))))) .nil) false) (.lst .nil)) δ S = .ok (!Ty.cov es i) S := by
  have ec : ev (GG k) (.comp (.var 5) (.nm 5) (.seq (.var 1)) (.cons (.chn .le .lt (.idx (.var 5) (.cst (.int 0))) (.var 3) (.bin .add (.idx (.var 5) (.cst (.int 0))) (.idx (.var 5) (.cst (.int 1))))) .nil) false) δ S = .ok (.lst ((es.map EV).filterMap (covD i))) S := by
    refine comp_pure (covD i) (by simp [h1]) (fun x hx => ?_) (by simp; omega)
    obtain ⟨e, _, rfl⟩ := List.mem_map.mp hx
    have g5 : getD (δ.set 5 (some (EV e))) 5 = some (EV e) := by
      unfold getD; rw [List.getElem?_set_self hδ]
    have g3 : getD (δ.set 5 (some (EV e))) 3 = some (.int (i : Int)) := by
      rw [← h3]; unfold getD; rw [List.getElem?_set_ne (by omega)]
    rw [turn_if (S1 := S) (b := decide (e.p ≤ i ∧ i < e.p + e.g)) (by
      by_cases z : e.p ≤ i
      · have z' : (e.p : Int) ≤ (i : Int) := by omega
        have z2 : ((i : Int) < (e.p : Int) + (e.g : Int)) ↔ i < e.p + e.g := by omega
        simp [g5, g3, z, z', z2]
      · have z' : ¬ (e.p : Int) ≤ (i : Int) := by omega
        simp [g5, g3, z, z'])]
    have cd : covD i (EV e) = if e.p ≤ i ∧ i < e.p + e.g then some (EV e) else none := by
      show (if (e.p : Int) ≤ (i : Int) ∧ (i : Int) < (e.p : Int) + (e.g : Int) then some (EV e) else none) = _
      have : ((e.p : Int) ≤ (i : Int) ∧ (i : Int) < (e.p : Int) + (e.g : Int)) ↔ (e.p ≤ i ∧ i < e.p + e.g) := by omega
      simp only [this]
    rw [cd]
    by_cases z : e.p ≤ i ∧ i < e.p + e.g
    · simp only [z, decide_true, if_true, List.set_set]
      simp [g5]
    · simp only [z, decide_false, if_false, Bool.false_eq_true]
  have em : ((es.map EV).filterMap (covD i)).isEmpty = !Ty.cov es i := by
    clear ec h1
    induction es with
    | nil => rfl
    | cons e es ih =>
      have ih' := ih (by simp at hl; omega)
      rw [List.map_cons, List.filterMap_cons, Tm.cov_cons]
      have cd : covD i (EV e) = if e.p ≤ i ∧ i < e.p + e.g then some (EV e) else none := by
        show (if (e.p : Int) ≤ (i : Int) ∧ (i : Int) < (e.p : Int) + (e.g : Int) then some (EV e) else none) = _
        have : ((e.p : Int) ≤ (i : Int) ∧ (i : Int) < (e.p : Int) + (e.g : Int)) ↔ (e.p ≤ i ∧ i < e.p + e.g) := by omega
        simp only [this]
      rw [cd]
      by_cases z : e.p ≤ i ∧ i < e.p + e.g
      · simp [z.1, z.2]
      · rw [if_neg z]
        simp only [ih']
        have : (decide (e.p ≤ i) && decide (i < e.p + e.g)) = false := by simp; omega
        rw [this, Bool.false_or]
  have pl : D.plains ((es.map EV).filterMap (covD i)) = true := by
    rw [plains_iff]
    intro x hx
    obtain ⟨y, hy, hx⟩ := List.mem_filterMap.mp hx
    obtain ⟨e, _, rfl⟩ := List.mem_map.mp hy
    change (if (e.p : Int) ≤ (i : Int) ∧ (i : Int) < (e.p : Int) + (e.g : Int) then some (EV e) else none) = _ at hx
    split at hx
    · cases hx; rfl
    · cases hx
  have q := eq_nil S pl
  rw [em] at q
  rw [tst_cmp, ec, Out.bind_ok]
  generalize (es.map EV).filterMap (covD i) = F at *
  simp [q]
theorem sum_comp (k : Nat) {δ : DEnv} {S : Store} {es : List Ty.Ed} {i : Nat} (h1 : getD δ 1 = some (.tup (es.map EV))) (h3 : getD δ 3 = some (.int (i : Int))) (hδ : 5 < δ.length) (hl : es.length ≤ 1000000) :
    ev (GG k) (.bif .sum (.cons (.comp (.bin .sub (.bif .len (.cons (.idx (.var 5) (.cst (.int 2))) .nil)) (.idx (.var 5) (.cst (.int 1)))) (.nm 5) (.seq (.var 1)) (.cons (.cmp .le (.bin .add (.idx (.var 5) (.cst (.int 0))) (.idx (.var 5) (.cst (.int 1)))) (.var 3)) .nil) false) .nil)) δ S = .ok (.int (Tm.sh es i)) S := by
  have ec : ev (GG k) (.comp (.bin .sub (.bif .len (.cons (.idx (.var 5) (.cst (.int 2))) .nil)) (.idx (.var 5) (.cst (.int 1)))) (.nm 5) (.seq (.var 1)) (.cons (.cmp .le (.bin .add (.idx (.var 5) (.cst (.int 0))) (.idx (.var 5) (.cst (.int 1)))) (.var 3)) .nil) false) δ S = .ok (.lst ((es.map EV).filterMap (endD i))) S := by
    refine comp_pure (endD i) (by simp [h1]) (fun x hx => ?_) (by simp; omega)
    obtain ⟨e, _, rfl⟩ := List.mem_map.mp hx
    have g5 : getD (δ.set 5 (some (EV e))) 5 = some (EV e) := by
      unfold getD; rw [List.getElem?_set_self hδ]
    have g3 : getD (δ.set 5 (some (EV e))) 3 = some (.int (i : Int)) := by
      rw [← h3]; unfold getD; rw [List.getElem?_set_ne (by omega)]
    rw [turn_if (S1 := S) (b := decide (e.p + e.g ≤ i)) (by
      have z2 : ((e.p : Int) + (e.g : Int) ≤ (i : Int)) ↔ e.p + e.g ≤ i := by omega
      simp [g5, g3, z2])]
    have cd : endD i (EV e) = if e.p + e.g ≤ i then some (.int ((e.c.length : Int) - e.g)) else none := by
      show (if (e.p : Int) + (e.g : Int) ≤ (i : Int) then some (D.int ((e.c.length : Int) - (e.g : Int))) else none) = _
      have : ((e.p : Int) + (e.g : Int) ≤ (i : Int)) ↔ (e.p + e.g ≤ i) := by omega
      simp only [this]
    rw [cd]
    by_cases z : e.p + e.g ≤ i
    · simp only [z, decide_true, if_true, List.set_set]
      simp [g5]
    · simp only [z, decide_false, if_false, Bool.false_eq_true]
  have em : (es.map EV).filterMap (endD i) = ((es.filter fun e => decide (e.p + e.g ≤ i)).map fun e => (e.c.length : Int) - e.g).map D.int := by
    clear ec h1
    induction es with
    | nil => rfl
    | cons e es ih =>
      have ih' := ih (by simp at hl; omega)
      rw [List.map_cons, List.filterMap_cons, List.filter_cons]
      have cd : endD i (EV e) = if e.p + e.g ≤ i then some (.int ((e.c.length : Int) - e.g)) else none := by
        show (if (e.p : Int) + (e.g : Int) ≤ (i : Int) then some (D.int ((e.c.length : Int) - (e.g : Int))) else none) = _
        have : ((e.p : Int) + (e.g : Int) ≤ (i : Int)) ↔ (e.p + e.g ≤ i) := by omega
        simp only [this]
      rw [cd]
      by_cases z : e.p + e.g ≤ i
      · simp only [z, decide_true, if_true, List.map_cons, ih']
      · simp only [z, decide_false, if_false, Bool.false_eq_true, ih']
  have sm := sum_lst ((es.filter fun e => decide (e.p + e.g ≤ i)).map fun e => (e.c.length : Int) - e.g) S
  rw [ev_bif, evs_cons, ec, em, Out.bind_ok]
  unfold Tm.sh
  generalize ((es.filter fun e => decide (e.p + e.g ≤ i)).map fun e => (e.c.length : Int) - e.g).map D.int = F at *
  simp [sm]
theorem law_held_ok (k : Nat) {t : List Nat} {es : List Ty.Ed} (hl : es.length ≤ 1000000) (ht : t.length ≤ 100000) (S : Store) : Ph (k + 1) i_law_held [.str t, .tup (es.map EV)] S = .ok (.st ((Tm.held es 0 t.length 0).map PR)) S := by
  have lp := forL_step (body := turnS (GG k) (.nm 3) law_held_b0) (ds := (List.range t.length).map fun (i : Nat) => D.int (i : Int)) (fun i δ T => (∃ o3 o4 o5, δ = [some (.str t), some (.tup (es.map EV)), some (.obj S.length), o3, o4, o5]) ∧ T = S ++ [.lst ((Tm.held es 0 i 0).map PR)] ∧ i ≤ t.length)
    (fun i x δ T hx h => by
      obtain ⟨⟨o3, o4, o5, rfl⟩, rfl, hi⟩ := h
      rw [List.getElem?_map, Option.map_eq_some_iff] at hx
      obtain ⟨j, hj, rfl⟩ := hx
      obtain ⟨hlt, e⟩ := List.getElem?_eq_some_iff.mp hj
      rw [List.length_range] at hlt
      rw [List.getElem_range] at e
      subst e
      have lH : (Tm.held es 0 i 0).length ≤ i := by
        unfold Tm.held
        rw [List.length_map]
        exact Nat.le_trans (List.length_filter_le _ _) (by simp)
      have q1 := cov_comp k (δ := [some (.str t), some (.tup (es.map EV)), some (.obj S.length), some (.int (i : Int)), o4, o5]) (S := S ++ [.lst ((Tm.held es 0 i 0).map PR)]) (es := es) (i := i) rfl rfl (by simp) hl
      have q2 := sum_comp k (δ := [some (.str t), some (.tup (es.map EV)), some (.obj S.length), some (.int (i : Int)), o4, o5]) (S := S ++ [.lst ((Tm.held es 0 i 0).map PR)]) (es := es) (i := i) rfl rfl (by simp) hl
      rw [turnS_nm]
      show ∃ δ' S', evSs (GG k) law_held_b0 [some (.str t), some (.tup (es.map EV)), some (.obj S.length), some (.int (i : Int)), o4, o5] _ = _ ∧ _
      have hs : Tm.held es 0 (i + 1) 0 = Tm.held es 0 i 0 ++ Tm.held es i 1 0 := by rw [Tm.held_app, Nat.zero_add]
      have h1 : Tm.held es i 1 0 = if Ty.cov es i = true then [] else [((i, (i : Int) + Tm.sh es i) : Nat × Int)] := by
        unfold Tm.held
        simp only [List.range'_one, List.filter_cons, List.filter_nil]
        cases Ty.cov es i <;> simp
      rw [hs, h1]
      cases hc : Ty.cov es i with
      | true =>
        rw [hc] at q1
        refine ⟨[some (.str t), some (.tup (es.map EV)), some (.obj S.length), some (.int (i : Int)), o4, o5], S ++ [.lst ((Tm.held es 0 i 0).map PR)], ?_, ⟨_, _, _, rfl⟩, by rw [if_pos rfl, List.append_nil], hlt⟩
        rw [law_held_b0_e]
        refine (step (iff_n q1)).trans evSs_nil
      | false =>
        rw [hc] at q1
        have ap := app_top (S := S) (ds := (Tm.held es 0 i 0).map PR) (v := PR (i, (i : Int) + Tm.sh es i)) rfl (by rw [List.length_map]; omega)
        refine ⟨[some (.str t), some (.tup (es.map EV)), some (.obj S.length), some (.int (i : Int)), some (.int (Tm.sh es i)), o5], S ++ [.lst ((Tm.held es 0 i 0 ++ [((i, (i : Int) + Tm.sh es i) : Nat × Int)]).map PR)], ?_, ⟨some (.int (i : Int)), some (.int (Tm.sh es i)), o5, rfl⟩, by rw [if_neg Bool.false_ne_true], hlt⟩
        rw [List.map_append]
        rw [law_held_b0_e]
        refine (step (iff_t q1 ?_)).trans evSs_nil
        rw [law_held_c0_e]
        rw [step (s := law_held_c_s0) (δ1 := [some (.str t), some (.tup (es.map EV)), some (.obj S.length), some (.int (i : Int)), some (.int (Tm.sh es i)), o5]) (S1 := S ++ [.lst ((Tm.held es 0 i 0).map PR)]) (by
          unfold law_held_c_s0
          rw [evS_set, q2, exS_ok]; rfl)]
        generalize (Tm.held es 0 i 0).map PR = F at *
        generalize Tm.sh es i = Z at *
        simp [law_held_c1_e, law_held_c_s1, ap])
    (δ := [some (.str t), some (.tup (es.map EV)), some (.obj S.length), none, none, none]) (S := S ++ [.lst []]) ⟨⟨none, none, none, rfl⟩, rfl, Nat.zero_le _⟩
  obtain ⟨δ', S', lp, ⟨o3, o4, o5, rfl⟩, rfl, _⟩ := lp
  rw [List.length_map, List.length_range] at lp
  rw [ph_law_held]
  have pp : (D.st ((Tm.held es 0 t.length 0).map PR)).pure = true := by
    show D.pures _ = true
    exact plains_pures (prs_plain _)
  refine (run_rt (S' := S ++ [.lst ((Tm.held es 0 t.length 0).map PR)]) (d := .st ((Tm.held es 0 t.length 0).map PR)) ?_).trans (by rw [fin_pure pp, List.take_left])
  simp only [startD_s, startD_0, List.replicate]
  show evSs (GG k) law_held_a0 _ _ = _
  have it := it_rng1 (G := GG k) (e := .bif .len (.cons (.var 0) .nil)) (δ := [some (.str t), some (.tup (es.map EV)), some (.obj S.length), none, none, none]) (S := S ++ [.lst []]) (S1 := S ++ [.lst []]) (n := t.length) (by simp) (by omega)
  rw [law_held_a0_e, step (δ1 := [some (.str t), some (.tup (es.map EV)), some (.obj S.length), none, none, none]) (S1 := S ++ [.lst []]) (by simp [law_held_a_s0, new_top])]
  rw [law_held_a1_e, step (δ1 := [some (.str t), some (.tup (es.map EV)), some (.obj S.length), o3, o4, o5]) (S1 := S ++ [.lst ((Tm.held es 0 t.length 0).map PR)]) (by
    unfold law_held_a_s1
    rw [evS_forr, it, exS_ok]
    exact lp)]
  rw [law_held_a2_e]
  have ls : D.lseq (S ++ [.lst ((Tm.held es 0 t.length 0).map PR)]) (.obj S.length) = some ((Tm.held es 0 t.length 0).map PR) := by simp [D.lseq]
  generalize (Tm.held es 0 t.length 0).map PR = F at *
  simp [law_held_a_s2, tupzF, ls]
end Law

set_option Elab.async false
set_option linter.all false
set_option maxRecDepth 100000
set_option maxHeartbeats 0
namespace Law
open PySem PySem.Spec PyProof.Rows L2 PD
abbrev IL (L : List Int) : D := .lst (L.map D.int)
theorem IL_get {L : List Int} {i : Nat} {x : Int} (h : L[i]? = some x) : L2.atI (L.map D.int) (i : Int) = some (.int x) := by
  rw [ix_nat, List.getElem?_map, h]; rfl
def news (b : Int) (n : Nat) : List Int := (List.range n).map fun (j : Nat) => b + (j : Int)
theorem law_signs_ok (k : Nat) (L : List Int) (e : Ty.Ed) (b : Int) (hL : L.length ≤ 100000) (hc : e.c.length ≤ 100000) (S : Store) : Ph (k + 1) i_law_signs [IL L, EV e, .int b] S = .ok (IL (Tm.sg L e (news b e.c.length))) S := by
  rw [ph_law_signs]
  have cx : ∀ (o : Option D), ev (GG k) (.comp (.bin .add (.var 2) (.var 3)) (.nm 3) (.rng1 (.bif .len (.cons (.idx (.var 1) (.cst (.int 2))) .nil))) .nil false) [some (IL L), some (EV e), some (.int b), o] S = .ok (IL (news b e.c.length)) S := fun o => by
    rw [comp_pure (ds := (List.range e.c.length).map fun (i : Nat) => D.int (i : Int)) (fun d => match d with | .int i => some (.int (b + i)) | _ => none) (it_rng1 (by simp) (by omega)) (fun x hx => by
      obtain ⟨i, _, rfl⟩ := List.mem_map.mp hx
      rw [turn_el]
      simp) (by simp; omega)]
    congr 2
    unfold news
    rw [List.filterMap_map, List.map_map, ← List.filterMap_eq_map]
    rfl
  have e1 : PD.cutD (L.map D.int) none (some (e.p : Int)) = (L.take e.p).map D.int := by rw [cutD_ton, List.map_take]
  have e2 : PD.cutD (L.map D.int) (some ((e.p : Int) + (e.g : Int))) none = (L.drop (e.p + e.g)).map D.int := by
    rw [show (e.p : Int) + (e.g : Int) = ((e.p + e.g : Nat) : Int) by omega, cutD_fromn, List.map_drop]
  have nl : (news b e.c.length).length = e.c.length := by unfold news; simp
  have a1 : binF .add (IL (L.take e.p)) (IL (news b e.c.length)) S = some (IL (L.take e.p ++ news b e.c.length)) := by
    rw [IL, IL, IL, List.map_append]
    exact b_add_lst S (by simp [nl]; omega)
  have a2 : binF .add (IL (L.take e.p ++ news b e.c.length)) (IL (L.drop (e.p + e.g))) S = some (IL (Tm.sg L e (news b e.c.length))) := by
    unfold Tm.sg
    rw [IL, IL, IL, List.map_append (l₂ := L.drop (e.p + e.g))]
    exact b_add_lst S (by simp [nl]; omega)
  have pl : (IL (Tm.sg L e (news b e.c.length))).plain = true := ints_plain _
  refine (run_rt (S' := S) (d := IL (Tm.sg L e (news b e.c.length))) ?_).trans (by rw [PD.fin_plain pl, List.take_length])
  simp only [startD_s, startD_0, List.replicate]
  show evSs (GG k) law_signs_a0 _ _ = _
  rw [law_signs_a0_e]
  refine step_rt (ret_of ?_)
  rw [ev_bin, ev_bin]
  have c1 : ∀ o : Option D, ev (GG k) (.cut (.var 0) .no (.ex (.idx (.var 1) (.cst (.int 0))))) [some (IL L), some (EV e), some (.int b), o] S = .ok (IL (L.take e.p)) S := fun o => by
    show ev (GG k) _ [some (.lst (L.map D.int)), some (EV e), some (.int b), o] S = Out.ok (D.lst ((L.take e.p).map D.int)) S
    rw [← e1]
    generalize L.map D.int = Q
    simp
  have c2 : ∀ o : Option D, ev (GG k) (.cut (.var 0) (.ex (.bin .add (.idx (.var 1) (.cst (.int 0))) (.idx (.var 1) (.cst (.int 1))))) .no) [some (IL L), some (EV e), some (.int b), o] S = .ok (IL (L.drop (e.p + e.g))) S := fun o => by
    show ev (GG k) _ [some (.lst (L.map D.int)), some (EV e), some (.int b), o] S = Out.ok (D.lst ((L.drop (e.p + e.g)).map D.int)) S
    rw [← e2]
    generalize L.map D.int = Q
    simp
  rw [c1, Out.bind_ok, cx, Out.bind_ok, a1, lift_some, Out.bind_ok, c2, Out.bind_ok, a2, lift_some]
theorem law_due_ok (k : Nat) (L L' : List Int) (q : Nat) (l : Bool) (e : Ty.Ed) (hq : q ≤ L.length) (S : Store) : Ph (k + 1) i_law_due [IL L, MD q l, EV e, IL L'] S = .ok (MD (Tm.due L L' q e l) l) S := by
  obtain ⟨p, g, c⟩ := e
  show Ph (k + 1) i_law_due [.lst (L.map D.int), MD q l, EV ⟨p, g, c⟩, .lst (L'.map D.int)] S = _
  rw [ph_law_due]
  have ls : D.lseq S (.lst (L'.map D.int)) = some (L'.map D.int) := rfl
  have ll : ((L.map D.int).length : Int) = (L.length : Int) := by simp
  have ll' : ((L'.map D.int).length : Int) = (L'.length : Int) := by simp
  have hin : ∀ x : Int, cmpF .in_ (.int x) (.lst (L'.map D.int)) S = some (.bl (decide (x ∈ L'))) := fun x => in_ints S
  unfold Tm.due
  cases l with
  | true =>
    simp only [if_true]
    by_cases z : q = 0
    · subst z
      simp only [if_true]
      by_cases zp : p = 0
      · subst zp
        generalize L.map D.int = Q at *
        generalize L'.map D.int = Q' at *
        simp [d_law_due_b, law_due_c_s0, law_due_c0, law_due_b_s0, law_due_b_s1, law_due_b1, law_due_b0, law_due_f_s0, law_due_f0, law_due_h_s0, law_due_h0, law_due_a_s0, law_due_a_s1, law_due_a_s2, law_due_a_s3, law_due_a_s4, law_due_a4, law_due_a3, law_due_a2, law_due_a1, law_due_a0, sd, E]
      · have zp' : (0 : Int) < (p : Int) := by omega
        have zp : 0 < p := by omega
        generalize L.map D.int = Q at *
        generalize L'.map D.int = Q' at *
        simp [d_law_due_b, law_due_c_s0, law_due_c0, law_due_b_s0, law_due_b_s1, law_due_b1, law_due_b0, law_due_f_s0, law_due_f0, law_due_h_s0, law_due_h0, law_due_a_s0, law_due_a_s1, law_due_a_s2, law_due_a_s3, law_due_a_s4, law_due_a4, law_due_a3, law_due_a2, law_due_a1, law_due_a0, sd, E, zp', zp]
    · rw [if_neg z]
      have hx : L[q - 1]? = some L[q - 1] := List.getElem?_eq_getElem (by omega)
      have ix : L2.atI (L.map D.int) ((q : Int) - 1) = some (.int L[q - 1]) := by
        rw [show (q : Int) - 1 = ((q - 1 : Nat) : Int) by omega]; exact IL_get hx
      have li := lidx_ints (x := L[q - 1]) (l := L') S
      have hi := hin L[q - 1]
      rw [hx]
      generalize L[q - 1] = X at *
      simp only
      have z1 : ¬ (q : Int) = 0 := by omega
      have z2 : (0 : Int) < (q : Int) := by omega
      have z3 : 0 < q := by omega
      by_cases m : X ∈ L'
      · have li := li m
        rw [if_pos m]
        show _ = Out.ok (D.tup [.int ((Tm.ix X L' + 1 : Nat) : Int), .str (sd true)]) S
        have e1 : ((Tm.ix X L' + 1 : Nat) : Int) = (Tm.ix X L' : Int) + 1 := by omega
        rw [e1]
        unfold Tm.ix
        simp only [m, decide_true] at hi
        generalize (L'.findIdx fun y => decide (y = X)) = Z at *
        generalize L.map D.int = Q at *
        generalize L'.map D.int = Q' at *
        simp [d_law_due_b, law_due_c_s0, law_due_c0, law_due_b_s0, law_due_b_s1, law_due_b1, law_due_b0, law_due_f_s0, law_due_f0, law_due_h_s0, law_due_h0, law_due_a_s0, law_due_a_s1, law_due_a_s2, law_due_a_s3, law_due_a_s4, law_due_a4, law_due_a3, law_due_a2, law_due_a1, law_due_a0, sd, E, z1, z2, z3, ix, hi, ls, li, z]
      · rw [if_neg m]
        simp only [m, decide_false] at hi
        generalize L.map D.int = Q at *
        generalize L'.map D.int = Q' at *
        simp [d_law_due_b, law_due_c_s0, law_due_c0, law_due_b_s0, law_due_b_s1, law_due_b1, law_due_b0, law_due_f_s0, law_due_f0, law_due_h_s0, law_due_h0, law_due_a_s0, law_due_a_s1, law_due_a_s2, law_due_a_s3, law_due_a_s4, law_due_a4, law_due_a3, law_due_a2, law_due_a1, law_due_a0, sd, E, z1, z2, z3, ix, hi, z]
  | false =>
    simp only [Bool.false_eq_true, if_false]
    by_cases z : q < L.length
    · have hx : L[q]? = some L[q] := List.getElem?_eq_getElem z
      have ix := IL_get hx
      have li := lidx_ints (x := L[q]) (l := L') S
      have hi := hin L[q]
      have z1 : (q : Int) < (L.length : Int) := by omega
      have z2 : ¬ (q : Int) = (L.length : Int) := by omega
      rw [hx]
      generalize L[q] = X at *
      simp only
      by_cases m : X ∈ L'
      · have li := li m
        rw [if_pos m]
        show _ = Out.ok (D.tup [.int ((Tm.ix X L' : Nat) : Int), .str (sd false)]) S
        unfold Tm.ix
        simp only [m, decide_true] at hi
        generalize (L'.findIdx fun y => decide (y = X)) = Z at *
        have z3 : q < (L.map D.int).length := by simpa using z
        rw [← ll] at z1
        generalize L.map D.int = Q at *
        generalize L'.map D.int = Q' at *
        simp [d_law_due_b, law_due_c_s0, law_due_c0, law_due_b_s0, law_due_b_s1, law_due_b1, law_due_b0, law_due_f_s0, law_due_f0, law_due_h_s0, law_due_h0, law_due_a_s0, law_due_a_s1, law_due_a_s2, law_due_a_s3, law_due_a_s4, law_due_a4, law_due_a3, law_due_a2, law_due_a1, law_due_a0, sd, E, z1, z3, ix, hi, ls, li]
      · rw [if_neg m]
        simp only [m, decide_false] at hi
        have z3 : q < (L.map D.int).length := by simpa using z
        have z4 : ¬ q = (L.map D.int).length := by omega
        rw [← ll] at z1 z2
        generalize L.map D.int = Q at *
        generalize L'.map D.int = Q' at *
        simp [d_law_due_b, law_due_c_s0, law_due_c0, law_due_b_s0, law_due_b_s1, law_due_b1, law_due_b0, law_due_f_s0, law_due_f0, law_due_h_s0, law_due_h0, law_due_a_s0, law_due_a_s1, law_due_a_s2, law_due_a_s3, law_due_a_s4, law_due_a4, law_due_a3, law_due_a2, law_due_a1, law_due_a0, sd, E, z1, z2, z3, z4, ix, hi]
    · have hn : L[q]? = none := List.getElem?_eq_none (by omega)
      have z1 : ¬ (q : Int) < (L.length : Int) := by omega
      have z2 : (q : Int) = (L.length : Int) := by omega
      rw [hn]
      simp only
      by_cases w : p + g < L.length
      · have w' : (p : Int) + (g : Int) < (L.length : Int) := by omega
        rw [if_pos w]
        show _ = Out.ok (D.tup [.int (L'.length : Int), .str (sd false)]) S
        have z3 : ¬ q < (L.map D.int).length := by simp; omega
        have z4 : q = (L.map D.int).length := by simp; omega
        rw [← ll] at z1 z2 w'
        rw [← ll']
        generalize L.map D.int = Q at *
        generalize L'.map D.int = Q' at *
        simp [d_law_due_b, law_due_c_s0, law_due_c0, law_due_b_s0, law_due_b_s1, law_due_b1, law_due_b0, law_due_f_s0, law_due_f0, law_due_h_s0, law_due_h0, law_due_a_s0, law_due_a_s1, law_due_a_s2, law_due_a_s3, law_due_a_s4, law_due_a4, law_due_a3, law_due_a2, law_due_a1, law_due_a0, sd, E, z1, z2, z3, z4, w']
      · have w' : ¬ (p : Int) + (g : Int) < (L.length : Int) := by omega
        rw [if_neg w]
        have z3 : ¬ q < (L.map D.int).length := by simp; omega
        have z4 : q = (L.map D.int).length := by simp; omega
        rw [← ll] at z1 z2 w'
        generalize L.map D.int = Q at *
        generalize L'.map D.int = Q' at *
        simp [d_law_due_b, law_due_c_s0, law_due_c0, law_due_b_s0, law_due_b_s1, law_due_b1, law_due_b0, law_due_f_s0, law_due_f0, law_due_h_s0, law_due_h0, law_due_a_s0, law_due_a_s1, law_due_a_s2, law_due_a_s3, law_due_a_s4, law_due_a4, law_due_a3, law_due_a2, law_due_a1, law_due_a0, sd, E, z1, z2, z3, z4, w']
end Law

set_option Elab.async false
set_option linter.all false
set_option maxRecDepth 100000
set_option maxHeartbeats 0
namespace Law
open PySem PySem.Spec PyProof.Rows L2 PD
theorem sp_snoc {n : Nat} : ∀ {es : List Ty.Ed} {lo q : Nat} {e : Ty.Ed}, Ty.sp n lo es → (∀ d ∈ es, d.p + d.g + 1 ≤ q) → lo ≤ e.p → q ≤ e.p → e.p + e.g ≤ n → Ty.sp n lo (es ++ [e])
  | [], lo, q, e, _, _, h1, _, h3 => ⟨h1, h3, trivial⟩
  | d :: es, lo, q, e, ⟨a, b, c⟩, hm, h1, h2, h3 => ⟨a, b, sp_snoc c (fun x hx => hm x (List.mem_cons_of_mem _ hx)) (by have := hm d List.mem_cons_self; omega) h2 h3⟩
theorem law_row_ok (T : Store) (k : Nat) (xs : List Int) {t : List Nat} (ht : t.length ≤ 1000) : ∃ (es : List Ty.Ed) (ys : List Int), Are t es ∧ es.length ≤ 6 ∧ Ph (k + 3) i_law_row [.obj 0, .str t] (Sy T xs) = .ok (.tup (es.map EV)) (Sy T ys) := by
  obtain ⟨p0, x1, hp0, e1⟩ := take_natT T (k + 1) xs (m := 3) (by omega)
  have e1' : Ph (k + 2) i_law_take [.obj 0, .int 3] (Sy T xs) = .ok (.int (p0 : Nat)) (Sy T x1) := e1
  have lp := while_inv (c := fun δ S => tst (GG (k + 2)) (.and (.cmp .le (.var 3) (.bif .len (.cons (.var 1) .nil))) (.and (.cmp .lt (.bif .len (.cons (.var 2) .nil)) (.cst (.int 6))) (.one (.cmp .gt (.call 13 (.cons (.var 0) (.cons (.cst (.int 6)) .nil))) (.cst (.int 0)))))) δ S) (body := fun δ S => evSs (GG (k + 2)) law_row_b0 δ S)
    (fun m δ S => ∃ (es : List Ty.Ed) (q : Nat) (o4 : Option D) (ys : List Int), δ = [some (.obj 0), some (.str t), some (.tup (es.map EV)), some (.int (q : Int)), o4] ∧ S = Sy T ys ∧ es.length + m = 6 ∧ Ty.sp t.length 0 es ∧ (∀ d ∈ es, d.p + d.g + 1 ≤ q) ∧ ∀ e ∈ es, e.c.all signC = true ∧ e.c.length ≤ 4)
    (fun δ S => ∃ (es : List Ty.Ed) (o3 o4 : Option D) (ys : List Int), δ = [some (.obj 0), some (.str t), some (.tup (es.map EV)), o3, o4] ∧ S = Sy T ys ∧ es.length ≤ 6 ∧ Ty.sp t.length 0 es ∧ ∀ e ∈ es, e.c.all signC = true ∧ e.c.length ≤ 4)
    6 (K := manyT) (by decide) (δ := [some (.obj 0), some (.str t), some (.tup []), some (.int (p0 : Int)), none]) (S := Sy T x1) ⟨[], p0, none, x1, rfl, rfl, rfl, trivial, fun d hd => (nomatch hd), fun d hd => (nomatch hd)⟩ ?_
  · obtain ⟨δ', S', lp, es, o3, o4, ys, rfl, rfl, h6, hsp, hsg⟩ := lp
    refine ⟨es, ys, ?_, h6, ?_⟩
    · refine ⟨by omega, hsp, fun e he => ⟨(hsg e he).1, by have := (hsg e he).2; omega⟩, ?_⟩
      have : ∀ es : List Ty.Ed, (∀ e ∈ es, e.c.length ≤ 4) → Ty.sum es ≤ 4 * es.length := by
        intro es
        induction es with
        | nil => intro _; simp [Ty.sum]
        | cons e es ih =>
          intro h
          have i := ih fun x hx => h x (List.mem_cons_of_mem _ hx)
          have := h e List.mem_cons_self
          unfold Ty.sum at i ⊢
          rw [List.map_cons, List.sum_cons, List.length_cons]
          omega
      have := this es fun e he => (hsg e he).2
      omega
    · rw [ph_law_row]
      refine (run_rt (S' := Sy T ys) (d := .tup (es.map EV)) ?_).trans (by rw [PD.fin_tup (evs_plain _)]; simp)
      simp only [startD_s, startD_0, List.replicate]
      show evSs (GG (k + 2)) law_row_a0 _ _ = _
      rw [law_row_a0_e, step (δ1 := [some (.obj 0), some (.str t), some (.tup []), some (.int (p0 : Int)), none]) (S1 := Sy T x1) (by simp [law_row_a_s0, e1'])]
      rw [law_row_a1_e, step (δ1 := [some (.obj 0), some (.str t), some (.tup (es.map EV)), o3, o4]) (S1 := Sy T ys) (by unfold law_row_a_s1; rw [evS_whl]; exact lp)]
      rw [law_row_a2_e]
      simp [law_row_a_s2]
  · intro m δ S ⟨es, q, o4, ys, hδ, hS, h6, hsp, hq, hsg⟩
    subst hδ hS
    have lm : ((es.map EV).length : Int) = (es.length : Int) := by simp
    by_cases c1 : q ≤ t.length
    · have c1' : (q : Int) ≤ (t.length : Int) := by omega
      by_cases c2 : es.length < 6
      · have c2' : ((es.map EV).length : Int) < 6 := by omega
        have c2n : (es.map EV).length < 6 := by simpa using c2
        obtain ⟨v, y1, hv, f1⟩ := take_natT T (k + 1) ys (m := 6) (by omega)
        have f1' : Ph (k + 2) i_law_take [.obj 0, .int 6] (Sy T ys) = .ok (.int (v : Nat)) (Sy T y1) := f1
        by_cases c3 : 0 < v
        · have c3' : (0 : Int) < (v : Int) := by omega
          obtain ⟨w, y2, hw, f2⟩ := take_natT T (k + 1) y1 (m := 4) (by omega)
          have f2' : Ph (k + 2) i_law_take [.obj 0, .int 4] (Sy T y1) = .ok (.int (w : Nat)) (Sy T y2) := f2
          obtain ⟨c, y3, hc1, hc2, f3⟩ := law_text_okT T k y2 (m := 4) (by omega)
          have f3' : Ph (k + 2) i_law_text [.obj 0, .int 4] (Sy T y2) = .ok (.str c) (Sy T y3) := f3
          obtain ⟨u, y4, hu, f4⟩ := take_natT T (k + 1) y3 (m := 6) (by omega)
          have f4' : Ph (k + 2) i_law_take [.obj 0, .int 6] (Sy T y3) = .ok (.int (u : Nat)) (Sy T y4) := f4
          have g1 : min ((t.length : Int) - (q : Int)) (w : Int) = ((min (t.length - q) w : Nat) : Int) := by omega
          obtain ⟨g, hg⟩ : ∃ g, g = min (t.length - q) w := ⟨_, rfl⟩
          rw [← hg] at g1
          have ad : binF .add (.tup (es.map EV)) (.tup [.tup [.int (q : Int), .int (g : Int), .str c]]) (Sy T y3) = some (.tup ((es ++ [(⟨q, g, c⟩ : Ty.Ed)]).map EV)) := by
            rw [List.map_append]
            exact b_add_tup _ (by simp; omega)
          refine .inr ⟨Sy T y1, [some (.obj 0), some (.str t), some (.tup ((es ++ [(⟨q, g, c⟩ : Ty.Ed)]).map EV)), some (.int ((q + g + 1 + u : Nat) : Int)), some (.int (g : Int))], Sy T y4, m - 1, ?_, ?_, by omega, es ++ [(⟨q, g, c⟩ : Ty.Ed)], q + g + 1 + u, some (.int (g : Int)), y4, rfl, rfl, by simp; omega, sp_snoc hsp hq (Nat.zero_le _) (Nat.le_refl _) (by simp only; omega), ?_, ?_⟩
          · generalize es.map EV = Q at *
            simp [c1, c1', c2', c2n, f1', c3, c3']
          · have e5 : ((q + g + 1 + u : Nat) : Int) = (q : Int) + (g : Int) + 1 + (u : Int) := by omega
            rw [e5]
            generalize (es ++ [(⟨q, g, c⟩ : Ty.Ed)]).map EV = Q2 at *
            generalize es.map EV = Q at *
            simp [d_law_row_b, law_row_b_s0, law_row_b_s1, law_row_b_s2, law_row_b2, law_row_b1, law_row_b0, law_row_a_s0, law_row_a_s1, law_row_a_s2, law_row_a2, law_row_a1, law_row_a0, f2', g1, f3', ad, f4']
          · intro d hd
            rcases List.mem_append.mp hd with hd | hd
            · have := hq d hd; omega
            · rw [List.mem_singleton.mp hd]; simp only; omega
          · intro d hd
            rcases List.mem_append.mp hd with hd | hd
            · exact hsg d hd
            · rw [List.mem_singleton.mp hd]; exact ⟨hc1, hc2⟩
        · have c3' : v = 0 := by omega
          subst c3'
          refine .inl ⟨Sy T y1, ?_, es, some (.int (q : Int)), o4, y1, rfl, rfl, by omega, hsp, hsg⟩
          generalize es.map EV = Q at *
          simp [c1, c1', c2', c2n, f1']
      · have c2' : ¬ ((es.map EV).length : Int) < 6 := by omega
        have c2n : ¬ (es.map EV).length < 6 := by simpa using c2
        refine .inl ⟨Sy T ys, ?_, es, some (.int (q : Int)), o4, ys, rfl, rfl, by omega, hsp, hsg⟩
        generalize es.map EV = Q at *
        simp [c1, c1', c2', c2n]
    · have c1' : ¬ (q : Int) ≤ (t.length : Int) := by omega
      refine .inl ⟨Sy T ys, ?_, es, some (.int (q : Int)), o4, ys, rfl, rfl, by omega, hsp, hsg⟩
      generalize es.map EV = Q at *
      simp [c1, c1']
abbrev formW : D := .str [102, 111, 114, 109]
theorem told0 (k : Nat) {t : List Nat} {es : List Ty.Ed} (h : Are t es) (ht : t.length ≤ 100000) (x : D) (S : Store) : Ph (k + 7) i_law_told [.int 0, .str t, .tup (es.map EV), x] S = .ok (.tup ((Tm.held es 0 t.length 0).map PR)) S := by
  have e1 := hold_of_ok k h ht S
  have pl : (D.tup ((Tm.held es 0 t.length 0).map PR)).plain = true := prs_plain _
  rw [ph_law_told]
  generalize (Tm.held es 0 t.length 0).map PR = R at *
  generalize es.map EV = L at *
  simp [d_law_told_b, law_told_b_s0, law_told_b0, law_told_a_s0, law_told_a0, e1, fin_plain pl]
theorem told1 (k q : Nat) (l : Bool) {t : List Nat} {es : List Ty.Ed} (h : Are t es) (S : Store) : Ph (k + 8) i_law_told [.int 1, .str t, .tup (es.map EV), MD q l] S = .ok (MD (Tm.mvs l q (Ty.turns 0 0 es)) l) S := by
  have e1 := moved_at_once_ok k q l h S
  have pl := MD_plain (Tm.mvs l q (Ty.turns 0 0 es)) l
  rw [ph_law_told]
  generalize MD (Tm.mvs l q (Ty.turns 0 0 es)) l = R at *
  generalize MD q l = M at *
  generalize es.map EV = L at *
  simp [d_law_told_b, law_told_b_s0, law_told_b0, law_told_a_s0, law_told_a0, e1, fin_plain pl]
theorem told0_bad (k : Nat) {t : List Nat} {v : D} (hv : v.plain = true) (h : areB t v = false) (x : D) (S : Store) : Ph (k + 7) i_law_told [.int 0, .str t, v, x] S = .ok formW S := by
  have e1 := hold_of_bad k hv h S
  rw [ph_law_told]
  simp [d_law_told_b, law_told_b_s0, law_told_b0, law_told_a_s0, law_told_a0, e1, formW]
theorem told1_bad (k : Nat) {t : List Nat} {v m : D} (hv : v.plain = true) (h : areB t v = false) (S : Store) : Ph (k + 8) i_law_told [.int 1, .str t, v, m] S = .ok formW S := by
  have e1 := moved_at_once_bad k (m := m) hv h S
  rw [ph_law_told]
  simp [d_law_told_b, law_told_b_s0, law_told_b0, law_told_a_s0, law_told_a0, e1, formW]
end Law

set_option Elab.async false
set_option linter.all false
set_option maxRecDepth 100000
set_option maxHeartbeats 0
namespace Law
open PySem PySem.Spec PyProof.Rows L2 PD
abbrev Mk := Nat × Bool
abbrev MP (m : Mk) : D := MD m.1 m.2
theorem mps_plain (M : List Mk) : D.plains (M.map MP) = true := by
  rw [plains_iff]
  intro x hx
  obtain ⟨p, _, rfl⟩ := List.mem_map.mp hx
  rfl
theorem mp_get {M : List Mk} {i : Nat} {m : Mk} (h : M[i]? = some m) : L2.atI (M.map MP) (i : Int) = some (MD m.1 m.2) := by
  rw [ix_nat, List.getElem?_map, h]; rfl
def mvk (e : Ty.Ed) (m : Mk) : Mk := (Tm.mv m.2 m.1 e, m.2)
theorem alike_MD (k q : Nat) (l : Bool) (S : Store) : Ph (k + 4) i_law_alike [MD q l, MD q l] S = .ok (.bl true) S := by
  refine alike_ok 2 (k + 1) _ S ?_ rfl ?_
  · simp [D.depth, D.depths]
  · cases l <;> simp [smallB, smallsB, sd]
theorem told_comp (k : Nat) {δ : DEnv} {S : Store} {M : List Mk} {e : Ty.Ed} (h9 : getD δ 9 = some (.lst (M.map MP))) (h11 : getD δ 11 = some (EV e)) (hδ : 15 < δ.length) (hl : M.length ≤ 1000000) :
    ev (GG (k + 1)) (.comp (.call 8 (.cons (.var 15) (.cons (.var 11) .nil))) (.nm 15) (.seq (.var 9)) .nil false) δ S = .ok (.lst ((M.map (mvk e)).map MP)) S := by
  rw [comp_pure (ds := M.map MP) (fun d => match d with | .tup [.int q, .str s] => some (MP (mvk e (q.toNat, decide (s = sd true)))) | _ => none) (by simp [h9]) (fun x hx => by
    obtain ⟨m, _, rfl⟩ := List.mem_map.mp hx
    have g15 : getD (δ.set 15 (some (MP m))) 15 = some (MP m) := by
      unfold getD; rw [List.getElem?_set_self hδ]
    have g11 : getD (δ.set 15 (some (MP m))) 11 = some (EV e) := by
      rw [← h11]; unfold getD; rw [List.getElem?_set_ne (by omega)]
    have q : Ph (k + 1) i_moved [MP m, EV e] S = .ok (MD (Tm.mv m.2 m.1 e) m.2) S := moved_ok k m.1 m.2 e S
    have r : (match MP m with | .tup [.int q, .str s] => some (MP (mvk e (q.toNat, decide (s = sd true)))) | _ => none) = some (MD (Tm.mv m.2 m.1 e) m.2) := by
      obtain ⟨q, l⟩ := m
      cases l <;> simp [mvk, sd]
    rw [r, turn_el]
    simp only [List.set_set]
    generalize MD (Tm.mv m.2 m.1 e) m.2 = R at *
    generalize MP m = Q at *
    generalize EV e = A at *
    simp [g15, g11, q]) (by rw [List.length_map]; omega)]
  congr 2
  rw [List.filterMap_map, List.map_map, ← List.filterMap_eq_map]
  congr 1
  funext m
  obtain ⟨q, l⟩ := m
  cases l <;> simp [mvk, sd]
theorem eq_MD (q x : Nat) (l : Bool) (s : List Nat) (S : Store) : cmpF .eq (MD q l) (.tup [.int (x : Int), .str s]) S = some (.bl (decide (q = x) && decide (sd l = s))) := by
  rw [c_eq_of S (MD_plain q l) rfl (by simp [D.depth, D.depths]) rfl rfl]
  simp only [D.eqv, D.eqvs, Bool.and_true]
  congr 2
  rw [decide_eq_decide.mpr (show ((q : Int) = (x : Int)) ↔ q = x by omega)]
theorem ne_self {x : D} (S : Store) (h : x.plain = true) (hd : x.depth ≤ 150) : cmpF .ne x x S = some (.bl false) := by
  have r : x.rd S = x := by cases x <;> first | rfl | (simp [D.plain] at h; done)
  rw [c_ne_of S h h (by omega) r r, eqv_refl x h]; rfl
/-- law's check of the order, one mark -/
theorem order_turn (k : Nat) {R : List Mk} {e : Ty.Ed} (hR : R.length ≤ 1000000) {i : Nat} (hi : i < R.length) (e0 e1 e2 e3 e4 e5 e6 e7 e8 e10 e11 e12 e14 e15 e16 e17 e18 e19 e20 e21 e22 e23 e24 e25 e26 : Option D) (S : Store) :
    turnS (GG k) (.nm 4) law_f0 (.int (i : Int)) [e0, e1, e2, e3, e4, e5, e6, e7, e8, some (.lst (R.map MP)), e10, e11, e12, some (.lst ((R.map (mvk e)).map MP)), e14, e15, e16, e17, e18, e19, e20, e21, e22, e23, e24, e25, e26] S = .ok (.nx [e0, e1, e2, e3, some (.int (i : Int)), e5, e6, e7, e8, some (.lst (R.map MP)), e10, e11, e12, some (.lst ((R.map (mvk e)).map MP)), some (.lst []), e15, e16, e17, e18, e19, e20, e21, e22, e23, e24, e25, e26]) S := by
  have hk : R[i]? = some R[i] := List.getElem?_eq_getElem hi
  obtain ⟨⟨qk, lk⟩, em⟩ : ∃ m, m = R[i] := ⟨_, rfl⟩
  rw [← em] at hk
  have g9 := mp_get hk
  have g13 : L2.atI ((R.map (mvk e)).map MP) (i : Int) = some (MD (Tm.mv lk qk e) lk) := mp_get (M := R.map (mvk e)) (by rw [List.getElem?_map, hk]; rfl)
  have jj : ∀ j, j < R.length → ∃ qj lj, L2.atI (R.map MP) (j : Int) = some (MD qj lj) ∧ L2.atI ((R.map (mvk e)).map MP) (j : Int) = some (MD (Tm.mv lj qj e) lj) := fun j hj => by
    have h : R[j]? = some R[j] := List.getElem?_eq_getElem hj
    exact ⟨_, _, mp_get h, mp_get (M := R.map (mvk e)) (by rw [List.getElem?_map, h]; rfl)⟩
  have len : (((R.map (mvk e)).map MP).length : Int) = (R.length : Int) := by simp
  rw [turnS_nm]
  show evSs (GG k) law_f0 [e0, e1, e2, e3, some (.int (i : Int)), e5, e6, e7, e8, some (.lst (R.map MP)), e10, e11, e12, some (.lst ((R.map (mvk e)).map MP)), e14, e15, e16, e17, e18, e19, e20, e21, e22, e23, e24, e25, e26] S = _
  have it : ∀ o14, evI (GG k) (.rng1 (.bif .len (.cons (.var 13) .nil))) [e0, e1, e2, e3, some (.int (i : Int)), e5, e6, e7, e8, some (.lst (R.map MP)), e10, e11, e12, some (.lst ((R.map (mvk e)).map MP)), o14, e15, e16, e17, e18, e19, e20, e21, e22, e23, e24, e25, e26] S = .ok (.st ((List.range R.length).map fun (j : Nat) => D.int (j : Int))) S := fun o14 => it_rng1 (by
    generalize (R.map (mvk e)).map MP = Q at *
    generalize R.map MP = Q2 at *
    simp [len]) (by omega)
  have c1 : ev (GG k) (.comp (.var 16) (.nm 16) (.rng1 (.bif .len (.cons (.var 13) .nil))) (.cons (.and (.cmp .lt (.idx (.idx (.var 9) (.var 16)) (.cst (.int 0))) (.idx (.idx (.var 9) (.var 4)) (.cst (.int 0)))) (.and (.cmp .eq (.idx (.idx (.var 9) (.var 16)) (.cst (.int 1))) (.idx (.idx (.var 9) (.var 4)) (.cst (.int 1)))) (.one (.cmp .gt (.idx (.idx (.var 13) (.var 16)) (.cst (.int 0))) (.idx (.idx (.var 13) (.var 4)) (.cst (.int 0))))))) .nil) false)
      [e0, e1, e2, e3, some (.int (i : Int)), e5, e6, e7, e8, some (.lst (R.map MP)), e10, e11, e12, some (.lst ((R.map (mvk e)).map MP)), e14, e15, e16, e17, e18, e19, e20, e21, e22, e23, e24, e25, e26] S = .ok (.lst []) S := by
    refine comp_non (it _) (fun x hx => ?_) (by simp; omega)
    obtain ⟨j, hj, rfl⟩ := List.mem_map.mp hx
    obtain ⟨qj, lj, a9, a13⟩ := jj j (List.mem_range.mp hj)
    generalize (R.map (mvk e)).map MP = Q at *
    generalize R.map MP = Q2 at *
    by_cases z1 : qj < qk
    · have z1' : (qj : Int) < (qk : Int) := by omega
      by_cases z2 : lj = lk
      · subst z2
        have z3 : ¬ Tm.mv lj qk e < Tm.mv lj qj e := by have := Tm.mv_mono (l := lj) (e := e) (Nat.le_of_lt z1); omega
        have z3' : ¬ ((Tm.mv lj qk e : Nat) : Int) < ((Tm.mv lj qj e : Nat) : Int) := by omega
        simp [a9, g9, a13, g13, z1, z1', z3, z3']
      · have z3 : ¬ sd lj = sd lk := by cases lj <;> cases lk <;> simp [sd] at z2 ⊢
        simp [a9, g9, a13, g13, z1, z1', z3]
    · have z1' : ¬ (qj : Int) < (qk : Int) := by omega
      simp [a9, g9, a13, g13, z1, z1']
  have c2 : ev (GG k) (.comp (.var 16) (.nm 16) (.rng1 (.bif .len (.cons (.var 13) .nil))) (.cons (.and (.cmp .eq (.idx (.var 9) (.var 16)) (.tup (.cons (.idx (.idx (.var 9) (.var 4)) (.cst (.int 0))) (.cons (.cst (.str [114, 105, 103, 104, 116])) .nil)))) (.and (.cmp .eq (.idx (.idx (.var 9) (.var 4)) (.cst (.int 1))) (.cst (.str [108, 101, 102, 116]))) (.one (.cmp .lt (.idx (.idx (.var 13) (.var 16)) (.cst (.int 0))) (.idx (.idx (.var 13) (.var 4)) (.cst (.int 0))))))) .nil) false)
      [e0, e1, e2, e3, some (.int (i : Int)), e5, e6, e7, e8, some (.lst (R.map MP)), e10, e11, e12, some (.lst ((R.map (mvk e)).map MP)), some (.lst []), e15, e16, e17, e18, e19, e20, e21, e22, e23, e24, e25, e26] S = .ok (.lst []) S := by
    refine comp_non (it _) (fun x hx => ?_) (by simp; omega)
    obtain ⟨j, hj, rfl⟩ := List.mem_map.mp hx
    obtain ⟨qj, lj, a9, a13⟩ := jj j (List.mem_range.mp hj)
    have q1 := eq_MD qj qk lj [114, 105, 103, 104, 116] S
    generalize (R.map (mvk e)).map MP = Q at *
    generalize R.map MP = Q2 at *
    by_cases z1 : qj = qk ∧ lj = false
    · obtain ⟨z1, z2⟩ := z1
      subst z1 z2
      have q1 : cmpF .eq (MD qj false) (.tup [.int (qj : Int), .str [114, 105, 103, 104, 116]]) S = some (.bl true) := by rw [q1]; simp [sd]
      by_cases z4 : lk = true
      · subst z4
        have z3 : ¬ Tm.mv false qj e < Tm.mv true qj e := by have := Tm.mv_lr (q := qj) (e := e); omega
        have z3' : ¬ ((Tm.mv false qj e : Nat) : Int) < ((Tm.mv true qj e : Nat) : Int) := by omega
        have s1 : sd true = [108, 101, 102, 116] := rfl
        simp [a9, g9, a13, g13, q1, z3, z3', s1]
      · have s1 : ¬ sd lk = [108, 101, 102, 116] := by cases lk <;> simp [sd] at z4 ⊢
        simp [a9, g9, a13, g13, q1, s1]
    · have q1 : cmpF .eq (MD qj lj) (.tup [.int (qk : Int), .str [114, 105, 103, 104, 116]]) S = some (.bl false) := by
        rw [q1]
        cases lj <;> simp [sd] at z1 ⊢
        exact z1
      simp [a9, g9, a13, g13, q1]
  rw [law_f0_e, step (δ1 := [e0, e1, e2, e3, some (.int (i : Int)), e5, e6, e7, e8, some (.lst (R.map MP)), e10, e11, e12, some (.lst ((R.map (mvk e)).map MP)), some (.lst []), e15, e16, e17, e18, e19, e20, e21, e22, e23, e24, e25, e26]) (S1 := S) (by
    unfold law_f_s0
    rw [evS_set, c1, exS_ok]; rfl)]
  rw [law_f1_e]
  refine (step (iff_n (S1 := S) ?_)).trans evSs_nil
  refine or_f (S1 := S) ?_ (one_of ?_)
  · generalize (R.map (mvk e)).map MP = Q at *
    generalize R.map MP = Q2 at *
    simp
  · rw [tst_cmp, c2, Out.bind_ok]
    simp
end Law

set_option Elab.async false
set_option linter.all false
set_option maxRecDepth 100000
set_option maxHeartbeats 0
namespace Law
open PySem PySem.Spec PyProof.Rows L2 PD
abbrev Cs (es : List Ty.Ed) : Store := [.lst (es.map EV)]
theorem put_all {t c : List Nat} {p g : Nat} (h1 : t.all signC = true) (h2 : c.all signC = true) : (Tx.put t p g c).all signC = true := by
  rw [List.all_eq_true] at h1 h2 ⊢
  intro x hx
  unfold Tx.put at hx
  rcases List.mem_append.mp hx with hx | hx
  · rcases List.mem_append.mp hx with hx | hx
    · exact h1 x (List.mem_of_mem_take hx)
    · exact h2 x hx
  · exact h1 x (List.mem_of_mem_drop hx)
structure TI (j : Nat) (es : List Ty.Ed) (L : List Int) (u : List Nat) (R : List Mk) : Prop where
  nd : L.Nodup
  len : L.length = u.length
  lt : ∀ x ∈ L, x < 100000 * ((j : Int) + 1)
  sg : u.all signC = true
  le : u.length ≤ 60 + 6 * j
  rw_ : ∀ m ∈ R, m.1 ≤ u.length
theorem news_nodup (b : Int) (n : Nat) : (news b n).Nodup := by
  unfold news
  rw [List.nodup_iff_pairwise_ne, List.pairwise_map]
  refine List.Pairwise.imp ?_ (List.nodup_iff_pairwise_ne.mp List.nodup_range)
  intro a c h e
  exact h (by omega)
theorem news_mem {b x : Int} {n : Nat} (h : x ∈ news b n) : b ≤ x ∧ x < b + n := by
  unfold news at h
  obtain ⟨i, hi, rfl⟩ := List.mem_map.mp h
  have := List.mem_range.mp hi
  omega
theorem news_len (b : Int) (n : Nat) : (news b n).length = n := by simp [news]
theorem TI.next {j : Nat} {es : List Ty.Ed} {L : List Int} {u : List Nat} {R : List Mk} (h : TI j es L u R) (hj : j ≤ 5) {e : Ty.Ed} (he : e.p + e.g ≤ u.length) (hs : e.c.all signC = true) (hc : e.c.length ≤ 6) :
    TI (j + 1) (es ++ [e]) (Tm.sg L e (news (100000 * ((j : Int) + 1)) e.c.length)) (Tx.put u e.p e.g e.c) (R.map (mvk e)) ∧ (∀ x ∈ news (100000 * ((j : Int) + 1)) e.c.length, x ∉ L) := by
  have dis : ∀ x ∈ news (100000 * ((j : Int) + 1)) e.c.length, x ∉ L := fun x hx hl => by
    have := (news_mem hx).1
    have := h.lt x hl
    omega
  refine ⟨⟨Tm.sg_nodup h.nd (news_nodup _ _) dis, ?_, ?_, ?_, ?_, ?_⟩, dis⟩
  · rw [Tx.put_len he]
    unfold Tm.sg
    rw [List.length_append, List.length_append, List.length_take, List.length_drop, news_len, h.len]; omega
  · intro x hx
    unfold Tm.sg at hx
    rcases List.mem_append.mp hx with hx | hx
    · rcases List.mem_append.mp hx with hx | hx
      · have := h.lt x (List.mem_of_mem_take hx); omega
      · have := (news_mem hx).2; omega
    · have := h.lt x (List.mem_of_mem_drop hx); omega
  · exact put_all h.sg hs
  · rw [Tx.put_len he]; have := h.le; omega
  · intro m hm
    obtain ⟨m0, hm0, rfl⟩ := List.mem_map.mp hm
    rw [Tx.put_len he]
    exact Tm.mv_le he (h.rw_ m0 hm0)
theorem law_turn (k : Nat) (j : Nat) (hj : j ≤ 4) {es : List Ty.Ed} {L : List Int} {u : List Nat} {R : List Mk} (h : TI j es L u R) (hR : R.length ≤ 100000) (hes : es.length ≤ 1000) (xs : List Int) (e0 e2 e4 e5 e6 e10 e11 e12 e13 e14 e15 e16 e17 e18 e19 e20 e21 e22 e23 e24 e25 e26 : Option D) :
    ∃ (e : Ty.Ed) (L' : List Int) (ys : List Int) (f4 f11 f12 f13 f14 : Option D), e.p + e.g ≤ u.length ∧ TI (j + 1) (es ++ [e]) L' (Tx.put u e.p e.g e.c) (R.map (mvk e)) ∧
      turnS (GG (k + 5)) (.nm 10) law_c0 (.int (j : Int)) [e0, some (.obj 0), e2, some (IL L), e4, e5, e6, some (.obj 1), some (.str u), some (.lst (R.map MP)), e10, e11, e12, e13, e14, e15, e16, e17, e18, e19, e20, e21, e22, e23, e24, e25, e26] (Sy (Cs es) xs) = .ok (.nx [e0, some (.obj 0), e2, some (IL L'), f4, e5, e6, some (.obj 1), some (.str (Tx.put u e.p e.g e.c)), some (.lst ((R.map (mvk e)).map MP)), some (.int (j : Int)), f11, f12, f13, f14, e15, e16, e17, e18, e19, e20, e21, e22, e23, e24, e25, e26]) (Sy (Cs (es ++ [e])) ys) := by
  obtain ⟨p, g, c, ys, he, hc1, hc2, d0⟩ := law_edit_okT (Cs es) (k + 2) xs u (by have := h.le; omega) (m := 6) (by omega)
  obtain ⟨e, ee⟩ : ∃ e : Ty.Ed, e = ⟨p, g, c⟩ := ⟨_, rfl⟩
  have d0' : Ph (k + 5) i_law_edit [.obj 0, .str u, .int 6] (Sy (Cs es) xs) = .ok (EV e) (Sy (Cs es) ys) := by rw [ee]; exact d0
  obtain ⟨h', dis⟩ := h.next (by omega) (e := e) (by rw [ee]; exact he) (by rw [ee]; exact hc1) (by rw [ee]; exact hc2)
  have hg : e.p + e.g ≤ u.length := by rw [ee]; exact he
  have hcl : e.c.length ≤ 6 := by rw [ee]; exact hc2
  have hul := h.le
  have hLl := h.len
  obtain ⟨b, hb⟩ : ∃ b : Int, b = 100000 * ((j : Int) + 1) := ⟨_, rfl⟩
  rw [← hb] at h' dis
  have d1 := law_signs_ok (k + 4) L e b (by omega) (by omega) (Sy (Cs es) ys)
  obtain ⟨L', hL'⟩ : ∃ L', L' = Tm.sg L e (news b e.c.length) := ⟨_, rfl⟩
  have lm : L'.length = (Tx.put u e.p e.g e.c).length := by rw [hL']; exact h'.len
  rw [← hL'] at h' d1
  have dm : ∀ m ∈ R, Ph (k + 5) i_law_due [IL L, MP m, EV e, IL L'] (Sy (Cs es) ys) = .ok (MP (mvk e m)) (Sy (Cs es) ys) := fun m hm => by
    have := law_due_ok (k + 4) L L' m.1 m.2 e (by rw [hLl]; exact h.rw_ m hm) (Sy (Cs es) ys)
    rw [this, hL', Tm.due_mv h.nd dis (news_len _ _) (by rw [hLl]; exact hg) (by rw [hLl]; exact h.rw_ m hm) m.2]
    rfl
  have mb : binF .mul (.int 100000) (.int ((j : Int) + 1)) (Sy (Cs es) ys) = some (.int b) := by
    rw [hb]; exact b_mul_int _ (by match j, hj with | 0, _ => rfl | 1, _ => rfl | 2, _ => rfl | 3, _ => rfl | 4, _ => rfl)
  obtain ⟨δ', S', lp, ⟨f4, f14, rfl⟩, rfl⟩ := forL_step (body := turnS (GG (k + 5)) (.nm 4) law_f0) (ds := (List.range R.length).map fun (i : Nat) => D.int (i : Int))
    (fun i δ T => (∃ o4 o14, δ = [e0, some (.obj 0), e2, some (IL L), o4, e5, e6, some (.obj 1), some (.str u), some (.lst (R.map MP)), some (.int (j : Int)), some (EV e), some (IL L'), some (.lst ((R.map (mvk e)).map MP)), o14, e15, e16, e17, e18, e19, e20, e21, e22, e23, e24, e25, e26]) ∧ T = Sy (Cs es) ys)
    (fun i x δ T hx h => by
      obtain ⟨⟨o4, o14, rfl⟩, rfl⟩ := h
      rw [List.getElem?_map, Option.map_eq_some_iff] at hx
      obtain ⟨j', hj', rfl⟩ := hx
      obtain ⟨hlt, e0⟩ := List.getElem?_eq_some_iff.mp hj'
      rw [List.length_range] at hlt
      rw [List.getElem_range] at e0
      subst e0
      have := order_turn (k + 5) (R := R) (e := e) (by omega) hlt e0 (some (.obj 0)) e2 (some (IL L)) o4 e5 e6 (some (.obj 1)) (some (.str u)) (some (.int (j : Int))) (some (EV e)) (some (IL L')) o14 e15 e16 e17 e18 e19 e20 e21 e22 e23 e24 e25 e26 (Sy (Cs es) ys)
      exact ⟨_, _, this, ⟨_, _, rfl⟩, rfl⟩)
    (δ := [e0, some (.obj 0), e2, some (IL L), e4, e5, e6, some (.obj 1), some (.str u), some (.lst (R.map MP)), some (.int (j : Int)), some (EV e), some (IL L'), some (.lst ((R.map (mvk e)).map MP)), e14, e15, e16, e17, e18, e19, e20, e21, e22, e23, e24, e25, e26]) (S := Sy (Cs es) ys) ⟨⟨e4, e14, rfl⟩, rfl⟩
  refine ⟨e, L', ys, f4, some (EV e), some (IL L'), some (.lst ((R.map (mvk e)).map MP)), f14, hg, h', ?_⟩
  rw [turnS_nm]
  show evSs (GG (k + 5)) law_c0 [e0, some (.obj 0), e2, some (IL L), e4, e5, e6, some (.obj 1), some (.str u), some (.lst (R.map MP)), some (.int (j : Int)), e11, e12, e13, e14, e15, e16, e17, e18, e19, e20, e21, e22, e23, e24, e25, e26] (Sy (Cs es) xs) = _
  rw [law_c0_e, step (δ1 := [e0, some (.obj 0), e2, some (IL L), e4, e5, e6, some (.obj 1), some (.str u), some (.lst (R.map MP)), some (.int (j : Int)), some (EV e), e12, e13, e14, e15, e16, e17, e18, e19, e20, e21, e22, e23, e24, e25, e26]) (S1 := Sy (Cs es) ys) (by
    generalize EV e = A at *
    generalize R.map MP = Q at *
    simp [law_c_s0, d0'])]
  rw [law_c1_e, step (δ1 := [e0, some (.obj 0), e2, some (IL L), e4, e5, e6, some (.obj 1), some (.str u), some (.lst (R.map MP)), some (.int (j : Int)), some (EV e), some (IL L'), e13, e14, e15, e16, e17, e18, e19, e20, e21, e22, e23, e24, e25, e26]) (S1 := Sy (Cs es) ys) (by
    generalize EV e = A at *
    generalize R.map MP = Q at *
    generalize IL L = Q1 at *
    generalize IL L' = Q2 at *
    simp [law_c_s1, mb, d1])]
  have tc := told_comp (k + 4) (δ := [e0, some (.obj 0), e2, some (IL L), e4, e5, e6, some (.obj 1), some (.str u), some (.lst (R.map MP)), some (.int (j : Int)), some (EV e), some (IL L'), e13, e14, e15, e16, e17, e18, e19, e20, e21, e22, e23, e24, e25, e26]) (S := Sy (Cs es) ys) (M := R) (e := e) rfl rfl (by simp) (by omega)
  rw [law_c2_e, step (δ1 := [e0, some (.obj 0), e2, some (IL L), e4, e5, e6, some (.obj 1), some (.str u), some (.lst (R.map MP)), some (.int (j : Int)), some (EV e), some (IL L'), some (.lst ((R.map (mvk e)).map MP)), e14, e15, e16, e17, e18, e19, e20, e21, e22, e23, e24, e25, e26]) (S1 := Sy (Cs es) ys) (by
    unfold law_c_s2
    rw [evS_set, tc, exS_ok]; rfl)]
  have itR : evI (GG (k + 5)) (.rng1 (.bif .len (.cons (.var 9) .nil))) [e0, some (.obj 0), e2, some (IL L), e4, e5, e6, some (.obj 1), some (.str u), some (.lst (R.map MP)), some (.int (j : Int)), some (EV e), some (IL L'), some (.lst ((R.map (mvk e)).map MP)), e14, e15, e16, e17, e18, e19, e20, e21, e22, e23, e24, e25, e26] (Sy (Cs es) ys) = .ok (.st ((List.range R.length).map fun (j : Nat) => D.int (j : Int))) (Sy (Cs es) ys) := it_rng1 (by
    have len : ((R.map MP).length : Int) = (R.length : Int) := by simp
    generalize (R.map (mvk e)).map MP = Q1 at *
    generalize R.map MP = Q at *
    simp [len]) (by omega)
  have itT : evI (GG (k + 5)) (.rng1 (.bif .len (.cons (.var 13) .nil))) [e0, some (.obj 0), e2, some (IL L), e4, e5, e6, some (.obj 1), some (.str u), some (.lst (R.map MP)), some (.int (j : Int)), some (EV e), some (IL L'), some (.lst ((R.map (mvk e)).map MP)), e14, e15, e16, e17, e18, e19, e20, e21, e22, e23, e24, e25, e26] (Sy (Cs es) ys) = .ok (.st ((List.range R.length).map fun (j : Nat) => D.int (j : Int))) (Sy (Cs es) ys) := it_rng1 (by
    have len : (((R.map (mvk e)).map MP).length : Int) = (R.length : Int) := by simp
    generalize (R.map (mvk e)).map MP = Q1 at *
    generalize R.map MP = Q at *
    simp [len]) (by omega)
  have ca : ev (GG (k + 5)) (.comp (.var 4) (.nm 4) (.rng1 (.bif .len (.cons (.var 9) .nil))) (.cons (.not (.call 14 (.cons (.idx (.var 13) (.var 4)) (.cons (.call 18 (.cons (.var 3) (.cons (.idx (.var 9) (.var 4)) (.cons (.var 11) (.cons (.var 12) .nil))))) .nil)))) .nil) false) [e0, some (.obj 0), e2, some (IL L), e4, e5, e6, some (.obj 1), some (.str u), some (.lst (R.map MP)), some (.int (j : Int)), some (EV e), some (IL L'), some (.lst ((R.map (mvk e)).map MP)), e14, e15, e16, e17, e18, e19, e20, e21, e22, e23, e24, e25, e26] (Sy (Cs es) ys) = .ok (.lst []) (Sy (Cs es) ys) := by
    refine comp_non itR (fun x hx => ?_) (by simp; omega)
    obtain ⟨i, hi, rfl⟩ := List.mem_map.mp hx
    have hi := List.mem_range.mp hi
    have hm : R[i]? = some R[i] := List.getElem?_eq_getElem hi
    have a9 : L2.atI (R.map MP) (i : Int) = some (MP R[i]) := mp_get hm
    have a13 : L2.atI ((R.map (mvk e)).map MP) (i : Int) = some (MP (mvk e R[i])) := mp_get (M := R.map (mvk e)) (by rw [List.getElem?_map, hm]; rfl)
    have f := dm R[i] (List.getElem_mem hi)
    have al : Ph (k + 5) i_law_alike [MP (mvk e R[i]), MP (mvk e R[i])] (Sy (Cs es) ys) = .ok (.bl true) (Sy (Cs es) ys) := alike_MD (k + 1) _ _ _
    generalize MP (mvk e R[i]) = X at *
    generalize MP R[i] = Y at *
    generalize (R.map (mvk e)).map MP = Q1 at *
    generalize R.map MP = Q at *
    generalize IL L = Q2 at *
    generalize IL L' = Q3 at *
    generalize EV e = A at *
    simp [a9, a13, f, al]
  have cb : ev (GG (k + 5)) (.comp (.var 15) (.nm 15) (.seq (.var 13)) (.cons (.cmp .isNot (.call 7 (.cons (.bif .len (.cons (.var 12) .nil)) (.cons (.var 15) .nil))) (.cst (.bl true))) .nil) false) [e0, some (.obj 0), e2, some (IL L), e4, e5, e6, some (.obj 1), some (.str u), some (.lst (R.map MP)), some (.int (j : Int)), some (EV e), some (IL L'), some (.lst ((R.map (mvk e)).map MP)), e14, e15, e16, e17, e18, e19, e20, e21, e22, e23, e24, e25, e26] (Sy (Cs es) ys) = .ok (.lst []) (Sy (Cs es) ys) := by
    refine comp_non (ds := (R.map (mvk e)).map MP) (by
      generalize (R.map (mvk e)).map MP = Q1 at *
      simp) (fun x hx => ?_) (by simp; omega)
    obtain ⟨m, hm, rfl⟩ := List.mem_map.mp hx
    have le : m.1 ≤ L'.length := by rw [lm]; exact h'.rw_ m hm
    have im := is_mark_ok (k + 3) L'.length (v := MP m) rfl (Sy (Cs es) ys)
    rw [show markB L'.length (MP m) = true from markB_MD m.2 le] at im
    have ll : ((L'.map D.int).length : Int) = (L'.length : Int) := by simp
    rw [← ll] at im
    generalize MP m = X at *
    generalize (R.map (mvk e)).map MP = Q1 at *
    generalize R.map MP = Q at *
    generalize EV e = A at *
    show tst (GG (k + 5)) _ ((([e0, some (.obj 0), e2, some (IL L), e4, e5, e6, some (.obj 1), some (.str u), some (.lst Q), some (.int (j : Int)), some (A), some (.lst (L'.map D.int)), some (.lst Q1), e14, e15, e16, e17, e18, e19, e20, e21, e22, e23, e24, e25, e26]).set 15 none).set 15 (some X)) _ = _
    generalize L'.map D.int = Q3 at *
    simp [im]
  rw [law_c3_e, step (s := law_c_s3) (δ1 := [e0, some (.obj 0), e2, some (IL L), e4, e5, e6, some (.obj 1), some (.str u), some (.lst (R.map MP)), some (.int (j : Int)), some (EV e), some (IL L'), some (.lst ((R.map (mvk e)).map MP)), e14, e15, e16, e17, e18, e19, e20, e21, e22, e23, e24, e25, e26]) (S1 := Sy (Cs es) ys) (by
    unfold law_c_s3
    refine iff_n (S1 := Sy (Cs es) ys) (or_f (S1 := Sy (Cs es) ys) ?_ (one_of ?_))
    · rw [tst_cmp, ca, Out.bind_ok]; simp
    · rw [tst_cmp, cb, Out.bind_ok]; simp)]
  rw [law_c4_e, step (s := law_c_s4) (δ1 := [e0, some (.obj 0), e2, some (IL L), f4, e5, e6, some (.obj 1), some (.str u), some (.lst (R.map MP)), some (.int (j : Int)), some (EV e), some (IL L'), some (.lst ((R.map (mvk e)).map MP)), f14, e15, e16, e17, e18, e19, e20, e21, e22, e23, e24, e25, e26]) (S1 := Sy (Cs es) ys) (by
    unfold law_c_s4
    rw [evS_forr, itT, exS_ok]
    exact lp)]
  have ap : appF 1 (EV e) (Sy (Cs es) ys) = .ok .non (Sy (Cs (es ++ [e])) ys) := by
    have := app_top (S := [.lst (ys.map .int)]) (ds := es.map EV) (v := EV e) rfl (by rw [List.length_map]; omega)
    unfold Sy Cs
    rw [List.map_append]
    exact this
  rw [law_c5_e, step (s := law_c_s5) (δ1 := [e0, some (.obj 0), e2, some (IL L), f4, e5, e6, some (.obj 1), some (.str u), some (.lst (R.map MP)), some (.int (j : Int)), some (EV e), some (IL L'), some (.lst ((R.map (mvk e)).map MP)), f14, e15, e16, e17, e18, e19, e20, e21, e22, e23, e24, e25, e26]) (S1 := Sy (Cs (es ++ [e])) ys) (by
    generalize (R.map (mvk e)).map MP = Q1 at *
    generalize R.map MP = Q at *
    generalize EV e = A at *
    simp [law_c_s5, ap])]
  have c1 : PD.cutD u none (some (e.p : Int)) = u.take e.p := cutD_ton ..
  have c2 : PD.cutD u (some ((e.p : Int) + (e.g : Int))) none = u.drop (e.p + e.g) := by
    rw [show (e.p : Int) + (e.g : Int) = ((e.p + e.g : Nat) : Int) by omega, cutD_fromn]
  have a1 : binF .add (.str (u.take e.p)) (.str e.c) (Sy (Cs (es ++ [e])) ys) = some (.str (u.take e.p ++ e.c)) := b_add_str _ (by simp; omega)
  have a2 : binF .add (.str (u.take e.p ++ e.c)) (.str (u.drop (e.p + e.g))) (Sy (Cs (es ++ [e])) ys) = some (.str (Tx.put u e.p e.g e.c)) := b_add_str _ (by simp; omega)
  rw [law_c6_e, step (s := law_c_s6) (δ1 := [e0, some (.obj 0), e2, some (IL L), f4, e5, e6, some (.obj 1), some (.str (Tx.put u e.p e.g e.c)), some (.lst (R.map MP)), some (.int (j : Int)), some (EV e), some (IL L'), some (.lst ((R.map (mvk e)).map MP)), f14, e15, e16, e17, e18, e19, e20, e21, e22, e23, e24, e25, e26]) (S1 := Sy (Cs (es ++ [e])) ys) (by
    generalize (R.map (mvk e)).map MP = Q1 at *
    generalize R.map MP = Q at *
    generalize Tx.put u e.p e.g e.c = U at *
    generalize Sy (Cs (es ++ [e])) ys = SS at *
    simp [law_c_s6, c1, c2, a1, a2])]
  rw [law_c7_e]
  generalize (R.map (mvk e)).map MP = Q1 at *
  generalize R.map MP = Q at *
  generalize IL L' = Q3 at *
  generalize EV e = A at *
  generalize Sy (Cs (es ++ [e])) ys = SS at *
  simp [law_c_s7]
end Law

set_option Elab.async false
set_option linter.all false
set_option maxRecDepth 100000
set_option maxHeartbeats 0
namespace Law
open PySem PySem.Spec PyProof.Rows L2 PD
def marksL (n : Nat) : List Mk := (List.range n).flatMap fun q => [(q, true), (q, false)]
theorem marksL_succ (n : Nat) : marksL (n + 1) = marksL n ++ [(n, true), (n, false)] := by
  unfold marksL
  rw [List.range_succ, List.flatMap_append]; simp
theorem marksL_len (n : Nat) : (marksL n).length = 2 * n := by
  induction n with
  | zero => rfl
  | succ n ih => rw [marksL_succ, List.length_append, ih]; simp; omega
theorem marksL_mem {n : Nat} {m : Mk} (h : m ∈ marksL n) : m.1 < n := by
  unfold marksL at h
  obtain ⟨q, hq, h⟩ := List.mem_flatMap.mp h
  have := List.mem_range.mp hq
  simp at h
  rcases h with rfl | rfl <;> exact this
/-- a mark behind all edits -/
def mvsk (es : List Ty.Ed) (m : Mk) : Mk := (Tm.mvs m.2 m.1 es, m.2)
theorem mvsk_snoc (es : List Ty.Ed) (e : Ty.Ed) (M : List Mk) : (M.map (mvsk es)).map (mvk e) = M.map (mvsk (es ++ [e])) := by
  rw [List.map_map]
  refine List.map_congr_left fun m _ => ?_
  show (_, _) = (_, _)
  simp [mvsk, mvk, Tm.mvs]
theorem idx_cell (es : List Ty.Ed) (ys : List Int) (i : Int) : dIdx (.obj 1) (.int i) (Sy (Cs es) ys) = L2.atI (es.map EV) i := rfl
theorem cut_cell (es : List Ty.Ed) (ys : List Int) (lo hi : Option Int) : dCut (.obj 1) lo hi (Sy (Cs es) ys) = some (.lst (PD.cutD (es.map EV) lo hi)) := rfl
theorem all_turn (k : Nat) {a : Ty.Ed} {r : List Ty.Ed} (hr : r.length ≤ 1000) {M : List Mk} {i : Nat} (hi : i < M.length) (ys : List Int) (e0 e1 e2 e3 e4 e6 e8 e10 e11 e12 e13 e14 e15 e16 e17 e18 e19 e20 e21 e22 e23 e24 e25 e26 : Option D) :
    turnS (GG (k + 2)) (.nm 4) law_i0 (.int (i : Int)) [e0, e1, e2, e3, e4, some (.lst (M.map MP)), e6, some (.obj 1), e8, some (.lst ((M.map (mvsk (a :: r))).map MP)), e10, e11, e12, e13, e14, e15, e16, e17, e18, e19, e20, e21, e22, e23, e24, e25, e26] (Sy (Cs (a :: r)) ys) = .ok (.nx [e0, e1, e2, e3, some (.int (i : Int)), some (.lst (M.map MP)), e6, some (.obj 1), e8, some (.lst ((M.map (mvsk (a :: r))).map MP)), e10, e11, e12, e13, e14, e15, e16, e17, e18, e19, e20, e21, e22, e23, e24, e25, e26]) (Sy (Cs (a :: r)) ys) := by
  have hm : M[i]? = some M[i] := List.getElem?_eq_getElem hi
  obtain ⟨m, em⟩ : ∃ m, m = M[i] := ⟨_, rfl⟩
  rw [← em] at hm
  have a5 : L2.atI (M.map MP) (i : Int) = some (MP m) := mp_get hm
  have a9 : L2.atI ((M.map (mvsk (a :: r))).map MP) (i : Int) = some (MP (mvsk (a :: r) m)) := mp_get (M := M.map (mvsk (a :: r))) (by rw [List.getElem?_map, hm]; rfl)
  have f1 : Ph (k + 2) i_moved_through [MP m, .obj 1] (Sy (Cs (a :: r)) ys) = .ok (MP (mvsk (a :: r) m)) (Sy (Cs (a :: r)) ys) := moved_through_obj k m.1 m.2 (a :: r) _ rfl (by simp; omega)
  have f2 : Ph (k + 2) i_moved_through [MP m, .tup [EV a]] (Sy (Cs (a :: r)) ys) = .ok (MP (mvk a m)) (Sy (Cs (a :: r)) ys) := moved_through_ok k m.1 m.2 [a] _ (.tup [EV a]) rfl
  have f3 : Ph (k + 2) i_moved [MP m, EV a] (Sy (Cs (a :: r)) ys) = .ok (MP (mvk a m)) (Sy (Cs (a :: r)) ys) := moved_ok (k + 1) m.1 m.2 a _
  have n1 := ne_self (x := MP (mvsk (a :: r) m)) (Sy (Cs (a :: r)) ys) rfl (by simp [D.depth, D.depths])
  have n2 := ne_self (x := MP (mvk a m)) (Sy (Cs (a :: r)) ys) rfl (by simp [D.depth, D.depths])
  have ix : dIdx (.obj 1) (.int 0) (Sy (Cs (a :: r)) ys) = some (EV a) := by rw [idx_cell]; exact PD.ix0
  have cx : dCut (.obj 1) none (some 1) (Sy (Cs (a :: r)) ys) = some (.lst [EV a]) := by
    rw [cut_cell]
    have : PD.cutD ((a :: r).map EV) none (some ((1 : Nat) : Int)) = ((a :: r).map EV).take 1 := cutD_ton ..
    rw [show ((1 : Nat) : Int) = 1 by rfl] at this
    rw [this]; rfl
  rw [turnS_nm]
  show evSs (GG (k + 2)) law_i0 [e0, e1, e2, e3, some (.int (i : Int)), some (.lst (M.map MP)), e6, some (.obj 1), e8, some (.lst ((M.map (mvsk (a :: r))).map MP)), e10, e11, e12, e13, e14, e15, e16, e17, e18, e19, e20, e21, e22, e23, e24, e25, e26] _ = _
  rw [law_i0_e]
  generalize MP (mvsk (a :: r) m) = X at *
  generalize MP (mvk a m) = Y at *
  generalize MP m = Z at *
  generalize (M.map (mvsk (a :: r))).map MP = Q1 at *
  generalize M.map MP = Q at *
  generalize Sy (Cs (a :: r)) ys = SS at *
  refine (step (iff_n (S1 := SS) (or_f (S1 := SS) ?_ (one_of ?_)))).trans evSs_nil
  · simp [a5, a9, f1, n1]
  · generalize EV a = A at *
    simp [a5, cx, f2, ix, f3, n2]
/-- one way by the edits, place by place -/
theorem swing_loop (k : Nat) (l : Bool) (n : Nat) (S : Store) : ∀ (r : List Ty.Ed) (at_ a q : Nat) (e0 e1 e2 e3 e4 e5 e6 e7 e8 e9 e10 e12 e13 e14 e15 e16 e17 e18 e19 e20 e21 e24 e25 e26 : Option D) (o11 : Option D), Ty.sp n at_ r →
    ∃ (o11' o23' : Option D), forL (turnS (GG (k + 1)) (.nm 11) law_q0) (r.map EV) [e0, e1, e2, e3, e4, e5, e6, e7, e8, e9, e10, o11, e12, e13, e14, e15, e16, e17, e18, e19, e20, e21, some (MD q l), some (.int ((a : Int) - at_)), e24, e25, e26] S = .ok (.nx [e0, e1, e2, e3, e4, e5, e6, e7, e8, e9, e10, o11', e12, e13, e14, e15, e16, e17, e18, e19, e20, e21, some (MD (Tm.mvs l q (Ty.turns at_ a r)) l), o23', e24, e25, e26]) S
  | [], at_, a, q, e0, e1, e2, e3, e4, e5, e6, e7, e8, e9, e10, e12, e13, e14, e15, e16, e17, e18, e19, e20, e21, e24, e25, e26, o11, _ => ⟨o11, some (.int ((a : Int) - at_)), rfl⟩
  | e :: r, at_, a, q, e0, e1, e2, e3, e4, e5, e6, e7, e8, e9, e10, e12, e13, e14, e15, e16, e17, e18, e19, e20, e21, e24, e25, e26, o11, ⟨h1, h2, h3⟩ => by
    obtain ⟨o11', o23', ih⟩ := swing_loop k l n S r (e.p + e.g) (a + (e.p - at_) + e.c.length) (Tm.mv l q ⟨a + (e.p - at_), e.g, e.c⟩) e0 e1 e2 e3 e4 e5 e6 e7 e8 e9 e10 e12 e13 e14 e15 e16 e17 e18 e19 e20 e21 e24 e25 e26 (some (EV e)) (Ty.sp_mono (by omega) h3)
    refine ⟨o11', o23', ?_⟩
    have z1 : (e.p : Int) + ((a : Int) - at_) = ((a + (e.p - at_) : Nat) : Int) := by omega
    have z2 : (a : Int) - at_ + (e.c.length : Int) - (e.g : Int) = ((a + (e.p - at_) + e.c.length : Nat) : Int) - ((e.p + e.g : Nat) : Int) := by omega
    have mo := moved_ok k q l ⟨a + (e.p - at_), e.g, e.c⟩ S
    have b : turnS (GG (k + 1)) (.nm 11) law_q0 (EV e) [e0, e1, e2, e3, e4, e5, e6, e7, e8, e9, e10, o11, e12, e13, e14, e15, e16, e17, e18, e19, e20, e21, some (MD q l), some (.int ((a : Int) - at_)), e24, e25, e26] S = .ok (.nx [e0, e1, e2, e3, e4, e5, e6, e7, e8, e9, e10, some (EV e), e12, e13, e14, e15, e16, e17, e18, e19, e20, e21, some (MD (Tm.mv l q ⟨a + (e.p - at_), e.g, e.c⟩) l), some (.int (((a + (e.p - at_) + e.c.length : Nat) : Int) - ((e.p + e.g : Nat) : Int))), e24, e25, e26]) S := by
      rw [turnS_nm]
      show evSs (GG (k + 1)) law_q0 [e0, e1, e2, e3, e4, e5, e6, e7, e8, e9, e10, some (EV e), e12, e13, e14, e15, e16, e17, e18, e19, e20, e21, some (MD q l), some (.int ((a : Int) - at_)), e24, e25, e26] S = _
      have mo' : Ph (k + 1) i_moved [MD q l, .tup [.int ((e.p : Int) + ((a : Int) - at_)), .int (e.g : Int), .str e.c]] S = .ok (MD (Tm.mv l q ⟨a + (e.p - at_), e.g, e.c⟩) l) S := by rw [z1]; exact mo
      rw [← z2]
      generalize MD (Tm.mv l q ⟨a + (e.p - at_), e.g, e.c⟩) l = X at *
      generalize MD q l = Y at *
      simp [law_q0_e, law_q1_e, law_q_s0, law_q_s1, mo']
    rw [List.map_cons]
    unfold forL
    rw [b, turnF_nx, ih]
    rfl
/-- what the dict of the signs that stay tells -/
theorem held_look {es : List Ty.Ed} {n : Nat} {b : Int} {d : D} (h : lookD ((Tm.held es 0 n 0).map fun p => D.int (p.1 : Int)) ((Tm.held es 0 n 0).map fun p => D.int p.2) (.int b) = some d) :
    ∃ i : Nat, b = (i : Int) ∧ i < n ∧ Ty.cov es i = false ∧ d = .int ((i : Int) + Tm.sh es i) := by
  have e : lookD ((Tm.held es 0 n 0).map fun p => D.int (p.1 : Int)) ((Tm.held es 0 n 0).map fun p => D.int p.2) (.int b) = (((Tm.held es 0 n 0).map fun p => ((D.int (p.1 : Int), D.int p.2) : D × D)).find? fun p => D.keq p.1 (.int b)).map (·.2) := by
    rw [← lookD_map, List.map_map, List.map_map]; rfl
  rw [e] at h
  obtain ⟨p, hp, rfl⟩ := Option.map_eq_some_iff.mp h
  have k1 := List.find?_some hp
  have k2 := List.mem_of_find?_eq_some hp
  obtain ⟨p0, hp0, rfl⟩ := List.mem_map.mp k2
  unfold Tm.held at hp0
  obtain ⟨i, hi, rfl⟩ := List.mem_map.mp hp0
  obtain ⟨hi1, hi2⟩ := List.mem_filter.mp hi
  rw [List.mem_range'_1] at hi1
  refine ⟨i, ?_, by omega, by simpa using hi2, ?_⟩
  · have : decide ((i : Int) = b) = true := k1
    exact (of_decide_eq_true this).symm
  · show D.int ((i : Int) + (0 + Tm.sh es i)) = _
    rw [Int.zero_add]
theorem held_pairs (es : List Ty.Ed) (n : Nat) : pairsD [] [] ((Tm.held es 0 n 0).map PR) = some ((Tm.held es 0 n 0).map (fun p => D.int (p.1 : Int)), (Tm.held es 0 n 0).map fun p => D.int p.2) := by
  have h := pairsD_new ((Tm.held es 0 n 0).map fun p => ((D.int (p.1 : Int), D.int p.2) : D × D)) [] [] (fun p hp => by
    obtain ⟨p0, _, rfl⟩ := List.mem_map.mp hp; rfl) (fun p hp k hk => (nomatch hk)) (by
    rw [List.pairwise_map]
    unfold Tm.held
    rw [List.pairwise_map]
    refine List.Pairwise.imp (R := fun a b => a ≠ b) ?_ ?_
    · intro a b hab
      show decide ((a : Int) = (b : Int)) = false
      exact decide_eq_false (by omega)
    · exact List.Pairwise.filter _ (List.nodup_iff_pairwise_ne.mp List.nodup_range'))
  rw [List.map_map, List.map_map, List.map_map, List.nil_append, List.nil_append] at h
  exact h
end Law

set_option Elab.async false
set_option linter.all false
set_option maxRecDepth 100000
set_option maxHeartbeats 0
namespace Law
open PySem PySem.Spec PyProof.Rows L2 PD
theorem once_turn (k : Nat) {t : List Nat} {es : List Ty.Ed} (h : Are t es) (q : Nat) (l : Bool) (hq : q ≤ t.length) (T : Store) (e0 e1 e3 e4 e5 e6 e7 e8 e9 e10 e11 e12 e13 e14 e15 e16 e19 e20 e21 e22 e23 e24 e25 e26 : Option D) :
    ∃ (f11 f20 f21 f22 f23 : Option D), turnS (GG (k + 8)) (.tp [6, 19]) law_n0 (MD q l) [e0, e1, some (.str t), e3, e4, e5, e6, e7, e8, e9, e10, e11, e12, e13, e14, e15, e16, some (.tup (es.map EV)), some (.dic ((Tm.held es 0 t.length 0).map fun p => D.int (p.1 : Int)) ((Tm.held es 0 t.length 0).map fun p => D.int p.2)), e19, e20, e21, e22, e23, e24, e25, e26] T = .ok (.nx [e0, e1, some (.str t), e3, e4, e5, some (.int (q : Int)), e7, e8, e9, e10, f11, e12, e13, e14, e15, e16, some (.tup (es.map EV)), some (.dic ((Tm.held es 0 t.length 0).map fun p => D.int (p.1 : Int)) ((Tm.held es 0 t.length 0).map fun p => D.int p.2)), some (.str (sd l)), f20, f21, f22, f23, e24, e25, e26]) T := by
  have f0 := told1 k q l h T
  obtain ⟨ks, hks⟩ : ∃ ks, ks = (Tm.held es 0 t.length 0).map fun p => D.int (p.1 : Int) := ⟨_, rfl⟩
  obtain ⟨vs, hvs⟩ : ∃ vs, vs = (Tm.held es 0 t.length 0).map fun p => D.int p.2 := ⟨_, rfl⟩
  have lk : ∀ b d, lookD ks vs (.int b) = some d → ∃ i : Nat, b = (i : Int) ∧ i < t.length ∧ Ty.cov es i = false ∧ d = .int ((i : Int) + Tm.sh es i) := fun b d hb => by
    rw [hks, hvs] at hb; exact held_look hb
  rw [← hks, ← hvs]
  obtain ⟨bs, hbs⟩ : ∃ bs : Int, bs = if l then (q : Int) - 1 else (q : Int) := ⟨_, rfl⟩
  obtain ⟨f11, f23, lp⟩ := swing_loop (k + 7) l t.length T es 0 0 q e0 e1 (some (.str t)) e3 e4 e5 (some (.int (q : Int))) e7 e8 e9 e10 e12 e13 e14 e15 e16 (some (.tup (es.map EV))) (some (.dic ks vs)) (some (.str (sd l))) (some (MD (Tm.mvs l q (Ty.turns 0 0 es)) l)) (some (.int bs)) e24 e25 e26 e11 h.sp
  refine ⟨f11, some (MD (Tm.mvs l q (Ty.turns 0 0 es)) l), some (.int bs), some (MD (Tm.mvs l q (Ty.turns 0 0 es)) l), f23, ?_⟩
  rw [turnS_tp rfl]
  show evSs (GG (k + 8)) law_n0 [e0, e1, some (.str t), e3, e4, e5, some (.int (q : Int)), e7, e8, e9, e10, e11, e12, e13, e14, e15, e16, some (.tup (es.map EV)), some (.dic ks vs), some (.str (sd l)), e20, e21, e22, e23, e24, e25, e26] T = _
  rw [law_n0_e, step (s := law_n_s0) (δ1 := [e0, e1, some (.str t), e3, e4, e5, some (.int (q : Int)), e7, e8, e9, e10, e11, e12, e13, e14, e15, e16, some (.tup (es.map EV)), some (.dic ks vs), some (.str (sd l)), some (MD (Tm.mvs l q (Ty.turns 0 0 es)) l), e21, e22, e23, e24, e25, e26]) (S1 := T) (by
    generalize MD (Tm.mvs l q (Ty.turns 0 0 es)) l = X at *
    generalize es.map EV = Q at *
    simp [law_n_s0, f0])]
  rw [law_n1_e, step (s := law_n_s1) (δ1 := [e0, e1, some (.str t), e3, e4, e5, some (.int (q : Int)), e7, e8, e9, e10, e11, e12, e13, e14, e15, e16, some (.tup (es.map EV)), some (.dic ks vs), some (.str (sd l)), some (MD (Tm.mvs l q (Ty.turns 0 0 es)) l), some (.int bs), e22, e23, e24, e25, e26]) (S1 := T) (by
    rw [hbs]
    generalize MD (Tm.mvs l q (Ty.turns 0 0 es)) l = X at *
    generalize es.map EV = Q at *
    cases l <;> simp [law_n_s1, sd])]
  have s2 : evS (GG (k + 8)) law_n_s2 [e0, e1, some (.str t), e3, e4, e5, some (.int (q : Int)), e7, e8, e9, e10, e11, e12, e13, e14, e15, e16, some (.tup (es.map EV)), some (.dic ks vs), some (.str (sd l)), some (MD (Tm.mvs l q (Ty.turns 0 0 es)) l), some (.int bs), e22, e23, e24, e25, e26] T = .ok (.nx [e0, e1, some (.str t), e3, e4, e5, some (.int (q : Int)), e7, e8, e9, e10, e11, e12, e13, e14, e15, e16, some (.tup (es.map EV)), some (.dic ks vs), some (.str (sd l)), some (MD (Tm.mvs l q (Ty.turns 0 0 es)) l), some (.int bs), e22, e23, e24, e25, e26]) T := by
    have i1 : cmpF .in_ (.int bs) (.dic ks vs) T = some (.bl (lookD ks vs (.int bs)).isSome) := in_dic rfl
    unfold law_n_s2
    refine iff_n (S1 := T) ?_
    cases hl : lookD ks vs (.int bs) with
    | none =>
      rw [hl] at i1
      refine and_f ?_
      generalize es.map EV = Q at *
      simp [i1]
    | some d =>
      rw [hl] at i1
      obtain ⟨i, hb, hi, hc, hd⟩ := lk bs d hl
      have ix : dIdx (.dic ks vs) (.int bs) T = some d := by rw [idx_dic rfl]; exact hl
      refine and_t (S1 := T) ?_ (one_of ?_)
      · generalize es.map EV = Q at *
        simp [i1]
      · have ns := ne_self (x := MD (Tm.mvs l q (Ty.turns 0 0 es)) l) T rfl (by simp [D.depth, D.depths])
        cases l with
        | true =>
          simp only [if_true] at hbs
          have mv := Tm.mvs_left (n := t.length) (es := es) (at_ := 0) (a := 0) (i := i) h.sp (Nat.zero_le _) hc
          have eq : q = 0 + (i - 0) + 1 := by omega
          rw [← eq] at mv
          have mv' : (i : Int) + Tm.sh es i + 1 = ((Tm.mvs true q (Ty.turns 0 0 es) : Nat) : Int) := by omega
          rw [hd] at ix
          have ns' : cmpF .ne (MD (Tm.mvs true q (Ty.turns 0 0 es)) true) (.tup [.int ((i : Int) + Tm.sh es i + 1), .str (sd true)]) T = some (.bl false) := by rw [mv']; exact ns
          have s1 : sd true = [108, 101, 102, 116] := rfl
          generalize MD (Tm.mvs true q (Ty.turns 0 0 es)) true = X at *
          generalize es.map EV = Q at *
          rw [s1] at ns' ⊢
          simp [ix, bifF, dInt, ns']
        | false =>
          simp only [Bool.false_eq_true, if_false] at hbs
          have mv := Tm.mvs_right (n := t.length) (es := es) (at_ := 0) (a := 0) (i := i) h.sp (Nat.zero_le _) hc
          have eq : q = 0 + (i - 0) := by omega
          rw [← eq] at mv
          have mv' : (i : Int) + Tm.sh es i + 0 = ((Tm.mvs false q (Ty.turns 0 0 es) : Nat) : Int) := by omega
          rw [hd] at ix
          have ns' : cmpF .ne (MD (Tm.mvs false q (Ty.turns 0 0 es)) false) (.tup [.int ((i : Int) + Tm.sh es i + 0), .str (sd false)]) T = some (.bl false) := by rw [mv']; exact ns
          rw [Int.add_zero] at ns'
          have s1 : sd false = [114, 105, 103, 104, 116] := rfl
          generalize MD (Tm.mvs false q (Ty.turns 0 0 es)) false = X at *
          generalize es.map EV = Q at *
          rw [s1] at ns' ⊢
          simp [ix, bifF, dInt, ns']
  rw [law_n2_e, step s2]
  rw [law_n3_e, step (s := law_n_s3) (δ1 := [e0, e1, some (.str t), e3, e4, e5, some (.int (q : Int)), e7, e8, e9, e10, e11, e12, e13, e14, e15, e16, some (.tup (es.map EV)), some (.dic ks vs), some (.str (sd l)), some (MD (Tm.mvs l q (Ty.turns 0 0 es)) l), some (.int bs), some (MD q l), e23, e24, e25, e26]) (S1 := T) (by
    generalize MD (Tm.mvs l q (Ty.turns 0 0 es)) l = X at *
    generalize es.map EV = Q at *
    simp [law_n_s3])]
  rw [law_n4_e, step (s := law_n_s4) (δ1 := [e0, e1, some (.str t), e3, e4, e5, some (.int (q : Int)), e7, e8, e9, e10, e11, e12, e13, e14, e15, e16, some (.tup (es.map EV)), some (.dic ks vs), some (.str (sd l)), some (MD (Tm.mvs l q (Ty.turns 0 0 es)) l), some (.int bs), some (MD q l), some (.int 0), e24, e25, e26]) (S1 := T) (by
    generalize MD (Tm.mvs l q (Ty.turns 0 0 es)) l = X at *
    generalize es.map EV = Q at *
    simp [law_n_s4])]
  rw [law_n5_e, step (s := law_n_s5) (δ1 := [e0, e1, some (.str t), e3, e4, e5, some (.int (q : Int)), e7, e8, e9, e10, f11, e12, e13, e14, e15, e16, some (.tup (es.map EV)), some (.dic ks vs), some (.str (sd l)), some (MD (Tm.mvs l q (Ty.turns 0 0 es)) l), some (.int bs), some (MD (Tm.mvs l q (Ty.turns 0 0 es)) l), f23, e24, e25, e26]) (S1 := T) (by
    unfold law_n_s5
    rw [evS_forr]
    simp only [evI_seq, ev_var, getD_succ, getD_zero, lift_some, Out.bind_ok, src_tup, liftO_some, exS_ok]
    exact lp)]
  rw [law_n6_e]
  have ns := ne_self (x := MD (Tm.mvs l q (Ty.turns 0 0 es)) l) T rfl (by simp [D.depth, D.depths])
  refine (step (iff_n (S1 := T) ?_)).trans evSs_nil
  generalize MD (Tm.mvs l q (Ty.turns 0 0 es)) l = X at *
  generalize es.map EV = Q at *
  simp [ns]
end Law

set_option Elab.async false
set_option linter.all false
set_option maxRecDepth 100000
set_option maxHeartbeats 0
namespace Law
open PySem PySem.Spec PyProof.Rows L2 PD
theorem marks_loop (k : Nat) (T : Store) : ∀ (n : Nat), n ≤ 1000 → ∀ (e0 e1 e2 e3 e4 e7 e8 e9 e10 e11 e12 e13 e14 e15 e16 e17 e18 e19 e20 e21 e22 e23 e24 e25 e26 : Option D) , ∃ f6, forL (turnS (GG k) (.nm 6) law_b0) ((List.range n).map fun (i : Nat) => D.int (i : Int)) [e0, e1, e2, e3, e4, some (.lst []), none, e7, e8, e9, e10, e11, e12, e13, e14, e15, e16, e17, e18, e19, e20, e21, e22, e23, e24, e25, e26] T = .ok (.nx [e0, e1, e2, e3, e4, some (.lst ((marksL n).map MP)), f6, e7, e8, e9, e10, e11, e12, e13, e14, e15, e16, e17, e18, e19, e20, e21, e22, e23, e24, e25, e26]) T := fun n hn (e0 e1 e2 e3 e4 e7 e8 e9 e10 e11 e12 e13 e14 e15 e16 e17 e18 e19 e20 e21 e22 e23 e24 e25 e26 : Option D) => by
  obtain ⟨δ', S', lp, ⟨f6, rfl⟩, rfl⟩ := forL_step (body := turnS (GG k) (.nm 6) law_b0) (ds := (List.range n).map fun (i : Nat) => D.int (i : Int))
    (fun i δ S => (∃ o6, δ = [e0, e1, e2, e3, e4, some (.lst ((marksL i).map MP)), o6, e7, e8, e9, e10, e11, e12, e13, e14, e15, e16, e17, e18, e19, e20, e21, e22, e23, e24, e25, e26]) ∧ S = T)
    (fun i x δ S hx h => by
      obtain ⟨⟨o6, rfl⟩, rfl⟩ := h
      rw [List.getElem?_map, Option.map_eq_some_iff] at hx
      obtain ⟨j, hj, rfl⟩ := hx
      obtain ⟨hlt, e⟩ := List.getElem?_eq_some_iff.mp hj
      rw [List.length_range] at hlt
      rw [List.getElem_range] at e
      subst e
      have ad : binF .add (.lst ((marksL i).map MP)) (.lst [.tup [.int (i : Int), .str [108, 101, 102, 116]], .tup [.int (i : Int), .str [114, 105, 103, 104, 116]]]) S = some (.lst ((marksL (i + 1)).map MP)) := by
        rw [marksL_succ, List.map_append]
        exact b_add_lst S (by rw [List.length_map, marksL_len]; simp; omega)
      refine ⟨[e0, e1, e2, e3, e4, some (.lst ((marksL (i + 1)).map MP)), some (.int (i : Int)), e7, e8, e9, e10, e11, e12, e13, e14, e15, e16, e17, e18, e19, e20, e21, e22, e23, e24, e25, e26], S, ?_, ⟨_, rfl⟩, rfl⟩
      rw [turnS_nm]
      show evSs (GG k) law_b0 [e0, e1, e2, e3, e4, some (.lst ((marksL i).map MP)), some (.int (i : Int)), e7, e8, e9, e10, e11, e12, e13, e14, e15, e16, e17, e18, e19, e20, e21, e22, e23, e24, e25, e26] S = _
      rw [law_b0_e]
      generalize (marksL (i + 1)).map MP = Q2 at *
      generalize (marksL i).map MP = Q at *
      simp [law_b_s0, ad]) (δ := [e0, e1, e2, e3, e4, some (.lst []), none, e7, e8, e9, e10, e11, e12, e13, e14, e15, e16, e17, e18, e19, e20, e21, e22, e23, e24, e25, e26]) (S := T) ⟨⟨none, rfl⟩, rfl⟩
  rw [List.length_map, List.length_range] at lp
  exact ⟨f6, lp⟩
end Law

set_option Elab.async false
set_option linter.all false
set_option maxRecDepth 100000
set_option maxHeartbeats 0
namespace Law
open PySem PySem.Spec PyProof.Rows L2 PD
theorem prs_small : ∀ (l : List (Nat × Int)), smallsB (l.map PR) = true
  | [] => rfl
  | p :: l => by
    rw [List.map_cons]
    unfold smallsB
    rw [prs_small l]
    simp [smallB, smallsB]
theorem prs_depth : ∀ (l : List (Nat × Int)), D.depths (l.map PR) ≤ 2
  | [] => by simp [D.depths]
  | p :: l => by
    have := prs_depth l
    rw [List.map_cons]
    simp only [D.depths, D.depth] at this ⊢; omega
theorem bad_are (t : List Nat) : areB t (.tup [.tup [.int 0, .int ((t.length : Int) + 1), .str []]]) = false := by
  cases q : areB t (.tup [.tup [.int 0, .int ((t.length : Int) + 1), .str []]]) with
  | false => rfl
  | true =>
    obtain ⟨es, he, ha⟩ := areB_eq q
    have l1 : es.length = 1 := by
      have := congrArg (fun d => match d with | D.tup ds => ds.length | _ => 0) he
      simpa using this.symm
    obtain ⟨e, rfl⟩ := List.length_eq_one_iff.mp l1
    simp [E] at he
    have := ha.sp.2.1
    omega
theorem form_comp (δ : DEnv) (t : List Nat) (S : Store) (h2 : getD δ 2 = some (.str t)) (hδ : 24 < δ.length) :
    ev (GG 8) (.comp (.call 20 (.cons (.var 24) (.cons (.var 2) (.cons (.tup (.cons (.tup (.cons (.cst (.int 0)) (.cons (.bin .add (.bif .len (.cons (.var 2) .nil)) (.cst (.int 1))) (.cons (.cst (.str [])) .nil)))) .nil)) (.cons (.tup (.cons (.cst (.int 0)) (.cons (.cst (.str [108, 101, 102, 116])) .nil))) .nil))))) (.nm 24) (.seq (.lst (.cons (.cst (.int 0)) (.cons (.cst (.int 1)) .nil)))) .nil false) δ S = .ok (.lst [formW, formW]) S := by
  have b0 := told0_bad 1 (t := t) (v := .tup [.tup [.int 0, .int ((t.length : Int) + 1), .str []]]) rfl (bad_are t) (.tup [.int 0, .str [108, 101, 102, 116]]) S
  have b1 := told1_bad 0 (t := t) (v := .tup [.tup [.int 0, .int ((t.length : Int) + 1), .str []]]) (m := .tup [.int 0, .str [108, 101, 102, 116]]) rfl (bad_are t) S
  rw [comp_pure (ds := [.int 0, .int 1]) (fun _ => some formW) (by simp) (fun x hx => ?_) (by simp)]
  · rfl
  · have g2 : getD (δ.set 24 (some x)) 2 = some (.str t) := by
      rw [← h2]; unfold getD; rw [List.getElem?_set_ne (by omega)]
    have g24 : getD (δ.set 24 (some x)) 24 = some x := by
      unfold getD; rw [List.getElem?_set_self hδ]
    rw [turn_el]
    simp only [List.set_set]
    rcases List.mem_cons.mp hx with rfl | hx
    · simp [g2, g24, b0]
    · rw [List.mem_singleton.mp hx] at g2 g24 ⊢
      simp [g2, g24, b1]
def wrongL (n : Nat) : List D := [.non, .int 5, .tup [.int 0], .lst [.int 0, .str [108, 101, 102, 116]], .tup [.int (-1), .str [108, 101, 102, 116]], .tup [.int ((n : Int) + 1), .str [108, 101, 102, 116]], .tup [.int 0, .str [109, 105, 100, 100, 108, 101]], .tup [.int 0, .non], .tup [.bl true, .str [108, 101, 102, 116]], .tup [.int 0, .str [108, 101, 102, 116], .int 0], .tup [.str [48], .str [108, 101, 102, 116]], .tup [.int 0, .str []]]
theorem wrong_no (n : Nat) : ∀ x ∈ wrongL n, x.plain = true ∧ markB n x = false := by
  intro x hx
  unfold wrongL at hx
  simp only [List.mem_cons, List.not_mem_nil, or_false] at hx
  rcases hx with rfl | rfl | rfl | rfl | rfl | rfl | rfl | rfl | rfl | rfl | rfl | rfl
  all_goals refine ⟨rfl, ?_⟩
  all_goals first | rfl | (simp [markB, numB, sd]; done) | (simp [markB, numB, sd]; omega)
theorem wrong_comp (δ : DEnv) (t : List Nat) (S : Store) (h2 : getD δ 2 = some (.str t)) (h25 : getD δ 25 = some (.lst (wrongL t.length))) (hδ : 26 < δ.length) :
    ev (GG 8) (.comp (.var 26) (.nm 26) (.seq (.var 25)) (.cons (.cmp .isNot (.call 7 (.cons (.bif .len (.cons (.var 2) .nil)) (.cons (.var 26) .nil))) (.cst (.bl false))) .nil) false) δ S = .ok (.lst []) S := by
  refine comp_non (ds := wrongL t.length) (by simp [h25]) (fun x hx => ?_) (by simp [wrongL])
  obtain ⟨hp, hm⟩ := wrong_no t.length x hx
  have f := is_mark_ok 6 t.length hp S
  rw [hm] at f
  have g2 : getD (δ.set 26 (some x)) 2 = some (.str t) := by
    rw [← h2]; unfold getD; rw [List.getElem?_set_ne (by omega)]
  have g26 : getD (δ.set 26 (some x)) 26 = some x := by
    unfold getD; rw [List.getElem?_set_self hδ]
  simp [g2, g26, f]
theorem law_ok (ns : List Int) (s : D) (hn : ns.length ≤ 63) (hs : IsScript ns s) : Phi hk.cs hk.dfs (8 + 1) i_law [s] [] = .ok (.bl true) [] := by
  rw [← Ph_spec, ph_law]
  obtain ⟨xs, e0⟩ := draws_ok 7 (by omega : ns.length ≤ 1000) hs
  obtain ⟨v, x1, hv, e1⟩ := take_nat 7 xs (m := 3) (by omega)
  have e1' : Ph 8 i_law_take [.obj 0, .int 3] (Sx xs) = .ok (.int (v : Nat)) (Sx x1) := e1
  have ⟨m, hm, ix⟩ : ∃ m : Nat, m ≤ 60 ∧ L2.atI [D.int 6, .int 20, .int 60] (v : Int) = some (.int (m : Int)) := by
    rw [ix_nat]
    match v, hv with
    | 0, _ => exact ⟨6, by omega, rfl⟩
    | 1, _ => exact ⟨20, by omega, rfl⟩
    | 2, _ => exact ⟨60, by omega, rfl⟩
  obtain ⟨t, x2, ht, hl, e2⟩ := law_text_ok 6 x1 (m := m) (by omega)
  have lm : ∀ es : List Ty.Ed, (((marksL (t.length + 1)).map (mvsk es)).map MP).length = 2 * (t.length + 1) := fun es => by rw [List.length_map, List.length_map, marksL_len]
  -- the marks
  obtain ⟨f6, lpM⟩ := marks_loop 8 (Sx x2) (t.length + 1) (by omega) (some s) (some (.obj 0)) (some (.str t)) (some (IL (news 1000 t.length))) none none none none none none none none none none none none none none none none none none none none none
  -- the turns
  obtain ⟨w, x3, hw, e3⟩ := take_natT (Cs []) 7 x2 (m := 5) (by omega)
  have e3' : Ph 8 i_law_take [.obj 0, .int 5] (Sy (Cs []) x2) = .ok (.int (w : Nat)) (Sy (Cs []) x3) := e3
  have ti0 : TI 0 [] (news 1000 t.length) t ((marksL (t.length + 1)).map (mvsk [])) := ⟨news_nodup _ _, news_len _ _, fun x hx => by have := (news_mem hx).2; omega, ht, by omega, fun m hm => by
    obtain ⟨m0, hm0, rfl⟩ := List.mem_map.mp hm
    have := marksL_mem hm0
    show m0.1 ≤ _
    omega⟩
  have m0 : ((marksL (t.length + 1)).map (mvsk [])) = marksL (t.length + 1) := by
    have : mvsk [] = id := by funext m; rfl
    rw [this, List.map_id]
  obtain ⟨δ', S', lpT, es, L, u, ys, f4, f10, f11, f12, f13, f14, rfl, rfl, hel, hti⟩ := forL_step (body := turnS (GG 8) (.nm 10) law_c0) (ds := (List.range (1 + w)).map fun (i : Nat) => D.int (i : Int))
    (fun i δ S => ∃ (es : List Ty.Ed) (L : List Int) (u : List Nat) (ys : List Int) (f4 f10 f11 f12 f13 f14 : Option D), δ = [some (s), some (.obj 0), some (.str t), some (IL L), f4, some (.lst ((marksL (t.length + 1)).map MP)), f6, some (.obj 1), some (.str u), some (.lst (((marksL (t.length + 1)).map (mvsk es)).map MP)), f10, f11, f12, f13, f14, none, none, none, none, none, none, none, none, none, none, none, none] ∧ S = Sy (Cs es) ys ∧ es.length = i ∧ TI i es L u ((marksL (t.length + 1)).map (mvsk es)))
    (fun i x δ S hx h => by
      obtain ⟨es, L, u, ys, f4, f10, f11, f12, f13, f14, rfl, rfl, hel, hti⟩ := h
      rw [List.getElem?_map, Option.map_eq_some_iff] at hx
      obtain ⟨j, hj, rfl⟩ := hx
      obtain ⟨hlt, e⟩ := List.getElem?_eq_some_iff.mp hj
      rw [List.length_range] at hlt
      rw [List.getElem_range] at e
      subst e
      obtain ⟨e, L', ys', g4, g11, g12, g13, g14, hg, hti', tr⟩ := law_turn 3 i (by omega) hti (by rw [List.length_map, marksL_len]; omega) (by omega) ys (some s) (some (.str t)) f4 (some (.lst ((marksL (t.length + 1)).map MP))) f6 f10 f11 f12 f13 f14 none none none none none none none none none none none none
      rw [mvsk_snoc] at hti' tr
      exact ⟨_, _, tr, es ++ [e], L', _, ys', g4, some (.int (i : Int)), g11, g12, g13, g14, rfl, rfl, by rw [List.length_append, hel]; rfl, hti'⟩)
    (δ := [some (s), some (.obj 0), some (.str t), some (IL (news 1000 t.length)), none, some (.lst ((marksL (t.length + 1)).map MP)), f6, some (.obj 1), some (.str t), some (.lst (((marksL (t.length + 1)).map (mvsk [])).map MP)), none, none, none, none, none, none, none, none, none, none, none, none, none, none, none, none, none]) (S := Sy (Cs []) x3) ⟨[], _, t, x3, none, none, none, none, none, none, rfl, rfl, rfl, ti0⟩
  rw [List.length_map, List.length_range] at hel
  obtain ⟨a, r, rfl⟩ : ∃ a r, es = a :: r := by
    cases es with
    | nil => simp at hel; omega
    | cons a r => exact ⟨a, r, rfl⟩
  rw [List.length_cons] at hel
  -- all through all
  obtain ⟨δ', S', lpA, g4, rfl, rfl⟩ := forL_step (body := turnS (GG 8) (.nm 4) law_i0) (ds := (List.range (2 * (t.length + 1))).map fun (i : Nat) => D.int (i : Int))
    (fun i δ S => ∃ f4, δ = [some (s), some (.obj 0), some (.str t), some (IL L), f4, some (.lst ((marksL (t.length + 1)).map MP)), f6, some (.obj 1), some (.str u), some (.lst (((marksL (t.length + 1)).map (mvsk (a :: r))).map MP)), f10, f11, f12, f13, f14, none, none, none, none, none, none, none, none, none, none, none, none] ∧ S = Sy (Cs (a :: r)) ys)
    (fun i x δ S hx h => by
      obtain ⟨f4, rfl, rfl⟩ := h
      rw [List.getElem?_map, Option.map_eq_some_iff] at hx
      obtain ⟨j, hj, rfl⟩ := hx
      obtain ⟨hlt, e⟩ := List.getElem?_eq_some_iff.mp hj
      rw [List.length_range] at hlt
      rw [List.getElem_range] at e
      subst e
      have tr := all_turn 6 (a := a) (r := r) (by omega) (M := marksL (t.length + 1)) (i := i) (by rw [marksL_len]; omega) ys (some s) (some (.obj 0)) (some (.str t)) (some (IL L)) f4 f6 (some (.str u)) f10 f11 f12 f13 f14 none none none none none none none none none none none none
      exact ⟨_, _, tr, _, rfl, rfl⟩)
    (δ := [some (s), some (.obj 0), some (.str t), some (IL L), f4, some (.lst ((marksL (t.length + 1)).map MP)), f6, some (.obj 1), some (.str u), some (.lst (((marksL (t.length + 1)).map (mvsk (a :: r))).map MP)), f10, f11, f12, f13, f14, none, none, none, none, none, none, none, none, none, none, none, none]) (S := Sy (Cs (a :: r)) ys) ⟨f4, rfl, rfl⟩
  -- at once
  obtain ⟨ae, x4, hae, h6, e9⟩ := law_row_ok (Cs (a :: r)) 5 ys (t := t) (by omega)
  have t0 := told0 1 hae (by omega) .non (Sy (Cs (a :: r)) x4)
  have lh := law_held_ok 7 (t := t) (es := ae) (by omega) (by omega) (Sy (Cs (a :: r)) x4)
  have al : Ph 8 i_law_alike [.tup ((Tm.held ae 0 t.length 0).map PR), .tup ((Tm.held ae 0 t.length 0).map PR)] (Sy (Cs (a :: r)) x4) = .ok (.bl true) (Sy (Cs (a :: r)) x4) := by
    have hl2 : ((Tm.held ae 0 t.length 0).map PR).length ≤ 1000000 := by
      rw [List.length_map]
      unfold Tm.held
      rw [List.length_map]
      have := List.length_filter_le (fun i => !Ty.cov ae i) (List.range' 0 t.length)
      rw [List.length_range'] at this
      omega
    refine alike_ok 3 4 _ _ ?_ (prs_plain _) ?_
    · have := prs_depth (Tm.held ae 0 t.length 0)
      simp only [D.depth]; omega
    · simp only [smallB, prs_small, Bool.and_true]
      simpa using hl2
  obtain ⟨ks, hks⟩ : ∃ ks, ks = (Tm.held ae 0 t.length 0).map fun p => D.int (p.1 : Int) := ⟨_, rfl⟩
  obtain ⟨vs, hvs⟩ : ∃ vs, vs = (Tm.held ae 0 t.length 0).map fun p => D.int p.2 := ⟨_, rfl⟩
  have dz : dictZF (.st ((Tm.held ae 0 t.length 0).map PR)) = some (.dic ks vs) := by
    unfold dictZF
    simp only [held_pairs, Option.map_some, hks, hvs]
  obtain ⟨δ', S', lpO, h6', h11, h19, h20, h21, h22, h23, rfl, rfl⟩ := forL_step (body := turnS (GG 8) (.tp [6, 19]) law_n0) (ds := (marksL (t.length + 1)).map MP)
    (fun i δ S => ∃ (g6 g11 g19 g20 g21 g22 g23 : Option D), δ = [some (s), some (.obj 0), some (.str t), some (IL L), g4, some (.lst ((marksL (t.length + 1)).map MP)), g6, some (.obj 1), some (.str u), some (.lst (((marksL (t.length + 1)).map (mvsk (a :: r))).map MP)), f10, g11, f12, f13, f14, none, none, some (.tup (ae.map EV)), some (.dic ks vs), g19, g20, g21, g22, g23, none, none, none] ∧ S = Sy (Cs (a :: r)) x4)
    (fun i x δ S hx h => by
      obtain ⟨g6, g11, g19, g20, g21, g22, g23, rfl, rfl⟩ := h
      rw [List.getElem?_map, Option.map_eq_some_iff] at hx
      obtain ⟨m, hm, rfl⟩ := hx
      have ml := marksL_mem (List.mem_of_getElem? hm)
      obtain ⟨j11, j20, j21, j22, j23, tr⟩ := once_turn 0 hae m.1 m.2 (by omega) (Sy (Cs (a :: r)) x4) (some s) (some (.obj 0)) (some (IL L)) g4 (some (.lst ((marksL (t.length + 1)).map MP))) g6 (some (.obj 1)) (some (.str u)) (some (.lst (((marksL (t.length + 1)).map (mvsk (a :: r))).map MP))) f10 g11 f12 f13 f14 none none g19 g20 g21 g22 g23 none none none
      rw [← hks, ← hvs] at tr
      exact ⟨_, _, tr, _, _, _, _, _, _, _, rfl, rfl⟩)
    (δ := [some (s), some (.obj 0), some (.str t), some (IL L), g4, some (.lst ((marksL (t.length + 1)).map MP)), f6, some (.obj 1), some (.str u), some (.lst (((marksL (t.length + 1)).map (mvsk (a :: r))).map MP)), f10, f11, f12, f13, f14, none, none, some (.tup (ae.map EV)), some (.dic ks vs), none, none, none, none, none, none, none, none]) (S := Sy (Cs (a :: r)) x4) ⟨f6, f11, none, none, none, none, none, rfl, rfl⟩
  refine (run_rt (S' := Sy (Cs (a :: r)) x4) (d := .bl true) ?_).trans (by simp)
  simp only [startD_s, startD_0, List.replicate]
  show evSs (GG 8) law_a0 [some (s), none, none, none, none, none, none, none, none, none, none, none, none, none, none, none, none, none, none, none, none, none, none, none, none, none, none] [] = _
  rw [law_a0_e, step (s := law_a_s0) (δ1 := [some (s), some (.obj 0), none, none, none, none, none, none, none, none, none, none, none, none, none, none, none, none, none, none, none, none, none, none, none, none, none]) (S1 := Sx xs) (by simp [law_a_s0, e0])]
  rw [law_a1_e, step (s := law_a_s1) (δ1 := [some (s), some (.obj 0), some (.str t), none, none, none, none, none, none, none, none, none, none, none, none, none, none, none, none, none, none, none, none, none, none, none, none]) (S1 := Sx x2) (by simp [law_a_s1, e1', ix, e2])]
  rw [law_a2_e, step (s := law_a_s2) (δ1 := [some (s), some (.obj 0), some (.str t), some (IL (news 1000 t.length)), none, none, none, none, none, none, none, none, none, none, none, none, none, none, none, none, none, none, none, none, none, none, none]) (S1 := Sx x2) (by
    unfold law_a_s2
    rw [evS_set, comp_pure (ds := (List.range t.length).map fun (i : Nat) => D.int (i : Int)) (fun d => match d with | .int i => some (.int (1000 + i)) | _ => none) (it_rng1 (by simp) (by omega)) (fun x hx => by
      obtain ⟨i, _, rfl⟩ := List.mem_map.mp hx
      rw [turn_el]
      simp) (by simp; omega), exS_ok]
    have : (((List.range t.length).map fun (i : Nat) => D.int (i : Int)).filterMap fun d => match d with | .int i => some (D.int (1000 + i)) | _ => none) = (news 1000 t.length).map D.int := by
      unfold news
      rw [List.filterMap_map, List.map_map, ← List.filterMap_eq_map]
      rfl
    rw [this]; rfl)]
  rw [law_a3_e, step (s := law_a_s3) (δ1 := [some (s), some (.obj 0), some (.str t), some (IL (news 1000 t.length)), none, some (.lst []), none, none, none, none, none, none, none, none, none, none, none, none, none, none, none, none, none, none, none, none, none]) (S1 := Sx x2) (by
    generalize IL (news 1000 t.length) = Q at *
    simp [law_a_s3])]
  rw [law_a4_e, step (s := law_a_s4) (δ1 := [some (s), some (.obj 0), some (.str t), some (IL (news 1000 t.length)), none, some (.lst ((marksL (t.length + 1)).map MP)), f6, none, none, none, none, none, none, none, none, none, none, none, none, none, none, none, none, none, none, none, none]) (S1 := Sx x2) (by
    unfold law_a_s4
    rw [evS_forr, it_rng1 (n := t.length + 1) (S1 := Sx x2) (by
      generalize IL (news 1000 t.length) = Q at *
      simp) (by omega), exS_ok]
    exact lpM)]
  rw [law_a5_e, step (s := law_a_s5) (δ1 := [some (s), some (.obj 0), some (.str t), some (IL (news 1000 t.length)), none, some (.lst ((marksL (t.length + 1)).map MP)), f6, some (.obj 1), none, none, none, none, none, none, none, none, none, none, none, none, none, none, none, none, none, none, none]) (S1 := Sy (Cs []) x2) (by
    have mk : mkList true [] (Sx x2) = .ok (.obj 1) (Sy (Cs []) x2) := new_top (Sx x2)
    generalize IL (news 1000 t.length) = Q at *
    generalize (marksL (t.length + 1)).map MP = Q1 at *
    simp [law_a_s5, mk])]
  rw [law_a6_e, step (s := law_a_s6) (δ1 := [some (s), some (.obj 0), some (.str t), some (IL (news 1000 t.length)), none, some (.lst ((marksL (t.length + 1)).map MP)), f6, some (.obj 1), some (.str t), some (.lst (((marksL (t.length + 1)).map (mvsk [])).map MP)), none, none, none, none, none, none, none, none, none, none, none, none, none, none, none, none, none]) (S1 := Sy (Cs []) x2) (by
    rw [m0]
    generalize IL (news 1000 t.length) = Q at *
    generalize (marksL (t.length + 1)).map MP = Q1 at *
    simp [law_a_s6])]
  rw [law_a7_e, step (s := law_a_s7) (δ1 := [some (s), some (.obj 0), some (.str t), some (IL L), f4, some (.lst ((marksL (t.length + 1)).map MP)), f6, some (.obj 1), some (.str u), some (.lst (((marksL (t.length + 1)).map (mvsk (a :: r))).map MP)), f10, f11, f12, f13, f14, none, none, none, none, none, none, none, none, none, none, none, none]) (S1 := Sy (Cs (a :: r)) ys) (by
    unfold law_a_s7
    rw [evS_forr, it_rng1 (n := 1 + w) (S1 := Sy (Cs []) x3) (by
      generalize IL (news 1000 t.length) = Q at *
      generalize (marksL (t.length + 1)).map MP = Q1 at *
      generalize ((marksL (t.length + 1)).map (mvsk [])).map MP = Q2 at *
      simp [e3']) (by omega), exS_ok]
    exact lpT)]
  have lM : (((marksL (t.length + 1)).map MP).length : Int) = ((2 * (t.length + 1) : Nat) : Int) := by rw [List.length_map, marksL_len]
  rw [law_a8_e, step (s := law_a_s8) (δ1 := [some (s), some (.obj 0), some (.str t), some (IL L), g4, some (.lst ((marksL (t.length + 1)).map MP)), f6, some (.obj 1), some (.str u), some (.lst (((marksL (t.length + 1)).map (mvsk (a :: r))).map MP)), f10, f11, f12, f13, f14, none, none, none, none, none, none, none, none, none, none, none, none]) (S1 := Sy (Cs (a :: r)) ys) (by
    unfold law_a_s8
    rw [evS_forr, it_rng1 (n := 2 * (t.length + 1)) (S1 := Sy (Cs (a :: r)) ys) (by
      rw [← lM]
      generalize IL L = Q at *
      generalize ((marksL (t.length + 1)).map (mvsk (a :: r))).map MP = Q2 at *
      generalize (marksL (t.length + 1)).map MP = Q1 at *
      simp) (by omega), exS_ok]
    exact lpA)]
  generalize hSS : Sy (Cs (a :: r)) x4 = SS at *
  rw [law_a9_e, step (s := law_a_s9) (δ1 := [some (s), some (.obj 0), some (.str t), some (IL L), g4, some (.lst ((marksL (t.length + 1)).map MP)), f6, some (.obj 1), some (.str u), some (.lst (((marksL (t.length + 1)).map (mvsk (a :: r))).map MP)), f10, f11, f12, f13, f14, none, none, some (.tup (ae.map EV)), none, none, none, none, none, none, none, none, none]) (S1 := SS) (by
    generalize IL L = Q at *
    generalize ((marksL (t.length + 1)).map (mvsk (a :: r))).map MP = Q2 at *
    generalize (marksL (t.length + 1)).map MP = Q1 at *
    generalize ae.map EV = Q3 at *
    simp [law_a_s9, e9])]
  rw [law_a10_e, step (s := law_a_s10) (δ1 := [some (s), some (.obj 0), some (.str t), some (IL L), g4, some (.lst ((marksL (t.length + 1)).map MP)), f6, some (.obj 1), some (.str u), some (.lst (((marksL (t.length + 1)).map (mvsk (a :: r))).map MP)), f10, f11, f12, f13, f14, none, none, some (.tup (ae.map EV)), none, none, none, none, none, none, none, none, none]) (S1 := SS) (by
    unfold law_a_s10
    refine iff_n (S1 := SS) ?_
    generalize IL L = Q at *
    generalize ((marksL (t.length + 1)).map (mvsk (a :: r))).map MP = Q2 at *
    generalize (marksL (t.length + 1)).map MP = Q1 at *
    generalize ae.map EV = Q3 at *
    generalize (Tm.held ae 0 t.length 0).map PR = Q4 at *
    simp [t0, lh, al, unzF])]
  rw [law_a11_e, step (s := law_a_s11) (δ1 := [some (s), some (.obj 0), some (.str t), some (IL L), g4, some (.lst ((marksL (t.length + 1)).map MP)), f6, some (.obj 1), some (.str u), some (.lst (((marksL (t.length + 1)).map (mvsk (a :: r))).map MP)), f10, f11, f12, f13, f14, none, none, some (.tup (ae.map EV)), some (.dic ks vs), none, none, none, none, none, none, none, none]) (S1 := SS) (by
    generalize IL L = Q at *
    generalize ((marksL (t.length + 1)).map (mvsk (a :: r))).map MP = Q2 at *
    generalize (marksL (t.length + 1)).map MP = Q1 at *
    generalize ae.map EV = Q3 at *
    generalize (Tm.held ae 0 t.length 0).map PR = Q4 at *
    simp [law_a_s11, lh, dz])]
  rw [law_a12_e, step (s := law_a_s12) (δ1 := [some (s), some (.obj 0), some (.str t), some (IL L), g4, some (.lst ((marksL (t.length + 1)).map MP)), h6', some (.obj 1), some (.str u), some (.lst (((marksL (t.length + 1)).map (mvsk (a :: r))).map MP)), f10, h11, f12, f13, f14, none, none, some (.tup (ae.map EV)), some (.dic ks vs), h19, h20, h21, h22, h23, none, none, none]) (S1 := SS) (by
    unfold law_a_s12
    rw [evS_forr]
    simp only [evI_seq, ev_var, getD_succ, getD_zero, lift_some, Out.bind_ok, src_lst, liftO_some, exS_ok]
    exact lpO)]
  generalize IL L = Q at *
  generalize ((marksL (t.length + 1)).map (mvsk (a :: r))).map MP = Q2 at *
  generalize (marksL (t.length + 1)).map MP = Q1 at *
  generalize ae.map EV = Q3 at *
  have fc := form_comp [some (s), some (.obj 0), some (.str t), some Q, g4, some (.lst Q1), h6', some (.obj 1), some (.str u), some (.lst Q2), f10, h11, f12, f13, f14, none, none, some (.tup Q3), some (.dic ks vs), h19, h20, h21, h22, h23, none, none, none] t SS rfl (by simp)
  have mm : binF .mul (.lst [formW]) (.int 2) SS = some (.lst [formW, formW]) := b_mul_lst SS (a := [formW]) (j := 2) (by simp)
  have ns := ne_self (x := .lst [formW, formW]) SS rfl (by simp [D.depth, D.depths])
  rw [law_a13_e, step (s := law_a_s13) (δ1 := [some (s), some (.obj 0), some (.str t), some Q, g4, some (.lst Q1), h6', some (.obj 1), some (.str u), some (.lst Q2), f10, h11, f12, f13, f14, none, none, some (.tup Q3), some (.dic ks vs), h19, h20, h21, h22, h23, none, none, none]) (S1 := SS) (by
    unfold law_a_s13
    refine iff_n (S1 := SS) ?_
    rw [tst_cmp, fc, Out.bind_ok]
    simp [mm, ns])]
  rw [law_a14_e, step (s := law_a_s14) (δ1 := [some (s), some (.obj 0), some (.str t), some Q, g4, some (.lst Q1), h6', some (.obj 1), some (.str u), some (.lst Q2), f10, h11, f12, f13, f14, none, none, some (.tup Q3), some (.dic ks vs), h19, h20, h21, h22, h23, none, some (.lst (wrongL t.length)), none]) (S1 := SS) (by
    simp [law_a_s14, wrongL])]
  have wc := wrong_comp [some (s), some (.obj 0), some (.str t), some Q, g4, some (.lst Q1), h6', some (.obj 1), some (.str u), some (.lst Q2), f10, h11, f12, f13, f14, none, none, some (.tup Q3), some (.dic ks vs), h19, h20, h21, h22, h23, none, some (.lst (wrongL t.length)), none] t SS rfl rfl (by simp)
  rw [law_a15_e]
  refine step_rt (ret_of ?_)
  rw [ev_cmp, wc, Out.bind_ok]
  simp
end Law

set_option Elab.async false
set_option linter.all false
set_option maxRecDepth 100000
set_option maxHeartbeats 0
namespace Law
open PySem PySem.Spec PyProof.Rows L2 PD
theorem dfs_ok : dfs.all (dfOk xd (gts.map (·.1)) (fnsOf dfs)) = true := by kernel_rfl
theorem pl_ok : dfs.all (fun d => plainArgs (defArgs d.st) d.ps) = true := by kernel_rfl
theorem wf_ok : ∀ f, hk.wf = some f → f.ok = true := fun f h => by
  have e : wfd = f := Option.some.inj h
  rw [← e]
  kernel_rfl
abbrev R : PySem.W.OpenRow := PySem.W.OpenLaw.row PySem.Challenge.rw_editsagree_k08_whole_marks_that_move
abbrev hook : PySem.W.Hook := hookP 2 hk
def ob (s : PySem.W.SharedT) : AlP := hk.obsG 2 (HandSHeadRun.getT s)
theorem ob_eq (s : PySem.W.SharedT) : ob s = hook.obs s.abs := Hk.obsG_eq (HandSHeadRun.getT_eq s)
theorem run (w : World) : HandSHeadRun.RunEq R (PySem.W.view R.prog [41]) hook ob 16000 (List.cons "EditError" (List.cons "OutOfRange" (List.cons "Malformed" (List.cons "NotThere" (List.cons "Refused" (List.cons "TooMuch" (List.cons "is_number" (List.cons "MOST_SIGNS" (List.cons "MOST_EDITS" (List.cons "FIRST_SIGN" (List.cons "LAST_SIGN" (List.cons "LINE_END" (List.cons "is_signs" (List.cons "is_text" (List.cons "is_change" (List.cons "are_edits" (List.cons "check_edits" (List.cons "in_turn" (List.cons "LEFT" (List.cons "RIGHT" (List.cons "is_mark" (List.cons "moved" (List.cons "moved_through" (List.cons "moved_at_once" (List.cons "hold_of" (List.cons "_law_draws" (List.cons "_law_take" (List.cons "_law_alike" (List.cons "_law_word" (List.cons "_law_text" (List.cons "_law_edit" (List.cons "_law_signs" (List.cons "_law_due" (List.cons "_law_row" (List.cons "_law_told" (List.cons "_law_held" List.nil)))))))))))))))))))))))))))))))))))) w :=
  PySem.W.byRow2 "special-get-raises" (P := fun w => HandSHeadRun.RunEq R (PySem.W.view R.prog [41]) hook ob 16000 (List.cons "EditError" (List.cons "OutOfRange" (List.cons "Malformed" (List.cons "NotThere" (List.cons "Refused" (List.cons "TooMuch" (List.cons "is_number" (List.cons "MOST_SIGNS" (List.cons "MOST_EDITS" (List.cons "FIRST_SIGN" (List.cons "LAST_SIGN" (List.cons "LINE_END" (List.cons "is_signs" (List.cons "is_text" (List.cons "is_change" (List.cons "are_edits" (List.cons "check_edits" (List.cons "in_turn" (List.cons "LEFT" (List.cons "RIGHT" (List.cons "is_mark" (List.cons "moved" (List.cons "moved_through" (List.cons "moved_at_once" (List.cons "hold_of" (List.cons "_law_draws" (List.cons "_law_take" (List.cons "_law_alike" (List.cons "_law_word" (List.cons "_law_text" (List.cons "_law_edit" (List.cons "_law_signs" (List.cons "_law_due" (List.cons "_law_row" (List.cons "_law_told" (List.cons "_law_held" List.nil)))))))))))))))))))))))))))))))))))) w) (fun w os => by kernel_rfl) (fun w os => by kernel_rfl) w
end Law

set_option Elab.async false
set_option maxRecDepth 100000
set_option maxHeartbeats 0
open PySem PySem.W PySem.Calls PyProof.Rows
theorem PySem.Challenge.cw_editsagree_k08_whole_marks_that_move_holds : PySem.Challenge.rw_editsagree_k08_whole_marks_that_move.Holds := by
  w_on; o_law
  refine HandSHeadRun.head_any (r := Law.R) (q := view Law.R.prog [41]) (H := Law.hook) (ob := Law.ob) (M := 16000) (loose := (List.cons "EditError" (List.cons "OutOfRange" (List.cons "Malformed" (List.cons "NotThere" (List.cons "Refused" (List.cons "TooMuch" (List.cons "is_number" (List.cons "MOST_SIGNS" (List.cons "MOST_EDITS" (List.cons "FIRST_SIGN" (List.cons "LAST_SIGN" (List.cons "LINE_END" (List.cons "is_signs" (List.cons "is_text" (List.cons "is_change" (List.cons "are_edits" (List.cons "check_edits" (List.cons "in_turn" (List.cons "LEFT" (List.cons "RIGHT" (List.cons "is_mark" (List.cons "moved" (List.cons "moved_through" (List.cons "moved_at_once" (List.cons "hold_of" (List.cons "_law_draws" (List.cons "_law_take" (List.cons "_law_alike" (List.cons "_law_word" (List.cons "_law_text" (List.cons "_law_edit" (List.cons "_law_signs" (List.cons "_law_due" (List.cons "_law_row" (List.cons "_law_told" (List.cons "_law_held" List.nil))))))))))))))))))))))))))))))))))))) (d := HandSHeadRun.topDef Law.R.prog 41) (kwd := []) Law.ob_eq
    (by kernel_rfl) (fun s => by kernel_rfl) Law.run (by kernel_rfl) (by kernel_rfl) (by kernel_rfl) (by rfl) (by first | assumption | decide +kernel) (by decide +kernel) ⟨rfl, rfl, rfl, rfl, rfl, by decide +kernel⟩ ?hw ?hc
  case hw => w_witness2
  case hc =>
    exact PD.walk_PD (l := PySem.Challenge.rw_editsagree_k08_whole_marks_that_move) (n := 63) (k := 8) (i := 22) (x := "script") (hk := Law.hk) (dl := Law.d_law) rfl (by decide) (by kernel_rfl) ⟨rfl, by decide, by decide⟩ Law.dfs_ok Law.wf_ok Law.pl_ok rfl (by kernel_rfl) rfl (by decide +kernel) Law.law_ok

