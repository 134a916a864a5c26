import PyProof.Rows.All
import Wide.All
import OpenK.AllK
import Wide.FinOn
import HandS.ForMost
import HandS.ForExc
import HandS.Deep
import HandS.DictComp
import HandS.Zip
import HandS.SortInts
import HandS.Wide
import HandS.IsInst
import HandS.Small
import HandS.Style
import HandS.More
import HandS.Flow
import HandS.Strs
import HandS.SetFor
import HandS.TryOnly
import HandS.Words
import HandS.TupSets
import HandS.Conv
import HandS.Ends
import PySem.Challenge.RW_leafcodes_k01_trees
set_option Elab.async false
set_option linter.all false
set_option maxRecDepth 100000
/-! DLa: data, what is owned, results. -/
namespace DL
open PySem L2

abbrev D := PyData
abbrev Rg := Option (Int × Int × Bool)
inductive Res (α : Type) where
  | ok (a : α) (r : Rg)
  | ex (c : Str) (d : D) (r : Rg)
  | bad
abbrev M (α : Type) := Rg → Res α
def M.pure {α : Type} (a : α) : M α := fun r => .ok a r
def M.bind {α β : Type} (m : M α) (f : α → M β) : M β := fun r => match m r with
  | .ok a r' => f a r'
  | .ex c d r' => .ex c d r'
  | .bad => .bad
instance : Monad M where
  pure := M.pure
  bind := M.bind
def M.lift {α : Type} (o : Option α) : M α := fun r => match o with
  | some a => .ok a r
  | none => .bad
def M.bad {α : Type} : M α := fun _ => .bad
abbrev Slots := List (Option D)
abbrev Den := Slots → M D

def keyD : Key → D
  | .inl i => .int i
  | .inr s => .str s

/-- the keys, no one twice -/
structure KeyOk (kds : List (D × D)) (kvs : List (Key × V)) : Prop where
  eq : kds.map (·.1) = kvs.map (fun kv => keyD kv.1)
  nd : (kvs.map (·.1)).Nodup

/-- what stands for a thing that was taken out -/
abbrev HOLE : D := .tuple [.dict [(.none, .none)]]
def isHole : List D → Bool
  | [.dict [(.none, .none)]] => true
  | _ => false
mutual
inductive Own (H : Hp) (L : Addr → Prop) : Nat → V → D → List Addr → Prop
  | non {n} : Own H L n .non .none []
  | bl {n b} : Own H L n (.bl b) (.bool b) []
  | int {n i} : Own H L n (.int i) (.int i) []
  | str {n s} : Own H L n (.str s) (.str s) []
  /-- a thing of which nothing is known: its owner is elsewhere -/
  | hole {n p} : Own H L n (.ref p) (.tuple [.dict [(.none, .none)]]) []
  | lst0 {p vs ds} : L p → H p = some (.lst vs) → ds.length ≤ sizeLine → Owns H L 0 vs ds [] → Own H L 0 (.ref p) (.list ds) []
  | lst {n p vs ds as} : H p = some (.lst vs) → ds.length ≤ sizeLine → Owns H L n vs ds as → Own H L (n + 1) (.ref p) (.list ds) (p :: as)
  | tup {n p vs ds as} : L p → H p = some (.tup vs) → ds.length ≤ sizeLine → Owns H L n vs ds as → Own H L n (.ref p) (.tuple ds) as
  | dct0 {p kvs kds} : L p → Rd H p (.dK kvs) → kds.length ≤ sizeLine → KeyOk kds kvs →
      Owns H L 0 (kvs.map (·.2)) (kds.map (·.2)) [] → Own H L 0 (.ref p) (.dict kds) []
  | dct {n p kvs kds as} : H p = some (.dK kvs) → kds.length ≤ sizeLine → KeyOk kds kvs →
      Owns H L n (kvs.map (·.2)) (kds.map (·.2)) as → Own H L (n + 1) (.ref p) (.dict kds) (p :: as)
inductive Owns (H : Hp) (L : Addr → Prop) : Nat → List V → List D → List Addr → Prop
  | nil {n} : Owns H L n [] [] []
  | cons {n v vs d ds as bs} : Own H L n v d as → Owns H L n vs ds bs → Owns H L n (v :: vs) (d :: ds) (as ++ bs)
end

section
variable {H H' : Hp} {L L' : Addr → Prop}
theorem Rd.move {p : Addr} {u : HO} (r : Rd H p u) (h : ∀ o, H p = some o → H' p = some o) : Rd H' p u := by
  rcases r with r | ⟨o, r⟩
  · exact .inl (h _ r)
  · exact .inr ⟨o, h _ r⟩
theorem app_nil2 {α : Type} {a b : List α} (h : a ++ b = []) : a = [] ∧ b = [] := by
  cases a with
  | nil => exact ⟨rfl, h⟩
  | cons x a => cases h

mutual
theorem Own.mono (hL : ∀ p, L p → L' p) : ∀ {n : Nat} {v : V} {d : D} {as : List Addr}, Own H L n v d as → (∀ p o, (L p ∨ p ∈ as) → H p = some o → H' p = some o) → Own H' L' n v d as
  | _, _, _, _, .non, _ => .non
  | _, _, _, _, .bl, _ => .bl
  | _, _, _, _, .int, _ => .int
  | _, _, _, _, .str, _ => .str
  | _, _, _, _, .hole, _ => .hole
  | _, _, _, _, .lst0 a b c d, h => .lst0 (hL _ a) (h _ _ (.inl a) b) c (d.mono hL fun p o hp => h p o (hp.elim .inl fun z => nomatch z))
  | _, _, _, _, .lst a b c, h => .lst (h _ _ (.inr List.mem_cons_self) a) b (c.mono hL fun p o hp => h p o (hp.elim .inl fun z => .inr (List.mem_cons_of_mem _ z)))
  | _, _, _, _, .tup a b c d, h => .tup (hL _ a) (h _ _ (.inl a) b) c (d.mono hL h)
  | _, _, _, _, .dct0 a b c d e, h => .dct0 (hL _ a) (Rd.move b fun o => h _ o (.inl a)) c d (e.mono hL fun p o hp => h p o (hp.elim .inl fun z => nomatch z))
  | _, _, _, _, .dct a b c d, h => .dct (h _ _ (.inr List.mem_cons_self) a) b c (d.mono hL fun p o hp => h p o (hp.elim .inl fun z => .inr (List.mem_cons_of_mem _ z)))
theorem Owns.mono (hL : ∀ p, L p → L' p) : ∀ {n : Nat} {v : List V} {d : List D} {as : List Addr}, Owns H L n v d as → (∀ p o, (L p ∨ p ∈ as) → H p = some o → H' p = some o) → Owns H' L' n v d as
  | _, _, _, _, .nil, _ => .nil
  | _, _, _, _, .cons a b, h => .cons (a.mono hL fun p o hp => h p o (hp.elim .inl fun z => .inr (List.mem_append_left _ z))) (b.mono hL fun p o hp => h p o (hp.elim .inl fun z => .inr (List.mem_append_right _ z)))
end

mutual
theorem Own.zero : ∀ {n : Nat} {v : V} {d : D} {as : List Addr}, Own H L n v d as → n = 0 → as = []
  | _, _, _, _, .non, _ => rfl
  | _, _, _, _, .bl, _ => rfl
  | _, _, _, _, .int, _ => rfl
  | _, _, _, _, .str, _ => rfl
  | _, _, _, _, .hole, _ => rfl
  | _, _, _, _, .lst0 _ _ _ _, _ => rfl
  | _, _, _, _, .lst _ _ _, e => absurd e (Nat.succ_ne_zero _)
  | _, _, _, _, .tup _ _ _ c, e => c.zero e
  | _, _, _, _, .dct0 _ _ _ _ _, _ => rfl
  | _, _, _, _, .dct _ _ _ _, e => absurd e (Nat.succ_ne_zero _)
theorem Owns.zero : ∀ {n : Nat} {v : List V} {d : List D} {as : List Addr}, Owns H L n v d as → n = 0 → as = []
  | _, _, _, _, .nil, _ => rfl
  | _, _, _, _, .cons a b, e => by rw [a.zero e, b.zero e]; rfl
end

mutual
/-- what is owned stands -/
theorem Own.stands : ∀ {n : Nat} {v : V} {d : D} {as : List Addr}, Own H L n v d as → ∀ p ∈ as, H p ≠ none
  | _, _, _, _, .non, _, z => nomatch z
  | _, _, _, _, .bl, _, z => nomatch z
  | _, _, _, _, .int, _, z => nomatch z
  | _, _, _, _, .str, _, z => nomatch z
  | _, _, _, _, .hole, _, z => nomatch z
  | _, _, _, _, .lst0 _ _ _ _, _, z => nomatch z
  | _, _, _, _, .lst a _ c, p, z => by
    rcases List.mem_cons.mp z with e | z
    · rw [e, a]; exact nofun
    · exact c.stands p z
  | _, _, _, _, .tup _ _ _ c, p, z => c.stands p z
  | _, _, _, _, .dct0 _ _ _ _ _, _, z => nomatch z
  | _, _, _, _, .dct a _ _ c, p, z => by
    rcases List.mem_cons.mp z with e | z
    · rw [e, a]; exact nofun
    · exact c.stands p z
theorem Owns.stands : ∀ {n : Nat} {v : List V} {d : List D} {as : List Addr}, Owns H L n v d as → ∀ p ∈ as, H p ≠ none
  | _, _, _, _, .nil, _, z => nomatch z
  | _, _, _, _, .cons a b, p, z => (List.mem_append.mp z).elim (a.stands p) (b.stands p)
end

mutual
/-- a lower level: some of the owned places become places that are only read -/
theorem Own.wk : ∀ {n : Nat} {v : V} {d : D} {as : List Addr}, Own H L n v d as → ∀ k, k ≤ n → ∃ bs cs, as.Perm (bs ++ cs) ∧ ∀ L' : Addr → Prop, (∀ p, L p → L' p) → (∀ p ∈ cs, L' p) → Own H L' k v d bs
  | _, _, _, _, .non, k, _ => ⟨[], [], .nil, fun _ _ _ => .non⟩
  | _, _, _, _, .bl, k, _ => ⟨[], [], .nil, fun _ _ _ => .bl⟩
  | _, _, _, _, .int, k, _ => ⟨[], [], .nil, fun _ _ _ => .int⟩
  | _, _, _, _, .str, k, _ => ⟨[], [], .nil, fun _ _ _ => .str⟩
  | _, _, _, _, .hole, k, _ => ⟨[], [], .nil, fun _ _ _ => .hole⟩
  | _, _, _, _, .lst0 a b c d, k, hk => by
    cases Nat.le_zero.mp hk
    exact ⟨[], [], .nil, fun L' h _ => Own.mono (H := H) h (.lst0 a b c d) fun _ _ _ e => e⟩
  | _, _, _, _, @Own.lst _ _ n p vs ds as a b c, 0, hk => by
    obtain ⟨bs, cs, pe, h⟩ := c.wk 0 (Nat.zero_le _)
    have e := (h (fun q => L q ∨ q ∈ cs) (fun _ => .inl) fun _ => .inr).zero rfl
    subst e
    exact ⟨[], p :: cs, pe.cons p, fun L' h1 h2 => .lst0 (h2 p List.mem_cons_self) a b (h L' h1 fun q hq => h2 q (List.mem_cons_of_mem _ hq))⟩
  | _, _, _, _, @Own.lst _ _ n p vs ds as a b c, k + 1, hk => by
    obtain ⟨bs, cs, pe, h⟩ := c.wk k (Nat.le_of_succ_le_succ hk)
    exact ⟨p :: bs, cs, pe.cons p, fun L' h1 h2 => .lst a b (h L' h1 h2)⟩
  | _, _, _, _, .tup a b c d, k, hk => by
    obtain ⟨bs, cs, pe, h⟩ := d.wk k hk
    exact ⟨bs, cs, pe, fun L' h1 h2 => .tup (h1 _ a) b c (h L' h1 h2)⟩
  | _, _, _, _, .dct0 a b c d e, k, hk => by
    cases Nat.le_zero.mp hk
    exact ⟨[], [], .nil, fun L' h _ => Own.mono (H := H) h (.dct0 a b c d e) fun _ _ _ e => e⟩
  | _, _, _, _, @Own.dct _ _ n p kvs kds as a b k0 c, 0, hk => by
    obtain ⟨bs, cs, pe, h⟩ := c.wk 0 (Nat.zero_le _)
    have e := (h (fun q => L q ∨ q ∈ cs) (fun _ => .inl) fun _ => .inr).zero rfl
    subst e
    exact ⟨[], p :: cs, pe.cons p, fun L' h1 h2 => .dct0 (h2 p List.mem_cons_self) (.inl a) b k0 (h L' h1 fun q hq => h2 q (List.mem_cons_of_mem _ hq))⟩
  | _, _, _, _, @Own.dct _ _ n p kvs kds as a b k0 c, k + 1, hk => by
    obtain ⟨bs, cs, pe, h⟩ := c.wk k (Nat.le_of_succ_le_succ hk)
    exact ⟨p :: bs, cs, pe.cons p, fun L' h1 h2 => .dct a b k0 (h L' h1 h2)⟩
theorem Owns.wk : ∀ {n : Nat} {v : List V} {d : List D} {as : List Addr}, Owns H L n v d as → ∀ k, k ≤ n → ∃ bs cs, as.Perm (bs ++ cs) ∧ ∀ L' : Addr → Prop, (∀ p, L p → L' p) → (∀ p ∈ cs, L' p) → Owns H L' k v d bs
  | _, _, _, _, .nil, k, _ => ⟨[], [], .nil, fun _ _ _ => .nil⟩
  | _, _, _, _, .cons a b, k, hk => by
    obtain ⟨b1, c1, p1, h1⟩ := a.wk k hk
    obtain ⟨b2, c2, p2, h2⟩ := b.wk k hk
    refine ⟨b1 ++ b2, c1 ++ c2, (p1.append p2).trans ?_, fun L' g1 g2 => .cons (h1 L' g1 fun q hq => g2 q (List.mem_append_left _ hq)) (h2 L' g1 fun q hq => g2 q (List.mem_append_right _ hq))⟩
    rw [List.append_assoc, List.append_assoc]
    refine List.Perm.append_left b1 ?_
    rw [← List.append_assoc, ← List.append_assoc]
    exact List.Perm.append_right c2 List.perm_append_comm
end
/-- read alone -/
theorem Own.view {n : Nat} {v : V} {d : D} {as : List Addr} (h : Own H L n v d as) (h1 : ∀ p, L p → L' p) (h2 : ∀ p ∈ as, L' p) : Own H L' 0 v d [] := by
  obtain ⟨bs, cs, pe, k⟩ := h.wk 0 (Nat.zero_le _)
  have q := k L' h1 fun p hp => h2 p (pe.mem_iff.mpr (List.mem_append_right _ hp))
  cases q.zero rfl
  exact q
theorem Owns.view {n : Nat} {v : List V} {d : List D} {as : List Addr} (h : Owns H L n v d as) (h1 : ∀ p, L p → L' p) (h2 : ∀ p ∈ as, L' p) : Owns H L' 0 v d [] := by
  obtain ⟨bs, cs, pe, k⟩ := h.wk 0 (Nat.zero_le _)
  have q := k L' h1 fun p hp => h2 p (pe.mem_iff.mpr (List.mem_append_right _ hp))
  cases q.zero rfl
  exact q
theorem Owns.len : ∀ {n : Nat} {v : List V} {d : List D} {as : List Addr}, Owns H L n v d as → v.length = d.length
  | _, _, _, _, .nil => rfl
  | _, _, _, _, .cons _ b => congrArg Nat.succ b.len
/-- one of several -/
theorem Owns.get : ∀ {n : Nat} {vs : List V} {ds : List D} {as : List Addr}, Owns H L n vs ds as → ∀ {i : Nat} {d : D}, ds[i]? = some d →
    ∃ v a1 a2 a3, vs[i]? = some v ∧ as = a1 ++ (a2 ++ a3) ∧ Own H L n v d a2
  | _, _, _, _, .nil, i, d, e => by cases e
  | _, _, _, _, @Owns.cons _ _ n v vs d ds as bs a b, 0, _, e => by
    cases e
    exact ⟨v, [], as, bs, rfl, rfl, a⟩
  | _, _, _, _, @Owns.cons _ _ n v vs d ds as bs a b, i + 1, _, e => by
    obtain ⟨u, a1, a2, a3, h1, h2, h3⟩ := b.get (i := i) e
    exact ⟨u, as ++ a1, a2, a3, h1, by rw [h2, List.append_assoc], h3⟩
theorem Owns.get0 {vs : List V} {ds : List D} (h : Owns H L 0 vs ds []) {i : Nat} {d : D} (e : ds[i]? = some d) : ∃ v, vs[i]? = some v ∧ Own H L 0 v d [] := by
  obtain ⟨v, a1, a2, a3, h1, h2, h3⟩ := h.get e
  cases h3.zero rfl
  exact ⟨v, h1, h3⟩
theorem Owns.get0v {vs : List V} {ds : List D} (h : Owns H L 0 vs ds []) {i : Nat} {v : V} (e : vs[i]? = some v) : ∃ d, ds[i]? = some d ∧ Own H L 0 v d [] := by
  have hi : i < ds.length := by rw [← h.len]; exact (List.getElem?_eq_some_iff.mp e).1
  obtain ⟨u, h1, h2⟩ := h.get0 (List.getElem?_eq_getElem hi)
  rw [e] at h1; cases h1
  exact ⟨_, List.getElem?_eq_getElem hi, h2⟩
theorem Owns.append : ∀ {n : Nat} {vs ws : List V} {ds es : List D} {as bs : List Addr}, Owns H L n vs ds as → Owns H L n ws es bs → Owns H L n (vs ++ ws) (ds ++ es) (as ++ bs)
  | _, _, _, _, _, _, _, .nil, h => h
  | _, _, _, _, _, _, _, .cons a b, h => by
    rw [List.append_assoc]
    exact .cons a (b.append h)
theorem Owns.cons0 {v : V} {vs : List V} {d : D} {ds : List D} (a : Own H L 0 v d []) (b : Owns H L 0 vs ds []) : Owns H L 0 (v :: vs) (d :: ds) [] := .cons a b
theorem Owns.one {n : Nat} {v : V} {d : D} {as : List Addr} (a : Own H L n v d as) : Owns H L n [v] [d] as := by
  have q := Owns.cons a (Owns.nil (n := n))
  rw [List.append_nil] at q
  exact q
end

/-! ### to the hand layer's data -/
section
variable {K : PySem.W.Frag} {H : Hp} {L : Addr → Prop}
def noDict : D → Bool := fun d => !d.hasDict
mutual
theorem Own.dp : ∀ {n : Nat} {v : V} {d : D} {as : List Addr}, Own H L n v d as → d.hasDict = false → Dp K H v d
  | _, _, _, _, .non, _ => .non
  | _, _, _, _, .bl, _ => .bl _
  | _, _, _, _, .int, _ => .int _
  | _, _, _, _, .str, _ => .str _
  | _, _, _, _, .hole, h => by simp [PyData.hasDict, PyData.hasDictAll] at h
  | _, _, _, _, .lst0 _ b _ d, h => .lst (SqL.of b) (d.dp (by simpa [PyData.hasDict] using h))
  | _, _, _, _, .lst a _ c, h => .lst (SqL.of a) (c.dp (by simpa [PyData.hasDict] using h))
  | _, _, _, _, .tup _ b _ c, h => .tup (SqT.of b) (c.dp (by simpa [PyData.hasDict] using h))
  | _, _, _, _, .dct0 _ _ _ _ _, h => by simp [PyData.hasDict] at h
  | _, _, _, _, .dct _ _ _ _, h => by simp [PyData.hasDict] at h
theorem Owns.dp : ∀ {n : Nat} {v : List V} {d : List D} {as : List Addr}, Owns H L n v d as → PyData.hasDictAll d = false → DpAll K H v d
  | _, _, _, _, .nil, _ => .nil
  | _, _, _, _, .cons a b, h => by
    have h' := h
    simp only [PyData.hasDictAll, Bool.or_eq_false_iff] at h'
    exact .cons (a.dp h'.1) (b.dp h'.2)
end
end
end DL

/-! DLb: the context, what an expression's reading asks, how readings are put in a row. -/
namespace DL
open PySem L2

/-- K the written part; ra the list of the drawn numbers (hidden from all data), at the def's slot rs; E what is wanted of an exception; cls, fld: the classes of exceptions by name, their field -/
structure Ct where
  K : PySem.W.Frag
  ra : Option Addr
  pn : Nat → Option Addr
  hid : Addr → Option HO
  E : XK
  cls : Str → Option Value
  fld : Str → Str
def Ct.nr (C : Ct) (p : Addr) : Prop := C.ra ≠ some p ∧ C.hid p = none
/-- all stands but the drawn numbers -/
def Fr (C : Ct) (H H' : Hp) : Prop := ∀ p o, C.nr p → H p = some o → H' p = some o
def Ext (H H' : Hp) : Prop := ∀ p o, H p = some o → H' p = some o
def rgV (x k : Int) (b : Bool) : HO := .lst [.int x, .int k, .bl b]
def RngOf (C : Ct) (r : Rg) (H : Hp) : Prop := match C.ra with
  | none => r = none
  | some a => ∃ x k b, r = some (x, k, b) ∧ H a = some (rgV x k b)
/-- the drawn numbers and what is hidden stand as told -/
def RngAt (C : Ct) (r : Rg) (H : Hp) : Prop := RngOf C r H ∧ (∀ p o, C.hid p = some o → H p = some o) ∧ ∀ a, C.ra = some a → C.hid a = none
def Reg (C : Ct) (L : Addr → Prop) (H : Hp) : Prop := ∀ p, L p → C.nr p ∧ H p ≠ none
def Out (C : Ct) (H : Hp) (L : Addr → Prop) (H' : Hp) (n : Nat) (v : V) (d : D) : Prop :=
  ∃ (L' : Addr → Prop) (as : List Addr), Own H' L' n v d as ∧ as.Nodup ∧ (∀ p ∈ as, H p = none ∧ C.nr p) ∧ ∀ p, L' p → C.nr p ∧ H' p ≠ none ∧ (L p ∨ H p = none) ∧ p ∉ as
def Outs (C : Ct) (H : Hp) (L : Addr → Prop) (H' : Hp) (n : Nat) (v : List V) (d : List D) : Prop :=
  ∃ (L' : Addr → Prop) (as : List Addr), Owns H' L' n v d as ∧ as.Nodup ∧ (∀ p ∈ as, H p = none ∧ C.nr p) ∧ ∀ p, L' p → C.nr p ∧ H' p ≠ none ∧ (L p ∨ H p = none) ∧ p ∉ as
def WEx (C : Ct) (H : Hp) (c : Str) (d : D) (r : Rg) : Prop :=
  ∀ (cl : Value) (dx : Addr) (v : V) (H' : Hp), C.cls c = some cl → Fr C H H' → RngAt C r H' → H dx = none → H' dx = some (.xd [(C.fld c, v)]) → Own H' (fun p => C.nr p ∧ H' p ≠ none) 0 v d [] → C.E cl (some dx) H'
def W {α β : Type} (C : Ct) (H : Hp) (L : Addr → Prop) (O : Hp → Hp → (Addr → Prop) → α → β → Prop) (res : Res α) (Q : β → Hp → Prop) : Prop :=
  match res with
  | .ok d r => ∀ v H', Fr C H H' → RngAt C r H' → O H H' L d v → Q v H'
  | .ex c d r => WEx C H c d r
  | .bad => False
def O1 (C : Ct) (n : Nat) : Hp → Hp → (Addr → Prop) → D → V → Prop := fun H H' L d v => Out C H L H' n v d
def Os (C : Ct) (n : Nat) : Hp → Hp → (Addr → Prop) → List D → List V → Prop := fun H H' L d v => Outs C H L H' n v d
def OB : Hp → Hp → (Addr → Prop) → Bool → Bool → Prop := fun _ _ _ d v => v = d
structure EnvE (C : Ct) (L : Addr → Prop) (al : List Nat) (ρ : Slots) (σ : St) (H : Hp) : Prop where
  slot : ∀ i d, ρ[i]? = some (some d) → ∃ v, σ[i]? = some (some v) ∧ Own H (fun p => C.nr p ∧ H p ≠ none) 0 v d [] ∧ (i ∈ al → Own H L 0 v d [])
  rng : ∀ j a, C.pn j = some a → σ[j]? = some (some (.ref a))
  len : ρ.length = σ.length

def tG {α β : Type} (C : Ct) (al : List Nat) (O : Hp → Hp → (Addr → Prop) → α → β → Prop) (f : Slots → M α) : St → Hp → (β → Hp → Prop) → Prop :=
  fun σ H Q => ∃ (ρ : Slots) (r : Rg) (L : Addr → Prop), EnvE C L al ρ σ H ∧ RngAt C r H ∧ Reg C L H ∧ W C H L O (f ρ r) Q
abbrev tEV (C : Ct) (n : Nat) (al : List Nat) (f : Den) : TE := tG C al (O1 C n) f
abbrev tES (C : Ct) (n : Nat) (al : List Nat) (f : Slots → M (List D)) : TA := tG C al (Os C n) f
abbrev tET (C : Ct) (al : List Nat) (f : Slots → M Bool) : TT := tG C al OB f

section
variable {C : Ct} {H H' H1 H2 : Hp} {L L' : Addr → Prop} {n : Nat} {v : V} {d : D} {r : Rg}
theorem Fr.refl : Fr C H H := fun _ _ _ e => e
theorem Fr.trans (a : Fr C H H1) (b : Fr C H1 H2) : Fr C H H2 := fun p o n e => b p o n (a p o n e)
theorem Ext.fr (h : Ext H H') : Fr C H H' := fun p o _ e => h p o e
theorem Ext.refl : Ext H H := fun _ _ e => e
theorem Ext.trans (a : Ext H H1) (b : Ext H1 H2) : Ext H H2 := fun p o e => b p o (a p o e)
theorem Ext.new {p : Addr} {o : HO} (h : H p = none) : Ext H (upd H p o) := fun q u e => by
  rw [upd_ne (ne_of_none e h)]
  exact e
theorem Ext.rng (h : Ext H H') (g : RngAt C r H) : RngAt C r H' := by
  refine ⟨?_, fun p o q => h p o (g.2.1 p o q), g.2.2⟩
  have g := g.1
  unfold RngOf at g ⊢
  cases e : C.ra with
  | none => rw [e] at g; exact g
  | some a =>
    rw [e] at g
    obtain ⟨x, k, b, h1, h2⟩ := g
    exact ⟨x, k, b, h1, h _ _ h2⟩
theorem rngD {p : Addr} {o : HO} (hn : C.nr p) (g : RngAt C r H) : RngAt C r (upd H p o) := by
  refine ⟨?_, fun q u hq => ?_, g.2.2⟩
  · have g := g.1
    have hn := hn.1
    unfold RngOf at g ⊢
    cases ra : C.ra with
    | none => rw [ra] at g; exact g
    | some a =>
      rw [ra] at g hn
      obtain ⟨x, k, b, e1, e2⟩ := g
      exact ⟨x, k, b, e1, by rw [upd_ne (fun z => hn (by rw [z]))]; exact e2⟩
  · rw [upd_ne (fun z => by rw [z, hn.2] at hq; cases hq)]
    exact g.2.1 q u hq
theorem none_back {p : Addr} (h : Fr C H H1) (hn : C.nr p) (e : H1 p = none) : H p = none := by
  cases q : H p with
  | none => rfl
  | some o => rw [h p o hn q] at e; cases e
theorem some_on {p : Addr} (h : Fr C H H1) (hn : C.nr p) (e : H p ≠ none) : H1 p ≠ none := by
  intro q
  exact e (none_back h hn q)
/-- what is new is not the drawn numbers' list -/
theorem RngAt.nr (g : RngAt C r H) {p : Addr} (e : H p = none) : C.nr p := by
  refine ⟨fun q => ?_, ?_⟩
  rotate_left
  · cases q : C.hid p with
    | none => rfl
    | some o => rw [g.2.1 p o q] at e; cases e
  have g := g.1
  unfold RngOf at g
  rw [q] at g
  obtain ⟨x, k, b, _, h2⟩ := g
  rw [e] at h2; cases h2
theorem Reg.on (h : Reg C L H) (f : Fr C H H1) : Reg C L H1 := fun p hp => ⟨(h p hp).1, some_on f (h p hp).1 (h p hp).2⟩
theorem Own.fr {as : List Addr} (o : Own H L n v d as) (hL : Reg C L H) (ha : ∀ p ∈ as, C.nr p) (f : Fr C H H1) : Own H1 L n v d as :=
  o.mono (fun _ h => h) fun p u hp e => f p u (hp.elim (fun z => (hL p z).1) (ha p)) e
theorem Out.on (o : Out C H L H1 n v d) (f : Fr C H1 H2) : Out C H L H2 n v d := by
  obtain ⟨L', as, h1, h2, h3, h4⟩ := o
  refine ⟨L', as, h1.mono (fun _ h => h) (fun p u hp e => f p u (hp.elim (fun z => (h4 p z).1) fun z => (h3 p z).2) e), h2, h3, fun p hp => ?_⟩
  obtain ⟨a, b, c, e⟩ := h4 p hp
  exact ⟨a, some_on f a b, c, e⟩
theorem Outs.on {v : List V} {d : List D} (o : Outs C H L H1 n v d) (f : Fr C H1 H2) : Outs C H L H2 n v d := by
  obtain ⟨L', as, h1, h2, h3, h4⟩ := o
  refine ⟨L', as, h1.mono (fun _ h => h) (fun p u hp e => f p u (hp.elim (fun z => (h4 p z).1) fun z => (h3 p z).2) e), h2, h3, fun p hp => ?_⟩
  obtain ⟨a, b, c, e⟩ := h4 p hp
  exact ⟨a, some_on f a b, c, e⟩
theorem Out.pre (f : Fr C H H1) (hr : ∀ p, L' p → L p ∨ H p = none) (o : Out C H1 L' H2 n v d) : Out C H L H2 n v d := by
  obtain ⟨M', as, h1, h2, h3, h4⟩ := o
  refine ⟨M', as, h1, h2, fun p hp => ⟨none_back f (h3 p hp).2 (h3 p hp).1, (h3 p hp).2⟩, fun p hp => ?_⟩
  obtain ⟨a, b, c, e⟩ := h4 p hp
  exact ⟨a, b, c.elim (hr p) fun z => .inr (none_back f a z), e⟩
theorem Outs.pre {v : List V} {d : List D} (f : Fr C H H1) (hr : ∀ p, L' p → L p ∨ H p = none) (o : Outs C H1 L' H2 n v d) : Outs C H L H2 n v d := by
  obtain ⟨M', as, h1, h2, h3, h4⟩ := o
  refine ⟨M', as, h1, h2, fun p hp => ⟨none_back f (h3 p hp).2 (h3 p hp).1, (h3 p hp).2⟩, fun p hp => ?_⟩
  obtain ⟨a, b, c, e⟩ := h4 p hp
  exact ⟨a, b, c.elim (hr p) fun z => .inr (none_back f a z), e⟩
/-- a thing without a place -/
theorem Out.atom (h : Own H' (fun _ => False) n v d []) : Out C H L H' n v d := ⟨fun _ => False, [], h, .nil, nofun, fun _ z => z.elim⟩
theorem Out.int {i : Int} : Out C H L H' n (.int i) (.int i) := .atom .int
theorem Out.bl {b : Bool} : Out C H L H' n (.bl b) (.bool b) := .atom .bl
theorem Out.str {s : Str} : Out C H L H' n (.str s) (.str s) := .atom .str
theorem Out.non : Out C H L H' n .non .none := .atom .non
/-- a thing that is only read -/
theorem Out.ro (hL : Reg C L H') (h : Own H' L 0 v d []) : Out C H L H' 0 v d := ⟨L, [], h, .nil, nofun, fun p hp => ⟨(hL p hp).1, (hL p hp).2, .inl hp, nofun⟩⟩
/-- the region of a result -/
theorem Out.view (o : Out C H L H' n v d) : ∃ L', Own H' L' 0 v d [] ∧ Reg C L' H' ∧ ∀ p, L' p → L p ∨ H p = none := by
  obtain ⟨L', as, h1, h2, h3, h4⟩ := o
  refine ⟨fun p => L' p ∨ p ∈ as, h1.view (fun _ => .inl) fun _ => .inr, fun p hp => ?_, fun p hp => ?_⟩
  · rcases hp with hp | hp
    · exact ⟨(h4 p hp).1, (h4 p hp).2.1⟩
    · exact ⟨(h3 p hp).2, h1.stands p hp⟩
  · rcases hp with hp | hp
    · exact (h4 p hp).2.2.1
    · exact .inr (h3 p hp).1
theorem Outs.view {v : List V} {d : List D} (o : Outs C H L H' n v d) : ∃ L', Owns H' L' 0 v d [] ∧ Reg C L' H' ∧ ∀ p, L' p → L p ∨ H p = none := by
  obtain ⟨L', as, h1, h2, h3, h4⟩ := o
  refine ⟨fun p => L' p ∨ p ∈ as, h1.view (fun _ => .inl) fun _ => .inr, fun p hp => ?_, fun p hp => ?_⟩
  · rcases hp with hp | hp
    · exact ⟨(h4 p hp).1, (h4 p hp).2.1⟩
    · exact ⟨(h3 p hp).2, h1.stands p hp⟩
  · rcases hp with hp | hp
    · exact (h4 p hp).2.2.1
    · exact .inr (h3 p hp).1
theorem Out.wk (o : Out C H L H' n v d) {k : Nat} (hk : k ≤ n) : Out C H L H' k v d := by
  obtain ⟨L', as, h1, h2, h3, h4⟩ := o
  obtain ⟨bs, cs, pe, h⟩ := h1.wk k hk
  have nd : (bs ++ cs).Nodup := pe.nodup_iff.mp h2
  refine ⟨fun p => L' p ∨ p ∈ cs, bs, h _ (fun _ => .inl) (fun _ => .inr), (List.nodup_append.mp nd).1, fun p hp => h3 p (pe.mem_iff.mpr (List.mem_append_left _ hp)), fun p hp => ?_⟩
  rcases hp with hp | hp
  · obtain ⟨a, b, c, e⟩ := h4 p hp
    exact ⟨a, b, c, fun z => e (pe.mem_iff.mpr (List.mem_append_left _ z))⟩
  · have hm := pe.mem_iff.mpr (List.mem_append_right bs hp)
    exact ⟨(h3 p hm).2, h1.stands p hm, .inr (h3 p hm).1, fun z => (List.nodup_append.mp nd).2.2 p z p hp rfl⟩
theorem EnvE.on {al : List Nat} {ρ : Slots} {σ : St} (e : EnvE C L al ρ σ H) (hL : Reg C L H) (f : Fr C H H1) : EnvE C L al ρ σ H1 := by
  refine ⟨fun i d h => ?_, e.rng, e.len⟩
  obtain ⟨v, h1, h2, h3⟩ := e.slot i d h
  refine ⟨v, h1, ?_, fun q => (h3 q).fr hL nofun f⟩
  refine h2.mono (fun p hp => ⟨hp.1, some_on f hp.1 hp.2⟩) fun p u hp q => f p u (hp.elim (·.1) nofun) q
theorem EnvE.sub {al al' : List Nat} {ρ : Slots} {σ : St} (e : EnvE C L al ρ σ H) (h : ∀ i ∈ al', i ∈ al) : EnvE C L al' ρ σ H :=
  ⟨fun i d q => let ⟨v, h1, h2, h3⟩ := e.slot i d q; ⟨v, h1, h2, fun z => h3 (h i z)⟩, e.rng, e.len⟩
/-- what is wanted later is wanted of the heap behind -/
theorem WEx.on {c : Str} (h : WEx C H c d r) (f : Fr C H H1) (g : ∃ r', RngAt C r' H1) : WEx C H1 c d r := by
  intro cl dx v H' h1 h2 h3 h4 h5 h6
  obtain ⟨r', g⟩ := g
  exact h cl dx v H' h1 (f.trans h2) h3 (none_back f (g.nr h4) h4) h5 h6
/-- all that stands -/
def full (C : Ct) (H : Hp) : Addr → Prop := fun p => C.nr p ∧ H p ≠ none
theorem Reg.full : Reg C (full C H) H := fun _ h => h
theorem EnvE.full {al al' : List Nat} {ρ : Slots} {σ : St} (e : EnvE C L al ρ σ H) : EnvE C (DL.full C H) al' ρ σ H :=
  ⟨fun i d q => let ⟨v, h1, h2, _⟩ := e.slot i d q; ⟨v, h1, h2, fun _ => h2⟩, e.rng, e.len⟩
end

/-! ### in a row -/
section
variable {C : Ct} {H H' H1 H2 : Hp} {L L' : Addr → Prop} {n : Nat} {r r1 : Rg} {α β γ δ : Type}
/-- how the outcome's relation goes on -/
structure OOk (C : Ct) (O : Hp → Hp → (Addr → Prop) → α → β → Prop) : Prop where
  pre : ∀ {H H1 H2 L L' d v}, Fr C H H1 → (∀ p, L' p → L p ∨ H p = none) → O H1 H2 L' d v → O H H2 L d v
theorem OOk.o1 : OOk C (O1 C n) := ⟨fun f h o => Out.pre f h o⟩
theorem OOk.os : OOk C (Os C n) := ⟨fun f h o => Outs.pre f h o⟩
theorem OOk.ob : OOk C OB := ⟨fun _ _ o => o⟩
theorem W.on {O : Hp → Hp → (Addr → Prop) → α → β → Prop} (ho : OOk C O) {res : Res α} {Q : β → Hp → Prop} (h : W C H L O res Q) (f : Fr C H H1) (g : RngAt C r H1) : W C H1 L O res Q := by
  cases res with
  | ok d r => exact fun v H' f' g' o => h v H' (f.trans f') g' (ho.pre f (fun p => .inl) o)
  | ex c d r => exact WEx.on h f ⟨_, g⟩
  | bad => exact h
/-- a part's reading, from the whole's: what is wanted of the part's value; LB the region that the part is read in -/
theorem tG.ofR {O : Hp → Hp → (Addr → Prop) → α → β → Prop} {al al' : List Nat} {f : Slots → M α} {g : α → M γ} {O' : Hp → Hp → (Addr → Prop) → γ → δ → Prop} {ρ : Slots} {σ : St} {Q : β → Hp → Prop} {Q' : δ → Hp → Prop} {H0 : Hp} {LB : Addr → Prop}
    (eb : EnvE C LB al ρ σ H) (rb : Reg C LB H) (e : EnvE C L al' ρ σ H) (hr : RngAt C r H) (hL : Reg C L H) (f0 : Fr C H0 H) (w : W C H0 L O' (M.bind (f ρ) g r) Q')
    (h : ∀ d r1 v H1, f ρ r = .ok d r1 → Fr C H H1 → RngAt C r1 H1 → O H H1 LB d v → EnvE C L al' ρ σ H1 → Reg C L H1 → W C H0 L O' (g d r1) Q' → Q v H1) : tG C al O f σ H Q := by
  refine ⟨ρ, r, LB, eb, hr, rb, ?_⟩
  unfold M.bind at w
  cases q : f ρ r with
  | ok d r1 =>
    rw [q] at w
    exact fun v H1 f1 g1 o => h d r1 v H1 q f1 g1 o (e.on hL f1) (hL.on f1) w
  | ex c d r1 =>
    rw [q] at w
    exact WEx.on w f0 ⟨_, hr⟩
  | bad =>
    rw [q] at w
    exact w.elim
theorem tG.of {O : Hp → Hp → (Addr → Prop) → α → β → Prop} {al al' : List Nat} {f : Slots → M α} {g : α → M γ} {O' : Hp → Hp → (Addr → Prop) → γ → δ → Prop} {ρ : Slots} {σ : St} {Q : β → Hp → Prop} {Q' : δ → Hp → Prop}
    {H0 : Hp} (e : EnvE C L al' ρ σ H) (hs : ∀ i ∈ al, i ∈ al') (hr : RngAt C r H) (hL : Reg C L H) (f0 : Fr C H0 H) (w : W C H0 L O' (M.bind (f ρ) g r) Q')
    (h : ∀ d r1 v H1, f ρ r = .ok d r1 → Fr C H H1 → RngAt C r1 H1 → O H H1 L d v → EnvE C L al' ρ σ H1 → Reg C L H1 → W C H0 L O' (g d r1) Q' → Q v H1) : tG C al O f σ H Q :=
  tG.ofR (e.sub hs) hL e hr hL f0 w h
/-- a part that does not flow into the whole -/
theorem tG.ofN {O : Hp → Hp → (Addr → Prop) → α → β → Prop} {al al' : List Nat} {f : Slots → M α} {g : α → M γ} {O' : Hp → Hp → (Addr → Prop) → γ → δ → Prop} {ρ : Slots} {σ : St} {Q : β → Hp → Prop} {Q' : δ → Hp → Prop}
    {H0 : Hp} (e : EnvE C L al' ρ σ H) (hr : RngAt C r H) (hL : Reg C L H) (f0 : Fr C H0 H) (w : W C H0 L O' (M.bind (f ρ) g r) Q')
    (h : ∀ d r1 v H1, f ρ r = .ok d r1 → Fr C H H1 → RngAt C r1 H1 → O H H1 (full C H) d v → EnvE C L al' ρ σ H1 → Reg C L H1 → W C H0 L O' (g d r1) Q' → Q v H1) : tG C al O f σ H Q :=
  tG.ofR e.full Reg.full e hr hL f0 w h
theorem impPE {X : Cx} {e : Expr} {t t' : TE} (h : PE X e t) (k : ∀ σ H Q, t' σ H Q → t σ H Q) : PE X e t' := ⟨fun pins s σ H Q I q => h.run pins s σ H Q I (k σ H Q q)⟩
theorem impPT {X : Cx} {e : Expr} {t t' : TT} (h : PT X e t) (k : ∀ σ H Q, t' σ H Q → t σ H Q) : PT X e t' := ⟨fun pins s σ H Q I q => h.run pins s σ H Q I (k σ H Q q)⟩
theorem impPA {X : Cx} {e : List Expr} {t t' : TA} (h : PA X e t) (k : ∀ σ H Q, t' σ H Q → t σ H Q) : PA X e t' := ⟨fun pos pins s σ H Q I q => h.run pos pins s σ H Q I (k σ H Q q)⟩
theorem impPS {X : Cx} {e : Stmt} {t t' : TS} (h : PS X e t) (k : ∀ D σ H, t' D σ H → t D σ H) : PS X e t' := ⟨fun pins s σ H D I q => h.run pins s σ H D I (k D σ H q)⟩
theorem impPSs {X : Cx} {e : List Stmt} {t t' : TS} (h : PSs X e t) (k : ∀ D σ H, t' D σ H → t D σ H) : PSs X e t' := ⟨fun pins s σ H D I q => h.run pins s σ H D I (k D σ H q)⟩
/-- by cases, whichever reading holds -/
theorem orPE {X : Cx} {e : Expr} {t t' : TE} (h : PE X e t) (h' : PE X e t') : PE X e (fun σ H Q => t σ H Q ∨ t' σ H Q) := ⟨fun pins s σ H Q I q => q.elim (h.run pins s σ H Q I) (h'.run pins s σ H Q I)⟩
end

/-! ### names, constants, operators -/
def dC (d : D) : Den := fun _ => M.pure d
def dN (i : Nat) : Den := fun ρ => match ρ[i]? with
  | some (some d) => M.pure d
  | _ => M.bad
def dBin (o : D → D → Option D) (f g : Den) : Den := fun ρ => M.bind (f ρ) fun a => M.bind (g ρ) fun b => M.lift (o a b)
def dUn (o : D → Option D) (f : Den) : Den := fun ρ => M.bind (f ρ) fun a => M.lift (o a)
section
variable {X : Cx} {C : Ct} {n n1 n2 : Nat} {al al' : List Nat} {f g : Den} {a b : Expr} {pos : Pos}
theorem ev_c {e : Expr} {v : V} {d : D} (h : PE X e (tC v)) (ho : ∀ H, Own H (fun _ => False) n v d []) : PE X e (tEV C n [] (dC d)) :=
  impPE h fun σ H Q ⟨ρ, r, L, e, g, hL, w⟩ => w v H Fr.refl g (Out.atom (ho H))
theorem ev_int {i : Int} {j : Nat} : PE X (.Constant (.int i) j pos) (tEV C n [] (dC (.int i))) := ev_c pe_int fun _ => .int
theorem ev_bl {i : Bool} {j : Nat} : PE X (.Constant (.bool i) j pos) (tEV C n [] (dC (.bool i))) := ev_c pe_bl fun _ => .bl
theorem ev_non {j : Nat} : PE X (.Constant .none j pos) (tEV C n [] (dC .none)) := ev_c pe_non fun _ => .non
theorem ev_str {i : Str} {j : Nat} : PE X (.Constant (.str i) j pos) (tEV C n [] (dC (.str i))) := ev_c pe_str fun _ => .str
theorem ev_n (i : Nat) {x : Str} (hN : X.N[i]? = some x) (hv : Vis X.env.scope x) (hd : (x == ("__debug__" : Str)) = false := by decide) (hcd : (x == ("__classdict__" : Str)) = false := by decide) :
    PE X (.Name x pos) (tEV C 0 [i] (dN i)) := by
  refine impPE (pe_var hN hv hd hcd) fun σ H Q ⟨ρ, r, L, e, g, hL, w⟩ => ?_
  unfold dN at w
  cases q : ρ[i]? with
  | none => rw [q] at w; exact w.elim
  | some o =>
    rw [q] at w
    cases o with
    | none => exact w.elim
    | some d =>
      obtain ⟨v, h1, h2, h3⟩ := e.slot i d q
      exact ⟨v, h1, w v H Fr.refl g (Out.ro hL (h3 (by simp)))⟩
theorem ev_wk {e : Expr} {n k : Nat} (hk : k ≤ n) (h : PE X e (tEV C n al f)) : PE X e (tEV C k al f) :=
  impPE h fun σ H Q ⟨ρ, r, L, e, g, hL, w⟩ => ⟨ρ, r, L, e, g, hL, by
    cases q : f ρ r with
    | ok d r1 => rw [q] at w; exact fun v H' f' g' o => w v H' f' g' (Out.wk o hk)
    | ex c d r1 => rw [q] at w; exact w
    | bad => rw [q] at w; exact w⟩
/-- of which of two values what comes out may be a part: of none, of the first, of both -/
def w0 : (Addr → Prop) → (Addr → Prop) → Addr → Prop := fun _ _ _ => False
def w1 : (Addr → Prop) → (Addr → Prop) → Addr → Prop := fun a _ p => a p
def w2 : (Addr → Prop) → (Addr → Prop) → Addr → Prop := fun a b p => a p ∨ b p
/-- an operation on two values that stand -/
def Op2P (P : D → D → Prop) (ω : (Addr → Prop) → (Addr → Prop) → Addr → Prop) (C : Ct) (n : Nat) (o : D → D → Option D) (r : R2) : Prop := ∀ {H : Hp} {L M : Addr → Prop} {v1 v2 : V} {d1 d2 d : D} {Q : VK}, o d1 d2 = some d → Reg C L H → Reg C M H → (∃ r, RngAt C r H) → Own H L 0 v1 d1 [] → Own H M 0 v2 d2 [] →
  P d1 d2 → (∀ v H', Ext H H' → Out C H (ω L M) H' n v d → Q v H') → r v1 v2 H Q
def Op2 (ω : (Addr → Prop) → (Addr → Prop) → Addr → Prop) (C : Ct) (n : Nat) (o : D → D → Option D) (r : R2) : Prop := ∀ {H : Hp} {L M : Addr → Prop} {v1 v2 : V} {d1 d2 d : D} {Q : VK}, o d1 d2 = some d → Reg C L H → Reg C M H → (∃ r, RngAt C r H) → Own H L 0 v1 d1 [] → Own H M 0 v2 d2 [] →
  (∀ v H', Ext H H' → Out C H (ω L M) H' n v d → Q v H') → r v1 v2 H Q
theorem twoP {P : D → D → Prop} {ω : (Addr → Prop) → (Addr → Prop) → Addr → Prop} {o : D → D → Option D} {R : R2} (ho : Op2P P ω C n o R) {σ : St} {H : Hp} {Q : VK} {ρ : Slots} {r : Rg} {L LA : Addr → Prop} {all : List Nat} (LB : Hp → Addr → Prop) (e : EnvE C L all ρ σ H)
    (eA : EnvE C LA al ρ σ H) (rA : Reg C LA H) (eB : ∀ {H1}, EnvE C L all ρ σ H1 → EnvE C (LB H1) al' ρ σ H1) (rB : ∀ {H1}, Reg C L H1 → Reg C (LB H1) H1) (gr : RngAt C r H) (hL : Reg C L H)
    (w : W C H L (O1 C n) (dBin o f g ρ r) Q) (hP : ∀ d1 r1 d2 r2, f ρ r = .ok d1 r1 → g ρ r1 = .ok d2 r2 → P d1 d2)
    (hω : ∀ {H1 : Hp} {L1 L2 : Addr → Prop}, (∀ p, L1 p → LA p ∨ H p = none) → (∀ p, L2 p → LB H1 p ∨ H p = none) → ∀ p, ω L1 L2 p → L p ∨ H p = none) :
    tEV C n1 al f σ H fun x H1 => tEV C n2 al' g σ H1 fun y H2 => R x y H2 Q := by
  refine tG.ofR eA rA e gr hL Fr.refl w fun d1 r1 v1 H1 q1 f1 g1 o1 e1 hL1 w1 => ?_
  refine tG.ofR (eB e1) (rB hL1) e1 g1 hL1 f1 w1 fun d2 r2 v2 H2 q2 f2 g2 o2 e2 hL2 w2 => ?_
  obtain ⟨L1, k1, k2, k3⟩ := (Out.on o1 f2).view
  obtain ⟨L2, m1, m2, m3⟩ := Out.view o2
  unfold M.lift at w2
  cases q : o d1 d2 with
  | none => rw [q] at w2; exact w2.elim
  | some d =>
    rw [q] at w2
    refine ho (L := L1) (M := L2) q k2 m2 ⟨_, g2⟩ k1 m1 (hP _ _ _ _ q1 q2) fun v H' x o' => ?_
    exact w2 v H' ((f1.trans f2).trans x.fr) (x.rng g2) (Out.pre (f1.trans f2) (hω k3 fun p hp => (m3 p hp).imp id fun z => none_back f1 (m2 p hp).1 z) o')
theorem two0 {o : D → D → Option D} {R : R2} (ho : Op2 w0 C n o R) {σ : St} {H : Hp} {Q : VK} (h : tEV C n [] (dBin o f g) σ H Q) :
    tEV C n1 al f σ H fun x H1 => tEV C n2 al' g σ H1 fun y H2 => R x y H2 Q := by
  obtain ⟨ρ, r, L, e, gr, hL, w⟩ := h
  exact twoP (P := fun _ _ => True) (ω := w0) (fun a b c d e f _ k => ho a b c d e f k) (fun H1 => full C H1) e e.full Reg.full (fun e => e.full) (fun _ => Reg.full) gr hL w (fun _ _ _ _ _ _ => trivial) fun _ _ _ z => z.elim
theorem two2 {o : D → D → Option D} {R : R2} (ho : Op2 w2 C n o R) {σ : St} {H : Hp} {Q : VK} (h : tEV C n (al ++ al') (dBin o f g) σ H Q) :
    tEV C n1 al f σ H fun x H1 => tEV C n2 al' g σ H1 fun y H2 => R x y H2 Q := by
  obtain ⟨ρ, r, L, e, gr, hL, w⟩ := h
  exact twoP (P := fun _ _ => True) (ω := w2) (fun a b c d e f _ k => ho a b c d e f k) (fun _ => L) e (e.sub fun i => List.mem_append_left _) hL (fun e => e.sub fun i => List.mem_append_right _) (fun h => h) gr hL w (fun _ _ _ _ _ _ => trivial) fun a b p z => z.elim (a p) (b p)
end
end DL

/-! DLc: operators, comparisons, tests, displays, subscripts, built-in calls. -/
namespace DL
open PySem L2

/-! ### operators -/
def oAdd : D → D → Option D
  | .int i, .int j => some (.int (i + j))
  | .list xs, .list ys => if xs.length + ys.length ≤ sizeLine then some (.list (xs ++ ys)) else none
  | _, _ => none
def oSub : D → D → Option D
  | .int i, .int j => some (.int (i - j))
  | _, _ => none
def oMul : D → D → Option D
  | .int i, .int j => if i.natAbs.log2 + j.natAbs.log2 < 1000000 then some (.int (i * j)) else none
  | .list xs, .int k => if -(2 ^ 63) ≤ k ∧ k < 2 ^ 63 ∧ xs.length * k.toNat ≤ sizeLine then some (.list (List.replicate k.toNat xs).flatten) else none
  | _, _ => none
def oMod : D → D → Option D
  | .int i, .int j => if 0 < j then some (.int (i % j)) else none
  | _, _ => none
def oDiv : D → D → Option D
  | .int i, .int j => if 0 < j ∧ j.natAbs.log2 < 9000 then some (.int (i / j)) else none
  | _, _ => none
def oPow : D → D → Option D
  | .int i, .int j => if 0 ≤ j ∧ (Builtin.Int.intBits i : Int) * j ≤ 2 ^ 27 then some (.int (i ^ j.toNat)) else none
  | _, _ => none
def oShl : D → D → Option D
  | .int i, .int j => if 0 ≤ j ∧ j ≤ 1000000 ∧ i.natAbs < 2 ^ 64 then some (.int (i * 2 ^ j.toNat)) else none
  | _, _ => none
def isStrD : D → Option Str
  | .str s => some s
  | _ => none
def oEq (a b : D) : Option D := match isStrD a, isStrD b with
  | some s, some t => some (.bool (decide (s = t)))
  | _, _ => if SeqAt.shaped a = true ∧ SeqAt.shaped b = true then some (.bool (PyData.eqv a b)) else none
def oNe (a b : D) : Option D := match isStrD a, isStrD b with
  | some s, some t => some (.bool (!decide (s = t)))
  | _, _ => if SeqAt.shaped a = true ∧ SeqAt.shaped b = true then some (.bool (!PyData.eqv a b)) else none
def oLt : D → D → Option D
  | .int i, .int j => some (.bool (decide (i < j)))
  | _, _ => none
def oLe : D → D → Option D
  | .int i, .int j => some (.bool (decide (i ≤ j)))
  | _, _ => none
def oGt : D → D → Option D
  | .int i, .int j => some (.bool (decide (j < i)))
  | _, _ => none
def oGe : D → D → Option D
  | .int i, .int j => some (.bool (decide (j ≤ i)))
  | _, _ => none
def isNone : D → Bool
  | .none => true
  | _ => false
def oIsN (a : D) : Option D := some (.bool (isNone a))
def oNotN (a : D) : Option D := some (.bool (!isNone a))
def lookD (kds : List (D × D)) (k : D) : Option D := (kds.find? fun p => PyData.eqv p.1 k).map (·.2)
def oIn : D → D → Option D
  | d, .list ds => if SeqAt.shaped d = true ∧ SeqAt.shaped (.list ds) = true then some (.bool (ds.any fun z => PyData.eqv z d)) else none
  | .int k, .dict kds => some (.bool (lookD kds (.int k)).isSome)
  | .str k, .dict kds => some (.bool (lookD kds (.str k)).isSome)
  | _, _ => none
def oNotIn : D → D → Option D
  | d, .list ds => if SeqAt.shaped d = true ∧ SeqAt.shaped (.list ds) = true then some (.bool (!ds.any fun z => PyData.eqv z d)) else none
  | .int k, .dict kds => some (.bool (!(lookD kds (.int k)).isSome))
  | .str k, .dict kds => some (.bool (!(lookD kds (.str k)).isSome))
  | _, _ => none
def oIx : D → D → Option D
  | .list xs, .int i => atI xs i
  | .tuple xs, .int i => if isHole xs = true then none else atI xs i
  | .dict kds, .int k => lookD kds (.int k)
  | .dict kds, .str k => lookD kds (.str k)
  | _, _ => none

section
variable {C : Ct} {n : Nat} {H : Hp} {L : Addr → Prop} {v : V} {d : D} {as : List Addr}
theorem own_int {i : Int} (h : Own H L n v (.int i) as) : v = .int i := by cases h; rfl
theorem own_bl {b : Bool} (h : Own H L n v (.bool b) as) : v = .bl b := by cases h; rfl
theorem own_str {s : Str} (h : Own H L n v (.str s) as) : v = .str s := by cases h; rfl
theorem own_list {ds : List D} (h : Own H L 0 v (.list ds) as) : ∃ p vs, v = .ref p ∧ L p ∧ H p = some (.lst vs) ∧ ds.length ≤ sizeLine ∧ Owns H L 0 vs ds [] := by
  cases h with
  | lst0 a b c d => exact ⟨_, _, rfl, a, b, c, d⟩
theorem own_tup {ds : List D} (h : Own H L 0 v (.tuple ds) []) (hh : isHole ds = false) : ∃ p vs, v = .ref p ∧ L p ∧ H p = some (.tup vs) ∧ ds.length ≤ sizeLine ∧ Owns H L 0 vs ds [] := by
  cases h with
  | tup a b c d => exact ⟨_, _, rfl, a, b, c, d⟩
  | hole => cases hh
theorem isHole2 (a b : D) (l : List D) : isHole (a :: b :: l) = false := by
  unfold isHole
  split
  · rename_i h; cases h
  · rfl
theorem isHole0 : isHole [] = false := rfl
theorem own_dict {kds : List (D × D)} (h : Own H L 0 v (.dict kds) as) : ∃ p kvs, v = .ref p ∧ L p ∧ Rd H p (.dK kvs) ∧ kds.length ≤ sizeLine ∧ KeyOk kds kvs ∧ Owns H L 0 (kvs.map (·.2)) (kds.map (·.2)) [] := by
  cases h with
  | dct0 a b c d e => exact ⟨_, _, rfl, a, b, c, d, e⟩
theorem keyD_eqv : ∀ (a b : Key), PyData.eqv (keyD a) (keyD b) = decide (a = b)
  | .inl i, .inl j => by
    rw [show keyD (.inl i) = .int i from rfl, show keyD (.inl j) = .int j from rfl]
    simp only [PyData.eqv]
    by_cases e : i = j
    · subst e; simp
    · have e' : ¬ (Sum.inl i : Key) = Sum.inl j := fun q => e (Sum.inl.inj q)
      rw [decide_eq_false e']
      simpa using e
  | .inr i, .inr j => by
    rw [show keyD (.inr i) = .str i from rfl, show keyD (.inr j) = .str j from rfl]
    simp only [PyData.eqv]
    by_cases e : i = j
    · subst e; simp
    · have e' : ¬ (Sum.inr i : Key) = Sum.inr j := fun q => e (Sum.inr.inj q)
      rw [decide_eq_false e']
      simpa using e
  | .inl i, .inr j => by
    rw [show keyD (.inl i) = .int i from rfl, show keyD (.inr j) = .str j from rfl]
    simp only [PyData.eqv]
    exact (decide_eq_false (fun q => nomatch q)).symm
  | .inr i, .inl j => by
    rw [show keyD (.inr i) = .str i from rfl, show keyD (.inl j) = .int j from rfl]
    simp only [PyData.eqv]
    exact (decide_eq_false (fun q => nomatch q)).symm
/-- what a key leads to -/
theorem look_own {L : Addr → Prop} : ∀ {kds : List (D × D)} {kvs : List (Key × V)}, kds.map (·.1) = kvs.map (fun kv => keyD kv.1) → Owns H L 0 (kvs.map (·.2)) (kds.map (·.2)) [] → ∀ k : Key,
    (lookD kds (keyD k) = none ∧ valV kvs k = none) ∨ ∃ d v, lookD kds (keyD k) = some d ∧ valV kvs k = some v ∧ Own H L 0 v d []
  | [], [], _, _, k => .inl ⟨rfl, rfl⟩
  | [], _ :: _, e, _, k => by simp at e
  | _ :: _, [], e, _, k => by simp at e
  | (kd, d) :: kds, (kk, v) :: kvs, e, o, k => by
    simp only [List.map_cons, List.cons.injEq] at e
    obtain ⟨e1, e2⟩ := e
    subst e1
    simp only [List.map_cons] at o
    generalize eas : ([] : List Addr) = zas at o
    cases o with
    | @cons _ _ _ _ _ a1 a2 h1 h2 =>
      have z : a1 = [] ∧ a2 = [] := app_nil2 eas.symm
      obtain ⟨z1, z2⟩ := z
      subst z1 z2
      unfold lookD valV
      rw [List.find?_cons, List.find?_cons]
      show (_ ∧ _) ∨ _
      rw [show PyData.eqv (keyD kk, d).1 (keyD k) = decide ((kk, v).1 = k) from keyD_eqv kk k]
      by_cases q : kk = k
      · rw [decide_eq_true (show (kk, v).1 = k from q)]
        exact .inr ⟨d, v, rfl, rfl, h1⟩
      · rw [decide_eq_false (show ¬ (kk, v).1 = k from q)]
        exact look_own e2 h2 k


theorem op2_sub : Op2 w0 C n oSub (rI0 fun i j => .int (i - j)) := by
  intro H L M v1 v2 d1 d2 d Q e _ _ _ a b k
  unfold oSub at e
  split at e
  · cases e
    exact ⟨_, _, own_int a, own_int b, k _ _ Ext.refl Out.int⟩
  · cases e
theorem op2_mod : Op2 w0 C n oMod (rI (fun _ j => 0 < j) fun i j => .int (i % j)) := by
  intro H L M v1 v2 d1 d2 d Q e _ _ _ a b k
  unfold oMod at e
  split at e
  · split at e
    · rename_i z
      cases e
      exact ⟨_, _, own_int a, own_int b, z, k _ _ Ext.refl Out.int⟩
    · cases e
  · cases e
theorem op2_div : Op2 w0 C n oDiv (rI CDivW fun i j => .int (i / j)) := by
  intro H L M v1 v2 d1 d2 d Q e _ _ _ a b k
  unfold oDiv at e
  split at e
  · split at e
    · rename_i z
      cases e
      exact ⟨_, _, own_int a, own_int b, z, k _ _ Ext.refl Out.int⟩
    · cases e
  · cases e
def CPowB (i j : Int) : Prop := 0 ≤ j ∧ (Builtin.Int.intBits i : Int) * j ≤ 2 ^ 27
theorem op_powB {X : Cx} : OpR X (binaryOp .Pow) (rI CPowB fun i j => .int (i ^ j.toNat)) := opI fun _ _ _ _ _ _ _ hc q => PyProof.Rows.pow_int hc.1 hc.2 q
theorem op2_pow : Op2 w0 C n oPow (rI CPowB fun i j => .int (i ^ j.toNat)) := by
  intro H L M v1 v2 d1 d2 d Q e _ _ _ a b k
  unfold oPow at e
  split at e
  · split at e
    · rename_i z
      cases e
      exact ⟨_, _, own_int a, own_int b, z, k _ _ Ext.refl Out.int⟩
    · cases e
  · cases e
theorem op2_shl : Op2 w0 C n oShl (rI CPow fun i j => .int (i * 2 ^ j.toNat)) := by
  intro H L M v1 v2 d1 d2 d Q e _ _ _ a b k
  unfold oShl at e
  split at e
  · split at e
    · rename_i z
      cases e
      exact ⟨_, _, own_int a, own_int b, z, k _ _ Ext.refl Out.int⟩
    · cases e
  · cases e
/-- a new list of things that stand -/
theorem Out.newList {L : Addr → Prop} {p : Addr} {vs : List V} {ds : List D} (hL : Reg C L H) (gr : ∃ r, RngAt C r H) (hp : H p = none) (ho : Owns H L 0 vs ds []) (hz : ds.length ≤ sizeLine) : Out C H L (upd H p (.lst vs)) 1 (.ref p) (.list ds) := by
  obtain ⟨r, gr⟩ := gr
  have ne : ∀ q, L q → q ≠ p := fun q hq e => (hL q hq).2 (by rw [e]; exact hp)
  refine ⟨L, [p], .lst upd_same hz (ho.mono (fun _ h => h) fun q u hq e => ?_), by simp, fun q hq => ?_, fun q hq => ⟨(hL q hq).1, ?_, .inl hq, fun z => ne q hq (by simpa using z)⟩⟩
  · rw [upd_ne (ne_of_none e hp)]; exact e
  · obtain rfl : q = p := by simpa using hq
    exact ⟨hp, gr.nr hp⟩
  · rw [upd_ne (ne q hq)]; exact (hL q hq).2
theorem Out.newTup {L : Addr → Prop} {p : Addr} {vs : List V} {ds : List D} (hL : Reg C L H) (gr : ∃ r, RngAt C r H) (hp : H p = none) (ho : Owns H L 0 vs ds []) (hz : ds.length ≤ sizeLine) : Out C H L (upd H p (.tup vs)) 0 (.ref p) (.tuple ds) := by
  obtain ⟨r, gr⟩ := gr
  have ne : ∀ q, L q → q ≠ p := fun q hq e => (hL q hq).2 (by rw [e]; exact hp)
  refine ⟨fun q => L q ∨ q = p, [], .tup (.inr rfl) upd_same hz (ho.mono (fun _ h => .inl h) fun q u hq e => ?_), by simp, nofun, fun q hq => ?_⟩
  · rw [upd_ne (ne_of_none e hp)]; exact e
  · rcases hq with hq | hq
    · exact ⟨(hL q hq).1, by rw [upd_ne (ne q hq)]; exact (hL q hq).2, .inl hq, nofun⟩
    · subst hq
      exact ⟨gr.nr hp, by rw [upd_same]; exact nofun, .inr hp, nofun⟩
theorem op2_add : Op2 w2 C 1 oAdd (fun x y H Q => rI0 (fun i j => .int (i + j)) x y H Q ∨ rCat x y H Q) := by
  intro H L M v1 v2 d1 d2 d Q e hL hM gr a b k
  unfold oAdd at e
  split at e
  · cases e
    exact .inl ⟨_, _, own_int a, own_int b, k _ _ Ext.refl Out.int⟩
  · split at e
    · rename_i z
      cases e
      obtain ⟨p, vs, rfl, a1, a2, a3, a4⟩ := own_list a
      obtain ⟨q, ws, rfl, b1, b2, b3, b4⟩ := own_list b
      refine .inr ⟨p, q, vs, ws, rfl, rfl, a2, b2, by rw [a4.len, b4.len]; exact z, fun u hu => ?_⟩
      have hR : Reg C (w2 L M) H := fun q hq => hq.elim (hL q) (hM q)
      exact k _ _ (Ext.new hu) (Out.newList hR gr hu ((a4.mono (L' := w2 L M) (fun _ => .inl) fun _ _ _ e => e).append (b4.mono (fun _ => .inr) fun _ _ _ e => e)) (by rw [List.length_append]; exact z))
    · cases e
  · cases e
theorem owns_rep {L : Addr → Prop} {vs : List V} {ds : List D} (h : Owns H L 0 vs ds []) : ∀ k : Nat, Owns H L 0 (List.replicate k vs).flatten (List.replicate k ds).flatten []
  | 0 => .nil
  | k + 1 => by
    rw [List.replicate_succ, List.replicate_succ, List.flatten_cons, List.flatten_cons]
    exact h.append (owns_rep h k)
theorem op2_mul : Op2 w2 C 1 oMul (fun x y H Q => rI CMulW (fun i j => .int (i * j)) x y H Q ∨ rRep x y H Q) := by
  intro H L M v1 v2 d1 d2 d Q e hL hM gr a b k
  unfold oMul at e
  split at e
  · split at e
    · rename_i z
      cases e
      exact .inl ⟨_, _, own_int a, own_int b, z, k _ _ Ext.refl Out.int⟩
    · cases e
  · split at e
    · rename_i z
      cases e
      obtain ⟨p, vs, rfl, a1, a2, a3, a4⟩ := own_list a
      refine .inr ⟨p, _, vs, rfl, own_int b, a2, z.1, z.2.1, by rw [a4.len]; exact z.2.2, fun u hu => ?_⟩
      have hR : Reg C (w2 L M) H := fun q hq => hq.elim (hL q) (hM q)
      refine k _ _ (Ext.new hu) (Out.newList hR gr hu ((owns_rep a4 _).mono (fun _ => .inl) fun _ _ _ e => e) ?_)
      rw [List.length_flatten, List.map_replicate, List.sum_replicate_nat]
      rw [Nat.mul_comm]
      exact z.2.2
    · cases e
  · cases e
theorem op2_cmp {o : D → D → Option D} {p : Int → Int → Bool} (ho : ∀ a b d, o a b = some d → ∃ i j, a = .int i ∧ b = .int j ∧ d = .bool (p i j)) : Op2 w0 C n o (rI0 fun i j => .bl (p i j)) := by
  intro H L M v1 v2 d1 d2 d Q e _ _ _ a b k
  obtain ⟨i, j, rfl, rfl, rfl⟩ := ho _ _ _ e
  exact ⟨_, _, own_int a, own_int b, k _ _ Ext.refl Out.bl⟩
theorem op2_lt : Op2 w0 C n oLt (rI0 fun i j => .bl (decide (i < j))) := op2_cmp fun a b d e => by
  unfold oLt at e
  split at e <;> cases e
  exact ⟨_, _, rfl, rfl, rfl⟩
theorem op2_le : Op2 w0 C n oLe (rI0 fun i j => .bl (decide (i ≤ j))) := op2_cmp fun a b d e => by
  unfold oLe at e
  split at e <;> cases e
  exact ⟨_, _, rfl, rfl, rfl⟩
theorem op2_gt : Op2 w0 C n oGt (rI0 fun i j => .bl (decide (j < i))) := op2_cmp fun a b d e => by
  unfold oGt at e
  split at e <;> cases e
  exact ⟨_, _, rfl, rfl, rfl⟩
theorem op2_ge : Op2 w0 C n oGe (rI0 fun i j => .bl (decide (j ≤ i))) := op2_cmp fun a b d e => by
  unfold oGe at e
  split at e <;> cases e
  exact ⟨_, _, rfl, rfl, rfl⟩
theorem shaped_dict {d : D} (h : SeqAt.shaped d = true) : d.hasDict = false := PyData.hasDict_of_canLay _ (SeqAt.canLay_of_shaped h)
theorem isStr_own {d : D} {s : Str} (h : isStrD d = some s) : d = .str s := by
  unfold isStrD at h
  split at h <;> cases h
  rfl
theorem op2_eq (K : PySem.W.Frag) : Op2 w0 C n oEq (fun x y H Q => rEq x y H Q ∨ rEqD K x y H Q) := by
  intro H L M v1 v2 d1 d2 d Q e hL hM gr a b k
  unfold oEq at e
  split at e
  · rename_i s t h1 h2
    cases isStr_own h1
    cases isStr_own h2
    cases own_str a
    cases own_str b
    cases e
    refine .inl ⟨rfl, ?_⟩
    rw [show decide (V.str s = V.str t) = decide (s = t) by by_cases q : s = t <;> simp [q]]
    exact k _ _ Ext.refl Out.bl
  · split at e
    · rename_i z
      cases e
      exact .inr ⟨_, _, a.dp (shaped_dict z.1), b.dp (shaped_dict z.2), z.1, z.2, k _ _ Ext.refl Out.bl⟩
    · cases e
theorem op2_ne (K : PySem.W.Frag) : Op2 w0 C n oNe (fun x y H Q => rNe x y H Q ∨ rNeD K x y H Q) := by
  intro H L M v1 v2 d1 d2 d Q e hL hM gr a b k
  unfold oNe at e
  split at e
  · rename_i s t h1 h2
    cases isStr_own h1
    cases isStr_own h2
    cases own_str a
    cases own_str b
    cases e
    refine .inl ⟨rfl, ?_⟩
    rw [show decide (V.str s = V.str t) = decide (s = t) by by_cases q : s = t <;> simp [q]]
    exact k _ _ Ext.refl Out.bl
  · split at e
    · rename_i z
      cases e
      exact .inr ⟨_, _, a.dp (shaped_dict z.1), b.dp (shaped_dict z.2), z.1, z.2, k _ _ Ext.refl Out.bl⟩
    · cases e
end
end DL

/-! DLd: the rules of expressions. -/
namespace DL
open PySem L2

section
variable {X : Cx} {C : Ct} {n n1 n2 n3 : Nat} {al al' al2 : List Nat} {f g h : Den} {a b c : Expr} {pos : Pos}
theorem ev_bin {op : Operator} {o : D → D → Option D} {R : R2} (ho : OpR X (binaryOp op) R) (hs : Op2 w0 C n o R) (ha : PE X a (tEV C n1 al f)) (hb : PE X b (tEV C n2 al' g)) : PE X (.BinOp a op b pos) (tEV C n [] (dBin o f g)) :=
  impPE (pe_op ho ha hb) fun σ H Q q => two0 hs q
theorem ev_bin2 {op : Operator} {o : D → D → Option D} {R : R2} (ho : OpR X (binaryOp op) R) (hs : Op2 w2 C n o R) (ha : PE X a (tEV C n1 al f)) (hb : PE X b (tEV C n2 al' g)) : PE X (.BinOp a op b pos) (tEV C n (al ++ al') (dBin o f g)) :=
  impPE (pe_op ho ha hb) fun σ H Q q => two2 hs q
theorem ev_add (ha : PE X a (tEV C n1 al f)) (hb : PE X b (tEV C n2 al' g)) : PE X (.BinOp a .Add b pos) (tEV C 1 (al ++ al') (dBin oAdd f g)) := ev_bin2 (op_add.or op_cat) op2_add ha hb
theorem ev_sub (ha : PE X a (tEV C n1 al f)) (hb : PE X b (tEV C n2 al' g)) : PE X (.BinOp a .Sub b pos) (tEV C n [] (dBin oSub f g)) := ev_bin op_sub op2_sub ha hb
theorem ev_mul (ha : PE X a (tEV C n1 al f)) (hb : PE X b (tEV C n2 al' g)) : PE X (.BinOp a .Mult b pos) (tEV C 1 (al ++ al') (dBin oMul f g)) := ev_bin2 (op_mulW.or op_rep) op2_mul ha hb
theorem ev_mod (ha : PE X a (tEV C n1 al f)) (hb : PE X b (tEV C n2 al' g)) : PE X (.BinOp a .Mod b pos) (tEV C n [] (dBin oMod f g)) := ev_bin op_mod op2_mod ha hb
theorem ev_div (ha : PE X a (tEV C n1 al f)) (hb : PE X b (tEV C n2 al' g)) : PE X (.BinOp a .FloorDiv b pos) (tEV C n [] (dBin oDiv f g)) := ev_bin op_fdivW op2_div ha hb
theorem ev_pow (ha : PE X a (tEV C n1 al f)) (hb : PE X b (tEV C n2 al' g)) : PE X (.BinOp a .Pow b pos) (tEV C n [] (dBin oPow f g)) := ev_bin op_powB op2_pow ha hb
theorem ev_shl (ha : PE X a (tEV C n1 al f)) (hb : PE X b (tEV C n2 al' g)) : PE X (.BinOp a .LShift b pos) (tEV C n [] (dBin oShl f g)) := ev_bin op_shl op2_shl ha hb

/-! ### comparisons as values -/
theorem ev_cmp {op : CmpOp} {o : D → D → Option D} {R : R2} (ho : OpR X (compareOp op) R) (hs : Op2 w0 C n o R) (hm : behindInMarks op b = false) (ha : PE X a (tEV C n1 al f)) (hb : PE X b (tEV C n2 al' g)) :
    PE X (.Compare a [op] [b] pos) (tEV C n [] (dBin o f g)) := impPE (pe_cmpR ho ha hb hm) fun σ H Q q => two0 hs q
theorem ev_eq (hu : X.A.units + 64 < cLine) (ha : PE X a (tEV C n1 al f)) (hb : PE X b (tEV C n2 al' g)) : PE X (.Compare a [.Eq] [b] pos) (tEV C n [] (dBin oEq f g)) := ev_cmp (op_eq.or (op_eqD hu)) (op2_eq _) (nomark _) ha hb
theorem ev_ne (hu : X.A.units + 64 < cLine) (ha : PE X a (tEV C n1 al f)) (hb : PE X b (tEV C n2 al' g)) : PE X (.Compare a [.NotEq] [b] pos) (tEV C n [] (dBin oNe f g)) := ev_cmp (op_ne.or (op_neD hu)) (op2_ne _) (nomark _) ha hb
theorem ev_lt (ha : PE X a (tEV C n1 al f)) (hb : PE X b (tEV C n2 al' g)) : PE X (.Compare a [.Lt] [b] pos) (tEV C n [] (dBin oLt f g)) := ev_cmp op_lt op2_lt (nomark _) ha hb
theorem ev_le (ha : PE X a (tEV C n1 al f)) (hb : PE X b (tEV C n2 al' g)) : PE X (.Compare a [.LtE] [b] pos) (tEV C n [] (dBin oLe f g)) := ev_cmp op_le op2_le (nomark _) ha hb
theorem ev_gt (ha : PE X a (tEV C n1 al f)) (hb : PE X b (tEV C n2 al' g)) : PE X (.Compare a [.Gt] [b] pos) (tEV C n [] (dBin oGt f g)) := ev_cmp op_gt op2_gt (nomark _) ha hb
theorem ev_ge (ha : PE X a (tEV C n1 al f)) (hb : PE X b (tEV C n2 al' g)) : PE X (.Compare a [.GtE] [b] pos) (tEV C n [] (dBin oGe f g)) := ev_cmp op_ge op2_ge (nomark _) ha hb
theorem isNone_own {H : Hp} {L : Addr → Prop} {v : V} {d : D} {as : List Addr} (h : Own H L n v d as) : decide (v = .non) = isNone d := by
  cases h <;> rfl
theorem ev_isN {j : Nat} {p' : Pos} (ha : PE X a (tEV C n1 al f)) : PE X (.Compare a [.Is] [.Constant .none j p'] pos) (tEV C n [] (dUn oIsN f)) := by
  refine impPE (pe_cmp (pc_isN ha) (nomark _)) fun σ H Q ⟨ρ, r, L, e, gr, hL, w⟩ => ?_
  refine tG.ofN e gr hL Fr.refl w fun d1 r1 v1 H1 q1 f1 g1 o1 e1 hL1 w1 => ?_
  obtain ⟨L1, k1, _⟩ := Out.view o1
  rw [isNone_own k1]
  exact w1 _ _ f1 g1 Out.bl
theorem ev_notN {j : Nat} {p' : Pos} (ha : PE X a (tEV C n1 al f)) : PE X (.Compare a [.IsNot] [.Constant .none j p'] pos) (tEV C n [] (dUn oNotN f)) := by
  refine impPE (pe_cmp (pc_notN ha) (nomark _)) fun σ H Q ⟨ρ, r, L, e, gr, hL, w⟩ => ?_
  refine tG.ofN e gr hL Fr.refl w fun d1 r1 v1 H1 q1 f1 g1 o1 e1 hL1 w1 => ?_
  obtain ⟨L1, k1, _⟩ := Out.view o1
  rw [isNone_own k1]
  exact w1 _ _ f1 g1 Out.bl

/-! ### in -/
def isDict (d : D) : Prop := ∃ kds, d = .dict kds
theorem dget_of {H : Hp} {L : Addr → Prop} {v1 v2 : V} {kds : List (D × D)} (a : Own H L 0 v1 (.dict kds) []) {k : Key} (b : v2 = kV k) :
    ∃ p, v1 = .ref p ∧ ((lookD kds (keyD k) = none ∧ DGet H p v2 none) ∨ ∃ d v, lookD kds (keyD k) = some d ∧ DGet H p v2 (some v) ∧ Own H L 0 v d []) := by
  obtain ⟨p, kvs, rfl, a1, a2, a3, a4, a5⟩ := own_dict a
  refine ⟨p, rfl, ?_⟩
  rcases look_own a4.eq a5 k with ⟨h1, h2⟩ | ⟨d, v, h1, h2, h3⟩
  · exact .inl ⟨h1, .inl ⟨kvs, k, a2, b, h2.symm⟩⟩
  · exact .inr ⟨d, v, h1, .inl ⟨kvs, k, a2, b, h2.symm⟩, h3⟩
theorem op2_inD (K : PySem.W.Frag) : Op2P (fun _ d => ¬ isDict d) w0 C n oIn (rInD K) := by
  intro H L M v1 v2 d1 d2 d Q e hL hM gr a b hp k
  unfold oIn at e
  split at e
  · split at e
    · rename_i z
      cases e
      exact ⟨_, _, a.dp (shaped_dict z.1), b.dp (shaped_dict z.2), z.1, z.2, k _ _ Ext.refl Out.bl⟩
    · cases e
  · exact (hp ⟨_, rfl⟩).elim
  · exact (hp ⟨_, rfl⟩).elim
  · cases e
theorem op2_din : Op2P (fun _ d => isDict d) w0 C n oIn (fun y x H Q => ∃ a o, x = .ref a ∧ DGet H a y o ∧ Q (.bl o.isSome) H) := by
  intro H L M v1 v2 d1 d2 d Q e hL hM gr a b hp k
  obtain ⟨kds, rfl⟩ := hp
  unfold oIn at e
  split at e
  · rename_i e1; cases e1
  · rename_i k0 kds' e1
    cases e1
    cases e
    obtain ⟨p, rfl, h⟩ := dget_of b (k := .inl k0) (own_int a)
    rcases h with ⟨h1, h2⟩ | ⟨d, v, h1, h2, _⟩
    · refine ⟨p, none, rfl, h2, ?_⟩
      rw [show lookD kds (.int k0) = none from h1] at k
      exact k _ _ Ext.refl Out.bl
    · refine ⟨p, some v, rfl, h2, ?_⟩
      rw [show lookD kds (.int k0) = some d from h1] at k
      exact k _ _ Ext.refl Out.bl
  · rename_i k0 kds' e1
    cases e1
    cases e
    obtain ⟨p, rfl, h⟩ := dget_of b (k := .inr k0) (own_str a)
    rcases h with ⟨h1, h2⟩ | ⟨d, v, h1, h2, _⟩
    · refine ⟨p, none, rfl, h2, ?_⟩
      rw [show lookD kds (.str k0) = none from h1] at k
      exact k _ _ Ext.refl Out.bl
    · refine ⟨p, some v, rfl, h2, ?_⟩
      rw [show lookD kds (.str k0) = some d from h1] at k
      exact k _ _ Ext.refl Out.bl
  · cases e
theorem op2_ninD (K : PySem.W.Frag) : Op2P (fun _ d => ¬ isDict d) w0 C n oNotIn (rNotInD K) := by
  intro H L M v1 v2 d1 d2 d Q e hL hM gr a b hp k
  unfold oNotIn at e
  split at e
  · split at e
    · rename_i z
      cases e
      exact ⟨_, _, a.dp (shaped_dict z.1), b.dp (shaped_dict z.2), z.1, z.2, k _ _ Ext.refl Out.bl⟩
    · cases e
  · exact (hp ⟨_, rfl⟩).elim
  · exact (hp ⟨_, rfl⟩).elim
  · cases e
theorem op2_ndin : Op2P (fun _ d => isDict d) w0 C n oNotIn (fun y x H Q => ∃ a o, x = .ref a ∧ DGet H a y o ∧ Q (.bl (!o.isSome)) H) := by
  intro H L M v1 v2 d1 d2 d Q e hL hM gr a b hp k
  obtain ⟨kds, rfl⟩ := hp
  unfold oNotIn at e
  split at e
  · rename_i e1; cases e1
  · rename_i k0 kds' e1
    cases e1
    cases e
    obtain ⟨p, rfl, h⟩ := dget_of b (k := .inl k0) (own_int a)
    rcases h with ⟨h1, h2⟩ | ⟨d, v, h1, h2, _⟩
    · refine ⟨p, none, rfl, h2, ?_⟩
      rw [show lookD kds (.int k0) = none from h1] at k
      exact k _ _ Ext.refl Out.bl
    · refine ⟨p, some v, rfl, h2, ?_⟩
      rw [show lookD kds (.int k0) = some d from h1] at k
      exact k _ _ Ext.refl Out.bl
  · rename_i k0 kds' e1
    cases e1
    cases e
    obtain ⟨p, rfl, h⟩ := dget_of b (k := .inr k0) (own_str a)
    rcases h with ⟨h1, h2⟩ | ⟨d, v, h1, h2, _⟩
    · refine ⟨p, none, rfl, h2, ?_⟩
      rw [show lookD kds (.str k0) = none from h1] at k
      exact k _ _ Ext.refl Out.bl
    · refine ⟨p, some v, rfl, h2, ?_⟩
      rw [show lookD kds (.str k0) = some d from h1] at k
      exact k _ _ Ext.refl Out.bl
  · cases e
/-- which of two readings holds is told by the second value -/
theorem by2 {o : D → D → Option D} {R R' : R2} (ho : Op2P (fun _ d => ¬ isDict d) w0 C n o R) (ho' : Op2P (fun _ d => isDict d) w0 C n o R') {σ : St} {H : Hp} {Q : VK} (q : tEV C n [] (dBin o f g) σ H Q) :
    (tEV C n1 al f σ H fun x H1 => tEV C n2 al' g σ H1 fun y H2 => R x y H2 Q) ∨ (tEV C n1 al f σ H fun x H1 => tEV C n2 al' g σ H1 fun y H2 => R' x y H2 Q) := by
  obtain ⟨ρ, r, L, e, gr, hL, w⟩ := q
  by_cases z : ∃ d1 r1 kds r2, f ρ r = .ok d1 r1 ∧ g ρ r1 = .ok (.dict kds) r2
  · obtain ⟨d1, r1, kds, r2, z1, z2⟩ := z
    refine .inr (twoP ho' (fun H1 => full C H1) e e.full Reg.full (fun e => e.full) (fun _ => Reg.full) gr hL w (fun a b c d h1 h2 => ?_) fun _ _ _ z => z.elim)
    rw [z1] at h1; cases h1
    rw [z2] at h2; cases h2
    exact ⟨kds, rfl⟩
  · refine .inl (twoP ho (fun H1 => full C H1) e e.full Reg.full (fun e => e.full) (fun _ => Reg.full) gr hL w (fun a b c d h1 h2 => ?_) fun _ _ _ z => z.elim)
    rintro ⟨kds, rfl⟩
    exact z ⟨_, _, _, _, h1, h2⟩
theorem by1 {o : D → D → Option D} {R R' : R2} (ho : Op2P (fun d _ => ¬ isDict d) w1 C n o R) (ho' : Op2P (fun d _ => isDict d) w1 C n o R') {σ : St} {H : Hp} {Q : VK} (q : tEV C n al (dBin o f g) σ H Q) :
    (tEV C n1 al f σ H fun x H1 => tEV C n2 al' g σ H1 fun y H2 => R x y H2 Q) ∨ (tEV C n1 al f σ H fun x H1 => tEV C n2 al' g σ H1 fun y H2 => R' x y H2 Q) := by
  obtain ⟨ρ, r, L, e, gr, hL, w⟩ := q
  by_cases z : ∃ kds r1, f ρ r = .ok (.dict kds) r1
  · obtain ⟨kds, r1, z1⟩ := z
    refine .inr (twoP ho' (fun H1 => full C H1) e e hL (fun e => e.full) (fun _ => Reg.full) gr hL w (fun a b c d h1 h2 => ?_) fun a _ p z => a p z)
    rw [z1] at h1; cases h1
    exact ⟨kds, rfl⟩
  · refine .inl (twoP ho (fun H1 => full C H1) e e hL (fun e => e.full) (fun _ => Reg.full) gr hL w (fun a b c d h1 h2 => ?_) fun a _ p z => a p z)
    rintro ⟨kds, rfl⟩
    exact z ⟨_, _, h1⟩
theorem ev_in (hu : X.A.units + 65 < cLine) (hm : behindInMarks .In b = false) (ha : PE X a (tEV C n1 al f)) (hb : PE X b (tEV C n2 al' g)) : PE X (.Compare a [.In] [b] pos) (tEV C n [] (dBin oIn f g)) :=
  impPE (orPE (pe_cmpR (op_inD hu) ha hb hm) (pe_cmp (pc_din (by omega) ha hb) hm)) fun σ H Q q => by2 (op2_inD _) op2_din q
theorem ev_notIn (hu : X.A.units + 65 < cLine) (hm : behindInMarks .NotIn b = false) (ha : PE X a (tEV C n1 al f)) (hb : PE X b (tEV C n2 al' g)) : PE X (.Compare a [.NotIn] [b] pos) (tEV C n [] (dBin oNotIn f g)) :=
  impPE (orPE (pe_cmpR (op_notInD hu) ha hb hm) (pe_cmp (pc_dnotin (by omega) ha hb) hm)) fun σ H Q q => by2 (op2_ninD _) op2_ndin q

/-! ### subscripts -/
theorem atI_own {H : Hp} {L : Addr → Prop} {vs : List V} {ds : List D} (h : Owns H L 0 vs ds []) {i : Int} {d : D} (e : atI ds i = some d) : ∃ v, atI vs i = some v ∧ Own H L 0 v d [] := by
  unfold atI at e ⊢
  rw [h.len]
  cases q : ixN ds.length i with
  | none => rw [q] at e; cases e
  | some j =>
    rw [q] at e
    obtain ⟨v, h1, h2⟩ := h.get0 (show ds[j]? = some d from e)
    exact ⟨v, h1, h2⟩
theorem op2_ix (K : PySem.W.Frag) : Op2P (fun d _ => ¬ isDict d) w1 C 0 oIx (fun x y H Q => rIxL K x y H Q ∨ rIxT K x y H Q) := by
  intro H L M v1 v2 d1 d2 d Q e hL hM gr a b hp k
  unfold oIx at e
  split at e
  · obtain ⟨p, vs, rfl, a1, a2, a3, a4⟩ := own_list a
    obtain ⟨v, h1, h2⟩ := atI_own a4 e
    exact .inl ⟨p, vs, _, v, rfl, own_int b, SqL.of a2, h1, k _ _ Ext.refl (Out.ro hL h2)⟩
  · split at e
    · cases e
    · rename_i hh
      obtain ⟨p, vs, rfl, a1, a2, a3, a4⟩ := own_tup a (by simpa using hh)
      obtain ⟨v, h1, h2⟩ := atI_own a4 e
      exact .inr ⟨p, vs, _, v, rfl, own_int b, SqT.of a2, h1, k _ _ Ext.refl (Out.ro hL h2)⟩
  · exact (hp ⟨_, rfl⟩).elim
  · exact (hp ⟨_, rfl⟩).elim
  · cases e
theorem op2_dix : Op2P (fun d _ => isDict d) w1 C 0 oIx (fun x y H Q => ∃ a v, x = .ref a ∧ DGet H a y (some v) ∧ Q v H) := by
  intro H L M v1 v2 d1 d2 d Q e hL hM gr a b hp k
  obtain ⟨kds, rfl⟩ := hp
  unfold oIx at e
  split at e
  · rename_i e1; cases e1
  · rename_i e1; cases e1
  · rename_i k0 e1
    cases e1
    obtain ⟨p, rfl, h⟩ := dget_of a (k := .inl k0) (own_int b)
    rcases h with ⟨h1, h2⟩ | ⟨d', v, h1, h2, h3⟩
    · rw [show lookD kds (.int k0) = none from h1] at e; cases e
    · rw [show lookD kds (.int k0) = some d' from h1] at e; cases e
      exact ⟨p, v, rfl, h2, k _ _ Ext.refl (Out.ro hL h3)⟩
  · rename_i k0 e1
    cases e1
    obtain ⟨p, rfl, h⟩ := dget_of a (k := .inr k0) (own_str b)
    rcases h with ⟨h1, h2⟩ | ⟨d', v, h1, h2, h3⟩
    · rw [show lookD kds (.str k0) = none from h1] at e; cases e
    · rw [show lookD kds (.str k0) = some d' from h1] at e; cases e
      exact ⟨p, v, rfl, h2, k _ _ Ext.refl (Out.ro hL h3)⟩
  · cases e
theorem ev_ix (hu : X.A.units + 64 < cLine) (hs : PlainIx b) (ha : PE X a (tEV C n1 al f)) (hb : PE X b (tEV C n2 al' g)) : PE X (.Subscript a b pos) (tEV C 0 al (dBin oIx f g)) :=
  impPE (orPE (pe_ix (ix_list.or ix_tup) ha hb hs) (pe_dget (by omega) ha hb hs)) fun σ H Q q => by1 (op2_ix _) op2_dix q

/-! ### slices of lists -/
def dcut (xs : List D) (lo hi : Option Int) : List D := (xs.drop (HT.sIx xs.length 0 lo)).take (HT.sIx xs.length xs.length hi - HT.sIx xs.length 0 lo)
theorem owns_cut {H : Hp} {L : Addr → Prop} {vs : List V} {ds : List D} (h : Owns H L 0 vs ds []) (lo hi : Option Int) : Owns H L 0 (cutV vs lo hi) (dcut ds lo hi) [] := by
  have drop : ∀ (k : Nat) {vs : List V} {ds : List D}, Owns H L 0 vs ds [] → Owns H L 0 (vs.drop k) (ds.drop k) [] := by
    intro k
    induction k with
    | zero => intro vs ds h; exact h
    | succ k ih =>
      intro vs ds h
      generalize e : ([] : List Addr) = z at h
      cases h with
      | nil => exact .nil
      | @cons _ _ _ _ _ a1 a2 h1 h2 =>
        obtain ⟨z1, z2⟩ := app_nil2 e.symm
        subst z1 z2
        exact ih h2
  have take : ∀ (k : Nat) {vs : List V} {ds : List D}, Owns H L 0 vs ds [] → Owns H L 0 (vs.take k) (ds.take k) [] := by
    intro k
    induction k with
    | zero => intro vs ds h; exact .nil
    | succ k ih =>
      intro vs ds h
      generalize e : ([] : List Addr) = z at h
      cases h with
      | nil => exact .nil
      | @cons _ _ _ _ _ a1 a2 h1 h2 =>
        obtain ⟨z1, z2⟩ := app_nil2 e.symm
        subst z1 z2
        exact .cons0 h1 (ih h2)
  unfold cutV dcut
  rw [h.len]
  exact take _ (drop _ h)
theorem dcut_len (xs : List D) (lo hi : Option Int) : (dcut xs lo hi).length ≤ xs.length := by
  unfold dcut
  rw [List.length_take, List.length_drop]
  omega
/-- a bound of a slice -/
def dPt (o : Option Den) : Slots → M (Option Int) := fun ρ => match o with
  | none => M.pure none
  | some f => M.bind (f ρ) fun d => match d with
    | .int i => M.pure (some i)
    | _ => M.bad
def OPt : Hp → Hp → (Addr → Prop) → Option Int → Option Int → Prop := fun _ _ _ d v => v = d
theorem ep_none : PO X none (tG C [] OPt (dPt none)) := by
  refine ⟨fun pins s σ H Q I q => po_none.run pins s σ H Q I ?_⟩
  obtain ⟨ρ, r, L, e, gr, hL, w⟩ := q
  exact w none H Fr.refl gr rfl
theorem ep_some (ha : PE X a (tEV C n1 al f)) : PO X (some a) (tG C [] OPt (dPt (some f))) := by
  refine ⟨fun pins s σ H Q I q => (po_some ha).run pins s σ H Q I ?_⟩
  obtain ⟨ρ, r, L, e, gr, hL, w⟩ := q
  refine tG.ofN e gr hL Fr.refl w fun d1 r1 v1 H1 q1 f1 g1 o1 e1 hL1 w1 => ?_
  cases d1 with
  | int i =>
    obtain ⟨L1, k1, _⟩ := Out.view o1
    exact ⟨i, own_int k1, w1 _ _ f1 g1 rfl⟩
  | _ => exact w1.elim
def dSl (f : Den) (lo hi : Slots → M (Option Int)) : Den := fun ρ => M.bind (f ρ) fun d => M.bind (lo ρ) fun l => M.bind (hi ρ) fun u => match d with
  | .list xs => M.pure (.list (dcut xs l u))
  | _ => M.bad
theorem ev_sl {lo hi : Option Expr} {p2 : Pos} {fl fu : Slots → M (Option Int)} (ha : PE X a (tEV C n1 al f)) (hl : PO X lo (tG C [] OPt fl)) (hh : PO X hi (tG C [] OPt fu)) :
    PE X (.Subscript a (.Slice lo hi none p2) pos) (tEV C 1 al (dSl f fl fu)) := by
  refine impPE (pe_slice sl_list ha hl hh) fun σ H Q ⟨ρ, r, L, e, gr, hL, w⟩ => ?_
  refine tG.of e (fun i => id) gr hL Fr.refl w fun d1 r1 v1 H1 q1 f1 g1 o1 e1 hL1 w1 => ?_
  refine tG.ofN e1 g1 hL1 f1 w1 fun d2 r2 v2 H2 q2 f2 g2 o2 e2 hL2 w2 => ?_
  refine tG.ofN e2 g2 hL2 (f1.trans f2) w2 fun d3 r3 v3 H3 q3 f3 g3 o3 e3 hL3 w3 => ?_
  obtain ⟨L1, k1, k2, k3⟩ := (Out.on o1 (f2.trans f3)).view
  cases d1 with
  | list xs =>
    obtain ⟨p, vs, rfl, a1, a2, a3, a4⟩ := own_list k1
    have o2' : v2 = d2 := o2
    have o3' : v3 = d3 := o3
    subst o2' o3'
    refine ⟨p, vs, rfl, SqL.of a2, fun u hu => ?_⟩
    have x := Ext.new (o := .lst (cutV vs v2 v3)) hu
    exact w3 _ _ (((f1.trans f2).trans f3).trans x.fr) (x.rng g3) (Out.pre ((f1.trans f2).trans f3) k3 (Out.newList k2 ⟨_, g3⟩ hu (owns_cut a4 _ _) (Nat.le_trans (dcut_len _ _ _) a3)))
  | _ => exact w3.elim
def oRev : D → Option D
  | .list xs => some (.list xs.reverse)
  | _ => none
theorem owns_rev {H : Hp} {L : Addr → Prop} : ∀ {vs : List V} {ds : List D}, Owns H L 0 vs ds [] → Owns H L 0 vs.reverse ds.reverse [] := by
  intro vs
  induction vs with
  | nil => intro ds h; cases h; exact .nil
  | cons v vs ih =>
    intro ds h
    generalize e : ([] : List Addr) = z at h
    cases h with
    | @cons _ _ _ _ _ a1 a2 h1 h2 =>
      obtain ⟨z1, z2⟩ := app_nil2 e.symm
      subst z1 z2
      rw [List.reverse_cons, List.reverse_cons]
      exact (ih h2).append (.one h1)
theorem ev_rev {k : Nat} {p1 p2 p3 : Pos} (ha : PE X a (tEV C n1 al f)) : PE X (.Subscript a (.Slice none none (some (.UnaryOp .USub (.Constant (.int 1) k p1) p2)) p3) pos) (tEV C 1 al (dUn oRev f)) := by
  refine impPE (pe_revL ha) fun σ H Q ⟨ρ, r, L, e, gr, hL, w⟩ => ?_
  refine tG.of e (fun i => id) gr hL Fr.refl w fun d1 r1 v1 H1 q1 f1 g1 o1 e1 hL1 w1 => ?_
  obtain ⟨L1, k1, k2, k3⟩ := Out.view o1
  cases d1 with
  | list xs =>
    obtain ⟨p, vs, rfl, a1, a2, a3, a4⟩ := own_list k1
    refine ⟨p, vs, rfl, SqL.of a2, fun u hu => ?_⟩
    have x := Ext.new (o := .lst vs.reverse) hu
    exact w1 _ _ (f1.trans x.fr) (x.rng g1) (Out.pre f1 k3 (Out.newList k2 ⟨_, g1⟩ hu (owns_rev a4) (by rw [List.length_reverse]; exact a3)))
  | _ => exact w1.elim

/-! ### a value that is no list, tuple, dict -/
def atomD : D → Bool
  | .none | .bool _ | .int _ | .str _ => true
  | _ => false
def dAtom (f : Den) : Den := fun ρ => M.bind (f ρ) fun d => if atomD d = true then M.pure d else M.bad
theorem ev_atom {e : Expr} (h : PE X e (tEV C n1 al f)) : PE X e (tEV C n [] (dAtom f)) := by
  refine impPE h fun σ H Q ⟨ρ, r, L, e, gr, hL, w⟩ => ?_
  refine tG.ofN e gr hL Fr.refl w fun d1 r1 v1 H1 q1 f1 g1 o1 e1 hL1 w1 => ?_
  obtain ⟨L1, k1, k2, k3⟩ := Out.view o1
  cases k1 with
  | non => exact w1 _ _ f1 g1 Out.non
  | bl => exact w1 _ _ f1 g1 Out.bl
  | int => exact w1 _ _ f1 g1 Out.int
  | str => exact w1 _ _ f1 g1 Out.str
  | _ => exact w1.elim

/-! ### unary minus -/
def oNeg : D → Option D
  | .int i => some (.int (-i))
  | _ => none
theorem ev_neg (ha : PE X a (tEV C n1 al f)) : PE X (.UnaryOp .USub a pos) (tEV C n [] (dUn oNeg f)) := by
  refine impPE (pe_un un_neg ha) fun σ H Q ⟨ρ, r, L, e, gr, hL, w⟩ => ?_
  refine tG.ofN e gr hL Fr.refl w fun d1 r1 v1 H1 q1 f1 g1 o1 e1 hL1 w1 => ?_
  obtain ⟨L1, k1, k2, k3⟩ := Out.view o1
  cases d1 with
  | int i => exact ⟨i, own_int k1, w1 _ _ f1 g1 Out.int⟩
  | _ => exact w1.elim
end
end DL

/-! DLe: arguments, displays, tests, and/or/not, built-in calls. -/
namespace DL
open PySem L2

section
variable {X : Cx} {C : Ct} {n n1 n2 n3 : Nat} {al al' al2 : List Nat} {f g h : Den} {a b c : Expr} {pos : Pos}
/-! ### arguments, displays -/
def dNil : Slots → M (List D) := fun _ => M.pure []
def dCons (f : Den) (fs : Slots → M (List D)) : Slots → M (List D) := fun ρ => M.bind (f ρ) fun d => M.bind (fs ρ) fun ds => M.pure (d :: ds)
theorem es_nil : PA X [] (tES C n [] dNil) := impPA pa_nil fun σ H Q ⟨ρ, r, L, e, gr, hL, w⟩ => w [] H Fr.refl gr ⟨fun _ => False, [], .nil, .nil, nofun, fun _ z => z.elim⟩
theorem Outs.cons {H H1 H2 : Hp} {L : Addr → Prop} {v : V} {d : D} {vs : List V} {ds : List D} (hL : Reg C L H) (f1 : Fr C H H1) (f2 : Fr C H1 H2) (o : Out C H L H1 n v d) (os : Outs C H1 L H2 n vs ds) : Outs C H L H2 n (v :: vs) (d :: ds) := by
  obtain ⟨L1, as, a1, a2, a3, a4⟩ := o
  obtain ⟨L2, bs, b1, b2, b3, b4⟩ := os
  have a1' : Own H2 L1 n v d as := a1.mono (fun _ h => h) fun p u hp e => f2 p u (hp.elim (fun z => (a4 p z).1) fun z => (a3 p z).2) e
  refine ⟨fun p => L1 p ∨ L2 p, as ++ bs, .cons (a1'.mono (fun _ => .inl) fun _ _ _ e => e) (b1.mono (fun _ => .inr) fun _ _ _ e => e), List.nodup_append.mpr ⟨a2, b2, fun p hp q hq e => ?_⟩, fun p hp => ?_, fun p hp => ?_⟩
  · subst e
    exact a1.stands p hp (b3 p hq).1
  · rcases List.mem_append.mp hp with hp | hp
    · exact a3 p hp
    · exact ⟨none_back f1 (b3 p hp).2 (b3 p hp).1, (b3 p hp).2⟩
  · rcases hp with hp | hp
    · obtain ⟨x, y, z, t⟩ := a4 p hp
      refine ⟨x, some_on f2 x y, z, fun q => ?_⟩
      rcases List.mem_append.mp q with q | q
      · exact t q
      · exact y (b3 p q).1
    · obtain ⟨x, y, z, t⟩ := b4 p hp
      refine ⟨x, y, z.imp id fun k => none_back f1 x k, fun q => ?_⟩
      rcases List.mem_append.mp q with q | q
      · rcases z with z | z
        · exact (hL p z).2 (a3 p q).1
        · exact a1.stands p q z
      · exact t q
theorem es_cons {e : Expr} {es : List Expr} {fs : Slots → M (List D)} (ha : PE X e (tEV C n al f)) (hr : PA X es (tES C n al' fs)) (hs : starEach (e :: es) X.env = (false, eval e X.env) :: starEach es X.env := by rfl) : PA X (e :: es) (tES C n (al ++ al') (dCons f fs)) := by
  refine impPA (pa_cons ha hr hs) fun σ H Q ⟨ρ, r, L, e, gr, hL, w⟩ => ?_
  refine tG.of e (fun i => List.mem_append_left _) gr hL Fr.refl w fun d1 r1 v1 H1 q1 f1 g1 o1 e1 hL1 w1 => ?_
  refine tG.of e1 (fun i => List.mem_append_right _) g1 hL1 f1 w1 fun d2 r2 v2 H2 q2 f2 g2 o2 e2 hL2 w2 => ?_
  exact w2 _ _ (f1.trans f2) g2 (Outs.cons hL f1 f2 o1 o2)
def dFn (o : List D → Option D) (fs : Slots → M (List D)) : Den := fun ρ => M.bind (fs ρ) fun ds => M.lift (o ds)
def oList (ds : List D) : Option D := if ds.length ≤ sizeLine then some (.list ds) else none
def oTup (ds : List D) : Option D := if ds.length ≤ sizeLine then some (.tuple ds) else none
theorem ev_list {es : List Expr} {fs : Slots → M (List D)} (ha : PA X es (tES C n al fs)) : PE X (.List es pos) (tEV C (n + 1) al (dFn oList fs)) := by
  refine impPE (pe_lst ha) fun σ H Q ⟨ρ, r, L, e, gr, hL, w⟩ => ?_
  refine tG.of e (fun i => id) gr hL Fr.refl w fun d1 r1 v1 H1 q1 f1 g1 o1 e1 hL1 w1 => ?_
  obtain ⟨L1, as, a1, a2, a3, a4⟩ := o1
  unfold oList at w1
  by_cases hz : d1.length ≤ sizeLine
  · rw [if_pos hz] at w1
    refine ⟨by rw [a1.len]; exact hz, fun p hp => ?_⟩
    have x := Ext.new (o := .lst v1) hp
    have np : ∀ q, H1 q ≠ none → q ≠ p := fun q hq e => hq (by rw [e]; exact hp)
    refine w1 _ _ (f1.trans x.fr) (x.rng g1) ⟨L1, p :: as, .lst upd_same hz (a1.mono (fun _ h => h) fun q u _ e => x q u e), List.nodup_cons.mpr ⟨fun z => np p (a1.stands p z) rfl, a2⟩, fun q hq => ?_, fun q hq => ?_⟩
    · rcases List.mem_cons.mp hq with hq | hq
      · rw [hq]; exact ⟨none_back f1 (g1.nr hp) hp, g1.nr hp⟩
      · exact a3 q hq
    · obtain ⟨y1, y2, y3, y4⟩ := a4 q hq
      exact ⟨y1, some_on x.fr y1 y2, y3, fun z => (List.mem_cons.mp z).elim (np q y2) y4⟩
  · rw [if_neg hz] at w1; exact w1.elim
theorem ev_tup {es : List Expr} {fs : Slots → M (List D)} {k : Nat} (ha : PA X es (tES C n al fs)) : PE X (.Tuple es k pos) (tEV C n al (dFn oTup fs)) := by
  refine impPE (pe_tup ha) fun σ H Q ⟨ρ, r, L, e, gr, hL, w⟩ => ?_
  refine tG.of e (fun i => id) gr hL Fr.refl w fun d1 r1 v1 H1 q1 f1 g1 o1 e1 hL1 w1 => ?_
  obtain ⟨L1, as, a1, a2, a3, a4⟩ := o1
  unfold oTup at w1
  by_cases hz : d1.length ≤ sizeLine
  · rw [if_pos hz] at w1
    refine ⟨by rw [a1.len]; exact hz, fun p hp => ?_⟩
    have x := Ext.new (o := .tup v1) hp
    have np : ∀ q, H1 q ≠ none → q ≠ p := fun q hq e => hq (by rw [e]; exact hp)
    refine w1 _ _ (f1.trans x.fr) (x.rng g1) ⟨fun q => L1 q ∨ q = p, as, .tup (.inr rfl) upd_same hz (a1.mono (fun _ => .inl) fun q u _ e => x q u e), a2, a3, fun q hq => ?_⟩
    rcases hq with hq | hq
    · obtain ⟨y1, y2, y3, y4⟩ := a4 q hq
      exact ⟨y1, some_on x.fr y1 y2, y3, y4⟩
    · subst hq
      exact ⟨g1.nr hp, by rw [upd_same]; exact nofun, .inr (none_back f1 (g1.nr hp) hp), fun z => a1.stands _ z hp⟩
  · rw [if_neg hz] at w1; exact w1.elim

/-! ### tests -/
theorem isE_len {α β : Type} {a : List α} {b : List β} (h : a.length = b.length) : a.isEmpty = b.isEmpty := by
  cases a <;> cases b <;> first | rfl | cases h
def boolD : D → Option Bool
  | .bool b => some b
  | _ => none
def truthD : D → Option Bool
  | .none => some false
  | .bool b => some b
  | .int i => some (i != 0)
  | .list xs => some (!xs.isEmpty)
  | .tuple xs => if isHole xs = true then none else some (!xs.isEmpty)
  | _ => none
def dTest (f : Den) : Slots → M Bool := fun ρ => M.bind (f ρ) fun d => M.lift (boolD d)
def dTruth (f : Den) : Slots → M Bool := fun ρ => M.bind (f ρ) fun d => M.lift (truthD d)
theorem test_of {σ : St} {H : Hp} {Q : Bool → Hp → Prop} (q : tET C [] (dTest f) σ H Q) : tEV C n al f σ H fun x H1 => ∃ k, x = .bl k ∧ Q k H1 := by
  obtain ⟨ρ, r, L, e, gr, hL, w⟩ := q
  refine tG.ofN e gr hL Fr.refl w fun d1 r1 v1 H1 q1 f1 g1 o1 e1 hL1 w1 => ?_
  obtain ⟨L1, k1, k2, k3⟩ := Out.view o1
  cases d1 with
  | bool b => exact ⟨b, own_bl k1, w1 _ _ f1 g1 rfl⟩
  | _ => exact w1.elim
theorem et_cmp {op : CmpOp} {o : D → D → Option D} {R : R2} (ho : OpR X (compareOp op) R) (hs : Op2 w0 C 0 o R) (hm : behindInMarks op b = false) (ha : PE X a (tEV C n1 al f)) (hb : PE X b (tEV C n2 al' g)) :
    PT X (.Compare a [op] [b] pos) (tET C [] (dTest (dBin o f g))) := impPT (pt_cmpR ho ha hb hm) fun σ H Q q => two0 hs (test_of q)
theorem et_eq (hu : X.A.units + 64 < cLine) (ha : PE X a (tEV C n1 al f)) (hb : PE X b (tEV C n2 al' g)) : PT X (.Compare a [.Eq] [b] pos) (tET C [] (dTest (dBin oEq f g))) := et_cmp (op_eq.or (op_eqD hu)) (op2_eq _) (nomark _) ha hb
theorem et_ne (hu : X.A.units + 64 < cLine) (ha : PE X a (tEV C n1 al f)) (hb : PE X b (tEV C n2 al' g)) : PT X (.Compare a [.NotEq] [b] pos) (tET C [] (dTest (dBin oNe f g))) := et_cmp (op_ne.or (op_neD hu)) (op2_ne _) (nomark _) ha hb
theorem et_lt (ha : PE X a (tEV C n1 al f)) (hb : PE X b (tEV C n2 al' g)) : PT X (.Compare a [.Lt] [b] pos) (tET C [] (dTest (dBin oLt f g))) := et_cmp op_lt op2_lt (nomark _) ha hb
theorem et_le (ha : PE X a (tEV C n1 al f)) (hb : PE X b (tEV C n2 al' g)) : PT X (.Compare a [.LtE] [b] pos) (tET C [] (dTest (dBin oLe f g))) := et_cmp op_le op2_le (nomark _) ha hb
theorem et_gt (ha : PE X a (tEV C n1 al f)) (hb : PE X b (tEV C n2 al' g)) : PT X (.Compare a [.Gt] [b] pos) (tET C [] (dTest (dBin oGt f g))) := et_cmp op_gt op2_gt (nomark _) ha hb
theorem et_ge (ha : PE X a (tEV C n1 al f)) (hb : PE X b (tEV C n2 al' g)) : PT X (.Compare a [.GtE] [b] pos) (tET C [] (dTest (dBin oGe f g))) := et_cmp op_ge op2_ge (nomark _) ha hb
/-- any comparison whose value is told, as a test -/
theorem et_of {op : CmpOp} {t : TE} (hp : PC X op a b t) (hm : behindInMarks op b = false) (k : ∀ σ H Q, tEV C n [] f σ H Q → t σ H Q) : PT X (.Compare a [op] [b] pos) (tET C [] (dTest f)) :=
  impPT (pt_cmp hp hm) fun σ H Q q => k _ _ _ (test_of q)
theorem orPT {e : Expr} {t t' : TT} (h : PT X e t) (h' : PT X e t') : PT X e (fun σ H Q => t σ H Q ∨ t' σ H Q) := ⟨fun pins s σ H Q I q => q.elim (h.run pins s σ H Q I) (h'.run pins s σ H Q I)⟩
theorem et_in (hu : X.A.units + 65 < cLine) (hm : behindInMarks .In b = false) (ha : PE X a (tEV C n1 al f)) (hb : PE X b (tEV C n2 al' g)) : PT X (.Compare a [.In] [b] pos) (tET C [] (dTest (dBin oIn f g))) :=
  impPT (orPT (pt_cmpR (op_inD hu) ha hb hm) (pt_cmp (pc_din (by omega) ha hb) hm)) fun σ H Q q => by2 (n := 0) (op2_inD _) op2_din (test_of q)
theorem et_notIn (hu : X.A.units + 65 < cLine) (hm : behindInMarks .NotIn b = false) (ha : PE X a (tEV C n1 al f)) (hb : PE X b (tEV C n2 al' g)) : PT X (.Compare a [.NotIn] [b] pos) (tET C [] (dTest (dBin oNotIn f g))) :=
  impPT (orPT (pt_cmpR (op_notInD hu) ha hb hm) (pt_cmp (pc_dnotin (by omega) ha hb) hm)) fun σ H Q q => by2 (n := 0) (op2_ninD _) op2_ndin (test_of q)
theorem et_isN {j : Nat} {p' : Pos} (ha : PE X a (tEV C n1 al f)) : PT X (.Compare a [.Is] [.Constant .none j p'] pos) (tET C [] (dTest (dUn oIsN f))) := by
  refine et_of (n := 0) (pc_isN ha) (nomark _) fun σ H Q ⟨ρ, r, L, e, gr, hL, w⟩ => ?_
  refine tG.ofN e gr hL Fr.refl w fun d1 r1 v1 H1 q1 f1 g1 o1 e1 hL1 w1 => ?_
  obtain ⟨L1, k1, _⟩ := Out.view o1
  rw [isNone_own k1]
  exact w1 _ _ f1 g1 Out.bl
theorem et_notN {j : Nat} {p' : Pos} (ha : PE X a (tEV C n1 al f)) : PT X (.Compare a [.IsNot] [.Constant .none j p'] pos) (tET C [] (dTest (dUn oNotN f))) := by
  refine et_of (n := 0) (pc_notN ha) (nomark _) fun σ H Q ⟨ρ, r, L, e, gr, hL, w⟩ => ?_
  refine tG.ofN e gr hL Fr.refl w fun d1 r1 v1 H1 q1 f1 g1 o1 e1 hL1 w1 => ?_
  obtain ⟨L1, k1, _⟩ := Out.view o1
  rw [isNone_own k1]
  exact w1 _ _ f1 g1 Out.bl
/-- a value's truth: a name, a call, a subscript -/
theorem et_val (ha : PE X a (tEV C n1 al f)) (he : ∀ whole, isTrue a X.env whole = (do let v ← whole; standAt a.pos; holding [v] (truthy v)) := by intro _; rfl) : PT X a (tET C [] (dTruth f)) := by
  refine impPT (pt_truth ha he) fun σ H Q ⟨ρ, r, L, e, gr, hL, w⟩ => ?_
  refine tG.ofN e gr hL Fr.refl w fun d1 r1 v1 H1 q1 f1 g1 o1 e1 hL1 w1 => ?_
  obtain ⟨L1, k1, k2, k3⟩ := Out.view o1
  cases d1 with
  | none => cases k1; exact ⟨false, rfl, w1 _ _ f1 g1 rfl⟩
  | bool b => cases k1; exact ⟨b, rfl, w1 _ _ f1 g1 rfl⟩
  | int i => cases k1; exact ⟨i != 0, rfl, w1 _ _ f1 g1 rfl⟩
  | str s => exact w1.elim
  | list xs =>
    obtain ⟨p, vs, rfl, a1, a2, a3, a4⟩ := own_list k1
    refine ⟨_, .inl ⟨vs, SqL.of a2, rfl⟩, ?_⟩
    rw [isE_len a4.len]
    exact w1 _ _ f1 g1 rfl
  | tuple xs =>
    cases hh : isHole xs with
    | true =>
      rw [show truthD (.tuple xs) = none by simp [truthD, hh]] at w1
      exact w1.elim
    | false =>
      obtain ⟨p, vs, rfl, a1, a2, a3, a4⟩ := own_tup k1 hh
      refine ⟨_, .inr (.inl ⟨vs, SqT.of a2, rfl⟩), ?_⟩
      rw [isE_len a4.len]
      rw [show truthD (.tuple xs) = some (!xs.isEmpty) by simp [truthD, hh]] at w1
      exact w1 _ _ f1 g1 rfl
  | dict _ => exact w1.elim
theorem impPW {e : Expr} {t t' : TT} (h : PW X e t) (k : ∀ σ H Q, t' σ H Q → t σ H Q) : PW X e t' := ⟨fun wh pins s σ H Q I q => h.run wh pins s σ H Q I (k σ H Q q)⟩
def dAnd (f g : Slots → M Bool) : Slots → M Bool := fun ρ => M.bind (f ρ) fun b => if b = true then g ρ else M.pure false
def dOr (f g : Slots → M Bool) : Slots → M Bool := fun ρ => M.bind (f ρ) fun b => if b = true then M.pure true else g ρ
def dNot (f : Slots → M Bool) : Slots → M Bool := fun ρ => M.bind (f ρ) fun b => M.pure (!b)
variable {tf tg tk : Slots → M Bool} {rest : List Expr}
theorem ew_and1 (ha : PT X a (tET C [] tf)) : PW X (.BoolOp .And [a] pos) (tET C [] tf) := pw_and1 ha
theorem ew_or1 (ha : PT X a (tET C [] tf)) : PW X (.BoolOp .Or [a] pos) (tET C [] tf) := pw_or1 ha
theorem ew_and (ha : PT X a (tET C [] tf)) (hb : PW X (.BoolOp .And (b :: rest) pos) (tET C [] tg)) : PW X (.BoolOp .And (a :: b :: rest) pos) (tET C [] (dAnd tf tg)) := by
  refine impPW (pw_and ha hb) fun σ H Q ⟨ρ, r, L, e, gr, hL, w⟩ => ?_
  refine tG.of e (fun i => id) gr hL Fr.refl w fun d1 r1 v1 H1 q1 f1 g1 o1 e1 hL1 w1 => ?_
  have o1' : v1 = d1 := o1
  subst o1'
  cases v1 with
  | true =>
    simp only [if_true] at w1 ⊢
    exact ⟨ρ, r1, L, e1, g1, hL1, W.on OOk.ob w1 f1 g1⟩
  | false =>
    simp only [Bool.false_eq_true, if_false] at w1 ⊢
    exact w1 _ _ f1 g1 rfl
theorem ew_or (ha : PT X a (tET C [] tf)) (hb : PW X (.BoolOp .Or (b :: rest) pos) (tET C [] tg)) : PW X (.BoolOp .Or (a :: b :: rest) pos) (tET C [] (dOr tf tg)) := by
  refine impPW (pw_or ha hb) fun σ H Q ⟨ρ, r, L, e, gr, hL, w⟩ => ?_
  refine tG.of e (fun i => id) gr hL Fr.refl w fun d1 r1 v1 H1 q1 f1 g1 o1 e1 hL1 w1 => ?_
  have o1' : v1 = d1 := o1
  subst o1'
  cases v1 with
  | true =>
    simp only [if_true] at w1 ⊢
    exact w1 _ _ f1 g1 rfl
  | false =>
    simp only [Bool.false_eq_true, if_false] at w1 ⊢
    exact ⟨ρ, r1, L, e1, g1, hL1, W.on OOk.ob w1 f1 g1⟩
theorem et_w {e : Expr} (h : PW X e (tET C [] tf)) : PT X e (tET C [] tf) := h.pt
theorem et_not (ha : PT X a (tET C [] tf)) : PT X (.UnaryOp .Not a pos) (tET C [] (dNot tf)) := by
  refine impPT (pt_not ha) fun σ H Q ⟨ρ, r, L, e, gr, hL, w⟩ => ?_
  refine tG.of e (fun i => id) gr hL Fr.refl w fun d1 r1 v1 H1 q1 f1 g1 o1 e1 hL1 w1 => ?_
  have o1' : v1 = d1 := o1
  subst o1'
  exact w1 _ _ f1 g1 rfl
/-! ### and, or, not as values -/
def dAndV (f g : Den) : Den := fun ρ => M.bind (f ρ) fun d => match d with
  | .bool true => g ρ
  | .bool false => M.pure (.bool false)
  | _ => M.bad
def dOrV (f g : Den) : Den := fun ρ => M.bind (f ρ) fun d => match d with
  | .bool true => M.pure (.bool true)
  | .bool false => g ρ
  | _ => M.bad
def oNot : D → Option D
  | .bool b => some (.bool (!b))
  | _ => none
theorem ev_one {op : BoolOp} (h : PE X a (tEV C n al f)) : PE X (.BoolOp op [a] pos) (tEV C n al f) := pe_one h
theorem ev_and (ha : PE X a (tEV C n1 al f)) (hb : PE X (.BoolOp .And (b :: rest) pos) (tEV C n al' g)) : PE X (.BoolOp .And (a :: b :: rest) pos) (tEV C n al' (dAndV f g)) := by
  refine impPE (pe_and ha hb) fun σ H Q ⟨ρ, r, L, e, gr, hL, w⟩ => ?_
  refine tG.ofN e gr hL Fr.refl w fun d1 r1 v1 H1 q1 f1 g1 o1 e1 hL1 w1 => ?_
  obtain ⟨L1, k1, k2, k3⟩ := Out.view o1
  cases d1 with
  | bool c =>
    refine ⟨c, own_bl k1, ?_⟩
    cases c with
    | true =>
      simp only [if_true] at w1 ⊢
      exact ⟨ρ, r1, L, e1, g1, hL1, W.on OOk.o1 w1 f1 g1⟩
    | false =>
      simp only [Bool.false_eq_true, if_false] at w1 ⊢
      exact w1 _ _ f1 g1 Out.bl
  | _ => exact w1.elim
theorem ev_or (ha : PE X a (tEV C n1 al f)) (hb : PE X (.BoolOp .Or (b :: rest) pos) (tEV C n al' g)) : PE X (.BoolOp .Or (a :: b :: rest) pos) (tEV C n al' (dOrV f g)) := by
  refine impPE (pe_or ha hb) fun σ H Q ⟨ρ, r, L, e, gr, hL, w⟩ => ?_
  refine tG.ofN e gr hL Fr.refl w fun d1 r1 v1 H1 q1 f1 g1 o1 e1 hL1 w1 => ?_
  obtain ⟨L1, k1, k2, k3⟩ := Out.view o1
  cases d1 with
  | bool c =>
    refine ⟨c, own_bl k1, ?_⟩
    cases c with
    | true =>
      simp only [if_true] at w1 ⊢
      exact w1 _ _ f1 g1 Out.bl
    | false =>
      simp only [Bool.false_eq_true, if_false] at w1 ⊢
      exact ⟨ρ, r1, L, e1, g1, hL1, W.on OOk.o1 w1 f1 g1⟩
  | _ => exact w1.elim
theorem ev_not (ha : PE X a (tEV C n1 al f)) : PE X (.UnaryOp .Not a pos) (tEV C n [] (dUn oNot f)) := by
  refine impPE (pe_not ha) fun σ H Q ⟨ρ, r, L, e, gr, hL, w⟩ => ?_
  refine tG.ofN e gr hL Fr.refl w fun d1 r1 v1 H1 q1 f1 g1 o1 e1 hL1 w1 => ?_
  obtain ⟨L1, k1, k2, k3⟩ := Out.view o1
  cases d1 with
  | bool c => exact ⟨c, own_bl k1, w1 _ _ f1 g1 Out.bl⟩
  | _ => exact w1.elim
def dIf (c : Slots → M Bool) (f g : Den) : Den := fun ρ => M.bind (c ρ) fun b => if b = true then f ρ else g ρ
theorem ev_if (hc : PT X c (tET C [] tf)) (ha : PE X a (tEV C n al f)) (hb : PE X b (tEV C n al' g)) : PE X (.IfExp c a b pos) (tEV C n (al ++ al') (dIf tf f g)) := by
  refine impPE (pe_ifExp hc ha hb) fun σ H Q ⟨ρ, r, L, e, gr, hL, w⟩ => ?_
  refine tG.ofN e gr hL Fr.refl w fun d1 r1 v1 H1 q1 f1 g1 o1 e1 hL1 w1 => ?_
  have o1' : v1 = d1 := o1
  subst o1'
  cases v1 with
  | true =>
    simp only [if_true] at w1 ⊢
    exact ⟨ρ, r1, L, e1.sub (fun i => List.mem_append_left _), g1, hL1, W.on OOk.o1 w1 f1 g1⟩
  | false =>
    simp only [Bool.false_eq_true, if_false] at w1 ⊢
    exact ⟨ρ, r1, L, e1.sub (fun i => List.mem_append_right _), g1, hL1, W.on OOk.o1 w1 f1 g1⟩
/-! ### two comparisons in a chain -/
def dChain (o o' : D → D → Option D) (f g h : Den) : Den := fun ρ => M.bind (f ρ) fun a => M.bind (g ρ) fun b => M.bind (M.lift (o a b)) fun d => match d with
  | .bool true => M.bind (h ρ) fun c => M.lift (o' b c)
  | .bool false => M.pure (.bool false)
  | _ => M.bad
theorem chain_core {o oo : D → D → Option D} {R R' : R2} (hs : Op2 w0 C 0 o R) (hs' : Op2 w0 C n oo R') {σ : St} {H : Hp} {Q : VK} (q : tEV C n [] (dChain o oo f g h) σ H Q) :
    tEV C n1 al f σ H fun x H1 => tEV C n2 al' g σ H1 fun y H2 => R x y H2 fun z H3 => ∃ k, z = .bl k ∧ (if k = true then tEV C n3 al2 h σ H3 fun w' H4 => R' y w' H4 Q else Q (.bl false) H3) := by
  obtain ⟨ρ, r, L, e, gr, hL, w⟩ := q
  refine tG.ofN e gr hL Fr.refl w fun d1 r1 v1 H1 q1 f1 g1 o1 e1 hL1 w1 => ?_
  refine tG.ofN e1 g1 hL1 f1 w1 fun d2 r2 v2 H2 q2 f2 g2 o2 e2 hL2 w2 => ?_
  obtain ⟨L1, k1, k2, k3⟩ := (Out.on o1 f2).view
  obtain ⟨L2, m1, m2, m3⟩ := Out.view o2
  cases q : o d1 d2 with
  | none => rw [show M.lift (o d1 d2) = M.lift none by rw [q]] at w2; exact w2.elim
  | some d =>
    rw [show M.lift (o d1 d2) = M.lift (some d) by rw [q]] at w2
    refine hs (L := L1) (M := L2) q k2 m2 ⟨_, g2⟩ k1 m1 fun v H3 x o' => ?_
    obtain ⟨L3, y1, y2, y3⟩ := Out.view o'
    cases d with
    | bool t =>
      refine ⟨t, own_bl y1, ?_⟩
      have f13 := (f1.trans f2).trans x.fr
      cases t with
      | false =>
        simp only [Bool.false_eq_true, if_false]
        exact w2 _ _ f13 (x.rng g2) Out.bl
      | true =>
        simp only [if_true]
        have w3 : W C H L (O1 C n) (M.bind (h ρ) (fun c => M.lift (oo d2 c)) r2) Q := w2
        refine tG.ofN (e2.on hL2 x.fr) (x.rng g2) (hL2.on x.fr) f13 w3 fun d4 r4 v4 H4 q4 f4 g4 o4 e4 hL4 w4 => ?_
        obtain ⟨L4, z1, z2, z3⟩ := Out.view o4
        unfold M.lift at w4
        cases q' : oo d2 d4 with
        | none => rw [q'] at w4; exact w4.elim
        | some d' =>
          rw [q'] at w4
          have f24 : Fr C H2 H4 := x.fr.trans f4
          refine hs' (L := L2) (M := L4) q' (m2.on f24) z2 ⟨_, g4⟩ (m1.fr m2 nofun f24) z1 fun v H' x' o5 => ?_
          exact w4 v H' ((f13.trans f4).trans x'.fr) (x'.rng g4) (Out.pre (f13.trans f4) (fun _ z => z.elim) o5)
    | _ => exact w2.elim
theorem ev_chain {op op' : CmpOp} {o o' : D → D → Option D} {R R' : R2} (ho : OpR X (compareOp op) R) (ho' : OpR X (compareOp op') R') (hs : Op2 w0 C 0 o R) (hs' : Op2 w0 C n o' R') (ha : PE X a (tEV C n1 al f)) (hb : PE X b (tEV C n2 al' g)) (hc : PE X c (tEV C n3 al2 h))
    (hm : lastMarks [op, op'] [b, c] = false := by with_unfolding_all rfl) : PE X (.Compare a [op, op'] [b, c] pos) (tEV C n [] (dChain o o' f g h)) :=
  impPE (pe_chain ho ho' ha hb hc hm) fun σ H Q q => chain_core hs hs' q
theorem et_chain {op op' : CmpOp} {o o' : D → D → Option D} {R R' : R2} (ho : OpR X (compareOp op) R) (ho' : OpR X (compareOp op') R') (hs : Op2 w0 C 0 o R) (hs' : Op2 w0 C 0 o' R') (ha : PE X a (tEV C n1 al f)) (hb : PE X b (tEV C n2 al' g)) (hc : PE X c (tEV C n3 al2 h))
    (hm : lastMarks [op, op'] [b, c] = false := by with_unfolding_all rfl) : PT X (.Compare a [op, op'] [b, c] pos) (tET C [] (dTest (dChain o o' f g h))) :=
  impPT (pt_chain ho ho' ha hb hc hm) fun σ H Q q => chain_core hs hs' (test_of q)
end

/-! ### built-in calls -/
section
variable {X : Cx} {C : Ct} {n n1 : Nat} {al : List Nat} {e : Expr} {es : List Expr} {pos p : Pos} {x : Str} {id T : String} {fs : Slots → M (List D)}
def OpN (C : Ct) (n : Nat) (o : List D → Option D) (R : List V → Hp → VK → Prop) : Prop := ∀ {H : Hp} {L : Addr → Prop} {vs : List V} {ds : List D} {d : D} {Q : VK}, o ds = some d → Reg C L H → (∃ r, RngAt C r H) → Owns H L 0 vs ds [] →
  (∀ v H', Ext H H' → Out C H L H' n v d → Q v H') → R vs H Q
theorem opN {o : List D → Option D} {R : List V → Hp → VK → Prop} (hs : OpN C n o R) {σ : St} {H : Hp} {Q : VK} (q : tEV C n al (dFn o fs) σ H Q) : tES C n1 al fs σ H fun vs H1 => R vs H1 Q := by
  obtain ⟨ρ, r, L, e, gr, hL, w⟩ := q
  refine tG.of e (fun i => id) gr hL Fr.refl w fun d1 r1 v1 H1 q1 f1 g1 o1 e1 hL1 w1 => ?_
  obtain ⟨L1, k1, k2, k3⟩ := Outs.view o1
  unfold M.lift at w1
  cases q' : o d1 with
  | none => rw [q'] at w1; exact w1.elim
  | some d =>
    rw [q'] at w1
    exact hs q' k2 ⟨_, g1⟩ k1 fun v H' x o' => w1 v H' (f1.trans x.fr) (x.rng g1) (Out.pre f1 k3 o')
/-- what comes out is no list, tuple, dict -/
theorem opN0 {o : List D → Option D} {R : List V → Hp → VK → Prop} (hs : ∀ {H : Hp} {L : Addr → Prop} {vs : List V} {ds : List D} {d : D} {Q : VK}, o ds = some d → Reg C L H → (∃ r, RngAt C r H) → Owns H L 0 vs ds [] → (∀ v H', Ext H H' → Out C H (fun _ => False) H' n v d → Q v H') → R vs H Q) {σ : St} {H : Hp} {Q : VK} (q : tEV C n [] (dFn o fs) σ H Q) : tES C n1 al fs σ H fun vs H1 => R vs H1 Q := by
  obtain ⟨ρ, r, L, e, gr, hL, w⟩ := q
  refine tG.ofN e gr hL Fr.refl w fun d1 r1 v1 H1 q1 f1 g1 o1 e1 hL1 w1 => ?_
  obtain ⟨L1, k1, k2, k3⟩ := Outs.view o1
  unfold M.lift at w1
  cases q' : o d1 with
  | none => rw [q'] at w1; exact w1.elim
  | some d =>
    rw [q'] at w1
    exact hs q' k2 ⟨_, g1⟩ k1 fun v H' x o' => w1 v H' (f1.trans x.fr) (x.rng g1) (Out.pre f1 (fun _ z => z.elim) o')
def OpN0 (C : Ct) (n : Nat) (o : List D → Option D) (R : List V → Hp → VK → Prop) : Prop := ∀ {H : Hp} {L : Addr → Prop} {vs : List V} {ds : List D} {d : D} {Q : VK}, o ds = some d → Reg C L H → (∃ r, RngAt C r H) → Owns H L 0 vs ds [] → (∀ v H', Ext H H' → Out C H (fun _ => False) H' n v d → Q v H') → R vs H Q
theorem ev_callB0 {o : List D → Option D} {R : List V → Hp → VK → Prop} (hc : CallR X (.builtin id) R) (hs : OpN0 C n o R) (hg : Gl X x) (hm : X.mg x = none) (hv : bootBuiltins x = some (.builtin id)) (ha : PA X (e :: es) (tES C n1 al fs)) (hn : x ≠ "__name__" := by decide) (hdb : (x == ("__debug__" : Str)) = false := by decide)
    (he : starEach (e :: es) X.env = (false, eval e X.env) :: starEach es X.env := by rfl) (hpl : (backTo pos (starEach es X.env)).any (·.1) = false := by rfl) : PE X (.Call (.Name x p) (e :: es) [] pos) (tEV C n [] (dFn o fs)) :=
  impPE (pe_callB hc hg hm hv ha hn hdb he hpl) fun σ H Q q => opN0 hs q
theorem ev_callT0 {o : List D → Option D} {R : List V → Hp → VK → Prop} (hc : CallR X (.type T) R) (hs : OpN0 C n o R) (hg : Gl X x) (hm : X.mg x = none) (hv : bootBuiltins x = some (.type T)) (ha : PA X (e :: es) (tES C n1 al fs)) (hn : x ≠ "__name__" := by decide) (hdb : (x == ("__debug__" : Str)) = false := by decide)
    (he : starEach (e :: es) X.env = (false, eval e X.env) :: starEach es X.env := by rfl) (hpl : (backTo pos (starEach es X.env)).any (·.1) = false := by rfl) : PE X (.Call (.Name x p) (e :: es) [] pos) (tEV C n [] (dFn o fs)) :=
  impPE (pe_callTy hc hg hm hv ha hn hdb he hpl) fun σ H Q q => opN0 hs q
theorem ev_callB {o : List D → Option D} {R : List V → Hp → VK → Prop} (hc : CallR X (.builtin id) R) (hs : OpN C n o R) (hg : Gl X x) (hm : X.mg x = none) (hv : bootBuiltins x = some (.builtin id)) (ha : PA X (e :: es) (tES C n1 al fs)) (hn : x ≠ "__name__" := by decide) (hdb : (x == ("__debug__" : Str)) = false := by decide)
    (he : starEach (e :: es) X.env = (false, eval e X.env) :: starEach es X.env := by rfl) (hpl : (backTo pos (starEach es X.env)).any (·.1) = false := by rfl) : PE X (.Call (.Name x p) (e :: es) [] pos) (tEV C n al (dFn o fs)) :=
  impPE (pe_callB hc hg hm hv ha hn hdb he hpl) fun σ H Q q => opN hs q
theorem ev_callT {o : List D → Option D} {R : List V → Hp → VK → Prop} (hc : CallR X (.type T) R) (hs : OpN C n o R) (hg : Gl X x) (hm : X.mg x = none) (hv : bootBuiltins x = some (.type T)) (ha : PA X (e :: es) (tES C n1 al fs)) (hn : x ≠ "__name__" := by decide) (hdb : (x == ("__debug__" : Str)) = false := by decide)
    (he : starEach (e :: es) X.env = (false, eval e X.env) :: starEach es X.env := by rfl) (hpl : (backTo pos (starEach es X.env)).any (·.1) = false := by rfl) : PE X (.Call (.Name x p) (e :: es) [] pos) (tEV C n al (dFn o fs)) :=
  impPE (pe_callTy hc hg hm hv ha hn hdb he hpl) fun σ H Q q => opN hs q
end
end DL

/-! DLf: what is walked; list comprehensions. -/
namespace DL
open PySem L2

/-! ### a dict is locked when it has come, unlocked at the end -/
def LkA (H1 : Hp) (Q : Hp → Prop) : Prop := (∃ d u, H1 d = some u ∧ Mut (some u) ∧ ∀ od, Q (upd H1 d (.frz od u))) ∨ Q H1
def tLockA (t : TE) : TE := fun σ H Q => t σ H fun x H1 => LkA H1 (Q x)
theorem pe_lockA {X : Cx} {e : Expr} {t : TE} (h : PE X e t) : PE X e (tLockA t) := by
  refine ⟨fun pins s σ H Q I q => ?_⟩
  refine thn (h.run pins s σ H _ I q) fun u s1 ⟨x, H1, I1, r1, q1⟩ => ?_
  rcases q1 with ⟨d, w, hd, mu, q1⟩ | q1
  · obtain ⟨od, I2⟩ := I1.lock hd mu
    exact ⟨x, _, I2, r1, q1 od⟩
  · exact ⟨x, H1, I1, r1, q1⟩
/-- at d something new or unlocked stood before; now it is locked -/
def Unl (H H' : Hp) (Q : Hp → Prop) : Prop := (∃ d od u, Mut (some u) ∧ (H d = none ∨ H d = some u) ∧ H' d = some (.frz od u) ∧ Q (upd H' d u)) ∨ Q H'
theorem nofrz_of {X : Cx} {pins : List (Addr × Obj)} {σ : St} {H : Hp} {s : Shared} {d : Addr} {u : HO} (I : Inv X pins σ H s) (mu : Mut (some u)) (h : H d = none ∨ H d = some u) : ∀ o' u', X.H_0 d ≠ some (.frz o' u') := by
  rcases h with h | h
  · intro o' u' e
    have q := I.base.frzs d o' u' e
    rw [h] at q; cases q
  · exact I.nofrz h mu
theorem pe_unl {X : Cx} {e : Expr} {t : TE} (h : PE X e t) : PE X e (fun σ H Q => t σ H fun v H' => Unl H H' (Q v)) := by
  refine ⟨fun pins s σ H Q I q => ?_⟩
  refine thn (h.run pins s σ H _ I q) fun u s1 ⟨x, H1, I1, r1, q1⟩ => ?_
  rcases q1 with ⟨d, od, w, mu, hd, hf, q1⟩ | q1
  · exact ⟨x, _, I1.unlock hf (nofrz_of I mu hd), r1, q1⟩
  · exact ⟨x, H1, I1, r1, q1⟩
theorem ps_unl {X : Cx} {st : Stmt} {t : TS} (h : PS X st t) : PS X st (fun D σ H => t ⟨fun σ' H' => Unl H H' (D.nx σ'), fun v H' => Unl H H' (D.rt v), fun σ' H' => Unl H H' (D.bk σ'), fun σ' H' => Unl H H' (D.ct σ')⟩ σ H) := by
  refine ⟨fun pins s σ H D I q => ?_⟩
  have un : ∀ {σ' : St} {H' : Hp} {s' : Shared} {Q : Hp → Prop}, Inv X pins σ' H' s' → Unl H H' Q → ∃ H2, Inv X pins σ' H2 s' ∧ Q H2 := fun {σ' H' s' Q} J q => by
    rcases q with ⟨d, od, w, mu, hd, hf, q⟩ | q
    · exact ⟨_, J.unlock hf (nofrz_of I mu hd), q⟩
    · exact ⟨_, J, q⟩
  refine thn (h.run pins s σ H _ I q) fun f s1 q1 => ?_
  cases f with
  | next => obtain ⟨σ', H', J, q2⟩ := q1; obtain ⟨H2, J2, q3⟩ := un J q2; exact ⟨σ', H2, J2, q3⟩
  | brk => obtain ⟨σ', H', J, q2⟩ := q1; obtain ⟨H2, J2, q3⟩ := un J q2; exact ⟨σ', H2, J2, q3⟩
  | cont => obtain ⟨σ', H', J, q2⟩ := q1; obtain ⟨H2, J2, q3⟩ := un J q2; exact ⟨σ', H2, J2, q3⟩
  | ret v => obtain ⟨x, σ', H', J, r, q2⟩ := q1; obtain ⟨H2, J2, q3⟩ := un J q2; exact ⟨x, σ', H2, J2, r, q3⟩

/-! ### locked or not, a thing reads the same -/
section
variable {H : Hp} {L : Addr → Prop} {d : Addr} {od : Obj} {kvs : List (Key × V)}
theorem upd_old {H : Hp} {a : Addr} {o : HO} (h : H a = some o) : upd H a o = H := by
  funext b
  by_cases e : b = a
  · rw [e, upd_same, h]
  · rw [upd_ne e]
mutual
theorem Own.lock (h : H d = some (.dK kvs)) : ∀ {n : Nat} {v : V} {e : D} {as : List Addr}, Own H L n v e as → d ∉ as → Own (upd H d (.frz od (.dK kvs))) L n v e as
  | _, _, _, _, .non, _ => .non
  | _, _, _, _, .bl, _ => .bl
  | _, _, _, _, .int, _ => .int
  | _, _, _, _, .str, _ => .str
  | _, _, _, _, .hole, _ => .hole
  | _, _, _, _, .lst0 a b c x, q => .lst0 a (by rw [upd_ne (fun z => by rw [z, h] at b; cases b)]; exact b) c (x.lock h q)
  | _, _, _, _, .lst a b c, q => .lst (by rw [upd_ne (fun z => by rw [z, h] at a; cases a)]; exact a) b (c.lock h fun z => q (List.mem_cons_of_mem _ z))
  | _, _, _, _, .tup a b c x, q => .tup a (by rw [upd_ne (fun z => by rw [z, h] at b; cases b)]; exact b) c (x.lock h q)
  | _, _, _, _, @Own.dct0 _ _ p ks kds a b c k0 x, q => by
    refine .dct0 a ?_ c k0 (x.lock h q)
    by_cases e : p = d
    · subst e
      rcases b with b | ⟨o', b⟩
      · rw [h] at b; cases b
        exact .inr ⟨od, upd_same⟩
      · rw [h] at b; cases b
    · rcases b with b | ⟨o', b⟩
      · exact .inl (by rw [upd_ne e]; exact b)
      · exact .inr ⟨o', by rw [upd_ne e]; exact b⟩
  | _, _, _, _, .dct a b c x, q => .dct (by rw [upd_ne (fun z => q (by rw [← z]; exact List.mem_cons_self))]; exact a) b c (x.lock h fun z => q (List.mem_cons_of_mem _ z))
theorem Owns.lock (h : H d = some (.dK kvs)) : ∀ {n : Nat} {v : List V} {e : List D} {as : List Addr}, Owns H L n v e as → d ∉ as → Owns (upd H d (.frz od (.dK kvs))) L n v e as
  | _, _, _, _, .nil, _ => .nil
  | _, _, _, _, .cons a b, q => .cons (a.lock h fun z => q (List.mem_append_left _ z)) (b.lock h fun z => q (List.mem_append_right _ z))
end
mutual
theorem Own.unlock (h : H d = some (.frz od (.dK kvs))) : ∀ {n : Nat} {v : V} {e : D} {as : List Addr}, Own H L n v e as → Own (upd H d (.dK kvs)) L n v e as
  | _, _, _, _, .non => .non
  | _, _, _, _, .bl => .bl
  | _, _, _, _, .int => .int
  | _, _, _, _, .str => .str
  | _, _, _, _, .hole => .hole
  | _, _, _, _, .lst0 a b c x => .lst0 a (by rw [upd_ne (fun z => by rw [z, h] at b; cases b)]; exact b) c (x.unlock h)
  | _, _, _, _, .lst a b c => .lst (by rw [upd_ne (fun z => by rw [z, h] at a; cases a)]; exact a) b (c.unlock h)
  | _, _, _, _, .tup a b c x => .tup a (by rw [upd_ne (fun z => by rw [z, h] at b; cases b)]; exact b) c (x.unlock h)
  | _, _, _, _, @Own.dct0 _ _ p ks kds a b c k0 x => by
    refine .dct0 a ?_ c k0 (x.unlock h)
    by_cases e : p = d
    · subst e
      rcases b with b | ⟨o', b⟩
      · rw [h] at b; cases b
      · rw [h] at b; cases b
        exact .inl upd_same
    · rcases b with b | ⟨o', b⟩
      · exact .inl (by rw [upd_ne e]; exact b)
      · exact .inr ⟨o', by rw [upd_ne e]; exact b⟩
  | _, _, _, _, .dct a b c x => .dct (by rw [upd_ne (fun z => by rw [z, h] at a; cases a)]; exact a) b c (x.unlock h)
theorem Owns.unlock (h : H d = some (.frz od (.dK kvs))) : ∀ {n : Nat} {v : List V} {e : List D} {as : List Addr}, Owns H L n v e as → Owns (upd H d (.dK kvs)) L n v e as
  | _, _, _, _, .nil => .nil
  | _, _, _, _, .cons a b => .cons (a.unlock h) (b.unlock h)
end
end

/-! ### what is walked -/
structure Walk (C : Ct) (H : Hp) (L : Addr → Prop) (J : It) (Hs : Hp) (ds : List D) (S : Hp → Prop) (Z : Addr → Prop) : Prop where
  now : S Hs
  reg : ∀ p, Z p → C.nr p ∧ (L p ∨ H p = none)
  there : ∀ H1, S H1 → ∀ p, Z p → H1 p ≠ none
  keep : ∀ H1 H2, S H1 → (∀ p o, Z p → H1 p = some o → H2 p = some o) → S H2
  go : ∀ i H1, S H1 → i < ds.length → J.go i H1 ∧ ∀ x H2, J.yld i H1 x H2 → Ext H1 H2 ∧ ∃ d, ds[i]? = some d ∧ Own H2 (fun p => Z p ∨ (H1 p = none ∧ H2 p ≠ none)) 0 x d []
  stop : ∀ H1, S H1 → J.stop ds.length H1
  size : ds.length ≤ sizeLine
/-- the heap when the walk begins: the dict that is walked may be locked -/
inductive Beg (C : Ct) (H : Hp) : Hp → Prop where
  | free {Hs : Hp} : Fr C H Hs → Beg C H Hs
  | lock {H1 : Hp} {d : Addr} {od : Obj} {kvs : List (Key × V)} : Fr C H H1 → H1 d = some (.dK kvs) → (H d = none ∨ H d = some (.dK kvs)) → C.nr d → Beg C H (upd H1 d (.frz od (.dK kvs)))
def tIVg (P : Hp → Hp → Prop) (C : Ct) (al : List Nat) (f : Slots → M (List D)) : TI := fun σ H R => ∃ (ρ : Slots) (r : Rg) (L : Addr → Prop), EnvE C L al ρ σ H ∧ RngAt C r H ∧ Reg C L H ∧ match f ρ r with
  | .ok ds r' => ∀ J Hs S Z, P H Hs → RngAt C r' Hs → Walk C H L J Hs ds S Z → R J Hs
  | .ex c d r' => WEx C H c d r'
  | .bad => False
abbrev tIV (C : Ct) (al : List Nat) (f : Slots → M (List D)) : TI := tIVg (Beg C) C al f
abbrev tIVf (C : Ct) (al : List Nat) (f : Slots → M (List D)) : TI := tIVg (Fr C) C al f
theorem impPI {X : Cx} {tg e : Expr} {t t' : TI} (h : PI X tg e t) (k : ∀ σ H Q, t' σ H Q → t σ H Q) : PI X tg e t' := ⟨fun pins s σ H Q I q => h.run pins s σ H Q I (k σ H Q q)⟩
theorem orPI {X : Cx} {tg e : Expr} {t t' : TI} (h : PI X tg e t) (h' : PI X tg e t') : PI X tg e (fun σ H Q => t σ H Q ∨ t' σ H Q) := ⟨fun pins s σ H Q I q => q.elim (h.run pins s σ H Q I) (h'.run pins s σ H Q I)⟩

def itemsD : D → Option (List D)
  | .list xs => some xs
  | .tuple xs => if isHole xs = true then none else some xs
  | .dict kds => some (kds.map (·.1))
  | _ => none
def dIt (o : D → Option (List D)) (f : Den) : Slots → M (List D) := fun ρ => M.bind (f ρ) fun d => M.lift (o d)
section
variable {X : Cx} {C : Ct} {n n1 n2 : Nat} {al al' : List Nat} {f g : Den} {a b tg : Expr} {pos p apos cpos : Pos}
/-- from an expression's reading to the walk of its value -/
theorem iv_of {P : Hp → Hp → Prop} {o : D → Option (List D)} {σ : St} {H : Hp} {R : It → Hp → Prop} {Q : V → Hp → Prop} {ρ : Slots} {r : Rg} {L : Addr → Prop} (e : EnvE C L al ρ σ H) (gr : RngAt C r H) (hL : Reg C L H)
    (w : match dIt o f ρ r with
      | .ok ds r' => ∀ J Hs S Z, P H Hs → RngAt C r' Hs → Walk C H L J Hs ds S Z → R J Hs
      | .ex c d r' => WEx C H c d r'
      | .bad => False)
    (k : ∀ d r1 v H1 L1 ds, f ρ r = .ok d r1 → o d = some ds → Fr C H H1 → RngAt C r1 H1 → Own H1 L1 0 v d [] → Reg C L1 H1 → (∀ p, L1 p → L p ∨ H p = none) →
      (∀ J Hs S Z, P H Hs → RngAt C r1 Hs → Walk C H L J Hs ds S Z → R J Hs) → Q v H1) : tEV C n al f σ H Q := by
  refine ⟨ρ, r, L, e, gr, hL, ?_⟩
  unfold dIt M.bind at w
  cases q : f ρ r with
  | ok d r1 =>
    rw [q] at w
    intro v H1 f1 g1 o1
    obtain ⟨L1, k1, k2, k3⟩ := Out.view o1
    unfold M.lift at w
    cases q2 : o d with
    | none => simp only [q2] at w
    | some ds =>
      simp only [q2] at w
      exact k d r1 v H1 L1 ds q q2 f1 g1 k1 k2 k3 w
  | ex c d r1 =>
    rw [q] at w
    exact w
  | bad =>
    rw [q] at w
    exact w.elim
theorem walk_list {H H1 : Hp} {L L1 : Addr → Prop} {K : PySem.W.Frag} {p : Addr} {xs : List D} (k1 : Own H1 L1 0 (.ref p) (.list xs) []) (k2 : Reg C L1 H1) (k3 : ∀ p, L1 p → L p ∨ H p = none) : Walk C H L (Itl K p) H1 xs (fun H2 => Own H2 L1 0 (.ref p) (.list xs) [] ∧ ∀ p, L1 p → H2 p ≠ none) L1 := by
  refine ⟨⟨k1, fun p hp => (k2 p hp).2⟩, fun p hp => ⟨(k2 p hp).1, k3 p hp⟩, fun H2 h p hp => h.2 p hp, fun H2 H3 h k => ⟨h.1.mono (fun _ z => z) fun p o hp e => k p o (hp.elim id nofun) e, fun p hp z => ?_⟩, fun i H2 h hi => ?_, fun H2 h => ?_, ?_⟩
  · cases q : H2 p with
    | none => exact h.2 p hp q
    | some o => rw [k p o hp q] at z; cases z
  · obtain ⟨p', vs, e, a1, a2, a3, a4⟩ := own_list h.1
    cases e
    obtain ⟨v, hv, ov⟩ := a4.get0 (List.getElem?_eq_getElem hi)
    refine ⟨⟨vs, v, SqL.of a2, hv⟩, fun x H3 hy => ?_⟩
    obtain ⟨rfl, hy⟩ := hy
    have := hy vs (SqL.of a2)
    rw [hv] at this; cases this
    exact ⟨Ext.refl, _, List.getElem?_eq_getElem hi, ov.mono (fun _ => .inl) fun _ _ _ e => e⟩
  · obtain ⟨p', vs, e, a1, a2, a3, a4⟩ := own_list h.1
    cases e
    exact ⟨vs, SqL.of a2, Nat.le_of_eq a4.len⟩
  · obtain ⟨p', vs, e, a1, a2, a3, a4⟩ := own_list k1
    exact a3
theorem walk_tup {H H1 : Hp} {xs : List D} (hh : isHole xs = false) {L L1 : Addr → Prop} {K : PySem.W.Frag} {p : Addr} (k1 : Own H1 L1 0 (.ref p) (.tuple xs) []) (k2 : Reg C L1 H1) (k3 : ∀ p, L1 p → L p ∨ H p = none) : Walk C H L (Itt K p) H1 xs (fun H2 => Own H2 L1 0 (.ref p) (.tuple xs) [] ∧ ∀ p, L1 p → H2 p ≠ none) L1 := by
  refine ⟨⟨k1, fun p hp => (k2 p hp).2⟩, fun p hp => ⟨(k2 p hp).1, k3 p hp⟩, fun H2 h p hp => h.2 p hp, fun H2 H3 h k => ⟨h.1.mono (fun _ z => z) fun p o hp e => k p o (hp.elim id nofun) e, fun p hp z => ?_⟩, fun i H2 h hi => ?_, fun H2 h => ?_, ?_⟩
  · cases q : H2 p with
    | none => exact h.2 p hp q
    | some o => rw [k p o hp q] at z; cases z
  · obtain ⟨p', vs, e, a1, a2, a3, a4⟩ := own_tup h.1 hh
    cases e
    obtain ⟨v, hv, ov⟩ := a4.get0 (List.getElem?_eq_getElem hi)
    refine ⟨⟨vs, v, SqT.of a2, hv⟩, fun x H3 hy => ?_⟩
    obtain ⟨rfl, hy⟩ := hy
    have := hy vs (SqT.of a2)
    rw [hv] at this; cases this
    exact ⟨Ext.refl, _, List.getElem?_eq_getElem hi, ov.mono (fun _ => .inl) fun _ _ _ e => e⟩
  · obtain ⟨p', vs, e, a1, a2, a3, a4⟩ := own_tup h.1 hh
    cases e
    exact ⟨vs, SqT.of a2, Nat.le_of_eq a4.len⟩
  · obtain ⟨p', vs, e, a1, a2, a3, a4⟩ := own_tup k1 hh
    exact a3
theorem own_key {H : Hp} {L : Addr → Prop} (k : Key) : Own H L 0 (kV k) (keyD k) [] := by
  cases k with
  | inl i => exact .int
  | inr s => exact .str
/-- the dict at p, locked, as it is read -/
theorem walk_dict {H H1 : Hp} {L L1 : Addr → Prop} {p : Addr} {od : Obj} {kvs : List (Key × V)} {kds : List (D × D)} {J : It} {ds : List D} (k1 : Own H1 L1 0 (.ref p) (.dict kds) []) (k2 : Reg C L1 H1) (k3 : ∀ p, L1 p → L p ∨ H p = none) (hp : H1 p = some (.frz od (.dK kvs))) (hl : ds.length = kds.length)
    (hgo : ∀ i H2, kds.map (·.1) = kvs.map (fun kv => keyD kv.1) → Owns H2 L1 0 (kvs.map (·.2)) (kds.map (·.2)) [] → H2 p = some (.frz od (.dK kvs)) → i < ds.length → J.go i H2 ∧ ∀ x H3, J.yld i H2 x H3 → Ext H2 H3 ∧ ∃ d, ds[i]? = some d ∧ Own H3 (fun p => L1 p ∨ (H2 p = none ∧ H3 p ≠ none)) 0 x d [])
    (hst : ∀ H2, H2 p = some (.frz od (.dK kvs)) → ds.length = kvs.length → J.stop ds.length H2) :
    Walk C H L J H1 ds (fun H2 => Own H2 L1 0 (.ref p) (.dict kds) [] ∧ H2 p = some (.frz od (.dK kvs)) ∧ ∀ p, L1 p → H2 p ≠ none) L1 := by
  have look : ∀ {H2 : Hp}, Own H2 L1 0 (.ref p) (.dict kds) [] → H2 p = some (.frz od (.dK kvs)) → L1 p ∧ kds.length ≤ sizeLine ∧ kds.map (·.1) = kvs.map (fun kv => keyD kv.1) ∧ Owns H2 L1 0 (kvs.map (·.2)) (kds.map (·.2)) [] := fun {H2} h hp => by
    obtain ⟨p', kvs', e, a1, a2, a3, a4, a5⟩ := own_dict h
    cases e
    have : kvs' = kvs := by
      rcases a2 with a2 | ⟨o', a2⟩
      · rw [hp] at a2; cases a2
      · rw [hp] at a2; cases a2; rfl
    subst this
    exact ⟨a1, a3, a4.eq, a5⟩
  refine ⟨⟨k1, hp, fun p hp => (k2 p hp).2⟩, fun p hp => ⟨(k2 p hp).1, k3 p hp⟩, fun H2 h p hp => h.2.2 p hp, fun H2 H3 h k => ⟨h.1.mono (fun _ z => z) fun p o hp e => k p o (hp.elim id nofun) e, k _ _ (look h.1 h.2.1).1 h.2.1, fun p hp z => ?_⟩, fun i H2 h hi => ?_, fun H2 h => ?_, ?_⟩
  · cases q : H2 p with
    | none => exact h.2.2 p hp q
    | some o => rw [k p o hp q] at z; cases z
  · obtain ⟨_, _, a4, a5⟩ := look h.1 h.2.1
    exact hgo i H2 a4 a5 h.2.1 hi
  · obtain ⟨_, _, a4, a5⟩ := look h.1 h.2.1
    have e := congrArg List.length a4
    rw [List.length_map, List.length_map] at e
    exact hst H2 h.2.1 (hl.trans e)
  · obtain ⟨_, a3, _, _⟩ := look k1 hp
    rw [hl]; exact a3
/-- a dict that has come is locked, or is so already -/
theorem lock_it {H H1 : Hp} {L L1 : Addr → Prop} {r1 : Rg} {p : Addr} {kds : List (D × D)} {Q : Hp → Prop} (k1 : Own H1 L1 0 (.ref p) (.dict kds) []) (k2 : Reg C L1 H1) (k3 : ∀ p, L1 p → L p ∨ H p = none) (f1 : Fr C H H1) (g1 : RngAt C r1 H1)
    (hQ : ∀ Hs od kvs, Beg C H Hs → RngAt C r1 Hs → Own Hs L1 0 (.ref p) (.dict kds) [] → Reg C L1 Hs → Hs p = some (.frz od (.dK kvs)) → Q Hs) : LkA H1 Q := by
  obtain ⟨p', kvs, e, a1, a2, a3, a4, a5⟩ := own_dict k1
  cases e
  rcases a2 with a2 | ⟨o', a2⟩
  · refine .inl ⟨p, _, a2, trivial, fun od => ?_⟩
    have hn := (k2 p a1).1
    refine hQ _ od kvs (.lock f1 a2 ?_ hn) ?_ (k1.lock a2 nofun) (fun q hq => ⟨(k2 q hq).1, ?_⟩) upd_same
    · cases q : H p with
      | none => exact .inl rfl
      | some u =>
        have := f1 p u hn q
        rw [a2] at this; cases this
        exact .inr rfl
    · exact rngD hn g1
    · by_cases e : q = p
      · rw [e, upd_same]; exact nofun
      · rw [upd_ne e]; exact (k2 q hq).2
  · exact .inr (hQ _ o' kvs (.free f1) g1 k1 k2 a2)

/-- a list or a tuple is walked -/
def seqD : D → Option (List D)
  | .list xs => some xs
  | .tuple xs => if isHole xs = true then none else some xs
  | _ => none
theorem iv_seq {P : Hp → Hp → Prop} (hP : ∀ {H Hs}, Fr C H Hs → P H Hs) (ha : PE X a (tEV C n al f)) : PI X tg a (tIVg P C al (dIt seqD f)) := by
  refine impPI (orPI (pi_list ha) (pi_tup ha)) fun σ H R ⟨ρ, r, L, e, gr, hL, w⟩ => ?_
  by_cases z : ∃ xs r1, f ρ r = .ok (.list xs) r1
  · obtain ⟨xs, r1, z⟩ := z
    refine .inl (iv_of e gr hL w fun d r1 v H1 L1 ds q1 q2 f1 g1 k1 k2 k3 k => ?_)
    rw [z] at q1; cases q1
    cases q2
    obtain ⟨p, vs, rfl, a1, a2, a3, a4⟩ := own_list k1
    exact ⟨p, rfl, ⟨vs, SqL.of a2⟩, k _ _ _ _ (hP f1) g1 (walk_list k1 k2 k3)⟩
  · refine .inr (iv_of e gr hL w fun d r1 v H1 L1 ds q1 q2 f1 g1 k1 k2 k3 k => ?_)
    cases d with
    | list xs => exact (z ⟨_, _, q1⟩).elim
    | tuple xs =>
      cases hh : isHole xs with
      | true => rw [show seqD (.tuple xs) = none by simp [seqD, hh]] at q2; cases q2
      | false =>
      rw [show seqD (.tuple xs) = some xs by simp [seqD, hh]] at q2
      cases q2
      obtain ⟨p, vs, rfl, a1, a2, a3, a4⟩ := own_tup k1 hh
      exact ⟨p, rfl, ⟨vs, SqT.of a2⟩, k _ _ _ _ (hP f1) g1 (walk_tup hh k1 k2 k3)⟩
    | _ => cases q2
theorem iv_val (ha : PE X a (tEV C n al f)) : PI X tg a (tIV C al (dIt itemsD f)) := by
  refine impPI (orPI (pi_list ha) (orPI (pi_tup ha) (pi_keys (pe_lockA ha)))) fun σ H R ⟨ρ, r, L, e, gr, hL, w⟩ => ?_
  by_cases z : ∃ xs r1, f ρ r = .ok (.list xs) r1
  · obtain ⟨xs, r1, z⟩ := z
    refine .inl (iv_of e gr hL w fun d r1 v H1 L1 ds q1 q2 f1 g1 k1 k2 k3 k => ?_)
    rw [z] at q1; cases q1
    cases q2
    obtain ⟨p, vs, rfl, a1, a2, a3, a4⟩ := own_list k1
    exact ⟨p, rfl, ⟨vs, SqL.of a2⟩, k _ _ _ _ (.free f1) g1 (walk_list k1 k2 k3)⟩
  · refine .inr ?_
    by_cases z2 : ∃ xs r1, f ρ r = .ok (.tuple xs) r1
    · obtain ⟨xs, r1, z2⟩ := z2
      refine .inl (iv_of e gr hL w fun d r1 v H1 L1 ds q1 q2 f1 g1 k1 k2 k3 k => ?_)
      rw [z2] at q1; cases q1
      cases hh : isHole xs with
      | true => rw [show itemsD (.tuple xs) = none by simp [itemsD, hh]] at q2; cases q2
      | false =>
      rw [show itemsD (.tuple xs) = some xs by simp [itemsD, hh]] at q2
      cases q2
      obtain ⟨p, vs, rfl, a1, a2, a3, a4⟩ := own_tup k1 hh
      exact ⟨p, rfl, ⟨vs, SqT.of a2⟩, k _ _ _ _ (.free f1) g1 (walk_tup hh k1 k2 k3)⟩
    · refine .inr (iv_of e gr hL w fun d r1 v H1 L1 ds q1 q2 f1 g1 k1 k2 k3 k => ?_)
      cases d with
      | list xs => exact (z ⟨_, _, q1⟩).elim
      | tuple xs => exact (z2 ⟨_, _, q1⟩).elim
      | dict kds =>
        cases q2
        obtain ⟨p, kvs0, rfl, _⟩ := own_dict k1
        refine lock_it k1 k2 k3 f1 g1 fun Hs od kvs bg gs ks kr hp => ?_
        refine ⟨p, od, rfl, .inl ⟨kvs, hp, k _ _ _ _ bg gs (walk_dict ks kr k3 hp (by rw [List.length_map]) (fun i H2 a4 a5 hp2 hi => ?_) fun H2 hp2 hl => ⟨hp2, Nat.le_of_eq hl.symm⟩)⟩⟩
        rw [List.length_map] at hi
        have hk : i < kvs.length := by
          have := congrArg List.length a4
          rw [List.length_map, List.length_map] at this
          omega
        refine ⟨⟨hp2, hk⟩, fun x H3 hy => ?_⟩
        obtain ⟨rfl, kk, v, h1, rfl⟩ := hy
        refine ⟨Ext.refl, keyD kk, ?_, own_key kk⟩
        rw [a4, List.getElem?_map, h1]
        rfl
      | _ => cases q2
def oVals : D → Option (List D)
  | .dict kds => some (kds.map (·.2))
  | _ => none
def oItems : D → Option (List D)
  | .dict kds => some (kds.map fun kd => .tuple [kd.1, kd.2])
  | _ => none
theorem iv_values (ha : PE X a (tEV C n al f)) (hbase : attributeBase a "values" X.env (eval a X.env) = eval a X.env := by rfl) (hline : (apos.endLine == cpos.line) = true := by rfl) : PI X tg (.Call (.Attribute a "values" apos) [] [] cpos) (tIV C al (dIt oVals f)) := by
  refine impPI (pi_values (pe_lockA ha) hbase hline) fun σ H R ⟨ρ, r, L, e, gr, hL, w⟩ => ?_
  refine (iv_of e gr hL w fun d r1 v H1 L1 ds q1 q2 f1 g1 k1 k2 k3 k => ?_)
  cases d with
  | dict kds =>
    cases q2
    obtain ⟨p, kvs0, rfl, _⟩ := own_dict k1
    refine lock_it k1 k2 k3 f1 g1 fun Hs od kvs bg gs ks kr hp => ?_
    refine ⟨p, od, kvs, rfl, hp, k _ _ _ _ bg gs (walk_dict ks kr k3 hp (by rw [List.length_map]) (fun i H2 a4 a5 hp2 hi => ?_) fun H2 hp2 hl => ⟨hp2, Nat.le_of_eq hl.symm⟩)⟩
    rw [List.length_map] at hi
    have hk : i < kvs.length := by
      have := congrArg List.length a4
      rw [List.length_map, List.length_map] at this
      omega
    refine ⟨⟨hp2, hk⟩, fun x H3 hy => ?_⟩
    obtain ⟨rfl, kk, h1⟩ := hy
    obtain ⟨d, hd, od⟩ := a5.get0v (i := i) (v := x) (by rw [List.getElem?_map, h1]; rfl)
    exact ⟨Ext.refl, d, hd, od.mono (fun _ => .inl) fun _ _ _ e => e⟩
  | _ => cases q2
theorem iv_items {elts : List Expr} {kk : Nat} {tpos : Pos} (ha : PE X a (tEV C n al f)) (hbase : attributeBase a "items" X.env (eval a X.env) = eval a X.env := by rfl) (hline : (apos.endLine == cpos.line) = true := by rfl) : PI X (.Tuple elts kk tpos) (.Call (.Attribute a "items" apos) [] [] cpos) (tIV C al (dIt oItems f)) := by
  refine impPI (pi_items (pe_lockA ha) hbase hline) fun σ H R ⟨ρ, r, L, e, gr, hL, w⟩ => ?_
  refine (iv_of e gr hL w fun d r1 v H1 L1 ds q1 q2 f1 g1 k1 k2 k3 k => ?_)
  cases d with
  | dict kds =>
    cases q2
    obtain ⟨p, kvs0, rfl, _⟩ := own_dict k1
    refine lock_it k1 k2 k3 f1 g1 fun Hs od kvs bg gs ks kr hp => ?_
    refine ⟨p, od, kvs, rfl, hp, k _ _ _ _ bg gs (walk_dict ks kr k3 hp (by rw [List.length_map]) (fun i H2 a4 a5 hp2 hi => ?_) fun H2 hp2 hl => ⟨hp2, Nat.le_of_eq hl.symm⟩)⟩
    rw [List.length_map] at hi
    have hk : i < kvs.length := by
      have := congrArg List.length a4
      rw [List.length_map, List.length_map] at this
      omega
    refine ⟨⟨hp2, hk⟩, fun x H3 hy => ?_⟩
    obtain ⟨T, kk, v, h1, rfl, hT, rfl⟩ := hy
    obtain ⟨d, hd, od⟩ := a5.get0v (i := i) (v := v) (by rw [List.getElem?_map, h1]; rfl)
    have x := Ext.new (o := .tup [kV kk, v]) hT
    have kd : (kds[i]?) = some (keyD kk, d) := by
      have e1 : (kds.map (·.1))[i]? = some (keyD kk) := by rw [a4, List.getElem?_map, h1]; rfl
      rw [List.getElem?_map] at e1 hd
      cases q : kds[i]? with
      | none => rw [q] at e1; cases e1
      | some y =>
        rw [q] at e1 hd
        obtain ⟨y1, y2⟩ := y
        cases e1; cases hd; rfl
    refine ⟨x, .tuple [keyD kk, d], by rw [List.getElem?_map, kd]; rfl, .tup (.inr ⟨hT, by rw [upd_same]; exact nofun⟩) upd_same (by show 2 ≤ sizeLine; rw [sizeLine_eq]; decide) ?_⟩
    exact .cons0 (own_key kk) (.cons0 ((od.mono (fun _ => .inl) fun p u _ e => x p u e)) .nil)
  | _ => cases q2
end
end DL

/-! DLg: ranges, enumerate, zip; targets; list and dict comprehensions. -/
namespace DL
open PySem L2

/-! ### range, enumerate, zip -/
def rangeD (lo : Int) (n : Nat) : List D := (List.range n).map fun i => .int (lo + (i : Nat))
def rangeC (lo c : Int) (n : Nat) : List D := (List.range n).map fun i => .int (lo + (i : Nat) * c)
def oRange1 : List D → Option (List D)
  | [.int j] => if j.toNat ≤ sizeLine ∧ -(2 ^ 62) ≤ j then some (rangeD 0 j.toNat) else none
  | _ => none
def oRange2 : List D → Option (List D)
  | [.int i, .int j] => if (j - i).toNat ≤ sizeLine ∧ (-(2 ^ 62) ≤ i ∧ i < 2 ^ 62 ∧ -(2 ^ 62) ≤ j ∧ j < 2 ^ 62) then some (rangeD i (j - i).toNat) else none
  | _ => none
/-- range(a, b, -1) -/
def oRangeN : List D → Option (List D)
  | [.int i, .int j, .int c] => if c = -1 ∧ (i - j).toNat ≤ sizeLine ∧ (-(2 ^ 61) ≤ i ∧ i < 2 ^ 61 ∧ -(2 ^ 61) ≤ j ∧ j < 2 ^ 61) then some (rangeC i (-1) (i - j).toNat) else none
  | _ => none
def oEnum : List D → Option (List D)
  | [.list xs] => some (xs.zipIdx.map fun p => .tuple [.int (p.2 : Nat), p.1])
  | _ => none
def oZip : List D → Option (List D)
  | [.list xs, .list ys] => some ((xs.zip ys).map fun p => .tuple [p.1, p.2])
  | _ => none
def dIts (o : List D → Option (List D)) (fs : Slots → M (List D)) : Slots → M (List D) := fun ρ => M.bind (fs ρ) fun ds => M.lift (o ds)
section
variable {X : Cx} {C : Ct} {n n1 n2 : Nat} {al al' : List Nat} {f g : Den} {a b c tg : Expr} {pos p apos cpos : Pos} {fs : Slots → M (List D)}
theorem iv_ofs {P : Hp → Hp → Prop} {o : List D → Option (List D)} {σ : St} {H : Hp} {R : It → Hp → Prop} {Q : List V → Hp → Prop} {ρ : Slots} {r : Rg} {L : Addr → Prop} (e : EnvE C L al ρ σ H) (gr : RngAt C r H) (hL : Reg C L H)
    (w : match dIts o fs ρ r with
      | .ok ds r' => ∀ J Hs S Z, P H Hs → RngAt C r' Hs → Walk C H L J Hs ds S Z → R J Hs
      | .ex c d r' => WEx C H c d r'
      | .bad => False)
    (k : ∀ d r1 v H1 L1 ds, o d = some ds → Fr C H H1 → RngAt C r1 H1 → Owns H1 L1 0 v d [] → Reg C L1 H1 → (∀ p, L1 p → L p ∨ H p = none) →
      (∀ J Hs S Z, P H Hs → RngAt C r1 Hs → Walk C H L J Hs ds S Z → R J Hs) → Q v H1) : tES C n al fs σ H Q := by
  refine ⟨ρ, r, L, e, gr, hL, ?_⟩
  unfold dIts M.bind at w
  cases q : fs ρ r with
  | ok d r1 =>
    rw [q] at w
    intro v H1 f1 g1 o1
    obtain ⟨L1, k1, k2, k3⟩ := Outs.view o1
    unfold M.lift at w
    cases q2 : o d with
    | none => simp only [q2] at w
    | some ds =>
      simp only [q2] at w
      exact k d r1 v H1 L1 ds q2 f1 g1 k1 k2 k3 w
  | ex c d r1 =>
    rw [q] at w
    exact w
  | bad =>
    rw [q] at w
    exact w.elim
theorem iv_ofs0 {P : Hp → Hp → Prop} {o : List D → Option (List D)} {σ : St} {H : Hp} {R : It → Hp → Prop} {Q : List V → Hp → Prop} {ρ : Slots} {r : Rg} {L : Addr → Prop} {al0 : List Nat} (e : EnvE C L al0 ρ σ H) (gr : RngAt C r H) (hL : Reg C L H)
    (w : match dIts o fs ρ r with
      | .ok ds r' => ∀ J Hs S Z, P H Hs → RngAt C r' Hs → Walk C H L J Hs ds S Z → R J Hs
      | .ex c d r' => WEx C H c d r'
      | .bad => False)
    (k : ∀ d r1 v H1 L1 ds, o d = some ds → Fr C H H1 → RngAt C r1 H1 → Owns H1 L1 0 v d [] → Reg C L1 H1 →
      (∀ J Hs S Z, P H Hs → RngAt C r1 Hs → Walk C H L J Hs ds S Z → R J Hs) → Q v H1) : tES C n al fs σ H Q := by
  refine ⟨ρ, r, full C H, e.full, gr, Reg.full, ?_⟩
  unfold dIts M.bind at w
  cases q : fs ρ r with
  | ok d r1 =>
    rw [q] at w
    intro v H1 f1 g1 o1
    obtain ⟨L1, k1, k2, k3⟩ := Outs.view o1
    unfold M.lift at w
    cases q2 : o d with
    | none => simp only [q2] at w
    | some ds =>
      simp only [q2] at w
      exact k d r1 v H1 L1 ds q2 f1 g1 k1 k2 w
  | ex c d r1 =>
    rw [q] at w
    exact w
  | bad =>
    rw [q] at w
    exact w.elim
theorem walk_range {H H1 : Hp} {L : Addr → Prop} {lo : Int} {n : Nat} (hn : n ≤ sizeLine) : Walk C H L (Itr lo n) H1 (rangeD lo n) (fun _ => True) (fun _ => False) := by
  have hl : (rangeD lo n).length = n := by unfold rangeD; rw [List.length_map, List.length_range]
  refine ⟨trivial, fun _ z => z.elim, fun _ _ _ z => z.elim, fun _ _ _ _ => trivial, fun i H2 _ hi => ⟨by rw [hl] at hi; exact hi, fun x H3 hy => ?_⟩, fun H2 _ => by rw [hl]; exact Nat.le_refl _, by rw [hl]; exact hn⟩
  obtain ⟨rfl, rfl⟩ := hy
  rw [hl] at hi
  refine ⟨Ext.refl, .int (lo + i), ?_, .int⟩
  unfold rangeD
  rw [List.getElem?_map, List.getElem?_range hi]
  rfl
theorem walk_rangeC {H H1 : Hp} {L : Addr → Prop} {lo c : Int} {n : Nat} (hn : n ≤ sizeLine) : Walk C H L (Itc lo c n) H1 (rangeC lo c n) (fun _ => True) (fun _ => False) := by
  have hl : (rangeC lo c n).length = n := by unfold rangeC; rw [List.length_map, List.length_range]
  refine ⟨trivial, fun _ z => z.elim, fun _ _ _ z => z.elim, fun _ _ _ _ => trivial, fun i H2 _ hi => ⟨by rw [hl] at hi; exact hi, fun x H3 hy => ?_⟩, fun H2 _ => by rw [hl]; exact Nat.le_refl _, by rw [hl]; exact hn⟩
  obtain ⟨rfl, rfl⟩ := hy
  rw [hl] at hi
  refine ⟨Ext.refl, .int (lo + i * c), ?_, .int⟩
  unfold rangeC
  rw [List.getElem?_map, List.getElem?_range hi]
  rfl
theorem owns1 {H : Hp} {L : Addr → Prop} {vs : List V} {d : D} (h : Owns H L 0 vs [d] []) : ∃ v, vs = [v] ∧ Own H L 0 v d [] := by
  have e := h.len
  obtain ⟨v, h1, h2⟩ := h.get0 (i := 0) (d := d) rfl
  match vs, e with
  | [u], _ => cases h1; exact ⟨_, rfl, h2⟩
theorem owns2 {H : Hp} {L : Addr → Prop} {vs : List V} {d e : D} (h : Owns H L 0 vs [d, e] []) : ∃ v u, vs = [v, u] ∧ Own H L 0 v d [] ∧ Own H L 0 u e [] := by
  have el := h.len
  obtain ⟨v, h1, h2⟩ := h.get0 (i := 0) (d := d) rfl
  obtain ⟨u, h3, h4⟩ := h.get0 (i := 1) (d := e) rfl
  match vs, el with
  | [_, _], _ => cases h1; cases h3; exact ⟨_, _, rfl, h2, h4⟩
theorem owns3 {H : Hp} {L : Addr → Prop} {vs : List V} {d e e' : D} (h : Owns H L 0 vs [d, e, e'] []) : ∃ v u w, vs = [v, u, w] ∧ Own H L 0 v d [] ∧ Own H L 0 u e [] ∧ Own H L 0 w e' [] := by
  have el := h.len
  obtain ⟨v, h1, h2⟩ := h.get0 (i := 0) (d := d) rfl
  obtain ⟨u, h3, h4⟩ := h.get0 (i := 1) (d := e) rfl
  obtain ⟨w, h5, h6⟩ := h.get0 (i := 2) (d := e') rfl
  match vs, el with
  | [_, _, _], _ => cases h1; cases h3; cases h5; exact ⟨_, _, _, rfl, h2, h4, h6⟩
theorem line62 : (sizeLine : Int) < 2 ^ 62 := by rw [sizeLine_eq]; decide
theorem iv_range1 {P : Hp → Hp → Prop} (hP : ∀ {H Hs}, Fr C H Hs → P H Hs) (hg : Gl X "range") (hm : X.mg "range" = none) (ha : PA X [a] (tES C n al fs)) (hs : starEach [a] X.env = [(false, eval a X.env)] := by rfl) : PI X tg (.Call (.Name "range" p) [a] [] pos) (tIVg P C [] (dIts oRange1 fs)) := by
  refine impPI (pi_range1 hg hm ha hs) fun σ H R ⟨ρ, r, L, e, gr, hL, w⟩ => ?_
  refine iv_ofs0 e gr hL w fun d r1 v H1 L1 ds q2 f1 g1 k1 k2 k => ?_
  unfold oRange1 at q2
  split at q2
  · split at q2
    · rename_i j z
      cases q2
      obtain ⟨v, rfl, h⟩ := owns1 k1
      have := line62
      exact ⟨j, by rw [own_int h], z.2, by omega, k _ _ _ _ (hP f1) g1 (walk_range z.1)⟩
    · cases q2
  · cases q2
theorem iv_range2 {P : Hp → Hp → Prop} (hP : ∀ {H Hs}, Fr C H Hs → P H Hs) (hg : Gl X "range") (hm : X.mg "range" = none) (ha : PA X [a, b] (tES C n al fs)) (hs : starEach [a, b] X.env = [(false, eval a X.env), (false, eval b X.env)] := by rfl) (hs2 : starEach [b] X.env = [(false, eval b X.env)] := by rfl) : PI X tg (.Call (.Name "range" p) [a, b] [] pos) (tIVg P C [] (dIts oRange2 fs)) := by
  refine impPI (pi_range2 hg hm ha hs hs2) fun σ H R ⟨ρ, r, L, e, gr, hL, w⟩ => ?_
  refine iv_ofs0 e gr hL w fun d r1 v H1 L1 ds q2 f1 g1 k1 k2 k => ?_
  unfold oRange2 at q2
  split at q2
  · split at q2
    · rename_i i j z
      cases q2
      obtain ⟨v, u, rfl, h, h'⟩ := owns2 k1
      exact ⟨i, j, by rw [own_int h, own_int h'], z.2, k _ _ _ _ (hP f1) g1 (walk_range z.1)⟩
    · cases q2
  · cases q2
theorem iv_rangeN {P : Hp → Hp → Prop} (hP : ∀ {H Hs}, Fr C H Hs → P H Hs) (hg : Gl X "range") (hm : X.mg "range" = none) (ha : PA X [a, b, c] (tES C n al fs)) (hs : starEach [a, b, c] X.env = (false, eval a X.env) :: starEach [b, c] X.env := by rfl) (hpl : (backTo pos (starEach [b, c] X.env)).any (·.1) = false := by rfl) : PI X tg (.Call (.Name "range" p) [a, b, c] [] pos) (tIVg P C [] (dIts oRangeN fs)) := by
  refine impPI (pi_range3 hg hm ha hs hpl) fun σ H R ⟨ρ, r, L, e, gr, hL, w⟩ => ?_
  refine iv_ofs0 e gr hL w fun d r1 v H1 L1 ds q2 f1 g1 k1 k2 k => ?_
  unfold oRangeN at q2
  split at q2
  · split at q2
    · rename_i i j c z
      cases q2
      obtain ⟨v, u, t, rfl, h, h', h''⟩ := owns3 k1
      obtain ⟨rfl, z1, z2⟩ := z
      exact ⟨i, j, -1, (i - j).toNat, by rw [own_int h, own_int h', own_int h''], RgC.neg (by omega) (by omega) (by omega) (by omega), k _ _ _ _ (hP f1) g1 (walk_rangeC z1)⟩
    · cases q2
  · cases q2
theorem iv_enum {P : Hp → Hp → Prop} (hP : ∀ {H Hs}, Fr C H Hs → P H Hs) {elts : List Expr} {kk : Nat} {tpos : Pos} (hg : Gl X "enumerate") (hm : X.mg "enumerate" = none) (ha : PA X [a] (tES C n al fs)) (hs : starEach [a] X.env = [(false, eval a X.env)] := by rfl) : PI X (.Tuple elts kk tpos) (.Call (.Name "enumerate" p) [a] [] pos) (tIVg P C al (dIts oEnum fs)) := by
  refine impPI (pi_enum hg hm ha hs) fun σ H R ⟨ρ, r, L, e, gr, hL, w⟩ => ?_
  refine iv_ofs e gr hL w fun d r1 v H1 L1 ds q2 f1 g1 k1 k2 k3 k => ?_
  unfold oEnum at q2
  split at q2
  · rename_i xs
    cases q2
    obtain ⟨v, rfl, h⟩ := owns1 k1
    obtain ⟨p, vs, rfl, a1, a2, a3, a4⟩ := own_list h
    refine ⟨p, vs, rfl, SqL.of a2, k _ _ _ _ (hP f1) g1 ⟨(walk_list (C := C) (H := H) (L := L) (K := X.K) h k2 k3).now, fun q hq => ⟨(k2 q hq).1, k3 q hq⟩, fun H2 h q hq => h.2 q hq, (walk_list (C := C) (H := H) (L := L) (K := X.K) h k2 k3).keep, fun i H2 h hi => ?_, fun H2 h => ?_, ?_⟩⟩
    · rw [List.length_map, List.length_zipIdx] at hi
      obtain ⟨p', vs', e', b1, b2, b3, b4⟩ := own_list h.1
      cases e'
      obtain ⟨y, hy, oy⟩ := b4.get0 (List.getElem?_eq_getElem hi)
      refine ⟨⟨vs', y, SqL.of b2, hy⟩, fun x H3 q => ?_⟩
      obtain ⟨T, z, rfl, hT, rfl, hz⟩ := q
      have := hz vs' (SqL.of b2)
      rw [hy] at this; cases this
      have x := Ext.new (o := .tup [.int (i : Nat), y]) hT
      refine ⟨x, .tuple [.int (i : Nat), xs[i]], ?_, .tup (.inr ⟨hT, by rw [upd_same]; exact nofun⟩) upd_same (by show 2 ≤ sizeLine; rw [sizeLine_eq]; decide) (.cons0 .int (.cons0 (oy.mono (fun _ => .inl) fun p u _ e => x p u e) .nil))⟩
      rw [List.getElem?_map, List.getElem?_zipIdx, List.getElem?_eq_getElem hi]
      simp
    · obtain ⟨p', vs', e', b1, b2, b3, b4⟩ := own_list h.1
      cases e'
      exact ⟨vs', SqL.of b2, by rw [List.length_map, List.length_zipIdx, b4.len]; exact Nat.le_refl _⟩
    · rw [List.length_map, List.length_zipIdx]; exact a3
  · cases q2
theorem iv_zip {P : Hp → Hp → Prop} (hP : ∀ {H Hs}, Fr C H Hs → P H Hs) {elts : List Expr} {kk : Nat} {tpos : Pos} (hg : Gl X "zip") (hm : X.mg "zip" = none) (ha : PA X [a, b] (tES C n al fs)) (hs : starEach [a, b] X.env = (false, eval a X.env) :: starEach [b] X.env := by rfl) (hpl : (backTo pos (starEach [b] X.env)).any (·.1) = false := by rfl) : PI X (.Tuple elts kk tpos) (.Call (.Name "zip" p) [a, b] [] pos) (tIVg P C al (dIts oZip fs)) := by
  refine impPI (pi_zip hg hm ha hs hpl) fun σ H R ⟨ρ, r, L, e, gr, hL, w⟩ => ?_
  refine iv_ofs e gr hL w fun d r1 v H1 L1 ds q2 f1 g1 k1 k2 k3 k => ?_
  unfold oZip at q2
  split at q2
  · rename_i xs ys
    cases q2
    obtain ⟨v, u, rfl, h, h'⟩ := owns2 k1
    obtain ⟨p, vs, rfl, a1, a2, a3, a4⟩ := own_list h
    obtain ⟨p', vs', rfl, a1', a2', a3', a4'⟩ := own_list h'
    have w1 := walk_list (C := C) (H := H) (L := L) (K := X.K) h k2 k3
    have w2 := walk_list (C := C) (H := H) (L := L) (K := X.K) h' k2 k3
    refine ⟨p, p', vs, vs', rfl, SqL.of a2, SqL.of a2', k _ _ (fun H2 => (Own H2 L1 0 (.ref p) (.list xs) [] ∧ ∀ p, L1 p → H2 p ≠ none) ∧ (Own H2 L1 0 (.ref p') (.list ys) [] ∧ ∀ p, L1 p → H2 p ≠ none)) L1 (hP f1) g1
      ⟨⟨w1.now, w2.now⟩, fun q hq => ⟨(k2 q hq).1, k3 q hq⟩, fun H2 h q hq => h.1.2 q hq, fun H2 H3 h k => ⟨w1.keep _ _ h.1 k, w2.keep _ _ h.2 k⟩, fun i H2 h hi => ?_, fun H2 h => ?_, ?_⟩⟩
    · rw [List.length_map, List.length_zip] at hi
      have i1 : i < xs.length := by omega
      have i2 : i < ys.length := by omega
      obtain ⟨q, ws, e', b1, b2, b3, b4⟩ := own_list h.1.1
      cases e'
      obtain ⟨q', ws', e', b1', b2', b3', b4'⟩ := own_list h.2.1
      cases e'
      obtain ⟨y, hy, oy⟩ := b4.get0 (List.getElem?_eq_getElem i1)
      obtain ⟨y', hy', oy'⟩ := b4'.get0 (List.getElem?_eq_getElem i2)
      refine ⟨⟨ws, ws', y, y', SqL.of b2, SqL.of b2', hy, hy'⟩, fun x H3 q => ?_⟩
      obtain ⟨T, z, z', rfl, hT, rfl, hz, hz'⟩ := q
      have := hz ws (SqL.of b2)
      rw [hy] at this; cases this
      have := hz' ws' (SqL.of b2')
      rw [hy'] at this; cases this
      have x := Ext.new (o := .tup [y, y']) hT
      refine ⟨x, .tuple [xs[i], ys[i]], ?_, .tup (.inr ⟨hT, by rw [upd_same]; exact nofun⟩) upd_same (by show 2 ≤ sizeLine; rw [sizeLine_eq]; decide) (.cons0 (oy.mono (fun _ => .inl) fun p u _ e => x p u e) (.cons0 (oy'.mono (fun _ => .inl) fun p u _ e => x p u e) .nil))⟩
      rw [List.getElem?_map]
      have : (xs.zip ys)[i]? = some (xs[i], ys[i]) := by
        rw [List.getElem?_eq_getElem (by rw [List.length_zip]; omega)]
        simp
      rw [this]
      rfl
    · obtain ⟨q, ws, e', b1, b2, b3, b4⟩ := own_list h.1.1
      cases e'
      obtain ⟨q', ws', e', b1', b2', b3', b4'⟩ := own_list h.2.1
      cases e'
      refine ⟨ws, ws', SqL.of b2, SqL.of b2', ?_⟩
      rw [List.length_map, List.length_zip, b4.len, b4'.len]
      omega
    · rw [List.length_map, List.length_zip]; omega
  · cases q2
end

/-! ### targets -/
def setS (ρ : Slots) (i : Nat) (d : D) : Slots := ρ.set i (some d)
def gtName (i : Nat) : D → Slots → Option Slots := fun d ρ => some (setS ρ i d)
def gtTup2 (i j : Nat) : D → Slots → Option Slots := fun d ρ => match d with
  | .tuple [a, b] => some (setS (setS ρ i a) j b)
  | _ => none
def gtTup3 (i j k : Nat) : D → Slots → Option Slots := fun d ρ => match d with
  | .tuple [a, b, c] => some (setS (setS (setS ρ i a) j b) k c)
  | _ => none
/-- as EnvE, but for the slots os -/
structure EnvO (C : Ct) (L : Addr → Prop) (al os : List Nat) (ρ : Slots) (σ : St) (H : Hp) : Prop where
  slot : ∀ i d, i ∉ os → ρ[i]? = some (some d) → ∃ v, σ[i]? = some (some v) ∧ Own H (fun p => C.nr p ∧ H p ≠ none) 0 v d [] ∧ (i ∈ al → Own H L 0 v d [])
  rng : ∀ j a, C.pn j = some a → σ[j]? = some (some (.ref a))
  len : ρ.length = σ.length
theorem EnvO.env {C : Ct} {L : Addr → Prop} {al : List Nat} {ρ : Slots} {σ : St} {H : Hp} (e : EnvO C L al [] ρ σ H) : EnvE C L al ρ σ H := ⟨fun i d h => e.slot i d nofun h, e.rng, e.len⟩
theorem EnvE.o {C : Ct} {L : Addr → Prop} {al : List Nat} {ρ : Slots} {σ : St} {H : Hp} (e : EnvE C L al ρ σ H) : EnvO C L al [] ρ σ H := ⟨fun i d _ h => e.slot i d h, e.rng, e.len⟩
theorem EnvO.set {C : Ct} {L L' M : Addr → Prop} {al os : List Nat} {ρ : Slots} {σ : St} {H : Hp} {i : Nat} {v : V} {d : D} (e : EnvO C L al (i :: os) ρ σ H) (hrs : C.pn i = none) (hL : ∀ p, L p → L' p) (hM : ∀ p, M p → L' p ∧ C.nr p ∧ H p ≠ none) (o : Own H M 0 v d []) :
    EnvO C L' (i :: al) os (setS ρ i d) (σ.set i (some v)) H := by
  refine ⟨fun j d' hj0 h => ?_, fun jr a hjr => ?_, by unfold setS; rw [List.length_set, List.length_set]; exact e.len⟩
  · unfold setS at h
    by_cases hj : j = i
    · subst hj
      by_cases hr : j < ρ.length
      · rw [List.getElem?_set_self hr] at h
        cases h
        exact ⟨v, List.getElem?_set_self (by rw [← e.len]; exact hr), o.mono (fun p hp => (hM p hp).2) fun _ _ _ e => e, fun _ => o.mono (fun p hp => (hM p hp).1) fun _ _ _ e => e⟩
      · rw [List.getElem?_eq_none (by simpa using hr)] at h; cases h
    · rw [List.getElem?_set_ne (Ne.symm hj)] at h
      obtain ⟨u, h1, h2, h3⟩ := e.slot j d' (fun z => (List.mem_cons.mp z).elim hj hj0) h
      refine ⟨u, by rw [List.getElem?_set_ne (Ne.symm hj)]; exact h1, h2, fun z => (h3 ?_).mono hL fun _ _ _ e => e⟩
      rcases List.mem_cons.mp z with z | z
      · exact (hj z).elim
      · exact z
  · rw [List.getElem?_set_ne (fun z => by rw [← z, hrs] at hjr; cases hjr)]
    exact e.rng jr a hjr
/-- a target and what it does to the slots -/
structure TgOk (C : Ct) (K : PySem.W.Frag) (g : TG) (gt : D → Slots → Option Slots) (os : List Nat) : Prop where
  run : ∀ {L M : Addr → Prop} {al rest : List Nat} {ρ ρ' : Slots} {σ : St} {H : Hp} {v : V} {d : D} {Q : St → Hp → Prop}, EnvO C L al (os ++ rest) ρ σ H → (∀ p, M p → C.nr p ∧ H p ≠ none) → Own H M 0 v d [] → gt d ρ = some ρ' →
    (∀ σ', EnvO C (fun p => L p ∨ M p) (os ++ al) rest ρ' σ' H → (∀ j, j ∉ os → σ'[j]? = σ[j]?) → σ'.length = σ.length → Q σ' H) → g v σ H Q
/-! how a target is told: the things that are stored, and where -/
def setsD (ρ : Slots) : List Nat → List D → Slots
  | i :: os, d :: ds => setsD (setS ρ i d) os ds
  | _, _ => ρ
def setsV (σ : St) : List Nat → List V → St
  | i :: os, v :: vs => setsV (σ.set i (some v)) os vs
  | _, _ => σ
structure TgS (K : PySem.W.Frag) (g : TG) (fl : D → Option (List D)) (os : List Nat) : Prop where
  run : ∀ {M : Addr → Prop} {H : Hp} {v : V} {d : D} {ds : List D} {σ : St} {Q : St → Hp → Prop}, Own H M 0 v d [] → fl d = some ds → (∀ vs, Owns H M 0 vs ds [] → ds.length = os.length → Q (setsV σ os vs) H) → g v σ H Q
def gtT (fl : D → Option (List D)) (os : List Nat) : D → Slots → Option Slots := fun d ρ => (fl d).map (setsD ρ os)
def fl1 : D → Option (List D) := fun d => some [d]
def fl2 : D → Option (List D)
  | .tuple [a, b] => some [a, b]
  | .list [a, b] => some [a, b]
  | _ => none
def fl3 : D → Option (List D)
  | .tuple [a, b, c] => some [a, b, c]
  | .list [a, b, c] => some [a, b, c]
  | _ => none
/-- (i, (a, b)) -/
def fl12 : D → Option (List D)
  | .tuple [a, .tuple [b, c]] => some [a, b, c]
  | _ => none
theorem setsV_len : ∀ {os : List Nat} {vs : List V} {σ : St}, (setsV σ os vs).length = σ.length
  | [], _, _ => rfl
  | _ :: _, [], _ => rfl
  | i :: os, v :: vs, σ => by
    show (setsV (σ.set i (some v)) os vs).length = _
    rw [setsV_len, List.length_set]
theorem setsV_ne : ∀ {os : List Nat} {vs : List V} {σ : St} {j : Nat}, j ∉ os → (setsV σ os vs)[j]? = σ[j]?
  | [], _, _, _, _ => rfl
  | _ :: _, [], _, _, _ => rfl
  | i :: os, v :: vs, σ, j, h => by
    show (setsV (σ.set i (some v)) os vs)[j]? = _
    rw [setsV_ne (fun z => h (List.mem_cons_of_mem _ z)), List.getElem?_set_ne (fun z => h (by rw [z]; exact List.mem_cons_self))]
theorem EnvO.sets {C : Ct} {L M : Addr → Prop} {H : Hp} (hM : ∀ p, M p → C.nr p ∧ H p ≠ none) : ∀ {os rest al : List Nat} {ρ : Slots} {σ : St} {vs : List V} {ds : List D}, (∀ z' ∈ os, C.pn z' = none) → EnvO C (fun p => L p ∨ M p) al (os ++ rest) ρ σ H → Owns H M 0 vs ds [] → ds.length = os.length →
    EnvO C (fun p => L p ∨ M p) (os ++ al) rest (setsD ρ os ds) (setsV σ os vs) H := by
  intro os
  induction os with
  | nil =>
    intro rest al ρ σ vs ds hrs e o hl
    exact ⟨fun i d h1 h2 => e.slot i d h1 h2, e.rng, e.len⟩
  | cons i os ih =>
    intro rest al ρ σ vs ds hrs e o hl
    cases ds with
    | nil => cases hl
    | cons d ds =>
      obtain ⟨v, h1, h2⟩ := o.get0 (i := 0) (d := d) rfl
      cases vs with
      | nil => cases h1
      | cons v' vs =>
        cases h1
        have ot : Owns H M 0 vs ds [] := by
          generalize hz : ([] : List Addr) = zz at o
          cases o with
          | cons a b =>
            obtain ⟨h1, h2⟩ := List.append_eq_nil_iff.mp hz.symm
            subst h1 h2
            exact b
        have e1 := EnvO.set (L' := fun p => L p ∨ M p) e (hrs i List.mem_cons_self) (fun _ h => h) (fun p hp => ⟨.inr hp, hM p hp⟩) h2
        have e2 := ih (fun j hj => hrs j (List.mem_cons_of_mem _ hj)) e1 ot (Nat.succ.inj hl)
        refine ⟨fun j d' h1 h2 => ?_, e2.rng, e2.len⟩
        obtain ⟨u, k1, k2, k3⟩ := e2.slot j d' h1 h2
        refine ⟨u, k1, k2, fun z => k3 ?_⟩
        simp only [List.cons_append, List.mem_cons, List.mem_append] at z ⊢
        rcases z with z | z | z
        · exact .inr (.inl z)
        · exact .inl z
        · exact .inr (.inr z)
theorem TgS.tg {C : Ct} {K : PySem.W.Frag} {g : TG} {fl : D → Option (List D)} {os : List Nat} (h : TgS K g fl os) (hrs : ∀ z' ∈ os, C.pn z' = none) : TgOk C K g (gtT fl os) os := by
  refine ⟨fun {L M al rest ρ ρ' σ H v d Q} e hM o q k => ?_⟩
  unfold gtT at q
  cases q2 : fl d with
  | none => rw [q2] at q; cases q
  | some ds =>
    rw [q2] at q; cases q
    refine h.run o q2 fun vs os' hl => k _ ?_ (fun j hj => setsV_ne hj) setsV_len
    exact EnvO.sets hM hrs ⟨fun i d a b => let ⟨v, k1, k2, k3⟩ := e.slot i d a b; ⟨v, k1, k2, fun z => (k3 z).mono (fun _ => .inl) fun _ _ _ e => e⟩, e.rng, e.len⟩ os' hl
theorem ts_name {K : PySem.W.Frag} {i : Nat} : TgS K (gName i) fl1 [i] := by
  refine ⟨fun {M H v d ds σ Q} o h k => ?_⟩
  cases h
  exact k [v] (.cons0 o .nil) rfl
theorem orPG {X : Cx} {e : Expr} {t t' : TG} (h : PG X e t) (h' : PG X e t') : PG X e (fun v σ H Q => t v σ H Q ∨ t' v σ H Q) := ⟨fun pins s σ H v u Q I r q => q.elim (h.run pins s σ H v u Q I r) (h'.run pins s σ H v u Q I r)⟩
def gSq (K : PySem.W.Frag) (n : Nat) (t : TGs) : TG := fun v σ H Q => gTup K n t v σ H Q ∨ L2.gLst K n t v σ H Q
theorem pg_sq {X : Cx} {es : List Expr} {k : Nat} {t : TGs} {n : Nat} {pos : Pos} (hc : X.calm = true) (h : PGs X es t) (hn : (assignEach es X.env).length = n := by rfl) (hst : (assignEach es X.env).findIdx? (·.1) = none := by rfl) : PG X (.Tuple es k pos) (gSq X.K n t) :=
  orPG (pg_tup hc h hn hst) (pg_lst hc h hn hst)
theorem ts_2 {K : PySem.W.Frag} {i j : Nat} : TgS K (gSq K 2 (gCons (gName i) (gCons (gName j) gNil))) fl2 [i, j] := by
  refine ⟨fun {M H v d ds σ Q} o h k => ?_⟩
  unfold fl2 at h
  split at h
  · rename_i a b
    cases h
    obtain ⟨p, vs, rfl, a1, a2, a3, a4⟩ := own_tup o (isHole2 _ _ _)
    obtain ⟨x, y, rfl, ox, oy⟩ := owns2 a4
    exact .inl ⟨p, [x, y], rfl, SqT.of a2, rfl, x, [y], rfl, y, [], rfl, rfl, k [x, y] a4 rfl⟩
  · rename_i a b
    cases h
    obtain ⟨p, vs, rfl, a1, a2, a3, a4⟩ := own_list o
    obtain ⟨x, y, rfl, ox, oy⟩ := owns2 a4
    exact .inr ⟨p, [x, y], rfl, SqL.of a2, rfl, x, [y], rfl, y, [], rfl, rfl, k [x, y] a4 rfl⟩
  · cases h
theorem ts_3 {K : PySem.W.Frag} {i j l : Nat} : TgS K (gSq K 3 (gCons (gName i) (gCons (gName j) (gCons (gName l) gNil)))) fl3 [i, j, l] := by
  refine ⟨fun {M H v d ds σ Q} o h k => ?_⟩
  unfold fl3 at h
  split at h
  · rename_i a b
    cases h
    obtain ⟨p, vs, rfl, a1, a2, a3, a4⟩ := own_tup o (isHole2 _ _ _)
    obtain ⟨x, y, z, rfl, ox, oy, oz⟩ := owns3 a4
    exact .inl ⟨p, [x, y, z], rfl, SqT.of a2, rfl, x, [y, z], rfl, y, [z], rfl, z, [], rfl, rfl, k [x, y, z] a4 rfl⟩
  · rename_i a b
    cases h
    obtain ⟨p, vs, rfl, a1, a2, a3, a4⟩ := own_list o
    obtain ⟨x, y, z, rfl, ox, oy, oz⟩ := owns3 a4
    exact .inr ⟨p, [x, y, z], rfl, SqL.of a2, rfl, x, [y, z], rfl, y, [z], rfl, z, [], rfl, rfl, k [x, y, z] a4 rfl⟩
  · cases h
theorem ts_12 {K : PySem.W.Frag} {i j l : Nat} : TgS K (gTup K 2 (gCons (gName i) (gCons (gTup K 2 (gCons (gName j) (gCons (gName l) gNil))) gNil))) fl12 [i, j, l] := by
  refine ⟨fun {M H v d ds σ Q} o h k => ?_⟩
  unfold fl12 at h
  split at h
  · rename_i a b c
    cases h
    obtain ⟨p, vs, rfl, a1, a2, a3, a4⟩ := own_tup o (isHole2 _ _ _)
    obtain ⟨x, y, rfl, ox, oy⟩ := owns2 a4
    obtain ⟨p', vs', rfl, b1, b2, b3, b4⟩ := own_tup oy (isHole2 _ _ _)
    obtain ⟨z, t, rfl, oz, ot⟩ := owns2 b4
    exact ⟨p, [x, .ref p'], rfl, SqT.of a2, rfl, x, [.ref p'], rfl, .ref p', [], rfl, ⟨p', [z, t], rfl, SqT.of b2, rfl, z, [t], rfl, t, [], rfl, rfl, rfl, k [x, z, t] (.cons0 ox (.cons0 oz (.cons0 ot .nil))) rfl⟩⟩
  · cases h
end DL

/-! DLh: list comprehensions, dict comprehensions. -/
namespace DL
open PySem L2

def M.noEx {α : Type} (m : M α) : M α := fun r => match m r with
  | .ok a r' => .ok a r'
  | _ => .bad
def compL (gt : D → Slots → Option Slots) (ft : Slots → M Bool) (fe : Den) (ρ : Slots) : List D → M (List D)
  | [] => M.pure []
  | d :: ds => M.bind (M.lift (gt d ρ)) fun ρ' => M.bind (ft ρ') fun b => if b = true then M.bind (fe ρ') fun y => M.bind (compL gt ft fe ρ ds) fun ys => M.pure (y :: ys) else compL gt ft fe ρ ds
def dLc (fi : Slots → M (List D)) (gt : D → Slots → Option Slots) (ft : Slots → M Bool) (fe : Den) : Den := fun ρ => M.bind (fi ρ) fun ds => M.bind (M.noEx (compL gt ft fe ρ ds)) fun ys => M.pure (.list ys)
def tYesD : Slots → M Bool := fun _ => M.pure true

theorem bind_ok {α β : Type} {m : M α} {f : α → M β} {r r' : Rg} {b : β} (h : M.bind m f r = .ok b r') : ∃ a r1, m r = .ok a r1 ∧ f a r1 = .ok b r' := by
  unfold M.bind at h
  cases q : m r with
  | ok a r1 => rw [q] at h; exact ⟨a, r1, rfl, h⟩
  | ex c d r1 => rw [q] at h; cases h
  | bad => rw [q] at h; cases h
theorem lift_ok {α : Type} {o : Option α} {r r' : Rg} {a : α} (h : M.lift o r = .ok a r') : o = some a ∧ r' = r := by
  unfold M.lift at h
  cases o with
  | none => cases h
  | some b => cases h; exact ⟨rfl, rfl⟩
theorem pure_ok {α : Type} {r r' : Rg} {a b : α} (h : M.pure a r = .ok b r') : b = a ∧ r' = r := by
  unfold M.pure at h
  cases h
  exact ⟨rfl, rfl⟩
theorem W.ok {C : Ct} {H : Hp} {L : Addr → Prop} {α β : Type} {O : Hp → Hp → (Addr → Prop) → α → β → Prop} {Q : β → Hp → Prop} {res : Res α} {d : α} {r : Rg} (h : res = .ok d r) (k : ∀ v H', Fr C H H' → RngAt C r H' → O H H' L d v → Q v H') : W C H L O res Q := by
  rw [h]; exact k
theorem wipe_get {σ : St} {j : Nat} : ∀ {vs : List Nat}, j ∉ vs → (wipe σ vs)[j]? = σ[j]?
  | [], _ => rfl
  | v :: vs, h => by
    show ((wipe σ vs).set v none)[j]? = σ[j]?
    rw [List.getElem?_set_ne (fun z => h (by rw [z]; exact List.mem_cons_self))]
    exact wipe_get fun z => h (List.mem_cons_of_mem _ z)
theorem wipe_in {σ : St} {j : Nat} : ∀ {vs : List Nat}, j ∈ vs → j < σ.length → (wipe σ vs)[j]? = some none
  | v :: vs, h, hl => by
    show ((wipe σ vs).set v none)[j]? = some none
    by_cases e : v = j
    · subst e
      rw [List.getElem?_set_self (by rw [wipe_length]; exact hl)]
    · rw [List.getElem?_set_ne e]
      rcases List.mem_cons.mp h with h | h
      · exact (e h.symm).elim
      · exact wipe_in h hl
theorem wipe_eq {σ σ' : St} {vs : List Nat} (hl : σ'.length = σ.length) (h : ∀ j, j ∉ vs → σ'[j]? = σ[j]?) : wipe σ' vs = wipe σ vs := by
  apply List.ext_getElem?
  intro j
  by_cases hj : j ∈ vs
  · by_cases hlt : j < σ.length
    · rw [wipe_in hj hlt, wipe_in hj (by rw [hl]; exact hlt)]
    · rw [List.getElem?_eq_none (by rw [wipe_length]; omega), List.getElem?_eq_none (by rw [wipe_length]; omega)]
  · rw [wipe_get hj, wipe_get hj]
    exact h j hj
theorem Beg.env {C : Ct} {H Hs : Hp} {L : Addr → Prop} {al : List Nat} {ρ : Slots} {σ : St} (b : Beg C H Hs) (e : EnvE C L al ρ σ H) (hL : Reg C L H) : EnvE C L al ρ σ Hs ∧ Reg C L Hs ∧ ∀ p, C.nr p → Hs p = none → H p = none := by
  cases b with
  | free f => exact ⟨e.on hL f, hL.on f, fun p hn z => none_back f hn z⟩
  | @lock H1 d od kvs f h1 h2 hd =>
    have e1 := e.on hL f
    have r1 := hL.on f
    have there : ∀ p, H1 p ≠ none → upd H1 d (.frz od (.dK kvs)) p ≠ none := fun p hp => by
      by_cases z : p = d
      · rw [z, upd_same]; exact nofun
      · rw [upd_ne z]; exact hp
    refine ⟨⟨fun i x h => ?_, e1.rng, e1.len⟩, fun p hp => ⟨(r1 p hp).1, there p (r1 p hp).2⟩, fun p hn z => ?_⟩
    · obtain ⟨v, k1, k2, k3⟩ := e1.slot i x h
      exact ⟨v, k1, ((k2.lock h1 nofun).mono (fun p hp => ⟨hp.1, there p hp.2⟩) fun _ _ _ e => e), fun q => (k3 q).lock h1 nofun⟩
    · by_cases y : p = d
      · rw [y, upd_same] at z; cases z
      · rw [upd_ne y] at z; exact none_back f hn z
/-- at the end: what was locked is let go; what came out stands -/
theorem Beg.fin {C : Ct} {H Hs He : Hp} {L : Addr → Prop} {n : Nat} {v : V} {d : D} {r : Rg} {Q : Hp → Prop} {L' : Addr → Prop} {as : List Addr} (b : Beg C H Hs) (f : Fr C Hs He) (g : RngAt C r He)
    (o : Own He L' n v d as) (nd : as.Nodup) (h3 : ∀ p ∈ as, Hs p = none ∧ C.nr p) (h4 : ∀ p, L' p → C.nr p ∧ He p ≠ none ∧ (L p ∨ H p = none) ∧ p ∉ as)
    (k : ∀ H', Fr C H H' → RngAt C r H' → Out C H L H' n v d → Q H') : Unl H He Q := by
  cases b with
  | free f0 => exact .inr (k He (f0.trans f) g ⟨L', as, o, nd, fun p hp => ⟨none_back f0 (h3 p hp).2 (h3 p hp).1, (h3 p hp).2⟩, h4⟩)
  | @lock H1 dd od kvs f0 h1 h2 hd =>
    have hde : He dd = some (.frz od (.dK kvs)) := f _ _ hd upd_same
    refine .inl ⟨dd, od, .dK kvs, trivial, h2, hde, k _ (fun p u hn e => ?_) ?_ ⟨L', as, o.unlock hde, nd, fun p hp => ⟨?_, (h3 p hp).2⟩, fun p hp => ?_⟩⟩
    · by_cases z : p = dd
      · rw [z, upd_same]
        rw [z] at e
        rcases h2 with h2 | h2
        · rw [h2] at e; cases e
        · rw [h2] at e; exact e
      · rw [upd_ne z]
        refine f p u hn ?_
        rw [upd_ne z]
        exact f0 p u hn e
    · exact rngD hd g
    · have z := (h3 p hp).1
      by_cases y : p = dd
      · rw [y, upd_same] at z; cases z
      · rw [upd_ne y] at z; exact none_back f0 (h3 p hp).2 z
    · obtain ⟨a, b, c, e⟩ := h4 p hp
      refine ⟨a, ?_, c, e⟩
      by_cases y : p = dd
      · rw [y, upd_same]; exact nofun
      · rw [upd_ne y]; exact b

/-- within a comprehension no error leaves -/
abbrev Ct.in0 (C : Ct) : Ct := { C with E := fun _ _ _ => False }
theorem EnvE.in0 {C : Ct} {L : Addr → Prop} {al : List Nat} {ρ : Slots} {σ : St} {H : Hp} (e : EnvE C L al ρ σ H) : EnvE C.in0 L al ρ σ H := ⟨e.slot, e.rng, e.len⟩
section
variable {X : Cx} {C : Ct} {n : Nat} {al alt ale os : List Nat} {fi : Slots → M (List D)} {gt : D → Slots → Option Slots} {ft : Slots → M Bool} {fe : Den} {elt tg iter : Expr} {ifs : List Expr} {scope : Scope} {own : List (Str × Nat)} {pos : Pos} {g : TG}
theorem pts0 {X : Cx} : PTs X [] (tET C [] tYesD) := ⟨fun pins s σ H Q I ⟨ρ, r, L, e, gr, hL, w⟩ => pts_nil.run pins s σ H Q I (w true H Fr.refl gr rfl)⟩
theorem pts1 {X : Cx} {c : Expr} {f : Slots → M Bool} (h : PT X c (tET C alt f)) : PTs X [c] (tET C alt f) := pts_one h
/-- how the list stands after i turns -/
structure LcAt (C : Ct) (H0 Hs : Hp) (L : Addr → Prop) (D0 : Addr) (n : Nat) (S : Hp → Prop) (gt : D → Slots → Option Slots) (ft : Slots → M Bool) (fe : Den) (ρ : Slots) (ds YS : List D) (rE : Rg) (i m : Nat) (H : Hp) : Prop where
  im : m = ds.length - i
  le : i ≤ ds.length
  ex : ∃ (r : Rg) (ys zs : List D) (vs : List V) (as : List Addr) (L' : Addr → Prop), RngAt C r H ∧ S H ∧ Fr C Hs H ∧ H D0 = some (.lst vs) ∧ Owns H L' n vs ys as ∧ as.Nodup ∧ (∀ p ∈ as, Hs p = none ∧ C.nr p ∧ p ≠ D0) ∧
    (∀ p, L' p → C.nr p ∧ H p ≠ none ∧ (L p ∨ H0 p = none) ∧ p ∉ as ∧ p ≠ D0) ∧ compL gt ft fe ρ (ds.drop i) r = .ok zs rE ∧ YS = ys ++ zs ∧ ys.length ≤ i
theorem owns_snoc {H : Hp} {L L1 L2 : Addr → Prop} {n : Nat} {vs : List V} {ds : List D} {as bs : List Addr} {v : V} {d : D} (a : Owns H L1 n vs ds as) (b : Own H L2 n v d bs) (h1 : ∀ p, L1 p → L p) (h2 : ∀ p, L2 p → L p) : Owns H L n (vs ++ [v]) (ds ++ [d]) (as ++ bs) :=
  (a.mono h1 fun _ _ _ e => e).append (.one (b.mono h2 fun _ _ _ e => e))
theorem lc_turn (C : Ct) {H0 Hs : Hp} {L : Addr → Prop} {D0 : Addr} {J : It} {S : Hp → Prop} {Z : Addr → Prop} {K : PySem.W.Frag} {σ : St} {ρ : Slots} {ds YS : List D} {rE : Rg} {i m : Nat} {H : Hp} (wk : Walk C H0 L J Hs ds S Z) (bg : Beg C H0 Hs)
    (env : EnvE C L al ρ σ Hs) (LHs : Reg C L Hs) (hsub : ∀ j ∈ alt ++ ale, j ∈ os ++ al) (hL : Reg C L H0) (hback : ∀ p, C.nr p → Hs p = none → H0 p = none) (hD : Hs D0 = none) (gs : ∃ r, RngAt C r Hs) (tgo : TgOk C K g gt os) (hrs : ∀ z' ∈ os, C.pn z' = none)
    (h : LcAt C H0 Hs L D0 n S gt ft fe ρ ds YS rE i m H) (hi : i < ds.length) :
    J.go i H ∧ ∀ x H', J.yld i H x H' → g x (wipe σ os) H' fun σ2 H2 => wipe σ2 os = wipe σ os ∧ tET C.in0 alt ft σ2 H2 fun b H3 =>
      if b = true then tEV C.in0 n ale fe σ2 H3 fun y H4 => ∃ acc, H4 D0 = some (.lst acc) ∧ acc.length < sizeLine ∧ LcAt C H0 Hs L D0 n S gt ft fe ρ ds YS rE (i + 1) (m - 1) (upd H4 D0 (.lst (acc ++ [y]))) else LcAt C H0 Hs L D0 n S gt ft fe ρ ds YS rE (i + 1) (m - 1) H3 := by
  obtain ⟨him, hile, r, ys, zs, vs, as, L', gr, hS, fr, hDv, ow, nd, has, hL', hrun, hYS, hlen⟩ := h
  obtain ⟨hgo, hy⟩ := wk.go i H hS hi
  refine ⟨hgo, fun x H2 hyl => ?_⟩
  obtain ⟨x2, d, hd, ox⟩ := hy x H2 hyl
  have hdrop : ds.drop i = d :: ds.drop (i + 1) := by
    rw [List.drop_eq_getElem_cons hi]
    rw [List.getElem?_eq_getElem hi] at hd
    cases hd; rfl
  rw [hdrop] at hrun
  obtain ⟨ρ', ra, hg0, hrun1⟩ := bind_ok hrun
  obtain ⟨hgt, hra⟩ := lift_ok hg0
  subst hra
  obtain ⟨b, r2, hb, hrun2⟩ := bind_ok hrun1
  clear hrun hrun1 hg0
  obtain ⟨rs0, gs⟩ := gs
  have nrD : C.nr D0 := gs.nr hD
  have hD0 : H0 D0 = none := hback D0 nrD hD
  have Zs : ∀ p, Z p → Hs p ≠ none := fun p hp => wk.there Hs wk.now p hp
  have nZD : ∀ p, Z p → p ≠ D0 := fun p hp e => Zs p hp (by rw [e]; exact hD)
  have nLD : ∀ p, L p → p ≠ D0 := fun p hp e => (hL p hp).2 (by rw [e]; exact hD0)
  have hDH : H D0 ≠ none := by rw [hDv]; exact nofun
  -- the item's region
  have hM : ∀ p, (Z p ∨ (H p = none ∧ H2 p ≠ none)) → C.nr p ∧ H2 p ≠ none := fun p hp => by
    rcases hp with hp | ⟨h1, h2⟩
    · exact ⟨(wk.reg p hp).1, some_on (fr.trans x2.fr) (wk.reg p hp).1 (Zs p hp)⟩
    · exact ⟨gr.nr h1, h2⟩
  have nMD : ∀ p, (Z p ∨ (H p = none ∧ H2 p ≠ none)) → p ≠ D0 := fun p hp e => by
    rcases hp with hp | ⟨h1, _⟩
    · exact nZD p hp e
    · exact hDH (by rw [← e]; exact h1)
  have f2 : Fr C Hs H2 := fr.trans x2.fr
  have g2 : RngAt C ra H2 := x2.rng gr
  have envo : EnvO C L al (os ++ []) ρ (wipe σ os) H2 := by
    refine ⟨fun j d' hj hd' => ?_, fun jr a hjr => ?_, by rw [wipe_length]; exact env.len⟩
    · rw [List.append_nil] at hj
      obtain ⟨v, k1, k2, k3⟩ := (env.on LHs f2).slot j d' hd'
      exact ⟨v, by rw [wipe_get hj]; exact k1, k2, k3⟩
    · rw [wipe_get (fun z => by rw [hrs jr z] at hjr; cases hjr)]; exact env.rng jr a hjr
  refine tgo.run envo hM ox hgt fun σ' e' hag hlen' => ?_
  have e2 := e'.env
  refine ⟨wipe_eq (by rw [hlen', wipe_length]) (fun j hj => by rw [hag j hj, wipe_get hj]), ?_⟩
  have RL : Reg C (fun p => L p ∨ (Z p ∨ (H p = none ∧ H2 p ≠ none))) H2 := fun p hp => hp.elim (fun z => (LHs.on f2) p z) (hM p)
  refine ⟨ρ', ra, _, (e2.sub (fun j hj => hsub j (List.mem_append_left _ hj))).in0, g2, RL, W.ok hb fun b' H3 f3 g3 hb' => ?_⟩
  have f3 : Fr C H2 H3 := f3
  have g3 : RngAt C r2 H3 := g3
  cases hb'
  have f23 : Fr C H H3 := x2.fr.trans f3
  have stay : ∀ {H4 : Hp}, Fr C H H4 → H4 D0 = some (.lst vs) := fun f => f _ _ nrD hDv
  have keepS : ∀ {H4 : Hp}, Fr C H H4 → S H4 := fun f => wk.keep H _ hS fun p o hp e => f p o (wk.reg p hp).1 e
  have keepO : ∀ {H4 : Hp}, Fr C H H4 → Owns H4 L' n vs ys as := fun f => ow.mono (fun _ h => h) fun p u hp e => f p u (hp.elim (fun z => (hL' p z).1) fun z => (has p z).2.1) e
  cases b with
  | false =>
    simp only [Bool.false_eq_true, if_false] at hrun2 ⊢
    exact ⟨by omega, hi, r2, ys, zs, vs, as, L', g3, keepS f23, fr.trans f23, stay f23, keepO f23, nd, has, fun p hp => ⟨(hL' p hp).1, some_on f23 (hL' p hp).1 (hL' p hp).2.1, (hL' p hp).2.2⟩, hrun2, hYS, by omega⟩
  | true =>
    simp only [if_true] at hrun2 ⊢
    obtain ⟨y, r3, hyy, hrun3⟩ := bind_ok hrun2
    obtain ⟨zs', r4, hzz, hrun4⟩ := bind_ok hrun3
    obtain ⟨hz1, hz2⟩ := pure_ok hrun4
    subst hz1 hz2
    refine ⟨ρ', r2, _, ((e2.on RL f3).sub (fun j hj => hsub j (List.mem_append_right _ hj))).in0, g3, RL.on f3, W.ok hyy fun v H4 f4 g4 o4 => ?_⟩
    have f4 : Fr C H3 H4 := f4
    have g4 : RngAt C r3 H4 := g4
    obtain ⟨L2, bs, k1, k2, k3, k4⟩ := o4
    have f24 : Fr C H H4 := f23.trans f4
    have nb : ∀ p ∈ bs, p ≠ D0 := fun p hp e => some_on f23 nrD hDH (by rw [← e]; exact (k3 p hp).1)
    have stand : ∀ p ∈ as, H3 p ≠ none := fun p hp => some_on f23 (has p hp).2.1 (ow.stands p hp)
    have H3back : ∀ p, C.nr p → H3 p = none → Hs p = none := fun p hn z => none_back (fr.trans f23) hn z
    refine ⟨vs, stay f24, by rw [ow.len]; have := wk.size; omega, by omega, hi, r3, ys ++ [y], zs', vs ++ [v], as ++ bs, fun p => L' p ∨ L2 p, ?_, ?_, ?_, upd_same, ?_, ?_, ?_, ?_, hzz, by rw [hYS, List.append_assoc]; rfl, by rw [List.length_append, List.length_singleton]; omega⟩
    · exact rngD nrD g4
    · exact wk.keep H _ hS fun p o hp e => by
        rw [upd_ne (nZD p hp)]
        exact f24 p o (wk.reg p hp).1 e
    · intro p o hn e
      rw [upd_ne (fun z => by rw [z, hD] at e; cases e)]
      exact f24 p o hn (fr p o hn e)
    · refine owns_snoc (L1 := L') (L2 := L2) (ow.mono (fun _ h => h) fun p u hp e => ?_) (k1.mono (fun _ h => h) fun p u hp e => ?_) (fun _ => .inl) fun _ => .inr
      · rw [upd_ne (hp.elim (fun z => (hL' p z).2.2.2.2) fun z => (has p z).2.2)]
        exact f24 p u (hp.elim (fun z => (hL' p z).1) fun z => (has p z).2.1) e
      · have : p ≠ D0 := by
          rcases hp with hp | hp
          · rcases (k4 p hp).2.2.1 with z | z
            · exact z.elim (nLD p) (nMD p)
            · intro e'
              exact some_on f23 nrD hDH (by rw [← e']; exact z)
          · exact nb p hp
        rw [upd_ne this]
        exact e
    · refine List.nodup_append.mpr ⟨nd, k2, fun p hp q hq e => ?_⟩
      subst e
      exact stand p hp (k3 p hq).1
    · intro p hp
      rcases List.mem_append.mp hp with hp | hp
      · exact has p hp
      · exact ⟨H3back p (k3 p hp).2 (k3 p hp).1, (k3 p hp).2, nb p hp⟩
    · intro p hp
      rcases hp with hp | hp
      · obtain ⟨x1, x2', x3, x4, x5⟩ := hL' p hp
        refine ⟨x1, by rw [upd_ne x5]; exact some_on f24 x1 x2', x3, fun z => ?_, x5⟩
        rcases List.mem_append.mp z with z | z
        · exact x4 z
        · exact some_on f23 x1 x2' (k3 p z).1
      · obtain ⟨x1, x2', x3, x4⟩ := k4 p hp
        have hpD : p ≠ D0 := by
          rcases x3 with z | z
          · exact z.elim (nLD p) (nMD p)
          · intro e'
            exact some_on f23 nrD hDH (by rw [← e']; exact z)
        refine ⟨x1, by rw [upd_ne hpD]; exact x2', ?_, fun z => ?_, hpD⟩
        · rcases x3 with (z | z | ⟨z, _⟩) | z
          · exact .inl z
          · exact (wk.reg p z).2
          · exact .inr (hback p x1 (none_back fr x1 z))
          · exact .inr (hback p x1 (H3back p x1 z))
        · rcases List.mem_append.mp z with z | z
          · rcases x3 with (y | y | ⟨y, _⟩) | y
            · exact (LHs p y).2 (has p z).1
            · exact Zs p y (has p z).1
            · exact ow.stands p z y
            · exact stand p z y
          · exact x4 z
theorem lc_read {ρ : Slots} {σ : St} {H : Hp} {Q : VK} {r : Rg} {L : Addr → Prop} {K : PySem.W.Frag} {wi : TI} (hsub : ∀ j ∈ alt ++ ale, j ∈ os ++ al) (tgo : TgOk C K g gt os) (hrs : ∀ z' ∈ os, C.pn z' = none)
    (e : EnvE C L al ρ σ H) (gr : RngAt C r H) (hL : Reg C L H) (w : W C H L (O1 C (n + 1)) (dLc fi gt ft fe ρ r) Q) (hwi : wi = tIV C al fi) :
    tLc wi g (tET C.in0 alt ft) (tEV C.in0 n ale fe) os σ H fun v H' => Unl H H' (Q v) := by
  subst hwi
  refine ⟨ρ, r, L, e, gr, hL, ?_⟩
  unfold dLc M.bind at w
  cases q : fi ρ r with
  | bad => rw [q] at w; exact w.elim
  | ex c d r1 => rw [q] at w; exact w
  | ok ds r1 =>
    rw [q] at w
    intro J Hs S Z bg gs wk D0 hD
    unfold M.noEx at w
    cases q2 : compL gt ft fe ρ ds r1 with
    | bad => simp only [q2] at w; exact w.elim
    | ex c d r2 => simp only [q2] at w; exact w.elim
    | ok YS rE =>
      simp only [q2] at w
      obtain ⟨env, LHs, hback⟩ := bg.env e hL
      have nrD := gs.nr hD
      refine ⟨fun i m Hq => LcAt C H Hs L D0 n S gt ft fe ρ ds YS rE i m Hq, ⟨ds.length, ?_⟩, fun i m H' h => ?_⟩
      · refine ⟨by simp, Nat.zero_le _, r1, [], YS, [], [], fun _ => False, rngD nrD gs, ?_, (Ext.new hD).fr, upd_same, .nil, .nil, nofun, fun _ z => z.elim, q2, rfl, Nat.le_refl _⟩
        exact wk.keep Hs _ wk.now fun p o hp e => Ext.new hD p o e
      · by_cases hi : i < ds.length
        · refine .inr ?_
          obtain ⟨h1, h2⟩ := lc_turn (K := K) C wk bg env LHs hsub hL hback hD ⟨r1, gs⟩ tgo hrs h hi
          refine ⟨h1, fun H'' => LcAt C H Hs L D0 n S gt ft fe ρ ds YS rE (i + 1) (m - 1) H'', fun H'' k => ⟨m - 1, ?_, k⟩, h2⟩
          have := h.im
          omega
        · have hie : i = ds.length := by have := h.le; omega
          subst hie
          clear hi
          obtain ⟨_, _, r, ys, zs, vs, as, L', gr', hS, fr, hDv, ow, nd, has, hL', hrun, hYS, hlen⟩ := h
          refine .inl ⟨wk.stop H' hS, ?_⟩
          rw [List.drop_length] at hrun
          obtain ⟨hz1, hz2⟩ := pure_ok hrun
          subst hz1 hz2
          rw [List.append_nil] at hYS
          subst hYS
          refine bg.fin (L := L) (n := n + 1) (H := H) (v := .ref D0) (d := .list YS) (L' := L') (as := D0 :: as) fr gr' (.lst hDv (Nat.le_trans hlen wk.size) ow) (List.nodup_cons.mpr ⟨fun z => (has D0 z).2.2 rfl, nd⟩) (fun p hp => ?_) (fun p hp => ?_) fun H2 f2 g2 o2 => w _ _ f2 g2 o2
          · rcases List.mem_cons.mp hp with hp | hp
            · rw [hp]; exact ⟨hD, nrD⟩
            · exact ⟨(has p hp).1, (has p hp).2.1⟩
          · obtain ⟨x1, x2, x3, x4, x5⟩ := hL' p hp
            exact ⟨x1, x2, x3, fun z => (List.mem_cons.mp z).elim x5 x4⟩
theorem ev_lc (hc : X.calm = true) (hN : X.N.Nodup) (hi : PI X tg iter (tIV C al fi)) (ok : BlkOk X.N X.env.scope scope own) (hos : own.map (·.2) = os)
    (hg : ∀ (s : Shared) (H : Hp) (A : Addr) (cl : List (Str × Addr)) (fp : List Addr), PG (X.blk s H scope (compEnvC scope cl A X.env) fp) tg g) (tgo : TgOk C X.K g gt os) (hrs : ∀ z' ∈ os, C.pn z' = none) (hsub : ∀ j ∈ alt ++ ale, j ∈ os ++ al)
    (ht : ∀ (s : Shared) (H : Hp) (A : Addr) (cl : List (Str × Addr)) (fp : List Addr), PTs (X.blk s H scope (compEnvC scope cl A X.env) fp) ifs (tET C.in0 alt ft))
    (he : ∀ (s : Shared) (H : Hp) (A : Addr) (cl : List (Str × Addr)) (fp : List Addr), PE (X.blk s H scope (compEnvC scope cl A X.env) fp) elt (tEV C.in0 n ale fe)) (hs : ∀ x, foldedSetIterable iter X.env x = pure x := by intro _; rfl) :
    PE X (.ListComp elt [⟨tg, iter, ifs, 0⟩] scope pos) (tEV C (n + 1) al (dLc fi gt ft fe)) := by
  subst hos
  exact impPE (pe_unl (pe_lc hc hN hi ok hg ht he hs)) fun σ H Q ⟨ρ, r, L, e, gr, hL, w⟩ => lc_read hsub tgo hrs e gr hL w rfl
end
end DL

/-! DLi: a dict's entries stored; dict comprehensions. -/
namespace DL
open PySem L2

def putD (kds : List (D × D)) (k v : D) : List (D × D) := if (kds.any fun p => PyData.eqv p.1 k) = true then kds.map (fun p => if PyData.eqv p.1 k = true then (p.1, v) else p) else kds ++ [(k, v)]
def keyOf : D → Option Key
  | .int i => some (.inl i)
  | .str s => some (.inr s)
  | _ => none
theorem keyOf_eq {d : D} {k : Key} (h : keyOf d = some k) : d = keyD k := by
  unfold keyOf at h
  split at h <;> cases h <;> rfl
theorem own_keyD {H : Hp} {L : Addr → Prop} {n : Nat} {v : V} {k : Key} {as : List Addr} (h : Own H L n v (keyD k) as) : v = kV k := by
  cases k with
  | inl i => exact own_int h
  | inr s => exact own_str h
theorem any_key {kds : List (D × D)} {kvs : List (Key × V)} (h : kds.map (·.1) = kvs.map (fun kv => keyD kv.1)) (k : Key) : (kds.any fun p => PyData.eqv p.1 (keyD k)) = kvs.any fun kv => decide (kv.1 = k) := by
  have e1 : (kds.any fun p => PyData.eqv p.1 (keyD k)) = (kds.map (·.1)).any fun x => PyData.eqv x (keyD k) := by rw [List.any_map]; rfl
  have e2 : (kvs.any fun kv => decide (kv.1 = k)) = (kvs.map (fun kv => keyD kv.1)).any fun x => PyData.eqv x (keyD k) := by
    rw [List.any_map]
    congr 1
    funext kv
    exact (keyD_eqv kv.1 k).symm
  rw [e1, e2, h]
theorem any_none {kvs : List (Key × V)} {k : Key} (h : k ∉ kvs.map (·.1)) (v : V) : kvs.map (fun kv => if kv.1 = k then (kv.1, v) else kv) = kvs := by
  induction kvs with
  | nil => rfl
  | cons a r ih =>
    rw [List.map_cons] at h ⊢
    rw [if_neg (fun e => h (by rw [e]; exact List.mem_cons_self)), ih fun z => h (List.mem_cons_of_mem _ z)]
theorem any_noneD {kds : List (D × D)} {kvs : List (Key × V)} (e : kds.map (·.1) = kvs.map (fun kv => keyD kv.1)) {k : Key} (h : k ∉ kvs.map (·.1)) (d : D) : kds.map (fun p => if PyData.eqv p.1 (keyD k) = true then (p.1, d) else p) = kds := by
  induction kds generalizing kvs with
  | nil => rfl
  | cons a r ih =>
    cases kvs with
    | nil => simp at e
    | cons b s =>
      simp only [List.map_cons, List.cons.injEq] at e
      rw [List.map_cons] at h ⊢
      rw [e.1, keyD_eqv, decide_eq_false (fun z => h (by rw [z]; exact List.mem_cons_self)), ih e.2 fun z => h (List.mem_cons_of_mem _ z)]
      simp
/-- an entry stored: what was owned before, and what comes, less what is dropped -/
theorem put_own {H : Hp} {L : Addr → Prop} {n : Nat} {v : V} {d : D} {bs : List Addr} {k : Key} (b : Own H L n v d bs) : ∀ {kds : List (D × D)} {kvs : List (Key × V)} {as : List Addr}, kds.map (·.1) = kvs.map (fun kv => keyD kv.1) → (kvs.map (·.1)).Nodup → Owns H L n (kvs.map (·.2)) (kds.map (·.2)) as →
    ∃ cs es, (as ++ bs).Perm (cs ++ es) ∧ Owns H L n ((putK kvs k v).map (·.2)) ((putD kds (keyD k) d).map (·.2)) cs ∧ KeyOk (putD kds (keyD k) d) (putK kvs k v) := by
  intro kds kvs as e nd o
  unfold putK putD
  rw [any_key e k]
  by_cases z : (kvs.any fun kv => decide (kv.1 = k)) = true
  · rw [if_pos z, if_pos z]
    have main : ∀ {kds : List (D × D)} {kvs : List (Key × V)} {as : List Addr}, kds.map (·.1) = kvs.map (fun kv => keyD kv.1) → (kvs.map (·.1)).Nodup → Owns H L n (kvs.map (·.2)) (kds.map (·.2)) as → (kvs.any fun kv => decide (kv.1 = k)) = true →
        ∃ cs es, (as ++ bs).Perm (cs ++ es) ∧ Owns H L n ((kvs.map (fun kv => if kv.1 = k then (kv.1, v) else kv)).map (·.2)) ((kds.map (fun p => if PyData.eqv p.1 (keyD k) = true then (p.1, d) else p)).map (·.2)) cs := by
      intro kds
      induction kds with
      | nil =>
        intro kvs as e nd o z
        cases kvs with
        | nil => cases z
        | cons _ _ => simp at e
      | cons a r ih =>
        intro kvs as e nd o z
        cases kvs with
        | nil => cases z
        | cons q s =>
          simp only [List.map_cons, List.cons.injEq] at e
          rw [List.map_cons] at nd
          have nd' := List.nodup_cons.mp nd
          simp only [List.map_cons] at o ⊢
          cases o with
          | @cons _ _ _ _ _ a1 a2 h1 h2 =>
            by_cases y : q.1 = k
            · rw [if_pos y, e.1, keyD_eqv, decide_eq_true y, if_pos rfl]
              have hn : k ∉ s.map (·.1) := by rw [← y]; exact nd'.1
              rw [any_none hn v, any_noneD e.2 hn d]
              refine ⟨bs ++ a2, a1, ?_, .cons b h2⟩
              rw [List.append_assoc]
              refine List.perm_append_comm.trans ?_
              rw [List.append_assoc, List.append_assoc]
              exact (List.perm_append_comm (l₁ := a2) (l₂ := bs ++ a1)).trans (by rw [List.append_assoc]; exact List.Perm.append_left bs List.perm_append_comm)
            · rw [if_neg y, e.1, keyD_eqv, decide_eq_false y, if_neg Bool.false_ne_true]
              have z' : (s.any fun kv => decide (kv.1 = k)) = true := by
                rw [List.any_cons, decide_eq_false y, Bool.false_or] at z
                exact z
              obtain ⟨cs, es, pe, oc⟩ := ih e.2 nd'.2 h2 z'
              refine ⟨a1 ++ cs, es, ?_, .cons h1 oc⟩
              rw [List.append_assoc, List.append_assoc]
              exact List.Perm.append_left a1 pe
    obtain ⟨cs, es, pe, oc⟩ := main e nd o z
    refine ⟨cs, es, pe, oc, ⟨?_, ?_⟩⟩
    · have e1 : (kds.map (fun p => if PyData.eqv p.1 (keyD k) = true then (p.1, d) else p)).map (·.1) = kds.map (·.1) := by
        rw [List.map_map]; congr 1; funext p
        simp only [Function.comp]; split <;> rfl
      have e2 : (kvs.map (fun kv => if kv.1 = k then (kv.1, v) else kv)).map (fun kv => keyD kv.1) = kvs.map (fun kv => keyD kv.1) := by
        rw [List.map_map]; congr 1; funext p
        simp only [Function.comp]; split <;> rfl
      rw [e1, e2, e]
    · have e2 : (kvs.map (fun kv => if kv.1 = k then (kv.1, v) else kv)).map (·.1) = kvs.map (·.1) := by
        rw [List.map_map]; congr 1; funext p
        simp only [Function.comp]; split <;> rfl
      rw [e2]; exact nd
  · rw [if_neg z, if_neg z]
    refine ⟨as ++ bs, [], by rw [List.append_nil], ?_, ⟨?_, ?_⟩⟩
    · rw [List.map_append, List.map_append]
      exact o.append (.one b)
    · rw [List.map_append, List.map_append, e]; rfl
    · rw [List.map_append]
      refine List.nodup_append.mpr ⟨nd, by simp, fun x hx y hy q => z ?_⟩
      subst q
      obtain ⟨p, hp, e'⟩ := List.mem_map.mp hx
      have : x = k := by simpa using hy
      exact List.any_eq_true.mpr ⟨p, hp, decide_eq_true (e'.trans this)⟩
theorem putD_len (kds : List (D × D)) (k v : D) : (putD kds k v).length ≤ kds.length + 1 := by
  unfold putD
  split
  · rw [List.length_map]; omega
  · rw [List.length_append, List.length_singleton]; omega

def compD (gt : D → Slots → Option Slots) (ft : Slots → M Bool) (fk fe : Den) (ρ : Slots) (acc : List (D × D)) : List D → M (List (D × D))
  | [] => M.pure acc
  | d :: ds => M.bind (M.lift (gt d ρ)) fun ρ' => M.bind (ft ρ') fun b => if b = true then M.bind (fk ρ') fun k => M.bind (fe ρ') fun y => M.bind (M.lift (keyOf k)) fun _ => compD gt ft fk fe ρ (putD acc k y) ds else compD gt ft fk fe ρ acc ds
def dDc (fi : Slots → M (List D)) (gt : D → Slots → Option Slots) (ft : Slots → M Bool) (fk fe : Den) : Den := fun ρ => M.bind (fi ρ) fun ds => M.bind (M.noEx (compD gt ft fk fe ρ [] ds)) fun ys => M.pure (.dict ys)
section
variable {X : Cx} {C : Ct} {n nk : Nat} {al alt alk ale os : List Nat} {fi : Slots → M (List D)} {gt : D → Slots → Option Slots} {ft : Slots → M Bool} {fk fe : Den} {kx elt tg iter : Expr} {ifs : List Expr} {scope : Scope} {own : List (Str × Nat)} {pos : Pos} {g : TG}
structure DcAt (C : Ct) (H0 Hs : Hp) (L : Addr → Prop) (D0 : Addr) (n : Nat) (S : Hp → Prop) (gt : D → Slots → Option Slots) (ft : Slots → M Bool) (fk fe : Den) (ρ : Slots) (ds : List D) (YS : List (D × D)) (rE : Rg) (i m : Nat) (H : Hp) : Prop where
  im : m = ds.length - i
  le : i ≤ ds.length
  ex : ∃ (r : Rg) (kds : List (D × D)) (kvs : List (Key × V)) (as : List Addr) (L' : Addr → Prop), RngAt C r H ∧ S H ∧ Fr C Hs H ∧ H D0 = some (.dK kvs) ∧ KeyOk kds kvs ∧ Owns H L' n (kvs.map (·.2)) (kds.map (·.2)) as ∧ as.Nodup ∧ (∀ p ∈ as, Hs p = none ∧ C.nr p ∧ p ≠ D0) ∧
    (∀ p, L' p → C.nr p ∧ H p ≠ none ∧ (L p ∨ H0 p = none) ∧ p ∉ as ∧ p ≠ D0) ∧ compD gt ft fk fe ρ kds (ds.drop i) r = .ok YS rE ∧ kds.length ≤ i
theorem dc_turn (C : Ct) {H0 Hs : Hp} {L : Addr → Prop} {D0 : Addr} {J : It} {S : Hp → Prop} {Z : Addr → Prop} {K : PySem.W.Frag} {σ : St} {ρ : Slots} {ds : List D} {YS : List (D × D)} {rE : Rg} {i m : Nat} {H : Hp} (wk : Walk C H0 L J Hs ds S Z) (bg : Beg C H0 Hs)
    (env : EnvE C L al ρ σ Hs) (LHs : Reg C L Hs) (hsub : ∀ j ∈ alt ++ (alk ++ ale), j ∈ os ++ al) (hL : Reg C L H0) (hback : ∀ p, C.nr p → Hs p = none → H0 p = none) (hD : Hs D0 = none) (gs : ∃ r, RngAt C r Hs) (tgo : TgOk C K g gt os) (hrs : ∀ z' ∈ os, C.pn z' = none)
    (h : DcAt C H0 Hs L D0 n S gt ft fk fe ρ ds YS rE i m H) (hi : i < ds.length) :
    J.go i H ∧ ∀ x H', J.yld i H x H' → g x (wipe σ os) H' fun σ2 H2 => wipe σ2 os = wipe σ os ∧ tET C.in0 alt ft σ2 H2 fun b H3 =>
      if b = true then tEV C.in0 nk alk fk σ2 H3 fun y H4 => tEV C.in0 n ale fe σ2 H4 fun z H5 => ∃ kvs k, y = kV k ∧ H5 D0 = some (.dK kvs) ∧ kvs.length < sizeLine ∧ DcAt C H0 Hs L D0 n S gt ft fk fe ρ ds YS rE (i + 1) (m - 1) (upd H5 D0 (.dK (putK kvs k z))) else DcAt C H0 Hs L D0 n S gt ft fk fe ρ ds YS rE (i + 1) (m - 1) H3 := by
  obtain ⟨him, hile, r, kds, kvs, as, L', gr, hS, fr, hDv, ko, ow, nd, has, hL', hrun, hlen⟩ := h
  obtain ⟨hgo, hy⟩ := wk.go i H hS hi
  refine ⟨hgo, fun x H2 hyl => ?_⟩
  obtain ⟨x2, d, hd, ox⟩ := hy x H2 hyl
  have hdrop : ds.drop i = d :: ds.drop (i + 1) := by
    rw [List.drop_eq_getElem_cons hi]
    rw [List.getElem?_eq_getElem hi] at hd
    cases hd; rfl
  rw [hdrop] at hrun
  obtain ⟨ρ', ra, hg0, hrun1⟩ := bind_ok hrun
  obtain ⟨hgt, hra⟩ := lift_ok hg0
  subst hra
  obtain ⟨b, r2, hb, hrun2⟩ := bind_ok hrun1
  clear hrun hrun1 hg0
  obtain ⟨rs0, gs⟩ := gs
  have nrD : C.nr D0 := gs.nr hD
  have hD0 : H0 D0 = none := hback D0 nrD hD
  have Zs : ∀ p, Z p → Hs p ≠ none := fun p hp => wk.there Hs wk.now p hp
  have nZD : ∀ p, Z p → p ≠ D0 := fun p hp e => Zs p hp (by rw [e]; exact hD)
  have nLD : ∀ p, L p → p ≠ D0 := fun p hp e => (hL p hp).2 (by rw [e]; exact hD0)
  have hDH : H D0 ≠ none := by rw [hDv]; exact nofun
  have hM : ∀ p, (Z p ∨ (H p = none ∧ H2 p ≠ none)) → C.nr p ∧ H2 p ≠ none := fun p hp => by
    rcases hp with hp | ⟨h1, h2⟩
    · exact ⟨(wk.reg p hp).1, some_on (fr.trans x2.fr) (wk.reg p hp).1 (Zs p hp)⟩
    · exact ⟨gr.nr h1, h2⟩
  have nMD : ∀ p, (Z p ∨ (H p = none ∧ H2 p ≠ none)) → p ≠ D0 := fun p hp e => by
    rcases hp with hp | ⟨h1, _⟩
    · exact nZD p hp e
    · exact hDH (by rw [← e]; exact h1)
  have f2 : Fr C Hs H2 := fr.trans x2.fr
  have g2 : RngAt C ra H2 := x2.rng gr
  have envo : EnvO C L al (os ++ []) ρ (wipe σ os) H2 := by
    refine ⟨fun j d' hj hd' => ?_, fun jr a hjr => ?_, by rw [wipe_length]; exact env.len⟩
    · rw [List.append_nil] at hj
      obtain ⟨v, k1, k2, k3⟩ := (env.on LHs f2).slot j d' hd'
      exact ⟨v, by rw [wipe_get hj]; exact k1, k2, k3⟩
    · rw [wipe_get (fun z => by rw [hrs jr z] at hjr; cases hjr)]; exact env.rng jr a hjr
  refine tgo.run envo hM ox hgt fun σ' e' hag hlen' => ?_
  have e2 := e'.env
  refine ⟨wipe_eq (by rw [hlen', wipe_length]) (fun j hj => by rw [hag j hj, wipe_get hj]), ?_⟩
  have RL : Reg C (fun p => L p ∨ (Z p ∨ (H p = none ∧ H2 p ≠ none))) H2 := fun p hp => hp.elim (fun z => (LHs.on f2) p z) (hM p)
  refine ⟨ρ', ra, _, (e2.sub (fun j hj => hsub j (List.mem_append_left _ hj))).in0, g2, RL, W.ok hb fun b' H3 f3 g3 hb' => ?_⟩
  have f3 : Fr C H2 H3 := f3
  have g3 : RngAt C r2 H3 := g3
  cases hb'
  have f23 : Fr C H H3 := x2.fr.trans f3
  have stay : ∀ {H4 : Hp}, Fr C H H4 → H4 D0 = some (.dK kvs) := fun f => f _ _ nrD hDv
  have keepS : ∀ {H4 : Hp}, Fr C H H4 → S H4 := fun f => wk.keep H _ hS fun p o hp e => f p o (wk.reg p hp).1 e
  have keepO : ∀ {H4 : Hp}, Fr C H H4 → Owns H4 L' n (kvs.map (·.2)) (kds.map (·.2)) as := fun f => ow.mono (fun _ h => h) fun p u hp e => f p u (hp.elim (fun z => (hL' p z).1) fun z => (has p z).2.1) e
  cases b with
  | false =>
    simp only [Bool.false_eq_true, if_false] at hrun2 ⊢
    exact ⟨by omega, hi, r2, kds, kvs, as, L', g3, keepS f23, fr.trans f23, stay f23, ko, keepO f23, nd, has, fun p hp => ⟨(hL' p hp).1, some_on f23 (hL' p hp).1 (hL' p hp).2.1, (hL' p hp).2.2⟩, hrun2, by omega⟩
  | true =>
    simp only [if_true] at hrun2 ⊢
    obtain ⟨kd, r3, hkk, hrun3⟩ := bind_ok hrun2
    obtain ⟨y, r4, hyy, hrun4⟩ := bind_ok hrun3
    obtain ⟨kk, r5, hko, hrun5⟩ := bind_ok hrun4
    obtain ⟨hz1, hz2⟩ := lift_ok hko
    subst hz2
    have hkd := keyOf_eq hz1
    subst hkd
    refine ⟨ρ', r2, _, ((e2.on RL f3).sub (fun j hj => hsub j (List.mem_append_right _ (List.mem_append_left _ hj)))).in0, g3, RL.on f3, W.ok hkk fun kv H3b f3b g3b o3b => ?_⟩
    have f3b : Fr C H3 H3b := f3b
    have g3b : RngAt C r3 H3b := g3b
    obtain ⟨Lk, kk1, _⟩ := Out.view o3b
    refine ⟨ρ', r3, _, (((e2.on RL f3).on (RL.on f3) f3b).sub (fun j hj => hsub j (List.mem_append_right _ (List.mem_append_right _ hj)))).in0, g3b, (RL.on f3).on f3b, W.ok hyy fun v H4 f4 g4 o4 => ?_⟩
    have f4 : Fr C H3b H4 := f4
    have g4 : RngAt C r5 H4 := g4
    obtain ⟨L2, bs, k1, k2, k3, k4⟩ := o4
    have f23 : Fr C H H3b := f23.trans f3b
    have f24 : Fr C H H4 := f23.trans f4
    have nb : ∀ p ∈ bs, p ≠ D0 := fun p hp e => some_on f23 nrD hDH (by rw [← e]; exact (k3 p hp).1)
    have stand : ∀ p ∈ as, H3b p ≠ none := fun p hp => some_on f23 (has p hp).2.1 (ow.stands p hp)
    have H3back : ∀ p, C.nr p → H3b p = none → Hs p = none := fun p hn z => none_back (fr.trans f23) hn z
    have nd2 : (as ++ bs).Nodup := List.nodup_append.mpr ⟨nd, k2, fun p hp q hq e => by
      subst e
      exact stand p hp (k3 p hq).1⟩
    have ksz : kvs.length = kds.length := by
      have := congrArg List.length ko.eq
      rw [List.length_map, List.length_map] at this
      exact this.symm
    obtain ⟨cs, es, pe, oc, ko'⟩ := put_own (L := fun p => L' p ∨ L2 p) (k := kk) (k1.mono (H' := upd H4 D0 (.dK (putK kvs kk v))) (fun _ => .inr) fun p u hp e => by
        have : p ≠ D0 := by
          rcases hp with hp | hp
          · rcases (k4 p hp).2.2.1 with z | z
            · exact z.elim (nLD p) (nMD p)
            · intro e'
              exact some_on f23 nrD hDH (by rw [← e']; exact z)
          · exact nb p hp
        rw [upd_ne this]
        exact e) ko.eq ko.nd (ow.mono (H' := upd H4 D0 (.dK (putK kvs kk v))) (L' := fun p => L' p ∨ L2 p) (fun _ => .inl) fun p u hp e => by
        rw [upd_ne (hp.elim (fun z => (hL' p z).2.2.2.2) fun z => (has p z).2.2)]
        exact f24 p u (hp.elim (fun z => (hL' p z).1) fun z => (has p z).2.1) e)
    have ndc : (cs ++ es).Nodup := pe.nodup_iff.mp nd2
    have mc : ∀ p ∈ cs, p ∈ as ∨ p ∈ bs := fun p hp => List.mem_append.mp (pe.mem_iff.mpr (List.mem_append_left _ hp))
    refine ⟨kvs, kk, own_keyD kk1, stay f24, by rw [ksz]; have := wk.size; omega, by omega, hi, r5, putD kds (keyD kk) y, putK kvs kk v, cs, fun p => L' p ∨ L2 p, rngD nrD g4, ?_, ?_, upd_same, ko', oc, (List.nodup_append.mp ndc).1, ?_, ?_, hrun5, Nat.le_trans (putD_len _ _ _) (by omega)⟩
    · exact wk.keep H _ hS fun p o hp e => by
        rw [upd_ne (nZD p hp)]
        exact f24 p o (wk.reg p hp).1 e
    · intro p o hn e
      rw [upd_ne (fun z => by rw [z, hD] at e; cases e)]
      exact f24 p o hn (fr p o hn e)
    · intro p hp
      rcases mc p hp with hp | hp
      · exact has p hp
      · exact ⟨H3back p (k3 p hp).2 (k3 p hp).1, (k3 p hp).2, nb p hp⟩
    · intro p hp
      rcases hp with hp | hp
      · obtain ⟨x1, x2', x3, x4, x5⟩ := hL' p hp
        refine ⟨x1, by rw [upd_ne x5]; exact some_on f24 x1 x2', x3, fun z => ?_, x5⟩
        rcases mc p z with z | z
        · exact x4 z
        · exact some_on f23 x1 x2' (k3 p z).1
      · obtain ⟨x1, x2', x3, x4⟩ := k4 p hp
        have hpD : p ≠ D0 := by
          rcases x3 with z | z
          · exact z.elim (nLD p) (nMD p)
          · intro e'
            exact some_on f23 nrD hDH (by rw [← e']; exact z)
        refine ⟨x1, by rw [upd_ne hpD]; exact x2', ?_, fun z => ?_, hpD⟩
        · rcases x3 with (z | z | ⟨z, _⟩) | z
          · exact .inl z
          · exact (wk.reg p z).2
          · exact .inr (hback p x1 (none_back fr x1 z))
          · exact .inr (hback p x1 (H3back p x1 z))
        · rcases mc p z with z | z
          · rcases x3 with (y | y | ⟨y, _⟩) | y
            · exact (LHs p y).2 (has p z).1
            · exact Zs p y (has p z).1
            · exact ow.stands p z y
            · exact stand p z y
          · exact x4 z
theorem dc_read {ρ : Slots} {σ : St} {H : Hp} {Q : VK} {r : Rg} {L : Addr → Prop} {K : PySem.W.Frag} {wi : TI} (hsub : ∀ j ∈ alt ++ (alk ++ ale), j ∈ os ++ al) (tgo : TgOk C K g gt os) (hrs : ∀ z' ∈ os, C.pn z' = none)
    (e : EnvE C L al ρ σ H) (gr : RngAt C r H) (hL : Reg C L H) (w : W C H L (O1 C (n + 1)) (dDc fi gt ft fk fe ρ r) Q) (hwi : wi = tIV C al fi) :
    tDc wi g (tET C.in0 alt ft) (tEV C.in0 nk alk fk) (tEV C.in0 n ale fe) os σ H fun v H' => Unl H H' (Q v) := by
  subst hwi
  refine ⟨ρ, r, L, e, gr, hL, ?_⟩
  unfold dDc M.bind at w
  cases q : fi ρ r with
  | bad => rw [q] at w; exact w.elim
  | ex c d r1 => rw [q] at w; exact w
  | ok ds r1 =>
    rw [q] at w
    intro J Hs S Z bg gs wk D0 hD
    unfold M.noEx at w
    cases q2 : compD gt ft fk fe ρ [] ds r1 with
    | bad => simp only [q2] at w; exact w.elim
    | ex c d r2 => simp only [q2] at w; exact w.elim
    | ok YS rE =>
      simp only [q2] at w
      obtain ⟨env, LHs, hback⟩ := bg.env e hL
      have nrD := gs.nr hD
      refine ⟨fun i m Hq => DcAt C H Hs L D0 n S gt ft fk fe ρ ds YS rE i m Hq, ⟨ds.length, ?_⟩, fun i m H' h => ?_⟩
      · refine ⟨by simp, Nat.zero_le _, r1, [], [], [], fun _ => False, rngD nrD gs, ?_, (Ext.new hD).fr, upd_same, ⟨rfl, .nil⟩, .nil, .nil, nofun, fun _ z => z.elim, q2, Nat.le_refl _⟩
        exact wk.keep Hs _ wk.now fun p o hp e => Ext.new hD p o e
      · by_cases hi : i < ds.length
        · refine .inr ?_
          obtain ⟨h1, h2⟩ := dc_turn (K := K) (nk := nk) C wk bg env LHs hsub hL hback hD ⟨r1, gs⟩ tgo hrs h hi
          refine ⟨h1, fun H'' => DcAt C H Hs L D0 n S gt ft fk fe ρ ds YS rE (i + 1) (m - 1) H'', fun H'' k => ⟨m - 1, ?_, k⟩, h2⟩
          have := h.im
          omega
        · have hie : i = ds.length := by have := h.le; omega
          subst hie
          clear hi
          obtain ⟨_, _, r, kds, kvs, as, L', gr', hS, fr, hDv, ko, ow, nd, has, hL', hrun, hlen⟩ := h
          refine .inl ⟨wk.stop H' hS, ?_⟩
          rw [List.drop_length] at hrun
          obtain ⟨hz1, hz2⟩ := pure_ok hrun
          subst hz1 hz2
          refine bg.fin (L := L) (n := n + 1) (H := H) (v := .ref D0) (d := .dict YS) (L' := L') (as := D0 :: as) fr gr' (.dct hDv (Nat.le_trans hlen wk.size) ko ow) (List.nodup_cons.mpr ⟨fun z => (has D0 z).2.2 rfl, nd⟩) (fun p hp => ?_) (fun p hp => ?_) fun H2 f2 g2 o2 => w _ _ f2 g2 o2
          · rcases List.mem_cons.mp hp with hp | hp
            · rw [hp]; exact ⟨hD, nrD⟩
            · exact ⟨(has p hp).1, (has p hp).2.1⟩
          · obtain ⟨x1, x2, x3, x4, x5⟩ := hL' p hp
            exact ⟨x1, x2, x3, fun z => (List.mem_cons.mp z).elim x5 x4⟩
theorem ev_dc (hc : X.calm = true) (hN : X.N.Nodup) (hi : PI X tg iter (tIV C al fi)) (ok : BlkOk X.N X.env.scope scope own) (hos : own.map (·.2) = os)
    (hg : ∀ (s : Shared) (H : Hp) (A : Addr) (cl : List (Str × Addr)) (fp : List Addr), PG (X.blk s H scope (compEnvC scope cl A X.env) fp) tg g) (tgo : TgOk C X.K g gt os) (hrs : ∀ z' ∈ os, C.pn z' = none) (hsub : ∀ j ∈ alt ++ (alk ++ ale), j ∈ os ++ al)
    (ht : ∀ (s : Shared) (H : Hp) (A : Addr) (cl : List (Str × Addr)) (fp : List Addr), PTs (X.blk s H scope (compEnvC scope cl A X.env) fp) ifs (tET C.in0 alt ft))
    (hk : ∀ (s : Shared) (H : Hp) (A : Addr) (cl : List (Str × Addr)) (fp : List Addr), PE (X.blk s H scope (compEnvC scope cl A X.env) fp) kx (tEV C.in0 nk alk fk))
    (he : ∀ (s : Shared) (H : Hp) (A : Addr) (cl : List (Str × Addr)) (fp : List Addr), PE (X.blk s H scope (compEnvC scope cl A X.env) fp) elt (tEV C.in0 n ale fe)) (hs : ∀ x, foldedSetIterable iter X.env x = pure x := by intro _; rfl) :
    PE X (.DictComp kx elt [⟨tg, iter, ifs, 0⟩] scope pos) (tEV C (n + 1) al (dDc fi gt ft fk fe)) := by
  subst hos
  exact impPE (pe_unl (pe_dc hc hN hi ok hg ht hk he hs)) fun σ H Q ⟨ρ, r, L, e, gr, hL, w⟩ => dc_read hsub tgo hrs e gr hL w rfl
end
end DL

/-! DLj: a def's slots, what each owns; plain statements. -/
namespace DL
open PySem L2

theorem pn_ne {C : Ct} {i j : Nat} {a : Addr} (hi : C.pn i = none) (hj : C.pn j = some a) : i ≠ j := fun e => by rw [e, hj] at hi; cases hi
/-- the heap at the def's entry, the region of its arguments -/
structure Bs where
  He : Hp
  G : Addr → Prop
inductive Sls (H : Hp) (L : Addr → Prop) : List Nat → Slots → St → List Addr → Prop
  | nil : Sls H L [] [] [] []
  | no {m ms ρ v σ A} : Sls H L ms ρ σ A → Sls H L (m :: ms) (none :: ρ) (v :: σ) A
  | has {m ms d ρ v σ as A} : Own H L m v d as → Sls H L ms ρ σ A → Sls H L (m :: ms) (some d :: ρ) (some v :: σ) (as ++ A)
structure SimS (C : Ct) (B : Bs) (m : List Nat) (ρ : Slots) (r : Rg) (σ : St) (H : Hp) (A : List Addr) (L : Addr → Prop) : Prop where
  sl : Sls H L m ρ σ A
  nd : A.Nodup
  rg : RngAt C r H
  rs : ∀ j a, C.pn j = some a → σ[j]? = some (some (.ref a)) ∧ ρ[j]? = some none
  own : ∀ p ∈ A, C.nr p ∧ B.He p = none
  reg : ∀ p, L p → C.nr p ∧ H p ≠ none ∧ (B.G p ∨ B.He p = none) ∧ p ∉ A
  base : Fr C B.He H
/-- from one state to a later one: what is not owned stands; what is owned later was owned or is new -/
structure Step (C : Ct) (A : List Addr) (H : Hp) (A' : List Addr) (H' : Hp) : Prop where
  st : ∀ p o, C.nr p → p ∉ A → H p = some o → H' p = some o
  ow : ∀ p ∈ A', p ∈ A ∨ H p = none
theorem Step.refl {C : Ct} {A : List Addr} {H : Hp} : Step C A H A H := ⟨fun _ _ _ _ e => e, fun _ h => .inl h⟩
theorem Step.of {C : Ct} {A : List Addr} {H H' : Hp} (f : Fr C H H') : Step C A H A H' := ⟨fun p o n _ e => f p o n e, fun _ h => .inl h⟩
theorem Step.trans {C : Ct} {A A1 A2 : List Addr} {H H1 H2 : Hp} (a : Step C A H A1 H1) (b : Step C A1 H1 A2 H2) (hn : ∀ p ∈ A2, C.nr p) : Step C A H A2 H2 := by
  have back : ∀ p, C.nr p → p ∉ A → H1 p = none → H p = none := fun p n h z => by
    cases q : H p with
    | none => rfl
    | some o => rw [a.st p o n h q] at z; cases z
  refine ⟨fun p o n h e => b.st p o n (fun z => ?_) (a.st p o n h e), fun p hp => ?_⟩
  · rcases a.ow p z with z | z
    · exact h z
    · rw [e] at z; cases z
  · by_cases hA : p ∈ A
    · exact .inl hA
    · rcases b.ow p hp with z | z
      · exact a.ow p z
      · exact .inr (back p (hn p hp) hA z)

section
variable {C : Ct} {B : Bs} {H H' : Hp} {L L' : Addr → Prop} {m : List Nat} {ρ : Slots} {σ : St} {A : List Addr} {r : Rg}
theorem Sls.mono : ∀ {m : List Nat} {ρ : Slots} {σ : St} {A : List Addr}, Sls H L m ρ σ A → (∀ p, L p → L' p) → (∀ p o, (L p ∨ p ∈ A) → H p = some o → H' p = some o) → Sls H' L' m ρ σ A
  | _, _, _, _, .nil, _, _ => .nil
  | _, _, _, _, .no h, k, f => .no (h.mono k f)
  | _, _, _, _, .has o h, k, f => .has (o.mono k fun p u hp e => f p u (hp.imp id fun z => List.mem_append_left _ z) e) (h.mono k fun p u hp e => f p u (hp.imp id fun z => List.mem_append_right _ z) e)
theorem Sls.lens : ∀ {m : List Nat} {ρ : Slots} {σ : St} {A : List Addr}, Sls H L m ρ σ A → ρ.length = σ.length ∧ m.length = σ.length
  | _, _, _, _, .nil => ⟨rfl, rfl⟩
  | _, _, _, _, .no h => ⟨congrArg Nat.succ h.lens.1, congrArg Nat.succ h.lens.2⟩
  | _, _, _, _, .has _ h => ⟨congrArg Nat.succ h.lens.1, congrArg Nat.succ h.lens.2⟩
theorem Sls.stands : ∀ {m : List Nat} {ρ : Slots} {σ : St} {A : List Addr}, Sls H L m ρ σ A → ∀ p ∈ A, H p ≠ none
  | _, _, _, _, .nil, _, z => nomatch z
  | _, _, _, _, .no h, p, z => h.stands p z
  | _, _, _, _, .has o h, p, z => (List.mem_append.mp z).elim (o.stands p) (h.stands p)
/-- a slot and the rest; what is put in its place -/
theorem Sls.at : ∀ {m : List Nat} {ρ : Slots} {σ : St} {A : List Addr}, Sls H L m ρ σ A → ∀ {i : Nat} {d : D}, ρ[i]? = some (some d) →
    ∃ v k as rest, σ[i]? = some (some v) ∧ m[i]? = some k ∧ Own H L k v d as ∧ A.Perm (as ++ rest) ∧
      ∀ {H' : Hp} {L' : Addr → Prop} {k' : Nat} {v' : V} {d' : D} {bs : List Addr}, (∀ p, L p → L' p) → (∀ p o, (L p ∨ p ∈ rest) → H p = some o → H' p = some o) → Own H' L' k' v' d' bs →
        ∃ A', Sls H' L' (m.set i k') (ρ.set i (some d')) (σ.set i (some v')) A' ∧ A'.Perm (bs ++ rest)
  | _, _, _, _, .nil, i, d, e => by cases e
  | _, _, _, _, @Sls.no _ _ m ms ρ v σ A h, 0, d, e => by cases e
  | _, _, _, _, @Sls.no _ _ m ms ρ v σ A h, i + 1, d, e => by
    obtain ⟨v', k, as, rest, h1, h2, h3, h4, h5⟩ := h.at (i := i) (d := d) e
    exact ⟨v', k, as, rest, h1, h2, h3, h4, fun {H' L' k' v' d' bs} a b o => let ⟨A', x, y⟩ := h5 a b o; ⟨A', .no x, y⟩⟩
  | _, _, _, _, @Sls.has _ _ m ms d0 ρ v σ as A o h, 0, d, e => by
    cases e
    exact ⟨v, m, as, A, rfl, rfl, o, .refl _, fun {H' L' k' v' d' bs} a b o' => ⟨bs ++ A, .has o' (h.mono a b), .refl _⟩⟩
  | _, _, _, _, @Sls.has _ _ m ms d0 ρ v σ as A o h, i + 1, d, e => by
    obtain ⟨v', k, as', rest, h1, h2, h3, h4, h5⟩ := h.at (i := i) (d := d) e
    refine ⟨v', k, as', as ++ rest, h1, h2, h3, ?_, fun {H' L' k' v' d' bs} a b o' => ?_⟩
    · refine (List.Perm.append_left as h4).trans ?_
      rw [← List.append_assoc, ← List.append_assoc]
      exact List.Perm.append_right rest List.perm_append_comm
    · obtain ⟨A', x, y⟩ := h5 a (fun p u hp => b p u (hp.imp id fun z => List.mem_append_right _ z)) o'
      refine ⟨as ++ A', .has (o.mono a fun p u hp => b p u (hp.imp id fun z => List.mem_append_left _ z)) x, ?_⟩
      refine (List.Perm.append_left as y).trans ?_
      rw [← List.append_assoc, ← List.append_assoc]
      exact List.Perm.append_right rest List.perm_append_comm
/-- a slot is set, whatever it held -/
theorem Sls.put : ∀ {m : List Nat} {ρ : Slots} {σ : St} {A : List Addr}, Sls H L m ρ σ A → ∀ (i : Nat) {k : Nat} {v : V} {d : D} {bs : List Addr}, (∀ p, L p → L' p) → (∀ p o, (L p ∨ p ∈ A) → H p = some o → H' p = some o) → Own H' L' k v d bs →
    ∃ A', Sls H' L' (m.set i k) (ρ.set i (some d)) (σ.set i (some v)) A' ∧ ((i < σ.length ∧ ∃ rest, A'.Perm (bs ++ rest) ∧ ∃ as, A.Perm (as ++ rest)) ∨ (σ.length ≤ i ∧ A' = A))
  | _, _, _, _, .nil, i, k, v, d, bs, a, b, o => ⟨[], .nil, .inr ⟨Nat.zero_le _, rfl⟩⟩
  | _, _, _, _, @Sls.no _ _ m ms ρ v0 σ A h, 0, k, v, d, bs, a, b, o => ⟨bs ++ A, .has o (h.mono a b), .inl ⟨Nat.zero_lt_succ _, A, .refl _, [], .refl _⟩⟩
  | _, _, _, _, @Sls.no _ _ m ms ρ v0 σ A h, i + 1, k, v, d, bs, a, b, o => by
    obtain ⟨A', x, y⟩ := h.put i a b o
    refine ⟨A', .no x, ?_⟩
    rcases y with ⟨y1, y2⟩ | ⟨y1, y2⟩
    · exact .inl ⟨Nat.succ_lt_succ y1, y2⟩
    · exact .inr ⟨Nat.succ_le_succ y1, y2⟩
  | _, _, _, _, @Sls.has _ _ m ms d0 ρ v0 σ as A o0 h, 0, k, v, d, bs, a, b, o => ⟨bs ++ A, .has o (h.mono a fun p u hp => b p u (hp.imp id fun z => List.mem_append_right _ z)), .inl ⟨Nat.zero_lt_succ _, A, .refl _, as, .refl _⟩⟩
  | _, _, _, _, @Sls.has _ _ m ms d0 ρ v0 σ as A o0 h, i + 1, k, v, d, bs, a, b, o => by
    obtain ⟨A', x, y⟩ := h.put i a (fun p u hp => b p u (hp.imp id fun z => List.mem_append_right _ z)) o
    refine ⟨as ++ A', .has (o0.mono a fun p u hp => b p u (hp.imp id fun z => List.mem_append_left _ z)) x, ?_⟩
    rcases y with ⟨y1, rest, y2, zs, y3⟩ | ⟨y1, y2⟩
    · refine .inl ⟨Nat.succ_lt_succ y1, as ++ rest, ?_, zs, ?_⟩
      · refine (List.Perm.append_left as y2).trans ?_
        rw [← List.append_assoc, ← List.append_assoc]
        exact List.Perm.append_right rest List.perm_append_comm
      · refine (List.Perm.append_left as y3).trans ?_
        rw [← List.append_assoc, ← List.append_assoc]
        exact List.Perm.append_right rest List.perm_append_comm
    · exact .inr ⟨Nat.succ_le_succ y1, by rw [y2]⟩
theorem SimS.regL (s : SimS C B m ρ r σ H A L) : Reg C L H := fun p hp => ⟨(s.reg p hp).1, (s.reg p hp).2.1⟩
/-- what an expression may read -/
theorem SimS.env (s : SimS C B m ρ r σ H A L) {al : List Nat} (hal : ∀ i ∈ al, m[i]? = some 0) : EnvE C L al ρ σ H := by
  refine ⟨fun i d h => ?_, fun j a h => (s.rs j a h).1, s.sl.lens.1⟩
  obtain ⟨v, k, as, rest, h1, h2, h3, h4, _⟩ := s.sl.at h
  refine ⟨v, h1, h3.view (fun p hp => ⟨(s.reg p hp).1, (s.reg p hp).2.1⟩) (fun p hp => ?_), fun hi => ?_⟩
  · have hA := h4.mem_iff.mpr (List.mem_append_left _ hp)
    exact ⟨(s.own p hA).1, s.sl.stands p hA⟩
  · have e := hal i hi
    rw [h2] at e; cases e
    cases h3.zero rfl
    exact h3
theorem SimS.on (s : SimS C B m ρ r σ H A L) {r' : Rg} (f : Fr C H H') (g : RngAt C r' H') : SimS C B m ρ r' σ H' A L :=
  ⟨s.sl.mono (fun _ h => h) fun p u hp e => f p u (hp.elim (fun z => (s.reg p z).1) fun z => (s.own p z).1) e, s.nd, g, s.rs, s.own, fun p hp => ⟨(s.reg p hp).1, some_on f (s.reg p hp).1 (s.reg p hp).2.1, (s.reg p hp).2.2⟩, s.base.trans f⟩
/-- what came out is stored in a slot -/
theorem SimS.put (s : SimS C B m ρ r σ H A L) {r' : Rg} {i n : Nat} {v : V} {d : D} (hi : C.pn i = none) (f : Fr C H H') (g : RngAt C r' H') (o : Out C H L H' n v d) :
    ∃ A' L', SimS C B (m.set i n) (setS ρ i d) r' (σ.set i (some v)) H' A' L' ∧ Step C A H A' H' ∧ ∀ p, L p → L' p := by
  obtain ⟨M, as, k1, k2, k3, k4⟩ := o
  have regL := s.regL
  have s' := s.on f g
  obtain ⟨A', hs, hA⟩ := s'.sl.put (L' := fun p => L p ∨ M p) (H' := H') i (fun _ => .inl) (fun _ _ _ e => e) (k1.mono (fun _ => .inr) fun _ _ _ e => e)
  have nas : ∀ p ∈ as, p ∉ A := fun p hp z => s.sl.stands p z (k3 p hp).1
  have fresh : ∀ p, C.nr p → H p = none → B.He p = none := fun p hn z => none_back s.base hn z
  have memA : ∀ p ∈ A', p ∈ as ∨ p ∈ A := fun p hp => by
    rcases hA with ⟨_, rest, y2, zs, y3⟩ | ⟨_, y2⟩
    · rcases List.mem_append.mp (y2.mem_iff.mp hp) with z | z
      · exact .inl z
      · exact .inr (y3.mem_iff.mpr (List.mem_append_right _ z))
    · exact .inr (by rw [← y2]; exact hp)
  refine ⟨A', fun p => L p ∨ M p, ⟨hs, ?_, g, fun jr a hjr => ?_, fun p hp => ?_, fun p hp => ?_, s'.base⟩, ⟨fun p o n _ e => f p o n e, fun p hp => (memA p hp).elim (fun z => .inr (k3 p z).1) .inl⟩, fun _ => .inl⟩
  · rcases hA with ⟨_, rest, y2, zs, y3⟩ | ⟨_, y2⟩
    · refine y2.nodup_iff.mpr (List.nodup_append.mpr ⟨k2, (List.nodup_append.mp (y3.nodup_iff.mp s.nd)).2.1, fun p hp q hq e => ?_⟩)
      subst e
      exact nas p hp (y3.mem_iff.mpr (List.mem_append_right _ hq))
    · rw [y2]; exact s.nd
  · have ne := pn_ne hi hjr
    exact ⟨by rw [List.getElem?_set_ne ne]; exact (s.rs jr a hjr).1, by unfold setS; rw [List.getElem?_set_ne ne]; exact (s.rs jr a hjr).2⟩
  · rcases memA p hp with z | z
    · exact ⟨(k3 p z).2, fresh p (k3 p z).2 (k3 p z).1⟩
    · exact s.own p z
  · rcases hp with hp | hp
    · obtain ⟨a, b, c, e⟩ := s'.reg p hp
      refine ⟨a, b, c, fun z => (memA p z).elim (fun y => (s.reg p hp).2.1 (k3 p y).1) e⟩
    · obtain ⟨a, b, c, e⟩ := k4 p hp
      refine ⟨a, b, c.elim (fun z => (s.reg p z).2.2.1) fun z => .inr (fresh p a z), fun z => (memA p z).elim e fun y => ?_⟩
      rcases c with c | c
      · exact (s.reg p c).2.2.2 y
      · exact s.sl.stands p y c
/-- a slot is read alone from now on (its level falls) -/
theorem SimS.low (s : SimS C B m ρ r σ H A L) {m' : List Nat} (hm : ∀ (i k : Nat), m[i]? = some k → ∃ k', m'[i]? = some k' ∧ k' ≤ k) (hl : m'.length = m.length) : ∃ A' L', SimS C B m' ρ r σ H A' L' ∧ (∀ p ∈ A', p ∈ A) ∧ ∀ p, L p → L' p := by
  have main : ∀ {m : List Nat} {ρ : Slots} {σ : St} {A : List Addr}, Sls H L m ρ σ A → ∀ (m' : List Nat), (∀ (i k : Nat), m[i]? = some k → ∃ k', m'[i]? = some k' ∧ k' ≤ k) → m'.length = m.length →
      ∃ bs cs, A.Perm (bs ++ cs) ∧ ∀ L' : Addr → Prop, (∀ p, L p → L' p) → (∀ p ∈ cs, L' p) → Sls H L' m' ρ σ bs := by
    intro m ρ σ A h
    induction h with
    | nil =>
      intro m' _ hl
      cases m' with
      | nil => exact ⟨[], [], .nil, fun _ _ _ => .nil⟩
      | cons _ _ => cases hl
    | @no k ms ρ v σ A h ih =>
      intro m' hm hl
      cases m' with
      | nil => cases hl
      | cons k' ms' =>
        obtain ⟨bs, cs, pe, g⟩ := ih ms' (fun i k h => hm (i + 1) k h) (Nat.succ.inj hl)
        exact ⟨bs, cs, pe, fun L' a b => .no (g L' a b)⟩
    | @has k ms d ρ v σ as A o h ih =>
      intro m' hm hl
      cases m' with
      | nil => cases hl
      | cons k' ms' =>
        obtain ⟨bs, cs, pe, g⟩ := ih ms' (fun i k h => hm (i + 1) k h) (Nat.succ.inj hl)
        obtain ⟨k'', e, hk⟩ := hm 0 k rfl
        cases e
        obtain ⟨b1, c1, p1, g1⟩ := o.wk k' hk
        refine ⟨b1 ++ bs, c1 ++ cs, (p1.append pe).trans ?_, fun L' a b => .has (g1 L' a fun p hp => b p (List.mem_append_left _ hp)) (g L' a fun p hp => b p (List.mem_append_right _ hp))⟩
        rw [List.append_assoc, List.append_assoc]
        refine List.Perm.append_left b1 ?_
        rw [← List.append_assoc, ← List.append_assoc]
        exact List.Perm.append_right cs List.perm_append_comm
  obtain ⟨bs, cs, pe, g⟩ := main s.sl m' hm hl
  have nd : (bs ++ cs).Nodup := pe.nodup_iff.mp s.nd
  have mb : ∀ p ∈ bs, p ∈ A := fun p hp => pe.mem_iff.mpr (List.mem_append_left _ hp)
  refine ⟨bs, fun p => L p ∨ p ∈ cs, ⟨g _ (fun _ => .inl) fun _ => .inr, (List.nodup_append.mp nd).1, s.rg, s.rs, fun p hp => s.own p (mb p hp), fun p hp => ?_, s.base⟩, mb, fun _ => .inl⟩
  rcases hp with hp | hp
  · obtain ⟨a, b, c, e⟩ := s.reg p hp
    exact ⟨a, b, c, fun z => e (mb p z)⟩
  · have hA := pe.mem_iff.mpr (List.mem_append_right bs hp)
    exact ⟨(s.own p hA).1, s.sl.stands p hA, .inr (s.own p hA).2, fun z => (List.nodup_append.mp nd).2.2 p z p hp rfl⟩
end

/-! ### what a statement's reading asks -/
inductive Fl where
  | nx (ρ : Slots)
  | rt (d : D)
abbrev DenS := Slots → M Fl
def WS (C : Ct) (B : Bs) (kr : Nat) (m' : List Nat) (A : List Addr) (H : Hp) (L : Addr → Prop) (D : Ends) (res : Res Fl) : Prop := match res with
  | .ok (.nx ρ') r' => ∀ σ' H' A' L', SimS C B m' ρ' r' σ' H' A' L' → Step C A H A' H' → (∀ p, L p → L' p) → D.nx σ' H'
  | .ok (.rt d) r' => ∀ v H', Fr C B.He H' → RngAt C r' H' → Out C B.He B.G H' kr v d → (∀ p o, C.nr p → p ∉ A → H p = some o → H' p = some o) → D.rt v H'
  | .ex c d r' => WEx C B.He c d r'
  | .bad => False
def tDS (C : Ct) (B : Bs) (kr : Nat) (m m' : List Nat) (f : DenS) : TS := fun D σ H => ∃ (ρ : Slots) (r : Rg) (A : List Addr) (L : Addr → Prop), SimS C B m ρ r σ H A L ∧ WS C B kr m' A H L D (f ρ r)
section
variable {X : Cx} {C : Ct} {B : Bs} {kr n : Nat} {m m' m1 m2 : List Nat} {al : List Nat} {f g : DenS} {fe : Den} {st : Stmt} {sts : List Stmt} {e : Expr} {pos : Pos}
theorem WEx.inner {H : Hp} {L : Addr → Prop} {c : Str} {d : D} {r r0 : Rg} {m : List Nat} {ρ : Slots} {σ : St} {A : List Addr} (s : SimS C B m ρ r0 σ H A L) (w : WEx C B.He c d r) : WEx C H c d r := WEx.on w s.base ⟨_, s.rg⟩
/-- an expression within a statement -/
theorem stE {α β γ : Type} {O : Hp → Hp → (Addr → Prop) → α → β → Prop} {fe : Slots → M α} {k : α → Slots → M Fl} {ρ : Slots} {r : Rg} {σ : St} {H : Hp} {A : List Addr} {L : Addr → Prop} {D : Ends} {Q : β → Hp → Prop} (s : SimS C B m ρ r σ H A L) (hal : ∀ i ∈ al, m[i]? = some 0)
    (w : WS C B kr m' A H L D (M.bind (fe ρ) (fun a => k a ρ) r)) (h : ∀ a r1 v H1, fe ρ r = .ok a r1 → Fr C H H1 → RngAt C r1 H1 → O H H1 L a v → SimS C B m ρ r1 σ H1 A L → WS C B kr m' A H L D (k a ρ r1) → Q v H1) : tG C al O fe σ H Q := by
  refine ⟨ρ, r, L, s.env hal, s.rg, s.regL, ?_⟩
  unfold M.bind at w
  cases q : fe ρ r with
  | ok a r1 =>
    rw [q] at w
    exact fun v H1 f1 g1 o => h a r1 v H1 q f1 g1 o (s.on f1 g1) w
  | ex c d r1 =>
    rw [q] at w
    exact WEx.inner s w
  | bad =>
    rw [q] at w
    exact w.elim
/-! #### blocks -/
def dsNil : DenS := fun ρ => M.pure (.nx ρ)
def dsSeq (f g : DenS) : DenS := fun ρ => M.bind (f ρ) fun fl => match fl with
  | .nx ρ' => g ρ'
  | .rt d => M.pure (.rt d)
theorem ds_nil : PSs X [] (tDS C B kr m m dsNil) := impPSs pss_nil fun D σ H ⟨ρ, r, A, L, s, w⟩ => w σ H A L s Step.refl fun _ h => h
theorem WS.step {H H1 : Hp} {A A1 : List Addr} {L L1 : Addr → Prop} {D : Ends} {res : Res Fl} (w : WS C B kr m' A H L D res) (st : Step C A H A1 H1) (hL : ∀ p, L p → L1 p) : WS C B kr m' A1 H1 L1 D res := by
  cases res with
  | ok fl r =>
    cases fl with
    | nx ρ' => exact fun σ' H' A' L' s' st' hL' => w σ' H' A' L' s' (st.trans st' fun p hp => (s'.own p hp).1) fun p hp => hL' p (hL p hp)
    | rt d =>
      refine fun v H' f g o k => w v H' f g o fun p u n h e => k p u n (fun z => ?_) (st.st p u n h e)
      rcases st.ow p z with z | z
      · exact h z
      · rw [e] at z; cases z
  | ex c d r => exact w
  | bad => exact w
theorem ds_cons (h1 : PS X st (tDS C B kr m m1 f)) (h2 : PSs X sts (tDS C B kr m1 m' g)) : PSs X (st :: sts) (tDS C B kr m m' (dsSeq f g)) := by
  refine impPSs (pss_cons h1 h2) fun D σ H ⟨ρ, r, A, L, s, w⟩ => ⟨ρ, r, A, L, s, ?_⟩
  unfold dsSeq M.bind at w
  cases q : f ρ r with
  | ok fl r1 =>
    rw [q] at w
    cases fl with
    | nx ρ' => exact fun σ' H' A' L' s' st' hL' => ⟨ρ', r1, A', L', s', w.step st' hL'⟩
    | rt d => exact w
  | ex c d r1 => rw [q] at w; exact w
  | bad => rw [q] at w; exact w.elim
theorem ds_one (h1 : PS X st (tDS C B kr m m' f)) : PSs X [st] (tDS C B kr m m' f) := pss_one h1
/-- levels fall: before a block, before a statement, behind a statement -/
def lowOk (m m' : List Nat) : Bool := m.length == m'.length && (m.zip m').all fun p => decide (p.2 ≤ p.1)
theorem lowOk_of {m m' : List Nat} (h : lowOk m m' = true) : (∀ (i k : Nat), m[i]? = some k → ∃ k', m'[i]? = some k' ∧ k' ≤ k) ∧ m'.length = m.length := by
  unfold lowOk at h
  rw [Bool.and_eq_true] at h
  obtain ⟨h1, h2⟩ := h
  have hl : m.length = m'.length := by simpa using h1
  refine ⟨fun i k e => ?_, hl.symm⟩
  have hi : i < m.length := (List.getElem?_eq_some_iff.mp e).1
  have hi' : i < m'.length := by omega
  refine ⟨m'[i], List.getElem?_eq_getElem hi', ?_⟩
  have hz : (m.zip m')[i]? = some (k, m'[i]) := by
    rw [List.getElem?_zip_eq_some]
    exact ⟨e, List.getElem?_eq_getElem hi'⟩
  have := List.all_eq_true.mp h2 (k, m'[i]) (List.mem_of_getElem? hz)
  exact of_decide_eq_true this
theorem low_pre {D : Ends} {σ : St} {H : Hp} (hm : lowOk m m1 = true) (q : tDS C B kr m m' f D σ H) : tDS C B kr m1 m' f D σ H := by
  obtain ⟨ρ, r, A, L, s, w⟩ := q
  obtain ⟨A', L', s', h1, h2⟩ := s.low (lowOk_of hm).1 (lowOk_of hm).2
  exact ⟨ρ, r, A', L', s', w.step ⟨fun p o _ _ e => e, fun p hp => .inl (h1 p hp)⟩ h2⟩
theorem ds_low (hm : lowOk m m1 = true) (h : PSs X sts (tDS C B kr m1 m' f)) : PSs X sts (tDS C B kr m m' f) := impPSs h fun D σ H q => low_pre hm q
theorem ds_low1 (hm : lowOk m m1 = true) (h : PS X st (tDS C B kr m1 m' f)) : PS X st (tDS C B kr m m' f) := impPS h fun D σ H q => low_pre hm q
theorem low_post {D : Ends} {σ : St} {H : Hp} (hm : lowOk m1 m' = true) (q : tDS C B kr m m' f D σ H) : tDS C B kr m m1 f D σ H := by
  obtain ⟨ρ, r, A, L, s, w⟩ := q
  refine ⟨ρ, r, A, L, s, ?_⟩
  cases q : f ρ r with
  | ok fl r1 =>
    rw [q] at w
    cases fl with
    | nx ρ' =>
      intro σ' H' A' L' s' st' hL'
      obtain ⟨A2, L2, s2, h1, h2⟩ := s'.low (lowOk_of hm).1 (lowOk_of hm).2
      exact w σ' H' A2 L2 s2 ⟨st'.st, fun p hp => st'.ow p (h1 p hp)⟩ fun p hp => h2 p (hL' p hp)
    | rt d => exact w
  | ex c d r1 => rw [q] at w; exact w
  | bad => rw [q] at w; exact w.elim
theorem ds_post (hm : lowOk m1 m' = true) (h : PSs X sts (tDS C B kr m m1 f)) : PSs X sts (tDS C B kr m m' f) := impPSs h fun D σ H q => low_post hm q
theorem ds_post1 (hm : lowOk m1 m' = true) (h : PS X st (tDS C B kr m m1 f)) : PS X st (tDS C B kr m m' f) := impPS h fun D σ H q => low_post hm q
/-! #### names -/
def zeros (m al : List Nat) : Bool := al.all fun i => m[i]? == some 0
theorem zeros_of (h : zeros m al = true) : ∀ i ∈ al, m[i]? = some 0 := fun i hi => by
  have := List.all_eq_true.mp h i hi
  simpa using this
def dsAsg (i : Nat) (fe : Den) : DenS := fun ρ => M.bind (fe ρ) fun d => M.pure (.nx (setS ρ i d))
theorem ds_asg {i : Nat} {x : Str} {pos' : Pos} (hN : X.N.Nodup) (hi : X.N[i]? = some x) (hx : Loc X.env.scope x) (hrs : C.pn i = none) (hal : zeros m al = true) (he : PE X e (tEV C n al fe)) (hs : swapsWith e (some (.Name x pos')) pos.line X.env = pure false := by rfl)
    (hf : X.fn x = true ∨ X.env.scope.names.lookup x = some .local := by first | exact .inl rfl | exact .inr rfl | assumption) : PS X (.Assign [.Name x pos'] e pos) (tDS C B kr m (m.set i n) (dsAsg i fe)) := by
  refine impPS (ps_set hN hi hx he hs hf) fun D σ H ⟨ρ, r, A, L, s, w⟩ => ?_
  refine stE (γ := Unit) (k := fun d ρ => M.pure (.nx (setS ρ i d))) s (zeros_of hal) w fun d r1 v H1 q f1 g1 o s1 w1 => ?_
  obtain ⟨A', L', s', st', hL'⟩ := s.put hrs f1 g1 o
  exact w1 _ _ _ _ s' st' hL'
def dsExpr (fe : Den) : DenS := fun ρ => M.bind (fe ρ) fun _ => M.pure (.nx ρ)
theorem ds_expr (hal : zeros m al = true) (he : PE X e (tEV C n al fe)) (hs : swapsWith e none pos.line X.env = pure false := by rfl) : PS X (.Expr e pos) (tDS C B kr m m (dsExpr fe)) := by
  refine impPS (ps_expr he hs) fun D σ H ⟨ρ, r, A, L, s, w⟩ => ?_
  refine stE (γ := Unit) (k := fun d ρ => M.pure (.nx ρ)) s (zeros_of hal) w fun d r1 v H1 q f1 g1 o s1 w1 => ?_
  exact w1 _ _ _ _ s1 (Step.of f1) fun _ h => h
def dsRet (fe : Den) : DenS := fun ρ => M.bind (fe ρ) fun d => M.pure (.rt d)
theorem ds_ret (hal : zeros m al = true) (he : PE X e (tEV C kr al fe)) : PS X (.Return (some e) pos) (tDS C B kr m m' (dsRet fe)) := by
  refine impPS (ps_ret he) fun D σ H ⟨ρ, r, A, L, s, w⟩ => ?_
  refine stE (γ := Unit) (k := fun d ρ => M.pure (.rt d)) s (zeros_of hal) w fun d r1 v H1 q f1 g1 o s1 w1 => ?_
  exact w1 v H1 s1.base g1 (Out.pre s.base (fun p hp => (s.reg p hp).2.2.1) o) fun p u n _ e => f1 p u n e
/-- return of a local that is owned -/
def dsRetN (i : Nat) : DenS := fun ρ => M.bind (dN i ρ) fun d => M.pure (.rt d)
theorem ds_retN {i : Nat} {x : Str} {p : Pos} {k : Nat} (hN : X.N[i]? = some x) (hv : Vis X.env.scope x) (hm : m[i]? = some k) (hk : kr ≤ k) (hd : (x == ("__debug__" : Str)) = false := by decide) (hcd : (x == ("__classdict__" : Str)) = false := by decide) : PS X (.Return (some (.Name x p)) pos) (tDS C B kr m m' (dsRetN i)) := by
  refine impPS (ps_ret (pe_var hN hv hd hcd)) fun D σ H ⟨ρ, r, A, L, s, w⟩ => ?_
  unfold dsRetN M.bind dN at w
  cases q : ρ[i]? with
  | none => rw [q] at w; exact w.elim
  | some o =>
    rw [q] at w
    cases o with
    | none => exact w.elim
    | some d =>
      obtain ⟨v, k', as, rest, h1, h2, h3, h4, _⟩ := s.sl.at q
      rw [hm] at h2; cases h2
      refine ⟨v, h1, w v H s.base s.rg (Out.wk ⟨L, as, h3, (List.nodup_append.mp (h4.nodup_iff.mp s.nd)).1, fun p hp => ?_, fun p hp => ?_⟩ hk) fun p u n _ e => e⟩
      · have hA := h4.mem_iff.mpr (List.mem_append_left _ hp)
        exact ⟨(s.own p hA).2, (s.own p hA).1⟩
      · obtain ⟨a, b, c, e⟩ := s.reg p hp
        exact ⟨a, b, c, fun z => e (h4.mem_iff.mpr (List.mem_append_left _ z))⟩
theorem ds_pass : PS X (.Pass pos) (tDS C B kr m m dsNil) := impPS ps_pass fun D σ H ⟨ρ, r, A, L, s, w⟩ => w σ H A L s Step.refl fun _ h => h
theorem ds_doc {x : Str} {j : Nat} {pos' : Pos} : PS X (.Expr (.Constant (.str x) j pos) pos') (tDS C B kr m m dsNil) := impPS ps_doc fun D σ H ⟨ρ, r, A, L, s, w⟩ => w σ H A L s Step.refl fun _ h => h
/-- never come to -/
def dsBad : DenS := fun _ => M.bad
theorem ds_never : PS X st (tDS C B kr m m' dsBad) := impPS ps_never fun D σ H ⟨ρ, r, A, L, s, w⟩ => w.elim
def dsIf (c : Slots → M Bool) (f g : DenS) : DenS := fun ρ => M.bind (c ρ) fun b => if b = true then f ρ else g ρ
theorem ds_if {c : Expr} {a b : List Stmt} {tc : Slots → M Bool} (hc : PT X c (tET C [] tc)) (ha : PSs X a (tDS C B kr m m' f)) (hb : PSs X b (tDS C B kr m m' g)) : PS X (.If c a b pos) (tDS C B kr m m' (dsIf tc f g)) := by
  refine impPS (ps_if hc ha hb) fun D σ H ⟨ρ, r, A, L, s, w⟩ => ?_
  refine stE (γ := Unit) (k := fun b ρ => if b = true then f ρ else g ρ) s (al := []) (fun _ z => nomatch z) w fun d r1 v H1 q f1 g1 o s1 w1 => ?_
  have o' : v = d := o
  subst o'
  cases v with
  | true =>
    simp only [if_true] at w1 ⊢
    exact ⟨ρ, r1, A, L, s1, w1.step (Step.of f1) fun _ h => h⟩
  | false =>
    simp only [Bool.false_eq_true, if_false] at w1 ⊢
    exact ⟨ρ, r1, A, L, s1, w1.step (Step.of f1) fun _ h => h⟩
end
end DL

/-! DLk: statements that change what a slot owns; assignments of several names. -/
namespace DL
open PySem L2

section
variable {C : Ct} {B : Bs} {H H' H1 : Hp} {L L' M : Addr → Prop} {m : List Nat} {ρ : Slots} {σ : St} {A : List Addr} {r r1 : Rg}
theorem set_same {α : Type} : ∀ {l : List α} {i : Nat} {x : α}, l[i]? = some x → l.set i x = l
  | [], _, _, h => by cases h
  | a :: l, 0, x, h => by cases h; rfl
  | a :: l, i + 1, x, h => by
    rw [List.set_cons_succ, set_same (l := l) (i := i) h]
theorem set_none {ρ : Slots} {i : Nat} {d0 : D} (h : ρ[i]? = some (some d0)) (d : Option D) : ∀ j : Nat, ρ[j]? = some none → (ρ.set i d)[j]? = some none := fun j hj => by
  rw [List.getElem?_set_ne (fun e => by rw [e, hj] at h; cases h)]
  exact hj
/-- a value that stands is put into a slot -/
theorem SimS.putV (s : SimS C B m ρ r σ H A L) {i n : Nat} {v : V} {d : D} {as : List Addr} (hi : C.pn i = none) (o : Own H M n v d as) (nd : as.Nodup) (ha : ∀ p ∈ as, C.nr p ∧ B.He p = none ∧ p ∉ A ∧ ¬ L p)
    (hM : ∀ p, M p → C.nr p ∧ H p ≠ none ∧ (B.G p ∨ B.He p = none) ∧ p ∉ as ∧ p ∉ A) :
    ∃ A' L', SimS C B (m.set i n) (setS ρ i d) r (σ.set i (some v)) H A' L' ∧ (∀ p ∈ A', p ∈ A ∨ p ∈ as) ∧ (∀ p, L p → L' p) ∧ ∀ p, L' p → L p ∨ M p := by
  obtain ⟨A', hs, hA⟩ := s.sl.put (L' := fun p => L p ∨ M p) (H' := H) i (fun _ => .inl) (fun _ _ _ e => e) (o.mono (fun _ => .inr) fun _ _ _ e => e)
  have memA : ∀ p ∈ A', p ∈ as ∨ p ∈ A := fun p hp => by
    rcases hA with ⟨_, rest, y2, zs, y3⟩ | ⟨_, y2⟩
    · rcases List.mem_append.mp (y2.mem_iff.mp hp) with z | z
      · exact .inl z
      · exact .inr (y3.mem_iff.mpr (List.mem_append_right _ z))
    · exact .inr (by rw [← y2]; exact hp)
  refine ⟨A', fun p => L p ∨ M p, ⟨hs, ?_, s.rg, fun jr a hjr => ?_, fun p hp => ?_, fun p hp => ?_, s.base⟩, fun p hp => (memA p hp).symm, fun _ => .inl, fun _ h => h⟩
  · rcases hA with ⟨_, rest, y2, zs, y3⟩ | ⟨_, y2⟩
    · refine y2.nodup_iff.mpr (List.nodup_append.mpr ⟨nd, (List.nodup_append.mp (y3.nodup_iff.mp s.nd)).2.1, fun p hp q hq e => ?_⟩)
      subst e
      exact (ha p hp).2.2.1 (y3.mem_iff.mpr (List.mem_append_right _ hq))
    · rw [y2]; exact s.nd
  · have ne := pn_ne hi hjr
    exact ⟨by rw [List.getElem?_set_ne ne]; exact (s.rs jr a hjr).1, by unfold setS; rw [List.getElem?_set_ne ne]; exact (s.rs jr a hjr).2⟩
  · rcases memA p hp with z | z
    · exact ⟨(ha p z).1, (ha p z).2.1⟩
    · exact s.own p z
  · rcases hp with hp | hp
    · obtain ⟨a, b, c, e⟩ := s.reg p hp
      exact ⟨a, b, c, fun z => (memA p z).elim (fun y => (ha p y).2.2.2 hp) e⟩
    · obtain ⟨a, b, c, e, g⟩ := hM p hp
      exact ⟨a, b, c, fun z => (memA p z).elim e g⟩
/-- a list within what a slot owns: q its place; what the whole is when the list has become another one -/
structure Foc (H : Hp) (L : Addr → Prop) (n : Nat) (v : V) (d : D) (as : List Addr) (k : Nat) (q : Addr) (ws : List V) (es : List D) (a2 a3 : List Addr) (d' : List D → D) : Prop where
  pe : as.Perm ((q :: a2) ++ a3)
  cell : H q = some (.lst ws)
  size : es.length ≤ sizeLine
  ow : Owns H L k ws es a2
  back : ∀ {H' : Hp} {L' : Addr → Prop} {es' : List D} {b2 : List Addr}, (∀ p, L p → L' p) → (∀ p o, (L p ∨ p ∈ a3) → H p = some o → H' p = some o) → Own H' L' (k + 1) (.ref q) (.list es') (q :: b2) →
    ∃ as2, as2.Perm ((q :: b2) ++ a3) ∧ Own H' L' n v (d' es') as2
theorem Foc.top {k : Nat} {v : V} {ds : List D} {as : List Addr} (o : Own H L (k + 1) v (.list ds) as) : ∃ q ws a2, v = .ref q ∧ Foc H L (k + 1) v (.list ds) as k q ws ds a2 [] .list := by
  cases o with
  | @lst _ q ws _ a2 h1 h2 h3 =>
    exact ⟨q, ws, a2, rfl, ⟨by rw [List.append_nil], h1, h2, h3, fun _ _ o => ⟨_, by rw [List.append_nil], o⟩⟩⟩
/-- an item of several, and another one in its place -/
theorem Owns.setAt : ∀ {n : Nat} {vs : List V} {ds : List D} {as : List Addr}, Owns H L n vs ds as → ∀ {i : Nat} {d : D}, ds[i]? = some d →
    ∃ v a2 a3, vs[i]? = some v ∧ as.Perm (a2 ++ a3) ∧ Own H L n v d a2 ∧ ∀ {H' : Hp} {L' : Addr → Prop} {v' : V} {d' : D} {b2 : List Addr}, (∀ p, L p → L' p) → (∀ p o, (L p ∨ p ∈ a3) → H p = some o → H' p = some o) → Own H' L' n v' d' b2 →
      ∃ as2, as2.Perm (b2 ++ a3) ∧ Owns H' L' n (vs.set i v') (ds.set i d') as2
  | _, _, _, _, .nil, i, d, e => by cases e
  | _, _, _, _, @Owns.cons _ _ n v vs d ds as bs a b, 0, _, e => by
    cases e
    exact ⟨v, as, bs, rfl, .refl _, a, fun h1 h2 o => ⟨_, .refl _, .cons o (b.mono h1 h2)⟩⟩
  | _, _, _, _, @Owns.cons _ _ n v vs d ds as bs a b, i + 1, d0, e => by
    obtain ⟨u, a2, a3, h1, h2, h3, h4⟩ := b.setAt (i := i) e
    refine ⟨u, a2, as ++ a3, h1, ?_, h3, fun {H' L' v' d' b2} k1 k2 o => ?_⟩
    · refine (List.Perm.append_left as h2).trans ?_
      rw [← List.append_assoc, ← List.append_assoc]
      exact List.Perm.append_right a3 List.perm_append_comm
    · obtain ⟨as2, x, y⟩ := h4 k1 (fun p o hp => k2 p o (hp.imp id fun z => List.mem_append_right _ z)) o
      refine ⟨as ++ as2, ?_, .cons (a.mono k1 fun p o hp => k2 p o (hp.imp id fun z => List.mem_append_left _ z)) y⟩
      refine (List.Perm.append_left as x).trans ?_
      rw [← List.append_assoc, ← List.append_assoc]
      exact List.Perm.append_right a3 List.perm_append_comm
/-- a list in a list -/
theorem Foc.list {k j : Nat} {v : V} {ds es : List D} {as : List Addr} (o : Own H L (k + 2) v (.list ds) as) (hj : ds[j]? = some (.list es)) : ∃ p vs q ws a2 a3, v = .ref p ∧ H p = some (.lst vs) ∧ vs[j]? = some (.ref q) ∧ vs.length = ds.length ∧ Foc H L (k + 2) v (.list ds) as k q ws es a2 a3 (fun es' => .list (ds.set j (.list es'))) := by
  cases o with
  | @lst _ p vs _ as' h1 h2 h3 =>
    obtain ⟨u, a2, a3, k1, k2, k3, k4⟩ := h3.setAt hj
    cases k3 with
    | @lst _ q ws _ a2 m1 m2 m3 =>
      refine ⟨p, vs, q, ws, a2, p :: a3, rfl, h1, k1, h3.len, ⟨?_, m1, m2, m3, fun {H' L' es' b2} l1 l2 o' => ?_⟩⟩
      · refine (k2.cons p).trans ?_
        exact (List.perm_middle (l₁ := q :: a2) (l₂ := a3) (a := p)).symm
      · obtain ⟨as2, x, y⟩ := k4 l1 (fun p o hp => l2 p o (hp.imp id fun z => List.mem_cons_of_mem _ z)) o'
        rw [set_same k1] at y
        refine ⟨p :: as2, (x.cons p).trans (List.perm_middle (l₁ := q :: b2) (l₂ := a3) (a := p)).symm, .lst (l2 p _ (.inr List.mem_cons_self) h1) (by rw [List.length_set]; exact h2) y⟩
/-- a list in a dict -/
theorem Foc.dict {k j : Nat} {v : V} {kds : List (D × D)} {kd : D} {es : List D} {as : List Addr} (o : Own H L (k + 2) v (.dict kds) as) (hj : kds[j]? = some (kd, .list es)) : ∃ p kvs q ws a2 a3, v = .ref p ∧ H p = some (.dK kvs) ∧ (kvs.map (·.2))[j]? = some (.ref q) ∧ KeyOk kds kvs ∧
    Foc H L (k + 2) v (.dict kds) as k q ws es a2 a3 (fun es' => .dict (kds.set j (kd, .list es'))) := by
  cases o with
  | @dct _ p kvs _ as' h1 h2 ko h3 =>
    obtain ⟨u, a2, a3, k1, k2, k3, k4⟩ := h3.setAt (i := j) (d := .list es) (by rw [List.getElem?_map, hj]; rfl)
    cases k3 with
    | @lst _ q ws _ a2 m1 m2 m3 =>
      refine ⟨p, kvs, q, ws, a2, p :: a3, rfl, h1, k1, ko, ⟨?_, m1, m2, m3, fun {H' L' es' b2} l1 l2 o' => ?_⟩⟩
      · refine (k2.cons p).trans ?_
        exact (List.perm_middle (l₁ := q :: a2) (l₂ := a3) (a := p)).symm
      · obtain ⟨as2, x, y⟩ := k4 l1 (fun p o hp => l2 p o (hp.imp id fun z => List.mem_cons_of_mem _ z)) o'
        rw [set_same k1] at y
        refine ⟨p :: as2, (x.cons p).trans (List.perm_middle (l₁ := q :: b2) (l₂ := a3) (a := p)).symm, .dct (l2 p _ (.inr List.mem_cons_self) h1) (by rw [List.length_set]; exact h2) ⟨?_, ko.nd⟩ ?_⟩
        · rw [List.map_set, set_same (by rw [List.getElem?_map, hj]; rfl)]
          exact ko.eq
        · rw [List.map_set]
          exact y
/-- the thing at p, which a slot owns, is changed -/
theorem SimS.mutG (s : SimS C B m ρ r σ H A L) {p : Addr} {a2 rest bs A' : List Addr} {H1 : Hp} {r1 : Rg} {o : HO} {ρ' : Slots} {M : Addr → Prop} (pe : A.Perm ((p :: a2) ++ rest)) (f : Fr C H H1) (g : RngAt C r1 H1) (nb : bs.Nodup) (hb : ∀ q ∈ bs, C.nr q ∧ (q ∈ a2 ∨ H q = none))
    (hM : ∀ q, M q → (L q ∨ (C.nr q ∧ H q = none ∧ H1 q ≠ none)) ∧ q ∉ bs) (hs : Sls (upd H1 p o) (fun q => L q ∨ M q) m ρ' σ A') (hA : A'.Perm ((p :: bs) ++ rest)) (hρ' : ∀ j : Nat, ρ[j]? = some none → ρ'[j]? = some none) :
    SimS C B m ρ' r1 σ (upd H1 p o) A' (fun q => L q ∨ M q) ∧ Step C A H A' (upd H1 p o) := by
  have ndA : ((p :: a2) ++ rest).Nodup := pe.nodup_iff.mp s.nd
  have nd1 := List.nodup_append.mp ndA
  have ndp := List.nodup_cons.mp nd1.1
  have pA : p ∈ A := pe.mem_iff.mpr (List.mem_append_left _ List.mem_cons_self)
  have a1 : H p ≠ none := s.sl.stands p pA
  have inA : ∀ q ∈ a2, q ∈ A := fun q hq => pe.mem_iff.mpr (List.mem_append_left _ (List.mem_cons_of_mem _ hq))
  have rA : ∀ q ∈ rest, q ∈ A := fun q hq => pe.mem_iff.mpr (List.mem_append_right _ hq)
  have npb : p ∉ bs := fun z => by
    rcases (hb p z).2 with y | y
    · exact ndp.1 y
    · exact a1 y
  have npM : ¬ M p := fun z => by
    rcases (hM p z).1 with y | ⟨_, y, _⟩
    · exact (s.reg p y).2.2.2 pA
    · exact a1 y
  have nLp : ∀ q, L q → q ≠ p := fun q hq e => (s.reg q hq).2.2.2 (by rw [e]; exact pA)
  have nrp : ∀ q ∈ rest, q ≠ p := fun q hq e => nd1.2.2 p List.mem_cons_self q hq e.symm
  have back : ∀ q, C.nr q → H q = none → B.He q = none := fun q hn z => none_back s.base hn z
  have memA : ∀ q ∈ A', q = p ∨ q ∈ bs ∨ q ∈ rest := fun q hq => by
    rcases List.mem_append.mp (hA.mem_iff.mp hq) with z | z
    · rcases List.mem_cons.mp z with z | z
      · exact .inl z
      · exact .inr (.inl z)
    · exact .inr (.inr z)
  have stand : ∀ q, C.nr q → H q ≠ none → upd H1 p o q ≠ none := fun q hn z => by
    by_cases e : q = p
    · rw [e, upd_same]; exact nofun
    · rw [upd_ne e]; exact some_on f hn z
  refine ⟨⟨hs, ?_, rngD (s.own p pA).1 g, fun j a hj => ⟨(s.rs j a hj).1, hρ' j (s.rs j a hj).2⟩, fun q hq => ?_, fun q hq => ?_, fun q u hn e => ?_⟩, ⟨fun q u hn hq e => ?_, fun q hq => ?_⟩⟩
  · refine hA.nodup_iff.mpr (List.nodup_append.mpr ⟨List.nodup_cons.mpr ⟨npb, nb⟩, nd1.2.1, fun x hx y hy e => ?_⟩)
    subst e
    rcases List.mem_cons.mp hx with hx | hx
    · exact nrp x hy hx
    · rcases (hb x hx).2 with z | z
      · exact nd1.2.2 x (List.mem_cons_of_mem _ z) x hy rfl
      · exact s.sl.stands x (rA x hy) z
  · rcases memA q hq with z | z | z
    · rw [z]; exact s.own p pA
    · rcases (hb q z).2 with y | y
      · exact s.own q (inA q y)
      · exact ⟨(hb q z).1, back q (hb q z).1 y⟩
    · exact s.own q (rA q z)
  · rcases hq with hq | hq
    · obtain ⟨x1, x2, x3, x4⟩ := s.reg q hq
      refine ⟨x1, stand q x1 x2, x3, fun z => ?_⟩
      rcases memA q z with z | z | z
      · exact nLp q hq z
      · rcases (hb q z).2 with y | y
        · exact x4 (inA q y)
        · exact x2 y
      · exact x4 (rA q z)
    · obtain ⟨y, hnb⟩ := hM q hq
      have nqp : q ≠ p := fun e => npM (by rw [← e]; exact hq)
      rcases y with y | ⟨y1, y2, y3⟩
      · obtain ⟨x1, x2, x3, x4⟩ := s.reg q y
        refine ⟨x1, stand q x1 x2, x3, fun z => ?_⟩
        rcases memA q z with z | z | z
        · exact nqp z
        · exact hnb z
        · exact x4 (rA q z)
      · refine ⟨y1, by rw [upd_ne nqp]; exact y3, .inr (back q y1 y2), fun z => ?_⟩
        rcases memA q z with z | z | z
        · exact nqp z
        · exact hnb z
        · exact s.sl.stands q (rA q z) y2
  · have nqp : q ≠ p := fun z => by rw [z, (s.own p pA).2] at e; cases e
    rw [upd_ne nqp]
    exact f q u hn (s.base q u hn e)
  · rw [upd_ne (fun z => hq (by rw [z]; exact pA))]
    exact f q u hn e
  · rcases memA q hq with z | z | z
    · rw [z]; exact .inl pA
    · rcases (hb q z).2 with y | y
      · exact .inl (inA q y)
      · exact .inr y
    · exact .inl (rA q z)
/-- the list of a slot is changed at its own place -/
theorem SimS.mutF (s : SimS C B m ρ r σ H A L) {i n : Nat} {d : D} {v : V} {as rest : List Addr}
    {d0 : D} (hρ : ρ[i]? = some (some d0)) (h1 : σ[i]? = some (some v)) (hm : m[i]? = some n) (pe0 : A.Perm (as ++ rest))
    (put : ∀ {H' : Hp} {L' : Addr → Prop} {k' : Nat} {v' : V} {d' : D} {bs : List Addr}, (∀ p, L p → L' p) → (∀ p o, (L p ∨ p ∈ rest) → H p = some o → H' p = some o) → Own H' L' k' v' d' bs →
        ∃ A', Sls H' L' (m.set i k') (ρ.set i (some d')) (σ.set i (some v')) A' ∧ A'.Perm (bs ++ rest))
    {k : Nat} {p : Addr} {ws : List V} {es : List D} {a2 a3 : List Addr} {d' : List D → D} (F : Foc H L n v d as k p ws es a2 a3 d') :
    C.nr p ∧ a2.Nodup ∧ (∀ q ∈ a2, C.nr q ∧ ¬ L q) ∧
      ∀ {H1 : Hp} {r1 : Rg} {vs' : List V} {ds' : List D} {bs : List Addr} {M : Addr → Prop}, Fr C H H1 → RngAt C r1 H1 → Owns H1 M k vs' ds' bs → ds'.length ≤ sizeLine → bs.Nodup → (∀ q ∈ bs, C.nr q ∧ (q ∈ a2 ∨ H q = none)) →
        (∀ q, M q → (L q ∨ (C.nr q ∧ H q = none ∧ H1 q ≠ none)) ∧ q ∉ bs) →
        ∃ A' L', SimS C B m (setS ρ i (d' ds')) r1 σ (upd H1 p (.lst vs')) A' L' ∧ Step C A H A' (upd H1 p (.lst vs')) ∧ (∀ q, L q → L' q) := by
  have pe : A.Perm ((p :: a2) ++ (a3 ++ rest)) := pe0.trans (by rw [← List.append_assoc]; exact List.Perm.append_right rest F.pe)
  have ndA : ((p :: a2) ++ (a3 ++ rest)).Nodup := pe.nodup_iff.mp s.nd
  have nd1 := List.nodup_append.mp ndA
  have ndp := List.nodup_cons.mp nd1.1
  have pA : p ∈ A := pe.mem_iff.mpr (List.mem_append_left _ List.mem_cons_self)
  have inA : ∀ q ∈ a2, q ∈ A := fun q hq => pe.mem_iff.mpr (List.mem_append_left _ (List.mem_cons_of_mem _ hq))
  have rA : ∀ q ∈ a3 ++ rest, q ∈ A := fun q hq => pe.mem_iff.mpr (List.mem_append_right _ hq)
  refine ⟨(s.own p pA).1, ndp.2, fun q hq => ⟨(s.own q (inA q hq)).1, fun z => (s.reg q z).2.2.2 (inA q hq)⟩, fun {H1 r1 vs' ds' bs M} f g o hz nb hb hM => ?_⟩
  have a1 := F.cell
  have npb : p ∉ bs := fun z => by
    rcases (hb p z).2 with y | y
    · exact ndp.1 y
    · rw [a1] at y; cases y
  have npM : ¬ M p := fun z => by
    rcases (hM p z).1 with y | ⟨_, y, _⟩
    · exact (s.reg p y).2.2.2 pA
    · rw [a1] at y; cases y
  have nLp : ∀ q, L q → q ≠ p := fun q hq e => (s.reg q hq).2.2.2 (by rw [e]; exact pA)
  have nrp : ∀ q ∈ a3 ++ rest, q ≠ p := fun q hq e => nd1.2.2 p List.mem_cons_self q hq e.symm
  have keep : ∀ q u, (L q ∨ q ∈ a3 ++ rest) → H q = some u → upd H1 p (.lst vs') q = some u := fun q u hq e => by
    rw [upd_ne (hq.elim (nLp q) (nrp q))]
    exact f q u (hq.elim (fun z => (s.reg q z).1) fun z => (s.own q (rA q z)).1) e
  have oo : Own (upd H1 p (.lst vs')) (fun q => L q ∨ M q) (k + 1) (.ref p) (.list ds') (p :: bs) := by
    refine .lst upd_same hz (o.mono (fun _ => .inr) fun q u hq e => ?_)
    rw [upd_ne (fun z => by rw [z] at hq; exact hq.elim npM npb)]
    exact e
  obtain ⟨as2, pe2, own2⟩ := F.back (L' := fun q => L q ∨ M q) (fun _ => .inl) (fun q u hq => keep q u (hq.imp id fun z => List.mem_append_left _ z)) oo
  obtain ⟨A', hs, hA0⟩ := put (H' := upd H1 p (.lst vs')) (L' := fun q => L q ∨ M q) (fun _ => .inl) (fun q u hq => keep q u (hq.imp id fun z => List.mem_append_right _ z)) own2
  have hA : A'.Perm ((p :: bs) ++ (a3 ++ rest)) := hA0.trans (by rw [← List.append_assoc]; exact List.Perm.append_right rest pe2)
  rw [set_same hm, set_same h1] at hs
  obtain ⟨s', st'⟩ := s.mutG pe f g nb hb hM hs hA (set_none hρ _)
  exact ⟨A', _, s', st', fun _ => .inl⟩
/-- an entry of a slot's own dict -/
theorem SimS.mutD (s : SimS C B m ρ r σ H A L) {i k : Nat} {kds : List (D × D)} (hρ : ρ[i]? = some (some (.dict kds))) (hm : m[i]? = some (k + 1)) :
    ∃ p kvs, σ[i]? = some (some (.ref p)) ∧ H p = some (.dK kvs) ∧ C.nr p ∧ kvs.length = kds.length ∧
      ∀ {H1 : Hp} {r1 : Rg} {kk : Key} {v : V} {d : D} , Fr C H H1 → RngAt C r1 H1 → Out C H L H1 k v d → kds.length < sizeLine →
        ∃ A' L', SimS C B m (setS ρ i (.dict (putD kds (keyD kk) d))) r1 σ (upd H1 p (.dK (putK kvs kk v))) A' L' ∧ Step C A H A' (upd H1 p (.dK (putK kvs kk v))) ∧ (∀ q, L q → L' q) := by
  obtain ⟨v0, k', as, rest, h1, h2, own, pe, put⟩ := s.sl.at hρ
  rw [hm] at h2; cases h2
  have ndA : (as ++ rest).Nodup := pe.nodup_iff.mp s.nd
  cases own with
  | @dct _ p kvs _ a2 a1 hz ko ow =>
    have nd1 := List.nodup_append.mp ndA
    have ndp := List.nodup_cons.mp nd1.1
    have pA : p ∈ A := pe.mem_iff.mpr (List.mem_append_left _ List.mem_cons_self)
    have inA : ∀ q ∈ a2, q ∈ A := fun q hq => pe.mem_iff.mpr (List.mem_append_left _ (List.mem_cons_of_mem _ hq))
    have rA : ∀ q ∈ rest, q ∈ A := fun q hq => pe.mem_iff.mpr (List.mem_append_right _ hq)
    have hl : kvs.length = kds.length := by
      have := congrArg List.length ko.eq
      rw [List.length_map, List.length_map] at this
      exact this.symm
    refine ⟨p, kvs, h1, a1, (s.own p pA).1, hl, fun {H1 r1 kk v d} f g o hlt => ?_⟩
    obtain ⟨M, bs, k1, k2, k3, k4⟩ := o
    have nLp : ∀ q, L q → q ≠ p := fun q hq e => (s.reg q hq).2.2.2 (by rw [e]; exact pA)
    have nbp : ∀ q ∈ bs, q ≠ p := fun q hq e => by
      have := (k3 q hq).1
      rw [e, a1] at this; cases this
    have nMp : ∀ q, M q → q ≠ p := fun q hq e => by
      rcases (k4 q hq).2.2.1 with z | z
      · exact nLp q z e
      · rw [e, a1] at z; cases z
    have n2p : ∀ q ∈ a2, q ≠ p := fun q hq e => ndp.1 (by rw [← e]; exact hq)
    obtain ⟨cs, es, pe2, oc, ko'⟩ := put_own (L := fun q => L q ∨ M q) (k := kk) (k1.mono (H' := upd H1 p (.dK (putK kvs kk v))) (fun _ => .inr) fun q u hq e => by
        rw [upd_ne (hq.elim (nMp q) (nbp q))]
        exact e) ko.eq ko.nd (ow.mono (H' := upd H1 p (.dK (putK kvs kk v))) (L' := fun q => L q ∨ M q) (fun _ => .inl) fun q u hq e => by
        rw [upd_ne (hq.elim (nLp q) (n2p q))]
        exact f q u (hq.elim (fun z => (s.reg q z).1) fun z => (s.own q (inA q z)).1) e)
    have nd2 : (a2 ++ bs).Nodup := List.nodup_append.mpr ⟨ndp.2, k2, fun x hx y hy e => by
      subst e
      exact s.sl.stands x (inA x hx) (k3 x hy).1⟩
    have ndc : (cs ++ es).Nodup := pe2.nodup_iff.mp nd2
    have mc : ∀ q ∈ cs, q ∈ a2 ∨ q ∈ bs := fun q hq => List.mem_append.mp (pe2.mem_iff.mpr (List.mem_append_left _ hq))
    obtain ⟨A', hs, hA⟩ := put (H' := upd H1 p (.dK (putK kvs kk v))) (L' := fun q => L q ∨ M q) (fun _ => .inl) (fun q u hq e => by
      have : q ≠ p := hq.elim (nLp q) fun z => fun e => nd1.2.2 p List.mem_cons_self q z e.symm
      rw [upd_ne this]
      exact f q u (hq.elim (fun z => (s.reg q z).1) fun z => (s.own q (rA q z)).1) e) (.dct upd_same (Nat.le_trans (putD_len _ _ _) hlt) ko' oc)
    rw [set_same hm, set_same h1] at hs
    obtain ⟨s', st'⟩ := s.mutG (M := M) (bs := cs) pe f g (List.nodup_append.mp ndc).1 (fun q hq => (mc q hq).elim (fun z => ⟨(s.own q (inA q z)).1, .inl z⟩) fun z => ⟨(k3 q z).2, .inr (k3 q z).1⟩) (fun q hq => by
      obtain ⟨x1, x2, x3, x4⟩ := k4 q hq
      refine ⟨x3.imp id fun z => ⟨x1, z, x2⟩, fun z => (mc q z).elim (fun y => ?_) x4⟩
      rcases x3 with z | z
      · exact (s.reg q z).2.2.2 (inA q y)
      · exact s.sl.stands q (inA q y) z) hs hA (set_none hρ _)
    exact ⟨A', _, s', st', fun _ => .inl⟩
end
end DL

/-! DLl: for, while. -/
namespace DL
open PySem L2

section
variable {C : Ct} {B : Bs} {H H' H1 : Hp} {L L' M : Addr → Prop} {m : List Nat} {ρ : Slots} {σ : St} {A : List Addr} {r r1 : Rg}
/-- things that are read are stored in slots that own nothing -/
theorem SimS.sets : ∀ {os : List Nat} {m : List Nat} {ρ : Slots} {σ : St} {A : List Addr} {L : Addr → Prop} {vs : List V} {ds : List D}, SimS C B m ρ r σ H A L → (∀ z' ∈ os, C.pn z' = none) → zeros m os = true → Owns H M 0 vs ds [] → ds.length = os.length →
    (∀ p, M p → C.nr p ∧ H p ≠ none ∧ (B.G p ∨ B.He p = none) ∧ p ∉ A) → ∃ A' L', SimS C B m (setsD ρ os ds) r (setsV σ os vs) H A' L' ∧ (∀ p ∈ A', p ∈ A) ∧ ∀ p, L p → L' p := by
  intro os
  induction os with
  | nil => intro m ρ σ A L vs ds s _ _ _ _ _; exact ⟨A, L, s, fun _ h => h, fun _ h => h⟩
  | cons i os ih =>
    intro m ρ σ A L vs ds s hrs hz o hl hM
    cases ds with
    | nil => cases hl
    | cons d ds =>
      obtain ⟨v, h1, h2⟩ := o.get0 (i := 0) (d := d) rfl
      cases vs with
      | nil => cases h1
      | cons v' vs =>
        cases h1
        have ot : Owns H M 0 vs ds [] := by
          generalize hz : ([] : List Addr) = zz at o
          cases o with
          | cons a b =>
            obtain ⟨h1, h2⟩ := List.append_eq_nil_iff.mp hz.symm
            subst h1 h2
            exact b
        obtain ⟨A1, L1, s1, a1, l1, l2⟩ := s.putV (i := i) (n := 0) (hrs i List.mem_cons_self) h2 .nil nofun fun p hp => ⟨(hM p hp).1, (hM p hp).2.1, (hM p hp).2.2.1, nofun, (hM p hp).2.2.2⟩
        have e0 : m.set i 0 = m := set_same (zeros_of hz i List.mem_cons_self)
        rw [e0] at s1
        have a1' : ∀ p ∈ A1, p ∈ A := fun p hp => (a1 p hp).elim id nofun
        have hz' : zeros m os = true := by
          unfold zeros at hz ⊢
          rw [List.all_cons, Bool.and_eq_true] at hz
          exact hz.2
        obtain ⟨A2, L2, s2, a2, l3⟩ := ih s1 (fun j hj => hrs j (List.mem_cons_of_mem _ hj)) hz' ot (Nat.succ.inj hl) fun p hp => ⟨(hM p hp).1, (hM p hp).2.1, (hM p hp).2.2.1, fun z => (hM p hp).2.2.2 (a1' p z)⟩
        exact ⟨A2, L2, s2, fun p hp => a1' p (a2 p hp), fun p hp => l3 p (l1 p hp)⟩
end

def forD (gt : D → Slots → Option Slots) (fb : DenS) : List D → DenS
  | [] => fun ρ => M.pure (.nx ρ)
  | d :: ds => fun ρ => M.bind (M.lift (gt d ρ)) fun ρ1 => M.bind (fb ρ1) fun fl => match fl with
    | .nx ρ2 => forD gt fb ds ρ2
    | .rt d => M.pure (.rt d)
def dsFor (fi : Slots → M (List D)) (gt : D → Slots → Option Slots) (fb : DenS) : DenS := fun ρ => M.bind (fi ρ) fun ds => forD gt fb ds ρ
def whD (c : Slots → M Bool) (fb : DenS) : Nat → DenS
  | 0 => fun _ => M.bad
  | n + 1 => fun ρ => M.bind (c ρ) fun b => if b = true then M.bind (fb ρ) (fun fl => match fl with
    | .nx ρ2 => whD c fb n ρ2
    | .rt d => M.pure (.rt d)) else M.pure (.nx ρ)
def dsWhile (n : Nat) (c : Slots → M Bool) (fb : DenS) : DenS := whD c fb n

section
variable {X : Cx} {C : Ct} {B : Bs} {kr n : Nat} {m m' : List Nat} {al os : List Nat} {fb : DenS} {pos : Pos}
/-- the body of a loop, from what the loop is to do -/
theorem WS.body {A A2 : List Addr} {H H2 : Hp} {L L2 : Addr → Prop} {Ds D' : Ends} {f : DenS} {k : Slots → M Fl} {ρ : Slots} {r : Rg}
    (w : WS C B kr m' A H L Ds (M.bind (f ρ) (fun fl => match fl with | .nx ρ2 => k ρ2 | .rt d => M.pure (.rt d)) r)) (st : Step C A H A2 H2) (hL : ∀ p, L p → L2 p) (hrt : D'.rt = Ds.rt)
    (h : ∀ ρ3 r3 σ3 H3 A3 L3, f ρ r = .ok (.nx ρ3) r3 → SimS C B m ρ3 r3 σ3 H3 A3 L3 → Step C A2 H2 A3 H3 → (∀ p, L2 p → L3 p) → WS C B kr m' A H L Ds (k ρ3 r3) → D'.nx σ3 H3) : WS C B kr m A2 H2 L2 D' (f ρ r) := by
  unfold M.bind at w
  cases q : f ρ r with
  | bad => rw [q] at w; exact w.elim
  | ex c d r1 => rw [q] at w; exact w
  | ok fl r1 =>
    rw [q] at w
    cases fl with
    | nx ρ3 => exact fun σ3 H3 A3 L3 s3 st3 l3 => h ρ3 r1 σ3 H3 A3 L3 q s3 st3 l3 w
    | rt d =>
      intro v H' f' g' o' k'
      rw [hrt]
      refine w v H' f' g' o' fun p o n hp e => k' p o n (fun z => ?_) (st.st p o n hp e)
      rcases st.ow p z with y | y
      · exact hp y
      · rw [y] at e; cases e
theorem ds_for {tg iter : Expr} {body : List Stmt} {g : TG} {fl : D → Option (List D)} {fi : Slots → M (List D)} (hp : PassesOwn (model X.prog X.w) X.A X.env X.xe) (hc : X.calm = true) (hal : zeros m al = true) (hos : zeros m os = true) (hrs : ∀ z' ∈ os, C.pn z' = none)
    (hi : PI X tg iter (tIVf C al fi)) (hg : PG X tg g) (tgo : TgS X.K g fl os) (hb : PSs X body (tDS C B kr m m fb)) (hs : ∀ x, foldedSetIterable iter X.env x = pure x := by intro _; rfl) :
    PS X (.For tg iter body [] pos) (tDS C B kr m m (dsFor fi (gtT fl os) fb)) := by
  refine impPS (ps_for hp hc hi hg hb hs) fun Ds σ H ⟨ρ, r, A, L, s, w⟩ => ?_
  refine ⟨ρ, r, L, s.env (zeros_of hal), s.rg, s.regL, ?_⟩
  unfold dsFor M.bind at w
  cases q : fi ρ r with
  | bad => rw [q] at w; exact w.elim
  | ex c d r1 => rw [q] at w; exact WEx.inner s w
  | ok ds r1 =>
    simp only [q] at w ⊢
    intro J H1 S Z f1 g1 wk
    have nZA : ∀ p, Z p → p ∉ A := fun p hp z => by
      rcases (wk.reg p hp).2 with y | y
      · exact (s.reg p y).2.2.2 z
      · exact s.sl.stands p z y
    refine ⟨fun i n σ' H' => n = ds.length - i ∧ i ≤ ds.length ∧ ∃ ρ' r' A' L', SimS C B m ρ' r' σ' H' A' L' ∧ Step C A H1 A' H' ∧ (∀ p, L p → L' p) ∧ S H' ∧ WS C B kr m A H L Ds (forD (gtT fl os) fb (ds.drop i) ρ' r'), ⟨ds.length, rfl, Nat.zero_le _, ρ, r1, A, L, s.on f1 g1, Step.refl, fun _ h => h, wk.now, w⟩, ?_⟩
    rintro i n σ' H' ⟨hn, hi', ρ', r', A', L', s', st', l', hS, w'⟩
    have st0 : Step C A H A' H' := (Step.of f1).trans st' fun p hp => (s'.own p hp).1
    by_cases hlt : i < ds.length
    · refine .inr ?_
      obtain ⟨hgo, hy⟩ := wk.go i H' hS hlt
      refine ⟨hgo, fun σ3 H3 => n - 1 = ds.length - (i + 1) ∧ i + 1 ≤ ds.length ∧ ∃ ρ' r' A' L', SimS C B m ρ' r' σ3 H3 A' L' ∧ Step C A H1 A' H3 ∧ (∀ p, L p → L' p) ∧ S H3 ∧ WS C B kr m A H L Ds (forD (gtT fl os) fb (ds.drop (i + 1)) ρ' r'), fun σ3 H3 k => ⟨n - 1, by omega, k⟩, fun x H2 hyl => ?_⟩
      obtain ⟨x2, d, hd, ox⟩ := hy x H2 hyl
      have hdrop : ds.drop i = d :: ds.drop (i + 1) := by
        rw [List.drop_eq_getElem_cons hlt]
        rw [List.getElem?_eq_getElem hlt] at hd
        cases hd; rfl
      rw [hdrop] at w'
      have s2 := s'.on x2.fr (x2.rng s'.rg)
      cases qd : fl d with
      | none =>
        have : gtT fl os d ρ' = none := by unfold gtT; rw [qd]; rfl
        have e : forD (gtT fl os) fb (d :: ds.drop (i + 1)) ρ' r' = .bad := by
          show M.bind (M.lift (gtT fl os d ρ')) _ r' = _
          rw [this]; rfl
        rw [e] at w'; exact w'.elim
      | some es =>
        have this : gtT fl os d ρ' = some (setsD ρ' os es) := by unfold gtT; rw [qd]; rfl
        have e : forD (gtT fl os) fb (d :: ds.drop (i + 1)) ρ' r' = M.bind (fb (setsD ρ' os es)) (fun fl' => match fl' with
            | .nx ρ2 => forD (gtT fl os) fb (ds.drop (i + 1)) ρ2
            | .rt d => M.pure (.rt d)) r' := by
          show M.bind (M.lift (gtT fl os d ρ')) _ r' = _
          rw [this]; rfl
        rw [e] at w'
        refine tgo.run ox qd fun vs ovs hl => ?_
        have nA' : ∀ p, Z p → p ∉ A' := fun p hp z => by
          rcases st'.ow p z with y | y
          · exact nZA p hp y
          · exact wk.there _ wk.now p hp y
        have hM : ∀ p, (Z p ∨ (H' p = none ∧ H2 p ≠ none)) → C.nr p ∧ H2 p ≠ none ∧ (B.G p ∨ B.He p = none) ∧ p ∉ A' := fun p hp => by
          rcases hp with hp | ⟨h1, h2⟩
          · have nr := (wk.reg p hp).1
            refine ⟨nr, some_on x2.fr nr (wk.there _ hS p hp), ?_, nA' p hp⟩
            rcases (wk.reg p hp).2 with y | y
            · exact (s.reg p y).2.2.1
            · exact .inr (none_back s.base nr y)
          · have nr := s'.rg.nr h1
            exact ⟨nr, h2, .inr (none_back s'.base nr h1), fun z => s'.sl.stands p z h1⟩
        obtain ⟨A3, L3, s3, a3, l3⟩ := s2.sets hrs hos ovs hl hM
        have st3 : Step C A' H' A3 H2 := ⟨fun p o n _ e => x2 p o e, fun p hp => .inl (a3 p hp)⟩
        have st03 : Step C A H A3 H2 := st0.trans st3 fun p hp => (s3.own p hp).1
        have st13 : Step C A H1 A3 H2 := st'.trans st3 fun p hp => (s3.own p hp).1
        refine ⟨setsD ρ' os es, r', A3, L3, s3, ?_⟩
        refine w'.body (D' := { Ds with nx := _, ct := _, bk := Ds.nx }) st03 (fun p hp => l3 p (l' p hp)) rfl fun ρ4 r4 σ4 H4 A4 L4 q4 s4 st4 l4 w4 => ?_
        have st14 := st13.trans st4 fun p hp => (s4.own p hp).1
        refine ⟨by omega, hlt, ρ4, r4, A4, L4, s4, st14, fun p hp => l4 p (l3 p (l' p hp)), ?_, w4⟩
        exact wk.keep _ _ wk.now fun p o hp e => st14.st p o (wk.reg p hp).1 (nZA p hp) e
    · have hie : i = ds.length := by omega
      subst hie
      rw [List.drop_length] at w'
      exact .inl ⟨wk.stop H' hS, w' σ' H' A' L' s' st0 l'⟩
theorem ds_while {N : Nat} {c : Expr} {body : List Stmt} {tc : Slots → M Bool} (hp : PassesOwn (model X.prog X.w) X.A X.env X.xe) (hc : PT X c (tET C [] tc)) (hb : PSs X body (tDS C B kr m m fb)) : PS X (.While c body [] pos) (tDS C B kr m m (dsWhile N tc fb)) := by
  refine impPS (ps_while hp hc hb) fun Ds σ H ⟨ρ, r, A, L, s, w⟩ => ?_
  refine ⟨fun n σ' H' => ∃ ρ' r' A' L', SimS C B m ρ' r' σ' H' A' L' ∧ Step C A H A' H' ∧ (∀ p, L p → L' p) ∧ WS C B kr m A H L Ds (whD tc fb n ρ' r'), ⟨N, ρ, r, A, L, s, Step.refl, fun _ h => h, w⟩, ?_⟩
  rintro n σ' H' ⟨ρ', r', A', L', s', st', l', w'⟩
  cases n with
  | zero => exact w'.elim
  | succ n =>
    have w2 : WS C B kr m A' H' L' Ds (M.bind (tc ρ') (fun b => if b = true then M.bind (fb ρ') (fun fl => match fl with
      | .nx ρ2 => whD tc fb n ρ2
      | .rt d => M.pure (.rt d)) else M.pure (.nx ρ')) r') := WS.step w' st' l'
    refine stE (γ := Unit) (al := []) (k := fun b ρ => if b = true then M.bind (fb ρ) (fun fl => match fl with
      | .nx ρ2 => whD tc fb n ρ2
      | .rt d => M.pure (.rt d)) else M.pure (.nx ρ)) s' (fun _ z => nomatch z) w2 fun b r1 v H1 q f1 g1 o s1 w1 => ?_
    have o' : v = b := o
    subst o'
    have st1 : Step C A H A' H1 := st'.trans (Step.of f1) fun p hp => (s1.own p hp).1
    have wn : WS C B kr m A H L Ds ((if v = true then M.bind (fb ρ') (fun fl => match fl with
      | .nx ρ2 => whD tc fb n ρ2
      | .rt d => M.pure (.rt d)) else M.pure (.nx ρ')) r1) := by
      have e : whD tc fb (n + 1) ρ' r' = (if v = true then M.bind (fb ρ') (fun fl => match fl with
      | .nx ρ2 => whD tc fb n ρ2
      | .rt d => M.pure (.rt d)) else M.pure (.nx ρ')) r1 := by
        show M.bind (tc ρ') _ r' = _
        unfold M.bind
        rw [q]
      rw [← e]; exact w'
    cases v with
    | true =>
      simp only [if_true] at wn ⊢
      refine ⟨fun σ3 H3 => ∃ ρ' r' A' L', SimS C B m ρ' r' σ3 H3 A' L' ∧ Step C A H A' H3 ∧ (∀ p, L p → L' p) ∧ WS C B kr m A H L Ds (whD tc fb n ρ' r'), fun σ3 H3 k => ⟨n, Nat.lt_succ_self _, k⟩, ρ', r1, A', L', s1, ?_⟩
      refine wn.body (D' := { Ds with nx := _, ct := _, bk := Ds.nx }) st1 l' rfl fun ρ4 r4 σ4 H4 A4 L4 q4 s4 st4 l4 w4 => ?_
      exact ⟨ρ4, r4, A4, L4, s4, st1.trans st4 fun p hp => (s4.own p hp).1, fun p hp => l4 p (l' p hp), w4⟩
    | false =>
      simp only [Bool.false_eq_true, if_false] at wn ⊢
      exact wn σ' H1 A' L' s1 st1 l'
end
end DL

/-! DLm: statements that change a list or a dict that a local owns. -/
namespace DL
open PySem L2

section
variable {C : Ct} {B : Bs} {H H' H1 H2 : Hp} {L L' M : Addr → Prop} {m : List Nat} {ρ : Slots} {σ : St} {A : List Addr} {r r1 : Rg}
theorem Foc.mono {n k : Nat} {v : V} {d : D} {as a2 a3 : List Addr} {q : Addr} {ws : List V} {es : List D} {pt : List D → D} (F : Foc H L n v d as k q ws es a2 a3 pt) (h : ∀ p o, (L p ∨ p ∈ as) → H p = some o → H2 p = some o) : Foc H2 L n v d as k q ws es a2 a3 pt := by
  have mq : q ∈ as := F.pe.mem_iff.mpr (List.mem_append_left _ List.mem_cons_self)
  have m2 : ∀ p ∈ a2, p ∈ as := fun p hp => F.pe.mem_iff.mpr (List.mem_append_left _ (List.mem_cons_of_mem _ hp))
  have m3 : ∀ p ∈ a3, p ∈ as := fun p hp => F.pe.mem_iff.mpr (List.mem_append_right _ hp)
  exact ⟨F.pe, h q _ (.inr mq) F.cell, F.size, F.ow.mono (fun _ z => z) fun p o hp e => h p o (hp.imp id (m2 p)) e, fun a b o => F.back a (fun p u hp e => b p u hp (h p u (hp.imp id (m3 p)) e)) o⟩
/-- a list that slot i owns, somewhere within -/
structure FocS (H : Hp) (L : Addr → Prop) (m : List Nat) (ρ : Slots) (σ : St) (A : List Addr) (i k : Nat) (q : Addr) (ws : List V) (es : List D) (a2 : List Addr) (pt : List D → D) : Prop where
  ex : ∃ (n : Nat) (v : V) (d : D) (as rest a3 : List Addr), ρ[i]? = some (some d) ∧ σ[i]? = some (some v) ∧ m[i]? = some n ∧ A.Perm (as ++ rest) ∧ Own H L n v d as ∧ Foc H L n v d as k q ws es a2 a3 pt ∧
    ∀ {H' : Hp} {L' : Addr → Prop} {k' : Nat} {v' : V} {d' : D} {bs : List Addr}, (∀ p, L p → L' p) → (∀ p o, (L p ∨ p ∈ rest) → H p = some o → H' p = some o) → Own H' L' k' v' d' bs →
        ∃ A', Sls H' L' (m.set i k') (ρ.set i (some d')) (σ.set i (some v')) A' ∧ A'.Perm (bs ++ rest)
theorem FocS.on {i k : Nat} {q : Addr} {ws : List V} {es : List D} {a2 : List Addr} {pt : List D → D} (F : FocS H L m ρ σ A i k q ws es a2 pt) (s : SimS C B m ρ r σ H A L) (f : Fr C H H2) : FocS H2 L m ρ σ A i k q ws es a2 pt := by
  obtain ⟨n, v, d, as, rest, a3, h0, h1, h2, h3, h4, h5, h6⟩ := F.ex
  have ma : ∀ p ∈ as, C.nr p := fun p hp => (s.own p (h3.mem_iff.mpr (List.mem_append_left _ hp))).1
  have mr : ∀ p ∈ rest, C.nr p := fun p hp => (s.own p (h3.mem_iff.mpr (List.mem_append_right _ hp))).1
  have ml : ∀ p, L p → C.nr p := fun p hp => (s.reg p hp).1
  have k1 : ∀ p o, (L p ∨ p ∈ as) → H p = some o → H2 p = some o := fun p o hp e => f p o (hp.elim (ml p) (ma p)) e
  exact ⟨n, v, d, as, rest, a3, h0, h1, h2, h3, h4.mono (fun _ h => h) k1, h5.mono k1, fun a b o => h6 a (fun p u hp e => b p u hp (f p u (hp.elim (ml p) (mr p)) e)) o⟩
theorem FocS.mut {i k : Nat} {p : Addr} {ws : List V} {es : List D} {a2 : List Addr} {pt : List D → D} (F : FocS H L m ρ σ A i k p ws es a2 pt) (s : SimS C B m ρ r σ H A L) :
    H p = some (.lst ws) ∧ es.length ≤ sizeLine ∧ Owns H L k ws es a2 ∧ C.nr p ∧ a2.Nodup ∧ (∀ q ∈ a2, C.nr q ∧ ¬ L q) ∧
      ∀ {H1 : Hp} {r1 : Rg} {vs' : List V} {ds' : List D} {bs : List Addr} {M : Addr → Prop}, Fr C H H1 → RngAt C r1 H1 → Owns H1 M k vs' ds' bs → ds'.length ≤ sizeLine → bs.Nodup → (∀ q ∈ bs, C.nr q ∧ (q ∈ a2 ∨ H q = none)) →
        (∀ q, M q → (L q ∨ (C.nr q ∧ H q = none ∧ H1 q ≠ none)) ∧ q ∉ bs) →
        ∃ A' L', SimS C B m (setS ρ i (pt ds')) r1 σ (upd H1 p (.lst vs')) A' L' ∧ Step C A H A' (upd H1 p (.lst vs')) ∧ (∀ q, L q → L' q) := by
  obtain ⟨n, v, d, as, rest, a3, h0, h1, h2, h3, h4, h5, h6⟩ := F.ex
  obtain ⟨x1, x2, x3, x4⟩ := s.mutF h0 h1 h2 h3 h6 h5
  exact ⟨h5.cell, h5.size, h5.ow, x1, x2, x3, x4⟩
theorem FocS.top (s : SimS C B m ρ r σ H A L) {i k : Nat} {ds : List D} (hρ : ρ[i]? = some (some (.list ds))) (hm : m[i]? = some (k + 1)) :
    ∃ q ws a2, σ[i]? = some (some (.ref q)) ∧ FocS H L m ρ σ A i k q ws ds a2 .list := by
  obtain ⟨v, k', as, rest, h1, h2, h3, h4, h5⟩ := s.sl.at hρ
  rw [hm] at h2; cases h2
  obtain ⟨q, ws, a2, rfl, F⟩ := Foc.top h3
  exact ⟨q, ws, a2, h1, ⟨k + 1, _, _, as, rest, [], hρ, h1, hm, h4, h3, F, h5⟩⟩
theorem FocS.list (s : SimS C B m ρ r σ H A L) {i k j : Nat} {ds es : List D} (hρ : ρ[i]? = some (some (.list ds))) (hm : m[i]? = some (k + 2)) (hj : ds[j]? = some (.list es)) :
    ∃ p vs q ws a2, σ[i]? = some (some (.ref p)) ∧ H p = some (.lst vs) ∧ vs[j]? = some (.ref q) ∧ vs.length = ds.length ∧ FocS H L m ρ σ A i k q ws es a2 (fun es' => .list (ds.set j (.list es'))) := by
  obtain ⟨v, k', as, rest, h1, h2, h3, h4, h5⟩ := s.sl.at hρ
  rw [hm] at h2; cases h2
  obtain ⟨p, vs, q, ws, a2, a3, rfl, x1, x2, x3, F⟩ := Foc.list h3 hj
  exact ⟨p, vs, q, ws, a2, h1, x1, x2, x3, ⟨k + 2, _, _, as, rest, a3, hρ, h1, hm, h4, h3, F, h5⟩⟩
theorem FocS.dict (s : SimS C B m ρ r σ H A L) {i k j : Nat} {kds : List (D × D)} {kd : D} {es : List D} (hρ : ρ[i]? = some (some (.dict kds))) (hm : m[i]? = some (k + 2)) (hj : kds[j]? = some (kd, .list es)) :
    ∃ p kvs q ws a2, σ[i]? = some (some (.ref p)) ∧ H p = some (.dK kvs) ∧ (kvs.map (·.2))[j]? = some (.ref q) ∧ KeyOk kds kvs ∧ FocS H L m ρ σ A i k q ws es a2 (fun es' => .dict (kds.set j (kd, .list es'))) := by
  obtain ⟨v, k', as, rest, h1, h2, h3, h4, h5⟩ := s.sl.at hρ
  rw [hm] at h2; cases h2
  obtain ⟨p, kvs, q, ws, a2, a3, rfl, x1, x2, x3, F⟩ := Foc.dict h3 hj
  exact ⟨p, kvs, q, ws, a2, h1, x1, x2, x3, ⟨k + 2, _, _, as, rest, a3, hρ, h1, hm, h4, h3, F, h5⟩⟩
end

section
variable {C : Ct} {B : Bs} {H H' H1 H2 : Hp} {L L' M : Addr → Prop} {m : List Nat} {ρ : Slots} {σ : St} {A : List Addr} {r r1 : Rg}
abbrev Hput (C : Ct) (B : Bs) (m : List Nat) (ρ : Slots) (σ : St) (H : Hp) (A : List Addr) (L : Addr → Prop) (i k : Nat) (p : Addr) (a2 : List Addr) (pt : List D → D) : Prop :=
  ∀ {H1 : Hp} {r1 : Rg} {vs' : List V} {ds' : List D} {bs : List Addr} {M : Addr → Prop}, Fr C H H1 → RngAt C r1 H1 → Owns H1 M k vs' ds' bs → ds'.length ≤ sizeLine → bs.Nodup → (∀ q ∈ bs, C.nr q ∧ (q ∈ a2 ∨ H q = none)) →
        (∀ q, M q → (L q ∨ (C.nr q ∧ H q = none ∧ H1 q ≠ none)) ∧ q ∉ bs) →
        ∃ A' L', SimS C B m (setS ρ i (pt ds')) r1 σ (upd H1 p (.lst vs')) A' L' ∧ Step C A H A' (upd H1 p (.lst vs')) ∧ (∀ q, L q → L' q)
/-- a new item, put in anywhere -/
theorem put_ins {i k : Nat} {p : Addr} {a2 : List Addr} {pt : List D → D} (hput : Hput C B m ρ σ H A L i k p a2 pt) (f2 : Fr C H H2) (g2 : RngAt C r1 H2) (hnd : a2.Nodup) {vs1 vs2 : List V} {es1 es2 : List D} {x1 x2 : List Addr} (h1 : Owns H L k vs1 es1 x1) (h2 : Owns H L k vs2 es2 x2) (pe : a2.Perm (x1 ++ x2)) (hna : ∀ q ∈ a2, C.nr q ∧ ¬ L q) (hL : Reg C L H)
    {v : V} {d : D} (o2 : Out C H L H2 k v d) (hl : (es1 ++ d :: es2).length ≤ sizeLine) : ∃ A' L', SimS C B m (setS ρ i (pt (es1 ++ d :: es2))) r1 σ (upd H2 p (.lst (vs1 ++ v :: vs2))) A' L' ∧ Step C A H A' (upd H2 p (.lst (vs1 ++ v :: vs2))) ∧ (∀ q, L q → L' q) := by
  obtain ⟨M', bs, b1, b2, b3, b4⟩ := o2
  have in1 : ∀ q ∈ x1, q ∈ a2 := fun q hq => pe.mem_iff.mpr (List.mem_append_left _ hq)
  have in2 : ∀ q ∈ x2, q ∈ a2 := fun q hq => pe.mem_iff.mpr (List.mem_append_right _ hq)
  have st : ∀ q ∈ a2, H q ≠ none := fun q hq => (List.mem_append.mp (pe.mem_iff.mp hq)).elim (h1.stands q) (h2.stands q)
  have pe2 : (x1 ++ (bs ++ x2)).Perm (a2 ++ bs) := by
    refine List.Perm.trans ?_ (List.Perm.append_right bs pe.symm)
    rw [List.append_assoc]
    exact List.Perm.append_left x1 List.perm_append_comm
  have nd2 : (a2 ++ bs).Nodup := List.nodup_append.mpr ⟨hnd, b2, fun a ha b hb e => by
    subst e
    exact st a ha (b3 a hb).1⟩
  have mono : ∀ {vs : List V} {es : List D} {x : List Addr}, Owns H L k vs es x → (∀ q ∈ x, q ∈ a2) → Owns H2 (fun p => L p ∨ M' p) k vs es x := fun h hx => h.mono (fun _ => .inl) fun q u hq e => f2 q u (hq.elim (fun z => (hL q z).1) fun z => (hna q (hx q z)).1) e
  refine hput (M := fun p => L p ∨ M' p) (bs := x1 ++ (bs ++ x2)) f2 g2 ((mono h1 in1).append (.cons (b1.mono (fun _ => .inr) fun _ _ _ e => e) (mono h2 in2))) hl (pe2.nodup_iff.mpr nd2) (fun z hz => ?_) (fun z hz => ?_)
  · rcases List.mem_append.mp (pe2.mem_iff.mp hz) with y | y
    · exact ⟨(hna z y).1, .inl y⟩
    · exact ⟨(b3 z y).2, .inr (b3 z y).1⟩
  · have no : z ∉ a2 ∧ z ∉ bs → z ∉ x1 ++ (bs ++ x2) := fun h y => (List.mem_append.mp (pe2.mem_iff.mp y)).elim h.1 h.2
    rcases hz with hz | hz
    · exact ⟨.inl hz, no ⟨fun y => (hna z y).2 hz, fun y => (hL z hz).2 (b3 z y).1⟩⟩
    · obtain ⟨c1, c2, c3, c4⟩ := b4 z hz
      refine ⟨c3.imp id fun y => ⟨c1, y, c2⟩, no ⟨fun y => ?_, c4⟩⟩
      rcases c3 with x | x
      · exact (hna z y).2 x
      · exact st z y x
theorem put_more {i k : Nat} {p : Addr} {a2 : List Addr} {pt : List D → D} (hput : Hput C B m ρ σ H A L i k p a2 pt) (f2 : Fr C H H2) (g2 : RngAt C r1 H2) {ws : List V} {es : List D} (how : Owns H L k ws es a2) (hnd : a2.Nodup) (hna : ∀ q ∈ a2, C.nr q ∧ ¬ L q) (hL : Reg C L H)
    {v : V} {d : D} (o2 : Out C H L H2 k v d) (hl : (es ++ [d]).length ≤ sizeLine) : ∃ A' L', SimS C B m (setS ρ i (pt (es ++ [d]))) r1 σ (upd H2 p (.lst (ws ++ [v]))) A' L' ∧ Step C A H A' (upd H2 p (.lst (ws ++ [v]))) ∧ (∀ q, L q → L' q) :=
  put_ins hput f2 g2 hnd how .nil (by rw [List.append_nil]) hna hL o2 hl
end

/-- a receiver: the list of a local, or a list within -/
abbrev Fcs := Slots → M (List D × (List D → D))
def fcTop (i : Nat) : Fcs := fun ρ => match ρ[i]? with
  | some (some (.list ds)) => M.pure (ds, .list)
  | _ => M.bad
structure Rcv (X : Cx) (C : Ct) (B : Bs) (m : List Nat) (i k : Nat) (e : Expr) (t : TE) (fo : Fcs) : Prop where
  pe : PE X e t
  run : ∀ {ρ : Slots} {r : Rg} {σ : St} {H : Hp} {A : List Addr} {L : Addr → Prop} {Q : VK} {γ : Type} {kr : Nat} {m' : List Nat} {Ds : Ends} {g : List D × (List D → D) → M Fl} {H0 : Hp} {A0 : List Addr} {L0 : Addr → Prop}, SimS C B m ρ r σ H A L → WS C B kr m' A0 H0 L0 Ds (M.bind (fo ρ) g r) →
    (∀ es pt r1 q ws a2 H1, fo ρ r = .ok (es, pt) r1 → Fr C H H1 → SimS C B m ρ r1 σ H1 A L → FocS H1 L m ρ σ A i k q ws es a2 pt → WS C B kr m' A0 H0 L0 Ds (g (es, pt) r1) → Q (.ref q) H1) → t σ H Q
section
variable {X : Cx} {C : Ct} {B : Bs} {kr n k : Nat} {m m' : List Nat} {al os : List Nat} {pos p p' apos cpos : Pos} {fe fk : Den} {e e2 o : Expr} {i : Nat} {x : Str} {t : TE} {fo : Fcs}
theorem rc_name (hN : X.N[i]? = some x) (hv : Vis X.env.scope x) (hm : m[i]? = some (k + 1)) (hd : (x == ("__debug__" : Str)) = false := by decide) (hcd : (x == ("__classdict__" : Str)) = false := by decide) : Rcv X C B m i k (.Name x p) (tVar i) (fcTop i) := by
  refine ⟨pe_var hN hv hd hcd, fun {ρ r σ H A L Q γ kr m' Ds g H0 A0 L0} s w h => ?_⟩
  unfold fcTop at w h
  split at w
  · rename_i ds q
    obtain ⟨q', ws, a2, h1, F⟩ := FocS.top s q hm
    exact ⟨_, h1, h ds .list r q' ws a2 H (by rw [q]; rfl) Fr.refl s F w⟩
  · exact w.elim

/-! ### x.append(e) -/
def dsApp (fo : Fcs) (i : Nat) (fe : Den) : DenS := fun ρ => M.bind (fo ρ) fun ep => M.bind (fe ρ) fun y => if ep.1.length < sizeLine then M.pure (.nx (setS ρ i (ep.2 (ep.1 ++ [y])))) else M.bad
theorem ds_app (rc : Rcv X C B m i k o t fo) (hal : zeros m al = true) (he : PE X e (tEV C k al fe)) (hbase : attributeBase o "append" X.env (eval o X.env) = eval o X.env := by rfl) (hline : (apos.endLine == cpos.line) = true := by rfl) (hst : starEach [e] X.env = [(false, eval e X.env)] := by rfl)
    (hs : swapsWith (.Call (.Attribute o "append" apos) [e] [] cpos) none pos.line X.env = pure false := by rfl)
    (hfew : ((backTo cpos (starEach [e] X.env)).all (fun x => !x.1) && (backToKw cpos (keywordEach [] X.env)).all (fun x => x.1.isSome)
      && decide ([e].length + ([] : List Keyword).length + (if ([] : List Keyword).isEmpty then 0 else 1) < 30)) = true := by rfl) :
    PS X (.Expr (.Call (.Attribute o "append" apos) [e] [] cpos) pos) (tDS C B kr m m (dsApp fo i fe)) := by
  have hst1 : starEach [e] X.env = (false, eval e X.env) :: starEach [] X.env := hst
  refine impPS (ps_expr (pe_bm PySem.F.plainAttrs_list PySem.F.slot_list_append PySem.F.type_list_append mt_append rc.pe (pa_cons he pa_nil hst1) hbase hfew hline hst1 rfl) hs) fun Ds σ H ⟨ρ, r, A, L, s, w⟩ => ?_
  refine rc.run (γ := Unit) s w fun es pt r1 q ws a2 H1 hq f1 s1 F w1 => ?_
  obtain ⟨hc, _⟩ := F.mut s1
  refine ⟨.inl ⟨rfl, _, SqL.of hc⟩, ?_⟩
  have w1' : WS C B kr m A H1 L Ds (M.bind (fe ρ) (fun y => if es.length < sizeLine then M.pure (.nx (setS ρ i (pt (es ++ [y])))) else M.bad) r1) := WS.step w1 (Step.of f1) fun _ h => h
  refine stE (γ := Unit) (k := fun y ρ => if es.length < sizeLine then M.pure (.nx (setS ρ i (pt (es ++ [y])))) else M.bad) s1 (zeros_of hal) w1' fun d r2 v H2 q2 f2 g2 o2 s2 w2 => ?_
  obtain ⟨hcell, hsz, how, hnr, hnd, hna, hput⟩ := F.mut s1
  by_cases hl : es.length < sizeLine
  · rw [if_pos hl] at w2
    refine ⟨q, ws, v, rfl, rfl, f2 _ _ hnr hcell, by rw [how.len]; exact hl, ?_⟩
    obtain ⟨A', L', s3, st3, l3⟩ := put_more hput f2 g2 how hnd hna s1.regL o2 (by rw [List.length_append]; exact hl)
    exact w2 _ _ _ _ s3 st3 l3
  · rw [if_neg hl] at w2; exact w2.elim
end
end DL

/-! DLn: more statements that change what a local owns. -/
namespace DL
open PySem L2

section
variable {C : Ct} {B : Bs} {H H' H1 H2 : Hp} {L L' M : Addr → Prop} {m : List Nat} {ρ : Slots} {σ : St} {A : List Addr} {r r1 : Rg}
/-- the list becomes another one, of what it had and what is new -/
theorem put_gen {i k : Nat} {p : Addr} {a2 bs bs' : List Addr} {pt : List D → D} {M' : Addr → Prop} (hput : Hput C B m ρ σ H A L i k p a2 pt) (f2 : Fr C H H2) (g2 : RngAt C r1 H2) (st : ∀ q ∈ a2, H q ≠ none) (hna : ∀ q ∈ a2, C.nr q ∧ ¬ L q) (hL : Reg C L H)
    (b3 : ∀ q ∈ bs, H q = none ∧ C.nr q) (b4 : ∀ q, M' q → C.nr q ∧ H2 q ≠ none ∧ (L q ∨ H q = none) ∧ q ∉ bs) {vs' : List V} {ds' : List D} (o : Owns H2 (fun p => L p ∨ M' p) k vs' ds' bs') (nd : bs'.Nodup) (hs : ∀ q ∈ bs', q ∈ a2 ∨ q ∈ bs) (hl : ds'.length ≤ sizeLine) :
    ∃ A' L', SimS C B m (setS ρ i (pt ds')) r1 σ (upd H2 p (.lst vs')) A' L' ∧ Step C A H A' (upd H2 p (.lst vs')) ∧ (∀ q, L q → L' q) := by
  refine hput f2 g2 o hl nd (fun z hz => ?_) (fun z hz => ?_)
  · rcases hs z hz with y | y
    · exact ⟨(hna z y).1, .inl y⟩
    · exact ⟨(b3 z y).2, .inr (b3 z y).1⟩
  · have no : z ∉ a2 ∧ z ∉ bs → z ∉ bs' := fun h y => (hs z y).elim h.1 h.2
    rcases hz with hz | hz
    · exact ⟨.inl hz, no ⟨fun y => (hna z y).2 hz, fun y => (hL z hz).2 (b3 z y).1⟩⟩
    · obtain ⟨c1, c2, c3, c4⟩ := b4 z hz
      refine ⟨c3.imp id fun y => ⟨c1, y, c2⟩, no ⟨fun y => ?_, c4⟩⟩
      rcases c3 with x | x
      · exact (hna z y).2 x
      · exact st z y x
theorem Owns.erase0' : ∀ {n : Nat} {vs : List V} {ds : List D} {as : List Addr}, as = [] → Owns H L n vs ds as → ∀ j : Nat, Owns H L n (vs.eraseIdx j) (ds.eraseIdx j) []
  | _, _, _, _, e, .nil, j => .nil
  | _, _, _, _, e, .cons a b, 0 => by
    obtain ⟨rfl, rfl⟩ := List.append_eq_nil_iff.mp e
    exact b
  | _, _, _, _, e, .cons a b, j + 1 => by
    obtain ⟨rfl, rfl⟩ := List.append_eq_nil_iff.mp e
    exact .cons a (b.erase0' rfl j)
theorem Owns.erase0 {vs : List V} {ds : List D} (h : Owns H L 0 vs ds []) (j : Nat) : Owns H L 0 (vs.eraseIdx j) (ds.eraseIdx j) [] := h.erase0' rfl j
theorem dropLast_erase {α : Type} : ∀ (l : List α), l.dropLast = l.eraseIdx (l.length - 1)
  | [] => rfl
  | [a] => rfl
  | a :: b :: l => by
    rw [List.dropLast_cons₂, dropLast_erase (b :: l)]
    rfl
theorem ixN_lt {n : Nat} {i : Int} {j : Nat} (h : ixN n i = some j) : j < n := (ixN_seq h).2.1
theorem idx_val : ∀ {kds : List (D × D)} {kvs : List (Key × V)}, kds.map (·.1) = kvs.map (fun kv => keyD kv.1) → ∀ {k : Key} {j : Nat}, (kds.findIdx? fun p => PyData.eqv p.1 (keyD k)) = some j → valV kvs k = (kvs.map (·.2))[j]?
  | [], [], _, k, j, h => by cases h
  | [], _ :: _, e, k, j, h => by simp at e
  | _ :: _, [], e, k, j, h => by simp at e
  | kd :: kds, kv :: kvs, e, k, j, h => by
    rw [List.map_cons, List.map_cons] at e
    obtain ⟨e1, e2⟩ := List.cons.inj e
    rw [List.findIdx?_cons, e1, keyD_eqv] at h
    unfold valV
    by_cases hk : kv.1 = k
    · simp only [hk, decide_true, if_true] at h
      cases h
      simp [hk]
    · simp only [hk, decide_false, Bool.false_eq_true, if_false] at h
      cases q : (kds.findIdx? fun p => PyData.eqv p.1 (keyD k)) with
      | none => rw [q] at h; cases h
      | some j' =>
        rw [q] at h
        cases h
        have := idx_val e2 q
        unfold valV at this
        simp [hk, this]
end

def fcAtL (ds : List D) : D → Option (List D × (List D → D))
  | .int j => match ixN ds.length j with
    | some jj => match ds[jj]? with
      | some (.list es) => some (es, fun es' => .list (ds.set jj (.list es')))
      | _ => none
    | none => none
  | _ => none
def fcAtD (kds : List (D × D)) (key : D) : Option (List D × (List D → D)) := match keyOf key with
  | some k => match kds.findIdx? (fun p => PyData.eqv p.1 (keyD k)) with
    | some jj => match kds[jj]? with
      | some (kd, .list es) => some (es, fun es' => .dict (kds.set jj (kd, .list es')))
      | _ => none
    | none => none
  | none => none
def fcIx (i : Nat) (fk : Den) : Fcs := fun ρ => match ρ[i]? with
  | some (some (.list ds)) => M.bind (fk ρ) fun key => M.lift (fcAtL ds key)
  | some (some (.dict kds)) => M.bind (fk ρ) fun key => M.lift (fcAtD kds key)
  | _ => M.bad
section
variable {X : Cx} {C : Ct} {B : Bs} {kr n n1 k : Nat} {m m' : List Nat} {al alk os : List Nat} {pos p p' apos cpos : Pos} {fe fk : Den} {e e2 o : Expr} {i j : Nat} {x y : Str} {t : TE} {fo : Fcs}
theorem WS.at {A : List Addr} {H H1 : Hp} {L : Addr → Prop} {Ds : Ends} {res : Res Fl} (w : WS C B kr m' A H L Ds res) (f : Fr C H H1) : WS C B kr m' A H1 L Ds res := WS.step w (Step.of f) fun _ h => h
theorem WS.lift {α : Type} {A : List Addr} {H : Hp} {L : Addr → Prop} {Ds : Ends} {o : Option α} {g : α → M Fl} {r : Rg} (w : WS C B kr m' A H L Ds (M.bind (M.lift o) g r)) : ∃ a, o = some a ∧ WS C B kr m' A H L Ds (g a r) := by
  cases o with
  | none => exact w.elim
  | some a => exact ⟨a, rfl, w⟩
theorem M.assoc {α β γ : Type} (a : M α) (f : α → M β) (g : β → M γ) : M.bind (M.bind a f) g = M.bind a fun x => M.bind (f x) g := by
  unfold M.bind
  funext r
  cases a r <;> rfl
/-- an expression within a part of a statement; what is wanted is told of an earlier heap -/
theorem stE' {α β : Type} {O : Hp → Hp → (Addr → Prop) → α → β → Prop} {fe : Slots → M α} {k : α → M Fl} {ρ : Slots} {r : Rg} {σ : St} {H H0 : Hp} {A A0 : List Addr} {L L0 : Addr → Prop} {Ds : Ends} {Q : β → Hp → Prop} (s : SimS C B m ρ r σ H A L) (hal : ∀ i ∈ al, m[i]? = some 0)
    (w : WS C B kr m' A0 H0 L0 Ds (M.bind (fe ρ) k r)) (h : ∀ a r1 v H1, fe ρ r = .ok a r1 → Fr C H H1 → RngAt C r1 H1 → O H H1 L a v → SimS C B m ρ r1 σ H1 A L → WS C B kr m' A0 H0 L0 Ds (k a r1) → Q v H1) : tG C al O fe σ H Q := by
  refine ⟨ρ, r, L, s.env hal, s.rg, s.regL, ?_⟩
  unfold M.bind at w
  cases q : fe ρ r with
  | ok a r1 =>
    rw [q] at w
    exact fun v H1 f1 g1 o => h a r1 v H1 q f1 g1 o (s.on f1 g1) w
  | ex c d r1 =>
    rw [q] at w
    exact WEx.inner s w
  | bad =>
    rw [q] at w
    exact w.elim
theorem rc_ix (hu : X.A.units + 64 < cLine) (hN : X.N[i]? = some x) (hv : Vis X.env.scope x) (hm : m[i]? = some (k + 2)) (hal : zeros m alk = true) (hk : PE X e (tEV C n1 alk fk)) (hs : PlainIx e) (hd : (x == ("__debug__" : Str)) = false := by decide) (hcd : (x == ("__classdict__" : Str)) = false := by decide) :
    Rcv X C B m i k (.Subscript (.Name x p) e pos) (fun σ H Q => tOp (rIxL X.K) (tVar i) (tEV C n1 alk fk) σ H Q ∨ tDGet (tVar i) (tEV C n1 alk fk) σ H Q) (fcIx i fk) := by
  have hx := pe_var (pos := p) hN hv hd hcd
  refine ⟨orPE (pe_ix ix_list hx hk hs) (pe_dget (by omega) hx hk hs), fun {ρ r σ H A L Q γ kr m' Ds g H0 A0 L0} s w h => ?_⟩
  unfold fcIx at w h
  split at w
  · rename_i ds hρ
    simp only [hρ] at h
    rw [M.assoc] at w
    obtain ⟨v0, _, _, _, h1, _⟩ := s.sl.at hρ
    refine .inl ⟨v0, h1, stE' s (zeros_of hal) w fun d r1 v H1 q f1 g1 o s1 w1 => ?_⟩
    obtain ⟨ep, he, w2⟩ := WS.lift w1
    obtain ⟨es, pt⟩ := ep
    have he0 := he
    unfold fcAtL at he
    split at he
    · rename_i j
      split at he
      · rename_i jj hjj
        split at he
        · rename_i es' hes
          cases he
          obtain ⟨p1, vs, q1, ws, a2, x1, x2, x3, x4, F⟩ := FocS.list s1 hρ hm hes
          rw [h1] at x1; cases x1
          obtain ⟨L1, k1, _⟩ := Out.view o
          refine ⟨p1, vs, j, .ref q1, rfl, own_int k1, SqL.of x2, by unfold atI; rw [x4, hjj]; exact x3, h _ _ r1 q1 ws a2 H1 ?_ f1 s1 F w2⟩
          show M.bind (fk ρ) (fun key => M.lift (fcAtL ds key)) r = _
          unfold M.bind
          rw [q]
          show M.lift (fcAtL ds (.int j)) r1 = _
          rw [he0]; rfl
        · cases he
      · cases he
    · cases he
  · rename_i kds hρ
    simp only [hρ] at h
    rw [M.assoc] at w
    obtain ⟨v0, _, _, _, h1, _⟩ := s.sl.at hρ
    refine .inr ⟨v0, h1, stE' s (zeros_of hal) w fun d r1 v H1 q f1 g1 o s1 w1 => ?_⟩
    obtain ⟨ep, he, w2⟩ := WS.lift w1
    obtain ⟨es, pt⟩ := ep
    have he0 := he
    unfold fcAtD at he
    split at he
    · rename_i kk hkk
      split at he
      · rename_i jj hjj
        split at he
        · rename_i kd es' hes
          cases he
          obtain ⟨p1, kvs, q1, ws, a2, x1, x2, x3, ko, F⟩ := FocS.dict s1 hρ hm hes
          rw [h1] at x1; cases x1
          obtain ⟨L1, k1, _⟩ := Out.view o
          have hd := keyOf_eq hkk
          subst hd
          refine ⟨p1, .ref q1, rfl, .inl ⟨kvs, kk, .inl x2, own_keyD k1, ?_⟩, h _ _ r1 q1 ws a2 H1 ?_ f1 s1 F w2⟩
          · rw [idx_val ko.eq hjj]; exact x3.symm
          · show M.bind (fk ρ) (fun key => M.lift (fcAtD kds key)) r = _
            unfold M.bind
            rw [q]
            show M.lift (fcAtD kds (keyD kk)) r1 = _
            rw [he0]; rfl
        · cases he
      · cases he
    · cases he
  · exact w.elim
end
end DL

/-! DLo: entries put, items popped and inserted, lists made longer, several names. -/
namespace DL
open PySem L2

theorem orPS {X : Cx} {st : Stmt} {t t' : TS} (h : PS X st t) (h' : PS X st t') : PS X st (fun Ds σ H => t Ds σ H ∨ t' Ds σ H) := ⟨fun pins s σ H Ds I q => q.elim (h.run pins s σ H Ds I) (h'.run pins s σ H Ds I)⟩
def putL (ds : List D) (y : D) : D → Option D
  | .int j => (ixN ds.length j).map fun jj => .list (ds.set jj y)
  | _ => none
def putDk (kds : List (D × D)) (y key : D) : Option D := match keyOf key with
  | some k => if kds.length < sizeLine then some (.dict (putD kds (keyD k) y)) else none
  | none => none
/-- x[k] = e -/
def dsPut (i : Nat) (fk fe : Den) : DenS := fun ρ => match ρ[i]? with
  | some (some (.list ds)) => M.bind (fe ρ) fun y => M.bind (fk ρ) fun key => M.bind (M.lift (putL ds y key)) fun d => M.pure (.nx (setS ρ i d))
  | some (some (.dict kds)) => M.bind (fe ρ) fun y => M.bind (fk ρ) fun key => M.bind (M.lift (putDk kds y key)) fun d => M.pure (.nx (setS ρ i d))
  | _ => M.bad
section
variable {X : Cx} {C : Ct} {B : Bs} {kr n n1 k : Nat} {m m' : List Nat} {al alk os : List Nat} {pos pos' p p' apos cpos : Pos} {fe fk : Den} {e e2 o : Expr} {i j : Nat} {x y : Str} {t : TE} {fo : Fcs}
theorem ds_put (hu : X.A.units + 64 < cLine) (hN : X.N[i]? = some x) (hv : Vis X.env.scope x) (hm : m[i]? = some (k + 1)) (hal : zeros m al = true) (halk : zeros m alk = true) (hk : PE X e (tEV C n1 alk fk)) (he : PE X e2 (tEV C k al fe))
    (hd : (x == ("__debug__" : Str)) = false := by decide) (hcd : (x == ("__classdict__" : Str)) = false := by decide)
    (hs : swapsWithSole [.Subscript (.Name x p) e p'] e2 pos.line X.env = pure false := by rfl) (hw : swappedStores [.Subscript (.Name x p) e p'] e2 X.env = pure none := by rfl)
    (h1 : (assignEach [.Subscript (.Name x p) e p'] X.env).map (·.2) = [assign (.Subscript (.Name x p) e p') X.env] := by rfl)
    (ha : ∀ v, assign (.Subscript (.Name x p) e p') X.env v = (do
      let ov ← holding [v] (eval (.Name x p) X.env)
      let iv ← holding [v, ov] (eval e X.env)
      standAt p'
      holding [v, ov, iv] (setItem ov iv v)
      release [v, ov, iv] []) := by intro _; rfl)
    (hs' : swapsWith e2 (some (.Subscript (.Name x p) e p')) pos.line X.env = pure false := by rfl) :
    PS X (.Assign [.Subscript (.Name x p) e p'] e2 pos) (tDS C B kr m m (dsPut i fk fe)) := by
  have hx := pe_var (pos := p) hN hv hd hcd
  refine impPS (orPS (ps_asg he (pg_sub hx hk set_list ha) hs hw h1) (ps_dput (by omega) hx hk he hs')) fun Ds σ H ⟨ρ, r, A, L, s, w⟩ => ?_
  have hc : (∃ ds, ρ[i]? = some (some (.list ds))) ∨ (∃ kds, ρ[i]? = some (some (.dict kds))) ∨ dsPut i fk fe ρ = M.bad := by
    unfold dsPut
    split
    · exact .inl ⟨_, by assumption⟩
    · exact .inr (.inl ⟨_, by assumption⟩)
    · exact .inr (.inr rfl)
  rcases hc with ⟨ds, hρ⟩ | ⟨kds, hρ⟩ | hb
  · simp only [dsPut, hρ] at w
    refine .inl (stE' s (zeros_of hal) w fun y r1 v H1 q f1 g1 o s1 w1 => ?_)
    obtain ⟨q1, ws, a2, h1, F⟩ := FocS.top s hρ hm
    obtain ⟨hcell, hsz, how, hnr, hnd, hna, hput⟩ := F.mut s
    refine ⟨_, h1, stE' s1 (zeros_of halk) w1 fun key r2 kv H2 q2 f2 g2 o2 s2 w2 => ?_⟩
    obtain ⟨d', hd', w3⟩ := WS.lift w2
    unfold putL at hd'
    split at hd'
    · rename_i jj0
      cases hj : ixN ds.length jj0 with
      | none => rw [hj] at hd'; cases hd'
      | some jj =>
        rw [hj] at hd'; cases hd'
        obtain ⟨L2, k1, _⟩ := Out.view o2
        have f12 := f1.trans f2
        refine ⟨q1, ws, jj0, jj, rfl, own_int k1, f12 _ _ hnr hcell, by rw [how.len]; exact hj, ?_⟩
        have hlt := ixN_lt hj
        obtain ⟨vo, b1, b2, hvo, pe, oo, back⟩ := how.setAt (List.getElem?_eq_getElem hlt)
        obtain ⟨M', bs, c1, c2, c3, c4⟩ := Out.on o f2
        have regL := s.regL
        have in2 : ∀ q ∈ b2, q ∈ a2 := fun q hq => pe.mem_iff.mpr (List.mem_append_right _ hq)
        have stA : ∀ q ∈ a2, H q ≠ none := fun q hq => how.stands q hq
        obtain ⟨as2, pe2, o3⟩ := back (H' := H2) (L' := fun p => L p ∨ M' p) (fun _ => .inl) (fun q u hq e => f12 q u (hq.elim (fun z => (regL q z).1) fun z => (hna q (in2 q z)).1) e) (c1.mono (fun _ => .inr) fun _ _ _ e => e)
        have nd2 : (bs ++ b2).Nodup := List.nodup_append.mpr ⟨c2, (List.nodup_append.mp (pe.nodup_iff.mp hnd)).2.1, fun a ha b hb e => by
          subst e
          exact stA a (in2 a hb) (c3 a ha).1⟩
        obtain ⟨A', L', s3, st3, l3⟩ := put_gen hput f12 g2 stA hna regL c3 c4 o3 (pe2.nodup_iff.mpr nd2) (fun q hq => (List.mem_append.mp (pe2.mem_iff.mp hq)).elim .inr fun z => .inl (in2 q z)) (by rw [List.length_set]; exact hsz)
        exact w3 _ _ _ _ s3 st3 l3
    · cases hd'
  · simp only [dsPut, hρ] at w
    refine .inr (stE' s (zeros_of hal) w fun y r1 v H1 q f1 g1 o s1 w1 => ?_)
    obtain ⟨p1, kvs, h1, hcell, hnr, hlen, hput⟩ := s.mutD hρ hm
    refine ⟨_, h1, stE' s1 (zeros_of halk) w1 fun key r2 kv H2 q2 f2 g2 o2 s2 w2 => ?_⟩
    obtain ⟨d', hd', w3⟩ := WS.lift w2
    unfold putDk at hd'
    split at hd'
    · rename_i kk hkk
      split at hd'
      · rename_i hl
        cases hd'
        have hd := keyOf_eq hkk
        subst hd
        obtain ⟨L2, k1, _⟩ := Out.view o2
        have f12 := f1.trans f2
        obtain ⟨A', L', s3, st3, l3⟩ := hput (kk := kk) f12 g2 (Out.on o f2) hl
        exact ⟨p1, _, rfl, .inl ⟨kvs, kk, f12 _ _ hnr hcell, own_keyD k1, by rw [hlen]; exact hl, rfl⟩, w3 _ _ _ _ s3 st3 l3⟩
      · cases hd'
    · cases hd'
  · rw [hb] at w; exact w.elim

/-! ### pop -/
def popAt (ds : List D) : D → Option (D × List D)
  | .int j => match ixN ds.length j with
    | some jj => (ds[jj]?).map fun y => (y, ds.eraseIdx jj)
    | none => none
  | _ => none
def fpLast (i : Nat) : Slots → M (D × List D) := fun ρ => match ρ[i]? with
  | some (some (.list ds)) => M.lift ((ds[ds.length - 1]?).map fun y => (y, ds.dropLast))
  | _ => M.bad
def fpAt (i : Nat) (fk : Den) : Slots → M (D × List D) := fun ρ => match ρ[i]? with
  | some (some (.list ds)) => M.bind (fk ρ) fun key => M.lift (popAt ds key)
  | _ => M.bad
structure PopE (X : Cx) (C : Ct) (B : Bs) (m : List Nat) (i : Nat) (e : Expr) (te : TE) (fp : Slots → M (D × List D)) : Prop where
  pe : PE X e te
  run : ∀ {ρ : Slots} {r : Rg} {σ : St} {H : Hp} {A : List Addr} {L : Addr → Prop} {Q : VK} {kr : Nat} {m' : List Nat} {Ds : Ends} {g : D × List D → M Fl} {H0 : Hp} {A0 : List Addr} {L0 : Addr → Prop}, SimS C B m ρ r σ H A L → WS C B kr m' A0 H0 L0 Ds (M.bind (fp ρ) g r) →
    (∀ v y es r1 H1 A1 L1, SimS C B m (setS ρ i (.list es)) r1 σ H1 A1 L1 → Step C A H A1 H1 → (∀ q, L q → L1 q) → Own H1 L1 0 v y [] → WS C B kr m' A0 H0 L0 Ds (g (y, es) r1) → Q v H1) → te σ H Q
theorem FocS.pop {A : List Addr} {L : Addr → Prop} {σ : St} {ρ : Slots} {r r1 : Rg} {H H2 : Hp} {q : Addr} {ws : List V} {ds a : List D} {a2 : List Addr} {jj : Nat} {y : D} (s : SimS C B m ρ r σ H A L) (F : FocS H L m ρ σ A i 0 q ws ds a2 .list) (f : Fr C H H2) (g : RngAt C r1 H2) (hy : ds[jj]? = some y) :
    ∃ v A1 L1, ws[jj]? = some v ∧ SimS C B m (setS ρ i (.list (ds.eraseIdx jj))) r1 σ (upd H2 q (.lst (ws.eraseIdx jj))) A1 L1 ∧ Step C A H A1 (upd H2 q (.lst (ws.eraseIdx jj))) ∧ (∀ q, L q → L1 q) ∧ Own (upd H2 q (.lst (ws.eraseIdx jj))) L1 0 v y [] := by
  obtain ⟨hcell, hsz, how, hnr, hnd, hna, hput⟩ := F.mut s
  cases how.zero rfl
  obtain ⟨v, h1, h2⟩ := how.get0 hy
  have regL := s.regL
  have hlen : (ds.eraseIdx jj).length ≤ sizeLine := Nat.le_trans (len_erase ds jj) hsz
  obtain ⟨A', L', s3, st3, l3⟩ := put_gen (bs := []) (bs' := []) (M' := fun _ => False) hput f g nofun nofun regL nofun (fun _ z => z.elim) ((how.erase0 jj).mono (H' := H2) (L' := fun p => L p ∨ False) (fun _ => .inl) fun q u hq e => f q u (hq.elim (fun z => (regL q z).1) nofun) e) .nil nofun hlen
  refine ⟨v, A', L', h1, s3, st3, l3, h2.mono l3 fun p u hp e => ?_⟩
  refine st3.st p u (hp.elim (fun z => (regL p z).1) nofun) (fun z => hp.elim (fun z2 => (s.reg p z2).2.2.2 z) nofun) e
theorem pp_last (hN : X.N[i]? = some x) (hv : Vis X.env.scope x) (hm : m[i]? = some 1) (hd : (x == ("__debug__" : Str)) = false := by decide) (hcd : (x == ("__classdict__" : Str)) = false := by decide)
    (hbase : attributeBase (.Name x p) "pop" X.env (eval (.Name x p) X.env) = eval (.Name x p) X.env := by rfl) (hline : (apos.endLine == cpos.line) = true := by rfl) :
    PopE X C B m i (.Call (.Attribute (.Name x p) "pop" apos) [] [] cpos) (tBM0 X.K "list" rPop (tVar i)) (fpLast i) := by
  refine ⟨pe_bm0 PySem.F.plainAttrs_list PySem.F.slot_list_pop PySem.F.type_list_pop mt_pop (pe_var hN hv hd hcd) hbase hline, fun {ρ r σ H A L Q kr m' Ds g H0 A0 L0} s w h => ?_⟩
  unfold fpLast at w
  split at w
  · rename_i ds hρ
    obtain ⟨q1, ws, a2, h1, F⟩ := FocS.top s hρ hm
    obtain ⟨a, ha, w1⟩ := WS.lift w
    cases hy : ds[ds.length - 1]? with
    | none => rw [hy] at ha; cases ha
    | some y =>
      rw [hy] at ha; cases ha
      obtain ⟨hcell, _, how, _⟩ := F.mut s
      obtain ⟨v, A1, L1, k1, k2, k3, k4, k5⟩ := FocS.pop (a := ds) s F Fr.refl s.rg hy
      rw [← how.len] at k1
      have e1 : ws.dropLast = ws.eraseIdx (ds.length - 1) := by rw [dropLast_erase, how.len]
      refine ⟨_, h1, .inl ⟨rfl, _, SqL.of hcell⟩, q1, ws, v, rfl, rfl, hcell, k1, ?_⟩
      rw [e1]
      rw [dropLast_erase] at w1
      exact h v y _ _ _ A1 L1 k2 k3 k4 k5 w1
  · exact w.elim
theorem pp_at (hN : X.N[i]? = some x) (hv : Vis X.env.scope x) (hm : m[i]? = some 1) (hal : zeros m alk = true) (hk : PE X e (tEV C n1 alk fk)) (hd : (x == ("__debug__" : Str)) = false := by decide) (hcd : (x == ("__classdict__" : Str)) = false := by decide)
    (hbase : attributeBase (.Name x p) "pop" X.env (eval (.Name x p) X.env) = eval (.Name x p) X.env := by rfl) (hline : (apos.endLine == cpos.line) = true := by rfl) (hst : starEach [e] X.env = [(false, eval e X.env)] := by rfl)
    (hfew : ((backTo cpos (starEach [e] X.env)).all (fun x => !x.1) && (backToKw cpos (keywordEach [] X.env)).all (fun x => x.1.isSome)
      && decide ([e].length + ([] : List Keyword).length + (if ([] : List Keyword).isEmpty then 0 else 1) < 30)) = true := by rfl) :
    PopE X C B m i (.Call (.Attribute (.Name x p) "pop" apos) [e] [] cpos) (tBM X.K "list" rPopAt (tVar i) (tCons (tEV C n1 alk fk) tNil)) (fpAt i fk) := by
  have hst1 : starEach [e] X.env = (false, eval e X.env) :: starEach [] X.env := hst
  refine ⟨pe_bm PySem.F.plainAttrs_list PySem.F.slot_list_pop PySem.F.type_list_pop mt_popAt (pe_var hN hv hd hcd) (pa_cons hk pa_nil hst1) hbase hfew hline hst1 rfl, fun {ρ r σ H A L Q kr m' Ds g H0 A0 L0} s w h => ?_⟩
  unfold fpAt at w
  split at w
  · rename_i ds hρ
    obtain ⟨q1, ws, a2, h1, F⟩ := FocS.top s hρ hm
    obtain ⟨hcell, hsz, how, hnr, _⟩ := F.mut s
    rw [M.assoc] at w
    refine ⟨_, h1, .inl ⟨rfl, _, SqL.of hcell⟩, stE' s (zeros_of hal) w fun d r1 kv H1 q f1 g1 o s1 w1 => ?_⟩
    obtain ⟨a, ha, w2⟩ := WS.lift w1
    unfold popAt at ha
    split at ha
    · rename_i j
      split at ha
      · rename_i jj hjj
        cases hy : ds[jj]? with
        | none => rw [hy] at ha; cases ha
        | some y =>
          rw [hy] at ha; cases ha
          obtain ⟨L1, o1, _⟩ := Out.view o
          obtain ⟨v, A1, L1, k1, k2, k3, k4, k5⟩ := FocS.pop (a := ds) s F f1 g1 hy
          obtain ⟨z1, z2, z3, z4⟩ := ixN_seq hjj
          have l63 := line63
          refine ⟨q1, ws, j, jj, v, rfl, by rw [own_int o1], f1 _ _ hnr hcell, by omega, by omega, by rw [how.len]; exact z1, k1, h v y _ _ _ A1 L1 k2 k3 k4 k5 w2⟩
      · cases ha
    · cases ha
  · exact w.elim
/-- x = y.pop(..) -/
def dsSetPop (j i : Nat) (fp : Slots → M (D × List D)) : DenS := fun ρ => M.bind (fp ρ) fun ye => M.pure (.nx (setS (setS ρ i (.list ye.2)) j ye.1))
theorem ds_setpop {te : TE} {fp : Slots → M (D × List D)} (pp : PopE X C B m i e te fp) (hN : X.N.Nodup) (hi : X.N[j]? = some y) (hx : Loc X.env.scope y) (hrs : C.pn j = none) (hs : swapsWith e (some (.Name y pos')) pos.line X.env = pure false := by rfl)
    (hf : X.fn y = true ∨ X.env.scope.names.lookup y = some .local := by first | exact .inl rfl | exact .inr rfl | assumption) : PS X (.Assign [.Name y pos'] e pos) (tDS C B kr m (m.set j 0) (dsSetPop j i fp)) := by
  refine impPS (ps_set hN hi hx pp.pe hs hf) fun Ds σ H ⟨ρ, r, A, L, s, w⟩ => ?_
  refine pp.run s w fun v y es r1 H1 A1 L1 s1 st1 l1 o1 w1 => ?_
  obtain ⟨A2, L2, s2, a2, l2, _⟩ := s1.putV (M := L1) (i := j) (n := 0) hrs o1 .nil nofun fun p hp => ⟨(s1.reg p hp).1, (s1.reg p hp).2.1, (s1.reg p hp).2.2.1, nofun, (s1.reg p hp).2.2.2⟩
  exact w1 _ _ _ _ s2 (st1.trans ⟨fun p o _ _ e => e, fun p hp => (a2 p hp).elim .inl nofun⟩ fun p hp => (s2.own p hp).1) fun p hp => l2 p (l1 p hp)
/-- the value is dropped -/
def dsExprPop (i : Nat) (fp : Slots → M (D × List D)) : DenS := fun ρ => M.bind (fp ρ) fun ye => M.pure (.nx (setS ρ i (.list ye.2)))
theorem ds_exprpop {te : TE} {fp : Slots → M (D × List D)} (pp : PopE X C B m i e te fp) (hs : swapsWith e none pos.line X.env = pure false := by rfl) : PS X (.Expr e pos) (tDS C B kr m m (dsExprPop i fp)) := by
  refine impPS (ps_expr pp.pe hs) fun Ds σ H ⟨ρ, r, A, L, s, w⟩ => ?_
  refine pp.run s w fun v y es r1 H1 A1 L1 s1 st1 l1 o1 w1 => ?_
  exact w1 _ _ _ _ s1 st1 l1
/-- y.append(x.pop(..)) -/
def lstAt : Option (Option D) → Option (List D)
  | some (some (.list ds)) => some ds
  | _ => none
theorem lstAt_eq {z : Option (Option D)} {ds : List D} (h : lstAt z = some ds) : z = some (some (.list ds)) := by
  unfold lstAt at h
  split at h
  · cases h; rfl
  · cases h
def dsAppPop (j i : Nat) (fp : Slots → M (D × List D)) : DenS := fun ρ => M.bind (M.lift (lstAt ρ[j]?)) fun _ => M.bind (fp ρ) fun ye => M.bind (M.lift (lstAt (setS ρ i (.list ye.2))[j]?)) fun es =>
  if es.length < sizeLine then M.pure (.nx (setS (setS ρ i (.list ye.2)) j (.list (es ++ [ye.1])))) else M.bad
theorem ds_apppop {te : TE} {fp : Slots → M (D × List D)} (pp : PopE X C B m i e te fp) (hN : X.N[j]? = some y) (hv : Vis X.env.scope y) (hm : m[j]? = some 1) (hd : (y == ("__debug__" : Str)) = false := by decide) (hcd : (y == ("__classdict__" : Str)) = false := by decide)
    (hbase : attributeBase (.Name y p) "append" X.env (eval (.Name y p) X.env) = eval (.Name y p) X.env := by rfl) (hline : (apos.endLine == cpos.line) = true := by rfl) (hst : starEach [e] X.env = [(false, eval e X.env)] := by rfl)
    (hs : swapsWith (.Call (.Attribute (.Name y p) "append" apos) [e] [] cpos) none pos.line X.env = pure false := by rfl)
    (hfew : ((backTo cpos (starEach [e] X.env)).all (fun x => !x.1) && (backToKw cpos (keywordEach [] X.env)).all (fun x => x.1.isSome)
      && decide ([e].length + ([] : List Keyword).length + (if ([] : List Keyword).isEmpty then 0 else 1) < 30)) = true := by rfl) :
    PS X (.Expr (.Call (.Attribute (.Name y p) "append" apos) [e] [] cpos) pos) (tDS C B kr m m (dsAppPop j i fp)) := by
  have hst1 : starEach [e] X.env = (false, eval e X.env) :: starEach [] X.env := hst
  refine impPS (ps_expr (pe_bm PySem.F.plainAttrs_list PySem.F.slot_list_append PySem.F.type_list_append mt_append (pe_var hN hv hd hcd) (pa_cons pp.pe pa_nil hst1) hbase hfew hline hst1 rfl) hs) fun Ds σ H ⟨ρ, r, A, L, s, w⟩ => ?_
  obtain ⟨ds, hds, w0⟩ := WS.lift w
  have hρ := lstAt_eq hds
  obtain ⟨q1, ws, a2, h1, F⟩ := FocS.top s hρ hm
  obtain ⟨hcell, _⟩ := F.mut s
  refine ⟨_, h1, .inl ⟨rfl, _, SqL.of hcell⟩, pp.run s w0 fun v y es r1 H1 A1 L1 s1 st1 l1 o1 w1 => ?_⟩
  obtain ⟨es2, hes, w2⟩ := WS.lift w1
  have hρ2 := lstAt_eq hes
  obtain ⟨q2, ws2, a2', h2, F2⟩ := FocS.top s1 hρ2 hm
  rw [h1] at h2; cases h2
  obtain ⟨hcell2, hsz2, how2, hnr2, hnd2, hna2, hput2⟩ := F2.mut s1
  by_cases hl : es2.length < sizeLine
  · rw [if_pos hl] at w2
    refine ⟨q1, ws2, v, rfl, rfl, hcell2, by rw [how2.len]; exact hl, ?_⟩
    obtain ⟨A', L', s3, st3, l3⟩ := put_more hput2 Fr.refl s1.rg how2 hnd2 hna2 s1.regL (Out.ro s1.regL o1) (by rw [List.length_append]; exact hl)
    exact w2 _ _ _ _ s3 (st1.trans st3 fun p hp => (s3.own p hp).1) fun p hp => l3 p (l1 p hp)
  · rw [if_neg hl] at w2; exact w2.elim
end
end DL

/-! DLp: insert, +=, several names at once. -/
namespace DL
open PySem L2

section
variable {C : Ct} {B : Bs} {H H' H1 H2 : Hp} {L L' M : Addr → Prop} {m : List Nat} {ρ : Slots} {σ : St} {A : List Addr} {r r1 : Rg}
theorem Owns.split {n : Nat} : ∀ (k : Nat) {vs : List V} {ds : List D} {as : List Addr}, Owns H L n vs ds as → ∃ x1 x2, as = x1 ++ x2 ∧ Owns H L n (vs.take k) (ds.take k) x1 ∧ Owns H L n (vs.drop k) (ds.drop k) x2
  | 0, vs, ds, as, h => ⟨[], as, rfl, .nil, h⟩
  | k + 1, _, _, _, .nil => ⟨[], [], rfl, .nil, .nil⟩
  | k + 1, _, _, _, .cons a b => by
    obtain ⟨x1, x2, e, h1, h2⟩ := Owns.split k b
    subst e
    exact ⟨_, x2, (List.append_assoc _ _ _).symm, .cons a h1, h2⟩
def setM (m : List Nat) (n : Nat) : List Nat → List Nat
  | [] => m
  | i :: os => setM (m.set i n) n os
theorem SimS.putsV : ∀ {os : List Nat} {m : List Nat} {ρ : Slots} {σ : St} {A : List Addr} {L : Addr → Prop} {n : Nat} {vs : List V} {ds : List D} {as : List Addr}, SimS C B m ρ r σ H A L → (∀ z' ∈ os, C.pn z' = none) → Owns H M n vs ds as → ds.length = os.length → as.Nodup → (∀ p ∈ as, C.nr p ∧ B.He p = none ∧ p ∉ A ∧ ¬ L p) →
    (∀ p, M p → C.nr p ∧ H p ≠ none ∧ (B.G p ∨ B.He p = none) ∧ p ∉ as ∧ p ∉ A) → ∃ A' L', SimS C B (setM m n os) (setsD ρ os ds) r (setsV σ os vs) H A' L' ∧ (∀ p ∈ A', p ∈ A ∨ p ∈ as) ∧ ∀ p, L p → L' p := by
  intro os
  induction os with
  | nil => intro m ρ σ A L n vs ds as s _ _ _ _ _ _; exact ⟨A, L, s, fun _ => .inl, fun _ h => h⟩
  | cons i os ih =>
    intro m ρ σ A L n vs ds as s hrs o hl nd ha hM
    cases o with
    | nil => cases hl
    | @cons _ v vs d ds as bs o1 o2 =>
      have nd1 := List.nodup_append.mp nd
      obtain ⟨A1, L1, s1, a1, l1, l2⟩ := s.putV (i := i) (n := n) (hrs i List.mem_cons_self) o1 nd1.1 (fun p hp => ha p (List.mem_append_left _ hp)) fun p hp => ⟨(hM p hp).1, (hM p hp).2.1, (hM p hp).2.2.1, fun z => (hM p hp).2.2.2.1 (List.mem_append_left _ z), (hM p hp).2.2.2.2⟩
      obtain ⟨A2, L2, s2, a2, l3⟩ := ih s1 (fun j hj => hrs j (List.mem_cons_of_mem _ hj)) o2 (Nat.succ.inj hl) nd1.2.1 (fun p hp => by
          obtain ⟨x1, x2, x3, x4⟩ := ha p (List.mem_append_right _ hp)
          refine ⟨x1, x2, fun z => (a1 p z).elim x3 fun y => nd1.2.2 p y p hp rfl, fun z => (l2 p z).elim x4 fun y => (hM p y).2.2.2.1 (List.mem_append_right _ hp)⟩) (fun p hp => by
          obtain ⟨x1, x2, x3, x4, x5⟩ := hM p hp
          exact ⟨x1, x2, x3, fun z => x4 (List.mem_append_right _ z), fun z => (a1 p z).elim x5 fun y => x4 (List.mem_append_left _ y)⟩)
      refine ⟨A2, L2, s2, fun p hp => ?_, fun p hp => l3 p (l1 p hp)⟩
      rcases a2 p hp with z | z
      · exact (a1 p z).imp id fun y => List.mem_append_left _ y
      · exact .inr (List.mem_append_right _ z)
/-- what came out, as things to be stored -/
theorem SimS.putsO (s : SimS C B m ρ r σ H A L) {os : List Nat} {n : Nat} {vs : List V} {ds : List D} (hrs : ∀ z' ∈ os, C.pn z' = none) (f : Fr C H H1) (g : RngAt C r1 H1) (o : Outs C H L H1 n vs ds) (hl : ds.length = os.length) :
    ∃ A' L', SimS C B (setM m n os) (setsD ρ os ds) r1 (setsV σ os vs) H1 A' L' ∧ Step C A H A' H1 ∧ ∀ p, L p → L' p := by
  obtain ⟨M', as, o1, o2, o3, o4⟩ := o
  have fresh : ∀ p, C.nr p → H p = none → B.He p = none := fun p hn z => none_back s.base hn z
  obtain ⟨A', L', s', a', l'⟩ := (s.on f g).putsV (M := M') hrs o1 hl o2 (fun p hp => ⟨(o3 p hp).2, fresh p (o3 p hp).2 (o3 p hp).1, fun z => s.sl.stands p z (o3 p hp).1, fun z => (s.reg p z).2.1 (o3 p hp).1⟩) fun p hp => by
    obtain ⟨x1, x2, x3, x4⟩ := o4 p hp
    refine ⟨x1, x2, x3.elim (fun z => (s.reg p z).2.2.1) fun z => .inr (fresh p x1 z), x4, fun z => ?_⟩
    rcases x3 with y | y
    · exact (s.reg p y).2.2.2 z
    · exact s.sl.stands p z y
  exact ⟨A', L', s', ⟨fun p o n _ e => f p o n e, fun p hp => (a' p hp).imp id fun z => (o3 p z).1⟩, l'⟩
end
def insAt (ds : List D) (y : D) : D → Option (List D)
  | .int j => if 0 ≤ j ∧ j < 2 ^ 62 ∧ ds.length < sizeLine then some (ds.take j.toNat ++ y :: ds.drop j.toNat) else none
  | _ => none
/-- x.insert(k, e) -/
def dsIns (i : Nat) (fk fe : Den) : DenS := fun ρ => M.bind (M.lift (lstAt ρ[i]?)) fun ds => M.bind (fk ρ) fun key => M.bind (fe ρ) fun y => M.bind (M.lift (insAt ds y key)) fun ds' => M.pure (.nx (setS ρ i (.list ds')))
/-- x += e -/
def augAt (o : D → D → Option D) (a b : D) : Option D := o a b
def dsAug (o : D → D → Option D) (i : Nat) (fe : Den) : DenS := fun ρ => M.bind (dN i ρ) fun a => M.bind (fe ρ) fun b => M.bind (M.lift (o a b)) fun d => M.pure (.nx (setS ρ i d))
def dsExt (i : Nat) (fe : Den) : DenS := fun ρ => M.bind (M.lift (lstAt ρ[i]?)) fun ds => M.bind (fe ρ) fun b => M.bind (M.lift (lstAt (some (some b)))) fun es => if ds.length + es.length ≤ sizeLine then M.pure (.nx (setS ρ i (.list (ds ++ es)))) else M.bad
def dsPar (os : List Nat) (fs : Slots → M (List D)) : DenS := fun ρ => M.bind (fs ρ) fun ds => if ds.length = os.length then M.pure (.nx (setsD ρ os ds)) else M.bad
def dsUnp (fl : D → Option (List D)) (os : List Nat) (fe : Den) : DenS := fun ρ => M.bind (fe ρ) fun d => M.bind (M.lift (fl d)) fun ds => M.pure (.nx (setsD ρ os ds))
section
variable {X : Cx} {C : Ct} {B : Bs} {kr n n1 k : Nat} {m m' : List Nat} {al alk os : List Nat} {pos pos' p p' apos cpos : Pos} {fe fk : Den} {e e2 o : Expr} {i j l : Nat} {x y z : Str} {t : TE} {fs : Slots → M (List D)}
theorem ds_ins (hN : X.N[i]? = some x) (hv : Vis X.env.scope x) (hm : m[i]? = some (k + 1)) (hal : zeros m al = true) (halk : zeros m alk = true) (hk : PE X e (tEV C n1 alk fk)) (he : PE X e2 (tEV C k al fe)) (hd : (x == ("__debug__" : Str)) = false := by decide) (hcd : (x == ("__classdict__" : Str)) = false := by decide)
    (hbase : attributeBase (.Name x p) "insert" X.env (eval (.Name x p) X.env) = eval (.Name x p) X.env := by rfl) (hline : (apos.endLine == cpos.line) = true := by rfl) (hst : starEach [e, e2] X.env = (false, eval e X.env) :: starEach [e2] X.env := by rfl) (hst2 : starEach [e2] X.env = (false, eval e2 X.env) :: starEach [] X.env := by rfl)
    (hs : swapsWith (.Call (.Attribute (.Name x p) "insert" apos) [e, e2] [] cpos) none pos.line X.env = pure false := by rfl) (hpl : (backTo cpos (starEach [e2] X.env)).any (·.1) = false := by rfl)
    (hfew : ((backTo cpos (starEach [e, e2] X.env)).all (fun x => !x.1) && (backToKw cpos (keywordEach [] X.env)).all (fun x => x.1.isSome)
      && decide ([e, e2].length + ([] : List Keyword).length + (if ([] : List Keyword).isEmpty then 0 else 1) < 30)) = true := by rfl) :
    PS X (.Expr (.Call (.Attribute (.Name x p) "insert" apos) [e, e2] [] cpos) pos) (tDS C B kr m m (dsIns i fk fe)) := by
  refine impPS (ps_expr (pe_bm PySem.F.plainAttrs_list PySem.F.slot_list_insert PySem.F.type_list_insert mt_insert (pe_var hN hv hd hcd) (pa_cons hk (pa_cons he pa_nil hst2) hst) hbase hfew hline hst hpl) hs) fun Ds σ H ⟨ρ, r, A, L, s, w⟩ => ?_
  obtain ⟨ds, hds, w0⟩ := WS.lift w
  have hρ := lstAt_eq hds
  obtain ⟨q1, ws, a2, h1, F⟩ := FocS.top s hρ hm
  obtain ⟨hcell0, _⟩ := F.mut s
  refine ⟨_, h1, .inl ⟨rfl, _, SqL.of hcell0⟩, stE' s (zeros_of halk) w0 fun key r1 kv H1 q f1 g1 o1 s1 w1 => ?_⟩
  have F1 := F.on s f1
  obtain ⟨hcell, hsz, how, hnr, hnd, hna, hput⟩ := F1.mut s1
  refine stE' s1 (zeros_of hal) w1 fun y r2 v H2 q2 f2 g2 o2 s2 w2 => ?_
  obtain ⟨ds', hds', w3⟩ := WS.lift w2
  unfold insAt at hds'
  split at hds'
  · rename_i jj
    split at hds'
    · rename_i hj
      cases hds'
      obtain ⟨L1, k1, _⟩ := Out.view o1
      have l63 : (2 : Int) ^ 62 < 2 ^ 63 := by decide
      obtain ⟨x1, x2, ex, p1, p2⟩ := how.split jj.toNat
      refine ⟨q1, ws, jj, v, rfl, by rw [own_int k1], f2 _ _ hnr hcell, by rw [how.len]; exact hj.2.2, hj.1, by omega, ?_⟩
      obtain ⟨A', L', s3, st3, l3⟩ := put_ins hput f2 g2 hnd p1 p2 (by rw [ex]) hna s1.regL o2 (by rw [List.length_append, List.length_cons, List.length_take, List.length_drop]; omega)
      rw [List.append_assoc]
      exact w3 _ _ _ _ s3 ((Step.of f1).trans st3 fun p hp => (s3.own p hp).1) l3
    · cases hds'
  · cases hds'
theorem ds_aug {op : Operator} {od : D → D → Option D} {R : R2} (ho : OpR X (inplaceOp op) R) (hs : Op2 w0 C n od R) (hN : X.N.Nodup) (hi : X.N[i]? = some x) (hx : Loc X.env.scope x) (hrs : C.pn i = none) (hal : zeros m al = true) (he : PE X e (tEV C n1 al fe))
    (hf : X.fn x = true ∨ X.env.scope.names.lookup x = some .local := by first | exact .inl rfl | exact .inr rfl | assumption) : PS X (.AugAssign (.Name x pos') op e pos) (tDS C B kr m (m.set i n) (dsAug od i fe)) := by
  refine impPS (ps_aug hN hi hx he ho hf) fun Ds σ H ⟨ρ, r, A, L, s, w⟩ => ?_
  unfold dsAug M.bind dN at w
  cases q : ρ[i]? with
  | none => rw [q] at w; exact w.elim
  | some o =>
    rw [q] at w
    cases o with
    | none => exact w.elim
    | some d =>
      have e1 := s.env (al := []) (fun _ z => nomatch z)
      obtain ⟨v, h1, h2, _⟩ := e1.slot i d q
      have w' : WS C B kr (m.set i n) A H L Ds (M.bind (fe ρ) (fun b => M.bind (M.lift (od d b)) fun d => M.pure (.nx (setS ρ i d))) r) := w
      refine ⟨v, h1, stE' s (zeros_of hal) w' fun b r1 bv H1 q1 f1 g1 o1 s1 w1 => ?_⟩
      obtain ⟨dd, hd, w2⟩ := WS.lift w1
      obtain ⟨L1, k1, k2, k3⟩ := Out.view o1
      refine hs (L := full C H1) (M := L1) hd Reg.full k2 ⟨_, g1⟩ (h2.mono (fun p hp => ⟨hp.1, some_on f1 hp.1 hp.2⟩) fun p u hp e => f1 p u (hp.elim (·.1) nofun) e) k1 fun v' H' xx o' => ?_
      obtain ⟨A', L', s', st', l'⟩ := s1.put hrs xx.fr (xx.rng g1) (Out.pre Fr.refl (fun _ z => z.elim) o')
      exact w2 _ _ _ _ s' ((Step.of f1).trans st' fun p hp => (s'.own p hp).1) l'
theorem ds_ext (hN : X.N.Nodup) (hi : X.N[i]? = some x) (hx : Loc X.env.scope x) (hm : m[i]? = some 1) (hal : zeros m al = true) (he : PE X e (tEV C 0 al fe))
    (hf : X.fn x = true ∨ X.env.scope.names.lookup x = some .local := by first | exact .inl rfl | exact .inr rfl | assumption) : PS X (.AugAssign (.Name x pos') .Add e pos) (tDS C B kr m m (dsExt i fe)) := by
  refine impPS (ps_aug hN hi hx he iop_ext hf) fun Ds σ H ⟨ρ, r, A, L, s, w⟩ => ?_
  obtain ⟨ds, hds, w0⟩ := WS.lift w
  have hρ := lstAt_eq hds
  obtain ⟨q1, ws, a2, h1, F⟩ := FocS.top s hρ hm
  refine ⟨_, h1, stE' s (zeros_of hal) w0 fun b r1 bv H1 q f1 g1 o1 s1 w1 => ?_⟩
  obtain ⟨es, hes, w2⟩ := WS.lift w1
  have hb := lstAt_eq hes
  cases hb
  obtain ⟨hcell, hsz, how, hnr, hnd, hna, hput⟩ := F.mut s
  cases how.zero rfl
  obtain ⟨L1, k1, k2, k3⟩ := Out.view o1
  obtain ⟨pb, vs, rfl, b1, b2, b3, b4⟩ := own_list k1
  split at w2
  · rename_i hl
    have regL := s.regL
    refine ⟨q1, pb, ws, vs, rfl, rfl, f1 _ _ hnr hcell, b2, by rw [how.len, b4.len]; exact hl, ?_⟩
    obtain ⟨A', L', s3, st3, l3⟩ := put_gen (bs := []) (bs' := []) (M' := L1) hput f1 g1 nofun nofun regL nofun (fun p hp => ⟨(k2 p hp).1, (k2 p hp).2, k3 p hp, nofun⟩) (((how.mono (H' := H1) (L' := fun p => L p ∨ L1 p) (fun _ => .inl) fun q u hq e => f1 q u (hq.elim (fun z => (regL q z).1) nofun) e)).append (b4.mono (fun _ => .inr) fun _ _ _ e => e)) .nil nofun (by rw [List.length_append]; exact hl)
    have e0 : σ.set i (some (.ref q1)) = σ := set_same h1
    rw [e0]
    exact w2 _ _ _ _ s3 st3 l3
  · exact w2.elim
theorem ds_par2 {px py pt pt2 : Pos} {kt k2} (hc : X.calm = true) (hN : X.N.Nodup) (hi : X.N[i]? = some x) (hj : X.N[j]? = some y) (hij : i ≠ j) (hx : X.env.scope.names.lookup x = some .local) (hy : X.env.scope.names.lookup y = some .local) (hrs : ∀ z' ∈ [i, j], C.pn z' = none) (hal : zeros m al = true)
    (ha : PA X [e, e2] (tES C n al fs)) (hw : swappedStores [.Tuple [.Name x px, .Name y py] kt pt] (.Tuple [e, e2] k2 pt2) X.env = pure (some [x, y]) := by rfl)
    (hs : swapsWithSole [.Tuple [.Name x px, .Name y py] kt pt] (.Tuple [e, e2] k2 pt2) pos.line X.env = pure false := by rfl) : PS X (.Assign [.Tuple [.Name x px, .Name y py] kt pt] (.Tuple [e, e2] k2 pt2) pos) (tDS C B kr m (setM m n [i, j]) (dsPar [i, j] fs)) := by
  refine impPS (ps_par hc hN hi hj hij hx hy ha hw hs) fun Ds σ H ⟨ρ, r, A, L, s, w⟩ => ?_
  refine stE' s (zeros_of hal) w fun ds r1 vs H1 q f1 g1 o1 s1 w1 => ?_
  by_cases hl : ds.length = [i, j].length
  · rw [if_pos hl] at w1
    obtain ⟨A', L', s', st', l'⟩ := s.putsO hrs f1 g1 o1 hl
    obtain ⟨M', as, oo, _⟩ := o1
    have hv := oo.len
    match vs, hv.trans hl with
    | [v1, v2], _ => exact ⟨v1, v2, rfl, w1 _ _ _ _ s' st' l'⟩
  · rw [if_neg hl] at w1; exact w1.elim
theorem ds_par3 {e3 : Expr} {px py pz pt pt2 : Pos} {kt k2} (hc : X.calm = true) (hN : X.N.Nodup) (hi : X.N[i]? = some x) (hj : X.N[j]? = some y) (hl : X.N[l]? = some z) (hij : i ≠ j) (hil : i ≠ l) (hjl : j ≠ l) (hx : X.env.scope.names.lookup x = some .local) (hy : X.env.scope.names.lookup y = some .local) (hz : X.env.scope.names.lookup z = some .local) (hrs : ∀ z' ∈ [i, j, l], C.pn z' = none) (hal : zeros m al = true)
    (ha : PA X [e, e2, e3] (tES C n al fs)) (hw : swappedStores [.Tuple [.Name x px, .Name y py, .Name z pz] kt pt] (.Tuple [e, e2, e3] k2 pt2) X.env = pure (some [x, y, z]) := by rfl)
    (hs : swapsWithSole [.Tuple [.Name x px, .Name y py, .Name z pz] kt pt] (.Tuple [e, e2, e3] k2 pt2) pos.line X.env = pure false := by rfl) : PS X (.Assign [.Tuple [.Name x px, .Name y py, .Name z pz] kt pt] (.Tuple [e, e2, e3] k2 pt2) pos) (tDS C B kr m (setM m n [i, j, l]) (dsPar [i, j, l] fs)) := by
  refine impPS (ps_par3 hc hN hi hj hl hij hil hjl hx hy hz ha hw hs) fun Ds σ H ⟨ρ, r, A, L, s, w⟩ => ?_
  refine stE' s (zeros_of hal) w fun ds r1 vs H1 q f1 g1 o1 s1 w1 => ?_
  by_cases hl : ds.length = [i, j, l].length
  · rw [if_pos hl] at w1
    obtain ⟨A', L', s', st', l'⟩ := s.putsO hrs f1 g1 o1 hl
    obtain ⟨M', as, oo, _⟩ := o1
    have hv := oo.len
    match vs, hv.trans hl with
    | [v1, v2, v3], _ => exact ⟨v1, v2, v3, rfl, w1 _ _ _ _ s' st' l'⟩
  · rw [if_neg hl] at w1; exact w1.elim
/-- names = a tuple or a list that is read -/
theorem ds_unp {tg : Expr} {g : TG} {fl : D → Option (List D)} (hg : PG X tg g) (tgo : TgS X.K g fl os) (hfl : ∀ d ds, fl d = some ds → ds.length = os.length) (hrs : ∀ z' ∈ os, C.pn z' = none) (hal : zeros m al = true) (he : PE X e (tEV C 0 al fe))
    (hs : swapsWithSole [tg] e pos.line X.env = pure false := by rfl) (hw : swappedStores [tg] e X.env = pure none := by rfl) (h1 : (assignEach [tg] X.env).map (·.2) = [assign tg X.env] := by rfl) :
    PS X (.Assign [tg] e pos) (tDS C B kr m (setM m 0 os) (dsUnp fl os fe)) := by
  refine impPS (ps_asg he hg hs hw h1) fun Ds σ H ⟨ρ, r, A, L, s, w⟩ => ?_
  refine stE' s (zeros_of hal) w fun d r1 v H1 q f1 g1 o1 s1 w1 => ?_
  obtain ⟨ds, hds, w2⟩ := WS.lift w1
  obtain ⟨L1, k1, k2, k3⟩ := Out.view o1
  refine tgo.run k1 hds fun vs ovs hl => ?_
  obtain ⟨A', L', s', st', l'⟩ := s.putsO hrs f1 g1 (n := 0) ⟨L1, [], ovs, .nil, nofun, fun p hp => ⟨(k2 p hp).1, (k2 p hp).2, k3 p hp, nofun⟩⟩ hl
  exact w2 _ _ _ _ s' st' l'
end
end DL

/-! DLq: a thing is taken out of a list, to be changed by itself. -/
namespace DL
open PySem L2

def takeAt (ds : List D) : D → Option (D × List D)
  | .int j => match ixN ds.length j with
    | some jj => match ds[jj]? with
      | some (.list es) => some (.list es, ds.set jj HOLE)
      | _ => none
    | none => none
  | _ => none
/-- y = x[k]; from now on x is not asked for it -/
def dsTake (j i : Nat) (fk : Den) : DenS := fun ρ => M.bind (M.lift (lstAt ρ[i]?)) fun ds => M.bind (fk ρ) fun key => M.bind (M.lift (takeAt ds key)) fun ye => M.pure (.nx (setS (setS ρ i (.list ye.2)) j ye.1))
section
variable {X : Cx} {C : Ct} {B : Bs} {kr n n1 k : Nat} {m m' : List Nat} {al alk os : List Nat} {pos pos' p p' : Pos} {fe fk : Den} {e e2 o : Expr} {i j l : Nat} {x y : Str}
theorem SimS.take {r r1 : Rg} {ρ : Slots} {σ : St} {H H1 : Hp} {A : List Addr} {L : Addr → Prop} (s : SimS C B m ρ r σ H A L) (f : Fr C H H1) (g : RngAt C r1 H1) {ds es : List D} {jj : Nat} (hρ : ρ[i]? = some (some (.list ds))) (hm : m[i]? = some (k + 1)) (hd : ds[jj]? = some (.list es)) (hj : C.pn j = none) :
    ∃ q ws v A' L', σ[i]? = some (some (.ref q)) ∧ H1 q = some (.lst ws) ∧ ws.length = ds.length ∧ ws[jj]? = some v ∧ SimS C B (m.set j k) (setS (setS ρ i (.list (ds.set jj HOLE))) j (.list es)) r1 (σ.set j (some v)) H1 A' L' ∧ Step C A H A' H1 ∧ ∀ p, L p → L' p := by
  have s1 := s.on f g
  obtain ⟨v0, k', as, rest, h1, h2, own, pe, put⟩ := s1.sl.at hρ
  rw [hm] at h2; cases h2
  cases own with
  | @lst _ q ws _ a2 c1 c2 c3 =>
    obtain ⟨v, b2, b3, k1, k2, k3, back⟩ := c3.setAt hd
    have ndA : ((q :: a2) ++ rest).Nodup := pe.nodup_iff.mp s.nd
    have nd1 := List.nodup_append.mp ndA
    have ndp := List.nodup_cons.mp nd1.1
    have nd2 := List.nodup_append.mp (k2.nodup_iff.mp ndp.2)
    have inA : ∀ z ∈ q :: a2, z ∈ A := fun z hz => pe.mem_iff.mpr (List.mem_append_left _ hz)
    have rA : ∀ z ∈ rest, z ∈ A := fun z hz => pe.mem_iff.mpr (List.mem_append_right _ hz)
    have i2 : ∀ z ∈ b2, z ∈ a2 := fun z hz => k2.mem_iff.mpr (List.mem_append_left _ hz)
    have i3 : ∀ z ∈ b3, z ∈ a2 := fun z hz => k2.mem_iff.mpr (List.mem_append_right _ hz)
    have hole : Own H1 L k v HOLE [] := by
      cases k3 with
      | lst0 _ _ _ _ => exact .hole
      | lst _ _ _ => exact .hole
    obtain ⟨as2, pe2, o2⟩ := back (H' := H1) (L' := L) (fun _ h => h) (fun _ _ _ e => e) hole
    rw [set_same k1] at o2
    have p2 : as2.Perm b3 := pe2
    obtain ⟨A1, hs, hA⟩ := put (H' := H1) (L' := L) (fun _ h => h) (fun _ _ _ e => e) (.lst (n := k) c1 (by rw [List.length_set]; exact c2) o2)
    rw [set_same hm, set_same h1] at hs
    have mA1 : ∀ z ∈ A1, z = q ∨ z ∈ b3 ∨ z ∈ rest := fun z hz => by
      rcases List.mem_append.mp (hA.mem_iff.mp hz) with y | y
      · rcases List.mem_cons.mp y with y | y
        · exact .inl y
        · exact .inr (.inl (p2.mem_iff.mp y))
      · exact .inr (.inr y)
    have A1A : ∀ z ∈ A1, z ∈ A := fun z hz => by
      rcases mA1 z hz with y | y | y
      · rw [y]; exact inA q List.mem_cons_self
      · exact inA z (List.mem_cons_of_mem _ (i3 z y))
      · exact rA z y
    have nb2 : ∀ z ∈ b2, z ∉ A1 := fun z hz h => by
      rcases mA1 z h with y | y | y
      · exact ndp.1 (by rw [← y]; exact i2 z hz)
      · exact nd2.2.2 z hz z y rfl
      · exact nd1.2.2 z (List.mem_cons_of_mem _ (i2 z hz)) z y rfl
    have sA : SimS C B m (setS ρ i (.list (ds.set jj HOLE))) r1 σ H1 A1 L := ⟨hs, by
        refine hA.nodup_iff.mpr (List.nodup_append.mpr ⟨List.nodup_cons.mpr ⟨fun z => ndp.1 (i3 q (p2.mem_iff.mp z)), p2.nodup_iff.mpr nd2.2.1⟩, nd1.2.1, fun x hx y hy e => ?_⟩)
        subst e
        rcases List.mem_cons.mp hx with hx | hx
        · exact nd1.2.2 q List.mem_cons_self x hy hx.symm
        · exact nd1.2.2 x (List.mem_cons_of_mem _ (i3 x (p2.mem_iff.mp hx))) x hy rfl, s1.rg, fun j a h => ⟨(s1.rs j a h).1, set_none hρ _ j (s1.rs j a h).2⟩, fun p hp => s1.own p (A1A p hp), fun p hp => ⟨(s1.reg p hp).1, (s1.reg p hp).2.1, (s1.reg p hp).2.2.1, fun z => (s1.reg p hp).2.2.2 (A1A p z)⟩, s1.base⟩
    obtain ⟨A2, L2, s2, a2', l2, _⟩ := sA.putV (M := L) (i := j) (n := k) hj k3 nd2.1 (fun p hp => ⟨(s1.own p (inA p (List.mem_cons_of_mem _ (i2 p hp)))).1, (s1.own p (inA p (List.mem_cons_of_mem _ (i2 p hp)))).2, nb2 p hp, fun z => (s1.reg p z).2.2.2 (inA p (List.mem_cons_of_mem _ (i2 p hp)))⟩)
      fun p hp => ⟨(s1.reg p hp).1, (s1.reg p hp).2.1, (s1.reg p hp).2.2.1, fun z => (s1.reg p hp).2.2.2 (inA p (List.mem_cons_of_mem _ (i2 p z))), fun z => (s1.reg p hp).2.2.2 (A1A p z)⟩
    refine ⟨q, ws, v, A2, L2, h1, c1, c3.len, k1, s2, ⟨fun p o n _ e => f p o n e, fun p hp => ?_⟩, l2⟩
    rcases a2' p hp with z | z
    · exact .inl (A1A p z)
    · exact .inl (inA p (List.mem_cons_of_mem _ (i2 p z)))
theorem ds_take (hN : X.N.Nodup) (hi : X.N[i]? = some x) (hv : Vis X.env.scope x) (hj : X.N[j]? = some y) (hy : Loc X.env.scope y) (hm : m[i]? = some (k + 1)) (hrs : C.pn j = none) (hal : zeros m alk = true) (hk : PE X e (tEV C n1 alk fk)) (hix : PlainIx e)
    (hd : (x == ("__debug__" : Str)) = false := by decide) (hcd : (x == ("__classdict__" : Str)) = false := by decide) (hs : swapsWith (.Subscript (.Name x p) e p') (some (.Name y pos')) pos.line X.env = pure false := by rfl)
    (hf : X.fn y = true ∨ X.env.scope.names.lookup y = some .local := by first | exact .inl rfl | exact .inr rfl | assumption) : PS X (.Assign [.Name y pos'] (.Subscript (.Name x p) e p') pos) (tDS C B kr m (m.set j k) (dsTake j i fk)) := by
  refine impPS (ps_set hN hj hy (pe_ix ix_list (pe_var hi hv hd hcd) hk hix) hs hf) fun Ds σ H ⟨ρ, r, A, L, s, w⟩ => ?_
  obtain ⟨ds, hds, w0⟩ := WS.lift w
  have hρ := lstAt_eq hds
  obtain ⟨v0, _, _, _, h1, _⟩ := s.sl.at hρ
  refine ⟨v0, h1, stE' s (zeros_of hal) w0 fun key r1 kv H1 q f1 g1 o1 s1 w1 => ?_⟩
  obtain ⟨ye, hye, w2⟩ := WS.lift w1
  unfold takeAt at hye
  split at hye
  · rename_i j0
    split at hye
    · rename_i jj hjj
      split at hye
      · rename_i es hes
        cases hye
        obtain ⟨q1, ws, v, A', L', x1, x2, x3, x4, s3, st3, l3⟩ := s.take f1 g1 hρ hm hes hrs
        rw [h1] at x1; cases x1
        obtain ⟨L1, k1, _⟩ := Out.view o1
        exact ⟨q1, ws, j0, v, rfl, own_int k1, SqL.of x2, by unfold atI; rw [x3, hjj]; exact x4, w2 _ _ _ _ s3 st3 l3⟩
      · cases hye
    · cases hye
  · cases hye
end
end DL

/-! DLr: defs: what each promises about data; calls. -/
namespace DL
open PySem L2 PySem.Spec PyProof.Rows

/-- a def's promise where nothing is being shown yet (repr asks for this) -/
structure FnG (P : Program) (w : World) (K : PySem.W.Frag) (mg : Str → Option Value) (base : Heap) (CX : CXT) (k : Nat) (f : Addr) (fd : FuncData) (ps : List Str) (sp : Sp) : Prop where
  many : ∀ zs J R T, sp zs J R T → zs.length = ps.length
  goes : ∀ (B : Around) (out : List Env) (z : Shared) (J : Hp) (given : Args) (ls : List Value) (zs : List V) (R : VK) (T : XK), B.guards = some [] → Room k B → Env0 P w K mg base B out z J → BindsTo z fd given (ps.zip ls) → Vals zs ls → sp zs J R T →
    codeAny (model P w) B (.call (.ref f) given) (CR CX out P w J z R T) z
theorem FnG.mono {P : Program} {w : World} {K : PySem.W.Frag} {mg : Str → Option Value} {base : Heap} {CX : CXT} {j k : Nat} {f : Addr} {fd : FuncData} {ps : List Str} {sp : Sp} (F : FnG P w K mg base CX j f fd ps sp) (h : j ≤ k) : FnG P w K mg base CX k f fd ps sp :=
  ⟨F.many, fun B out z J given ls zs R T hg hr => F.goes B out z J given ls zs R T hg (hr.mono h)⟩
theorem FnG.imp {P : Program} {w : World} {K : PySem.W.Frag} {mg : Str → Option Value} {base : Heap} {CX : CXT} {k : Nat} {f : Addr} {fd : FuncData} {ps : List Str} {sp sp' : Sp} (F : FnG P w K mg base CX k f fd ps sp) (h : ∀ vs H Q E, sp' vs H Q E → sp vs H Q E) : FnG P w K mg base CX k f fd ps sp' :=
  ⟨fun zs J R T q => F.many zs J R T (h _ _ _ _ q), fun B out z J given ls zs R T hg hr he hb hv q => F.goes B out z J given ls zs R T hg hr he hb hv (h _ _ _ _ q)⟩

section
variable {X : Cx} {CX : CXT} {k : Nat} {f : Addr} {fd : FuncData} {ps : List Str} {sp : Sp} {E : XK} {x : Str} {p pos : Pos} {e : Expr} {es : List Expr} {t : TA}
theorem goes_on {given : Args} {ls : List Value} {zs : List V} {pins : List (Addr × Obj)} {σ : L2.St} {J : Hp} {z : Shared} {R : VK} (F : FnG X.prog X.w X.K X.mg X.base CX k f fd ps sp) (hG : X.A.guards = some []) (hr : Room k X.A) (hx : Passes CX X E) (I : Inv X pins σ J z) (hb : BindsTo z fd given (ps.zip ls)) (hv : Vals zs ls) (hs : sp zs J R E) :
    codeAny (model X.prog X.w) X.A (.call (.ref f) given) (fun a z' => match a with
      | .ok (.ret u) => EP X pins σ R u z'
      | .ok _ => False
      | .error err => X.xe err z') z := by
  refine codeAny_mono (F.goes X.A X.stack z J given ls zs R E hG hr I.env0 hb hv hs) fun a z' q => ?_
  match a, q with
  | .error err, q => exact hx pins σ J z err z' I q
  | .ok (.ret u), q => exact I.after q
  | .ok .next, q => exact q.elim
  | .ok .brk, q => exact q.elim
  | .ok .cont, q => exact q.elim
theorem run_fnG {pins : List (Addr × Obj)} {σ : L2.St} {J : Hp} {z : Shared} {R : VK} {ls : List Value} {zs : List V} (F : FnG X.prog X.w X.K X.mg X.base CX k f fd ps sp) (hG : X.A.guards = some []) (hr : Room k X.A) (hb : Binds X.K fd ps []) (hx : Passes CX X E) (I : Inv X pins σ J z) (hv : Vals zs ls) (hs : sp zs J R E) :
    wpAny (model X.prog X.w) X.A (call (.ref f) ls) (EP X pins σ R) X.xe z := by
  have hn : ls.length = ps.length := hv.length.symm.trans (F.many _ _ _ _ hs)
  have hb' := hb z ls I.kIn (by rw [List.append_nil]; exact hn)
  rw [List.append_nil] at hb'
  refine wpAny_call (codeAny_mono (goes_on F hG hr hx I hb' hv hs) fun a z' q => ?_)
  match a, q with
  | .error err, q => exact q
  | .ok (.ret u), q => exact q
  | .ok .next, q => exact q.elim
  | .ok .brk, q => exact q.elim
  | .ok .cont, q => exact q.elim
def tCallG (sp : Sp) (E : XK) (t : TA) : TE := fun σ J R => t σ J fun zs J1 => sp zs J1 R E
theorem pe_callG (F : FnG X.prog X.w X.K X.mg X.base CX k f fd ps sp) (hG : X.A.guards = some []) (hr : Room k X.A) (hg : Gl X x) (hm : X.mg x = some (.ref f)) (hk : PySem.W.keepIn X.K (.ref f) = true) (hb : Binds X.K fd ps []) (hx : Passes CX X E) (ha : PA X (e :: es) t)
    (hdb : (x == ("__debug__" : Str)) = false := by decide) (he : starEach (e :: es) X.env = (false, eval e X.env) :: starEach es X.env := by rfl) (hpl : (backTo pos (starEach es X.env)).any (·.1) = false := by rfl) : PE X (.Call (.Name x p) (e :: es) [] pos) (tCallG sp E t) := by
  refine ⟨fun pins z σ J R I h => wpAny_Call_Name_kw (ld_glob I hg hm ?_ hdb)⟩
  refine PySem.W.callWith_K (h₀ := X.base) I.ok.mod.kin hk (thn (ha.run pos pins z σ J _ I h) fun ls z1 ⟨zs, J1, I1, hv, q⟩ => ?_) he hpl
  exact ⟨I1.kIn, run_fnG F hG hr hb hx I1 hv q⟩
theorem pe_callG0 (F : FnG X.prog X.w X.K X.mg X.base CX k f fd ps sp) (hG : X.A.guards = some []) (hr : Room k X.A) (hg : Gl X x) (hm : X.mg x = some (.ref f)) (hk : PySem.W.keepIn X.K (.ref f) = true) (hb : Binds X.K fd ps []) (hx : Passes CX X E) (hdb : (x == ("__debug__" : Str)) = false := by decide) :
    PE X (.Call (.Name x p) [] [] pos) (tCallG sp E tNil) := by
  refine ⟨fun pins z σ J R I h => wpAny_Call_Name_kw (ld_glob I hg hm ?_ hdb)⟩
  exact PySem.W.callWith_K0 I.kIn hk (run_fnG (ls := []) F hG hr hb hx I .nil h)
end
end DL

/-! DLs: a def by its body; its promise as a function of data. -/
namespace DL
open PySem L2 PySem.Spec PyProof.Rows

theorem fnG_of {CX : CXT} {P : Program} {w : World} {K : PySem.W.Frag} {mg : Str → Option Value} {base : Heap} {k : Nat} {f : Addr} {name qual : Str} {params : Arguments} {body : List Stmt} {scope : Scope} {dV kV doc pm cdv ct oc : Value} {an od : Option Addr} {osl : Array (Option Value)} {N ps : List Str} {sp : Sp}
    (lk : K.lookup f = some ⟨oc, od, .func (PySem.W.fnOf name qual params body scope dV kV doc pm an cdv ct), osl⟩) (hcd : PySem.W.codeIn K cdv qual = true) (S : FnScope N ps scope) (len : ∀ zs J R T, sp zs J R T → zs.length = ps.length)
    (bd : ∀ (B : Around) (out : List Env) (z : Shared) (J : Hp) (zs : List V) (R : VK) (T : XK), B.guards = some [] → Room k (B.deeper (envOfC qual scope z.heap.objs.size f cdv)) → sp zs J R T →
      ∃ t, PSs (cxOf CX P w K mg base N qual scope f cdv B out z J T) body t ∧ t { nx := fun _ J' => R .non J', rt := R } (L2.start N zs) J) : FnG P w K mg base CX (k + 1) f (PySem.W.fnOf name qual params body scope dV kV doc pm an cdv ct) ps sp := by
  refine ⟨len, fun B out z J given ls zs R T hg hr e0 hb hv hs => ?_⟩
  have KZ : K.In z.heap := e0.mod.kin.keeps fun b o q => (e0.bs b o q).1
  have noLim : z.heap.NoLimit := e0.mod.nolimit.keeps fun b o q => (e0.bs b o q).1
  have kinds : ∀ y ∈ ps.zip ls, scope.names.lookup y.1 = some .local ∨ (scope.names.lookup y.1 = some .cell ∧ ((cellsFrom (z.heap.objs.size + 1) scope.names []).lookup y.1).isSome = true) := by
    rintro ⟨n, v⟩ hy
    rcases S.par n (List.of_mem_zip hy).1 with q | q
    · exact Or.inl q
    · exact Or.inr ⟨q, PySem.W.cellsFrom_some _ _ _ (Or.inl q)⟩
  refine codeAny_call_function hr.depth (KZ _ _ lk) rfl S.co S.gen rfl (PySem.W.codeRec_of KZ hcd) (hb _ _ _ _ (wpAny_newFunctionEnv_cells S.kind kinds fun env he z1 ic => ?_))
  cases he
  refine ⟨noLim.keeps ic.toInCall.keep, codeAny_func ?_⟩
  obtain ⟨t, ht, q0⟩ := bd B out z J zs R T hg (hr.deeper _) hs
  have I0 : Inv (cxOf CX P w K mg base N qual scope f cdv B out z J T) [] (L2.start N zs) J z1 := inv_start S hr.hd e0 (len _ _ _ _ hs) hv ic
  refine wpAny_mono (ht.run [] z1 (L2.start N zs) J _ I0 q0) (fun fl z' q => ?_) fun err z' q => q
  match fl, q with
  | .ret u, ⟨v, σ', J', I', rv, q⟩ => exact ⟨v, J', I'.os, I'.bare, I'.base, I'.hok, rv, q⟩
  | .next, ⟨σ', J', I', q⟩ => exact ⟨.non, J', I'.os, I'.bare, I'.base, I'.hok, rfl, q⟩
  | .brk, ⟨_, _, _, q⟩ => exact q.elim
  | .cont, ⟨_, _, _, q⟩ => exact q.elim

/-- what a def does with data: whether the drawn numbers come first; how many others; what comes out -/
structure Sig where
  rng : Bool
  np : Nat
  kr : Nat
  den : List D → M D
def spD (K : PySem.W.Frag) (cls : Str → Option Value) (fld : Str → Str) (g : Sig) : Sp := fun vs H Q E => ∃ (ra : Option Addr) (hid : Addr → Option HO) (ws : List V) (ds : List D) (L : Addr → Prop) (r : Rg), (g.rng = false ∧ vs = ws ∨ g.rng = true ∧ ∃ a, ra = some a ∧ vs = .ref a :: ws) ∧ ds.length = g.np ∧
  Owns H L 0 ws ds [] ∧ RngAt ⟨K, ra, fun _ => none, hid, E, cls, fld⟩ r H ∧ Reg ⟨K, ra, fun _ => none, hid, E, cls, fld⟩ L H ∧ W ⟨K, ra, fun _ => none, hid, E, cls, fld⟩ H L (O1 ⟨K, ra, fun _ => none, hid, E, cls, fld⟩ g.kr) (g.den ds r) Q
theorem spD.len {K : PySem.W.Frag} {cls : Str → Option Value} {fld : Str → Str} {g : Sig} {vs : List V} {H : Hp} {Q : VK} {E : XK} (h : spD K cls fld g vs H Q E) : vs.length = g.np + (if g.rng = true then 1 else 0) := by
  obtain ⟨ra, hid, ws, ds, L, r, h1, h2, h3, _⟩ := h
  have := h3.len
  rcases h1 with ⟨e, rfl⟩ | ⟨e, a, _, rfl⟩
  · rw [e]; simp; omega
  · rw [e]; simp; omega
/-- a part of a promise: where den is told -/
theorem FnG.part {P : Program} {w : World} {K : PySem.W.Frag} {mg : Str → Option Value} {base : Heap} {CX : CXT} {k : Nat} {f : Addr} {fd : FuncData} {ps : List Str} {cls : Str → Option Value} {fld : Str → Str} {g : Sig} {den : List D → M D} (F : FnG P w K mg base CX k f fd ps (spD K cls fld g))
    (h : ∀ ds r, ds.length = g.np → den ds r = .bad ∨ g.den ds r = den ds r) : FnG P w K mg base CX k f fd ps (spD K cls fld ⟨g.rng, g.np, g.kr, den⟩) := by
  refine F.imp fun vs H Q E ⟨ra, hid, ws, ds, L, r, h1, h2, h3, h4, h5, h6⟩ => ⟨ra, hid, ws, ds, L, r, h1, h2, h3, h4, h5, ?_⟩
  rcases h ds r h2 with q | q
  · have h6' := h6
    simp only [q] at h6'
    exact h6'.elim
  · rw [q]; exact h6
def slots0 (rng : Bool) (n : Nat) (ds : List D) : Slots := (if rng = true then [none] else []) ++ ds.map some ++ List.replicate (n - (ds.length + (if rng = true then 1 else 0))) none
def dDef (rng : Bool) (n : Nat) (f : DenS) : List D → M D := fun ds => M.bind (f (slots0 rng n ds)) fun fl => match fl with
  | .nx _ => M.pure .none
  | .rt d => M.pure d
theorem sls_none {H : Hp} {L : Addr → Prop} : ∀ mr : List Nat, Sls H L mr (List.replicate mr.length none) (List.replicate mr.length none) []
  | [] => .nil
  | _ :: mr => .no (sls_none mr)
theorem sls_args {H : Hp} {L : Addr → Prop} (mr : List Nat) : ∀ {vs : List V} {ds : List D}, Owns H L 0 vs ds [] → Sls H L (List.replicate ds.length 0 ++ mr) (ds.map some ++ List.replicate mr.length none) (vs.map some ++ List.replicate mr.length none) [] := by
  intro vs ds h
  generalize e : ([] : List Addr) = z at h
  generalize e0 : (0 : Nat) = z0 at h
  induction ds generalizing vs z with
  | nil =>
    cases h
    subst e0
    exact sls_none mr
  | cons d ds ih =>
    cases h with
    | cons a b =>
      obtain ⟨rfl, rfl⟩ := app_nil2 e.symm
      subst e0
      rw [List.length_cons, List.replicate_succ]
      exact .has (as := []) (A := []) a (ih [] rfl b)
/-- the drawn numbers' list stands in the first slot -/
def pn0 (rng : Bool) (ra : Option Addr) : Nat → Option Addr := fun j => if rng = true ∧ j = 0 then ra else none
/-- a def's body, as data -/
theorem fnD_of {CX : CXT} {P : Program} {w : World} {K : PySem.W.Frag} {mg : Str → Option Value} {base : Heap} {k : Nat} {f : Addr} {name qual : Str} {params : Arguments} {body : List Stmt} {scope : Scope} {dV kV doc pm cdv ct oc : Value} {an od : Option Addr} {osl : Array (Option Value)} {N ps : List Str} {cls : Str → Option Value} {fld : Str → Str}
    (rng : Bool) (np kr : Nat) (fs : DenS) (mr m' : List Nat) (hmr : ps.length + mr.length = N.length) (lk : K.lookup f = some ⟨oc, od, .func (PySem.W.fnOf name qual params body scope dV kV doc pm an cdv ct), osl⟩) (hcd : PySem.W.codeIn K cdv qual = true) (S : FnScope N ps scope) (hps : ps.length = np + (if rng = true then 1 else 0))
    (bd : ∀ (A : Around) (out : List Env) (s : Shared) (J : Hp) (T : XK) (ra : Option Addr) (hid : Addr → Option HO) (B : Bs), (A.deeper (envOfC qual scope s.heap.objs.size f cdv)).guards = some [] → Room k (A.deeper (envOfC qual scope s.heap.objs.size f cdv)) → (rng = true → ra.isSome = true) →
      PSs (cxOf CX P w K mg base N qual scope f cdv A out s J T) body (tDS ⟨K, ra, pn0 rng ra, hid, T, cls, fld⟩ B kr (List.replicate ps.length 0 ++ mr) m' fs)) :
    FnG P w K mg base CX (k + 1) f (PySem.W.fnOf name qual params body scope dV kV doc pm an cdv ct) ps (spD K cls fld ⟨rng, np, kr, dDef rng N.length fs⟩) := by
  have pN : ps.length ≤ N.length := by have := congrArg List.length S.pre; rw [List.length_take] at this; omega
  refine fnG_of lk hcd S (fun zs J R T h => by rw [h.len]; exact hps.symm) fun A out s J zs R T hg hr h => ?_
  obtain ⟨ra, hid, ws, ds, L, r, h1, h2, h3, h4, h5, h6⟩ := h
  have h2 : ds.length = np := h2
  have hl := h3.len
  refine ⟨_, bd A out s J T ra hid ⟨J, L⟩ hg hr (fun e => ?_), slots0 rng N.length ds, r, [], L, ⟨?_, .nil, h4, ?_, nofun, fun p hp => ⟨(h5 p hp).1, (h5 p hp).2, .inl hp, nofun⟩, Fr.refl⟩, ?_⟩
  · rcases h1 with ⟨e', _⟩ | ⟨_, a, ha, _⟩
    · rw [show rng = false from e'] at e; cases e
    · rw [ha]; rfl
  · rcases h1 with ⟨e', e2⟩ | ⟨e', a, ha, e2⟩
    · have e' : rng = false := e'
      subst e' e2
      show Sls J L _ (slots0 false N.length ds) (L2.start N zs) []
      unfold L2.start slots0
      have q := sls_args mr h3
      have e1 : ps.length = ds.length := by simp at hps; omega
      have e3 : N.length - ds.length = mr.length := by omega
      rw [e1]
      simpa [hl, e3] using q
    · have e' : rng = true := e'
      subst e' e2
      show Sls J L _ (slots0 true N.length ds) (L2.start N (.ref a :: ws)) []
      unfold L2.start slots0
      have q := sls_args mr h3
      have q2 := Sls.no (m := 0) (v := some (.ref a)) q
      have e1 : ps.length = ds.length + 1 := by simp at hps; omega
      have e3 : N.length - (ds.length + 1) = mr.length := by omega
      rw [e1, List.replicate_succ]
      simpa [hl, e3] using q2
  · intro j a hj
    have hj2 : (if rng = true ∧ j = 0 then ra else none) = some a := hj
    by_cases z : rng = true ∧ j = 0
    · rw [if_pos z] at hj2
      obtain ⟨z1, rfl⟩ := z
      rcases h1 with ⟨e', e2⟩ | ⟨e', a', ha', e2⟩
      · have e' : rng = false := e'
        rw [e'] at z1; cases z1
      · rw [ha'] at hj2
        have ea : a' = a := Option.some.inj hj2
        subst e2
        subst ea
        refine ⟨rfl, ?_⟩
        unfold slots0
        rw [if_pos z1]
        rfl
    · rw [if_neg z] at hj2; cases hj2
  · have h6 : W ⟨K, ra, fun _ => none, hid, T, cls, fld⟩ J L (O1 ⟨K, ra, fun _ => none, hid, T, cls, fld⟩ kr) (dDef rng N.length fs ds r) R := h6
    unfold dDef M.bind at h6
    cases q : fs (slots0 rng N.length ds) r with
    | bad => rw [q] at h6; exact h6.elim
    | ex c d r1 => rw [q] at h6; exact h6
    | ok fl r1 =>
      rw [q] at h6
      cases fl with
      | nx ρ' => exact fun σ' H' A' L' s' _ _ => h6 .non H' s'.base s'.rg Out.non
      | rt d => exact fun v H' f' g' o' _ => h6 v H' f' g' o'
end DL

/-! DLt: calls of defs. -/
namespace DL
open PySem L2 PySem.Spec PyProof.Rows

def dCall (g : Sig) (fs : Slots → M (List D)) : Den := fun ρ => M.bind (fs ρ) fun ds => if ds.length = g.np then g.den ds else M.bad
def pick {α : Type} (is : List Nat) (l : List α) : List α := is.filterMap fun i => l[i]?
def dCallK (g : Sig) (is : List Nat) (fs gs : Slots → M (List D)) : Den := fun ρ => M.bind (fs ρ) fun ds => M.bind (gs ρ) fun es => if (pick is (ds ++ es)).length = g.np then g.den (pick is (ds ++ es)) else M.bad
theorem Owns.pick0 {H : Hp} {L : Addr → Prop} {vs : List V} {ds : List D} (h : Owns H L 0 vs ds []) : ∀ is : List Nat, Owns H L 0 (pick is vs) (pick is ds) []
  | [] => .nil
  | i :: is => by
    unfold pick
    rw [List.filterMap_cons, List.filterMap_cons]
    cases q : ds[i]? with
    | none =>
      have : vs[i]? = none := by
        rw [List.getElem?_eq_none_iff] at q ⊢
        rw [h.len]; exact q
      rw [this]
      exact h.pick0 is
    | some d =>
      obtain ⟨v, h1, h2⟩ := h.get0 q
      rw [h1]
      exact .cons0 h2 (h.pick0 is)
theorem vals_pick {vs : List V} {us : List Value} (h : Vals vs us) : ∀ is : List Nat, Vals (pick is vs) (pick is us)
  | [] => .nil
  | i :: is => by
    unfold pick
    rw [List.filterMap_cons, List.filterMap_cons]
    cases q : vs[i]? with
    | none =>
      have : us[i]? = none := by
        rw [List.getElem?_eq_none_iff] at q ⊢
        rw [← h.length]; exact q
      rw [this]
      exact vals_pick h is
    | some d =>
      obtain ⟨v, h1, h2⟩ := h.get q
      rw [h1]
      exact .cons h2 (vals_pick h is)
theorem Outs.cons' {C : Ct} {H H1 H2 : Hp} {L : Addr → Prop} {n : Nat} {vs ws : List V} {ds es : List D} (hL : Reg C L H) (f1 : Fr C H H1) (f2 : Fr C H1 H2) (o : Outs C H L H1 n vs ds) (os : Outs C H1 L H2 n ws es) : Outs C H L H2 n (vs ++ ws) (ds ++ es) := by
  obtain ⟨L1, as, a1, a2, a3, a4⟩ := o
  obtain ⟨L2, bs, b1, b2, b3, b4⟩ := os
  have a1' : Owns H2 L1 n vs ds as := a1.mono (fun _ h => h) fun p u hp e => f2 p u (hp.elim (fun z => (a4 p z).1) fun z => (a3 p z).2) e
  refine ⟨fun p => L1 p ∨ L2 p, as ++ bs, (a1'.mono (fun _ => .inl) fun _ _ _ e => e).append (b1.mono (fun _ => .inr) fun _ _ _ e => e), List.nodup_append.mpr ⟨a2, b2, fun p hp q hq e => ?_⟩, fun p hp => ?_, fun p hp => ?_⟩
  · subst e
    exact a1.stands p hp (b3 p hq).1
  · rcases List.mem_append.mp hp with hp | hp
    · exact a3 p hp
    · exact ⟨none_back f1 (b3 p hp).2 (b3 p hp).1, (b3 p hp).2⟩
  · rcases hp with hp | hp
    · obtain ⟨x, y, z, t⟩ := a4 p hp
      refine ⟨x, some_on f2 x y, z, fun q => ?_⟩
      rcases List.mem_append.mp q with q | q
      · exact t q
      · exact y (b3 p q).1
    · obtain ⟨x, y, z, t⟩ := b4 p hp
      refine ⟨x, y, z.imp id fun k => none_back f1 x k, fun q => ?_⟩
      rcases List.mem_append.mp q with q | q
      · rcases z with z | z
        · exact (hL p z).2 (a3 p q).1
        · exact a1.stands p q z
      · exact t q
section
variable {X : Cx} {C : Ct} {CX : CXT} {k n n1 j : Nat} {f : Addr} {fd : FuncData} {ps ks : List Str} {g : Sig} {x y : Str} {p p' pos kpos : Pos} {e : Expr} {es : List Expr} {kws : List Keyword} {al al' : List Nat} {fs gs : Slots → M (List D)} {fe : Den} {nm : Option Str}
theorem W.call {H H1 : Hp} {L L1 : Addr → Prop} {ds : List D} {r1 : Rg} {Q : VK} {kr : Nat} (f1 : Fr C H H1) (g1 : RngAt C r1 H1) (k3 : ∀ p, L1 p → L p ∨ H p = none) {res : Res D} (w : W C H L (O1 C kr) res Q) : W ⟨X.K, C.ra, fun _ => none, C.hid, C.E, C.cls, C.fld⟩ H1 L1 (O1 ⟨X.K, C.ra, fun _ => none, C.hid, C.E, C.cls, C.fld⟩ kr) res Q := by
  cases res with
  | ok d r => exact fun v H' f' g' o => w v H' (f1.trans f') g' (Out.pre (C := C) f1 k3 o)
  | ex c d r => exact WEx.on (C := C) w f1 ⟨_, g1⟩
  | bad => exact w
theorem ev_call (F : FnG X.prog X.w X.K X.mg X.base CX k f fd ps (spD X.K C.cls C.fld g)) (hrng : g.rng = false) (hG : X.A.guards = some []) (hr : Room k X.A) (hg : Gl X x) (hm : X.mg x = some (.ref f)) (hk : PySem.W.keepIn X.K (.ref f) = true) (hb : Binds X.K fd ps []) (hx : Passes CX X C.E) (ha : PA X (e :: es) (tES C n al fs))
    (hdb : (x == ("__debug__" : Str)) = false := by decide) (he : starEach (e :: es) X.env = (false, eval e X.env) :: starEach es X.env := by rfl) (hpl : (backTo pos (starEach es X.env)).any (·.1) = false := by rfl) : PE X (.Call (.Name x p) (e :: es) [] pos) (tEV C g.kr al (dCall g fs)) := by
  refine impPE (pe_callG F hG hr hg hm hk hb hx ha hdb he hpl) fun σ H Q ⟨ρ, r, L, ee, gr, hL, w⟩ => ?_
  refine tG.of ee (fun i => id) gr hL Fr.refl w fun ds r1 vs H1 q f1 g1 o1 e1 hL1 w1 => ?_
  obtain ⟨L1, k1, k2, k3⟩ := Outs.view o1
  by_cases hn : ds.length = g.np
  · rw [if_pos hn] at w1
    exact ⟨C.ra, C.hid, vs, ds, L1, r1, .inl ⟨hrng, rfl⟩, hn, k1, g1, k2, W.call (ds := ds) f1 g1 k3 w1⟩
  · rw [if_neg hn] at w1; exact w1.elim
/-- the drawn numbers come first -/
theorem ev_callR (F : FnG X.prog X.w X.K X.mg X.base CX k f fd ps (spD X.K C.cls C.fld g)) (hrng : g.rng = true) (hra : C.ra.isSome = true) (hrs : C.pn j = C.ra) (hN : X.N[j]? = some y) (hv : Vis X.env.scope y) (hG : X.A.guards = some []) (hr : Room k X.A) (hg : Gl X x) (hm : X.mg x = some (.ref f)) (hk : PySem.W.keepIn X.K (.ref f) = true) (hb : Binds X.K fd ps []) (hx : Passes CX X C.E)
    (ha : PA X es (tES C n al fs)) (hd : (y == ("__debug__" : Str)) = false := by decide) (hcd : (y == ("__classdict__" : Str)) = false := by decide) (hdb : (x == ("__debug__" : Str)) = false := by decide) (he : starEach (.Name y p' :: es) X.env = (false, eval (.Name y p') X.env) :: starEach es X.env := by rfl) (hpl : (backTo pos (starEach es X.env)).any (·.1) = false := by rfl) :
    PE X (.Call (.Name x p) (.Name y p' :: es) [] pos) (tEV C g.kr al (dCall g fs)) := by
  refine impPE (pe_callG F hG hr hg hm hk hb hx (pa_cons (pe_var hN hv hd hcd) ha he) hdb he hpl) fun σ H Q ⟨ρ, r, L, ee, gr, hL, w⟩ => ?_
  cases hra' : C.ra with
  | none => rw [hra'] at hra; cases hra
  | some a =>
  refine ⟨.ref a, ee.rng j a (hrs.trans hra'), ?_⟩
  refine tG.of ee (fun i => id) gr hL Fr.refl w fun ds r1 vs H1 q f1 g1 o1 e1 hL1 w1 => ?_
  obtain ⟨L1, k1, k2, k3⟩ := Outs.view o1
  by_cases hn : ds.length = g.np
  · rw [if_pos hn] at w1
    exact ⟨C.ra, C.hid, vs, ds, L1, r1, .inr ⟨hrng, a, hra', rfl⟩, hn, k1, g1, k2, W.call (ds := ds) f1 g1 k3 w1⟩
  · rw [if_neg hn] at w1; exact w1.elim
theorem ev_call0 (F : FnG X.prog X.w X.K X.mg X.base CX k f fd ps (spD X.K C.cls C.fld g)) (hrng : g.rng = false) (hG : X.A.guards = some []) (hr : Room k X.A) (hg : Gl X x) (hm : X.mg x = some (.ref f)) (hk : PySem.W.keepIn X.K (.ref f) = true) (hb : Binds X.K fd ps []) (hx : Passes CX X C.E) (hdb : (x == ("__debug__" : Str)) = false := by decide) :
    PE X (.Call (.Name x p) [] [] pos) (tEV C g.kr [] (dCall g dNil)) := by
  refine impPE (pe_callG0 F hG hr hg hm hk hb hx hdb) fun σ H Q ⟨ρ, r, L, ee, gr, hL, w⟩ => ?_
  have w1 : W C H L (O1 C g.kr) ((if ([] : List D).length = g.np then g.den [] else M.bad) r) Q := w
  by_cases hn : ([] : List D).length = g.np
  · rw [if_pos hn] at w1
    exact ⟨C.ra, C.hid, [], [], L, r, .inl ⟨hrng, rfl⟩, hn, .nil, gr, hL, W.call (ds := []) Fr.refl gr (fun _ => .inl) w1⟩
  · rw [if_neg hn] at w1; exact w1.elim
/-! ### keywords -/
theorem impPK {t t' : TA} (h : PK X kws t) (q : ∀ σ H Q, t' σ H Q → t σ H Q) : PK X kws t' := ⟨fun po pins s σ H Q I w => h.run po pins s σ H Q I (q σ H Q w)⟩
theorem ks_nil : PK X [] (tES C n [] dNil) := impPK pk_nil fun σ H Q ⟨ρ, r, L, e, gr, hL, w⟩ => w [] H Fr.refl gr ⟨fun _ => False, [], .nil, .nil, nofun, fun _ z => z.elim⟩
theorem ks_cons (ha : PE X e (tEV C n al fe)) (hr : PK X kws (tES C n al' gs)) : PK X (⟨nm, e, kpos⟩ :: kws) (tES C n (al ++ al') (dCons fe gs)) := by
  refine impPK (pk_cons ha hr) fun σ H Q ⟨ρ, r, L, e, gr, hL, w⟩ => ?_
  refine tG.of e (fun i => List.mem_append_left _) gr hL Fr.refl w fun d1 r1 v1 H1 q1 f1 g1 o1 e1 hL1 w1 => ?_
  refine tG.of e1 (fun i => List.mem_append_right _) g1 hL1 f1 w1 fun d2 r2 v2 H2 q2 f2 g2 o2 e2 hL2 w2 => ?_
  exact w2 _ _ (f1.trans f2) g2 (Outs.cons hL f1 f2 o1 o2)
/-- how a call with keywords binds -/
def KwB (K : PySem.W.Frag) (fd : FuncData) (ps ks : List Str) (is : List Nat) (a b : Nat) : Prop := ∀ (s : Shared) (us ws : List Value), K.In s.heap → us.length = a → ws.length = b → BindsTo s fd ⟨us, ks.zip ws⟩ (ps.zip (pick is (us ++ ws)))
theorem run_fnK {is : List Nat} {a b : Nat} {sp : Sp} {E : XK} {pins : List (Addr × Obj)} {σ : L2.St} {J : Hp} {z : Shared} {R : VK} {ls ws : List Value} {vs zs : List V} (F : FnG X.prog X.w X.K X.mg X.base CX k f fd ps sp) (hG : X.A.guards = some []) (hr : Room k X.A) (hb : KwB X.K fd ps ks is a b) (hx : Passes CX X E) (I : Inv X pins σ J z)
    (hv : Vals vs ls) (hz : Vals zs ws) (ha : vs.length = a) (hbl : zs.length = b) (hs : sp (pick is (vs ++ zs)) J R E) : wpAny (model X.prog X.w) X.A (call (.ref f) ls (ks.zip ws)) (EP X pins σ R) X.xe z := by
  have hb' := hb z ls ws I.kIn (hv.length.symm.trans ha) (hz.length.symm.trans hbl)
  refine wpAny_call (codeAny_mono (goes_on F hG hr hx I hb' (vals_pick (hv.append hz) is) hs) fun o z' q => ?_)
  match o, q with
  | .error err, q => exact q
  | .ok (.ret u), q => exact q
  | .ok .next, q => exact q.elim
  | .ok .brk, q => exact q.elim
  | .ok .cont, q => exact q.elim
theorem pe_callKG {is : List Nat} {a b : Nat} {sp : Sp} {E : XK} {t tk : TA} (F : FnG X.prog X.w X.K X.mg X.base CX k f fd ps sp) (hG : X.A.guards = some []) (hr : Room k X.A) (hg : Gl X x) (hm : X.mg x = some (.ref f)) (hk : PySem.W.keepIn X.K (.ref f) = true) (hb : KwB X.K fd ps ks is a b) (hx : Passes CX X E)
    (ha : PA X (e :: es) t) (hkw : PK X kws tk) (hall : (backToKw pos (keywordEach kws X.env)).all (·.1.isSome) = true := by rfl) (hks : (backToKw pos (keywordEach kws X.env)).filterMap (·.1) = ks := by rfl) (hdb : (x == ("__debug__" : Str)) = false := by decide) (he : starEach (e :: es) X.env = (false, eval e X.env) :: starEach es X.env := by rfl)
    (hpl : ((backTo pos (starEach (e :: es) X.env)).any (·.1) || (backToKw pos (keywordEach kws X.env)).any (·.1.isNone)) = false := by rfl) :
    PE X (.Call (.Name x p) (e :: es) kws pos) (fun σ H Q => t σ H fun vs H1 => tk σ H1 fun zs H2 => vs.length = a ∧ zs.length = b ∧ sp (pick is (vs ++ zs)) H2 Q E) := by
  refine ⟨fun pins z σ J R I h => wpAny_Call_Name_kw (ld_glob I hg hm ?_ hdb)⟩
  refine PySem.W.callWith_KW (h₀ := X.base) I.ok.mod.kin hk hall (thn (ha.run pos pins z σ J _ I h) fun ls z1 ⟨vs, J1, I1, hv, q⟩ => ?_) hpl he
  refine thn (hkw.run pos pins z1 σ J1 _ I1 q) fun ws z2 ⟨zs, J2, I2, hz, h1, h2, q2⟩ => ⟨I2.kIn, ?_⟩
  rw [hks]
  exact run_fnK F hG hr hb hx I2 hv hz h1 h2 q2
theorem pe_callKG0 {is : List Nat} {b : Nat} {sp : Sp} {E : XK} {tk : TA} (F : FnG X.prog X.w X.K X.mg X.base CX k f fd ps sp) (hG : X.A.guards = some []) (hr : Room k X.A) (hg : Gl X x) (hm : X.mg x = some (.ref f)) (hk : PySem.W.keepIn X.K (.ref f) = true) (hb : KwB X.K fd ps ks is 0 b) (hx : Passes CX X E)
    (hkw : PK X kws tk) (hall : (backToKw pos (keywordEach kws X.env)).all (·.1.isSome) = true := by rfl) (hks : (backToKw pos (keywordEach kws X.env)).filterMap (·.1) = ks := by rfl) (hdb : (x == ("__debug__" : Str)) = false := by decide)
    (hpl : ((backTo pos (starEach [] X.env)).any (·.1) || (backToKw pos (keywordEach kws X.env)).any (·.1.isNone)) = false := by rfl) :
    PE X (.Call (.Name x p) [] kws pos) (fun σ H Q => tk σ H fun zs H2 => zs.length = b ∧ sp (pick is zs) H2 Q E) := by
  refine ⟨fun pins z σ J R I h => wpAny_Call_Name_kw (ld_glob I hg hm ?_ hdb)⟩
  refine PySem.W.callWith_KW0 (h₀ := X.base) I.ok.mod.kin hk hall (thn (hkw.run pos pins z σ J _ I h) fun ws z2 ⟨zs, J2, I2, hz, h2, q2⟩ => ⟨I2.kIn, ?_⟩) hpl
  rw [hks]
  exact run_fnK F hG hr hb hx I2 .nil hz rfl h2 q2
theorem ev_callK {is : List Nat} {a b : Nat} (F : FnG X.prog X.w X.K X.mg X.base CX k f fd ps (spD X.K C.cls C.fld g)) (hrng : g.rng = false) (hG : X.A.guards = some []) (hr : Room k X.A) (hg : Gl X x) (hm : X.mg x = some (.ref f)) (hk : PySem.W.keepIn X.K (.ref f) = true) (hb : KwB X.K fd ps ks is a b) (hx : Passes CX X C.E)
    (hla : ∀ ρ r ds r', fs ρ r = .ok ds r' → ds.length = a) (hlb : ∀ ρ r ds r', gs ρ r = .ok ds r' → ds.length = b) (ha : PA X (e :: es) (tES C n al fs)) (hkw : PK X kws (tES C n al' gs)) (hall : (backToKw pos (keywordEach kws X.env)).all (·.1.isSome) = true := by rfl) (hks : (backToKw pos (keywordEach kws X.env)).filterMap (·.1) = ks := by rfl)
    (hdb : (x == ("__debug__" : Str)) = false := by decide) (he : starEach (e :: es) X.env = (false, eval e X.env) :: starEach es X.env := by rfl) (hpl : ((backTo pos (starEach (e :: es) X.env)).any (·.1) || (backToKw pos (keywordEach kws X.env)).any (·.1.isNone)) = false := by rfl) :
    PE X (.Call (.Name x p) (e :: es) kws pos) (tEV C g.kr (al ++ al') (dCallK g is fs gs)) := by
  refine impPE (pe_callKG F hG hr hg hm hk hb hx ha hkw hall hks hdb he hpl) fun σ H Q ⟨ρ, r, L, ee, gr, hL, w⟩ => ?_
  refine tG.of ee (fun i => List.mem_append_left _) gr hL Fr.refl w fun ds r1 vs H1 q f1 g1 o1 e1 hL1 w1 => ?_
  refine tG.of e1 (fun i => List.mem_append_right _) g1 hL1 f1 w1 fun es r2 zs H2 q2 f2 g2 o2 e2 hL2 w2 => ?_
  have la := (show vs.length = ds.length from let ⟨_, _, o, _⟩ := o1; o.len).trans (hla _ _ _ _ q)
  have lb := (show zs.length = es.length from let ⟨_, _, o, _⟩ := o2; o.len).trans (hlb _ _ _ _ q2)
  obtain ⟨L1, k1, k2, k3⟩ := (Outs.cons' hL f1 f2 o1 o2).view
  refine ⟨la, lb, ?_⟩
  by_cases hn : (pick is (ds ++ es)).length = g.np
  · rw [if_pos hn] at w2
    exact ⟨C.ra, C.hid, _, _, L1, r2, .inl ⟨hrng, rfl⟩, hn, k1.pick0 is, g2, k2, W.call (ds := ds) (f1.trans f2) g2 k3 w2⟩
  · rw [if_neg hn] at w2; exact w2.elim
theorem ev_callK0 {is : List Nat} {b : Nat} (F : FnG X.prog X.w X.K X.mg X.base CX k f fd ps (spD X.K C.cls C.fld g)) (hrng : g.rng = false) (hG : X.A.guards = some []) (hr : Room k X.A) (hg : Gl X x) (hm : X.mg x = some (.ref f)) (hk : PySem.W.keepIn X.K (.ref f) = true) (hb : KwB X.K fd ps ks is 0 b) (hx : Passes CX X C.E)
    (hlb : ∀ ρ r ds r', gs ρ r = .ok ds r' → ds.length = b) (hkw : PK X kws (tES C n al' gs)) (hall : (backToKw pos (keywordEach kws X.env)).all (·.1.isSome) = true := by rfl) (hks : (backToKw pos (keywordEach kws X.env)).filterMap (·.1) = ks := by rfl)
    (hdb : (x == ("__debug__" : Str)) = false := by decide) (hpl : ((backTo pos (starEach [] X.env)).any (·.1) || (backToKw pos (keywordEach kws X.env)).any (·.1.isNone)) = false := by rfl) :
    PE X (.Call (.Name x p) [] kws pos) (tEV C g.kr al' (dCallK g is dNil gs)) := by
  refine impPE (pe_callKG0 F hG hr hg hm hk hb hx hkw hall hks hdb hpl) fun σ H Q ⟨ρ, r, L, ee, gr, hL, w⟩ => ?_
  have w' : W C H L (O1 C g.kr) (M.bind (gs ρ) (fun es => if (pick is ([] ++ es)).length = g.np then g.den (pick is ([] ++ es)) else M.bad) r) Q := w
  refine tG.of ee (fun i => id) gr hL Fr.refl w' fun es r2 zs H2 q2 f2 g2 o2 e2 hL2 w2 => ?_
  have lb := (show zs.length = es.length from let ⟨_, _, o, _⟩ := o2; o.len).trans (hlb _ _ _ _ q2)
  obtain ⟨L1, k1, k2, k3⟩ := Outs.view o2
  refine ⟨lb, ?_⟩
  rw [List.nil_append] at w2
  by_cases hn : (pick is es).length = g.np
  · rw [if_pos hn] at w2
    exact ⟨C.ra, C.hid, _, _, L1, r2, .inl ⟨hrng, rfl⟩, hn, k1.pick0 is, g2, k2, W.call (ds := es) f2 g2 k3 w2⟩
  · rw [if_neg hn] at w2; exact w2.elim
end
theorem len_nil : ∀ (ρ : Slots) (r : Rg) (ds : List D) (r' : Rg), dNil ρ r = .ok ds r' → ds.length = 0 := fun ρ r ds r' h => by cases h; rfl
theorem len_cons {fe : Den} {gs : Slots → M (List D)} {b : Nat} (h : ∀ ρ r ds r', gs ρ r = .ok ds r' → ds.length = b) : ∀ (ρ : Slots) (r : Rg) (ds : List D) (r' : Rg), dCons fe gs ρ r = .ok ds r' → ds.length = b + 1 := fun ρ r ds r' q => by
  obtain ⟨d, r1, _, q1⟩ := bind_ok q
  obtain ⟨es, r2, q2, q3⟩ := bind_ok q1
  obtain ⟨rfl, _⟩ := pure_ok q3
  exact congrArg Nat.succ (h _ _ _ _ q2)
end DL

/-! DLu: built-ins. -/
namespace DL
open PySem L2

/-! ### ints -/
def intsD : List D → Option (List Int)
  | [] => some []
  | .int i :: ds => (intsD ds).map (i :: ·)
  | _ => none
theorem intsD_eq : ∀ {ds : List D} {ns : List Int}, intsD ds = some ns → ds = ns.map PyData.int
  | [], _, h => by cases h; rfl
  | d :: ds, ns, h => by
    cases d with
    | int i =>
      unfold intsD at h
      cases q : intsD ds with
      | none => rw [q] at h; cases h
      | some ms => rw [q] at h; cases h; rw [List.map_cons, intsD_eq q]
    | _ => cases h
theorem intsD_map : ∀ ns : List Int, intsD (ns.map PyData.int) = some ns
  | [] => rfl
  | n :: ns => by
    show (intsD (ns.map PyData.int)).map (n :: ·) = _
    rw [intsD_map ns]; rfl
theorem owns_ints {H : Hp} {L : Addr → Prop} {n : Nat} : ∀ {ns : List Int} {vs : List V} {as : List Addr}, Owns H L n vs (ns.map PyData.int) as → vs = ns.map V.int
  | [], _, _, h => by cases h; rfl
  | i :: ns, _, _, h => by
    cases h with
    | cons a b =>
      rw [own_int a, owns_ints b]; rfl
theorem own_of_ints {H : Hp} {L : Addr → Prop} {n : Nat} : ∀ ns : List Int, Owns H L n (ns.map V.int) (ns.map PyData.int) []
  | [] => .nil
  | i :: ns => by
    have q := Owns.cons (Own.int (H := H) (L := L) (n := n) (i := i)) (own_of_ints ns)
    exact q
def isort (ns : List Int) : List Int := ns.mergeSort fun a b => decide (a ≤ b)
theorem isort_perm (ns : List Int) : (isort ns).Perm ns := List.mergeSort_perm ns _
theorem isort_pair (ns : List Int) : (isort ns).Pairwise (· ≤ ·) := by
  have h := List.pairwise_mergeSort (le := fun a b : Int => decide (a ≤ b)) (fun a b c h1 h2 => by simp at *; omega) (fun a b => by simp; omega) ns
  exact h.imp fun z => by simpa using z
theorem isort_eq {ns ms : List Int} (h : ms.Perm ns) (hp : ms.Pairwise (· ≤ ·)) : ms = isort ns :=
  List.Perm.eq_of_pairwise (le := (· ≤ ·)) (fun a b _ _ h1 h2 => Int.le_antisymm h1 h2) hp (isort_pair ns) (h.trans (isort_perm ns).symm)
/-- a new list of ints -/
theorem Out.newInts {C : Ct} {H : Hp} {L : Addr → Prop} {n : Nat} {ns : List Int} {p : Addr} (hr : ∃ r, RngAt C r H) (hp : H p = none) (hz : ns.length ≤ sizeLine) : Out C H L (upd H p (.lst (ns.map V.int))) (n + 1) (.ref p) (.list (ns.map PyData.int)) := by
  obtain ⟨r, hr⟩ := hr
  exact ⟨fun _ => False, [p], .lst upd_same (by rw [List.length_map]; exact hz) (own_of_ints ns), by simp, fun q hq => by
    rw [List.mem_singleton.mp hq]
    exact ⟨hp, hr.nr hp⟩, fun _ z => z.elim⟩

def oLen : List D → Option D
  | [.list xs] => some (.int xs.length)
  | [.tuple xs] => if isHole xs = true then none else some (.int xs.length)
  | [.dict kds] => some (.int kds.length)
  | _ => none
def oInt : List D → Option D
  | [.int i] => some (.int i)
  | [.bool b] => some (.int (if b = true then 1 else 0))
  | _ => none
def oListOf : List D → Option D
  | [.list xs] => some (.list xs)
  | [.tuple xs] => if isHole xs = true then none else some (.list xs)
  | _ => none
def oSorted : List D → Option D
  | [.list xs] => (intsD xs).map fun ns => .list ((isort ns).map PyData.int)
  | _ => none
def oMin2 : List D → Option D
  | [.int i, .int j] => some (.int (if j < i then j else i))
  | _ => none
def oMax2 : List D → Option D
  | [.int i, .int j] => some (.int (if j > i then j else i))
  | _ => none
def oSum : List D → Option D
  | [.list xs] => (intsD xs).map fun ns => .int ns.sum
  | _ => none
def boolsD : List D → Option (List Bool)
  | [] => some []
  | .bool b :: ds => (boolsD ds).map (b :: ·)
  | _ => none
def oAll : List D → Option D
  | [.list xs] => (boolsD xs).map fun bs => .bool (bs.all id)
  | _ => none
def oRepr : List D → Option D
  | [.list xs] => if PyData.hasDict (.list xs) = false ∧ PyData.showable (.list xs) = true ∧ PyData.depth (.list xs) ≤ 64 ∧ (PyData.shown (.list xs)).length ≤ sizeLine then some (.str (PyData.shown (.list xs))) else none
  | _ => none
def tyName : D → Option String
  | .none => some "NoneType"
  | .bool _ => some "bool"
  | .int _ => some "int"
  | .str _ => some "str"
  | .list _ => some "list"
  | .tuple xs => if isHole xs = true then none else some "tuple"
  | .dict _ => some "dict"
def isiB (a T : String) : Bool := a == T || (a == "bool" && T == "int")
def oIsi (T : String) : D → Option D := fun d => (tyName d).map fun a => .bool (isiB a T)
section
variable {X : Cx} {C : Ct} {n : Nat} {H : Hp} {L : Addr → Prop}
theorem on_len : OpN0 C n oLen (fun xs H Q => (∃ x n, xs = [x] ∧ LenV X.K x H n ∧ Q (.int n) H) ∨ ∃ a kvs, xs = [.ref a] ∧ Rd H a (.dK kvs) ∧ Q (.int kvs.length) H) := by
  intro H L vs ds d Q e hL gr o k
  unfold oLen at e
  split at e
  · cases e
    obtain ⟨v, rfl, h⟩ := owns1 o
    obtain ⟨p, ws, rfl, a1, a2, a3, a4⟩ := own_list h
    exact .inl ⟨_, ws.length, rfl, .inl ⟨ws, SqL.of a2, rfl⟩, by rw [a4.len]; exact k _ _ Ext.refl Out.int⟩
  · split at e
    · cases e
    · rename_i hh
      cases e
      obtain ⟨v, rfl, h⟩ := owns1 o
      obtain ⟨p, ws, rfl, a1, a2, a3, a4⟩ := own_tup h (by simpa using hh)
      exact .inl ⟨_, ws.length, rfl, .inr ⟨ws, SqT.of a2, rfl⟩, by rw [a4.len]; exact k _ _ Ext.refl Out.int⟩
  · rename_i kds
    cases e
    obtain ⟨v, rfl, h⟩ := owns1 o
    obtain ⟨p, kvs, rfl, a1, a2, a3, a4, a5⟩ := own_dict h
    have hl : kvs.length = kds.length := by simpa using (congrArg List.length a4.eq).symm
    exact .inr ⟨p, kvs, rfl, a2, by rw [hl]; exact k _ _ Ext.refl Out.int⟩
  · cases e
theorem call_lenR : CallR X (.builtin "len") (fun xs H Q => ∃ a kvs, xs = [.ref a] ∧ Rd H a (.dK kvs) ∧ Q (.int kvs.length) H) := by
  intro pins s σ H xs us Q I r ⟨a, kvs, e, hd, q⟩
  subst e
  cases r with
  | cons r1 r2 =>
    cases r2
    cases r1
    exact d_len I hd fun t s' I' => ⟨.int kvs.length, H, I', ⟨t, rfl⟩, q⟩
theorem on_int : OpN0 C n oInt (fun xs H Q => (∃ i, xs = [.int i] ∧ Q (.int i) H) ∨ ∃ k, xs = [.bl k] ∧ Q (.int (if k then 1 else 0)) H) := by
  intro H L vs ds d Q e hL gr o k
  unfold oInt at e
  split at e
  · cases e
    obtain ⟨v, rfl, h⟩ := owns1 o
    exact .inl ⟨_, by rw [own_int h], k _ _ Ext.refl Out.int⟩
  · cases e
    obtain ⟨v, rfl, h⟩ := owns1 o
    exact .inr ⟨_, by rw [own_bl h], k _ _ Ext.refl Out.int⟩
  · cases e
theorem on_listOf : OpN C 1 oListOf (fun xs H Q => ∃ p ys, xs = [.ref p] ∧ (SqL X.K H p ys ∨ SqT X.K H p ys) ∧ ∀ l, H l = none → Q (.ref l) (upd H l (.lst ys))) := by
  intro H L vs ds d Q e hL gr o k
  have fin : ∀ {p : Addr} {ws : List V} {xs : List D}, L p → xs.length ≤ sizeLine → Owns H L 0 ws xs [] → ∀ l, H l = none → (∀ v H', Ext H H' → Out C H L H' 1 v (.list xs) → Q v H') → Q (.ref l) (upd H l (.lst ws)) := fun {p ws xs} hp hz oo l hl kk => by
    obtain ⟨r, gr⟩ := gr
    have x := Ext.new (o := .lst ws) hl
    refine kk _ _ x ⟨L, [l], .lst upd_same hz (oo.mono (fun _ h => h) fun q u _ e => x q u e), by simp, fun q hq => ?_, fun q hq => ?_⟩
    · rw [List.mem_singleton.mp hq]
      exact ⟨hl, gr.nr hl⟩
    · refine ⟨(hL q hq).1, some_on x.fr (hL q hq).1 (hL q hq).2, .inl hq, fun z => ?_⟩
      rw [List.mem_singleton.mp z] at hq
      exact (hL l hq).2 hl
  unfold oListOf at e
  split at e
  · cases e
    obtain ⟨v, rfl, h⟩ := owns1 o
    obtain ⟨p, ws, rfl, a1, a2, a3, a4⟩ := own_list h
    exact ⟨p, ws, rfl, .inl (SqL.of a2), fun l hl => fin a1 a3 a4 l hl k⟩
  · split at e
    · cases e
    · rename_i hh
      cases e
      obtain ⟨v, rfl, h⟩ := owns1 o
      obtain ⟨p, ws, rfl, a1, a2, a3, a4⟩ := own_tup h (by simpa using hh)
      exact ⟨p, ws, rfl, .inr (SqT.of a2), fun l hl => fin a1 a3 a4 l hl k⟩
  · cases e
theorem on_sorted : OpN0 C (n + 1) oSorted (rSortedI X.K) := by
  intro H L vs ds d Q e hL gr o k
  unfold oSorted at e
  split at e
  · rename_i xs
    cases q : intsD xs with
    | none => rw [q] at e; cases e
    | some ns =>
      rw [q] at e; cases e
      obtain ⟨v, rfl, h⟩ := owns1 o
      obtain ⟨p, ws, rfl, a1, a2, a3, a4⟩ := own_list h
      have ex := intsD_eq q
      subst ex
      have ew := owns_ints a4
      subst ew
      refine ⟨p, ns, rfl, SqL.of a2, fun ms p' h1 h2 h3 => ?_⟩
      have em := isort_eq h1 h2
      subst em
      exact k _ _ (Ext.new h3) (Out.newInts gr h3 (by rw [(isort_perm ns).length_eq]; rw [List.length_map] at a3; exact a3))
  · cases e
theorem on_min2 : OpN0 C n oMin2 (fun xs H Q => ∃ i j, xs = [.int i, .int j] ∧ Q (.int (if j < i then j else i)) H) := by
  intro H L vs ds d Q e hL gr o k
  unfold oMin2 at e
  split at e
  · cases e
    obtain ⟨v, u, rfl, h1, h2⟩ := owns2 o
    exact ⟨_, _, by rw [own_int h1, own_int h2], k _ _ Ext.refl Out.int⟩
  · cases e
theorem on_max2 : OpN0 C n oMax2 (fun xs H Q => ∃ i j, xs = [.int i, .int j] ∧ Q (.int (if j > i then j else i)) H) := by
  intro H L vs ds d Q e hL gr o k
  unfold oMax2 at e
  split at e
  · cases e
    obtain ⟨v, u, rfl, h1, h2⟩ := owns2 o
    exact ⟨_, _, by rw [own_int h1, own_int h2], k _ _ Ext.refl Out.int⟩
  · cases e
theorem on_sum : OpN0 C n oSum (rSum X.K) := by
  intro H L vs ds d Q e hL gr o k
  unfold oSum at e
  split at e
  · rename_i xs
    cases q : intsD xs with
    | none => rw [q] at e; cases e
    | some ns =>
      rw [q] at e; cases e
      obtain ⟨v, rfl, h⟩ := owns1 o
      obtain ⟨p, ws, rfl, a1, a2, a3, a4⟩ := own_list h
      have ex := intsD_eq q
      subst ex
      have ew := owns_ints a4
      subst ew
      exact ⟨p, ns, rfl, SqL.of a2, k _ _ Ext.refl Out.int⟩
  · cases e
theorem owns_bools {n : Nat} : ∀ {ds : List D} {bs : List Bool} {vs : List V} {as : List Addr}, boolsD ds = some bs → Owns H L n vs ds as → vs = bs.map V.bl
  | [], _, _, _, e, h => by cases e; cases h; rfl
  | d :: ds, bs, _, _, e, h => by
    cases d with
    | bool b =>
      unfold boolsD at e
      cases q : boolsD ds with
      | none => rw [q] at e; cases e
      | some cs =>
        rw [q] at e; cases e
        cases h with
        | cons a c => rw [own_bl a, owns_bools q c]; rfl
    | _ => cases e
theorem on_all : OpN0 C n oAll (rAll X.K) := by
  intro H L vs ds d Q e hL gr o k
  unfold oAll at e
  split at e
  · rename_i xs
    cases q : boolsD xs with
    | none => rw [q] at e; cases e
    | some bs =>
      rw [q] at e; cases e
      obtain ⟨v, rfl, h⟩ := owns1 o
      obtain ⟨p, ws, rfl, a1, a2, a3, a4⟩ := own_list h
      have ew := owns_bools q a4
      subst ew
      exact ⟨p, bs, rfl, SqL.of a2, k _ _ Ext.refl Out.bl⟩
  · cases e
/-! ### repr -/
def rReprD (K : PySem.W.Frag) : List V → Hp → VK → Prop := fun vs H Q => ∃ (p : Addr) (d : D), vs = [.ref p] ∧ Dp K H (.ref p) d ∧ PyData.hasDict d = false ∧ PyData.showable d = true ∧ PyData.depth d ≤ 64 ∧ (PyData.shown d).length ≤ sizeLine ∧ Q (.str (PyData.shown d)) H
theorem cr_repr (hG : X.A.guards = some []) (hu : X.A.units + 65 < cLine) : CallR X (.builtin "repr") (rReprD X.K) := by
  intro pins s σ H vs us Q I r ⟨p, d, e, dp, h1, h2, h3, h4, q⟩
  subst e
  cases r with
  | cons r1 r2 =>
    cases r2
    cases r1
    obtain ⟨as, rd⟩ := Dp.reads I d _ _ dp (show RelV (.ref p) (.ref p) from rfl)
    refine repr_of_reads' rd h2 (fun z => by rw [h1] at z; cases z) hG (by omega) (fun _ _ e => e) (fun h' u tk hk => ?_) h4
    exact ⟨.str _, H, I.kept (t' := tk) hk, ⟨u, rfl⟩, q⟩
theorem on_repr : OpN0 C n oRepr (rReprD X.K) := by
  intro H L vs ds d Q e hL gr o k
  unfold oRepr at e
  split at e
  · rename_i xs
    split at e
    · rename_i z
      cases e
      obtain ⟨v, rfl, h⟩ := owns1 o
      obtain ⟨p, ws, rfl, _⟩ := own_list h
      exact ⟨p, _, rfl, h.dp z.1, z.1, z.2.1, z.2.2.1, z.2.2.2, k _ _ Ext.refl Out.str⟩
    · cases e
  · cases e
/-! ### isinstance -/
theorem own_ty {v : V} {d : D} {a : String} (o : Own H L 0 v d []) (h : tyName d = some a) : TyX X.K H v (.type a) := by
  cases d with
  | none => cases h; cases o; exact .base .non
  | bool b => cases h; cases o; exact .base (.bl b)
  | int i => cases h; cases o; exact .base (.int i)
  | str s => cases h; cases o; exact .base (.str s)
  | list xs =>
    cases h
    obtain ⟨p, ws, rfl, a1, a2, _⟩ := own_list o
    exact .base (.lst a2)
  | tuple xs =>
    unfold tyName at h
    cases hh : isHole xs with
    | true => simp [hh] at h
    | false =>
      simp only [hh, Bool.false_eq_true, if_false] at h
      cases h
      obtain ⟨p, ws, rfl, a1, a2, _⟩ := own_tup o hh
      exact .base (.tup a2)
  | dict kds =>
    cases h
    obtain ⟨p, kvs, rfl, a1, a2, _⟩ := own_dict o
    rcases a2 with a2 | ⟨ob, a2⟩
    · exact .base (.dK a2)
    · exact .fDict a2
def tyOk (T : String) : Bool := ["NoneType", "bool", "int", "str", "list", "tuple", "dict"].all fun a => kitB a T == some (isiB a T)
theorem tyOk_int : tyOk "int" = true := by decide +kernel
theorem tyOk_bool : tyOk "bool" = true := by decide +kernel
theorem tyOk_list : tyOk "list" = true := by decide +kernel
theorem tyOk_of {T a : String} {d : D} (h : tyOk T = true) (q : tyName d = some a) : kitB a T = some (isiB a T) := by
  have hm : a ∈ ["NoneType", "bool", "int", "str", "list", "tuple", "dict"] := by
    cases d with
    | tuple xs =>
      cases hh : isHole xs with
      | true => simp [tyName, hh] at q
      | false =>
        simp only [tyName, hh, Bool.false_eq_true, if_false, Option.some.injEq] at q
        subst q; decide
    | _ => cases q; decide
  have := List.all_eq_true.mp h a hm
  simpa using this
variable {al : List Nat} {e : Expr} {f : Den} {p p' pos : Pos} {nm : Str} {n1 : Nat}
theorem ev_isi {T : String} (hT : tyOk T = true) (hg : Gl X "isinstance") (hm : X.mg "isinstance" = none) (hg2 : Gl X nm) (hm2 : X.mg nm = none) (hv2 : bootBuiltins nm = some (.type T)) (ha : PE X e (tEV C n1 al f)) (hn : nm ≠ "__name__" := by decide) (hdb : (nm == ("__debug__" : Str)) = false := by decide)
    (he : starEach [e, .Name nm p'] X.env = (false, eval e X.env) :: starEach [.Name nm p'] X.env := by rfl) (he2 : starEach [.Name nm p'] X.env = (false, eval (.Name nm p') X.env) :: starEach [] X.env := by rfl) (hpl : (backTo pos (starEach [.Name nm p'] X.env)).any (·.1) = false := by rfl) :
    PE X (.Call (.Name "isinstance" p) [e, .Name nm p'] [] pos) (tEV C n [] (dUn (oIsi T) f)) := by
  refine impPE (pe_callB call_isi hg hm PyProof.Rows.boot_isinstance (pa_cons ha (pa_cons (pe_bltn hg2 hm2 hv2 (r := (show RelV (.ty T) (.type T) from rfl)) hn hdb) pa_nil he2) he) (he := he) (hpl := hpl)) fun σ H Q ⟨ρ, r, L, ee, gr, hL, w⟩ => ?_
  refine tG.ofN ee gr hL Fr.refl w fun d1 r1 v1 H1 q1 f1 g1 o1 e1 hL1 w1 => ?_
  obtain ⟨L1, k1, _⟩ := Out.view o1
  unfold oIsi M.lift at w1
  cases q : tyName d1 with
  | none => rw [q] at w1; exact w1.elim
  | some a =>
    rw [q] at w1
    exact ⟨v1, .ty T, .type a, .type T, isiB a T, rfl, .ty T, own_ty k1 q, kit_ty (tyOk_of hT q), w1 _ _ f1 g1 Out.bl⟩
/-! ### list(range(..)) -/
variable {es : List Expr} {fs : Slots → M (List D)} {a b c : Expr}
def dListRg (o : List D → Option (List D)) (fs : Slots → M (List D)) : Den := fun ρ => M.bind (fs ρ) fun ds => M.bind (M.lift (o ds)) fun xs => M.pure (.list xs)
theorem rgV_int (i j : Int) : L2.rgV i j = ((List.range (j - i).toNat).map fun k : Nat => i + (k : Int)).map V.int := by
  unfold L2.rgV
  rw [List.map_map]; rfl
theorem rangeD_int (i : Int) (k : Nat) : rangeD i k = ((List.range k).map fun m : Nat => i + (m : Int)).map PyData.int := by
  unfold rangeD
  rw [List.map_map]; rfl
theorem line24 : 2 ^ 24 = sizeLine := by rw [sizeLine_eq]
theorem ev_listRg2 {p2 : Pos} {f g : Den} {al' : List Nat} {n2 : Nat} (hc : X.calm = true) (hg : Gl X "list") (hm : X.mg "list" = none) (hg2 : Gl X "range") (hm2 : X.mg "range" = none) (ha : PE X a (tEV C n1 al f)) (hb : PE X b (tEV C n2 al' g))
    (na : starEach [a, b] X.env = (false, eval a X.env) :: starEach [b] X.env := by rfl) (nb : starEach [b] X.env = (false, eval b X.env) :: starEach [] X.env := by rfl) (hp : (backTo p' (starEach [b] X.env)).any (·.1) = false := by rfl)
    (nc : starEach [.Call (.Name "range" p) [a, b] [] p'] X.env = (false, eval (.Call (.Name "range" p) [a, b] [] p') X.env) :: starEach [] X.env := by rfl) :
    PE X (.Call (.Name "list" p2) [.Call (.Name "range" p) [a, b] [] p'] [] pos) (tEV C (n + 1) [] (dListRg oRange2 (dCons f (dCons g dNil)))) := by
  refine impPE (pe_listRg hc hg hm (prg_2 hg2 hm2 ha hb na nb hp) nc) fun σ H Q ⟨ρ, r, L, ee, gr, hL, w⟩ => ?_
  have w' : W C H L (O1 C (n + 1)) (M.bind (f ρ) (fun d1 => M.bind (g ρ) fun d2 => M.bind (M.lift (oRange2 [d1, d2])) fun xs => M.pure (.list xs)) r) Q := by
    have e0 : dListRg oRange2 (dCons f (dCons g dNil)) ρ r = M.bind (f ρ) (fun d1 => M.bind (g ρ) fun d2 => M.bind (M.lift (oRange2 [d1, d2])) fun xs => M.pure (.list xs)) r := by
      unfold dListRg dCons dNil M.bind
      cases f ρ r with
      | ok d1 r1 =>
        simp only
        cases g ρ r1 <;> rfl
      | _ => rfl
    rw [← e0]; exact w
  refine tG.ofN ee gr hL Fr.refl w' fun d1 r1 v1 H1 q1 f1 g1 o1 e1 hL1 w1 => ?_
  refine tG.ofN e1 g1 hL1 f1 w1 fun d2 r2 v2 H2 q2 f2 g2 o2 e2 hL2 w2 => ?_
  obtain ⟨L1, k1, _⟩ := Out.view o1
  obtain ⟨L2, k2, _⟩ := Out.view o2
  unfold oRange2 at w2
  split at w2
  · rename_i i j heq
    cases heq
    split at w2
    · rename_i z
      refine ⟨i, j, own_int k1, own_int k2, ⟨z.2.1, z.2.2.1, z.2.2.2.1, z.2.2.2.2, by have := z.1; rw [← line24] at this; exact this⟩, fun q hq => ?_⟩
      rw [rgV_int]
      refine w2 _ _ ((f1.trans f2).trans (Ext.new hq).fr) ((Ext.new hq).rng g2) ?_
      rw [rangeD_int]
      exact Out.pre (f1.trans f2) (fun _ z => z.elim) (Out.newInts (L := fun _ => False) ⟨_, g2⟩ hq (by rw [List.length_map, List.length_range]; exact z.1))
    · exact w2.elim
  · exact w2.elim
/-! ### len(set(x)) of a list of ints, no one twice -/
def oLenSet : D → Option D
  | .list xs => match intsD xs with
    | some ns => if ns.length < 64 ∧ ns.Nodup then some (.int ns.length) else none
    | none => none
  | _ => none
theorem ev_lenSet {f : Den} {p2 q : Pos} (hc : X.calm = true) (hg : Gl X "len") (hm : X.mg "len" = none) (hg2 : Gl X "set") (hm2 : X.mg "set" = none) (ha : PE X a (tEV C n1 al f)) (na : starEach [a] X.env = (false, eval a X.env) :: starEach [] X.env := by rfl) :
    PE X (.Call (.Name "len" p) [.Call (.Name "set" p2) [a] [] q] [] pos) (tEV C n [] (dUn oLenSet f)) := by
  refine impPE (pe_lenSetI hc hg hm hg2 hm2 ha na) fun σ H Q ⟨ρ, r, L, ee, gr, hL, w⟩ => ?_
  refine tG.ofN ee gr hL Fr.refl w fun d1 r1 v1 H1 q1 f1 g1 o1 e1 hL1 w1 => ?_
  obtain ⟨L1, k1, _⟩ := Out.view o1
  cases d1 with
  | list xs =>
    cases qi : intsD xs with
    | none =>
      rw [show oLenSet (.list xs) = none by simp only [oLenSet, qi]] at w1
      exact w1.elim
    | some ns =>
      by_cases z : ns.length < 64 ∧ ns.Nodup
      · rw [show oLenSet (.list xs) = some (.int ns.length) by simp [oLenSet, qi, z]] at w1
        obtain ⟨p, ws, rfl, a1, a2, a3, a4⟩ := own_list k1
        have ex := intsD_eq qi
        subst ex
        have ew := owns_ints a4
        subst ew
        exact ⟨p, ns, rfl, SqL.of a2, z.1, z.2, w1 _ _ f1 g1 Out.int⟩
      · rw [show oLenSet (.list xs) = none by simp only [oLenSet, qi, if_neg z]] at w1
        exact w1.elim
  | _ => exact w1.elim
end
end DL

/-! DLv: a comprehension stored at once; wider readings. -/
namespace DL
open PySem L2 PySem.Spec PyProof.Rows

section
variable {X : Cx} {C : Ct} {B : Bs} {n nk kr : Nat} {m : List Nat} {al al' alt alk ale os : List Nat} {f : Den} {fi : Slots → M (List D)} {gt : D → Slots → Option Slots} {ft : Slots → M Bool} {fk fe : Den} {e kx elt tg iter : Expr} {ifs : List Expr} {scope : Scope} {own : List (Str × Nat)} {pos spos py : Pos} {g : TG} {i : Nat} {y : Str} {P : Hp → Hp → Prop}
theorem ev_up (h : PE X e (tEV C n al f)) (hs : (al.all fun i => al'.contains i) = true) : PE X e (tEV C n al' f) :=
  impPE h fun σ H Q ⟨ρ, r, L, ee, gr, hL, w⟩ => ⟨ρ, r, L, ee.sub fun i hi => by simpa using List.all_eq_true.mp hs i hi, gr, hL, w⟩
theorem iv_up (h : PI X tg iter (tIVg P C al fi)) (hs : (al.all fun i => al'.contains i) = true) : PI X tg iter (tIVg P C al' fi) :=
  impPI h fun σ H Q ⟨ρ, r, L, ee, gr, hL, w⟩ => ⟨ρ, r, L, ee.sub fun i hi => by simpa using List.all_eq_true.mp hs i hi, gr, hL, w⟩
theorem sub_of {a b : List Nat} (h : (a.all fun i => b.contains i) = true) : ∀ j ∈ a, j ∈ b := fun j hj => by simpa using List.all_eq_true.mp h j hj
theorem WS.asg {A : List Addr} {H : Hp} {L : Addr → Prop} {Ds : Ends} {ρ : Slots} {r : Rg} {σ : L2.St} (s : SimS C B m ρ r σ H A L) (hrs : C.pn i = none) (w : WS C B kr (m.set i n) A H L Ds (M.bind (fe ρ) (fun d => M.pure (.nx (setS ρ i d))) r)) :
    W C H L (O1 C n) (fe ρ r) (fun v H' => Ds.nx (σ.set i (some v)) H') := by
  unfold M.bind at w
  cases q : fe ρ r with
  | bad => rw [q] at w; exact w.elim
  | ex c d r1 => rw [q] at w; exact WEx.inner s w
  | ok d r1 =>
    rw [q] at w
    intro v H' f' g' o'
    obtain ⟨A', L', s', st', l'⟩ := s.put hrs f' g' o'
    exact w _ _ _ _ s' st' l'
/-- x = [.. for ..] -/
theorem ds_asgLc (hc : X.calm = true) (hN : X.N.Nodup) (hy : X.N[i]? = some y) (hyl : X.env.scope.names.lookup y = some .local) (hrs0 : C.pn i = none) (hal : zeros m al = true) (hsw : swapsWith (.ListComp elt [⟨tg, iter, ifs, 0⟩] scope pos) (some (.Name y py)) spos.line X.env = pure true)
    (hi : PI X tg iter (tIV C al fi)) (ok : BlkOk X.N X.env.scope scope own) (hos : own.map (·.2) = os)
    (hg : ∀ (s : Shared) (H : Hp) (A : Addr) (cl : List (Str × Addr)) (fp : List Addr), PG (X.blk s H scope (compEnvC scope cl A X.env) fp) tg g) (tgo : TgOk C X.K g gt os) (hrs : ∀ z' ∈ os, C.pn z' = none) (hsub : ∀ j ∈ alt ++ ale, j ∈ os ++ al)
    (ht : ∀ (s : Shared) (H : Hp) (A : Addr) (cl : List (Str × Addr)) (fp : List Addr), PTs (X.blk s H scope (compEnvC scope cl A X.env) fp) ifs (tET C.in0 alt ft))
    (he : ∀ (s : Shared) (H : Hp) (A : Addr) (cl : List (Str × Addr)) (fp : List Addr), PE (X.blk s H scope (compEnvC scope cl A X.env) fp) elt (tEV C.in0 n ale fe)) (hs : ∀ x, foldedSetIterable iter X.env x = pure x := by intro _; rfl) :
    PS X (.Assign [.Name y py] (.ListComp elt [⟨tg, iter, ifs, 0⟩] scope pos) spos) (tDS C B kr m (m.set i (n + 1)) (dsAsg i (dLc fi gt ft fe))) := by
  subst hos
  exact impPS (ps_unl (ps_setLc hc hN hy hyl hsw hi ok hg ht he hs)) fun Ds σ H ⟨ρ, r, A, L, s, w⟩ => lc_read hsub tgo hrs (s.env (zeros_of hal)) s.rg s.regL (WS.asg s hrs0 w) rfl
/-- x = {.. : .. for ..} -/
theorem ps_setDcG {wi : TI} {tt : TT} {tk tv : TE} (hc : X.calm = true) (hN : X.N.Nodup) (hy : X.N[i]? = some y) (hyl : X.env.scope.names.lookup y = some .local) (hsw : swapsWith (.DictComp kx elt [⟨tg, iter, ifs, 0⟩] scope pos) (some (.Name y py)) spos.line X.env = pure true) (hi : PI X tg iter wi) (ok : BlkOk X.N X.env.scope scope own)
    (hg : ∀ (s : Shared) (H : Hp) (A : Addr) (cl : List (Str × Addr)) (fp : List Addr), PG (X.blk s H scope (compEnvC scope cl A X.env) fp) tg g) (ht : ∀ (s : Shared) (H : Hp) (A : Addr) (cl : List (Str × Addr)) (fp : List Addr), PTs (X.blk s H scope (compEnvC scope cl A X.env) fp) ifs tt)
    (hk : ∀ (s : Shared) (H : Hp) (A : Addr) (cl : List (Str × Addr)) (fp : List Addr), PE (X.blk s H scope (compEnvC scope cl A X.env) fp) kx tk) (he : ∀ (s : Shared) (H : Hp) (A : Addr) (cl : List (Str × Addr)) (fp : List Addr), PE (X.blk s H scope (compEnvC scope cl A X.env) fp) elt tv) (hs : ∀ x, foldedSetIterable iter X.env x = pure x) :
    PS X (.Assign [.Name y py] (.DictComp kx elt [⟨tg, iter, ifs, 0⟩] scope pos) spos) (tAsg (tDc wi g tt tk tv (own.map (·.2))) (gName i)) := by
  refine ⟨fun pins z σ J Ds I0 w => ?_⟩
  rw [exec_Assign_Name_used _ _ _ _ hsw]
  refine wpAny_bind (wpAny_standAt (wpAny_bind ?_))
  show wpAny _ X.A (do let _ ← comprehension (.DictComp kx elt [⟨tg, iter, ifs, 0⟩] scope pos) scope X.env (firstIterPos [⟨tg, iter, ifs, 0⟩] pos) newDict false (eval iter X.env) (some (assign (.Name y py) X.env))) _ _ z
  have w : tDc wi g tt tk tv (own.map (·.2)) σ J (fun x J1 => gName i x σ J1 Ds.nx) := w
  refine wpAny_bind (thn (dc_core (Qf := fun _ z' => SP X pins Ds .next z') hc hN I0 hi ok hg ht hk he hs w fun L A z' ns J' I1 q hn fr => ?_) fun _ z' q => wpAny_pure (wpAny_pure q))
  show wpAny _ _ (assign (.Name y py) X.env (.ref L)) _ _ _
  refine wpAny_assign_Name (store_ok2 (v := V.ref L) I1 hN hy (.inl hyl) rfl (fun z2 I2 ⟨b, sb, hb⟩ => ?_) (.inr hyl))
  obtain ⟨k0, k1, k2, k3, k4, k5⟩ := fr
  have nAb : A ≠ b := by
    intro e
    rcases hb with z | z
    · exact k1 (e.trans z)
    · exact k4 y b z e.symm
  exact ⟨ns, hn.sameBut sb nAb, fun z3 sb3 => ⟨_, J', I2.turned (t' := z2.toks) (fun c o hc e => (sb3.2 c hc).trans e) k0 k1 k3 k4 k5, q⟩⟩
theorem ds_asgDc (hc : X.calm = true) (hN : X.N.Nodup) (hy : X.N[i]? = some y) (hyl : X.env.scope.names.lookup y = some .local) (hrs0 : C.pn i = none) (hal : zeros m al = true) (hsw : swapsWith (.DictComp kx elt [⟨tg, iter, ifs, 0⟩] scope pos) (some (.Name y py)) spos.line X.env = pure true)
    (hi : PI X tg iter (tIV C al fi)) (ok : BlkOk X.N X.env.scope scope own) (hos : own.map (·.2) = os)
    (hg : ∀ (s : Shared) (H : Hp) (A : Addr) (cl : List (Str × Addr)) (fp : List Addr), PG (X.blk s H scope (compEnvC scope cl A X.env) fp) tg g) (tgo : TgOk C X.K g gt os) (hrs : ∀ z' ∈ os, C.pn z' = none) (hsub : ∀ j ∈ alt ++ (alk ++ ale), j ∈ os ++ al)
    (ht : ∀ (s : Shared) (H : Hp) (A : Addr) (cl : List (Str × Addr)) (fp : List Addr), PTs (X.blk s H scope (compEnvC scope cl A X.env) fp) ifs (tET C.in0 alt ft))
    (hk : ∀ (s : Shared) (H : Hp) (A : Addr) (cl : List (Str × Addr)) (fp : List Addr), PE (X.blk s H scope (compEnvC scope cl A X.env) fp) kx (tEV C.in0 nk alk fk))
    (he : ∀ (s : Shared) (H : Hp) (A : Addr) (cl : List (Str × Addr)) (fp : List Addr), PE (X.blk s H scope (compEnvC scope cl A X.env) fp) elt (tEV C.in0 n ale fe)) (hs : ∀ x, foldedSetIterable iter X.env x = pure x := by intro _; rfl) :
    PS X (.Assign [.Name y py] (.DictComp kx elt [⟨tg, iter, ifs, 0⟩] scope pos) spos) (tDS C B kr m (m.set i (n + 1)) (dsAsg i (dDc fi gt ft fk fe))) := by
  subst hos
  exact impPS (ps_unl (ps_setDcG hc hN hy hyl hsw hi ok hg ht hk he hs)) fun Ds σ H ⟨ρ, r, A, L, s, w⟩ => dc_read hsub tgo hrs (s.env (zeros_of hal)) s.rg s.regL (WS.asg s hrs0 w) rfl
end
/-! ### {}, {k: e} -/
def dDict0 : Den := fun _ => M.pure (.dict [])
def dDict1 (fk fv : Den) : Den := fun ρ => M.bind (fk ρ) fun k => M.bind (fv ρ) fun d => M.bind (M.lift (keyOf k)) fun kk => M.pure (.dict [(keyD kk, d)])
section
variable {X : Cx} {C : Ct} {n n1 : Nat} {al al' : List Nat} {fk fv : Den} {k v : Expr} {pos : Pos}
theorem ev_dict0 : PE X (.Dict [] [] pos) (tEV C (n + 1) [] dDict0) := by
  refine impPE pe_dnewK fun σ H Q ⟨ρ, r, L, e, gr, hL, w⟩ p hp => ?_
  have x := Ext.new (o := .dK []) hp
  refine w _ _ x.fr (x.rng gr) ⟨fun _ => False, [p], .dct upd_same (Nat.zero_le _) ⟨rfl, List.nodup_nil⟩ .nil, by simp, fun q hq => ?_, fun _ z => z.elim⟩
  rw [List.mem_singleton.mp hq]
  exact ⟨hp, gr.nr hp⟩
theorem ev_dict1 (hk : PE X k (tEV C n1 al' fk)) (hv : PE X v (tEV C n al fv)) : PE X (.Dict [some k] [v] pos) (tEV C (n + 1) al (dDict1 fk fv)) := by
  refine impPE (pe_disp (pps_cons hk hv pps_nil) rfl rfl (by simp) (by show 1 ≤ 15; decide)) fun σ H Q ⟨ρ, r, L, e, gr, hL, w⟩ p hp => ?_
  have x := Ext.new (o := .dK []) hp
  have nrp := gr.nr hp
  refine tG.ofN (e.on hL x.fr) (x.rng gr) (hL.on x.fr) x.fr w fun d1 r1 v1 H1 q1 f1 g1 o1 e1 hL1 w1 => ?_
  refine tG.of e1 (fun i => id) g1 hL1 (x.fr.trans f1) w1 fun d2 r2 v2 H2 q2 f2 g2 o2 e2 hL2 w2 => ?_
  obtain ⟨L1, k1, _⟩ := Out.view o1
  unfold M.lift at w2
  cases hkk : keyOf d1 with
  | none => rw [hkk] at w2; exact w2.elim
  | some kk =>
    rw [hkk] at w2
    have hd := keyOf_eq hkk
    subst hd
    have hv1 := own_keyD k1
    have fp : H2 p = some (.dK []) := (f1.trans f2) p _ nrp upd_same
    have f02 : Fr C H H2 := x.fr.trans (f1.trans f2)
    obtain ⟨M', as, o1', o2', o3, o4⟩ := o2
    have h1p : H1 p ≠ none := some_on f1 nrp (by rw [upd_same]; exact nofun)
    have nas : ∀ q ∈ as, q ≠ p := fun q hq e => h1p (by rw [← e]; exact (o3 q hq).1)
    have nM : ∀ q, M' q → q ≠ p := fun q hq e => by
      rcases (o4 q hq).2.2.1 with z | z
      · exact (hL q z).2 (by rw [e]; exact hp)
      · exact h1p (by rw [← e]; exact z)
    refine ⟨fp, [(kk, v2)], by rw [hv1]; rfl, by show 1 ≤ 15; decide, ?_⟩
    refine w2 _ _ (fun q u hq e => ?_) (rngD nrp g2) ⟨M', p :: as, .dct upd_same (by show 1 ≤ sizeLine; rw [sizeLine_eq]; decide) ⟨rfl, by simp [mergeK, putK]⟩ (.one (o1'.mono (fun _ h => h) fun q u hq e => ?_)), List.nodup_cons.mpr ⟨fun z => nas p z rfl, o2'⟩, fun q hq => ?_, fun q hq => ?_⟩
    · have : q ≠ p := fun z => by rw [z, hp] at e; cases e
      rw [upd_ne this]
      exact f02 q u hq e
    · rw [upd_ne (hq.elim (nM q) (nas q))]; exact e
    · rcases List.mem_cons.mp hq with z | z
      · rw [z]; exact ⟨hp, nrp⟩
      · exact ⟨none_back (x.fr.trans f1) (o3 q z).2 (o3 q z).1, (o3 q z).2⟩
    · obtain ⟨y1, y2, y3, y4⟩ := o4 q hq
      refine ⟨y1, by rw [upd_ne (nM q hq)]; exact y2, y3.imp id fun z => none_back (x.fr.trans f1) y1 z, fun z => ?_⟩
      rcases List.mem_cons.mp z with z | z
      · exact nM q hq z
      · exact y4 z
end
end DL

/-! DLw: the defs of a text, called by their names. -/
namespace DL
open PySem L2 PySem.Spec PyProof.Rows

theorem passN {X : Cx} {E : XK} : Passes CX0 X E := fun _ _ _ _ _ _ _ h => h.elim
theorem hu64 {k : Nat} {A : Around} (r : Room k A) : A.units + 64 < cLine := r.units
theorem hu65 {k : Nat} {A : Around} (r : Room k A) : A.units + 65 < cLine := by have := r.un; omega
/-- a def that may be called by its name: what it promises -/
structure Cal (P : Program) (w : World) (K : PySem.W.Frag) (mg : Str → Option Value) (base : Heap) (CX : CXT) (cls : Str → Option Value) (fld : Str → Str) (k : Nat) (x : Str) (st : Stmt) (ps : List Str) (g : Sig) (f : Addr) (fd : FuncData) : Prop where
  fn : Fun K x x st f fd
  at_ : mg x = some (.ref f)
  bd : L2.Binds K fd ps []
  ok : FnG P w K mg base CX k f fd ps (spD K cls fld g)
theorem Cal.part {P : Program} {w : World} {K : PySem.W.Frag} {mg : Str → Option Value} {base : Heap} {CX : CXT} {cls : Str → Option Value} {fld : Str → Str} {k : Nat} {x : Str} {st : Stmt} {ps : List Str} {g : Sig} {f : Addr} {fd : FuncData} {den : List D → M D} (F : Cal P w K mg base CX cls fld k x st ps g f fd)
    (h : ∀ ds r, ds.length = g.np → den ds r = .bad ∨ g.den ds r = den ds r) : Cal P w K mg base CX cls fld k x st ps ⟨g.rng, g.np, g.kr, den⟩ f fd := ⟨F.fn, F.at_, F.bd, F.ok.part h⟩
theorem kwb_of {K : PySem.W.Frag} {x qual : Str} {st : Stmt} {f : Addr} {fd : FuncData} {ps ks : List Str} {is : List Nat} {a b : Nat} (F : Fun K x qual st f fd)
    (h : ∀ (kV doc pm : Value) (an : Option Addr) (cdv ct : Value) (us ws : List Value), us.length = a → ws.length = b → bindArgs (PySem.W.fnOf x qual (defArgs st) (defBody st) (defScope st) .none kV doc pm an cdv ct) ⟨us, ks.zip ws⟩ = pure (ps.zip (pick is (us ++ ws)))) : KwB K fd ps ks is a b := by
  obtain ⟨oc, od, kV, doc, pm, an, cdv, ct, osl, rfl, lk, hcd⟩ := F.ex
  exact fun s us ws _ h1 h2 => .of_eq (h kV doc pm an cdv ct us ws h1 h2)
/-- a def in which nothing is raised, by its body -/
theorem cal_of {P : Program} {w : World} {K : PySem.W.Frag} {mg : Str → Option Value} {base : Heap} {cls : Str → Option Value} {fld : Str → Str} {k : Nat} {x : Str} {st : Stmt} {N ps : List Str} {f : Addr} {fd : FuncData} (rng : Bool) (np kr nn : Nat) (fs : DenS) (mr m' : List Nat) (hnn : N.length = nn) (F : Fun K x x st f fd) (hm : mg x = some (.ref f)) (S : FnScope N ps (defScope st)) (hmr : ps.length + mr.length = N.length) (hps : ps.length = np + (if rng = true then 1 else 0))
    (hb : ∀ (kV doc pm : Value) (an : Option Addr) (cdv ct : Value) (us : List Value), us.length = ps.length → bindArgs (PySem.W.fnOf x x (defArgs st) (defBody st) (defScope st) .none kV doc pm an cdv ct) ⟨us, []⟩ = pure (ps.zip us))
    (bd : ∀ (cdv : Value) (A : Around) (out : List Env) (s : Shared) (J : Hp) (T : XK) (ra : Option Addr) (hid : Addr → Option HO) (B : Bs), (A.deeper (envOfC x (defScope st) s.heap.objs.size f cdv)).guards = some [] → Room k (A.deeper (envOfC x (defScope st) s.heap.objs.size f cdv)) → (rng = true → ra.isSome = true) →
      PSs (cxOf CX0 P w K mg base N x (defScope st) f cdv A out s J T).nox (defBody st) (tDS ⟨K, ra, pn0 rng ra, hid, T, cls, fld⟩ B kr (List.replicate ps.length 0 ++ mr) m' fs)) :
    Cal P w K mg base CX0 cls fld (k + 1) x st ps ⟨rng, np, kr, dDef rng nn fs⟩ f fd := by
  subst hnn
  refine ⟨F, hm, F.binds hb, ?_⟩
  obtain ⟨oc, od, kV, doc, pm, an, cdv, ct, osl, rfl, lk, hcd⟩ := F.ex
  exact fnD_of rng np kr fs mr m' hmr lk hcd S hps fun A out s J T ra hid B hG hr hra => (bd cdv A out s J T ra hid B hG hr hra).nox
section
variable {X : Cx} {C : Ct} {CX : CXT} {k kr n n1 j : Nat} {f : Addr} {fd : FuncData} {ps ks : List Str} {st : Stmt} {g : Sig} {x y : Str} {p p' pos : Pos} {e : Expr} {es : List Expr} {kws : List Keyword} {al al' : List Nat} {fs gs : Slots → M (List D)}
theorem ec (F : Cal X.prog X.w X.K X.mg X.base CX C.cls C.fld j x st ps g f fd) (hrng : g.rng = false) (hkr : g.kr = kr) (hj : j ≤ k) (hG : X.A.guards = some []) (hr : Room k X.A) (hx : Passes CX X C.E) (hg : Gl X x) (ha : PA X (e :: es) (tES C n al fs))
    (hdb : (x == ("__debug__" : Str)) = false := by decide) (he : starEach (e :: es) X.env = (false, eval e X.env) :: starEach es X.env := by rfl) (hpl : (backTo pos (starEach es X.env)).any (·.1) = false := by rfl) : PE X (.Call (.Name x p) (e :: es) [] pos) (tEV C kr al (dCall g fs)) := by
  subst hkr
  exact ev_call F.ok hrng hG (hr.mono hj) hg F.at_ F.fn.kp F.bd hx ha hdb he hpl
theorem ecR (F : Cal X.prog X.w X.K X.mg X.base CX C.cls C.fld j x st ps g f fd) (i : Nat) (hrng : g.rng = true) (hkr : g.kr = kr) (hj : j ≤ k) (hra : C.ra.isSome = true) (hrs : C.pn i = C.ra) (hN : X.N[i]? = some y) (hv : Vis X.env.scope y) (hG : X.A.guards = some []) (hr : Room k X.A) (hx : Passes CX X C.E) (hg : Gl X x) (ha : PA X es (tES C n al fs))
    (hd : (y == ("__debug__" : Str)) = false := by decide) (hcd : (y == ("__classdict__" : Str)) = false := by decide) (hdb : (x == ("__debug__" : Str)) = false := by decide) (he : starEach (.Name y p' :: es) X.env = (false, eval (.Name y p') X.env) :: starEach es X.env := by rfl) (hpl : (backTo pos (starEach es X.env)).any (·.1) = false := by rfl) :
    PE X (.Call (.Name x p) (.Name y p' :: es) [] pos) (tEV C kr al (dCall g fs)) := by
  subst hkr
  exact ev_callR F.ok hrng hra hrs hN hv hG (hr.mono hj) hg F.at_ F.fn.kp F.bd hx ha hd hcd hdb he hpl
theorem ec0 (F : Cal X.prog X.w X.K X.mg X.base CX C.cls C.fld j x st ps g f fd) (hrng : g.rng = false) (hkr : g.kr = kr) (hj : j ≤ k) (hG : X.A.guards = some []) (hr : Room k X.A) (hx : Passes CX X C.E) (hg : Gl X x) (hdb : (x == ("__debug__" : Str)) = false := by decide) : PE X (.Call (.Name x p) [] [] pos) (tEV C kr [] (dCall g dNil)) := by
  subst hkr
  exact ev_call0 F.ok hrng hG (hr.mono hj) hg F.at_ F.fn.kp F.bd hx hdb
theorem ecK {is : List Nat} {a b : Nat} (F : Cal X.prog X.w X.K X.mg X.base CX C.cls C.fld j x st ps g f fd) (hrng : g.rng = false) (hkr : g.kr = kr) (hj : j ≤ k) (hG : X.A.guards = some []) (hr : Room k X.A) (hx : Passes CX X C.E) (hg : Gl X x) (hb : KwB X.K fd ps ks is a b) (hla : ∀ ρ r ds r', fs ρ r = .ok ds r' → ds.length = a) (hlb : ∀ ρ r ds r', gs ρ r = .ok ds r' → ds.length = b)
    (ha : PA X (e :: es) (tES C n al fs)) (hkw : PK X kws (tES C n al' gs)) (hall : (backToKw pos (keywordEach kws X.env)).all (·.1.isSome) = true := by rfl) (hks : (backToKw pos (keywordEach kws X.env)).filterMap (·.1) = ks := by rfl) (hdb : (x == ("__debug__" : Str)) = false := by decide)
    (he : starEach (e :: es) X.env = (false, eval e X.env) :: starEach es X.env := by rfl) (hpl : ((backTo pos (starEach (e :: es) X.env)).any (·.1) || (backToKw pos (keywordEach kws X.env)).any (·.1.isNone)) = false := by rfl) : PE X (.Call (.Name x p) (e :: es) kws pos) (tEV C kr (al ++ al') (dCallK g is fs gs)) := by
  subst hkr
  exact ev_callK F.ok hrng hG (hr.mono hj) hg F.at_ F.fn.kp hb hx hla hlb ha hkw hall hks hdb he hpl
theorem ecK0 {is : List Nat} {b : Nat} (F : Cal X.prog X.w X.K X.mg X.base CX C.cls C.fld j x st ps g f fd) (hrng : g.rng = false) (hkr : g.kr = kr) (hj : j ≤ k) (hG : X.A.guards = some []) (hr : Room k X.A) (hx : Passes CX X C.E) (hg : Gl X x) (hb : KwB X.K fd ps ks is 0 b) (hlb : ∀ ρ r ds r', gs ρ r = .ok ds r' → ds.length = b)
    (hkw : PK X kws (tES C n al' gs)) (hall : (backToKw pos (keywordEach kws X.env)).all (·.1.isSome) = true := by rfl) (hks : (backToKw pos (keywordEach kws X.env)).filterMap (·.1) = ks := by rfl) (hdb : (x == ("__debug__" : Str)) = false := by decide)
    (hpl : ((backTo pos (starEach [] X.env)).any (·.1) || (backToKw pos (keywordEach kws X.env)).any (·.1.isNone)) = false := by rfl) : PE X (.Call (.Name x p) [] kws pos) (tEV C kr al' (dCallK g is dNil gs)) := by
  subst hkr
  exact ev_callK0 F.ok hrng hG (hr.mono hj) hg F.at_ F.fn.kp hb hx hlb hkw hall hks hdb hpl
end
/-! ### built-ins by their names -/
section
variable {X : Cx} {C : Ct} {n n1 : Nat} {e e2 : Expr} {es : List Expr} {al : List Nat} {fs : Slots → M (List D)} {p pos : Pos}
theorem eb_len (hg : Gl X "len") (hm : X.mg "len" = none) (ha : PA X [e] (tES C n1 al fs)) (he : starEach [e] X.env = (false, eval e X.env) :: starEach [] X.env := by rfl) : PE X (.Call (.Name "len" p) [e] [] pos) (tEV C n [] (dFn oLen fs)) := ev_callB0 (call_len.or call_lenR) on_len hg hm PySem.boot_len ha (he := he) (hpl := rfl)
theorem eb_int (hg : Gl X "int") (hm : X.mg "int" = none) (ha : PA X [e] (tES C n1 al fs)) (he : starEach [e] X.env = (false, eval e X.env) :: starEach [] X.env := by rfl) : PE X (.Call (.Name "int" p) [e] [] pos) (tEV C n [] (dFn oInt fs)) := ev_callT0 call_int1 on_int hg hm PyProof.Rows.boot_int ha (he := he) (hpl := rfl)
theorem eb_list (hg : Gl X "list") (hm : X.mg "list" = none) (ha : PA X [e] (tES C n1 al fs)) (he : starEach [e] X.env = (false, eval e X.env) :: starEach [] X.env := by rfl) : PE X (.Call (.Name "list" p) [e] [] pos) (tEV C 1 al (dFn oListOf fs)) := ev_callT call_list_of on_listOf hg hm PyProof.Rows.boot_list ha (he := he) (hpl := rfl)
theorem eb_sorted (hg : Gl X "sorted") (hm : X.mg "sorted" = none) (ha : PA X [e] (tES C n1 al fs)) (he : starEach [e] X.env = (false, eval e X.env) :: starEach [] X.env := by rfl) : PE X (.Call (.Name "sorted" p) [e] [] pos) (tEV C (n + 1) [] (dFn oSorted fs)) := ev_callB0 cr_sortedI on_sorted hg hm PyProof.Rows.boot_sorted ha (he := he) (hpl := rfl)
theorem eb_min2 (hc : X.calm = true) (hg : Gl X "min") (hm : X.mg "min" = none) (ha : PA X [e, e2] (tES C n1 al fs)) (he : starEach [e, e2] X.env = (false, eval e X.env) :: starEach [e2] X.env := by rfl) (hpl : (backTo pos (starEach [e2] X.env)).any (·.1) = false := by rfl) : PE X (.Call (.Name "min" p) [e, e2] [] pos) (tEV C n [] (dFn oMin2 fs)) := ev_callB0 (call_min2 hc) on_min2 hg hm PyProof.Rows.boot_min ha (he := he) (hpl := hpl)
theorem eb_max2 (hc : X.calm = true) (hg : Gl X "max") (hm : X.mg "max" = none) (ha : PA X [e, e2] (tES C n1 al fs)) (he : starEach [e, e2] X.env = (false, eval e X.env) :: starEach [e2] X.env := by rfl) (hpl : (backTo pos (starEach [e2] X.env)).any (·.1) = false := by rfl) : PE X (.Call (.Name "max" p) [e, e2] [] pos) (tEV C n [] (dFn oMax2 fs)) := ev_callB0 (call_max2 hc) on_max2 hg hm PyProof.Rows.boot_max ha (he := he) (hpl := hpl)
theorem eb_sum (hc : X.calm = true) (hg : Gl X "sum") (hm : X.mg "sum" = none) (ha : PA X [e] (tES C n1 al fs)) (he : starEach [e] X.env = (false, eval e X.env) :: starEach [] X.env := by rfl) : PE X (.Call (.Name "sum" p) [e] [] pos) (tEV C n [] (dFn oSum fs)) := ev_callB0 (cr_sum hc) on_sum hg hm PyProof.Rows.boot_sum ha (he := he) (hpl := rfl)
theorem eb_all (hc : X.calm = true) (hg : Gl X "all") (hm : X.mg "all" = none) (ha : PA X [e] (tES C n1 al fs)) (he : starEach [e] X.env = (false, eval e X.env) :: starEach [] X.env := by rfl) : PE X (.Call (.Name "all" p) [e] [] pos) (tEV C n [] (dFn oAll fs)) := ev_callB0 (cr_all hc) on_all hg hm PyProof.Rows.boot_all ha (he := he) (hpl := rfl)
theorem eb_repr (hG : X.A.guards = some []) (hu : X.A.units + 65 < cLine) (hg : Gl X "repr") (hm : X.mg "repr" = none) (ha : PA X [e] (tES C n1 al fs)) (he : starEach [e] X.env = (false, eval e X.env) :: starEach [] X.env := by rfl) : PE X (.Call (.Name "repr" p) [e] [] pos) (tEV C n [] (dFn oRepr fs)) := ev_callB0 (cr_repr hG hu) on_repr hg hm PyProof.Rows.boot_repr ha (he := he) (hpl := rfl)
/-- a global int -/
theorem ev_gint {x : Str} {i : Int} (hg : Gl X x) (h : ∃ t, X.mg x = some (.int i t)) (hd : (x == ("__debug__" : Str)) = false := by decide) : PE X (.Name x pos) (tEV C n [] (dC (.int i))) := by
  obtain ⟨t, h⟩ := h
  exact ev_c (pe_glob (v := .int i) hg h ⟨t, rfl⟩ hd) fun _ => .int
end
end DL

/-! DLx: what the printed texts lean on. -/
namespace DL
open PySem L2

/-- how often a while may turn -/
def fuelW : Nat := 1000000
theorem fl_len1 : ∀ (d : D) (ds : List D), fl1 d = some ds → ds.length = [0].length := fun d ds h => by cases h; rfl
theorem fl_len2 {i j : Nat} : ∀ (d : D) (ds : List D), fl2 d = some ds → ds.length = [i, j].length := fun d ds h => by
  unfold fl2 at h
  split at h <;> cases h <;> rfl
theorem fl_len3 {i j k : Nat} : ∀ (d : D) (ds : List D), fl3 d = some ds → ds.length = [i, j, k].length := fun d ds h => by
  unfold fl3 at h
  split at h <;> cases h <;> rfl
def oIAdd : D → D → Option D
  | .int i, .int j => some (.int (i + j))
  | _, _ => none
theorem op2_iadd {C : Ct} {n : Nat} : Op2 w0 C n oIAdd (rI0 fun i j => .int (i + j)) := by
  intro H L M v1 v2 d1 d2 d Q e _ _ _ a b k
  unfold oIAdd at e
  split at e
  · cases e
    exact ⟨_, _, own_int a, own_int b, k _ _ Ext.refl Out.int⟩
  · cases e
theorem pn_all {C : Ct} {os : List Nat} (h : (os.all fun i => (C.pn i).isNone) = true) : ∀ i ∈ os, C.pn i = none := fun i hi => by
  have := List.all_eq_true.mp h i hi
  simpa using this
/-- the names of a comprehension's block, looked through -/
def blkB (N : List Str) (sc scope : Scope) (own : List (Str × Nat)) : Bool :=
  (scope.kind == .function) && (scope.names.all fun y => scope.names.lookup y.1 == some y.2) && (own.all fun p => N[p.2]? == some p.1) &&
  (scope.names.all fun y => !(y.2 == .free) || (sc.names.lookup y.1 == some .cell || sc.names.lookup y.1 == some .free)) &&
  (scope.names.all fun y => !(y.2 == .local || y.2 == .cell) || ((own.map (·.1)).contains y.1 || !(N.contains y.1)))
theorem blk_ok {N : List Str} {sc scope : Scope} {own : List (Str × Nat)} (h : blkB N sc scope own = true) : BlkOk N sc scope own := by
  unfold blkB at h
  simp only [Bool.and_eq_true, List.all_eq_true, Bool.or_eq_true, Bool.not_eq_true', beq_iff_eq, List.contains_iff_mem] at h
  obtain ⟨⟨⟨⟨h1, h2⟩, h3⟩, h4⟩, h5⟩ := h
  refine ⟨by simpa using h1, h2, h3, fun y hy e => ?_, fun y hy e => ?_⟩
  · rcases h4 y hy with z | z
    · rw [e] at z; cases z
    · exact z
  · rcases h5 y hy with z | z
    · rcases e with e | e <;> rw [e] at z <;> cases z
    · rcases z with z | z
      · exact .inl z
      · refine .inr fun q => ?_
        have : N.contains y.1 = true := by simpa using q
        rw [this] at z; cases z
theorem boot_int : bootBuiltins "int" = some (.type "int") := PyProof.Rows.boot_int
theorem boot_bool : bootBuiltins "bool" = some (.type "bool") := PyProof.Rows.boot_bool
theorem boot_list : bootBuiltins "list" = some (.type "list") := PyProof.Rows.boot_list
section
open PySem.Spec PyProof.Rows
variable {X : Cx} {C : Ct} {n n1 : Nat} {al : List Nat} {a b c : Expr} {p p' p2 pos : Pos} {fs : Slots → M (List D)}
theorem vals_step {i : Int} {n : Nat} {acc : Array Value} (h : ItemsOf (fun k v => ∃ t, v = .int (i + k * (-1)) t) acc n) : Vals (((List.range n).map fun k : Nat => i + (k : Int) * (-1)).map V.int) acc.toList := by
  have e : acc.toList.length = n := by rw [Array.length_toList]; exact h.1
  rw [List.map_map, ← e]
  refine vals_of_get acc.toList _ fun k u hk => ?_
  obtain ⟨t, rfl⟩ := h.2 k u (by rw [← hk, Array.getElem?_toList])
  exact ⟨t, rfl⟩
theorem pe_listRg3 {ta : TA} (hc : X.calm = true) (hg : Gl X "list") (hm : X.mg "list" = none) (hg2 : Gl X "range") (hm2 : X.mg "range" = none) (ha : PA X [a, b, c] ta) (hs : starEach [a, b, c] X.env = (false, eval a X.env) :: starEach [b, c] X.env) (hpl : (backTo p' (starEach [b, c] X.env)).any (·.1) = false)
    (ne : starEach [.Call (.Name "range" p) [a, b, c] [] p'] X.env = (false, eval (.Call (.Name "range" p) [a, b, c] [] p') X.env) :: starEach [] X.env) :
    PE X (.Call (.Name "list" p2) [.Call (.Name "range" p) [a, b, c] [] p'] [] pos) (fun σ H Q => ta σ H fun vs H1 => ∃ i j : Int, vs = [.int i, .int j, .int (-1)] ∧ (-(2 ^ 62) ≤ i ∧ i < 2 ^ 62 ∧ -(2 ^ 62) ≤ j ∧ j < 2 ^ 62) ∧ (i - j).toNat ≤ 2 ^ 24 ∧
      ∀ q, H1 q = none → Q (.ref q) (upd H1 q (.lst (((List.range (i - j).toNat).map fun k : Nat => i + (k : Int) * (-1)).map V.int)))) := by
  refine ⟨fun pins z σ J Q I w => ?_⟩
  refine Call_ (ld_blt I hg hm PyProof.Rows.boot_list (PyProof.Rows.callWith_type1 (args_cons ?_ ne) ne))
  refine Call_ (ld_blt I hg2 hm2 boot_range (PyProof.Rows.callWith_type1 (thn (ha.run p' pins z σ J _ I w) fun us z1 ⟨vs, J1, I1, rv, q⟩ => ?_) hs hpl))
  obtain ⟨i, j, e, ⟨b1, b2, b3, b4⟩, b5, q⟩ := q
  subst e
  obtain ⟨u1, u2, u3, rfl, ⟨t1, rfl⟩, ⟨t2, rfl⟩, ⟨t3, rfl⟩⟩ : ∃ u1 u2 u3, us = [u1, u2, u3] ∧ RelV (.int i) u1 ∧ RelV (.int j) u2 ∧ RelV (.int (-1)) u3 := by
    cases rv with
    | cons x1 y1 =>
      cases y1 with
      | cons x2 y2 =>
        cases y2 with
        | cons x3 y3 =>
          cases y3
          exact ⟨_, _, _, rfl, x1, x2, x3⟩
  refine call_range_3 (by decide) ?_ (.inl (PyProof.noPylong_small (by decide)))
  have I2 : Inv X pins σ J1 { z1 with heap := z1.heap.push { cls := .type "range", data := .fields #[.int i t1, .int j t2, .int (-1) t3] } } := I1.kept (t' := z1.toks) fun d o h => Heap.get?_push_of_some _ h
  refine args_nil (call_list_range (n := (i - j).toNat) (I2.ok.hd hc) (IsRange.new ..) (PySem.W.small_down b1 b2 b3 b4) (PySem.W.rangeSize_downNat i j) b5 fun h' tk acc c' hk e' hi => ?_)
  refine ⟨.ref _, _, I2.laid hk (Nat.le_refl _) (show ObjOk X.prog X.w _ _ _ (.lst (((List.range (i - j).toNat).map fun k : Nat => i + (k : Int) * (-1)).map V.int)) from ⟨?_, acc.toList, c', vals_step hi, ?_⟩), rfl, q _ (I2.hok.fresh (Nat.le_refl _))⟩
  · rw [List.length_map, List.length_map, List.length_range, sizeLine_eq]; omega
  · rw [Array.toArray_toList]; exact e'
/-- list(range(a, b, -1)) -/
theorem ev_listRgN (hc : X.calm = true) (hg : Gl X "list") (hm : X.mg "list" = none) (hg2 : Gl X "range") (hm2 : X.mg "range" = none) (ha : PA X [a, b, c] (tES C n1 al fs)) (hs : starEach [a, b, c] X.env = (false, eval a X.env) :: starEach [b, c] X.env := by rfl) (hpl : (backTo p' (starEach [b, c] X.env)).any (·.1) = false := by rfl)
    (ne : starEach [.Call (.Name "range" p) [a, b, c] [] p'] X.env = (false, eval (.Call (.Name "range" p) [a, b, c] [] p') X.env) :: starEach [] X.env := by rfl) :
    PE X (.Call (.Name "list" p2) [.Call (.Name "range" p) [a, b, c] [] p'] [] pos) (tEV C (n + 1) [] (dListRg oRangeN fs)) := by
  refine impPE (pe_listRg3 hc hg hm hg2 hm2 ha hs hpl ne) fun σ H Q ⟨ρ, r, L, ee, gr, hL, w⟩ => ?_
  refine tG.ofN ee gr hL Fr.refl w fun ds r1 vs H1 q1 f1 g1 o1 e1 hL1 w1 => ?_
  obtain ⟨L1, k1, _⟩ := Outs.view o1
  unfold oRangeN at w1
  split at w1
  · rename_i i j c0
    split at w1
    · rename_i z
      obtain ⟨rfl, z1, z2, z3, z4, z5⟩ := z
      obtain ⟨v, u, t, rfl, h, h', h''⟩ := owns3 k1
      have l1 : (2 : Int) ^ 61 < 2 ^ 62 := by decide
      refine ⟨i, j, by rw [own_int h, own_int h', own_int h''], ⟨by omega, by omega, by omega, by omega⟩, by rw [← line24] at z1; exact z1, fun q hq => ?_⟩
      refine w1 _ _ (f1.trans (Ext.new hq).fr) ((Ext.new hq).rng g1) ?_
      rw [show rangeC i (-1) (i - j).toNat = ((List.range (i - j).toNat).map fun k : Nat => i + (k : Int) * (-1)).map PyData.int by unfold rangeC; rw [List.map_map]; rfl]
      exact Out.pre f1 (fun _ z => z.elim) (Out.newInts (L := fun _ => False) ⟨_, g1⟩ hq (by rw [List.length_map, List.length_range]; exact z1))
    · exact w1.elim
  · exact w1.elim
end
end DL

/-! DLy: lists of atoms; a for over a list that a local goes on owning. -/
namespace DL
open PySem L2

/-! ### lists of atoms hang on nothing -/
theorem atom_own {H H' : Hp} {L L' : Addr → Prop} {n n' : Nat} {v : V} {d : D} {as : List Addr} (h : Own H L n v d as) (ha : atomD d = true) : Own H' L' n' v d [] ∧ as = [] := by
  cases h with
  | non => exact ⟨.non, rfl⟩
  | bl => exact ⟨.bl, rfl⟩
  | int => exact ⟨.int, rfl⟩
  | str => exact ⟨.str, rfl⟩
  | _ => cases ha
theorem atoms_own {H H' : Hp} {L L' : Addr → Prop} {n n' : Nat} : ∀ {vs : List V} {ds : List D} {as : List Addr}, Owns H L n vs ds as → ds.all atomD = true → Owns H' L' n' vs ds [] ∧ as = []
  | _, _, _, .nil, _ => ⟨.nil, rfl⟩
  | _, _, _, .cons a b, h => by
    rw [List.all_cons, Bool.and_eq_true] at h
    obtain ⟨h1, rfl⟩ := atom_own (H' := H') (L' := L') (n' := n') a h.1
    obtain ⟨h2, rfl⟩ := atoms_own (H' := H') (L' := L') (n' := n') b h.2
    exact ⟨.cons h1 h2, rfl⟩
def flatD : D → Bool
  | .list ds => ds.all atomD
  | .dict kds => (kds.map (·.2)).all atomD
  | d => atomD d
def dFlat (f : Den) : Den := fun ρ => M.bind (f ρ) fun d => if flatD d = true then M.pure d else M.bad
theorem flat_own {H : Hp} {L L' : Addr → Prop} {n : Nat} {v : V} {d : D} {as : List Addr} (h : Own H L (n + 1) v d as) (hf : flatD d = true) : Own H L' (n + 1) v d as := by
  generalize e : n + 1 = k at h
  cases h with
  | non => exact .non
  | bl => exact .bl
  | int => exact .int
  | str => exact .str
  | hole => exact .hole
  | lst0 _ _ _ _ => cases e
  | lst a b c =>
    obtain ⟨h1, rfl⟩ := atoms_own (H' := H) (L' := L') c hf
    exact .lst a b h1
  | tup _ _ _ _ => cases hf
  | dct0 _ _ _ _ _ => cases e
  | dct a b c d =>
    obtain ⟨h1, rfl⟩ := atoms_own (H' := H) (L' := L') d hf
    exact .dct a b c h1
theorem W.flat {C : Ct} {H : Hp} {L L' : Addr → Prop} {n : Nat} {f : Den} {ρ : Slots} {r : Rg} {Q : V → Hp → Prop} (w : W C H L (O1 C (n + 1)) (dFlat f ρ r) Q) : W C H L' (O1 C (n + 1)) (f ρ r) Q := by
  unfold dFlat M.bind at w
  cases q : f ρ r with
  | bad => rw [q] at w; exact w.elim
  | ex c d r1 => rw [q] at w; exact w
  | ok d r1 =>
    rw [q] at w
    intro v H' f' g' o'
    cases hf : flatD d with
    | false =>
      have w : W C H L (O1 C (n + 1)) ((if flatD d = true then M.pure d else M.bad) r1) Q := w
      rw [hf] at w
      exact w.elim
    | true =>
      have w : W C H L (O1 C (n + 1)) ((if flatD d = true then M.pure d else M.bad) r1) Q := w
      rw [hf] at w
      obtain ⟨M', as, h1, h2, h3, h4⟩ := o'
      exact w v H' f' g' ⟨fun _ => False, as, flat_own h1 hf, h2, h3, fun _ z => z.elim⟩
section
variable {X : Cx} {C : Ct} {B : Bs} {n nk kr i : Nat} {m al alt alk ale os : List Nat} {f fk fe : Den} {fi : Slots → M (List D)} {gt : D → Slots → Option Slots} {ft : Slots → M Bool} {e kx elt tg iter : Expr} {ifs : List Expr} {scope : Scope} {own : List (Str × Nat)} {pos spos py : Pos} {g : TG} {y : Str}
theorem ev_flat (h : PE X e (tEV C (n + 1) al f)) : PE X e (tEV C (n + 1) [] (dFlat f)) := impPE h fun σ H Q ⟨ρ, r, L, ee, gr, hL, w⟩ => ⟨ρ, r, full C H, ee.full, gr, Reg.full, W.flat w⟩
theorem ds_asgLcF (hc : X.calm = true) (hN : X.N.Nodup) (hy : X.N[i]? = some y) (hyl : X.env.scope.names.lookup y = some .local) (hrs0 : C.pn i = none) (hsw : swapsWith (.ListComp elt [⟨tg, iter, ifs, 0⟩] scope pos) (some (.Name y py)) spos.line X.env = pure true)
    (hi : PI X tg iter (tIV C al fi)) (ok : BlkOk X.N X.env.scope scope own) (hos : own.map (·.2) = os)
    (hg : ∀ (s : Shared) (H : Hp) (A : Addr) (cl : List (Str × Addr)) (fp : List Addr), PG (X.blk s H scope (compEnvC scope cl A X.env) fp) tg g) (tgo : TgOk C X.K g gt os) (hrs : ∀ z' ∈ os, C.pn z' = none) (hsub : ∀ j ∈ alt ++ ale, j ∈ os ++ al)
    (ht : ∀ (s : Shared) (H : Hp) (A : Addr) (cl : List (Str × Addr)) (fp : List Addr), PTs (X.blk s H scope (compEnvC scope cl A X.env) fp) ifs (tET C.in0 alt ft))
    (he : ∀ (s : Shared) (H : Hp) (A : Addr) (cl : List (Str × Addr)) (fp : List Addr), PE (X.blk s H scope (compEnvC scope cl A X.env) fp) elt (tEV C.in0 n ale fe)) (hs : ∀ x, foldedSetIterable iter X.env x = pure x := by intro _; rfl) :
    PS X (.Assign [.Name y py] (.ListComp elt [⟨tg, iter, ifs, 0⟩] scope pos) spos) (tDS C B kr m (m.set i (n + 1)) (dsAsg i (dFlat (dLc fi gt ft fe)))) := by
  subst hos
  exact impPS (ps_unl (ps_setLc hc hN hy hyl hsw hi ok hg ht he hs)) fun Ds σ H ⟨ρ, r, A, L, s, w⟩ => lc_read hsub tgo hrs (s.env (al := []) fun _ z => nomatch z).full s.rg Reg.full (WS.asg s hrs0 w).flat rfl
theorem ds_asgDcF (hc : X.calm = true) (hN : X.N.Nodup) (hy : X.N[i]? = some y) (hyl : X.env.scope.names.lookup y = some .local) (hrs0 : C.pn i = none) (hsw : swapsWith (.DictComp kx elt [⟨tg, iter, ifs, 0⟩] scope pos) (some (.Name y py)) spos.line X.env = pure true)
    (hi : PI X tg iter (tIV C al fi)) (ok : BlkOk X.N X.env.scope scope own) (hos : own.map (·.2) = os)
    (hg : ∀ (s : Shared) (H : Hp) (A : Addr) (cl : List (Str × Addr)) (fp : List Addr), PG (X.blk s H scope (compEnvC scope cl A X.env) fp) tg g) (tgo : TgOk C X.K g gt os) (hrs : ∀ z' ∈ os, C.pn z' = none) (hsub : ∀ j ∈ alt ++ (alk ++ ale), j ∈ os ++ al)
    (ht : ∀ (s : Shared) (H : Hp) (A : Addr) (cl : List (Str × Addr)) (fp : List Addr), PTs (X.blk s H scope (compEnvC scope cl A X.env) fp) ifs (tET C.in0 alt ft))
    (hk : ∀ (s : Shared) (H : Hp) (A : Addr) (cl : List (Str × Addr)) (fp : List Addr), PE (X.blk s H scope (compEnvC scope cl A X.env) fp) kx (tEV C.in0 nk alk fk))
    (he : ∀ (s : Shared) (H : Hp) (A : Addr) (cl : List (Str × Addr)) (fp : List Addr), PE (X.blk s H scope (compEnvC scope cl A X.env) fp) elt (tEV C.in0 n ale fe)) (hs : ∀ x, foldedSetIterable iter X.env x = pure x := by intro _; rfl) :
    PS X (.Assign [.Name y py] (.DictComp kx elt [⟨tg, iter, ifs, 0⟩] scope pos) spos) (tDS C B kr m (m.set i (n + 1)) (dsAsg i (dFlat (dDc fi gt ft fk fe)))) := by
  subst hos
  exact impPS (ps_unl (ps_setDcG hc hN hy hyl hsw hi ok hg ht hk he hs)) fun Ds σ H ⟨ρ, r, A, L, s, w⟩ => dc_read hsub tgo hrs (s.env (al := []) fun _ z => nomatch z).full s.rg Reg.full (WS.asg s hrs0 w).flat rfl
end

/-! ### a list that is walked and stays its local's own -/
abbrev Ct.pin (C : Ct) (i : Nat) (a : Addr) (h : Addr → Option HO) : Ct := { C with pn := fun j => if j = i then some a else C.pn j, hid := h }
def gtA (fl : D → Option (List D)) (os : List Nat) : D → Slots → Option Slots := fun d ρ => match fl d with
  | some es => if es.all atomD = true then some (setsD ρ os es) else none
  | none => none
def finP (i : Nat) (xs : List D) : Fl → M Fl
  | .nx ρ' => M.pure (.nx (setS ρ' i (.list xs)))
  | .rt d => M.pure (.rt d)
def dsForP (i : Nat) (fi : Slots → M (List D)) (fl : D → Option (List D)) (os : List Nat) (fb : DenS) : DenS := fun ρ => M.bind (M.lift (lstAt ρ[i]?)) fun xs => M.bind (fi ρ) fun ds => M.bind (forD (gtA fl os) fb ds (ρ.set i none)) (finP i xs)
theorem Sls.unset {H : Hp} {L : Addr → Prop} : ∀ {m : List Nat} {ρ : Slots} {σ : St} {A : List Addr}, Sls H L m ρ σ A → ∀ {i : Nat} {d : D}, ρ[i]? = some (some d) →
    ∃ v k as rest, σ[i]? = some (some v) ∧ m[i]? = some k ∧ Own H L k v d as ∧ A.Perm (as ++ rest) ∧ Sls H L m (ρ.set i none) σ rest
  | _, _, _, _, .nil, i, d, e => by cases e
  | _, _, _, _, @Sls.no _ _ m ms ρ v σ A h, 0, d, e => by cases e
  | _, _, _, _, @Sls.no _ _ m ms ρ v σ A h, i + 1, d, e => by
    obtain ⟨v', k, as, rest, h1, h2, h3, h4, h5⟩ := h.unset (i := i) (d := d) e
    exact ⟨v', k, as, rest, h1, h2, h3, h4, .no h5⟩
  | _, _, _, _, @Sls.has _ _ m ms d0 ρ v σ as A o h, 0, d, e => by
    cases e
    exact ⟨v, m, as, A, rfl, rfl, o, .refl _, .no h⟩
  | _, _, _, _, @Sls.has _ _ m ms d0 ρ v σ as A o h, i + 1, d, e => by
    obtain ⟨v', k, as', rest, h1, h2, h3, h4, h5⟩ := h.unset (i := i) (d := d) e
    refine ⟨v', k, as', as ++ rest, h1, h2, h3, ?_, .has o h5⟩
    refine (List.Perm.append_left as h4).trans ?_
    rw [← List.append_assoc, ← List.append_assoc]
    exact List.Perm.append_right rest List.perm_append_comm
section
variable {X : Cx} {C : Ct} {B : Bs} {kr k i : Nat} {m al os : List Nat} {fb : DenS} {fi : Slots → M (List D)} {fl : D → Option (List D)} {pos : Pos}
/-- while the cells of as are hidden -/
structure Hid (C C' : Ct) (as : List Addr) (H1 : Hp) : Prop where
  ra : C'.ra = C.ra
  no : ∀ p ∈ as, C.nr p
  cls : C'.cls = C.cls
  fld : C'.fld = C.fld
  E : C'.E = C.E
  inn : ∀ p ∈ as, C'.hid p = H1 p
  out : ∀ p, p ∉ as → C'.hid p = C.hid p
  st : ∀ p ∈ as, H1 p ≠ none
theorem Hid.nr {C C' : Ct} {as : List Addr} {H1 : Hp} (h : Hid C C' as H1) {p : Addr} : C'.nr p ↔ C.nr p ∧ p ∉ as := by
  unfold Ct.nr
  rw [h.ra]
  constructor
  · rintro ⟨h1, h2⟩
    have : p ∉ as := fun z => h.st p z (by rw [← h.inn p z]; exact h2)
    exact ⟨⟨h1, by rw [← h.out p this]; exact h2⟩, this⟩
  · rintro ⟨⟨h1, h2⟩, h3⟩
    exact ⟨h1, by rw [h.out p h3]; exact h2⟩
theorem Hid.rng {C C' : Ct} {as : List Addr} {H1 H' : Hp} {r : Rg} (h : Hid C C' as H1) (g : RngAt C' r H') : RngAt C r H' := by
  refine ⟨?_, fun p o q => ?_, fun a ha => ?_⟩
  rotate_right
  · have h1 : C'.ra = some a := h.ra.trans ha
    have h2 := g.2.2 a h1
    have : a ∉ as := fun z => (h.no a z).1 ha
    rw [← h.out a this]; exact h2
  · have := g.1
    unfold RngOf at this ⊢
    rw [h.ra] at this
    exact this
  · have : p ∉ as := fun z => by
      have := (h.no p z).2
      rw [this] at q; cases q
    exact g.2.1 p o (by rw [h.out p this]; exact q)
theorem Hid.fr {C C' : Ct} {as : List Addr} {H1 H0 H' : Hp} (h : Hid C C' as H1) (h0 : ∀ p ∈ as, H0 p = none) (f : Fr C' H0 H') : Fr C H0 H' := fun p o hn e => f p o (h.nr.mpr ⟨hn, fun z => by rw [h0 p z] at e; cases e⟩) e
theorem Hid.out' {C C' : Ct} {as : List Addr} {H1 H H' : Hp} {L : Addr → Prop} {n : Nat} {v : V} {d : D} (h : Hid C C' as H1) (o : Out C' H L H' n v d) : Out C H L H' n v d := by
  obtain ⟨M', bs, a, b, c, e⟩ := o
  exact ⟨M', bs, a, b, fun p hp => ⟨(c p hp).1, (h.nr.mp (c p hp).2).1⟩, fun p hp => ⟨(h.nr.mp (e p hp).1).1, (e p hp).2⟩⟩
theorem Hid.ex {C C' : Ct} {as : List Addr} {H1 H0 : Hp} {c : Str} {d : D} {r : Rg} (h : Hid C C' as H1) (h0 : ∀ p ∈ as, H0 p = none) (w : WEx C H0 c d r) : WEx C' H0 c d r := by
  intro cl dx v H' k1 k2 k3 k4 k5 k6
  rw [h.E]
  rw [h.cls] at k1
  rw [h.fld] at k5
  exact w cl dx v H' k1 (h.fr h0 k2) (h.rng k3) k4 k5 (k6.mono (fun p hp => ⟨(h.nr.mp hp.1).1, hp.2⟩) fun _ _ _ e => e)
theorem zeros_or {al : List Nat} {m : List Nat} {i : Nat} (h : (al.all fun j => j == i || m[j]? == some 0) = true) : ∀ j ∈ al, j = i ∨ m[j]? = some 0 := fun j hj => by
  have := List.all_eq_true.mp h j hj
  simpa using this
theorem ds_forP {tg iter : Expr} {body : List Stmt} {g : TG} (hp : PassesOwn (model X.prog X.w) X.A X.env X.xe) (hc : X.calm = true) (i : Nat) (hm : m[i]? = some (k + 1)) (hpn : C.pn i = none) (hal : (al.all fun j => j == i || m[j]? == some 0) = true) (hos : zeros m os = true) (hrs : ∀ z' ∈ os, C.pn z' = none) (hio : i ∉ os)
    (hi : PI X tg iter (tIVf C al fi)) (hg : PG X tg g) (tgo : TgS X.K g fl os) (hb : ∀ (a : Addr) (h : Addr → Option HO), PSs X body (tDS (C.pin i a h) B kr m m fb)) (hs : ∀ x, foldedSetIterable iter X.env x = pure x := by intro _; rfl) :
    PS X (.For tg iter body [] pos) (tDS C B kr m m (dsForP i fi fl os fb)) := by
  -- the body's reading, whichever way it is pinned
  refine impPS (ps_for (tb := fun D σ H => ∃ a h, tDS (C.pin i a h) B kr m m fb D σ H) hp hc hi hg ⟨fun pins s σ H D I ⟨a, h, q⟩ => (hb a h).run pins s σ H D I q⟩ hs) fun Ds σ H ⟨ρ, r, A, L, s, w⟩ => ?_
  obtain ⟨xs, hxs, w⟩ := WS.lift w
  have hρ := lstAt_eq hxs
  obtain ⟨v0, k0, as, rest, h1, h2, own, pe, slr⟩ := s.sl.unset hρ
  rw [hm] at h2; cases h2
  have ndA : (as ++ rest).Nodup := pe.nodup_iff.mp s.nd
  have nd1 := List.nodup_append.mp ndA
  have inA : ∀ z ∈ as, z ∈ A := fun z hz => pe.mem_iff.mpr (List.mem_append_left _ hz)
  have rA : ∀ z ∈ rest, z ∈ A := fun z hz => pe.mem_iff.mpr (List.mem_append_right _ hz)
  have stA : ∀ z ∈ as, H z ≠ none := fun z hz => s.sl.stands z (inA z hz)
  obtain ⟨a, rfl⟩ : ∃ a, v0 = .ref a := by
    cases own with
    | lst _ _ _ => exact ⟨_, rfl⟩
  refine ⟨ρ, r, fun p => L p ∨ p ∈ as, ⟨fun j d' hj => ?_, fun j b hj => (s.rs j b hj).1, s.sl.lens.1⟩, s.rg, fun p hp => hp.elim (s.regL p) fun z => ⟨(s.own p (inA p z)).1, stA p z⟩, ?_⟩
  · obtain ⟨v, e1, e2, _⟩ := (s.env (al := []) fun _ z => nomatch z).slot j d' hj
    refine ⟨v, e1, e2, fun hja => ?_⟩
    rcases zeros_or hal j hja with z | z
    · subst z
      rw [hρ] at hj; cases hj
      rw [h1] at e1; cases e1
      exact own.view (fun _ => .inl) fun _ => .inr
    · obtain ⟨v', e1', _, e3'⟩ := (s.env (al := [j]) fun q hq => by rw [List.mem_singleton.mp hq]; exact z).slot j d' hj
      rw [e1] at e1'; cases e1'
      exact (e3' List.mem_cons_self).mono (fun _ => .inl) fun _ _ _ e => e
  unfold M.bind at w
  cases q : fi ρ r with
  | bad => rw [q] at w; exact w.elim
  | ex c d r1 => rw [q] at w; exact WEx.inner s w
  | ok ds r1 =>
    simp only [q] at w ⊢
    have w : WS C B kr m A H L Ds (M.bind (forD (gtA fl os) fb ds (ρ.set i none)) (finP i xs) r1) := w
    intro J H1 S Z f1 g1 wk
    have s1 := s.on f1 g1
    have own1 : Own H1 L (k + 1) (.ref a) (.list xs) as := own.mono (fun _ h => h) fun p u hp e => f1 p u (hp.elim (fun z => (s.reg p z).1) fun z => (s.own p (inA p z)).1) e
    have stA1 : ∀ z ∈ as, H1 z ≠ none := fun z hz => some_on f1 (s.own z (inA z hz)).1 (stA z hz)
    have he0 : ∀ z ∈ as, B.He z = none := fun z hz => (s.own z (inA z hz)).2
    have hh : Hid C (C.pin i a fun p => if p ∈ as then H1 p else C.hid p) as H1 := ⟨rfl, fun z hz => (s.own z (inA z hz)).1, rfl, rfl, rfl, fun p hp => if_pos hp, fun p hp => if_neg hp, stA1⟩
    have hpin : ∀ j b, (C.pin i a fun p => if p ∈ as then H1 p else C.hid p).pn j = some b → (j = i ∧ b = a) ∨ C.pn j = some b := fun j b hj => by
      have hj : (if j = i then some a else C.pn j) = some b := hj
      by_cases e : j = i
      · rw [if_pos e] at hj
        exact .inl ⟨e, (Option.some.inj hj).symm⟩
      · rw [if_neg e] at hj
        exact .inr hj
    generalize hC : (C.pin i a fun p => if p ∈ as then H1 p else C.hid p) = C' at hh hpin
    have g1' : RngAt C' r1 H1 := by
      refine ⟨?_, fun p o hpo => ?_, fun b hb => ?_⟩
      · have := g1.1
        unfold RngOf at this ⊢
        rw [hh.ra]; exact this
      · by_cases hpa : p ∈ as
        · rw [hh.inn p hpa] at hpo; exact hpo
        · rw [hh.out p hpa] at hpo; exact g1.2.1 p o hpo
      · have hb := hh.ra.symm.trans hb
        have : b ∉ as := fun z => (hh.no b z).1 hb
        rw [hh.out b this]; exact g1.2.2 b hb
    have slen : i < σ.length := (List.getElem?_eq_some_iff.mp h1).1
    have s2 : SimS C' B m (ρ.set i none) r1 σ H1 rest L := by
      refine ⟨slr.mono (fun _ h => h) fun p u hp e => f1 p u (hp.elim (fun z => (s.reg p z).1) fun z => (s.own p (rA p z)).1) e, nd1.2.1, g1', fun j b hj => ?_, fun p hp => ⟨hh.nr.mpr ⟨(s.own p (rA p hp)).1, fun z => nd1.2.2 p z p hp rfl⟩, (s.own p (rA p hp)).2⟩,
        fun p hp => ⟨hh.nr.mpr ⟨(s1.reg p hp).1, fun z => (s1.reg p hp).2.2.2 (inA p z)⟩, (s1.reg p hp).2.1, (s1.reg p hp).2.2.1, fun z => (s1.reg p hp).2.2.2 (rA p z)⟩, fun p o hn e => s1.base p o (hh.nr.mp hn).1 e⟩
      rcases hpin j b hj with ⟨e1, e2⟩ | e1
      · subst e1 e2
        exact ⟨h1, List.getElem?_set_self (by rw [s.sl.lens.1]; exact slen)⟩
      · have ne : i ≠ j := pn_ne hpn e1
        exact ⟨(s.rs j b e1).1, by rw [List.getElem?_set_ne ne]; exact (s.rs j b e1).2⟩
    have Zr : ∀ p, Z p → p ∉ rest := fun p hp z => by
      rcases (wk.reg p hp).2 with (y | y) | y
      · exact (s.reg p y).2.2.2 (rA p z)
      · exact nd1.2.2 p y p z rfl
      · exact s.sl.stands p (rA p z) y
    -- what stands where the loop is at
    have keepP : ∀ {σ' : L2.St} {ρ' : Slots} {r' : Rg} {H' : Hp} {A' : List Addr} {L' : Addr → Prop}, SimS C' B m ρ' r' σ' H' A' L' → Step C' rest H1 A' H' → ∀ p o, C.nr p → p ∉ rest → H1 p = some o → H' p = some o := fun {σ' ρ' r' H' A' L'} s' st' p o hn hr e => by
      by_cases hpa : p ∈ as
      · exact s'.rg.2.1 p o (by rw [hh.inn p hpa]; exact e)
      · exact st'.st p o (hh.nr.mpr ⟨hn, hpa⟩) hr e
    refine ⟨fun n' t σ' H' => t = ds.length - n' ∧ n' ≤ ds.length ∧ ∃ ρ' r' A' L', SimS C' B m ρ' r' σ' H' A' L' ∧ Step C' rest H1 A' H' ∧ (∀ p, L p → L' p) ∧ S H' ∧ WS C B kr m A H L Ds (M.bind (forD (gtA fl os) fb (ds.drop n') ρ') (finP i xs) r'), ⟨ds.length, rfl, Nat.zero_le _, _, r1, rest, L, s2, Step.refl, fun _ h => h, wk.now, w⟩, ?_⟩
    rintro n' t σ' H' ⟨ht, hi', ρ', r', A', L', s', st', l', hS, w'⟩
    by_cases hlt : n' < ds.length
    · refine .inr ?_
      obtain ⟨hgo, hy⟩ := wk.go n' H' hS hlt
      refine ⟨hgo, fun σ3 H3 => t - 1 = ds.length - (n' + 1) ∧ n' + 1 ≤ ds.length ∧ ∃ ρ' r' A' L', SimS C' B m ρ' r' σ3 H3 A' L' ∧ Step C' rest H1 A' H3 ∧ (∀ p, L p → L' p) ∧ S H3 ∧ WS C B kr m A H L Ds (M.bind (forD (gtA fl os) fb (ds.drop (n' + 1)) ρ') (finP i xs) r'), fun σ3 H3 kk => ⟨t - 1, by omega, kk⟩, fun x H2 hyl => ?_⟩
      obtain ⟨x2, d, hd, ox⟩ := hy x H2 hyl
      have hdrop : ds.drop n' = d :: ds.drop (n' + 1) := by
        rw [List.drop_eq_getElem_cons hlt]
        rw [List.getElem?_eq_getElem hlt] at hd
        cases hd; rfl
      rw [hdrop] at w'
      have s2' := s'.on x2.fr (x2.rng s'.rg)
      have hgt : ∃ es, fl d = some es ∧ es.all atomD = true := by
        cases qd : fl d with
        | none =>
          have : gtA fl os d ρ' = none := by unfold gtA; rw [qd]
          have e : M.bind (forD (gtA fl os) fb (d :: ds.drop (n' + 1)) ρ') (finP i xs) r' = .bad := by
            show M.bind (M.bind (M.lift (gtA fl os d ρ')) _) _ r' = _
            rw [this]; rfl
          rw [e] at w'; exact w'.elim
        | some es =>
          cases qa : es.all atomD with
          | true => exact ⟨es, rfl, qa⟩
          | false =>
            have : gtA fl os d ρ' = none := by unfold gtA; rw [qd]; simp [qa]
            have e : M.bind (forD (gtA fl os) fb (d :: ds.drop (n' + 1)) ρ') (finP i xs) r' = .bad := by
              show M.bind (M.bind (M.lift (gtA fl os d ρ')) _) _ r' = _
              rw [this]; rfl
            rw [e] at w'; exact w'.elim
      obtain ⟨es, qd, qa⟩ := hgt
      have this : gtA fl os d ρ' = some (setsD ρ' os es) := by unfold gtA; rw [qd]; simp [qa]
      have e : M.bind (forD (gtA fl os) fb (d :: ds.drop (n' + 1)) ρ') (finP i xs) r' = M.bind (fb (setsD ρ' os es)) (fun fl' => match fl' with
          | .nx ρ2 => M.bind (forD (gtA fl os) fb (ds.drop (n' + 1)) ρ2) (finP i xs)
          | .rt d => M.pure (.rt d)) r' := by
        show M.bind (M.bind (M.lift (gtA fl os d ρ')) _) _ r' = _
        rw [this]
        show M.bind (M.bind (fb (setsD ρ' os es)) _) _ r' = _
        rw [M.assoc]
        unfold M.bind
        cases fb (setsD ρ' os es) r' with
        | ok fl' r2 => cases fl' <;> rfl
        | _ => rfl
      rw [e] at w'
      refine tgo.run ox qd fun vs ovs hl => ?_
      have ovs' : Owns H2 (fun _ => False) 0 vs es [] := (atoms_own ovs qa).1
      obtain ⟨A3, L3, s3, a3, l3⟩ := s2'.sets (fun z hz => by
        cases hq : C'.pn z with
        | none => rfl
        | some b =>
          rcases hpin z b hq with ⟨e1, _⟩ | e1
          · exact (hio (by rw [← e1]; exact hz)).elim
          · rw [hrs z hz] at e1; cases e1) hos ovs' hl fun _ z => z.elim
      have st3 : Step C' A' H' A3 H2 := ⟨fun p o n _ e => x2 p o e, fun p hp => .inl (a3 p hp)⟩
      have st13 : Step C' rest H1 A3 H2 := st'.trans st3 fun p hp => (s3.own p hp).1
      subst hC
      refine ⟨a, _, setsD ρ' os es, r', A3, L3, s3, ?_⟩
      unfold M.bind at w'
      cases qf : fb (setsD ρ' os es) r' with
      | bad => rw [qf] at w'; exact w'.elim
      | ex c d r2 => rw [qf] at w'; exact hh.ex he0 w'
      | ok fl' r2 =>
        rw [qf] at w'
        cases fl' with
        | nx ρ4 =>
          intro σ4 H4 A4 L4 s4 st4 l4
          have st14 := st13.trans st4 fun p hp => (s4.own p hp).1
          exact ⟨by omega, hlt, ρ4, r2, A4, L4, s4, st14, fun p hp => l4 p (l3 p (l' p hp)), wk.keep _ _ wk.now fun p o hp e => keepP s4 st14 p o (wk.reg p hp).1 (Zr p hp) e, w'⟩
        | rt d =>
          intro v H5 f5 g5 o5 k5
          refine w' v H5 (hh.fr he0 f5) (hh.rng g5) (hh.out' o5) fun p o hn hpA e => ?_
          have hpa : p ∉ as := fun z => hpA (inA p z)
          have hpr : p ∉ rest := fun z => hpA (rA p z)
          have e1 := f1 p o hn e
          have hn' := hh.nr.mpr ⟨hn, hpa⟩
          refine k5 p o hn' (fun z => ?_) (st13.st p o hn' hpr e1)
          rcases st13.ow p z with y | y
          · exact hpr y
          · rw [e1] at y; cases y
    · have hie : n' = ds.length := by omega
      subst hie
      rw [List.drop_length] at w'
      refine .inl ⟨wk.stop H' hS, ?_⟩
      have w' : WS C B kr m A H L Ds (M.pure (.nx (setS ρ' i (.list xs))) r') := w'
      have f' : ∀ p o, C.nr p → p ∉ rest → H1 p = some o → H' p = some o := keepP s' st'
      have sC : SimS C B m ρ' r' σ' H' A' L' := ⟨s'.sl, s'.nd, hh.rng s'.rg, fun j b hj => s'.rs j b (by
        subst hC
        show (if j = i then some a else C.pn j) = some b
        rw [if_neg (pn_ne hpn hj).symm]; exact hj), fun p hp => ⟨(hh.nr.mp (s'.own p hp).1).1, (s'.own p hp).2⟩, fun p hp => ⟨(hh.nr.mp (s'.reg p hp).1).1, (s'.reg p hp).2⟩, hh.fr he0 s'.base⟩
      have hpa : ∀ p ∈ A', p ∈ rest ∨ H1 p = none := st'.ow
      have ownE : Own H' L (k + 1) (.ref a) (.list xs) as := own1.mono (fun _ h => h) fun p u hp e => f' p u (hp.elim (fun z => (s.reg p z).1) fun z => (s.own p (inA p z)).1) (fun z => hp.elim (fun y => (s.reg p y).2.2.2 (rA p z)) fun y => nd1.2.2 p y p z rfl) e
      obtain ⟨A2, L2, s2', a2, l2, _⟩ := sC.putV (M := L) (i := i) (n := k + 1) hpn ownE nd1.1 (fun p hp => ⟨(s.own p (inA p hp)).1, he0 p hp, fun z => (hh.nr.mp (s'.own p z).1).2 hp, fun z => (hh.nr.mp (s'.reg p z).1).2 hp⟩) fun p hp => by
        obtain ⟨y1, y2, y3, y4⟩ := s1.reg p hp
        obtain ⟨o, ho⟩ : ∃ o, H1 p = some o := by
          cases hq : H1 p with
          | none => exact (y2 hq).elim
          | some o => exact ⟨o, rfl⟩
        refine ⟨y1, by rw [f' p o y1 (fun z => y4 (rA p z)) ho]; exact nofun, y3, fun z => y4 (inA p z), fun z => ?_⟩
        rcases hpa p z with y | y
        · exact y4 (rA p y)
        · exact y2 y
      rw [set_same hm] at s2'
      have hσ : σ'[i]? = some (some (.ref a)) := (s'.rs i a (by subst hC; show (if i = i then some a else C.pn i) = some a; rw [if_pos rfl])).1
      rw [set_same hσ] at s2'
      refine w' σ' H' A2 L2 s2' ⟨fun p o hn hp e => f' p o hn (fun z => hp (rA p z)) (f1 p o hn e), fun p hp => ?_⟩ fun p hp => l2 p (l' p hp)
      rcases a2 p hp with z | z
      · rcases hpa p z with y | y
        · exact .inl (rA p y)
        · exact .inr (none_back f1 (hh.nr.mp (s'.own p z).1).1 y)
      · exact .inl (inA p z)
end
end DL

/-! DLz: the drawn numbers' list is read and written. -/
namespace DL
open PySem L2

def rgGet (k : Nat) (r : Int × Int × Bool) : Option D := match k with
  | 0 => some (.int r.1)
  | 1 => some (.int r.2.1)
  | 2 => some (.bool r.2.2)
  | _ => none
def dRng (k : Nat) : Den := fun _ r => match r with
  | some z => match rgGet k z with
    | some d => .ok d r
    | none => .bad
  | none => .bad
def rgSet (k : Nat) (z : Int × Int × Bool) (d : D) : Option (Int × Int × Bool) := match k, d with
  | 0, .int i => some (i, z.2)
  | 1, .int i => some (z.1, i, z.2.2)
  | _, _ => none
def dsRset (k : Nat) (fe : Den) : DenS := fun ρ => M.bind (fe ρ) fun d r => match r with
  | some z => match rgSet k z d with
    | some z' => .ok (.nx ρ) (some z')
    | none => .bad
  | none => .bad
section
variable {X : Cx} {C : Ct} {B : Bs} {kr n n1 j k : Nat} {m al : List Nat} {y : Str} {p p2 pos pos' : Pos} {jj : Nat} {e : Expr} {fe : Den}
theorem RngAt.get {H : Hp} {r : Rg} (g : RngAt C r H) {a : Addr} (h : C.ra = some a) : ∃ x i b, r = some (x, i, b) ∧ H a = some (rgV x i b) := by
  have g := g.1
  unfold RngOf at g
  rw [h] at g
  exact g
theorem ev_rng (k : Nat) (hk : k < 3) (hra : C.ra.isSome = true) (j : Nat) (hrs : C.pn j = C.ra) (hN : X.N[j]? = some y) (hv : Vis X.env.scope y) (hd : (y == ("__debug__" : Str)) = false := by decide) (hcd : (y == ("__classdict__" : Str)) = false := by decide) :
    PE X (.Subscript (.Name y p) (.Constant (.int k) jj p2) pos) (tEV C n [] (dRng k)) := by
  refine impPE (pe_ix ix_list (pe_var hN hv hd hcd) pe_int (fun _ _ => rfl)) fun σ H Q ⟨ρ, r, L, ee, gr, hL, w⟩ => ?_
  cases hra' : C.ra with
  | none => rw [hra'] at hra; cases hra
  | some a =>
  obtain ⟨x, i, b, rfl, ha⟩ := gr.get hra'
  refine ⟨.ref a, ee.rng j a (hrs.trans hra'), ?_⟩
  match k, hk with
  | 0, _ => exact ⟨a, [.int x, .int i, .bl b], 0, .int x, rfl, rfl, SqL.of ha, rfl, w _ _ Fr.refl gr Out.int⟩
  | 1, _ => exact ⟨a, [.int x, .int i, .bl b], 1, .int i, rfl, rfl, SqL.of ha, rfl, w _ _ Fr.refl gr Out.int⟩
  | 2, _ => exact ⟨a, [.int x, .int i, .bl b], 2, .bl b, rfl, rfl, SqL.of ha, rfl, w _ _ Fr.refl gr Out.bl⟩
/-- the list is written: nothing else changes -/
theorem SimS.rset {ρ : Slots} {r r' : Rg} {σ : L2.St} {H : Hp} {A : List Addr} {L : Addr → Prop} (s : SimS C B m ρ r σ H A L) {a : Addr} {o : HO} (hra : C.ra = some a) (g : RngAt C r' (upd H a o)) : SimS C B m ρ r' σ (upd H a o) A L ∧ Step C A H A (upd H a o) := by
  have ne : ∀ p, C.nr p → p ≠ a := fun p hn e => hn.1 (by rw [e]; exact hra)
  have f : Fr C H (upd H a o) := fun p u hn e => by
    rw [upd_ne (ne p hn)]; exact e
  exact ⟨s.on f g, Step.of f⟩
theorem ds_rset (k : Nat) (hk : k < 2) (hra : C.ra.isSome = true) (j : Nat) (hrs : C.pn j = C.ra) (hN : X.N[j]? = some y) (hv : Vis X.env.scope y) (hal : zeros m al = true) (he : PE X e (tEV C n1 al fe))
    (hd : (y == ("__debug__" : Str)) = false := by decide) (hcd : (y == ("__classdict__" : Str)) = false := by decide)
    (hs : swapsWithSole [.Subscript (.Name y p) (.Constant (.int k) jj p2) pos'] e pos.line X.env = pure false := by rfl) (hw : swappedStores [.Subscript (.Name y p) (.Constant (.int k) jj p2) pos'] e X.env = pure none := by rfl)
    (h1 : (assignEach [.Subscript (.Name y p) (.Constant (.int k) jj p2) pos'] X.env).map (·.2) = [assign (.Subscript (.Name y p) (.Constant (.int k) jj p2) pos') X.env] := by rfl)
    (ha : ∀ v, assign (.Subscript (.Name y p) (.Constant (.int k) jj p2) pos') X.env v = (do
      let ov ← holding [v] (eval (.Name y p) X.env)
      let iv ← holding [v, ov] (eval (.Constant (.int k) jj p2) X.env)
      standAt pos'
      holding [v, ov, iv] (setItem ov iv v)
      release [v, ov, iv] []) := by intro _; rfl) :
    PS X (.Assign [.Subscript (.Name y p) (.Constant (.int k) jj p2) pos'] e pos) (tDS C B kr m m (dsRset k fe)) := by
  refine impPS (ps_asg he (pg_sub (pe_var hN hv hd hcd) pe_int set_list ha) hs hw h1) fun Ds σ H ⟨ρ, r, A, L, s, w⟩ => ?_
  cases hra' : C.ra with
  | none => rw [hra'] at hra; cases hra
  | some a =>
  refine stE' s (zeros_of hal) w fun d r1 v H1 q f1 g1 o1 s1 w1 => ?_
  obtain ⟨x, i, b, rfl, ha1⟩ := g1.get hra'
  obtain ⟨L1, k1, _⟩ := Out.view o1
  refine ⟨.ref a, (s1.rs j a (hrs.trans hra')).1, ?_⟩
  have hid := g1.2.2 a hra'
  have fin : ∀ (z' : Int × Int × Bool) (ws : List V), rgSet k (x, i, b) d = some z' → HO.lst ws = rgV z'.1 z'.2.1 z'.2.2 → Ds.nx σ (upd H1 a (.lst ws)) := fun z' ws hz hw => by
    have w1 : WS C B kr m A H L Ds (match rgSet k (x, i, b) d with
      | some z' => Res.ok (.nx ρ) (some z')
      | none => Res.bad) := w1
    rw [hz] at w1
    have g2 : RngAt C (some z') (upd H1 a (.lst ws)) := by
      refine ⟨?_, fun p o hpo => ?_, g1.2.2⟩
      · unfold RngOf
        rw [hra']
        exact ⟨z'.1, z'.2.1, z'.2.2, rfl, by rw [upd_same, hw]⟩
      · rw [upd_ne (fun e => by rw [e, hid] at hpo; cases hpo)]
        exact g1.2.1 p o hpo
    obtain ⟨s2, st2⟩ := s1.rset hra' g2
    exact w1 _ _ _ _ s2 ((Step.of f1).trans st2 fun p hp => (s2.own p hp).1) fun _ h => h
  match k, hk with
  | 0, _ =>
    cases d with
    | int t =>
      rw [own_int k1]
      exact ⟨a, _, 0, 0, rfl, rfl, ha1, rfl, fin (t, i, b) _ rfl rfl⟩
    | _ => exact w1.elim
  | 1, _ =>
    cases d with
    | int t =>
      rw [own_int k1]
      exact ⟨a, _, 1, 1, rfl, rfl, ha1, rfl, fin (x, t, b) _ rfl rfl⟩
    | _ => exact w1.elim
end
end DL

/-! DMa: the law's loop over lists of drawn numbers. -/
namespace DL
open PySem L2

def rgItem : D → Option (Int × Int × Bool)
  | .list [.int x, .int k, .bool b] => some (x, k, b)
  | _ => none
def rgsL : List D → Option (List (Int × Int × Bool))
  | [] => some []
  | d :: ds => match rgItem d, rgsL ds with
    | some z, some zs => some (z :: zs)
    | _, _ => none
def rgsD : D → Option (List (Int × Int × Bool))
  | .list ds => rgsL ds
  | _ => none
def forRD (j : Nat) (fb : DenS) : List (Int × Int × Bool) → DenS
  | [] => fun ρ => M.pure (.nx ρ)
  | z :: zs => fun ρ r => match fb (ρ.set j none) (some z) with
    | .ok (.nx ρ') _ => forRD j fb zs ρ' r
    | .ok (.rt d) _ => .ok (.rt d) r
    | .ex c d _ => .ex c d r
    | .bad => .bad
def dsForR (j : Nat) (fe : Den) (fb : DenS) : DenS := fun ρ => M.bind (fe ρ) fun d => M.bind (M.lift (rgsD d)) fun zs => forRD j fb zs ρ
abbrev Ct.rng (C : Ct) (j : Nat) (a : Addr) (h : Addr → Option HO) : Ct := { C with ra := some a, pn := fun i => if i = j then some a else C.pn i, hid := h }
abbrev Ct.stg (C : Ct) (h : Addr → Option HO) : Ct := { C with hid := h }
theorem rgs_own {H : Hp} {L : Addr → Prop} : ∀ {ds : List D} {zs : List (Int × Int × Bool)} {vs : List V} {as : List Addr}, rgsL ds = some zs → Owns H L 1 vs ds as → vs = as.map V.ref ∧ as.length = zs.length ∧ ∀ (i : Nat) (z : Int × Int × Bool), zs[i]? = some z → ∃ a, as[i]? = some a ∧ H a = some (rgV z.1 z.2.1 z.2.2)
  | [], zs, _, _, e, h => by
    cases e; cases h
    exact ⟨rfl, rfl, fun i z q => by cases q⟩
  | d :: ds, zs, _, _, e, h => by
    unfold rgsL at e
    cases q1 : rgItem d with
    | none => simp [q1] at e
    | some z0 =>
      cases q2 : rgsL ds with
      | none => simp [q1, q2] at e
      | some zs0 =>
        simp only [q1, q2, Option.some.injEq] at e
        subst e
        generalize hn : (1 : Nat) = n at h
        cases h with
        | @cons _ v vs _ _ bs cs a b =>
          subst hn
          obtain ⟨e1, e2, e3⟩ := rgs_own q2 b
          unfold rgItem at q1
          split at q1
          · rename_i x k bb
            cases q1
            cases a with
            | @lst _ p ws _ ds0 c1 c2 c3 =>
              obtain ⟨f1, rfl⟩ := atoms_own (H' := H) (L' := L) (n' := 0) c3 rfl
              obtain ⟨v1, v2, v3, rfl, g1, g2, g3⟩ := owns3 f1
              rw [own_int g1, own_int g2, own_bl g3] at c1
              refine ⟨by rw [e1]; rfl, by simp [e2], fun i z hz => ?_⟩
              cases i with
              | zero => cases hz; exact ⟨p, rfl, c1⟩
              | succ i => exact e3 i z hz
          · cases q1
/-- a slot is emptied of data, whatever it held -/
theorem Sls.force {H : Hp} {L : Addr → Prop} : ∀ {m : List Nat} {ρ : Slots} {σ : St} {A : List Addr}, Sls H L m ρ σ A → ∀ (i : Nat) (v : Option V), ∃ as A', A.Perm (as ++ A') ∧ Sls H L m (ρ.set i none) (σ.set i v) A'
  | _, _, _, _, .nil, i, v => ⟨[], [], .refl _, .nil⟩
  | _, _, _, _, .no h, 0, v => ⟨[], _, .refl _, .no h⟩
  | _, _, _, _, .no h, i + 1, v => by
    obtain ⟨as, A', h1, h2⟩ := h.force i v
    exact ⟨as, A', h1, .no h2⟩
  | _, _, _, _, .has o h, 0, v => ⟨_, _, .refl _, .no h⟩
  | _, _, _, _, @Sls.has _ _ m ms d0 ρ v0 σ bs A o h, i + 1, v => by
    obtain ⟨as, A', h1, h2⟩ := h.force i v
    refine ⟨as, bs ++ A', ?_, .has o h2⟩
    refine (List.Perm.append_left bs h1).trans ?_
    rw [← List.append_assoc, ← List.append_assoc]
    exact List.Perm.append_right A' List.perm_append_comm
section
variable {X : Cx} {C : Ct} {B : Bs} {kr : Nat} {m al : List Nat} {fb : DenS} {fe : Den} {y : Str} {py pos : Pos}
theorem ds_forR {iter : Expr} {body : List Stmt} (hp : PassesOwn (model X.prog X.w) X.A X.env X.xe) (hc : X.calm = true) (hN : X.N.Nodup) (j : Nat) (hj : X.N[j]? = some y) (hy : Loc X.env.scope y) (hra : C.ra = none) (hpn : C.pn j = none) (hmj : (m[j]?).isSome = true) (hal : zeros m al = true) (he : PE X iter (tEV C 2 al fe))
    (hb : ∀ (a : Addr) (h : Addr → Option HO), PSs X body (tDS (C.rng j a h) B kr m m fb)) (hs : ∀ x, foldedSetIterable iter X.env x = pure x := by intro _; rfl)
    (hf : X.fn y = true ∨ X.env.scope.names.lookup y = some .local := by first | exact .inl rfl | exact .inr rfl | assumption) :
    PS X (.For (.Name y py) iter body [] pos) (tDS C B kr m m (dsForR j fe fb)) := by
  refine impPS (ps_for (tb := fun D σ H => ∃ a h, tDS (C.rng j a h) B kr m m fb D σ H) hp hc (pi_list he) (pg_name hN hj hy hf) ⟨fun pins s σ H D I ⟨a, h, q⟩ => (hb a h).run pins s σ H D I q⟩ hs) fun Ds σ H ⟨ρ, r, A, L, s, w⟩ => ?_
  refine stE' s (zeros_of hal) w fun d r1 v H1 q f1 g1 o1 s1 w1 => ?_
  obtain ⟨zs, hzs, w2⟩ := WS.lift w1
  clear w w1
  cases d with
  | list ds =>
    have hzs : rgsL ds = some zs := hzs
    obtain ⟨L1, as, ow, nda, o3, o4⟩ := o1
    have hr1 : r1 = none := by
      have := g1.1
      unfold RngOf at this
      rw [hra] at this; exact this
    subst hr1
    generalize hn : (2 : Nat) = n2 at ow
    cases ow with
    | lst0 _ _ _ _ => cases hn
    | @lst n p ws _ ads c1 c2 c3 =>
      cases hn
      obtain ⟨ew, el, ecell⟩ := rgs_own hzs c3
      subst ew
      have ndp := List.nodup_cons.mp nda
      have np := o3 p List.mem_cons_self
      have na : ∀ a ∈ ads, H a = none ∧ C.nr a := fun a ha => o3 a (List.mem_cons_of_mem _ ha)
      have stn : ∀ a ∈ ads, H1 a ≠ none := fun a ha => c3.stands a ha
      -- what is hidden from the i-th turn on
      let hd : Nat → Addr → Option HO := fun i q => if q = p then H1 p else if q ∈ ads.drop i then H1 q else C.hid q
      have hdp : ∀ i, hd i p = H1 p := fun i => if_pos rfl
      have hda : ∀ i q, q ∈ ads.drop i → hd i q = H1 q := fun i q hq => by
        have : q ≠ p := fun e => ndp.1 (by rw [← e]; exact List.mem_of_mem_drop hq)
        show (if q = p then H1 p else if q ∈ ads.drop i then H1 q else C.hid q) = _
        rw [if_neg this, if_pos hq]
      have hdo : ∀ i q, q ≠ p → q ∉ ads.drop i → hd i q = C.hid q := fun i q h1 h2 => by
        show (if q = p then H1 p else if q ∈ ads.drop i then H1 q else C.hid q) = _
        rw [if_neg h1, if_neg h2]
      have nrS : ∀ i q, (C.stg (hd i)).nr q ↔ C.nr q ∧ q ≠ p ∧ q ∉ ads.drop i := fun i q => by
        constructor
        · rintro ⟨h1, h2⟩
          have h2 : hd i q = none := h2
          have e1 : q ≠ p := fun e => by rw [e, hdp, c1] at h2; cases h2
          have e2 : q ∉ ads.drop i := fun z => stn q (List.mem_of_mem_drop z) (by rw [← hda i q z]; exact h2)
          exact ⟨⟨h1, by rw [← hdo i q e1 e2]; exact h2⟩, e1, e2⟩
        · rintro ⟨⟨h1, h2⟩, e1, e2⟩
          exact ⟨h1, (hdo i q e1 e2).trans h2⟩
      have nrR : ∀ i a q, ads[i]? = some a → ((C.rng j a (hd (i + 1))).nr q ↔ (C.stg (hd i)).nr q) := fun i a q ha => by
        rw [nrS]
        have hdr : ads.drop i = a :: ads.drop (i + 1) := by
          have hlt := (List.getElem?_eq_some_iff.mp ha).1
          rw [List.drop_eq_getElem_cons hlt]
          rw [List.getElem?_eq_getElem hlt] at ha
          cases ha; rfl
        have haa : a ∈ ads := List.mem_of_getElem? ha
        rw [hdr, List.mem_cons]
        constructor
        · rintro ⟨h1, h2⟩
          have h1 : some a ≠ some q := h1
          have h2 : hd (i + 1) q = none := h2
          have e0 : q ≠ a := fun e => h1 (by rw [e])
          have e1 : q ≠ p := fun e => by rw [e, hdp, c1] at h2; cases h2
          have e2 : q ∉ ads.drop (i + 1) := fun z => stn q (List.mem_of_mem_drop z) (by rw [← hda (i + 1) q z]; exact h2)
          exact ⟨⟨by rw [hra]; exact nofun, by rw [← hdo (i + 1) q e1 e2]; exact h2⟩, e1, fun z => z.elim e0 e2⟩
        · rintro ⟨⟨h1, h2⟩, e1, e2⟩
          have e0 : q ≠ a := fun e => e2 (.inl e)
          exact ⟨fun (z : some a = some q) => e0 (Option.some.inj z).symm, (hdo (i + 1) q e1 fun z => e2 (.inr z)).trans h2⟩
      have hid0 : ∀ q, C.hid q ≠ none → q ≠ p ∧ q ∉ ads := fun q hq => ⟨fun e => hq (by rw [e]; exact np.2.2), fun z => hq (na q z).2.2⟩
      have toC : ∀ {i : Nat} {H' : Hp}, (∀ q o, hd i q = some o → H' q = some o) → RngAt C none H' := fun {i H'} g => by
        refine ⟨?_, fun q o hq => ?_, fun b hb => by rw [hra] at hb; cases hb⟩
        · unfold RngOf
          rw [hra]
        · obtain ⟨e1, e2⟩ := hid0 q (by rw [hq]; exact nofun)
          exact g q o (by rw [hdo i q e1 fun z => e2 (List.mem_of_mem_drop z)]; exact hq)
      have heN : ∀ q, H q = none → C.nr q → B.He q = none := fun q h1 h2 => none_back s.base h2 h1
      have hepa : ∀ q o, B.He q = some o → q ≠ p ∧ q ∉ ads := fun q o hq => ⟨fun e => (by rw [e, heN p np.1 np.2] at hq; cases hq), fun z => (by rw [heN q (na q z).1 (na q z).2] at hq; cases hq)⟩
      have hpa : ∀ q o, H q = some o → q ≠ p ∧ q ∉ ads := fun q o hq => ⟨fun e => (by rw [e, np.1] at hq; cases hq), fun z => (by rw [(na q z).1] at hq; cases hq)⟩
      have jlt : j < m.length := by
        cases hq : m[j]? with
        | none => rw [hq] at hmj; cases hmj
        | some k => exact (List.getElem?_eq_some_iff.mp hq).1
      have c1' : H1 p = some (.lst (ads.map V.ref)) := c1
      refine ⟨p, rfl, ⟨_, SqL.of c1'⟩, fun n' t σ' H' => t = zs.length - n' ∧ n' ≤ zs.length ∧ ∃ ρ' A' L', SimS (C.stg (hd n')) B m ρ' none σ' H' A' L' ∧ Step C A H A' H' ∧ (∀ p, L p → L' p) ∧ WS C B kr m A H L Ds (forRD j fb (zs.drop n') ρ' none), ⟨zs.length, rfl, Nat.zero_le _, ρ, A, L, ⟨s1.sl, s1.nd, ⟨?_, fun q o hq => ?_, fun b hb => ?_⟩, s1.rs, fun q hq => ?_, fun q hq => ?_, fun q o hq e => s1.base q o ((nrS 0 q).mp hq).1 e⟩, Step.of f1, fun _ h => h, w2⟩, ?_⟩
      · unfold RngOf
        show (match C.ra with | none => (none : Rg) = none | some a => _)
        rw [hra]
      · by_cases e1 : q = p
        · have hq : hd 0 q = some o := hq
          rw [e1, hdp] at hq
          rw [e1]; exact hq
        · by_cases e2 : q ∈ ads.drop 0
          · have hq : hd 0 q = some o := hq
            rw [hda 0 q e2] at hq; exact hq
          · have hq : hd 0 q = some o := hq
            rw [hdo 0 q e1 e2] at hq
            exact g1.2.1 q o hq
      · have hb : C.ra = some b := hb
        rw [hra] at hb; cases hb
      · have st := s.sl.stands q hq
        obtain ⟨o, ho⟩ : ∃ o, H q = some o := by
          cases hq : H q with
          | none => exact (st hq).elim
          | some o => exact ⟨o, rfl⟩
        obtain ⟨e1, e2⟩ := hpa q o ho
        exact ⟨(nrS 0 q).mpr ⟨(s1.own q hq).1, e1, fun z => e2 (List.mem_of_mem_drop z)⟩, (s1.own q hq).2⟩
      · obtain ⟨o, ho⟩ : ∃ o, H q = some o := by
          cases hh : H q with
          | none => exact ((s.reg q hq).2.1 hh).elim
          | some o => exact ⟨o, rfl⟩
        obtain ⟨e1, e2⟩ := hpa q o ho
        exact ⟨(nrS 0 q).mpr ⟨(s1.reg q hq).1, e1, fun z => e2 (List.mem_of_mem_drop z)⟩, (s1.reg q hq).2⟩
      rintro n' t σ' H' ⟨ht, hi', ρ', A', L', s', st', l', w'⟩
      have hp' : H' p = some (.lst (ads.map V.ref)) := s'.rg.2.1 p _ ((hdp n').trans c1')
      by_cases hlt : n' < zs.length
      · refine .inr ?_
        obtain ⟨a, ha, hcell⟩ := ecell n' zs[n'] (List.getElem?_eq_getElem hlt)
        have haa : a ∈ ads := List.mem_of_getElem? ha
        have alt' : n' < ads.length := by rw [el]; exact hlt
        have hdr : ads.drop n' = a :: ads.drop (n' + 1) := by
          rw [List.drop_eq_getElem_cons alt']
          rw [List.getElem?_eq_getElem alt'] at ha
          cases ha; rfl
        have hdz : zs.drop n' = zs[n'] :: zs.drop (n' + 1) := List.drop_eq_getElem_cons hlt
        have ndd : (a :: ads.drop (n' + 1)).Nodup := by rw [← hdr]; exact ndp.2.sublist (List.drop_sublist _ _)
        have hvn : (ads.map V.ref)[n']? = some (.ref a) := by rw [List.getElem?_map, ha]; rfl
        rw [hdz] at w'
        generalize hz : zs[n'] = z at w' hcell
        refine ⟨⟨_, .ref a, SqL.of hp', hvn⟩, fun σ3 H3 => t - 1 = zs.length - (n' + 1) ∧ n' + 1 ≤ zs.length ∧ ∃ ρ' A' L', SimS (C.stg (hd (n' + 1))) B m ρ' none σ3 H3 A' L' ∧ Step C A H A' H3 ∧ (∀ p, L p → L' p) ∧ WS C B kr m A H L Ds (forRD j fb (zs.drop (n' + 1)) ρ' none), fun σ3 H3 kk => ⟨t - 1, by omega, kk⟩, fun x H2 hyl => ?_⟩
        obtain ⟨rfl, hyl⟩ := hyl
        have hx := hyl _ (SqL.of hp')
        rw [hvn] at hx; cases hx
        obtain ⟨as0, A3, pe3, sl3⟩ := s'.sl.force j (some (.ref a))
        have iA : ∀ q ∈ A3, q ∈ A' := fun q hq => pe3.mem_iff.mpr (List.mem_append_right _ hq)
        have anp : a ≠ p := fun e => ndp.1 (by rw [← e]; exact haa)
        have nand : a ∉ ads.drop (n' + 1) := (List.nodup_cons.mp ndd).1
        have ain : a ∈ ads.drop n' := by rw [hdr]; exact List.mem_cons_self
        have nrr : ∀ q, (C.rng j a (hd (n' + 1))).nr q ↔ (C.stg (hd n')).nr q := fun q => nrR n' a q ha
        have s3 : SimS (C.rng j a (hd (n' + 1))) B m (ρ'.set j none) (some z) (σ'.set j (some (.ref a))) H2 A3 L' := by
          refine ⟨sl3, (List.nodup_append.mp (pe3.nodup_iff.mp s'.nd)).2.1, ⟨⟨z.1, z.2.1, z.2.2, rfl, s'.rg.2.1 a _ ((hda n' a ain).trans hcell)⟩, fun q o hq => ?_, fun b hb => ?_⟩, fun i b hib => ?_, fun q hq => ⟨(nrr q).mpr (s'.own q (iA q hq)).1, (s'.own q (iA q hq)).2⟩, fun q hq => ⟨(nrr q).mpr (s'.reg q hq).1, (s'.reg q hq).2.1, (s'.reg q hq).2.2.1, fun z => (s'.reg q hq).2.2.2 (iA q z)⟩, fun q o hq e => s'.base q o ((nrr q).mp hq) e⟩
          · have hq : hd (n' + 1) q = some o := hq
            refine s'.rg.2.1 q o ?_
            show hd n' q = some o
            by_cases e1 : q = p
            · rw [e1, hdp] at hq
              rw [e1, hdp]; exact hq
            · by_cases e2 : q ∈ ads.drop (n' + 1)
              · rw [hda _ q e2] at hq
                rw [hda n' q (by rw [hdr]; exact List.mem_cons_of_mem _ e2)]; exact hq
              · rw [hdo _ q e1 e2] at hq
                have e3 : q ≠ a := fun e => by rw [e, (na a haa).2.2] at hq; cases hq
                rw [hdo n' q e1 (by rw [hdr, List.mem_cons]; exact fun y => y.elim e3 e2)]; exact hq
          · have hb : some a = some b := hb
            cases hb
            exact (hdo (n' + 1) a anp nand).trans (na a haa).2.2
          · have hib : (if i = j then some a else C.pn i) = some b := hib
            by_cases e : i = j
            · rw [if_pos e] at hib
              cases hib
              rw [e]
              exact ⟨List.getElem?_set_self (by rw [← s'.sl.lens.2]; exact jlt), List.getElem?_set_self (by rw [s'.sl.lens.1, ← s'.sl.lens.2]; exact jlt)⟩
            · rw [if_neg e] at hib
              obtain ⟨y1, y2⟩ := s'.rs i b hib
              exact ⟨by rw [List.getElem?_set_ne (Ne.symm e)]; exact y1, by rw [List.getElem?_set_ne (Ne.symm e)]; exact y2⟩
        -- what stood at the beginning stands
        have keepH : ∀ {H5 : Hp}, (∀ q o, (C.rng j a (hd (n' + 1))).nr q → q ∉ A3 → H2 q = some o → H5 q = some o) → ∀ q o, C.nr q → q ∉ A → H q = some o → H5 q = some o := fun {H5} k q o hn hqA e => by
          obtain ⟨e1, e2⟩ := hpa q o e
          refine k q o ((nrr q).mpr ((nrS n' q).mpr ⟨hn, e1, fun z => e2 (List.mem_of_mem_drop z)⟩)) (fun z => ?_) (st'.st q o hn hqA e)
          rcases st'.ow q (iA q z) with y | y
          · exact hqA y
          · rw [e] at y; cases y
        refine ⟨a, hd (n' + 1), ρ'.set j none, some z, A3, L', s3, ?_⟩
        have w' : WS C B kr m A H L Ds (match fb (ρ'.set j none) (some z) with
          | .ok (.nx ρ') _ => forRD j fb (zs.drop (n' + 1)) ρ' none
          | .ok (.rt d) _ => .ok (.rt d) none
          | .ex c d _ => .ex c d none
          | .bad => .bad) := w'
        have frC : ∀ {H5 : Hp}, Fr (C.rng j a (hd (n' + 1))) B.He H5 → Fr C B.He H5 := fun {H5} f q o hn e => by
          obtain ⟨e1, e2⟩ := hepa q o e
          exact f q o ((nrr q).mpr ((nrS n' q).mpr ⟨hn, e1, fun z => e2 (List.mem_of_mem_drop z)⟩)) e
        have nrC : ∀ q, (C.rng j a (hd (n' + 1))).nr q → C.nr q := fun q hq => ((nrS n' q).mp ((nrr q).mp hq)).1
        cases qf : fb (ρ'.set j none) (some z) with
        | bad => rw [qf] at w'; exact w'.elim
        | ex c d r2 =>
          rw [qf] at w'
          intro cl dx v H5 k1 k2 k3 k4 k5 k6
          exact w' cl dx v H5 k1 (frC k2) (toC k3.2.1) k4 k5 (k6.mono (fun q hq => ⟨nrC q hq.1, hq.2⟩) fun _ _ _ e => e)
        | ok fl' r2 =>
          rw [qf] at w'
          cases fl' with
          | nx ρ4 =>
            intro σ4 H4 A4 L4 s4 st4 l4
            refine ⟨by omega, hlt, ρ4, A4, L4, ⟨s4.sl, s4.nd, ⟨?_, s4.rg.2.1, fun b hb => ?_⟩, fun i b hib => ?_, fun q hq => ⟨⟨by rw [show (C.stg (hd (n' + 1))).ra = none from hra]; exact nofun, (s4.own q hq).1.2⟩, (s4.own q hq).2⟩, fun q hq => ⟨⟨by rw [show (C.stg (hd (n' + 1))).ra = none from hra]; exact nofun, (s4.reg q hq).1.2⟩, (s4.reg q hq).2⟩, fun q o hq e => ?_⟩, ⟨fun q o hn hqA e => keepH st4.st q o hn hqA e, fun q hq => ?_⟩, fun q hq => l4 q (l' q hq), w'⟩
            · unfold RngOf
              show (match C.ra with | none => (none : Rg) = none | some a => _)
              rw [hra]
            · have hb : C.ra = some b := hb
              rw [hra] at hb; cases hb
            · exact s4.rs i b (by
                show (if i = j then some a else C.pn i) = some b
                rw [if_neg (pn_ne hpn hib).symm]; exact hib)
            · obtain ⟨e1, e2⟩ := hepa q o e
              refine s4.base q o ((nrr q).mpr ((nrS n' q).mpr ⟨((nrS (n' + 1) q).mp hq).1, e1, fun z => e2 (List.mem_of_mem_drop z)⟩)) e
            · by_cases hqA : q ∈ A
              · exact .inl hqA
              · refine .inr ?_
                rcases st4.ow q hq with y | y
                · exact (st'.ow q (iA q y)).resolve_left hqA
                · cases hh : H q with
                  | none => rfl
                  | some o =>
                    rw [st'.st q o (nrC q (s4.own q hq).1) hqA hh] at y; cases y
          | rt d =>
            intro v H5 f5 g5 o5 k5
            obtain ⟨M', bs, y1, y2, y3, y4⟩ := o5
            exact w' v H5 (frC f5) (toC g5.2.1) ⟨M', bs, y1, y2, fun q hq => ⟨(y3 q hq).1, nrC q (y3 q hq).2⟩, fun q hq => ⟨nrC q (y4 q hq).1, (y4 q hq).2⟩⟩ (keepH k5)
      · have hie : n' = zs.length := by omega
        subst hie
        rw [List.drop_length] at w'
        refine .inl ⟨⟨_, SqL.of hp', by rw [List.length_map, el]; exact Nat.le_refl _⟩, ?_⟩
        refine w' σ' H' A' L' ⟨s'.sl, s'.nd, toC s'.rg.2.1, s'.rs, fun q hq => ⟨((nrS _ q).mp (s'.own q hq).1).1, (s'.own q hq).2⟩, fun q hq => ⟨((nrS _ q).mp (s'.reg q hq).1).1, (s'.reg q hq).2⟩, fun q o hn e => ?_⟩ st' l'
        obtain ⟨e1, e2⟩ := hepa q o e
        exact s'.base q o ((nrS _ q).mpr ⟨hn, e1, fun z => e2 (List.mem_of_mem_drop z)⟩) e
  | none => cases hzs
  | bool _ => cases hzs
  | int _ => cases hzs
  | str _ => cases hzs
  | tuple _ => cases hzs
  | dict _ => cases hzs
end
end DL

/-! DMb: the script; the law's own def; its end. -/
namespace DL
open PySem L2 PySem.Spec PyProof.Rows

/-- script[:k] -/
def dScr (k : Nat) (ns : List Int) : Den := fun _ => M.pure (.list (dcut (ns.map PyData.int) none (some (k : Int))))
theorem ev_scr {X : Cx} {C : Ct} {j k jj : Nat} {a : Addr} {ns : List Int} {y : Str} {p p2 p3 pos : Pos} (hscr : ∀ (r : Rg) (H : Hp), RngAt C r H → SqL X.K H a (ns.map V.int)) (hz : ns.length ≤ sizeLine) (hpn : C.pn j = some a) (hN : X.N[j]? = some y) (hv : Vis X.env.scope y) (hd : (y == ("__debug__" : Str)) = false := by decide) (hcd : (y == ("__classdict__" : Str)) = false := by decide) :
    PE X (.Subscript (.Name y p) (.Slice none (some (.Constant (.int k) jj p2)) none p3) pos) (tEV C 1 [] (dScr k ns)) := by
  refine impPE (pe_slice sl_list (pe_var hN hv hd hcd) po_none (po_some pe_int)) fun σ H Q ⟨ρ, r, L, ee, gr, hL, w⟩ => ?_
  refine ⟨.ref a, ee.rng j a hpn, (k : Int), rfl, a, ns.map V.int, rfl, hscr r H gr, fun u hu => ?_⟩
  have x := Ext.new (o := .lst (cutV (ns.map V.int) none (some (k : Int)))) hu
  refine w _ _ x.fr (x.rng gr) (Out.newList hL ⟨_, gr⟩ hu (owns_cut (own_of_ints ns) none (some (k : Int))) (Nat.le_trans (dcut_len _ _ _) (by rw [List.length_map]; exact hz)))
theorem Sls.nones {H : Hp} {L : Addr → Prop} : ∀ (m : List Nat) (σ : L2.St), m.length = σ.length → Sls H L m (List.replicate σ.length none) σ []
  | [], [], _ => .nil
  | _ :: m, _ :: σ, h => .no (Sls.nones m σ (Nat.succ.inj h))
/-- the law's own promise -/
def spL (K : PySem.W.Frag) : Sp := fun vs H Q _ => ∃ (a : Addr) (ns : List Int), vs = [.ref a] ∧ ns.length ≤ 63 ∧ SqL K H a (ns.map V.int) ∧ ∀ H', Q (.bl true) H'
theorem SqL.stay {K : PySem.W.Frag} {H H' : Hp} {a : Addr} {xs : List V} (h : SqL K H a xs) (k : ∀ u, H a = some u → H' a = some u) : SqL K H' a xs := by
  rcases h with h | h
  · exact .inl (Rd.move h k)
  · exact .inr h
theorem line63' : 63 ≤ sizeLine := by rw [sizeLine_eq]; decide
/-- the law by its body; df what it does, by the script -/
theorem law_fn {P : Program} {w : World} {K : PySem.W.Frag} {mg : Str → Option Value} {base : Heap} {cls : Str → Option Value} {fld : Str → Str} {k : Nat} {x : Str} {st : Stmt} {N : List Str} {y : Str} {f : Addr} {fd : FuncData} (kr : Nat) (df : List Int → DenS) (m0 m' : List Nat) (F : Fun K x x st f fd) (S : FnScope N [y] (defScope st)) (hm : m0.length = N.length) (hN1 : 1 ≤ N.length)
    (bd : ∀ (cdv : Value) (A : Around) (out : List Env) (s : Shared) (J : Hp) (T : XK) (a : Addr) (ns : List Int) (hid : Addr → Option HO) (B : Bs), (A.deeper (envOfC x (defScope st) s.heap.objs.size f cdv)).guards = some [] → Room k (A.deeper (envOfC x (defScope st) s.heap.objs.size f cdv)) → ns.length ≤ sizeLine →
      (∀ (r : Rg) (H : Hp), RngAt ⟨K, none, fun i => if i = 0 then some a else none, hid, T, cls, fld⟩ r H → SqL K H a (ns.map V.int)) →
      PSs (cxOf CX0 P w K mg base N x (defScope st) f cdv A out s J T).nox (defBody st) (tDS ⟨K, none, fun i => if i = 0 then some a else none, hid, T, cls, fld⟩ B kr m0 m' (df ns)))
    (hval : ∀ ns : List Int, ns.length ≤ 63 → df ns (List.replicate N.length none) none = .ok (.rt (.bool true)) none) : FnG P w K mg base CX0 (k + 1) f fd [y] (spL K) := by
  obtain ⟨oc, od, kV, doc, pm, an, cdv, ct, osl, rfl, lk, hcd⟩ := F.ex
  refine fnG_of lk hcd S (fun zs J R T ⟨a, ns, e, _⟩ => by rw [e]; rfl) fun A out s J zs R T hg hr ⟨a, ns, e, hl, hS, hR⟩ => ?_
  subst e
  have hscr : ∀ (r : Rg) (H : Hp), RngAt ⟨K, none, fun i => if i = 0 then some a else none, fun q => if q = a then J a else none, T, cls, fld⟩ r H → SqL K H a (ns.map V.int) := fun r H g => SqL.stay hS fun u hu => g.2.1 a u (by
    show (if a = a then J a else none) = some u
    rw [if_pos rfl]; exact hu)
  have hlen : (L2.start N [.ref a]).length = N.length := by
    unfold L2.start
    rw [List.length_append, List.length_map, List.length_replicate]
    show 1 + (N.length - 1) = _
    omega
  refine ⟨_, (bd cdv A out s J T a ns (fun q => if q = a then J a else none) ⟨J, fun _ => False⟩ hg hr (Nat.le_trans hl line63') hscr).nox, List.replicate N.length none, none, [], fun _ => False, ⟨?_, .nil, ⟨?_, fun q o hq => ?_, fun b hb => by cases hb⟩, fun j b hj => ?_, nofun, fun _ z => z.elim, Fr.refl⟩, ?_⟩
  · have q := Sls.nones (H := J) (L := fun _ => False) m0 (L2.start N [.ref a]) (by rw [hm, hlen])
    rw [hlen] at q
    exact q
  · unfold RngOf
    rfl
  · have hq : (if q = a then J a else none) = some o := hq
    by_cases e : q = a
    · rw [if_pos e] at hq
      rw [e]; exact hq
    · rw [if_neg e] at hq; cases hq
  · have hj : (if j = 0 then some a else none) = some b := hj
    by_cases e : j = 0
    · rw [if_pos e] at hj
      cases hj
      subst e
      refine ⟨rfl, ?_⟩
      rw [List.getElem?_replicate, if_pos (by omega)]
    · rw [if_neg e] at hj; cases hj
  · rw [hval ns hl]
    intro v H' _ _ o _
    obtain ⟨L1, k1, _⟩ := Out.view o
    rw [own_bl k1]
    exact hR H'
end DL

/-! DMc: from the law's promise to the statement. -/
namespace DL
open PySem L2 PySem.Spec PyProof.Rows

section
variable {P : Program} {w : World} {K : PySem.W.Frag} {mg mb : Str → Option Value} {CX : CXT} {k : Nat} {fa a : Addr} {fd : FuncData} {x : Str} {sp : Sp} {z : Shared} {us : List Value} {ns : List Int}
/-- from an abstract heap in which at most the script is tracked -/
theorem law_from (KZ : K.In z.heap) (gN : z.heap.Ns mainGlobals mg) (bN : z.heap.Ns builtinsNs mb) (bB : ∀ y : Str, y ≠ "__name__" → mb y = bootBuiltins y) (nL : z.heap.NoLimit) (g0 : z.gens = #[])
    (oA : z.heap.get? a = some { cls := .type "list", data := .seq us.toArray }) (room : Room k callerA) (F : ∀ b : Heap, K.In b → b.Ns mainGlobals mg → FnG P w K mg b CX k fa fd [x] sp) (bind : ∀ (q : Shared) (u : Value), BindsTo q fd ⟨[u], []⟩ [(x, u)])
    (J : Hp) (jO : Only J) (jS : SqL K J a (ns.map V.int)) (jH : HOk P w J z.heap) (jA : ∀ q, J q ≠ none → q = a) (jK : J a ≠ none → K.lookup a = none) (hs : sp [.ref a] J (fun v _ => v = .bl true) fun _ _ _ => False) (no : ∀ e q, CX [] J z (fun _ _ _ => False) e q → False) :
    codeAny (model P w) callerA (.call (.ref fa) ⟨[.ref a], []⟩) (fun r q => r = .ok (.ret (.bool true)) ∧ OldK z.heap q.heap ∧ q.os = z.os ∧ AllBare q.gens) z := by
  have keepB : ∀ {q : Addr} {o : Obj}, z.heap.get? q = some o → J q = none → (hidT z.heap J).get? q = some o := fun h1 h2 => hidT_get h1 h2
  have dictFree : ∀ {q : Addr} {o : Obj} {es : Array DictEntry} {ep : Nat}, z.heap.get? q = some o → o.data = .dict es ep → J q = none := fun {q o es ep} h1 h2 => by
    by_cases hn : J q = none
    · exact hn
    · have hq := jA q hn
      rw [hq, oA] at h1
      cases h1
      exact (nomatch (show Data.seq us.toArray _ = Data.dict es ep from h2))
  have nsB : ∀ {q : Addr} {m : Str → Option Value}, z.heap.Ns q m → (hidT z.heap J).Ns q m := fun {q m} ⟨o, es, ep, h1, h2, h3⟩ => ⟨o, es, ep, keepB h1 (dictFree h1 h2), h2, h3⟩
  have KB : K.In (hidT z.heap J) := fun q o h => keepB (KZ q o h) (by
    by_cases hn : J q = none
    · exact hn
    · have hq := jA q hn
      subst hq
      rw [jK hn] at h; cases h)
  obtain ⟨ml, l1, l2⟩ := nL
  have env : Env0 P w K mg (hidT z.heap J) callerA [] z J := ⟨rfl, ⟨KB, nsB gN, ⟨mb, nsB bN, bB⟩, ⟨ml, nsB l1, l2⟩⟩, fun q o h => of_hidT h, Nat.le_of_eq (hidT_size _ _), trivial, nofun, jH, .of_eq g0⟩
  refine codeAny_mono ((F _ KB (nsB gN)).goes callerA [] z J ⟨[.ref a], []⟩ [.ref a] [.ref a] _ _ rfl room env (bind z (.ref a)) (.cons rfl .nil) hs) fun r q h => ?_
  match r, h with
  | .error e, h => exact (no e q h).elim
  | .ok .next, h => exact h.elim
  | .ok .brk, h => exact h.elim
  | .ok .cont, h => exact h.elim
  | .ok (.ret u), ⟨v, J', os, bare, un, ok', rv, qv⟩ =>
    have qv : v = .bl true := qv
    subst qv
    cases (show u = Value.bool true from rv)
    refine ⟨rfl, OldK.of_keep fun b o hb => ?_, os, bare⟩
    cases hj : J b with
    | none => exact un.keep b o hb hj (fun y => nomatch y) (by simp)
    | some t =>
      rcases jO b with y | ⟨ob, xs, y⟩
      · rw [hj] at y; cases y
      · obtain ⟨m1, _⟩ := jH b _ y
        obtain ⟨m2, _⟩ := ok' b _ (un.frzs b ob _ y)
        rw [hb] at m1; cases m1
        exact m2
theorem law_goes (KZ : K.In z.heap) (gN : z.heap.Ns mainGlobals mg) (bN : z.heap.Ns builtinsNs mb) (bB : ∀ y : Str, y ≠ "__name__" → mb y = bootBuiltins y) (nL : z.heap.NoLimit) (g0 : z.gens = #[])
    (oA : z.heap.get? a = some { cls := .type "list", data := .seq us.toArray }) (iA : IntsAre us ns) (lA : ns.length ≤ sizeLine) (room : Room k callerA) (F : ∀ b : Heap, K.In b → b.Ns mainGlobals mg → FnG P w K mg b CX k fa fd [x] sp) (bind : ∀ (q : Shared) (u : Value), BindsTo q fd ⟨[u], []⟩ [(x, u)])
    (hs : ∀ J : Hp, Only J → SqL K J a (ns.map V.int) → sp [.ref a] J (fun v _ => v = .bl true) fun _ _ _ => False) (no : ∀ J e q, CX [] J z (fun _ _ _ => False) e q → False) :
    codeAny (model P w) callerA (.call (.ref fa) ⟨[.ref a], []⟩) (fun r q => r = .ok (.ret (.bool true)) ∧ OldK z.heap q.heap ∧ q.os = z.os ∧ AllBare q.gens) z := by
  have rel := vals_ints iA
  have sz := iA.length
  cases hK : K.lookup a with
  | some o =>
    have h := KZ a o hK
    rw [oA] at h
    cases h
    have S0 : SqL K (fun _ => none) a (ns.map V.int) := .inr ⟨_, us.toArray, _, hK, rfl, rfl, rfl, by rw [List.size_toArray, sz]; exact lA, by simpa using rel⟩
    exact law_from KZ gN bN bB nL g0 oA room F bind (fun _ => none) (fun _ => .inl rfl) S0 (fun q u h => nomatch (show (none : Option HO) = some u from h)) (fun q h => absurd rfl h) (fun h => absurd rfl h) (hs _ (fun _ => .inl rfl) S0) (no _)
  | none =>
    let J : Hp := fun q => if q = a then some (.frz { cls := .type "list", data := .seq us.toArray } (.lst (ns.map V.int))) else none
    have Ja : J a = some (.frz { cls := .type "list", data := .seq us.toArray } (.lst (ns.map V.int))) := if_pos rfl
    have Jn : ∀ q, q ≠ a → J q = none := fun q h => if_neg h
    have jO : Only J := fun q => by
      by_cases h : q = a
      · subst h; exact .inr ⟨_, _, Ja⟩
      · exact .inl (Jn q h)
    have S1 : SqL K J a (ns.map V.int) := .inl (.inr ⟨_, Ja⟩)
    refine law_from KZ gN bN bB nL g0 oA room F bind J jO S1 (fun q u h => ?_) (fun q h => ?_) (fun _ => hK) (hs J jO S1) (no J)
    · by_cases e : q = a
      · subst e
        rw [Ja] at h
        cases h
        exact ⟨oA, by rw [List.length_map]; exact lA, us, _, rel, oA⟩
      · rw [Jn q e] at h; cases h
    · by_cases e : q = a
      · exact e
      · exact absurd (Jn q e) h
end
/-- the walk of the statement, from the law's promise -/
theorem walk_law {l : PySem.W.OpenLaw} {n k : Nat} {q : Program} {loose : List Str} {XP : (Str → Option Value) → Heap → Prop} {YP : World → Heap → Prop} {d : DefRec} {K : Params → PySem.W.Frag} {x : Str} (hn : l.most = some n) (hn2 : n ≤ 63) (hdf : d.params.defaults = []) (room : Room k callerA) (hY : ∀ (w : World) (h : Heap), YP w h → (K w.params).In h)
    (F : ∀ (w : World) (mg : Str → Option Value) (fa : Addr) (h : Heap), (K w.params).In h → h.Ns mainGlobals mg → mg d.name = some (.ref fa) → ∃ fd : FuncData, (∀ (s : Shared) (u : Value), BindsTo s fd ⟨[u], []⟩ [(x, u)]) ∧ ∀ b : Heap, (K w.params).In b → b.Ns mainGlobals mg → FnG l.prog w (K w.params) mg b CX0 k fa fd [x] (spL (K w.params))) :
    PySem.W.WalkO q loose XP YP l.row.toRowW d [] (fun f vs => PySem.call f vs) := by
  have h63 : n ≤ sizeLine := Nat.le_trans hn2 line63'
  refine Att.attach_call hn hdf fun w s0 s1 mg mb fa o pm cd doc a vs ns G Y ho hd hcd hmg hobj hints hlen hg => ?_
  have KZ := hY w _ Y
  obtain ⟨fd, hb, hF⟩ := F w mg fa _ KZ G.T.g hmg
  exact law_goes KZ G.T.g G.T.b G.T.builtins G.T.nolimit hg hobj hints (Nat.le_trans hlen h63) room hF hb (fun J _ hS => ⟨a, ns, rfl, Nat.le_trans hlen hn2, hS, fun _ => rfl⟩) fun _ _ _ h => h.elim
end DL

/-! DMd: how denotations are worked out. -/
namespace DL
open PySem L2

section
variable {α β γ : Type}
theorem b_pure (a : α) (f : α → M β) : M.bind (M.pure a) f = f a := rfl
theorem b_lift (a : α) (f : α → M β) : M.bind (M.lift (some a)) f = f a := rfl
theorem b_bad (f : α → M β) : M.bind M.bad f = M.bad := rfl
theorem l_some (a : α) : M.lift (some a) = M.pure a := rfl
theorem l_none : (M.lift (none : Option α)) = M.bad := rfl
theorem b_id (m : M α) : M.bind m M.pure = m := by
  funext r
  unfold M.bind
  cases m r <;> rfl
theorem b_at {m : M α} {f : α → M β} {r r1 : Rg} {a : α} (h : m r = .ok a r1) : M.bind m f r = f a r1 := by
  unfold M.bind
  rw [h]
theorem n_pure (a : α) : M.noEx (M.pure a) = M.pure a := rfl
end
theorem dN_at {ρ : Slots} {i : Nat} {d : D} (h : ρ[i]? = some (some d)) : dN i ρ = M.pure d := by
  unfold dN; rw [h]
theorem atom_i (f : Den) (ρ : Slots) {i : Int} (h : f ρ = M.pure (.int i)) : dAtom f ρ = M.pure (.int i) := by
  unfold dAtom; rw [h]; rfl
end DL

/-! DMe: comprehensions and lookups over lists that are told by a function. -/
namespace DL
open PySem L2

/-- 1 .. n -/
def labs (n : Nat) : List Int := (List.range n).map fun i : Nat => 1 + (i : Int)
theorem mem_labs {n : Nat} {v : Int} : v ∈ labs n ↔ 1 ≤ v ∧ v ≤ n := by
  unfold labs
  simp only [List.mem_map, List.mem_range]
  constructor
  · rintro ⟨i, h, rfl⟩; omega
  · rintro ⟨h1, h2⟩; exact ⟨(v - 1).toNat, by omega, by omega⟩
theorem labs_nodup (n : Nat) : (labs n).Nodup := by
  unfold labs
  refine List.Pairwise.map _ ?_ List.nodup_range
  intro a b h e
  omega
theorem labs_len (n : Nat) : (labs n).length = n := by unfold labs; simp
theorem labs_get {n i : Nat} (h : i < n) : (labs n)[i]? = some (1 + (i : Int)) := by
  unfold labs
  rw [List.getElem?_map, List.getElem?_range h]; rfl
theorem range_labs (n : Nat) : rangeD 1 n = (labs n).map PyData.int := by
  unfold rangeD labs
  rw [List.map_map]; rfl
section
variable {α : Type} {gt : D → Slots → Option Slots} {ft : Slots → M Bool} {fk fe : Den} {ρ : Slots}
theorem compL_map (toD : α → D) (val : α → D) : ∀ (its : List α), (∀ a ∈ its, ∃ ρ', gt (toD a) ρ = some ρ' ∧ ft ρ' = M.pure true ∧ fe ρ' = M.pure (val a)) → compL gt ft fe ρ (its.map toD) = M.pure (its.map val)
  | [], _ => rfl
  | a :: its, h => by
    obtain ⟨ρ', h1, h2, h3⟩ := h a List.mem_cons_self
    have ih := compL_map toD val its fun b hb => h b (List.mem_cons_of_mem _ hb)
    show M.bind (M.lift (gt (toD a) ρ)) _ = _
    rw [h1, b_lift, h2, b_pure, if_pos rfl, h3, b_pure, ih, b_pure]
    rfl
theorem compL_filter (toD : α → D) (p : α → Bool) (val : α → D) : ∀ (its : List α), (∀ a ∈ its, ∃ ρ', gt (toD a) ρ = some ρ' ∧ ft ρ' = M.pure (p a) ∧ (p a = true → fe ρ' = M.pure (val a))) → compL gt ft fe ρ (its.map toD) = M.pure ((its.filter p).map val)
  | [], _ => rfl
  | a :: its, h => by
    obtain ⟨ρ', h1, h2, h3⟩ := h a List.mem_cons_self
    have ih := compL_filter toD p val its fun b hb => h b (List.mem_cons_of_mem _ hb)
    show M.bind (M.lift (gt (toD a) ρ)) _ = _
    rw [h1, b_lift, h2, b_pure]
    cases q : p a with
    | true => rw [if_pos rfl, h3 q, b_pure, ih, b_pure, List.filter_cons_of_pos q]; rfl
    | false => rw [if_neg (by simp), ih, List.filter_cons_of_neg (by simp [q])]
/-- a dict told by a function on ints -/
def dmap (ks : List Int) (f : Int → D) : List (D × D) := ks.map fun k => (.int k, f k)
theorem eqv_int (a b : Int) : PyData.eqv (.int a) (.int b) = decide (a = b) := by
  have := keyD_eqv (.inl a) (.inl b)
  rw [show keyD (.inl a) = .int a from rfl, show keyD (.inl b) = .int b from rfl] at this
  rw [this]
  by_cases h : a = b
  · subst h; simp
  · simp [h]
theorem lookD_dmap {f : Int → D} : ∀ {ks : List Int} {k : Int}, lookD (dmap ks f) (.int k) = if k ∈ ks then some (f k) else none
  | [], k => rfl
  | a :: ks, k => by
    have ih := lookD_dmap (f := f) (ks := ks) (k := k)
    unfold lookD dmap at ih ⊢
    rw [List.map_cons, List.find?_cons]
    show (match PyData.eqv (.int a) (.int k) with | true => some (PyData.int a, f a) | false => _).map _ = _
    rw [eqv_int]
    by_cases h : a = k
    · subst h; simp
    · rw [decide_eq_false h]
      simp only [ih, List.mem_cons, show ¬ k = a from fun z => h z.symm, false_or]
theorem putD_new {ks : List Int} {f : Int → D} {k : Int} {d : D} (h : k ∉ ks) : putD (dmap ks f) (.int k) d = dmap ks f ++ [(.int k, d)] := by
  unfold putD
  rw [if_neg]
  simp only [List.any_eq_true, not_exists, not_and]
  intro p hp
  unfold dmap at hp
  obtain ⟨a, ha, rfl⟩ := List.mem_map.mp hp
  rw [eqv_int]
  simp
  intro e
  exact h (by rw [← e]; exact ha)
theorem putD_old {ks : List Int} {f : Int → D} {k : Int} {d : D} (h : k ∈ ks) : putD (dmap ks f) (.int k) d = dmap ks (fun v => if v = k then d else f v) := by
  unfold putD
  rw [if_pos]
  · unfold dmap
    rw [List.map_map]
    apply List.map_congr_left
    intro a _
    show (if PyData.eqv (.int a) (.int k) = true then (PyData.int a, d) else (PyData.int a, f a)) = _
    rw [eqv_int]
    by_cases e : a = k <;> simp [e]
  · simp only [List.any_eq_true]
    exact ⟨(.int k, f k), List.mem_map.mpr ⟨k, h, rfl⟩, by rw [eqv_int]; simp⟩
theorem dmap_congr {ks : List Int} {f g : Int → D} (h : ∀ k ∈ ks, f k = g k) : dmap ks f = dmap ks g := by
  unfold dmap
  exact List.map_congr_left fun a ha => by rw [h a ha]
/-- a dict comprehension over ints, no one twice -/
theorem compD_map (toD : Int → D) (f : Int → D) : ∀ (its done : List Int), (∀ a ∈ its, ∃ ρ', gt (toD a) ρ = some ρ' ∧ ft ρ' = M.pure true ∧ fk ρ' = M.pure (.int a) ∧ fe ρ' = M.pure (f a)) → (done ++ its).Nodup → compD gt ft fk fe ρ (dmap done f) (its.map toD) = M.pure (dmap (done ++ its) f)
  | [], done, _, _ => by rw [List.append_nil]; rfl
  | a :: its, done, h, nd => by
    obtain ⟨ρ', h1, h2, h3, h4⟩ := h a List.mem_cons_self
    have na : a ∉ done := fun z => (List.nodup_append.mp nd).2.2 a z a List.mem_cons_self rfl
    have e : done ++ a :: its = (done ++ [a]) ++ its := by simp
    have ih := compD_map toD f its (done ++ [a]) (fun b hb => h b (List.mem_cons_of_mem _ hb)) (by rw [← e]; exact nd)
    have ed : dmap done f ++ [(.int a, f a)] = dmap (done ++ [a]) f := by unfold dmap; simp
    rw [e, ← ih, ← ed, ← putD_new na]
    show M.bind (M.lift (gt (toD a) ρ)) _ = _
    rw [h1, b_lift, h2, b_pure, if_pos rfl, h3, b_pure, h4, b_pure]
    rfl
end
theorem forD_cons {gt : D → Slots → Option Slots} {fb : DenS} {d : D} {ds : List D} {ρ ρ1 ρ2 : Slots} (h : gt d ρ = some ρ1) (hb : fb ρ1 = M.pure (.nx ρ2)) : forD gt fb (d :: ds) ρ = forD gt fb ds ρ2 := by
  show M.bind (M.lift (gt d ρ)) _ = _
  rw [h, b_lift, hb, b_pure]
theorem range_2 {i j : Int} (h1 : (j - i).toNat ≤ sizeLine) (h2 : -(2 ^ 62) ≤ i ∧ i < 2 ^ 62 ∧ -(2 ^ 62) ≤ j ∧ j < 2 ^ 62) : oRange2 [.int i, .int j] = some (rangeD i (j - i).toNat) := if_pos ⟨h1, h2⟩
theorem small_n {n : Nat} (h : n ≤ 1000) : n ≤ sizeLine := by rw [sizeLine_eq]; omega
theorem add_int (i j : Int) : oAdd (.int i) (.int j) = some (.int (i + j)) := rfl
/-- range(1, n + 1) -/
theorem range_1n {n : Nat} (hn : n ≤ 1000) : oRange2 [.int 1, .int ((n : Int) + 1)] = some ((labs n).map PyData.int) := by
  have hs := small_n hn
  rw [range_2 (by omega) (by omega), show ((n : Int) + 1 - 1).toNat = n by omega, range_labs]
end DL

/-! K01a: the defs of law_k01 as functions of data. -/
namespace K01
open PySem L2 DL
def top (i : Nat) : Stmt := PySem.Challenge.pw_leafcodes_k01_trees.main.body.getD i (.Pass ⟨0, 0, 0, 0⟩)
structure Txt (mg : Str → Option Value) : Prop where
  m_len : mg "len" = none
  m_int : mg "int" = none
  m_repr : mg "repr" = none
  m_all : mg "all" = none
  m_min : mg "min" = none
  m_max : mg "max" = none
  m_sorted : mg "sorted" = none
  m_list : mg "list" = none
  m_bool : mg "bool" = none
  m_isinstance : mg "isinstance" = none
  m_set : mg "set" = none
  m_range : mg "range" = none
  m_enumerate : mg "enumerate" = none
  m_zip : mg "zip" = none
  g_MOST_LABELS : ∃ t, mg "MOST_LABELS" = some (.int 40 t)
/-- the next drawn number -/
def nextI (x k : Int) (b : Bool) : Int := if b = true then x % 1000000 else
  let m := (x % 1000003 + (k + 1) * (k + 1) * 7919 + (k + 1)) * 48271 % 2147483629
  let m2 := m * m % 2147483587
  m2 * (m2 + 2) % 2147483579 / 7
def nextD : Rg → Res D
  | some (x, k, b) => .ok (.int (nextI x k b)) (some (if b = true then x / 1000000 else x, k + 1, b))
  | none => .bad
variable {P : Program} {w : World} {K : PySem.W.Frag} {mg : Str → Option Value} {base : Heap} {cls : Str → Option Value} {fld : Str → Str}

abbrev s__law_draws : Stmt := top 17
theorem sc__law_draws : FnScope [("_law_cell" : Str)] [("_law_cell" : Str)] (defScope s__law_draws) := ⟨rfl, rfl, rfl, by decide +kernel, rfl, by decide +kernel, by decide +kernel⟩
def df__law_draws : DenS :=
  (dsRet (dFn oList (dCons (dBin oMod (dFn oInt (dCons (dN 0) dNil)) (dBin oPow (dBin oPow (dBin oPow (dC (.int 10)) (dC (.int 60))) (dC (.int 60))) (dC (.int 4)))) (dCons (dC (.int 0)) (dCons (dBin oGe (dN 0) (dBin oPow (dC (.int 10)) (dC (.int 18)))) dNil)))))
def sg__law_draws : Sig := ⟨false, 1, 1, dDef false 1 df__law_draws⟩
theorem cal__law_draws (T : Txt mg)  {f : Addr} {fd : FuncData} (F : Fun K ("_law_draws" : Str) ("_law_draws" : Str) s__law_draws f fd) (hm : mg ("_law_draws" : Str) = some (.ref f)) : Cal P w K mg base CX0 cls fld 1 ("_law_draws" : Str) s__law_draws [("_law_cell" : Str)] sg__law_draws f fd := by
  refine cal_of (x := ("_law_draws" : Str)) (st := s__law_draws) (k := 0) false 1 1 1 df__law_draws [] [0] rfl F hm sc__law_draws rfl rfl (fun _ _ _ _ _ _ us hl => match us, hl with | [_], _ => rfl) fun cdv A out s J T' ra hid B hG hr hra => ?_
  exact (ds_one (ds_ret (by rfl) (ev_list (es_cons (ev_mod (n := 0) (eb_int (n := 0)  rfl T.m_int (es_cons (ev_n 0 rfl (Or.inl rfl)) (es_nil (n := 0)))) (ev_pow (n := 0) (ev_pow (n := 0) (ev_pow (n := 0) (ev_int (n := 0)) (ev_int (n := 0))) (ev_int (n := 0))) (ev_int (n := 0)))) (es_cons (ev_int (n := 0)) (es_cons (ev_ge (n := 0) (ev_n 0 rfl (Or.inl rfl)) (ev_pow (n := 0) (ev_int (n := 0)) (ev_int (n := 0)))) (es_nil (n := 0))))))))
abbrev s_is_whole : Stmt := top 5
theorem sc_is_whole : FnScope [("thing" : Str)] [("thing" : Str)] (defScope s_is_whole) := ⟨rfl, rfl, rfl, by decide +kernel, rfl, by decide +kernel, by decide +kernel⟩
def df_is_whole : DenS :=
  (dsRet (dAndV (dUn (oIsi "int") (dN 0)) (dUn oNot (dUn (oIsi "bool") (dN 0)))))
def sg_is_whole : Sig := ⟨false, 1, 9, dDef false 1 df_is_whole⟩
theorem cal_is_whole (T : Txt mg)  {f : Addr} {fd : FuncData} (F : Fun K ("is_whole" : Str) ("is_whole" : Str) s_is_whole f fd) (hm : mg ("is_whole" : Str) = some (.ref f)) : Cal P w K mg base CX0 cls fld 1 ("is_whole" : Str) s_is_whole [("thing" : Str)] sg_is_whole f fd := by
  refine cal_of (x := ("is_whole" : Str)) (st := s_is_whole) (k := 0) false 1 9 1 df_is_whole [] [0] rfl F hm sc_is_whole rfl rfl (fun _ _ _ _ _ _ us hl => match us, hl with | [_], _ => rfl) fun cdv A out s J T' ra hid B hG hr hra => ?_
  exact (ds_one (ds_ret (by rfl) (ev_and (ev_isi (n := 0) tyOk_int rfl T.m_isinstance rfl T.m_int boot_int (ev_n 0 rfl (Or.inl rfl))) (ev_one (ev_not (n := 9) (ev_isi (n := 0) tyOk_bool rfl T.m_isinstance rfl T.m_bool boot_bool (ev_n 0 rfl (Or.inl rfl))))))))
abbrev s_is_label : Stmt := top 6
theorem sc_is_label : FnScope [("thing" : Str), ("many" : Str)] [("thing" : Str), ("many" : Str)] (defScope s_is_label) := ⟨rfl, rfl, rfl, by decide +kernel, rfl, by decide +kernel, by decide +kernel⟩
def df_is_label : DenS :=
  (dsRet (dAndV (dAtom (dCall sg_is_whole (dCons (dN 0) dNil))) (dChain oLe oLe (dC (.int 1)) (dN 0) (dN 1))))
def sg_is_label : Sig := ⟨false, 2, 9, dDef false 2 df_is_label⟩
theorem cal_is_label (T : Txt mg) {f_is_whole : Addr} {d_is_whole : FuncData} (c_is_whole : Cal P w K mg base CX0 cls fld 1 ("is_whole" : Str) s_is_whole [("thing" : Str)] sg_is_whole f_is_whole d_is_whole) {f : Addr} {fd : FuncData} (F : Fun K ("is_label" : Str) ("is_label" : Str) s_is_label f fd) (hm : mg ("is_label" : Str) = some (.ref f)) : Cal P w K mg base CX0 cls fld 2 ("is_label" : Str) s_is_label [("thing" : Str), ("many" : Str)] sg_is_label f fd := by
  refine cal_of (x := ("is_label" : Str)) (st := s_is_label) (k := 1) false 2 9 2 df_is_label [] [0, 0] rfl F hm sc_is_label rfl rfl (fun _ _ _ _ _ _ us hl => match us, hl with | [_, _], _ => rfl) fun cdv A out s J T' ra hid B hG hr hra => ?_
  exact (ds_one (ds_ret (by rfl) (ev_and (ev_atom (n := 0) (ev_wk (n := 9) (k := 0) (by decide) (ec c_is_whole rfl rfl (by decide) hG hr passN rfl (es_cons (ev_n 0 rfl (Or.inl rfl)) (es_nil (n := 0)))))) (ev_one (ev_chain (n := 9) op_le op_le op2_le op2_le (ev_int (n := 0)) (ev_n 0 rfl (Or.inl rfl)) (ev_n 1 rfl (Or.inl rfl)))))))
abbrev s_is_edge : Stmt := top 7
theorem sc_is_edge : FnScope [("thing" : Str), ("many" : Str), ("label" : Str)] [("thing" : Str), ("many" : Str)] (defScope s_is_edge) := ⟨rfl, rfl, rfl, by decide +kernel, rfl, by decide +kernel, by decide +kernel⟩
def df_is_edge : DenS :=
  (dsSeq (dsIf (dOr (dNot (dTruth (dUn (oIsi "list") (dN 0)))) (dOr (dTest (dBin oNe (dFn oLen (dCons (dN 0) dNil)) (dC (.int 2)))) (dNot (dTruth (dFn oAll (dCons (dLc (dIt seqD (dN 0)) (gtT fl1 [2]) tYesD (dAtom (dCall sg_is_label (dCons (dN 2) (dCons (dN 1) dNil))))) dNil)))))) (dsRet (dC (.bool false))) dsNil)
  (dsRet (dBin oLt (dAtom (dBin oIx (dN 0) (dC (.int 0)))) (dAtom (dBin oIx (dN 0) (dC (.int 1)))))))
def sg_is_edge : Sig := ⟨false, 2, 9, dDef false 3 df_is_edge⟩
theorem cal_is_edge (T : Txt mg) {f_is_label : Addr} {d_is_label : FuncData} (c_is_label : Cal P w K mg base CX0 cls fld 2 ("is_label" : Str) s_is_label [("thing" : Str), ("many" : Str)] sg_is_label f_is_label d_is_label) {f : Addr} {fd : FuncData} (F : Fun K ("is_edge" : Str) ("is_edge" : Str) s_is_edge f fd) (hm : mg ("is_edge" : Str) = some (.ref f)) : Cal P w K mg base CX0 cls fld 3 ("is_edge" : Str) s_is_edge [("thing" : Str), ("many" : Str)] sg_is_edge f fd := by
  refine cal_of (x := ("is_edge" : Str)) (st := s_is_edge) (k := 2) false 2 9 3 df_is_edge [0] [0, 0, 0] rfl F hm sc_is_edge rfl rfl (fun _ _ _ _ _ _ us hl => match us, hl with | [_, _], _ => rfl) fun cdv A out s J T' ra hid B hG hr hra => ?_
  exact (ds_cons (m1 := [0, 0, 0]) (ds_if (m' := [0, 0, 0]) (et_w (ew_or (et_not (et_val (ev_isi (n := 0) tyOk_list rfl T.m_isinstance rfl T.m_list boot_list (ev_n 0 rfl (Or.inl rfl))))) (ew_or (et_ne (hu64 hr) (eb_len (n := 0)  rfl T.m_len (es_cons (ev_n 0 rfl (Or.inl rfl)) (es_nil (n := 0)))) (ev_int (n := 0))) (ew_or1 (et_not (et_val (eb_all (n := 0) rfl rfl T.m_all (es_cons (ev_wk (n := 1) (k := 0) (by decide) (ev_lc (n := 0) rfl sc_is_edge.nd (iv_seq Beg.free (ev_n 0 rfl (Or.inl rfl))) (own := [(("label" : Str), 2)]) (blk_ok rfl) rfl (fun _ _ _ _ _ => (pg_name (i := 2) sc_is_edge.nd rfl (Or.inl rfl) (hf := .inr rfl))) (ts_name.tg (pn_all rfl)) (pn_all rfl) (sub_of (by rfl)) (fun _ _ _ _ _ => pts0) (fun _ _ _ _ _ => (ev_atom (n := 0) (ev_wk (n := 9) (k := 0) (by decide) (ec c_is_label rfl rfl (by decide) hG hr passN rfl (es_cons (ev_n 2 rfl (Or.inl rfl)) (es_cons (ev_n 1 rfl (Or.inr (Or.inl rfl))) (es_nil (n := 0)))))))))) (es_nil (n := 0)))))))))) (ds_one (ds_ret (by rfl) (ev_bl (n := 9)))) ds_nil)
  (ds_one (ds_ret (by rfl) (ev_lt (n := 9) (ev_atom (n := 0) (ev_ix (hu64 hr) (fun _ _ => rfl) (ev_n 0 rfl (Or.inl rfl)) (ev_int (n := 0)))) (ev_atom (n := 0) (ev_ix (hu64 hr) (fun _ _ => rfl) (ev_n 0 rfl (Or.inl rfl)) (ev_int (n := 0))))))))
abbrev s_check_edges : Stmt := top 8
theorem sc_check_edges : FnScope [("edges" : Str), ("many" : Str), ("lots" : Str), ("label" : Str), ("index" : Str), ("edge" : Str), ("old" : Str), ("new" : Str), ("lot" : Str)] [("edges" : Str), ("many" : Str)] (defScope s_check_edges) := ⟨rfl, rfl, rfl, by decide +kernel, rfl, by decide +kernel, by decide +kernel⟩
def df_check_edges : DenS :=
  (dsSeq (dsAsg 2 (dDc (dIts oRange2 (dCons (dC (.int 1)) (dCons (dAtom (dBin oAdd (dN 1) (dC (.int 1)))) dNil))) (gtT fl1 [3]) tYesD (dN 3) (dN 3)))
  (dsFor (dIts oEnum (dCons (dN 0) dNil)) (gtT fl2 [4, 5]) (dsSeq (dsIf (dOr (dNot (dTruth (dAtom (dCall sg_is_edge (dCons (dN 5) (dCons (dN 1) dNil)))))) (dTest (dBin oEq (dAtom (dBin oIx (dN 2) (dAtom (dBin oIx (dN 5) (dC (.int 0)))))) (dAtom (dBin oIx (dN 2) (dAtom (dBin oIx (dN 5) (dC (.int 1))))))))) dsBad dsNil)
  (dsSeq (dsUnp fl2 [6, 7] (dFn oTup (dCons (dAtom (dBin oIx (dN 2) (dAtom (dBin oIx (dN 5) (dC (.int 0)))))) (dCons (dAtom (dBin oIx (dN 2) (dAtom (dBin oIx (dN 5) (dC (.int 1)))))) dNil))))
  (dsAsg 2 (dDc (dIt oItems (dN 2)) (gtT fl2 [3, 8]) tYesD (dN 3) (dIf (dTest (dBin oEq (dN 8) (dN 6))) (dN 7) (dN 8))))))))
def sg_check_edges : Sig := ⟨false, 2, 9, dDef false 9 df_check_edges⟩
theorem cal_check_edges (T : Txt mg) {f_is_edge : Addr} {d_is_edge : FuncData} (c_is_edge : Cal P w K mg base CX0 cls fld 3 ("is_edge" : Str) s_is_edge [("thing" : Str), ("many" : Str)] sg_is_edge f_is_edge d_is_edge) {f : Addr} {fd : FuncData} (F : Fun K ("check_edges" : Str) ("check_edges" : Str) s_check_edges f fd) (hm : mg ("check_edges" : Str) = some (.ref f)) : Cal P w K mg base CX0 cls fld 4 ("check_edges" : Str) s_check_edges [("edges" : Str), ("many" : Str)] sg_check_edges f fd := by
  refine cal_of (x := ("check_edges" : Str)) (st := s_check_edges) (k := 3) false 2 9 9 df_check_edges [0, 0, 0, 0, 0, 0, 0] [0, 0, 0, 0, 0, 0, 0, 0, 0] rfl F hm sc_check_edges rfl rfl (fun _ _ _ _ _ _ us hl => match us, hl with | [_, _], _ => rfl) fun cdv A out s J T' ra hid B hG hr hra => ?_
  exact (ds_cons (m1 := [0, 0, 0, 0, 0, 0, 0, 0, 0]) (ds_post1 (m1 := [0, 0, 1, 0, 0, 0, 0, 0, 0]) (m' := [0, 0, 0, 0, 0, 0, 0, 0, 0]) rfl (ds_asgDc (i := 2) (n := 0) rfl sc_check_edges.nd rfl rfl rfl (by rfl) rfl (iv_range2 Beg.free rfl T.m_range (es_cons (ev_int (n := 0)) (es_cons (ev_atom (n := 0) (ev_wk (n := 1) (k := 0) (by decide) (ev_add (ev_n 1 rfl (Or.inl rfl)) (ev_int (n := 0))))) (es_nil (n := 0))))) (own := [(("label" : Str), 3)]) (blk_ok rfl) rfl (fun _ _ _ _ _ => (pg_name (i := 3) sc_check_edges.nd rfl (Or.inl rfl) (hf := .inr rfl))) (ts_name.tg (pn_all rfl)) (pn_all rfl) (sub_of (by rfl)) (fun _ _ _ _ _ => pts0) (fun _ _ _ _ _ => (ev_n 3 rfl (Or.inl rfl))) (fun _ _ _ _ _ => (ev_n 3 rfl (Or.inl rfl)))))
  (ds_one (ds_for (os := [4, 5]) PassesOwn.never rfl (by rfl) rfl (pn_all rfl) (iv_enum (fun h => h) rfl T.m_enumerate (es_cons (ev_n 0 rfl (Or.inl rfl)) (es_nil (n := 0)))) (pg_sq rfl (pgs_cons (pg_name (i := 4) sc_check_edges.nd rfl (Or.inl rfl)) (pgs_cons (pg_name (i := 5) sc_check_edges.nd rfl (Or.inl rfl)) pgs_nil))) ts_2 (ds_cons (m1 := [0, 0, 0, 0, 0, 0, 0, 0, 0]) (ds_if (m' := [0, 0, 0, 0, 0, 0, 0, 0, 0]) (et_w (ew_or (et_not (et_val (ev_atom (n := 0) (ev_wk (n := 9) (k := 0) (by decide) (ec c_is_edge rfl rfl (by decide) hG hr passN rfl (es_cons (ev_n 5 rfl (Or.inl rfl)) (es_cons (ev_n 1 rfl (Or.inl rfl)) (es_nil (n := 0))))))))) (ew_or1 (et_eq (hu64 hr) (ev_atom (n := 0) (ev_ix (hu64 hr) (fun _ _ => rfl) (ev_n 2 rfl (Or.inl rfl)) (ev_atom (n := 0) (ev_ix (hu64 hr) (fun _ _ => rfl) (ev_n 5 rfl (Or.inl rfl)) (ev_int (n := 0)))))) (ev_atom (n := 0) (ev_ix (hu64 hr) (fun _ _ => rfl) (ev_n 2 rfl (Or.inl rfl)) (ev_atom (n := 0) (ev_ix (hu64 hr) (fun _ _ => rfl) (ev_n 5 rfl (Or.inl rfl)) (ev_int (n := 0)))))))))) (ds_one ds_never) ds_nil)
  (ds_cons (m1 := [0, 0, 0, 0, 0, 0, 0, 0, 0]) (ds_unp (os := [6, 7]) (pg_sq rfl (pgs_cons (pg_name (i := 6) sc_check_edges.nd rfl (Or.inr rfl)) (pgs_cons (pg_name (i := 7) sc_check_edges.nd rfl (Or.inr rfl)) pgs_nil))) ts_2 fl_len2 (pn_all rfl) (by rfl) (ev_tup (es_cons (ev_atom (n := 0) (ev_ix (hu64 hr) (fun _ _ => rfl) (ev_n 2 rfl (Or.inl rfl)) (ev_atom (n := 0) (ev_ix (hu64 hr) (fun _ _ => rfl) (ev_n 5 rfl (Or.inl rfl)) (ev_int (n := 0)))))) (es_cons (ev_atom (n := 0) (ev_ix (hu64 hr) (fun _ _ => rfl) (ev_n 2 rfl (Or.inl rfl)) (ev_atom (n := 0) (ev_ix (hu64 hr) (fun _ _ => rfl) (ev_n 5 rfl (Or.inl rfl)) (ev_int (n := 0)))))) (es_nil (n := 0))))))
  (ds_one (ds_post1 (m1 := [0, 0, 1, 0, 0, 0, 0, 0, 0]) (m' := [0, 0, 0, 0, 0, 0, 0, 0, 0]) rfl (ds_asgDc (i := 2) (n := 0) rfl sc_check_edges.nd rfl rfl rfl (by rfl) rfl (iv_up (al' := [2, 7]) (iv_items (ev_n 2 rfl (Or.inl rfl))) (by rfl)) (own := [(("label" : Str), 3), (("lot" : Str), 8)]) (blk_ok rfl) rfl (fun _ _ _ _ _ => (pg_sq rfl (pgs_cons (pg_name (i := 3) sc_check_edges.nd rfl (Or.inl rfl) (hf := .inr rfl)) (pgs_cons (pg_name (i := 8) sc_check_edges.nd rfl (Or.inl rfl) (hf := .inr rfl)) pgs_nil)))) (ts_2.tg (pn_all rfl)) (pn_all rfl) (sub_of (by rfl)) (fun _ _ _ _ _ => pts0) (fun _ _ _ _ _ => (ev_n 3 rfl (Or.inl rfl))) (fun _ _ _ _ _ => (ev_if (et_eq (hu64 hr) (ev_n 8 rfl (Or.inl rfl)) (ev_n 6 rfl (Or.inr (Or.inl rfl)))) (ev_n 7 rfl (Or.inr (Or.inl rfl))) (ev_n 8 rfl (Or.inl rfl))))))))))))
abbrev s_check_tree : Stmt := top 9
theorem sc_check_tree : FnScope [("tree" : Str)] [("tree" : Str)] (defScope s_check_tree) := ⟨rfl, rfl, rfl, by decide +kernel, rfl, by decide +kernel, by decide +kernel⟩
def df_check_tree : DenS :=
  (dsSeq (dsIf (dOr (dNot (dTruth (dUn (oIsi "list") (dN 0)))) (dNot (dTest (dChain oLe oLt (dC (.int 1)) (dFn oLen (dCons (dN 0) dNil)) (dC (.int 40)))))) dsBad dsNil)
  (dsExpr (dCall sg_check_edges (dCons (dN 0) (dCons (dAtom (dBin oAdd (dFn oLen (dCons (dN 0) dNil)) (dC (.int 1)))) dNil)))))
def sg_check_tree : Sig := ⟨false, 1, 9, dDef false 1 df_check_tree⟩
theorem cal_check_tree (T : Txt mg) {f_check_edges : Addr} {d_check_edges : FuncData} (c_check_edges : Cal P w K mg base CX0 cls fld 4 ("check_edges" : Str) s_check_edges [("edges" : Str), ("many" : Str)] sg_check_edges f_check_edges d_check_edges) {f : Addr} {fd : FuncData} (F : Fun K ("check_tree" : Str) ("check_tree" : Str) s_check_tree f fd) (hm : mg ("check_tree" : Str) = some (.ref f)) : Cal P w K mg base CX0 cls fld 5 ("check_tree" : Str) s_check_tree [("tree" : Str)] sg_check_tree f fd := by
  refine cal_of (x := ("check_tree" : Str)) (st := s_check_tree) (k := 4) false 1 9 1 df_check_tree [] [0] rfl F hm sc_check_tree rfl rfl (fun _ _ _ _ _ _ us hl => match us, hl with | [_], _ => rfl) fun cdv A out s J T' ra hid B hG hr hra => ?_
  exact (ds_cons (m1 := [0]) (ds_if (m' := [0]) (et_w (ew_or (et_not (et_val (ev_isi (n := 0) tyOk_list rfl T.m_isinstance rfl T.m_list boot_list (ev_n 0 rfl (Or.inl rfl))))) (ew_or1 (et_not (et_chain op_le op_lt op2_le op2_lt (ev_int (n := 0)) (eb_len (n := 0)  rfl T.m_len (es_cons (ev_n 0 rfl (Or.inl rfl)) (es_nil (n := 0)))) (ev_gint (n := 0) (i := 40) rfl T.g_MOST_LABELS)))))) (ds_one ds_never) ds_nil)
  (ds_one (ds_expr (by rfl) (ev_wk (n := 9) (k := 0) (by decide) (ec c_check_edges rfl rfl (by decide) hG hr passN rfl (es_cons (ev_n 0 rfl (Or.inl rfl)) (es_cons (ev_atom (n := 0) (ev_wk (n := 1) (k := 0) (by decide) (ev_add (eb_len (n := 0)  rfl T.m_len (es_cons (ev_n 0 rfl (Or.inl rfl)) (es_nil (n := 0)))) (ev_int (n := 0))))) (es_nil (n := 0)))))))))
abbrev s_check_label : Stmt := top 10
theorem sc_check_label : FnScope [("label" : Str), ("many" : Str)] [("label" : Str), ("many" : Str)] (defScope s_check_label) := ⟨rfl, rfl, rfl, by decide +kernel, rfl, by decide +kernel, by decide +kernel⟩
def df_check_label : DenS :=
  (dsIf (dNot (dTruth (dAtom (dCall sg_is_label (dCons (dN 0) (dCons (dN 1) dNil)))))) dsBad dsNil)
def sg_check_label : Sig := ⟨false, 2, 9, dDef false 2 df_check_label⟩
theorem cal_check_label (T : Txt mg) {f_is_label : Addr} {d_is_label : FuncData} (c_is_label : Cal P w K mg base CX0 cls fld 2 ("is_label" : Str) s_is_label [("thing" : Str), ("many" : Str)] sg_is_label f_is_label d_is_label) {f : Addr} {fd : FuncData} (F : Fun K ("check_label" : Str) ("check_label" : Str) s_check_label f fd) (hm : mg ("check_label" : Str) = some (.ref f)) : Cal P w K mg base CX0 cls fld 3 ("check_label" : Str) s_check_label [("label" : Str), ("many" : Str)] sg_check_label f fd := by
  refine cal_of (x := ("check_label" : Str)) (st := s_check_label) (k := 2) false 2 9 2 df_check_label [] [0, 0] rfl F hm sc_check_label rfl rfl (fun _ _ _ _ _ _ us hl => match us, hl with | [_, _], _ => rfl) fun cdv A out s J T' ra hid B hG hr hra => ?_
  exact (ds_one (ds_if (m' := [0, 0]) (et_not (et_val (ev_atom (n := 0) (ev_wk (n := 9) (k := 0) (by decide) (ec c_is_label rfl rfl (by decide) hG hr passN rfl (es_cons (ev_n 0 rfl (Or.inl rfl)) (es_cons (ev_n 1 rfl (Or.inl rfl)) (es_nil (n := 0))))))))) (ds_one ds_never) ds_nil))
abbrev s_neighbours_in : Stmt := top 11
theorem sc_neighbours_in : FnScope [("edges" : Str), ("many" : Str), ("told" : Str), ("label" : Str), ("one" : Str), ("two" : Str), ("some" : Str)] [("edges" : Str), ("many" : Str)] (defScope s_neighbours_in) := ⟨rfl, rfl, rfl, by decide +kernel, rfl, by decide +kernel, by decide +kernel⟩
def df_neighbours_in : DenS :=
  (dsSeq (dsAsg 2 (dDc (dIts oRange2 (dCons (dC (.int 1)) (dCons (dAtom (dBin oAdd (dN 1) (dC (.int 1)))) dNil))) (gtT fl1 [3]) tYesD (dN 3) (dFn oList dNil)))
  (dsSeq (dsFor (dIt seqD (dN 0)) (gtT fl2 [4, 5]) (dsSeq (dsApp (fcIx 2 (dN 4)) 2 (dN 5))
  (dsApp (fcIx 2 (dN 5)) 2 (dN 4))))
  (dsRet (dDc (dIt oItems (dN 2)) (gtT fl2 [3, 6]) tYesD (dN 3) (dFn oSorted (dCons (dN 6) dNil))))))
def sg_neighbours_in : Sig := ⟨false, 2, 2, dDef false 7 df_neighbours_in⟩
theorem cal_neighbours_in (T : Txt mg)  {f : Addr} {fd : FuncData} (F : Fun K ("neighbours_in" : Str) ("neighbours_in" : Str) s_neighbours_in f fd) (hm : mg ("neighbours_in" : Str) = some (.ref f)) : Cal P w K mg base CX0 cls fld 1 ("neighbours_in" : Str) s_neighbours_in [("edges" : Str), ("many" : Str)] sg_neighbours_in f fd := by
  refine cal_of (x := ("neighbours_in" : Str)) (st := s_neighbours_in) (k := 0) false 2 2 7 df_neighbours_in [2, 0, 0, 0, 0] [0, 0, 2, 0, 0, 0, 0] rfl F hm sc_neighbours_in rfl rfl (fun _ _ _ _ _ _ us hl => match us, hl with | [_, _], _ => rfl) fun cdv A out s J T' ra hid B hG hr hra => ?_
  exact (ds_cons (m1 := [0, 0, 2, 0, 0, 0, 0]) (ds_asgDc (i := 2) (n := 1) rfl sc_neighbours_in.nd rfl rfl rfl (by rfl) rfl (iv_range2 Beg.free rfl T.m_range (es_cons (ev_int (n := 0)) (es_cons (ev_atom (n := 0) (ev_wk (n := 1) (k := 0) (by decide) (ev_add (ev_n 1 rfl (Or.inl rfl)) (ev_int (n := 0))))) (es_nil (n := 0))))) (own := [(("label" : Str), 3)]) (blk_ok rfl) rfl (fun _ _ _ _ _ => (pg_name (i := 3) sc_neighbours_in.nd rfl (Or.inl rfl) (hf := .inr rfl))) (ts_name.tg (pn_all rfl)) (pn_all rfl) (sub_of (by rfl)) (fun _ _ _ _ _ => pts0) (fun _ _ _ _ _ => (ev_n 3 rfl (Or.inl rfl))) (fun _ _ _ _ _ => (ev_list (es_nil (n := 0)))))
  (ds_cons (m1 := [0, 0, 2, 0, 0, 0, 0]) (ds_for (os := [4, 5]) PassesOwn.never rfl (by rfl) rfl (pn_all rfl) (iv_seq (fun h => h) (ev_n 0 rfl (Or.inl rfl))) (pg_sq rfl (pgs_cons (pg_name (i := 4) sc_neighbours_in.nd rfl (Or.inl rfl)) (pgs_cons (pg_name (i := 5) sc_neighbours_in.nd rfl (Or.inl rfl)) pgs_nil))) ts_2 (ds_cons (m1 := [0, 0, 2, 0, 0, 0, 0]) (ds_app (k := 0) (rc_ix (i := 2) (hu64 hr) rfl (Or.inl rfl) rfl (by rfl) (ev_n 4 rfl (Or.inl rfl)) (fun _ _ => rfl)) (by rfl) (ev_n 5 rfl (Or.inl rfl)))
  (ds_one (ds_app (k := 0) (rc_ix (i := 2) (hu64 hr) rfl (Or.inl rfl) rfl (by rfl) (ev_n 5 rfl (Or.inl rfl)) (fun _ _ => rfl)) (by rfl) (ev_n 4 rfl (Or.inl rfl))))))
  (ds_one (ds_low1 (m := [0, 0, 2, 0, 0, 0, 0]) (m1 := [0, 0, 0, 0, 0, 0, 0]) rfl (ds_ret (by rfl) (ev_dc (n := 1) rfl sc_neighbours_in.nd (iv_items (ev_n 2 rfl (Or.inl rfl))) (own := [(("label" : Str), 3), (("some" : Str), 6)]) (blk_ok rfl) rfl (fun _ _ _ _ _ => (pg_sq rfl (pgs_cons (pg_name (i := 3) sc_neighbours_in.nd rfl (Or.inl rfl) (hf := .inr rfl)) (pgs_cons (pg_name (i := 6) sc_neighbours_in.nd rfl (Or.inl rfl) (hf := .inr rfl)) pgs_nil)))) (ts_2.tg (pn_all rfl)) (pn_all rfl) (sub_of (by rfl)) (fun _ _ _ _ _ => pts0) (fun _ _ _ _ _ => (ev_n 3 rfl (Or.inl rfl))) (fun _ _ _ _ _ => (eb_sorted (n := 0) rfl T.m_sorted (es_cons (ev_n 6 rfl (Or.inl rfl)) (es_nil (n := 0)))))))))))
abbrev s_walk_in : Stmt := top 12
theorem sc_walk_in : FnScope [("tree" : Str), ("one" : Str), ("two" : Str), ("near" : Str), ("before" : Str), ("waiting" : Str), ("label" : Str), ("other" : Str), ("told" : Str)] [("tree" : Str), ("one" : Str), ("two" : Str)] (defScope s_walk_in) := ⟨rfl, rfl, rfl, by decide +kernel, rfl, by decide +kernel, by decide +kernel⟩
def df_walk_in : DenS :=
  (dsSeq (dsPar [3, 4, 5] (dCons (dCall sg_neighbours_in (dCons (dN 0) (dCons (dAtom (dBin oAdd (dFn oLen (dCons (dN 0) dNil)) (dC (.int 1)))) dNil))) (dCons (dDict1 (dN 2) (dC (.int 0))) (dCons (dFn oList (dCons (dN 2) dNil)) dNil))))
  (dsSeq (dsWhile fuelW (dTest (dBin oNe (dN 5) (dFn oList dNil))) (dsSeq (dsSetPop 6 5 (fpLast 5))
  (dsFor (dIt seqD (dBin oIx (dN 3) (dN 6))) (gtT fl1 [7]) (dsIf (dTest (dBin oNotIn (dN 7) (dN 4))) (dsSeq (dsPut 4 (dN 7) (dN 6))
  (dsApp (fcTop 5) 5 (dN 7))) dsNil))))
  (dsSeq (dsAsg 8 (dFn oList (dCons (dN 1) dNil)))
  (dsSeq (dsWhile fuelW (dTest (dBin oNe (dAtom (dBin oIx (dN 8) (dUn oNeg (dC (.int 1))))) (dN 2))) (dsApp (fcTop 8) 8 (dAtom (dBin oIx (dN 4) (dAtom (dBin oIx (dN 8) (dUn oNeg (dC (.int 1)))))))))
  (dsRetN 8)))))
def sg_walk_in : Sig := ⟨false, 3, 1, dDef false 9 df_walk_in⟩
theorem cal_walk_in (T : Txt mg) {f_neighbours_in : Addr} {d_neighbours_in : FuncData} (c_neighbours_in : Cal P w K mg base CX0 cls fld 1 ("neighbours_in" : Str) s_neighbours_in [("edges" : Str), ("many" : Str)] sg_neighbours_in f_neighbours_in d_neighbours_in) {f : Addr} {fd : FuncData} (F : Fun K ("walk_in" : Str) ("walk_in" : Str) s_walk_in f fd) (hm : mg ("walk_in" : Str) = some (.ref f)) : Cal P w K mg base CX0 cls fld 2 ("walk_in" : Str) s_walk_in [("tree" : Str), ("one" : Str), ("two" : Str)] sg_walk_in f fd := by
  refine cal_of (x := ("walk_in" : Str)) (st := s_walk_in) (k := 1) false 3 1 9 df_walk_in [0, 1, 1, 0, 0, 1] [0, 0, 0, 0, 1, 1, 0, 0, 1] rfl F hm sc_walk_in rfl rfl (fun _ _ _ _ _ _ us hl => match us, hl with | [_, _, _], _ => rfl) fun cdv A out s J T' ra hid B hG hr hra => ?_
  exact (ds_cons (m1 := [0, 0, 0, 0, 1, 1, 0, 0, 1]) (ds_post1 (m1 := [0, 0, 0, 1, 1, 1, 0, 0, 1]) (m' := [0, 0, 0, 0, 1, 1, 0, 0, 1]) rfl (ds_par3 (i := 3) (j := 4) (l := 5) rfl sc_walk_in.nd rfl rfl rfl (by decide) (by decide) (by decide) rfl rfl rfl (pn_all rfl) (by rfl) (es_cons (ev_wk (n := 2) (k := 1) (by decide) (ec c_neighbours_in rfl rfl (by decide) hG hr passN rfl (es_cons (ev_n 0 rfl (Or.inl rfl)) (es_cons (ev_atom (n := 0) (ev_wk (n := 1) (k := 0) (by decide) (ev_add (eb_len (n := 0)  rfl T.m_len (es_cons (ev_n 0 rfl (Or.inl rfl)) (es_nil (n := 0)))) (ev_int (n := 0))))) (es_nil (n := 0)))))) (es_cons (ev_dict1 (ev_n 2 rfl (Or.inl rfl)) (ev_int (n := 0))) (es_cons (ev_list (es_cons (ev_n 2 rfl (Or.inl rfl)) (es_nil (n := 0)))) (es_nil (n := 1)))))))
  (ds_cons (m1 := [0, 0, 0, 0, 1, 1, 0, 0, 1]) (ds_while (N := fuelW) PassesOwn.never (et_ne (hu64 hr) (ev_n 5 rfl (Or.inl rfl)) (ev_wk (n := 1) (k := 0) (by decide) (ev_list (es_nil (n := 0))))) (ds_cons (m1 := [0, 0, 0, 0, 1, 1, 0, 0, 1]) (ds_setpop (pp_last (i := 5) rfl (Or.inl rfl) rfl) sc_walk_in.nd (j := 6) rfl (Or.inl rfl) rfl)
  (ds_one (ds_for (os := [7]) PassesOwn.never rfl (by rfl) rfl (pn_all rfl) (iv_seq (fun h => h) (ev_ix (hu64 hr) (fun _ _ => rfl) (ev_n 3 rfl (Or.inl rfl)) (ev_n 6 rfl (Or.inl rfl)))) (pg_name (i := 7) sc_walk_in.nd rfl (Or.inl rfl)) ts_name (ds_one (ds_if (m' := [0, 0, 0, 0, 1, 1, 0, 0, 1]) (et_notIn (hu65 hr) rfl (ev_n 7 rfl (Or.inl rfl)) (ev_n 4 rfl (Or.inl rfl))) (ds_cons (m1 := [0, 0, 0, 0, 1, 1, 0, 0, 1]) (ds_put (k := 0) (hu64 hr) (i := 4) rfl (Or.inl rfl) rfl (by rfl) (by rfl) (ev_n 7 rfl (Or.inl rfl)) (ev_n 6 rfl (Or.inl rfl)))
  (ds_one (ds_app (k := 0) (rc_name (i := 5) rfl (Or.inl rfl) rfl) (by rfl) (ev_n 7 rfl (Or.inl rfl))))) ds_nil))))))
  (ds_cons (m1 := [0, 0, 0, 0, 1, 1, 0, 0, 1]) (ds_asg (i := 8) sc_walk_in.nd rfl (Or.inl rfl) rfl (by rfl) (ev_list (es_cons (ev_n 1 rfl (Or.inl rfl)) (es_nil (n := 0)))))
  (ds_cons (m1 := [0, 0, 0, 0, 1, 1, 0, 0, 1]) (ds_while (N := fuelW) PassesOwn.never (et_ne (hu64 hr) (ev_atom (n := 0) (ev_ix (hu64 hr) (fun _ _ => rfl) (ev_n 8 rfl (Or.inl rfl)) (ev_neg (n := 0) (ev_int (n := 0))))) (ev_n 2 rfl (Or.inl rfl))) (ds_one (ds_app (k := 0) (rc_name (i := 8) rfl (Or.inl rfl) rfl) (by rfl) (ev_atom (n := 0) (ev_ix (hu64 hr) (fun _ _ => rfl) (ev_n 4 rfl (Or.inl rfl)) (ev_atom (n := 0) (ev_ix (hu64 hr) (fun _ _ => rfl) (ev_n 8 rfl (Or.inl rfl)) (ev_neg (n := 0) (ev_int (n := 0))))))))))
  (ds_one (ds_retN (i := 8) rfl (Or.inl rfl) rfl (by decide)))))))
abbrev s_degrees_of : Stmt := top 13
theorem sc_degrees_of : FnScope [("tree" : Str), ("some" : Str)] [("tree" : Str)] (defScope s_degrees_of) := ⟨rfl, rfl, rfl, by decide +kernel, rfl, by decide +kernel, by decide +kernel⟩
def df_degrees_of : DenS :=
  (dsSeq (dsExpr (dCall sg_check_tree (dCons (dN 0) dNil)))
  (dsRet (dLc (dIt oVals (dCall sg_neighbours_in (dCons (dN 0) (dCons (dAtom (dBin oAdd (dFn oLen (dCons (dN 0) dNil)) (dC (.int 1)))) dNil)))) (gtT fl1 [1]) tYesD (dFn oLen (dCons (dN 1) dNil)))))
def sg_degrees_of : Sig := ⟨false, 1, 1, dDef false 2 df_degrees_of⟩
theorem cal_degrees_of (T : Txt mg) {f_check_tree : Addr} {d_check_tree : FuncData} (c_check_tree : Cal P w K mg base CX0 cls fld 5 ("check_tree" : Str) s_check_tree [("tree" : Str)] sg_check_tree f_check_tree d_check_tree) {f_neighbours_in : Addr} {d_neighbours_in : FuncData} (c_neighbours_in : Cal P w K mg base CX0 cls fld 1 ("neighbours_in" : Str) s_neighbours_in [("edges" : Str), ("many" : Str)] sg_neighbours_in f_neighbours_in d_neighbours_in) {f : Addr} {fd : FuncData} (F : Fun K ("degrees_of" : Str) ("degrees_of" : Str) s_degrees_of f fd) (hm : mg ("degrees_of" : Str) = some (.ref f)) : Cal P w K mg base CX0 cls fld 6 ("degrees_of" : Str) s_degrees_of [("tree" : Str)] sg_degrees_of f fd := by
  refine cal_of (x := ("degrees_of" : Str)) (st := s_degrees_of) (k := 5) false 1 1 2 df_degrees_of [0] [0, 0] rfl F hm sc_degrees_of rfl rfl (fun _ _ _ _ _ _ us hl => match us, hl with | [_], _ => rfl) fun cdv A out s J T' ra hid B hG hr hra => ?_
  exact (ds_cons (m1 := [0, 0]) (ds_expr (by rfl) (ev_wk (n := 9) (k := 0) (by decide) (ec c_check_tree rfl rfl (by decide) hG hr passN rfl (es_cons (ev_n 0 rfl (Or.inl rfl)) (es_nil (n := 0))))))
  (ds_one (ds_ret (by rfl) (ev_lc (n := 0) rfl sc_degrees_of.nd (iv_values (ev_wk (n := 2) (k := 0) (by decide) (ec c_neighbours_in rfl rfl (by decide) hG hr passN rfl (es_cons (ev_n 0 rfl (Or.inl rfl)) (es_cons (ev_atom (n := 0) (ev_wk (n := 1) (k := 0) (by decide) (ev_add (eb_len (n := 0)  rfl T.m_len (es_cons (ev_n 0 rfl (Or.inl rfl)) (es_nil (n := 0)))) (ev_int (n := 0))))) (es_nil (n := 0))))))) (own := [(("some" : Str), 1)]) (blk_ok rfl) rfl (fun _ _ _ _ _ => (pg_name (i := 1) sc_degrees_of.nd rfl (Or.inl rfl) (hf := .inr rfl))) (ts_name.tg (pn_all rfl)) (pn_all rfl) (sub_of (by rfl)) (fun _ _ _ _ _ => pts0) (fun _ _ _ _ _ => (eb_len (n := 0)  rfl T.m_len (es_cons (ev_n 1 rfl (Or.inl rfl)) (es_nil (n := 0)))))))))
abbrev s_leaves_of : Stmt := top 14
theorem sc_leaves_of : FnScope [("tree" : Str), ("label" : Str), ("some" : Str)] [("tree" : Str)] (defScope s_leaves_of) := ⟨rfl, rfl, rfl, by decide +kernel, rfl, by decide +kernel, by decide +kernel⟩
def df_leaves_of : DenS :=
  (dsSeq (dsExpr (dCall sg_check_tree (dCons (dN 0) dNil)))
  (dsRet (dLc (dIt oItems (dCall sg_neighbours_in (dCons (dN 0) (dCons (dAtom (dBin oAdd (dFn oLen (dCons (dN 0) dNil)) (dC (.int 1)))) dNil)))) (gtT fl2 [1, 2]) (dTest (dBin oEq (dFn oLen (dCons (dN 2) dNil)) (dC (.int 1)))) (dN 1))))
def sg_leaves_of : Sig := ⟨false, 1, 1, dDef false 3 df_leaves_of⟩
theorem cal_leaves_of (T : Txt mg) {f_check_tree : Addr} {d_check_tree : FuncData} (c_check_tree : Cal P w K mg base CX0 cls fld 5 ("check_tree" : Str) s_check_tree [("tree" : Str)] sg_check_tree f_check_tree d_check_tree) {f_neighbours_in : Addr} {d_neighbours_in : FuncData} (c_neighbours_in : Cal P w K mg base CX0 cls fld 1 ("neighbours_in" : Str) s_neighbours_in [("edges" : Str), ("many" : Str)] sg_neighbours_in f_neighbours_in d_neighbours_in) {f : Addr} {fd : FuncData} (F : Fun K ("leaves_of" : Str) ("leaves_of" : Str) s_leaves_of f fd) (hm : mg ("leaves_of" : Str) = some (.ref f)) : Cal P w K mg base CX0 cls fld 6 ("leaves_of" : Str) s_leaves_of [("tree" : Str)] sg_leaves_of f fd := by
  refine cal_of (x := ("leaves_of" : Str)) (st := s_leaves_of) (k := 5) false 1 1 3 df_leaves_of [0, 0] [0, 0, 0] rfl F hm sc_leaves_of rfl rfl (fun _ _ _ _ _ _ us hl => match us, hl with | [_], _ => rfl) fun cdv A out s J T' ra hid B hG hr hra => ?_
  exact (ds_cons (m1 := [0, 0, 0]) (ds_expr (by rfl) (ev_wk (n := 9) (k := 0) (by decide) (ec c_check_tree rfl rfl (by decide) hG hr passN rfl (es_cons (ev_n 0 rfl (Or.inl rfl)) (es_nil (n := 0))))))
  (ds_one (ds_ret (by rfl) (ev_lc (n := 0) rfl sc_leaves_of.nd (iv_items (ev_wk (n := 2) (k := 0) (by decide) (ec c_neighbours_in rfl rfl (by decide) hG hr passN rfl (es_cons (ev_n 0 rfl (Or.inl rfl)) (es_cons (ev_atom (n := 0) (ev_wk (n := 1) (k := 0) (by decide) (ev_add (eb_len (n := 0)  rfl T.m_len (es_cons (ev_n 0 rfl (Or.inl rfl)) (es_nil (n := 0)))) (ev_int (n := 0))))) (es_nil (n := 0))))))) (own := [(("label" : Str), 1), (("some" : Str), 2)]) (blk_ok rfl) rfl (fun _ _ _ _ _ => (pg_sq rfl (pgs_cons (pg_name (i := 1) sc_leaves_of.nd rfl (Or.inl rfl) (hf := .inr rfl)) (pgs_cons (pg_name (i := 2) sc_leaves_of.nd rfl (Or.inl rfl) (hf := .inr rfl)) pgs_nil)))) (ts_2.tg (pn_all rfl)) (pn_all rfl) (sub_of (by rfl)) (fun _ _ _ _ _ => (pts1 (et_eq (hu64 hr) (eb_len (n := 0)  rfl T.m_len (es_cons (ev_n 2 rfl (Or.inl rfl)) (es_nil (n := 0)))) (ev_int (n := 0))))) (fun _ _ _ _ _ => (ev_n 1 rfl (Or.inl rfl)))))))
abbrev s_walk_of : Stmt := top 15
theorem sc_walk_of : FnScope [("tree" : Str), ("one" : Str), ("two" : Str)] [("tree" : Str), ("one" : Str), ("two" : Str)] (defScope s_walk_of) := ⟨rfl, rfl, rfl, by decide +kernel, rfl, by decide +kernel, by decide +kernel⟩
def df_walk_of : DenS :=
  (dsSeq (dsExpr (dCall sg_check_tree (dCons (dN 0) dNil)))
  (dsSeq (dsExpr (dCall sg_check_label (dCons (dN 1) (dCons (dAtom (dBin oAdd (dFn oLen (dCons (dN 0) dNil)) (dC (.int 1)))) dNil))))
  (dsSeq (dsExpr (dCall sg_check_label (dCons (dN 2) (dCons (dAtom (dBin oAdd (dFn oLen (dCons (dN 0) dNil)) (dC (.int 1)))) dNil))))
  (dsRet (dCall sg_walk_in (dCons (dN 0) (dCons (dN 1) (dCons (dN 2) dNil))))))))
def sg_walk_of : Sig := ⟨false, 3, 1, dDef false 3 df_walk_of⟩
theorem cal_walk_of (T : Txt mg) {f_check_tree : Addr} {d_check_tree : FuncData} (c_check_tree : Cal P w K mg base CX0 cls fld 5 ("check_tree" : Str) s_check_tree [("tree" : Str)] sg_check_tree f_check_tree d_check_tree) {f_check_label : Addr} {d_check_label : FuncData} (c_check_label : Cal P w K mg base CX0 cls fld 3 ("check_label" : Str) s_check_label [("label" : Str), ("many" : Str)] sg_check_label f_check_label d_check_label) {f_walk_in : Addr} {d_walk_in : FuncData} (c_walk_in : Cal P w K mg base CX0 cls fld 2 ("walk_in" : Str) s_walk_in [("tree" : Str), ("one" : Str), ("two" : Str)] sg_walk_in f_walk_in d_walk_in) {f : Addr} {fd : FuncData} (F : Fun K ("walk_of" : Str) ("walk_of" : Str) s_walk_of f fd) (hm : mg ("walk_of" : Str) = some (.ref f)) : Cal P w K mg base CX0 cls fld 6 ("walk_of" : Str) s_walk_of [("tree" : Str), ("one" : Str), ("two" : Str)] sg_walk_of f fd := by
  refine cal_of (x := ("walk_of" : Str)) (st := s_walk_of) (k := 5) false 3 1 3 df_walk_of [] [0, 0, 0] rfl F hm sc_walk_of rfl rfl (fun _ _ _ _ _ _ us hl => match us, hl with | [_, _, _], _ => rfl) fun cdv A out s J T' ra hid B hG hr hra => ?_
  exact (ds_cons (m1 := [0, 0, 0]) (ds_expr (by rfl) (ev_wk (n := 9) (k := 0) (by decide) (ec c_check_tree rfl rfl (by decide) hG hr passN rfl (es_cons (ev_n 0 rfl (Or.inl rfl)) (es_nil (n := 0))))))
  (ds_cons (m1 := [0, 0, 0]) (ds_expr (by rfl) (ev_wk (n := 9) (k := 0) (by decide) (ec c_check_label rfl rfl (by decide) hG hr passN rfl (es_cons (ev_n 1 rfl (Or.inl rfl)) (es_cons (ev_atom (n := 0) (ev_wk (n := 1) (k := 0) (by decide) (ev_add (eb_len (n := 0)  rfl T.m_len (es_cons (ev_n 0 rfl (Or.inl rfl)) (es_nil (n := 0)))) (ev_int (n := 0))))) (es_nil (n := 0)))))))
  (ds_cons (m1 := [0, 0, 0]) (ds_expr (by rfl) (ev_wk (n := 9) (k := 0) (by decide) (ec c_check_label rfl rfl (by decide) hG hr passN rfl (es_cons (ev_n 2 rfl (Or.inl rfl)) (es_cons (ev_atom (n := 0) (ev_wk (n := 1) (k := 0) (by decide) (ev_add (eb_len (n := 0)  rfl T.m_len (es_cons (ev_n 0 rfl (Or.inl rfl)) (es_nil (n := 0)))) (ev_int (n := 0))))) (es_nil (n := 0)))))))
  (ds_one (ds_ret (by rfl) (ec c_walk_in rfl rfl (by decide) hG hr passN rfl (es_cons (ev_n 0 rfl (Or.inl rfl)) (es_cons (ev_n 1 rfl (Or.inl rfl)) (es_cons (ev_n 2 rfl (Or.inl rfl)) (es_nil (n := 0)))))))))))
abbrev s__law_next : Stmt := top 18
theorem sc__law_next : FnScope [("_law_draws_here" : Str), ("_law_k" : Str), ("_law_number" : Str)] [("_law_draws_here" : Str)] (defScope s__law_next) := ⟨rfl, rfl, rfl, by decide +kernel, rfl, by decide +kernel, by decide +kernel⟩
def df__law_next : DenS :=
  (dsSeq (dsRset 1 (dAtom (dBin oAdd (dRng 1) (dC (.int 1)))))
  (dsSeq (dsAsg 1 (dRng 1))
  (dsSeq (dsIf (dTruth (dRng 2)) (dsSeq (dsAsg 2 (dBin oMod (dFn oInt (dCons (dRng 0) dNil)) (dBin oPow (dC (.int 10)) (dC (.int 6)))))
  (dsSeq (dsRset 0 (dBin oDiv (dRng 0) (dBin oPow (dC (.int 10)) (dC (.int 6)))))
  (dsRet (dAtom (dN 2))))) dsNil)
  (dsSeq (dsAsg 2 (dBin oMod (dFn oInt (dCons (dAtom (dBin oMul (dAtom (dBin oAdd (dAtom (dBin oAdd (dBin oMod (dFn oInt (dCons (dRng 0) dNil)) (dC (.int 1000003))) (dAtom (dBin oMul (dAtom (dBin oMul (dN 1) (dN 1))) (dC (.int 7919)))))) (dN 1))) (dC (.int 48271)))) dNil)) (dC (.int 2147483629))))
  (dsSeq (dsAsg 2 (dBin oMod (dFn oInt (dCons (dAtom (dBin oMul (dN 2) (dN 2))) dNil)) (dC (.int 2147483587))))
  (dsRet (dBin oDiv (dBin oMod (dFn oInt (dCons (dAtom (dBin oMul (dN 2) (dAtom (dBin oAdd (dN 2) (dC (.int 2)))))) dNil)) (dC (.int 2147483579))) (dC (.int 7)))))))))
def sg__law_next : Sig := ⟨true, 0, 9, dDef true 3 df__law_next⟩
theorem cal__law_next (T : Txt mg)  {f : Addr} {fd : FuncData} (F : Fun K ("_law_next" : Str) ("_law_next" : Str) s__law_next f fd) (hm : mg ("_law_next" : Str) = some (.ref f)) : Cal P w K mg base CX0 cls fld 1 ("_law_next" : Str) s__law_next [("_law_draws_here" : Str)] sg__law_next f fd := by
  refine cal_of (x := ("_law_next" : Str)) (st := s__law_next) (k := 0) true 0 9 3 df__law_next [0, 0] [0, 0, 0] rfl F hm sc__law_next rfl rfl (fun _ _ _ _ _ _ us hl => match us, hl with | [_], _ => rfl) fun cdv A out s J T' ra hid B hG hr hra => ?_
  exact (ds_cons (m1 := [0, 0, 0]) (ds_rset 1 (by decide) (hra rfl) 0 rfl rfl (Or.inl rfl) (by rfl) (ev_atom (n := 0) (ev_wk (n := 1) (k := 0) (by decide) (ev_add (ev_rng (n := 0) 1 (by decide) (hra rfl) 0 rfl rfl (Or.inl rfl)) (ev_int (n := 0))))))
  (ds_cons (m1 := [0, 0, 0]) (ds_asg (i := 1) sc__law_next.nd rfl (Or.inl rfl) rfl (by rfl) (ev_rng (n := 0) 1 (by decide) (hra rfl) 0 rfl rfl (Or.inl rfl)))
  (ds_cons (m1 := [0, 0, 0]) (ds_if (m' := [0, 0, 0]) (et_val (ev_rng (n := 0) 2 (by decide) (hra rfl) 0 rfl rfl (Or.inl rfl))) (ds_cons (m1 := [0, 0, 0]) (ds_asg (i := 2) sc__law_next.nd rfl (Or.inl rfl) rfl (by rfl) (ev_mod (n := 0) (eb_int (n := 0)  rfl T.m_int (es_cons (ev_rng (n := 0) 0 (by decide) (hra rfl) 0 rfl rfl (Or.inl rfl)) (es_nil (n := 0)))) (ev_pow (n := 0) (ev_int (n := 0)) (ev_int (n := 0)))))
  (ds_cons (m1 := [0, 0, 0]) (ds_rset 0 (by decide) (hra rfl) 0 rfl rfl (Or.inl rfl) (by rfl) (ev_div (n := 0) (ev_rng (n := 0) 0 (by decide) (hra rfl) 0 rfl rfl (Or.inl rfl)) (ev_pow (n := 0) (ev_int (n := 0)) (ev_int (n := 0)))))
  (ds_one (ds_ret (by rfl) (ev_atom (n := 9) (ev_n 2 rfl (Or.inl rfl))))))) ds_nil)
  (ds_cons (m1 := [0, 0, 0]) (ds_asg (i := 2) sc__law_next.nd rfl (Or.inl rfl) rfl (by rfl) (ev_mod (n := 0) (eb_int (n := 0)  rfl T.m_int (es_cons (ev_atom (n := 0) (ev_wk (n := 1) (k := 0) (by decide) (ev_mul (ev_atom (n := 0) (ev_wk (n := 1) (k := 0) (by decide) (ev_add (ev_atom (n := 0) (ev_wk (n := 1) (k := 0) (by decide) (ev_add (ev_mod (n := 0) (eb_int (n := 0)  rfl T.m_int (es_cons (ev_rng (n := 0) 0 (by decide) (hra rfl) 0 rfl rfl (Or.inl rfl)) (es_nil (n := 0)))) (ev_int (n := 0))) (ev_atom (n := 0) (ev_wk (n := 1) (k := 0) (by decide) (ev_mul (ev_atom (n := 0) (ev_wk (n := 1) (k := 0) (by decide) (ev_mul (ev_n 1 rfl (Or.inl rfl)) (ev_n 1 rfl (Or.inl rfl))))) (ev_int (n := 0)))))))) (ev_n 1 rfl (Or.inl rfl))))) (ev_int (n := 0))))) (es_nil (n := 0)))) (ev_int (n := 0))))
  (ds_cons (m1 := [0, 0, 0]) (ds_asg (i := 2) sc__law_next.nd rfl (Or.inl rfl) rfl (by rfl) (ev_mod (n := 0) (eb_int (n := 0)  rfl T.m_int (es_cons (ev_atom (n := 0) (ev_wk (n := 1) (k := 0) (by decide) (ev_mul (ev_n 2 rfl (Or.inl rfl)) (ev_n 2 rfl (Or.inl rfl))))) (es_nil (n := 0)))) (ev_int (n := 0))))
  (ds_one (ds_ret (by rfl) (ev_div (n := 9) (ev_mod (n := 0) (eb_int (n := 0)  rfl T.m_int (es_cons (ev_atom (n := 0) (ev_wk (n := 1) (k := 0) (by decide) (ev_mul (ev_n 2 rfl (Or.inl rfl)) (ev_atom (n := 0) (ev_wk (n := 1) (k := 0) (by decide) (ev_add (ev_n 2 rfl (Or.inl rfl)) (ev_int (n := 0)))))))) (es_nil (n := 0)))) (ev_int (n := 0))) (ev_int (n := 0))))))))))
abbrev s__law_wood : Stmt := top 19
theorem sc__law_wood : FnScope [("_law_draws_here" : Str), ("_law_most" : Str), ("_law_figure" : Str), ("_law_left" : Str), ("_law_line" : Str), ("_law_kind" : Str), ("_law_told" : Str), ("_law_at" : Str), ("_law_pick" : Str), ("_law_above" : Str)] [("_law_draws_here" : Str), ("_law_most" : Str)] (defScope s__law_wood) := ⟨rfl, rfl, rfl, by decide +kernel, rfl, by decide +kernel, by decide +kernel⟩
def df__law_wood : DenS :=
  (dsSeq (dsAsg 2 (dAtom (dBin oAdd (dC (.int 2)) (dBin oMod (dFn oInt (dCons (dAtom (dCall sg__law_next dNil)) dNil)) (dBin oSub (dN 1) (dC (.int 1)))))))
  (dsSeq (dsAsg 3 (dListRg oRange2 (dCons (dC (.int 1)) (dCons (dAtom (dBin oAdd (dN 2) (dC (.int 1)))) dNil))))
  (dsSeq (dsAsg 4 (dFn oList dNil))
  (dsSeq (dsWhile fuelW (dTest (dBin oNe (dN 3) (dFn oList dNil))) (dsAppPop 4 3 (fpAt 3 (dBin oMod (dFn oInt (dCons (dAtom (dCall sg__law_next dNil)) dNil)) (dFn oLen (dCons (dN 3) dNil))))))
  (dsSeq (dsAsg 5 (dBin oMod (dFn oInt (dCons (dAtom (dCall sg__law_next dNil)) dNil)) (dC (.int 5))))
  (dsSeq (dsAsg 6 (dFn oList dNil))
  (dsSeq (dsFor (dIts oRange2 (dCons (dC (.int 1)) (dCons (dN 2) dNil))) (gtT fl1 [7]) (dsSeq (dsAsg 8 (dFn oInt (dCons (dAtom (dCall sg__law_next dNil)) dNil)))
  (dsSeq (dsAsg 9 (dBin oIx (dFn oList (dCons (dBin oIx (dN 4) (dBin oMod (dN 8) (dN 7))) (dCons (dBin oIx (dN 4) (dBin oSub (dN 7) (dC (.int 1)))) (dCons (dBin oIx (dN 4) (dC (.int 0))) (dCons (dBin oIx (dN 4) (dBin oDiv (dFn oInt (dCons (dBin oSub (dN 7) (dC (.int 1))) dNil)) (dC (.int 2)))) (dCons (dBin oIx (dN 4) (dFn oMax2 (dCons (dC (.int 0)) (dCons (dBin oSub (dBin oSub (dN 7) (dC (.int 1))) (dBin oMod (dN 8) (dC (.int 3)))) dNil)))) dNil)))))) (dN 5)))
  (dsIns 6 (dBin oMod (dBin oDiv (dN 8) (dC (.int 64))) (dAtom (dBin oAdd (dFn oLen (dCons (dN 6) dNil)) (dC (.int 1))))) (dFn oList (dCons (dFn oMin2 (dCons (dN 9) (dCons (dBin oIx (dN 4) (dN 7)) dNil))) (dCons (dFn oMax2 (dCons (dN 9) (dCons (dBin oIx (dN 4) (dN 7)) dNil))) dNil)))))))
  (dsRetN 6))))))))
def sg__law_wood : Sig := ⟨true, 1, 1, dDef true 10 df__law_wood⟩
theorem cal__law_wood (T : Txt mg) {f__law_next : Addr} {d__law_next : FuncData} (c__law_next : Cal P w K mg base CX0 cls fld 1 ("_law_next" : Str) s__law_next [("_law_draws_here" : Str)] sg__law_next f__law_next d__law_next) {f : Addr} {fd : FuncData} (F : Fun K ("_law_wood" : Str) ("_law_wood" : Str) s__law_wood f fd) (hm : mg ("_law_wood" : Str) = some (.ref f)) : Cal P w K mg base CX0 cls fld 2 ("_law_wood" : Str) s__law_wood [("_law_draws_here" : Str), ("_law_most" : Str)] sg__law_wood f fd := by
  refine cal_of (x := ("_law_wood" : Str)) (st := s__law_wood) (k := 1) true 1 1 10 df__law_wood [0, 1, 1, 0, 1, 0, 0, 0] [0, 0, 0, 1, 1, 0, 1, 0, 0, 0] rfl F hm sc__law_wood rfl rfl (fun _ _ _ _ _ _ us hl => match us, hl with | [_, _], _ => rfl) fun cdv A out s J T' ra hid B hG hr hra => ?_
  exact (ds_cons (m1 := [0, 0, 0, 1, 1, 0, 1, 0, 0, 0]) (ds_asg (i := 2) sc__law_wood.nd rfl (Or.inl rfl) rfl (by rfl) (ev_atom (n := 0) (ev_wk (n := 1) (k := 0) (by decide) (ev_add (ev_int (n := 0)) (ev_mod (n := 0) (eb_int (n := 0)  rfl T.m_int (es_cons (ev_atom (n := 0) (ev_wk (n := 9) (k := 0) (by decide) (ecR c__law_next 0 rfl rfl (by decide) (hra rfl) rfl rfl (Or.inl rfl) hG hr passN rfl (es_nil (n := 0))))) (es_nil (n := 0)))) (ev_sub (n := 0) (ev_n 1 rfl (Or.inl rfl)) (ev_int (n := 0))))))))
  (ds_cons (m1 := [0, 0, 0, 1, 1, 0, 1, 0, 0, 0]) (ds_asg (i := 3) sc__law_wood.nd rfl (Or.inl rfl) rfl (by rfl) (ev_listRg2 (n := 0) rfl rfl T.m_list rfl T.m_range (ev_int (n := 0)) (ev_atom (n := 0) (ev_wk (n := 1) (k := 0) (by decide) (ev_add (ev_n 2 rfl (Or.inl rfl)) (ev_int (n := 0)))))))
  (ds_cons (m1 := [0, 0, 0, 1, 1, 0, 1, 0, 0, 0]) (ds_asg (i := 4) sc__law_wood.nd rfl (Or.inl rfl) rfl (by rfl) (ev_list (es_nil (n := 0))))
  (ds_cons (m1 := [0, 0, 0, 1, 1, 0, 1, 0, 0, 0]) (ds_while (N := fuelW) PassesOwn.never (et_ne (hu64 hr) (ev_n 3 rfl (Or.inl rfl)) (ev_wk (n := 1) (k := 0) (by decide) (ev_list (es_nil (n := 0))))) (ds_one (ds_apppop (pp_at (i := 3) rfl (Or.inl rfl) rfl (by rfl) (ev_mod (n := 0) (eb_int (n := 0)  rfl T.m_int (es_cons (ev_atom (n := 0) (ev_wk (n := 9) (k := 0) (by decide) (ecR c__law_next 0 rfl rfl (by decide) (hra rfl) rfl rfl (Or.inl rfl) hG hr passN rfl (es_nil (n := 0))))) (es_nil (n := 0)))) (eb_len (n := 0)  rfl T.m_len (es_cons (ev_n 3 rfl (Or.inl rfl)) (es_nil (n := 0)))))) (j := 4) rfl (Or.inl rfl) rfl)))
  (ds_cons (m1 := [0, 0, 0, 1, 1, 0, 1, 0, 0, 0]) (ds_asg (i := 5) sc__law_wood.nd rfl (Or.inl rfl) rfl (by rfl) (ev_mod (n := 0) (eb_int (n := 0)  rfl T.m_int (es_cons (ev_atom (n := 0) (ev_wk (n := 9) (k := 0) (by decide) (ecR c__law_next 0 rfl rfl (by decide) (hra rfl) rfl rfl (Or.inl rfl) hG hr passN rfl (es_nil (n := 0))))) (es_nil (n := 0)))) (ev_int (n := 0))))
  (ds_cons (m1 := [0, 0, 0, 1, 1, 0, 1, 0, 0, 0]) (ds_asg (i := 6) sc__law_wood.nd rfl (Or.inl rfl) rfl (by rfl) (ev_list (es_nil (n := 0))))
  (ds_cons (m1 := [0, 0, 0, 1, 0, 0, 1, 0, 0, 0]) (ds_low1 (m := [0, 0, 0, 1, 1, 0, 1, 0, 0, 0]) (m1 := [0, 0, 0, 1, 0, 0, 1, 0, 0, 0]) rfl (ds_for (os := [7]) PassesOwn.never rfl (by rfl) rfl (pn_all rfl) (iv_range2 (fun h => h) rfl T.m_range (es_cons (ev_int (n := 0)) (es_cons (ev_n 2 rfl (Or.inl rfl)) (es_nil (n := 0))))) (pg_name (i := 7) sc__law_wood.nd rfl (Or.inl rfl)) ts_name (ds_cons (m1 := [0, 0, 0, 1, 0, 0, 1, 0, 0, 0]) (ds_asg (i := 8) sc__law_wood.nd rfl (Or.inl rfl) rfl (by rfl) (eb_int (n := 0)  rfl T.m_int (es_cons (ev_atom (n := 0) (ev_wk (n := 9) (k := 0) (by decide) (ecR c__law_next 0 rfl rfl (by decide) (hra rfl) rfl rfl (Or.inl rfl) hG hr passN rfl (es_nil (n := 0))))) (es_nil (n := 0)))))
  (ds_cons (m1 := [0, 0, 0, 1, 0, 0, 1, 0, 0, 0]) (ds_asg (i := 9) sc__law_wood.nd rfl (Or.inl rfl) rfl (by rfl) (ev_ix (hu64 hr) (fun _ _ => rfl) (ev_wk (n := 1) (k := 0) (by decide) (ev_list (es_cons (ev_ix (hu64 hr) (fun _ _ => rfl) (ev_n 4 rfl (Or.inl rfl)) (ev_mod (n := 0) (ev_n 8 rfl (Or.inl rfl)) (ev_n 7 rfl (Or.inl rfl)))) (es_cons (ev_ix (hu64 hr) (fun _ _ => rfl) (ev_n 4 rfl (Or.inl rfl)) (ev_sub (n := 0) (ev_n 7 rfl (Or.inl rfl)) (ev_int (n := 0)))) (es_cons (ev_ix (hu64 hr) (fun _ _ => rfl) (ev_n 4 rfl (Or.inl rfl)) (ev_int (n := 0))) (es_cons (ev_ix (hu64 hr) (fun _ _ => rfl) (ev_n 4 rfl (Or.inl rfl)) (ev_div (n := 0) (eb_int (n := 0)  rfl T.m_int (es_cons (ev_sub (n := 0) (ev_n 7 rfl (Or.inl rfl)) (ev_int (n := 0))) (es_nil (n := 0)))) (ev_int (n := 0)))) (es_cons (ev_ix (hu64 hr) (fun _ _ => rfl) (ev_n 4 rfl (Or.inl rfl)) (eb_max2 (n := 0) rfl rfl T.m_max (es_cons (ev_int (n := 0)) (es_cons (ev_sub (n := 0) (ev_sub (n := 0) (ev_n 7 rfl (Or.inl rfl)) (ev_int (n := 0))) (ev_mod (n := 0) (ev_n 8 rfl (Or.inl rfl)) (ev_int (n := 0)))) (es_nil (n := 0)))))) (es_nil (n := 0))))))))) (ev_n 5 rfl (Or.inl rfl))))
  (ds_one (ds_ins (k := 0) (i := 6) rfl (Or.inl rfl) rfl (by rfl) (by rfl) (ev_mod (n := 0) (ev_div (n := 0) (ev_n 8 rfl (Or.inl rfl)) (ev_int (n := 0))) (ev_atom (n := 0) (ev_wk (n := 1) (k := 0) (by decide) (ev_add (eb_len (n := 0)  rfl T.m_len (es_cons (ev_n 6 rfl (Or.inl rfl)) (es_nil (n := 0)))) (ev_int (n := 0)))))) (ev_wk (n := 1) (k := 0) (by decide) (ev_list (es_cons (eb_min2 (n := 0) rfl rfl T.m_min (es_cons (ev_n 9 rfl (Or.inl rfl)) (es_cons (ev_ix (hu64 hr) (fun _ _ => rfl) (ev_n 4 rfl (Or.inl rfl)) (ev_n 7 rfl (Or.inl rfl))) (es_nil (n := 0))))) (es_cons (eb_max2 (n := 0) rfl rfl T.m_max (es_cons (ev_n 9 rfl (Or.inl rfl)) (es_cons (ev_ix (hu64 hr) (fun _ _ => rfl) (ev_n 4 rfl (Or.inl rfl)) (ev_n 7 rfl (Or.inl rfl))) (es_nil (n := 0))))) (es_nil (n := 0))))))))))))
  (ds_one (ds_retN (i := 6) rfl (Or.inl rfl) rfl (by decide))))))))))
abbrev s__law_mates : Stmt := top 20
theorem sc__law_mates : FnScope [("_law_pairs" : Str), ("_law_spot" : Str), ("_law_pair" : Str)] [("_law_pairs" : Str), ("_law_spot" : Str)] (defScope s__law_mates) := ⟨rfl, rfl, rfl, by decide +kernel, rfl, by decide +kernel, by decide +kernel⟩
def df__law_mates : DenS :=
  (dsRet (dLc (dIt seqD (dN 0)) (gtT fl1 [2]) (dTest (dBin oIn (dN 1) (dN 2))) (dBin oSub (dAtom (dBin oAdd (dAtom (dBin oIx (dN 2) (dC (.int 0)))) (dAtom (dBin oIx (dN 2) (dC (.int 1)))))) (dN 1))))
def sg__law_mates : Sig := ⟨false, 2, 1, dDef false 3 df__law_mates⟩
theorem cal__law_mates (T : Txt mg)  {f : Addr} {fd : FuncData} (F : Fun K ("_law_mates" : Str) ("_law_mates" : Str) s__law_mates f fd) (hm : mg ("_law_mates" : Str) = some (.ref f)) : Cal P w K mg base CX0 cls fld 1 ("_law_mates" : Str) s__law_mates [("_law_pairs" : Str), ("_law_spot" : Str)] sg__law_mates f fd := by
  refine cal_of (x := ("_law_mates" : Str)) (st := s__law_mates) (k := 0) false 2 1 3 df__law_mates [0] [0, 0, 0] rfl F hm sc__law_mates rfl rfl (fun _ _ _ _ _ _ us hl => match us, hl with | [_, _], _ => rfl) fun cdv A out s J T' ra hid B hG hr hra => ?_
  exact (ds_one (ds_ret (by rfl) (ev_lc (n := 0) rfl sc__law_mates.nd (iv_seq Beg.free (ev_n 0 rfl (Or.inl rfl))) (own := [(("_law_pair" : Str), 2)]) (blk_ok rfl) rfl (fun _ _ _ _ _ => (pg_name (i := 2) sc__law_mates.nd rfl (Or.inl rfl) (hf := .inr rfl))) (ts_name.tg (pn_all rfl)) (pn_all rfl) (sub_of (by rfl)) (fun _ _ _ _ _ => (pts1 (et_in (hu65 hr) rfl (ev_n 1 rfl (Or.inr (Or.inl rfl))) (ev_n 2 rfl (Or.inl rfl))))) (fun _ _ _ _ _ => (ev_sub (n := 0) (ev_atom (n := 0) (ev_wk (n := 1) (k := 0) (by decide) (ev_add (ev_atom (n := 0) (ev_ix (hu64 hr) (fun _ _ => rfl) (ev_n 2 rfl (Or.inl rfl)) (ev_int (n := 0)))) (ev_atom (n := 0) (ev_ix (hu64 hr) (fun _ _ => rfl) (ev_n 2 rfl (Or.inl rfl)) (ev_int (n := 0))))))) (ev_n 1 rfl (Or.inr (Or.inl rfl))))))))
abbrev s__law_first_row : Stmt := top 21
theorem sc__law_first_row : FnScope [("_law_pairs" : Str), ("_law_spot" : Str)] [("_law_pairs" : Str)] (defScope s__law_first_row) := ⟨rfl, rfl, rfl, by decide +kernel, rfl, by decide +kernel, by decide +kernel⟩
def df__law_first_row : DenS :=
  (dsRet (dLc (dIts oRange2 (dCons (dC (.int 1)) (dCons (dAtom (dBin oAdd (dFn oLen (dCons (dN 0) dNil)) (dC (.int 2)))) dNil))) (gtT fl1 [1]) (dTest (dBin oEq (dFn oLen (dCons (dCall sg__law_mates (dCons (dN 0) (dCons (dN 1) dNil))) dNil)) (dC (.int 1)))) (dN 1)))
def sg__law_first_row : Sig := ⟨false, 1, 1, dDef false 2 df__law_first_row⟩
theorem cal__law_first_row (T : Txt mg) {f__law_mates : Addr} {d__law_mates : FuncData} (c__law_mates : Cal P w K mg base CX0 cls fld 1 ("_law_mates" : Str) s__law_mates [("_law_pairs" : Str), ("_law_spot" : Str)] sg__law_mates f__law_mates d__law_mates) {f : Addr} {fd : FuncData} (F : Fun K ("_law_first_row" : Str) ("_law_first_row" : Str) s__law_first_row f fd) (hm : mg ("_law_first_row" : Str) = some (.ref f)) : Cal P w K mg base CX0 cls fld 2 ("_law_first_row" : Str) s__law_first_row [("_law_pairs" : Str)] sg__law_first_row f fd := by
  refine cal_of (x := ("_law_first_row" : Str)) (st := s__law_first_row) (k := 1) false 1 1 2 df__law_first_row [0] [0, 0] rfl F hm sc__law_first_row rfl rfl (fun _ _ _ _ _ _ us hl => match us, hl with | [_], _ => rfl) fun cdv A out s J T' ra hid B hG hr hra => ?_
  exact (ds_one (ds_ret (by rfl) (ev_lc (n := 0) rfl sc__law_first_row.nd (iv_range2 Beg.free rfl T.m_range (es_cons (ev_int (n := 0)) (es_cons (ev_atom (n := 0) (ev_wk (n := 1) (k := 0) (by decide) (ev_add (eb_len (n := 0)  rfl T.m_len (es_cons (ev_n 0 rfl (Or.inr (Or.inl rfl))) (es_nil (n := 0)))) (ev_int (n := 0))))) (es_nil (n := 0))))) (own := [(("_law_spot" : Str), 1)]) (blk_ok rfl) rfl (fun _ _ _ _ _ => (pg_name (i := 1) sc__law_first_row.nd rfl (Or.inl rfl) (hf := .inr rfl))) (ts_name.tg (pn_all rfl)) (pn_all rfl) (sub_of (by rfl)) (fun _ _ _ _ _ => (pts1 (et_eq (hu64 hr) (eb_len (n := 0)  rfl T.m_len (es_cons (ev_wk (n := 1) (k := 0) (by decide) (ec c__law_mates rfl rfl (by decide) hG hr passN rfl (es_cons (ev_n 0 rfl (Or.inr (Or.inl rfl))) (es_cons (ev_n 1 rfl (Or.inl rfl)) (es_nil (n := 0)))))) (es_nil (n := 0)))) (ev_int (n := 0))))) (fun _ _ _ _ _ => (ev_n 1 rfl (Or.inl rfl))))))
theorem kw_degrees_of_0_tree {f : Addr} {fd : FuncData} (F : Cal P w K mg base CX0 cls fld 6 ("degrees_of" : Str) s_degrees_of [("tree" : Str)] sg_degrees_of f fd) : KwB K fd [("tree" : Str)] [("tree" : Str)] [0] 0 1 :=
  kwb_of F.fn fun _ _ _ _ _ _ us ws h1 h2 => match us, ws, h1, h2 with | [], [_], _, _ => rfl
theorem kw_leaves_of_0_tree {f : Addr} {fd : FuncData} (F : Cal P w K mg base CX0 cls fld 6 ("leaves_of" : Str) s_leaves_of [("tree" : Str)] sg_leaves_of f fd) : KwB K fd [("tree" : Str)] [("tree" : Str)] [0] 0 1 :=
  kwb_of F.fn fun _ _ _ _ _ _ us ws h1 h2 => match us, ws, h1, h2 with | [], [_], _, _ => rfl
abbrev s__law_right : Stmt := top 24
theorem sc__law_right : FnScope [("_law_wood_here" : Str), ("_law_before" : Str), ("_law_due" : Str), ("_law_spot" : Str), ("_law_told" : Str)] [("_law_wood_here" : Str)] (defScope s__law_right) := ⟨rfl, rfl, rfl, by decide +kernel, rfl, by decide +kernel, by decide +kernel⟩
def df__law_right : DenS :=
  (dsSeq (dsAsg 1 (dFn oRepr (dCons (dN 0) dNil)))
  (dsSeq (dsAsg 2 (dFn oList (dCons (dLc (dIts oRange2 (dCons (dC (.int 1)) (dCons (dAtom (dBin oAdd (dFn oLen (dCons (dN 0) dNil)) (dC (.int 2)))) dNil))) (gtT fl1 [3]) tYesD (dFn oLen (dCons (dCall sg__law_mates (dCons (dN 0) (dCons (dN 3) dNil))) dNil))) (dCons (dCall sg__law_first_row (dCons (dN 0) dNil)) dNil))))
  (dsSeq (dsAsg 4 (dFn oList (dCons (dCall sg_degrees_of (dCons (dN 0) dNil)) (dCons (dCall sg_leaves_of (dCons (dN 0) dNil)) dNil))))
  (dsSeq (dsIf (dTest (dBin oNe (dFn oRepr (dCons (dFn oList (dCons (dN 4) (dCons (dFn oList (dCons (dCallK sg_degrees_of [0] dNil (dCons (dN 0) dNil)) (dCons (dCallK sg_leaves_of [0] dNil (dCons (dN 0) dNil)) dNil))) dNil))) dNil)) (dFn oRepr (dCons (dFn oList (dCons (dN 2) (dCons (dN 2) dNil))) dNil)))) (dsRet (dC (.bool false))) dsNil)
  (dsSeq (dsIf (dTest (dBin oNe (dFn oRepr (dCons (dN 0) dNil)) (dN 1))) (dsRet (dC (.bool false))) dsNil)
  (dsSeq (dsApp (fcIx 4 (dC (.int 0))) 4 (dC .none))
  (dsSeq (dsApp (fcIx 4 (dC (.int 1))) 4 (dC .none))
  (dsRet (dAndV (dBin oEq (dFn oRepr (dCons (dFn oList (dCons (dCall sg_degrees_of (dCons (dN 0) dNil)) (dCons (dCall sg_leaves_of (dCons (dN 0) dNil)) dNil))) dNil)) (dFn oRepr (dCons (dN 2) dNil))) (dBin oEq (dFn oRepr (dCons (dN 0) dNil)) (dN 1)))))))))))
def sg__law_right : Sig := ⟨false, 1, 9, dDef false 5 df__law_right⟩
theorem cal__law_right (T : Txt mg) {f__law_mates : Addr} {d__law_mates : FuncData} (c__law_mates : Cal P w K mg base CX0 cls fld 1 ("_law_mates" : Str) s__law_mates [("_law_pairs" : Str), ("_law_spot" : Str)] sg__law_mates f__law_mates d__law_mates) {f__law_first_row : Addr} {d__law_first_row : FuncData} (c__law_first_row : Cal P w K mg base CX0 cls fld 2 ("_law_first_row" : Str) s__law_first_row [("_law_pairs" : Str)] sg__law_first_row f__law_first_row d__law_first_row) {f_degrees_of : Addr} {d_degrees_of : FuncData} (c_degrees_of : Cal P w K mg base CX0 cls fld 6 ("degrees_of" : Str) s_degrees_of [("tree" : Str)] sg_degrees_of f_degrees_of d_degrees_of) {f_leaves_of : Addr} {d_leaves_of : FuncData} (c_leaves_of : Cal P w K mg base CX0 cls fld 6 ("leaves_of" : Str) s_leaves_of [("tree" : Str)] sg_leaves_of f_leaves_of d_leaves_of) {f : Addr} {fd : FuncData} (F : Fun K ("_law_right" : Str) ("_law_right" : Str) s__law_right f fd) (hm : mg ("_law_right" : Str) = some (.ref f)) : Cal P w K mg base CX0 cls fld 7 ("_law_right" : Str) s__law_right [("_law_wood_here" : Str)] sg__law_right f fd := by
  refine cal_of (x := ("_law_right" : Str)) (st := s__law_right) (k := 6) false 1 9 5 df__law_right [0, 0, 0, 2] [0, 0, 0, 0, 2] rfl F hm sc__law_right rfl rfl (fun _ _ _ _ _ _ us hl => match us, hl with | [_], _ => rfl) fun cdv A out s J T' ra hid B hG hr hra => ?_
  exact (ds_cons (m1 := [0, 0, 0, 0, 2]) (ds_asg (i := 1) sc__law_right.nd rfl (Or.inl rfl) rfl (by rfl) (eb_repr (n := 0)  hG (hu65 hr) rfl T.m_repr (es_cons (ev_n 0 rfl (Or.inr (Or.inl rfl))) (es_nil (n := 0)))))
  (ds_cons (m1 := [0, 0, 0, 0, 2]) (ds_asg (i := 2) sc__law_right.nd rfl (Or.inl rfl) rfl (by rfl) (ev_wk (n := 2) (k := 0) (by decide) (ev_list (es_cons (ev_lc (n := 0) rfl sc__law_right.nd (iv_range2 Beg.free rfl T.m_range (es_cons (ev_int (n := 0)) (es_cons (ev_atom (n := 0) (ev_wk (n := 1) (k := 0) (by decide) (ev_add (eb_len (n := 0)  rfl T.m_len (es_cons (ev_n 0 rfl (Or.inr (Or.inl rfl))) (es_nil (n := 0)))) (ev_int (n := 0))))) (es_nil (n := 0))))) (own := [(("_law_spot" : Str), 3)]) (blk_ok rfl) rfl (fun _ _ _ _ _ => (pg_name (i := 3) sc__law_right.nd rfl (Or.inl rfl) (hf := .inr rfl))) (ts_name.tg (pn_all rfl)) (pn_all rfl) (sub_of (by rfl)) (fun _ _ _ _ _ => pts0) (fun _ _ _ _ _ => (eb_len (n := 0)  rfl T.m_len (es_cons (ev_wk (n := 1) (k := 0) (by decide) (ec c__law_mates rfl rfl (by decide) hG hr passN rfl (es_cons (ev_n 0 rfl (Or.inr (Or.inl rfl))) (es_cons (ev_n 3 rfl (Or.inl rfl)) (es_nil (n := 0)))))) (es_nil (n := 0)))))) (es_cons (ec c__law_first_row rfl rfl (by decide) hG hr passN rfl (es_cons (ev_n 0 rfl (Or.inr (Or.inl rfl))) (es_nil (n := 0)))) (es_nil (n := 1)))))))
  (ds_cons (m1 := [0, 0, 0, 0, 2]) (ds_asg (i := 4) sc__law_right.nd rfl (Or.inl rfl) rfl (by rfl) (ev_list (es_cons (ec c_degrees_of rfl rfl (by decide) hG hr passN rfl (es_cons (ev_n 0 rfl (Or.inr (Or.inl rfl))) (es_nil (n := 0)))) (es_cons (ec c_leaves_of rfl rfl (by decide) hG hr passN rfl (es_cons (ev_n 0 rfl (Or.inr (Or.inl rfl))) (es_nil (n := 0)))) (es_nil (n := 1))))))
  (ds_cons (m1 := [0, 0, 0, 0, 2]) (ds_if (m' := [0, 0, 0, 0, 2]) (et_ne (hu64 hr) (eb_repr (n := 0)  hG (hu65 hr) rfl T.m_repr (es_cons (ev_wk (n := 1) (k := 0) (by decide) (ev_list (es_cons (ev_n 4 rfl (Or.inl rfl)) (es_cons (ev_wk (n := 2) (k := 0) (by decide) (ev_list (es_cons (ecK0 c_degrees_of rfl rfl (by decide) hG hr passN rfl (kw_degrees_of_0_tree c_degrees_of) (len_cons len_nil) (ks_cons (ev_n 0 rfl (Or.inr (Or.inl rfl))) (ks_nil (n := 0)))) (es_cons (ecK0 c_leaves_of rfl rfl (by decide) hG hr passN rfl (kw_leaves_of_0_tree c_leaves_of) (len_cons len_nil) (ks_cons (ev_n 0 rfl (Or.inr (Or.inl rfl))) (ks_nil (n := 0)))) (es_nil (n := 1)))))) (es_nil (n := 0)))))) (es_nil (n := 0)))) (eb_repr (n := 0)  hG (hu65 hr) rfl T.m_repr (es_cons (ev_wk (n := 1) (k := 0) (by decide) (ev_list (es_cons (ev_n 2 rfl (Or.inl rfl)) (es_cons (ev_n 2 rfl (Or.inl rfl)) (es_nil (n := 0)))))) (es_nil (n := 0))))) (ds_one (ds_ret (by rfl) (ev_bl (n := 9)))) ds_nil)
  (ds_cons (m1 := [0, 0, 0, 0, 2]) (ds_if (m' := [0, 0, 0, 0, 2]) (et_ne (hu64 hr) (eb_repr (n := 0)  hG (hu65 hr) rfl T.m_repr (es_cons (ev_n 0 rfl (Or.inr (Or.inl rfl))) (es_nil (n := 0)))) (ev_n 1 rfl (Or.inl rfl))) (ds_one (ds_ret (by rfl) (ev_bl (n := 9)))) ds_nil)
  (ds_cons (m1 := [0, 0, 0, 0, 2]) (ds_app (k := 0) (rc_ix (i := 4) (hu64 hr) rfl (Or.inl rfl) rfl (by rfl) (ev_int (n := 0)) (fun _ _ => rfl)) (by rfl) (ev_non (n := 0)))
  (ds_cons (m1 := [0, 0, 0, 0, 2]) (ds_app (k := 0) (rc_ix (i := 4) (hu64 hr) rfl (Or.inl rfl) rfl (by rfl) (ev_int (n := 0)) (fun _ _ => rfl)) (by rfl) (ev_non (n := 0)))
  (ds_one (ds_ret (by rfl) (ev_and (ev_eq (n := 0) (hu64 hr) (eb_repr (n := 0)  hG (hu65 hr) rfl T.m_repr (es_cons (ev_wk (n := 2) (k := 0) (by decide) (ev_list (es_cons (ec c_degrees_of rfl rfl (by decide) hG hr passN rfl (es_cons (ev_n 0 rfl (Or.inr (Or.inl rfl))) (es_nil (n := 0)))) (es_cons (ec c_leaves_of rfl rfl (by decide) hG hr passN rfl (es_cons (ev_n 0 rfl (Or.inr (Or.inl rfl))) (es_nil (n := 0)))) (es_nil (n := 1)))))) (es_nil (n := 0)))) (eb_repr (n := 0)  hG (hu65 hr) rfl T.m_repr (es_cons (ev_n 2 rfl (Or.inl rfl)) (es_nil (n := 0))))) (ev_one (ev_eq (n := 9) (hu64 hr) (eb_repr (n := 0)  hG (hu65 hr) rfl T.m_repr (es_cons (ev_n 0 rfl (Or.inr (Or.inl rfl))) (es_nil (n := 0)))) (ev_n 1 rfl (Or.inl rfl))))))))))))))
theorem kw_walk_of_0_two_one_tree {f : Addr} {fd : FuncData} (F : Cal P w K mg base CX0 cls fld 6 ("walk_of" : Str) s_walk_of [("tree" : Str), ("one" : Str), ("two" : Str)] sg_walk_of f fd) : KwB K fd [("tree" : Str), ("one" : Str), ("two" : Str)] [("two" : Str), ("one" : Str), ("tree" : Str)] [2, 1, 0] 0 3 :=
  kwb_of F.fn fun _ _ _ _ _ _ us ws h1 h2 => match us, ws, h1, h2 with | [], [_, _, _], _, _ => rfl
abbrev s__law_walk_right : Stmt := top 25
theorem sc__law_walk_right : FnScope [("_law_wood_here" : Str), ("_law_here" : Str), ("_law_there" : Str), ("_law_before" : Str), ("_law_told" : Str), ("_law_road" : Str), ("_law_low" : Str), ("_law_high" : Str), ("_law_spot" : Str)] [("_law_wood_here" : Str), ("_law_here" : Str), ("_law_there" : Str)] (defScope s__law_walk_right) := ⟨rfl, rfl, rfl, by decide +kernel, rfl, by decide +kernel, by decide +kernel⟩
def df__law_walk_right : DenS :=
  (dsSeq (dsAsg 3 (dFn oRepr (dCons (dN 0) dNil)))
  (dsSeq (dsAsg 4 (dFn oList (dCons (dCall sg_walk_of (dCons (dN 0) (dCons (dN 1) (dCons (dN 2) dNil)))) (dCons (dCallK sg_walk_of [2, 1, 0] dNil (dCons (dN 2) (dCons (dN 1) (dCons (dN 0) dNil)))) dNil))))
  (dsSeq (dsIf (dOr (dTest (dBin oNe (dFn oRepr (dCons (dBin oIx (dN 4) (dC (.int 0))) dNil)) (dFn oRepr (dCons (dBin oIx (dN 4) (dC (.int 1))) dNil)))) (dTest (dBin oNe (dFn oRepr (dCons (dN 0) dNil)) (dN 3)))) (dsRet (dC (.bool false))) dsNil)
  (dsSeq (dsTake 5 4 (dC (.int 0)))
  (dsSeq (dsIf (dOr (dTest (dBin oNe (dAtom (dBin oIx (dN 5) (dC (.int 0)))) (dN 1))) (dOr (dTest (dBin oNe (dAtom (dBin oIx (dN 5) (dUn oNeg (dC (.int 1))))) (dN 2))) (dTest (dBin oNe (dUn oLenSet (dN 5)) (dFn oLen (dCons (dN 5) dNil)))))) (dsRet (dC (.bool false))) dsNil)
  (dsSeq (dsForP 5 (dIts oZip (dCons (dN 5) (dCons (dFlat (dSl (dN 5) (dPt (some (dC (.int 1)))) (dPt none))) dNil))) fl2 [6, 7] (dsIf (dTest (dBin oNotIn (dFn oList (dCons (dFn oMin2 (dCons (dN 6) (dCons (dN 7) dNil))) (dCons (dFn oMax2 (dCons (dN 6) (dCons (dN 7) dNil))) dNil))) (dN 0))) (dsRet (dC (.bool false))) dsNil))
  (dsSeq (dsIf (dTest (dBin oNe (dFlat (dLc (dIt seqD (dN 5)) (gtT fl1 [8]) (dOr (dNot (dTruth (dUn (oIsi "int") (dN 8)))) (dTruth (dUn (oIsi "bool") (dN 8)))) (dN 8))) (dFn oList dNil))) (dsRet (dC (.bool false))) dsNil)
  (dsSeq (dsApp (fcTop 5) 5 (dC .none))
  (dsSeq (dsIf (dTest (dBin oNe (dFn oRepr (dCons (dCall sg_walk_of (dCons (dN 0) (dCons (dN 1) (dCons (dN 2) dNil)))) dNil)) (dFn oRepr (dCons (dBin oIx (dN 4) (dC (.int 1))) dNil)))) (dsRet (dC (.bool false))) dsNil)
  (dsRet (dBin oEq (dCall sg_walk_of (dCons (dN 0) (dCons (dN 2) (dCons (dN 1) dNil)))) (dFlat (dUn oRev (dBin oIx (dN 4) (dC (.int 1))))))))))))))))
def sg__law_walk_right : Sig := ⟨false, 3, 9, dDef false 9 df__law_walk_right⟩
theorem cal__law_walk_right (T : Txt mg) {f_walk_of : Addr} {d_walk_of : FuncData} (c_walk_of : Cal P w K mg base CX0 cls fld 6 ("walk_of" : Str) s_walk_of [("tree" : Str), ("one" : Str), ("two" : Str)] sg_walk_of f_walk_of d_walk_of) {f : Addr} {fd : FuncData} (F : Fun K ("_law_walk_right" : Str) ("_law_walk_right" : Str) s__law_walk_right f fd) (hm : mg ("_law_walk_right" : Str) = some (.ref f)) : Cal P w K mg base CX0 cls fld 7 ("_law_walk_right" : Str) s__law_walk_right [("_law_wood_here" : Str), ("_law_here" : Str), ("_law_there" : Str)] sg__law_walk_right f fd := by
  refine cal_of (x := ("_law_walk_right" : Str)) (st := s__law_walk_right) (k := 6) false 3 9 9 df__law_walk_right [0, 2, 1, 0, 0, 0] [0, 0, 0, 0, 2, 1, 0, 0, 0] rfl F hm sc__law_walk_right rfl rfl (fun _ _ _ _ _ _ us hl => match us, hl with | [_, _, _], _ => rfl) fun cdv A out s J T' ra hid B hG hr hra => ?_
  exact (ds_cons (m1 := [0, 0, 0, 0, 2, 1, 0, 0, 0]) (ds_asg (i := 3) sc__law_walk_right.nd rfl (Or.inl rfl) rfl (by rfl) (eb_repr (n := 0)  hG (hu65 hr) rfl T.m_repr (es_cons (ev_n 0 rfl (Or.inl rfl)) (es_nil (n := 0)))))
  (ds_cons (m1 := [0, 0, 0, 0, 2, 1, 0, 0, 0]) (ds_asg (i := 4) sc__law_walk_right.nd rfl (Or.inl rfl) rfl (by rfl) (ev_list (es_cons (ec c_walk_of rfl rfl (by decide) hG hr passN rfl (es_cons (ev_n 0 rfl (Or.inl rfl)) (es_cons (ev_n 1 rfl (Or.inl rfl)) (es_cons (ev_n 2 rfl (Or.inl rfl)) (es_nil (n := 0)))))) (es_cons (ecK0 c_walk_of rfl rfl (by decide) hG hr passN rfl (kw_walk_of_0_two_one_tree c_walk_of) (len_cons (len_cons (len_cons len_nil))) (ks_cons (ev_n 2 rfl (Or.inl rfl)) (ks_cons (ev_n 1 rfl (Or.inl rfl)) (ks_cons (ev_n 0 rfl (Or.inl rfl)) (ks_nil (n := 0)))))) (es_nil (n := 1))))))
  (ds_cons (m1 := [0, 0, 0, 0, 2, 1, 0, 0, 0]) (ds_if (m' := [0, 0, 0, 0, 2, 1, 0, 0, 0]) (et_w (ew_or (et_ne (hu64 hr) (eb_repr (n := 0)  hG (hu65 hr) rfl T.m_repr (es_cons (ev_ix (hu64 hr) (fun _ _ => rfl) (ev_n 4 rfl (Or.inl rfl)) (ev_int (n := 0))) (es_nil (n := 0)))) (eb_repr (n := 0)  hG (hu65 hr) rfl T.m_repr (es_cons (ev_ix (hu64 hr) (fun _ _ => rfl) (ev_n 4 rfl (Or.inl rfl)) (ev_int (n := 0))) (es_nil (n := 0))))) (ew_or1 (et_ne (hu64 hr) (eb_repr (n := 0)  hG (hu65 hr) rfl T.m_repr (es_cons (ev_n 0 rfl (Or.inl rfl)) (es_nil (n := 0)))) (ev_n 3 rfl (Or.inl rfl)))))) (ds_one (ds_ret (by rfl) (ev_bl (n := 9)))) ds_nil)
  (ds_cons (m1 := [0, 0, 0, 0, 2, 1, 0, 0, 0]) (ds_take sc__law_walk_right.nd (i := 4) (j := 5) (k := 1) rfl (Or.inl rfl) rfl (Or.inl rfl) rfl rfl (by rfl) (ev_int (n := 0)) (fun _ _ => rfl))
  (ds_cons (m1 := [0, 0, 0, 0, 2, 1, 0, 0, 0]) (ds_if (m' := [0, 0, 0, 0, 2, 1, 0, 0, 0]) (et_w (ew_or (et_ne (hu64 hr) (ev_atom (n := 0) (ev_ix (hu64 hr) (fun _ _ => rfl) (ev_n 5 rfl (Or.inl rfl)) (ev_int (n := 0)))) (ev_n 1 rfl (Or.inl rfl))) (ew_or (et_ne (hu64 hr) (ev_atom (n := 0) (ev_ix (hu64 hr) (fun _ _ => rfl) (ev_n 5 rfl (Or.inl rfl)) (ev_neg (n := 0) (ev_int (n := 0))))) (ev_n 2 rfl (Or.inl rfl))) (ew_or1 (et_ne (hu64 hr) (ev_lenSet (n := 0) rfl rfl T.m_len rfl T.m_set (ev_n 5 rfl (Or.inl rfl))) (eb_len (n := 0)  rfl T.m_len (es_cons (ev_n 5 rfl (Or.inl rfl)) (es_nil (n := 0))))))))) (ds_one (ds_ret (by rfl) (ev_bl (n := 9)))) ds_nil)
  (ds_cons (m1 := [0, 0, 0, 0, 2, 1, 0, 0, 0]) (ds_forP (os := [6, 7]) (k := 0) PassesOwn.never rfl 5 rfl rfl (by rfl) rfl (pn_all rfl) (by decide) (iv_zip (fun h => h) rfl T.m_zip (es_cons (ev_n 5 rfl (Or.inl rfl)) (es_cons (ev_wk (n := 1) (k := 0) (by decide) (ev_flat (n := 0) (ev_sl (ev_n 5 rfl (Or.inl rfl)) (ep_some (ev_int (n := 0))) ep_none))) (es_nil (n := 0))))) (pg_sq rfl (pgs_cons (pg_name (i := 6) sc__law_walk_right.nd rfl (Or.inl rfl)) (pgs_cons (pg_name (i := 7) sc__law_walk_right.nd rfl (Or.inl rfl)) pgs_nil))) ts_2 (fun _ _ => (ds_one (ds_if (m' := [0, 0, 0, 0, 2, 1, 0, 0, 0]) (et_notIn (hu65 hr) rfl (ev_wk (n := 1) (k := 0) (by decide) (ev_list (es_cons (eb_min2 (n := 0) rfl rfl T.m_min (es_cons (ev_n 6 rfl (Or.inl rfl)) (es_cons (ev_n 7 rfl (Or.inl rfl)) (es_nil (n := 0))))) (es_cons (eb_max2 (n := 0) rfl rfl T.m_max (es_cons (ev_n 6 rfl (Or.inl rfl)) (es_cons (ev_n 7 rfl (Or.inl rfl)) (es_nil (n := 0))))) (es_nil (n := 0)))))) (ev_n 0 rfl (Or.inl rfl))) (ds_one (ds_ret (by rfl) (ev_bl (n := 9)))) ds_nil))))
  (ds_cons (m1 := [0, 0, 0, 0, 2, 1, 0, 0, 0]) (ds_if (m' := [0, 0, 0, 0, 2, 1, 0, 0, 0]) (et_ne (hu64 hr) (ev_wk (n := 1) (k := 0) (by decide) (ev_flat (n := 0) (ev_lc (n := 0) rfl sc__law_walk_right.nd (iv_seq Beg.free (ev_n 5 rfl (Or.inl rfl))) (own := [(("_law_spot" : Str), 8)]) (blk_ok rfl) rfl (fun _ _ _ _ _ => (pg_name (i := 8) sc__law_walk_right.nd rfl (Or.inl rfl) (hf := .inr rfl))) (ts_name.tg (pn_all rfl)) (pn_all rfl) (sub_of (by rfl)) (fun _ _ _ _ _ => (pts1 (et_w (ew_or (et_not (et_val (ev_isi (n := 0) tyOk_int rfl T.m_isinstance rfl T.m_int boot_int (ev_n 8 rfl (Or.inl rfl))))) (ew_or1 (et_val (ev_isi (n := 0) tyOk_bool rfl T.m_isinstance rfl T.m_bool boot_bool (ev_n 8 rfl (Or.inl rfl))))))))) (fun _ _ _ _ _ => (ev_n 8 rfl (Or.inl rfl)))))) (ev_wk (n := 1) (k := 0) (by decide) (ev_list (es_nil (n := 0))))) (ds_one (ds_ret (by rfl) (ev_bl (n := 9)))) ds_nil)
  (ds_cons (m1 := [0, 0, 0, 0, 2, 1, 0, 0, 0]) (ds_app (k := 0) (rc_name (i := 5) rfl (Or.inl rfl) rfl) (by rfl) (ev_non (n := 0)))
  (ds_cons (m1 := [0, 0, 0, 0, 2, 1, 0, 0, 0]) (ds_if (m' := [0, 0, 0, 0, 2, 1, 0, 0, 0]) (et_ne (hu64 hr) (eb_repr (n := 0)  hG (hu65 hr) rfl T.m_repr (es_cons (ev_wk (n := 1) (k := 0) (by decide) (ec c_walk_of rfl rfl (by decide) hG hr passN rfl (es_cons (ev_n 0 rfl (Or.inl rfl)) (es_cons (ev_n 1 rfl (Or.inl rfl)) (es_cons (ev_n 2 rfl (Or.inl rfl)) (es_nil (n := 0))))))) (es_nil (n := 0)))) (eb_repr (n := 0)  hG (hu65 hr) rfl T.m_repr (es_cons (ev_ix (hu64 hr) (fun _ _ => rfl) (ev_n 4 rfl (Or.inl rfl)) (ev_int (n := 0))) (es_nil (n := 0))))) (ds_one (ds_ret (by rfl) (ev_bl (n := 9)))) ds_nil)
  (ds_one (ds_ret (by rfl) (ev_eq (n := 9) (hu64 hr) (ev_wk (n := 1) (k := 0) (by decide) (ec c_walk_of rfl rfl (by decide) hG hr passN rfl (es_cons (ev_n 0 rfl (Or.inl rfl)) (es_cons (ev_n 2 rfl (Or.inl rfl)) (es_cons (ev_n 1 rfl (Or.inl rfl)) (es_nil (n := 0))))))) (ev_wk (n := 1) (k := 0) (by decide) (ev_flat (n := 0) (ev_rev (ev_ix (hu64 hr) (fun _ _ => rfl) (ev_n 4 rfl (Or.inl rfl)) (ev_int (n := 0))))))))))))))))))
abbrev s_law : Stmt := top 26
theorem sc_law : FnScope [("_law_script" : Str), ("_law_draws_here" : Str), ("_law_cell" : Str), ("_law_most" : Str), ("_law_wood_here" : Str), ("_law_turn" : Str), ("_law_here" : Str), ("_law_there" : Str), ("_law_line" : Str), ("_law_spot" : Str)] [("_law_script" : Str)] (defScope s_law) := ⟨rfl, rfl, rfl, by decide +kernel, rfl, by decide +kernel, by decide +kernel⟩
def df_law (ns : List Int) : DenS :=
  (dsSeq (dsForR 1 (dLc (dIt seqD (dBin oAdd (dScr 6 ns) (dFn oList (dCons (dC (.int 0)) dNil)))) (gtT fl1 [2]) tYesD (dCall sg__law_draws (dCons (dN 2) dNil))) (dsFor (dIt seqD (dFn oList (dCons (dC (.int 40)) (dCons (dC (.int 7)) (dCons (dC (.int 3)) dNil))))) (gtT fl1 [3]) (dsSeq (dsAsg 4 (dCall sg__law_wood (dCons (dN 3) dNil)))
  (dsSeq (dsIf (dNot (dTruth (dAtom (dCall sg__law_right (dCons (dN 4) dNil))))) (dsRet (dC (.bool false))) dsNil)
  (dsFor (dIts oRange1 (dCons (dC (.int 4)) dNil)) (gtT fl1 [5]) (dsSeq (dsPar [6, 7] (dCons (dAtom (dBin oAdd (dC (.int 1)) (dBin oMod (dFn oInt (dCons (dAtom (dCall sg__law_next dNil)) dNil)) (dAtom (dBin oAdd (dFn oLen (dCons (dN 4) dNil)) (dC (.int 1))))))) (dCons (dAtom (dBin oAdd (dC (.int 1)) (dBin oMod (dFn oInt (dCons (dAtom (dCall sg__law_next dNil)) dNil)) (dAtom (dBin oAdd (dFn oLen (dCons (dN 4) dNil)) (dC (.int 1))))))) dNil)))
  (dsSeq (dsIf (dNot (dTruth (dAtom (dCall sg__law_walk_right (dCons (dN 4) (dCons (dN 6) (dCons (dN 7) dNil))))))) (dsRet (dC (.bool false))) dsNil)
  (dsIf (dNot (dTruth (dAtom (dCall sg__law_walk_right (dCons (dN 4) (dCons (dN 6) (dCons (dN 6) dNil))))))) (dsRet (dC (.bool false))) dsNil))))))))
  (dsSeq (dsAsg 8 (dLc (dIts oRange2 (dCons (dC (.int 1)) (dCons (dC (.int 40)) dNil))) (gtT fl1 [9]) tYesD (dFn oList (dCons (dN 9) (dCons (dAtom (dBin oAdd (dN 9) (dC (.int 1)))) dNil)))))
  (dsSeq (dsIf (dTest (dBin oNe (dCall sg_walk_of (dCons (dN 8) (dCons (dC (.int 40)) (dCons (dC (.int 1)) dNil)))) (dListRg oRangeN (dCons (dC (.int 40)) (dCons (dC (.int 0)) (dCons (dUn oNeg (dC (.int 1))) dNil)))))) (dsRet (dC (.bool false))) dsNil)
  (dsSeq (dsIf (dNot (dTruth (dAtom (dCall sg__law_right (dCons (dLc (dIts oRange2 (dCons (dC (.int 1)) (dCons (dC (.int 40)) dNil))) (gtT fl1 [9]) tYesD (dFn oList (dCons (dN 9) (dCons (dC (.int 40)) dNil)))) dNil))))) (dsRet (dC (.bool false))) dsNil)
  (dsRet (dAndV (dAtom (dCall sg__law_right (dCons (dN 8) dNil))) (dAndV (dAtom (dCall sg__law_right (dCons (dFn oList (dCons (dFn oList (dCons (dC (.int 1)) (dCons (dC (.int 2)) dNil))) dNil)) dNil))) (dBin oEq (dCall sg_walk_of (dCons (dFn oList (dCons (dFn oList (dCons (dC (.int 1)) (dCons (dC (.int 2)) dNil))) dNil)) (dCons (dC (.int 2)) (dCons (dC (.int 1)) dNil)))) (dFn oList (dCons (dC (.int 2)) (dCons (dC (.int 1)) dNil)))))))))))
theorem law_ok (T : Txt mg) {f__law_draws : Addr} {d__law_draws : FuncData} (c__law_draws : Cal P w K mg base CX0 cls fld 1 ("_law_draws" : Str) s__law_draws [("_law_cell" : Str)] sg__law_draws f__law_draws d__law_draws) {f__law_wood : Addr} {d__law_wood : FuncData} (c__law_wood : Cal P w K mg base CX0 cls fld 2 ("_law_wood" : Str) s__law_wood [("_law_draws_here" : Str), ("_law_most" : Str)] sg__law_wood f__law_wood d__law_wood) {f__law_right : Addr} {d__law_right : FuncData} (c__law_right : Cal P w K mg base CX0 cls fld 7 ("_law_right" : Str) s__law_right [("_law_wood_here" : Str)] sg__law_right f__law_right d__law_right) {f__law_next : Addr} {d__law_next : FuncData} (c__law_next : Cal P w K mg base CX0 cls fld 1 ("_law_next" : Str) s__law_next [("_law_draws_here" : Str)] sg__law_next f__law_next d__law_next) {f__law_walk_right : Addr} {d__law_walk_right : FuncData} (c__law_walk_right : Cal P w K mg base CX0 cls fld 7 ("_law_walk_right" : Str) s__law_walk_right [("_law_wood_here" : Str), ("_law_here" : Str), ("_law_there" : Str)] sg__law_walk_right f__law_walk_right d__law_walk_right) {f_walk_of : Addr} {d_walk_of : FuncData} (c_walk_of : Cal P w K mg base CX0 cls fld 6 ("walk_of" : Str) s_walk_of [("tree" : Str), ("one" : Str), ("two" : Str)] sg_walk_of f_walk_of d_walk_of) {f : Addr} {fd : FuncData} (F : Fun K "law" "law" s_law f fd) (hval : ∀ ns : List Int, ns.length ≤ 63 → df_law ns (List.replicate 10 none) none = .ok (.rt (.bool true)) none) : FnG P w K mg base CX0 8 f fd [("_law_script" : Str)] (spL K) := by
  refine law_fn (cls := cls) (fld := fld) (k := 7) 9 df_law [0, 0, 0, 0, 0, 0, 0, 0, 0, 0] [0, 0, 0, 0, 0, 0, 0, 0, 0, 0] F sc_law rfl (by decide) (fun cdv A out s J T' a ns hid B hG hr hz hscr => ?_) hval
  exact (ds_cons (m1 := [0, 0, 0, 0, 0, 0, 0, 0, 0, 0]) (ds_forR PassesOwn.never rfl sc_law.nd 1 rfl (Or.inl rfl) rfl rfl rfl (by rfl) (ev_lc (n := 1) rfl sc_law.nd (iv_seq Beg.free (ev_wk (n := 1) (k := 0) (by decide) (ev_add (ev_wk (n := 1) (k := 0) (by decide) (ev_scr (j := 0) (k := 6) hscr hz rfl rfl (Or.inl rfl))) (ev_wk (n := 1) (k := 0) (by decide) (ev_list (es_cons (ev_int (n := 0)) (es_nil (n := 0)))))))) (own := [(("_law_cell" : Str), 2)]) (blk_ok rfl) rfl (fun _ _ _ _ _ => (pg_name (i := 2) sc_law.nd rfl (Or.inl rfl) (hf := .inr rfl))) (ts_name.tg (pn_all rfl)) (pn_all rfl) (sub_of (by rfl)) (fun _ _ _ _ _ => pts0) (fun _ _ _ _ _ => (ec c__law_draws rfl rfl (by decide) hG hr passN rfl (es_cons (ev_n 2 rfl (Or.inl rfl)) (es_nil (n := 0)))))) (fun _ _ => (ds_one (ds_for (os := [3]) PassesOwn.never rfl (by rfl) rfl (pn_all rfl) (iv_seq (fun h => h) (ev_wk (n := 1) (k := 0) (by decide) (ev_list (es_cons (ev_int (n := 0)) (es_cons (ev_int (n := 0)) (es_cons (ev_int (n := 0)) (es_nil (n := 0)))))))) (pg_name (i := 3) sc_law.nd rfl (Or.inl rfl)) ts_name (ds_cons (m1 := [0, 0, 0, 0, 0, 0, 0, 0, 0, 0]) (ds_asg (i := 4) sc_law.nd rfl (Or.inl rfl) rfl (by rfl) (ev_wk (n := 1) (k := 0) (by decide) (ecR c__law_wood 1 rfl rfl (by decide) rfl rfl rfl (Or.inl rfl) hG hr passN rfl (es_cons (ev_n 3 rfl (Or.inl rfl)) (es_nil (n := 0))))))
  (ds_cons (m1 := [0, 0, 0, 0, 0, 0, 0, 0, 0, 0]) (ds_if (m' := [0, 0, 0, 0, 0, 0, 0, 0, 0, 0]) (et_not (et_val (ev_atom (n := 0) (ev_wk (n := 9) (k := 0) (by decide) (ec c__law_right rfl rfl (by decide) hG hr passN rfl (es_cons (ev_n 4 rfl (Or.inl rfl)) (es_nil (n := 0)))))))) (ds_one (ds_ret (by rfl) (ev_bl (n := 9)))) ds_nil)
  (ds_one (ds_for (os := [5]) PassesOwn.never rfl (by rfl) rfl (pn_all rfl) (iv_range1 (fun h => h) rfl T.m_range (es_cons (ev_int (n := 0)) (es_nil (n := 0)))) (pg_name (i := 5) sc_law.nd rfl (Or.inl rfl)) ts_name (ds_cons (m1 := [0, 0, 0, 0, 0, 0, 0, 0, 0, 0]) (ds_par2 (i := 6) (j := 7) rfl sc_law.nd rfl rfl (by decide) rfl rfl (pn_all rfl) (by rfl) (es_cons (ev_atom (n := 0) (ev_wk (n := 1) (k := 0) (by decide) (ev_add (ev_int (n := 0)) (ev_mod (n := 0) (eb_int (n := 0)  rfl T.m_int (es_cons (ev_atom (n := 0) (ev_wk (n := 9) (k := 0) (by decide) (ecR c__law_next 1 rfl rfl (by decide) rfl rfl rfl (Or.inl rfl) hG hr passN rfl (es_nil (n := 0))))) (es_nil (n := 0)))) (ev_atom (n := 0) (ev_wk (n := 1) (k := 0) (by decide) (ev_add (eb_len (n := 0)  rfl T.m_len (es_cons (ev_n 4 rfl (Or.inl rfl)) (es_nil (n := 0)))) (ev_int (n := 0))))))))) (es_cons (ev_atom (n := 0) (ev_wk (n := 1) (k := 0) (by decide) (ev_add (ev_int (n := 0)) (ev_mod (n := 0) (eb_int (n := 0)  rfl T.m_int (es_cons (ev_atom (n := 0) (ev_wk (n := 9) (k := 0) (by decide) (ecR c__law_next 1 rfl rfl (by decide) rfl rfl rfl (Or.inl rfl) hG hr passN rfl (es_nil (n := 0))))) (es_nil (n := 0)))) (ev_atom (n := 0) (ev_wk (n := 1) (k := 0) (by decide) (ev_add (eb_len (n := 0)  rfl T.m_len (es_cons (ev_n 4 rfl (Or.inl rfl)) (es_nil (n := 0)))) (ev_int (n := 0))))))))) (es_nil (n := 0)))))
  (ds_cons (m1 := [0, 0, 0, 0, 0, 0, 0, 0, 0, 0]) (ds_if (m' := [0, 0, 0, 0, 0, 0, 0, 0, 0, 0]) (et_not (et_val (ev_atom (n := 0) (ev_wk (n := 9) (k := 0) (by decide) (ec c__law_walk_right rfl rfl (by decide) hG hr passN rfl (es_cons (ev_n 4 rfl (Or.inl rfl)) (es_cons (ev_n 6 rfl (Or.inl rfl)) (es_cons (ev_n 7 rfl (Or.inl rfl)) (es_nil (n := 0)))))))))) (ds_one (ds_ret (by rfl) (ev_bl (n := 9)))) ds_nil)
  (ds_one (ds_if (m' := [0, 0, 0, 0, 0, 0, 0, 0, 0, 0]) (et_not (et_val (ev_atom (n := 0) (ev_wk (n := 9) (k := 0) (by decide) (ec c__law_walk_right rfl rfl (by decide) hG hr passN rfl (es_cons (ev_n 4 rfl (Or.inl rfl)) (es_cons (ev_n 6 rfl (Or.inl rfl)) (es_cons (ev_n 6 rfl (Or.inl rfl)) (es_nil (n := 0)))))))))) (ds_one (ds_ret (by rfl) (ev_bl (n := 9)))) ds_nil))))))))))))
  (ds_cons (m1 := [0, 0, 0, 0, 0, 0, 0, 0, 0, 0]) (ds_post1 (m1 := [0, 0, 0, 0, 0, 0, 0, 0, 1, 0]) (m' := [0, 0, 0, 0, 0, 0, 0, 0, 0, 0]) rfl (ds_asgLc (i := 8) (n := 0) rfl sc_law.nd rfl rfl rfl (by rfl) rfl (iv_range2 Beg.free rfl T.m_range (es_cons (ev_int (n := 0)) (es_cons (ev_int (n := 0)) (es_nil (n := 0))))) (own := [(("_law_spot" : Str), 9)]) (blk_ok rfl) rfl (fun _ _ _ _ _ => (pg_name (i := 9) sc_law.nd rfl (Or.inl rfl) (hf := .inr rfl))) (ts_name.tg (pn_all rfl)) (pn_all rfl) (sub_of (by rfl)) (fun _ _ _ _ _ => pts0) (fun _ _ _ _ _ => (ev_wk (n := 1) (k := 0) (by decide) (ev_list (es_cons (ev_n 9 rfl (Or.inl rfl)) (es_cons (ev_atom (n := 0) (ev_wk (n := 1) (k := 0) (by decide) (ev_add (ev_n 9 rfl (Or.inl rfl)) (ev_int (n := 0))))) (es_nil (n := 0)))))))))
  (ds_cons (m1 := [0, 0, 0, 0, 0, 0, 0, 0, 0, 0]) (ds_if (m' := [0, 0, 0, 0, 0, 0, 0, 0, 0, 0]) (et_ne (hu64 hr) (ev_wk (n := 1) (k := 0) (by decide) (ec c_walk_of rfl rfl (by decide) hG hr passN rfl (es_cons (ev_n 8 rfl (Or.inl rfl)) (es_cons (ev_int (n := 0)) (es_cons (ev_int (n := 0)) (es_nil (n := 0))))))) (ev_wk (n := 1) (k := 0) (by decide) (ev_listRgN (n := 0) rfl rfl T.m_list rfl T.m_range (es_cons (ev_int (n := 0)) (es_cons (ev_int (n := 0)) (es_cons (ev_neg (n := 0) (ev_int (n := 0))) (es_nil (n := 0)))))))) (ds_one (ds_ret (by rfl) (ev_bl (n := 9)))) ds_nil)
  (ds_cons (m1 := [0, 0, 0, 0, 0, 0, 0, 0, 0, 0]) (ds_if (m' := [0, 0, 0, 0, 0, 0, 0, 0, 0, 0]) (et_not (et_val (ev_atom (n := 0) (ev_wk (n := 9) (k := 0) (by decide) (ec c__law_right rfl rfl (by decide) hG hr passN rfl (es_cons (ev_wk (n := 2) (k := 0) (by decide) (ev_lc (n := 1) rfl sc_law.nd (iv_range2 Beg.free rfl T.m_range (es_cons (ev_int (n := 0)) (es_cons (ev_int (n := 0)) (es_nil (n := 0))))) (own := [(("_law_spot" : Str), 9)]) (blk_ok rfl) rfl (fun _ _ _ _ _ => (pg_name (i := 9) sc_law.nd rfl (Or.inl rfl) (hf := .inr rfl))) (ts_name.tg (pn_all rfl)) (pn_all rfl) (sub_of (by rfl)) (fun _ _ _ _ _ => pts0) (fun _ _ _ _ _ => (ev_list (es_cons (ev_n 9 rfl (Or.inl rfl)) (es_cons (ev_int (n := 0)) (es_nil (n := 0)))))))) (es_nil (n := 0)))))))) (ds_one (ds_ret (by rfl) (ev_bl (n := 9)))) ds_nil)
  (ds_one (ds_ret (by rfl) (ev_and (ev_atom (n := 0) (ev_wk (n := 9) (k := 0) (by decide) (ec c__law_right rfl rfl (by decide) hG hr passN rfl (es_cons (ev_n 8 rfl (Or.inl rfl)) (es_nil (n := 0)))))) (ev_and (ev_atom (n := 0) (ev_wk (n := 9) (k := 0) (by decide) (ec c__law_right rfl rfl (by decide) hG hr passN rfl (es_cons (ev_wk (n := 1) (k := 0) (by decide) (ev_list (es_cons (ev_wk (n := 1) (k := 0) (by decide) (ev_list (es_cons (ev_int (n := 0)) (es_cons (ev_int (n := 0)) (es_nil (n := 0)))))) (es_nil (n := 0))))) (es_nil (n := 0)))))) (ev_one (ev_eq (n := 9) (hu64 hr) (ev_wk (n := 1) (k := 0) (by decide) (ec c_walk_of rfl rfl (by decide) hG hr passN rfl (es_cons (ev_wk (n := 1) (k := 0) (by decide) (ev_list (es_cons (ev_wk (n := 1) (k := 0) (by decide) (ev_list (es_cons (ev_int (n := 0)) (es_cons (ev_int (n := 0)) (es_nil (n := 0)))))) (es_nil (n := 0))))) (es_cons (ev_int (n := 0)) (es_cons (ev_int (n := 0)) (es_nil (n := 0))))))) (ev_wk (n := 1) (k := 0) (by decide) (ev_list (es_cons (ev_int (n := 0)) (es_cons (ev_int (n := 0)) (es_nil (n := 0))))))))))))))))
theorem all_mk {l : PySem.W.OpenLaw} {w : World} {K : PySem.W.Frag} {h : Heap} {mg : Str → Option Value} {fa : Addr} (hval : ∀ ns : List Int, ns.length ≤ 63 → df_law ns (List.replicate 10 none) none = .ok (.rt (.bool true)) none) (X : K.In h) (G : h.Ns mainGlobals mg) (hfa : mg "law" = some (.ref fa)) {f__law_draws f_is_whole f_is_label f_is_edge f_check_edges f_check_tree f_check_label f_neighbours_in f_walk_in f_degrees_of f_leaves_of f_walk_of f__law_next f__law_wood f__law_mates f__law_first_row f__law_right f__law_walk_right f_law : Addr} {od__law_draws od_is_whole od_is_label od_is_edge od_check_edges od_check_tree od_check_label od_neighbours_in od_walk_in od_degrees_of od_leaves_of od_walk_of od__law_next od__law_wood od__law_mates od__law_first_row od__law_right od__law_walk_right od_law : Option Addr} {an__law_draws an_is_whole an_is_label an_is_edge an_check_edges an_check_tree an_check_label an_neighbours_in an_walk_in an_degrees_of an_leaves_of an_walk_of an__law_next an__law_wood an__law_mates an__law_first_row an__law_right an__law_walk_right an_law : Option Addr} {sl__law_draws sl_is_whole sl_is_label sl_is_edge sl_check_edges sl_check_tree sl_check_label sl_neighbours_in sl_walk_in sl_degrees_of sl_leaves_of sl_walk_of sl__law_next sl__law_wood sl__law_mates sl__law_first_row sl__law_right sl__law_walk_right sl_law : Array (Option Value)} {oc__law_draws oc_is_whole oc_is_label oc_is_edge oc_check_edges oc_check_tree oc_check_label oc_neighbours_in oc_walk_in oc_degrees_of oc_leaves_of oc_walk_of oc__law_next oc__law_wood oc__law_mates oc__law_first_row oc__law_right oc__law_walk_right oc_law : Value} {kV__law_draws kV_is_whole kV_is_label kV_is_edge kV_check_edges kV_check_tree kV_check_label kV_neighbours_in kV_walk_in kV_degrees_of kV_leaves_of kV_walk_of kV__law_next kV__law_wood kV__law_mates kV__law_first_row kV__law_right kV__law_walk_right kV_law : Value} {dc__law_draws dc_is_whole dc_is_label dc_is_edge dc_check_edges dc_check_tree dc_check_label dc_neighbours_in dc_walk_in dc_degrees_of dc_leaves_of dc_walk_of dc__law_next dc__law_wood dc__law_mates dc__law_first_row dc__law_right dc__law_walk_right dc_law : Value} {pm__law_draws pm_is_whole pm_is_label pm_is_edge pm_check_edges pm_check_tree pm_check_label pm_neighbours_in pm_walk_in pm_degrees_of pm_leaves_of pm_walk_of pm__law_next pm__law_wood pm__law_mates pm__law_first_row pm__law_right pm__law_walk_right pm_law : Value} {cd__law_draws cd_is_whole cd_is_label cd_is_edge cd_check_edges cd_check_tree cd_check_label cd_neighbours_in cd_walk_in cd_degrees_of cd_leaves_of cd_walk_of cd__law_next cd__law_wood cd__law_mates cd__law_first_row cd__law_right cd__law_walk_right cd_law : Value} {ct__law_draws ct_is_whole ct_is_label ct_is_edge ct_check_edges ct_check_tree ct_check_label ct_neighbours_in ct_walk_in ct_degrees_of ct_leaves_of ct_walk_of ct__law_next ct__law_wood ct__law_mates ct__law_first_row ct__law_right ct__law_walk_right ct_law : Value}
    (a__law_draws : PySem.W.nsIn K mainGlobals ("_law_draws" : Str) = some (some (.ref f__law_draws))) (l__law_draws : K.lookup f__law_draws = some ⟨oc__law_draws, od__law_draws, .func (PySem.W.fnOf ("_law_draws" : Str) ("_law_draws" : Str) (defArgs s__law_draws) (defBody s__law_draws) (defScope s__law_draws) .none kV__law_draws dc__law_draws pm__law_draws an__law_draws cd__law_draws ct__law_draws), sl__law_draws⟩) (c__law_draws : PySem.W.codeIn K cd__law_draws ("_law_draws" : Str) = true) (k__law_draws : PySem.W.keepIn K (.ref f__law_draws) = true)
    (a_is_whole : PySem.W.nsIn K mainGlobals ("is_whole" : Str) = some (some (.ref f_is_whole))) (l_is_whole : K.lookup f_is_whole = some ⟨oc_is_whole, od_is_whole, .func (PySem.W.fnOf ("is_whole" : Str) ("is_whole" : Str) (defArgs s_is_whole) (defBody s_is_whole) (defScope s_is_whole) .none kV_is_whole dc_is_whole pm_is_whole an_is_whole cd_is_whole ct_is_whole), sl_is_whole⟩) (c_is_whole : PySem.W.codeIn K cd_is_whole ("is_whole" : Str) = true) (k_is_whole : PySem.W.keepIn K (.ref f_is_whole) = true)
    (a_is_label : PySem.W.nsIn K mainGlobals ("is_label" : Str) = some (some (.ref f_is_label))) (l_is_label : K.lookup f_is_label = some ⟨oc_is_label, od_is_label, .func (PySem.W.fnOf ("is_label" : Str) ("is_label" : Str) (defArgs s_is_label) (defBody s_is_label) (defScope s_is_label) .none kV_is_label dc_is_label pm_is_label an_is_label cd_is_label ct_is_label), sl_is_label⟩) (c_is_label : PySem.W.codeIn K cd_is_label ("is_label" : Str) = true) (k_is_label : PySem.W.keepIn K (.ref f_is_label) = true)
    (a_is_edge : PySem.W.nsIn K mainGlobals ("is_edge" : Str) = some (some (.ref f_is_edge))) (l_is_edge : K.lookup f_is_edge = some ⟨oc_is_edge, od_is_edge, .func (PySem.W.fnOf ("is_edge" : Str) ("is_edge" : Str) (defArgs s_is_edge) (defBody s_is_edge) (defScope s_is_edge) .none kV_is_edge dc_is_edge pm_is_edge an_is_edge cd_is_edge ct_is_edge), sl_is_edge⟩) (c_is_edge : PySem.W.codeIn K cd_is_edge ("is_edge" : Str) = true) (k_is_edge : PySem.W.keepIn K (.ref f_is_edge) = true)
    (a_check_edges : PySem.W.nsIn K mainGlobals ("check_edges" : Str) = some (some (.ref f_check_edges))) (l_check_edges : K.lookup f_check_edges = some ⟨oc_check_edges, od_check_edges, .func (PySem.W.fnOf ("check_edges" : Str) ("check_edges" : Str) (defArgs s_check_edges) (defBody s_check_edges) (defScope s_check_edges) .none kV_check_edges dc_check_edges pm_check_edges an_check_edges cd_check_edges ct_check_edges), sl_check_edges⟩) (c_check_edges : PySem.W.codeIn K cd_check_edges ("check_edges" : Str) = true) (k_check_edges : PySem.W.keepIn K (.ref f_check_edges) = true)
    (a_check_tree : PySem.W.nsIn K mainGlobals ("check_tree" : Str) = some (some (.ref f_check_tree))) (l_check_tree : K.lookup f_check_tree = some ⟨oc_check_tree, od_check_tree, .func (PySem.W.fnOf ("check_tree" : Str) ("check_tree" : Str) (defArgs s_check_tree) (defBody s_check_tree) (defScope s_check_tree) .none kV_check_tree dc_check_tree pm_check_tree an_check_tree cd_check_tree ct_check_tree), sl_check_tree⟩) (c_check_tree : PySem.W.codeIn K cd_check_tree ("check_tree" : Str) = true) (k_check_tree : PySem.W.keepIn K (.ref f_check_tree) = true)
    (a_check_label : PySem.W.nsIn K mainGlobals ("check_label" : Str) = some (some (.ref f_check_label))) (l_check_label : K.lookup f_check_label = some ⟨oc_check_label, od_check_label, .func (PySem.W.fnOf ("check_label" : Str) ("check_label" : Str) (defArgs s_check_label) (defBody s_check_label) (defScope s_check_label) .none kV_check_label dc_check_label pm_check_label an_check_label cd_check_label ct_check_label), sl_check_label⟩) (c_check_label : PySem.W.codeIn K cd_check_label ("check_label" : Str) = true) (k_check_label : PySem.W.keepIn K (.ref f_check_label) = true)
    (a_neighbours_in : PySem.W.nsIn K mainGlobals ("neighbours_in" : Str) = some (some (.ref f_neighbours_in))) (l_neighbours_in : K.lookup f_neighbours_in = some ⟨oc_neighbours_in, od_neighbours_in, .func (PySem.W.fnOf ("neighbours_in" : Str) ("neighbours_in" : Str) (defArgs s_neighbours_in) (defBody s_neighbours_in) (defScope s_neighbours_in) .none kV_neighbours_in dc_neighbours_in pm_neighbours_in an_neighbours_in cd_neighbours_in ct_neighbours_in), sl_neighbours_in⟩) (c_neighbours_in : PySem.W.codeIn K cd_neighbours_in ("neighbours_in" : Str) = true) (k_neighbours_in : PySem.W.keepIn K (.ref f_neighbours_in) = true)
    (a_walk_in : PySem.W.nsIn K mainGlobals ("walk_in" : Str) = some (some (.ref f_walk_in))) (l_walk_in : K.lookup f_walk_in = some ⟨oc_walk_in, od_walk_in, .func (PySem.W.fnOf ("walk_in" : Str) ("walk_in" : Str) (defArgs s_walk_in) (defBody s_walk_in) (defScope s_walk_in) .none kV_walk_in dc_walk_in pm_walk_in an_walk_in cd_walk_in ct_walk_in), sl_walk_in⟩) (c_walk_in : PySem.W.codeIn K cd_walk_in ("walk_in" : Str) = true) (k_walk_in : PySem.W.keepIn K (.ref f_walk_in) = true)
    (a_degrees_of : PySem.W.nsIn K mainGlobals ("degrees_of" : Str) = some (some (.ref f_degrees_of))) (l_degrees_of : K.lookup f_degrees_of = some ⟨oc_degrees_of, od_degrees_of, .func (PySem.W.fnOf ("degrees_of" : Str) ("degrees_of" : Str) (defArgs s_degrees_of) (defBody s_degrees_of) (defScope s_degrees_of) .none kV_degrees_of dc_degrees_of pm_degrees_of an_degrees_of cd_degrees_of ct_degrees_of), sl_degrees_of⟩) (c_degrees_of : PySem.W.codeIn K cd_degrees_of ("degrees_of" : Str) = true) (k_degrees_of : PySem.W.keepIn K (.ref f_degrees_of) = true)
    (a_leaves_of : PySem.W.nsIn K mainGlobals ("leaves_of" : Str) = some (some (.ref f_leaves_of))) (l_leaves_of : K.lookup f_leaves_of = some ⟨oc_leaves_of, od_leaves_of, .func (PySem.W.fnOf ("leaves_of" : Str) ("leaves_of" : Str) (defArgs s_leaves_of) (defBody s_leaves_of) (defScope s_leaves_of) .none kV_leaves_of dc_leaves_of pm_leaves_of an_leaves_of cd_leaves_of ct_leaves_of), sl_leaves_of⟩) (c_leaves_of : PySem.W.codeIn K cd_leaves_of ("leaves_of" : Str) = true) (k_leaves_of : PySem.W.keepIn K (.ref f_leaves_of) = true)
    (a_walk_of : PySem.W.nsIn K mainGlobals ("walk_of" : Str) = some (some (.ref f_walk_of))) (l_walk_of : K.lookup f_walk_of = some ⟨oc_walk_of, od_walk_of, .func (PySem.W.fnOf ("walk_of" : Str) ("walk_of" : Str) (defArgs s_walk_of) (defBody s_walk_of) (defScope s_walk_of) .none kV_walk_of dc_walk_of pm_walk_of an_walk_of cd_walk_of ct_walk_of), sl_walk_of⟩) (c_walk_of : PySem.W.codeIn K cd_walk_of ("walk_of" : Str) = true) (k_walk_of : PySem.W.keepIn K (.ref f_walk_of) = true)
    (a__law_next : PySem.W.nsIn K mainGlobals ("_law_next" : Str) = some (some (.ref f__law_next))) (l__law_next : K.lookup f__law_next = some ⟨oc__law_next, od__law_next, .func (PySem.W.fnOf ("_law_next" : Str) ("_law_next" : Str) (defArgs s__law_next) (defBody s__law_next) (defScope s__law_next) .none kV__law_next dc__law_next pm__law_next an__law_next cd__law_next ct__law_next), sl__law_next⟩) (c__law_next : PySem.W.codeIn K cd__law_next ("_law_next" : Str) = true) (k__law_next : PySem.W.keepIn K (.ref f__law_next) = true)
    (a__law_wood : PySem.W.nsIn K mainGlobals ("_law_wood" : Str) = some (some (.ref f__law_wood))) (l__law_wood : K.lookup f__law_wood = some ⟨oc__law_wood, od__law_wood, .func (PySem.W.fnOf ("_law_wood" : Str) ("_law_wood" : Str) (defArgs s__law_wood) (defBody s__law_wood) (defScope s__law_wood) .none kV__law_wood dc__law_wood pm__law_wood an__law_wood cd__law_wood ct__law_wood), sl__law_wood⟩) (c__law_wood : PySem.W.codeIn K cd__law_wood ("_law_wood" : Str) = true) (k__law_wood : PySem.W.keepIn K (.ref f__law_wood) = true)
    (a__law_mates : PySem.W.nsIn K mainGlobals ("_law_mates" : Str) = some (some (.ref f__law_mates))) (l__law_mates : K.lookup f__law_mates = some ⟨oc__law_mates, od__law_mates, .func (PySem.W.fnOf ("_law_mates" : Str) ("_law_mates" : Str) (defArgs s__law_mates) (defBody s__law_mates) (defScope s__law_mates) .none kV__law_mates dc__law_mates pm__law_mates an__law_mates cd__law_mates ct__law_mates), sl__law_mates⟩) (c__law_mates : PySem.W.codeIn K cd__law_mates ("_law_mates" : Str) = true) (k__law_mates : PySem.W.keepIn K (.ref f__law_mates) = true)
    (a__law_first_row : PySem.W.nsIn K mainGlobals ("_law_first_row" : Str) = some (some (.ref f__law_first_row))) (l__law_first_row : K.lookup f__law_first_row = some ⟨oc__law_first_row, od__law_first_row, .func (PySem.W.fnOf ("_law_first_row" : Str) ("_law_first_row" : Str) (defArgs s__law_first_row) (defBody s__law_first_row) (defScope s__law_first_row) .none kV__law_first_row dc__law_first_row pm__law_first_row an__law_first_row cd__law_first_row ct__law_first_row), sl__law_first_row⟩) (c__law_first_row : PySem.W.codeIn K cd__law_first_row ("_law_first_row" : Str) = true) (k__law_first_row : PySem.W.keepIn K (.ref f__law_first_row) = true)
    (a__law_right : PySem.W.nsIn K mainGlobals ("_law_right" : Str) = some (some (.ref f__law_right))) (l__law_right : K.lookup f__law_right = some ⟨oc__law_right, od__law_right, .func (PySem.W.fnOf ("_law_right" : Str) ("_law_right" : Str) (defArgs s__law_right) (defBody s__law_right) (defScope s__law_right) .none kV__law_right dc__law_right pm__law_right an__law_right cd__law_right ct__law_right), sl__law_right⟩) (c__law_right : PySem.W.codeIn K cd__law_right ("_law_right" : Str) = true) (k__law_right : PySem.W.keepIn K (.ref f__law_right) = true)
    (a__law_walk_right : PySem.W.nsIn K mainGlobals ("_law_walk_right" : Str) = some (some (.ref f__law_walk_right))) (l__law_walk_right : K.lookup f__law_walk_right = some ⟨oc__law_walk_right, od__law_walk_right, .func (PySem.W.fnOf ("_law_walk_right" : Str) ("_law_walk_right" : Str) (defArgs s__law_walk_right) (defBody s__law_walk_right) (defScope s__law_walk_right) .none kV__law_walk_right dc__law_walk_right pm__law_walk_right an__law_walk_right cd__law_walk_right ct__law_walk_right), sl__law_walk_right⟩) (c__law_walk_right : PySem.W.codeIn K cd__law_walk_right ("_law_walk_right" : Str) = true) (k__law_walk_right : PySem.W.keepIn K (.ref f__law_walk_right) = true)
    (a_law : PySem.W.nsIn K mainGlobals ("law" : Str) = some (some (.ref f_law))) (l_law : K.lookup f_law = some ⟨oc_law, od_law, .func (PySem.W.fnOf ("law" : Str) ("law" : Str) (defArgs s_law) (defBody s_law) (defScope s_law) .none kV_law dc_law pm_law an_law cd_law ct_law), sl_law⟩) (c_law : PySem.W.codeIn K cd_law ("law" : Str) = true) (k_law : PySem.W.keepIn K (.ref f_law) = true)
    (z_len : PySem.W.nsIn K mainGlobals ("len" : Str) = some none)
    (z_int : PySem.W.nsIn K mainGlobals ("int" : Str) = some none)
    (z_repr : PySem.W.nsIn K mainGlobals ("repr" : Str) = some none)
    (z_all : PySem.W.nsIn K mainGlobals ("all" : Str) = some none)
    (z_min : PySem.W.nsIn K mainGlobals ("min" : Str) = some none)
    (z_max : PySem.W.nsIn K mainGlobals ("max" : Str) = some none)
    (z_sorted : PySem.W.nsIn K mainGlobals ("sorted" : Str) = some none)
    (z_list : PySem.W.nsIn K mainGlobals ("list" : Str) = some none)
    (z_bool : PySem.W.nsIn K mainGlobals ("bool" : Str) = some none)
    (z_isinstance : PySem.W.nsIn K mainGlobals ("isinstance" : Str) = some none)
    (z_set : PySem.W.nsIn K mainGlobals ("set" : Str) = some none)
    (z_range : PySem.W.nsIn K mainGlobals ("range" : Str) = some none)
    (z_enumerate : PySem.W.nsIn K mainGlobals ("enumerate" : Str) = some none)
    (z_zip : PySem.W.nsIn K mainGlobals ("zip" : Str) = some none)
    {t_MOST_LABELS : Tok} (z_MOST_LABELS : PySem.W.nsIn K mainGlobals ("MOST_LABELS" : Str) = some (some (.int 40 t_MOST_LABELS))) :
    ∃ fd : FuncData, (∀ (s : Shared) (v : Value), BindsTo s fd ⟨[v], []⟩ [(("_law_script" : Str), v)]) ∧ ∀ base : Heap, K.In base → base.Ns mainGlobals mg → FnG l.prog w K mg base CX0 8 fa fd [("_law_script" : Str)] (spL K) := by
  have e := hfa.symm.trans (PySem.W.mg_of X G a_law)
  cases e
  have T : Txt mg := ⟨PySem.W.mg_none_of X G z_len, PySem.W.mg_none_of X G z_int, PySem.W.mg_none_of X G z_repr, PySem.W.mg_none_of X G z_all, PySem.W.mg_none_of X G z_min, PySem.W.mg_none_of X G z_max, PySem.W.mg_none_of X G z_sorted, PySem.W.mg_none_of X G z_list, PySem.W.mg_none_of X G z_bool, PySem.W.mg_none_of X G z_isinstance, PySem.W.mg_none_of X G z_set, PySem.W.mg_none_of X G z_range, PySem.W.mg_none_of X G z_enumerate, PySem.W.mg_none_of X G z_zip, ⟨_, PySem.W.mg_of X G z_MOST_LABELS⟩⟩
  refine ⟨PySem.W.fnOf ("law" : Str) ("law" : Str) (defArgs s_law) (defBody s_law) (defScope s_law) .none kV_law dc_law pm_law an_law cd_law ct_law, fun s v => .of_eq rfl, fun base _ _ => ?_⟩
  have C__law_draws := cal__law_draws (P := l.prog) (w := w) (base := base) (cls := fun _ => none) (fld := fun x => x) T  (fun_mk (st := s__law_draws) l__law_draws c__law_draws k__law_draws) (PySem.W.mg_of X G a__law_draws)
  have C_is_whole := cal_is_whole (P := l.prog) (w := w) (base := base) (cls := fun _ => none) (fld := fun x => x) T  (fun_mk (st := s_is_whole) l_is_whole c_is_whole k_is_whole) (PySem.W.mg_of X G a_is_whole)
  have C_is_label := cal_is_label (P := l.prog) (w := w) (base := base) (cls := fun _ => none) (fld := fun x => x) T C_is_whole (fun_mk (st := s_is_label) l_is_label c_is_label k_is_label) (PySem.W.mg_of X G a_is_label)
  have C_is_edge := cal_is_edge (P := l.prog) (w := w) (base := base) (cls := fun _ => none) (fld := fun x => x) T C_is_label (fun_mk (st := s_is_edge) l_is_edge c_is_edge k_is_edge) (PySem.W.mg_of X G a_is_edge)
  have C_check_edges := cal_check_edges (P := l.prog) (w := w) (base := base) (cls := fun _ => none) (fld := fun x => x) T C_is_edge (fun_mk (st := s_check_edges) l_check_edges c_check_edges k_check_edges) (PySem.W.mg_of X G a_check_edges)
  have C_check_tree := cal_check_tree (P := l.prog) (w := w) (base := base) (cls := fun _ => none) (fld := fun x => x) T C_check_edges (fun_mk (st := s_check_tree) l_check_tree c_check_tree k_check_tree) (PySem.W.mg_of X G a_check_tree)
  have C_check_label := cal_check_label (P := l.prog) (w := w) (base := base) (cls := fun _ => none) (fld := fun x => x) T C_is_label (fun_mk (st := s_check_label) l_check_label c_check_label k_check_label) (PySem.W.mg_of X G a_check_label)
  have C_neighbours_in := cal_neighbours_in (P := l.prog) (w := w) (base := base) (cls := fun _ => none) (fld := fun x => x) T  (fun_mk (st := s_neighbours_in) l_neighbours_in c_neighbours_in k_neighbours_in) (PySem.W.mg_of X G a_neighbours_in)
  have C_walk_in := cal_walk_in (P := l.prog) (w := w) (base := base) (cls := fun _ => none) (fld := fun x => x) T C_neighbours_in (fun_mk (st := s_walk_in) l_walk_in c_walk_in k_walk_in) (PySem.W.mg_of X G a_walk_in)
  have C_degrees_of := cal_degrees_of (P := l.prog) (w := w) (base := base) (cls := fun _ => none) (fld := fun x => x) T C_check_tree C_neighbours_in (fun_mk (st := s_degrees_of) l_degrees_of c_degrees_of k_degrees_of) (PySem.W.mg_of X G a_degrees_of)
  have C_leaves_of := cal_leaves_of (P := l.prog) (w := w) (base := base) (cls := fun _ => none) (fld := fun x => x) T C_check_tree C_neighbours_in (fun_mk (st := s_leaves_of) l_leaves_of c_leaves_of k_leaves_of) (PySem.W.mg_of X G a_leaves_of)
  have C_walk_of := cal_walk_of (P := l.prog) (w := w) (base := base) (cls := fun _ => none) (fld := fun x => x) T C_check_tree C_check_label C_walk_in (fun_mk (st := s_walk_of) l_walk_of c_walk_of k_walk_of) (PySem.W.mg_of X G a_walk_of)
  have C__law_next := cal__law_next (P := l.prog) (w := w) (base := base) (cls := fun _ => none) (fld := fun x => x) T  (fun_mk (st := s__law_next) l__law_next c__law_next k__law_next) (PySem.W.mg_of X G a__law_next)
  have C__law_wood := cal__law_wood (P := l.prog) (w := w) (base := base) (cls := fun _ => none) (fld := fun x => x) T C__law_next (fun_mk (st := s__law_wood) l__law_wood c__law_wood k__law_wood) (PySem.W.mg_of X G a__law_wood)
  have C__law_mates := cal__law_mates (P := l.prog) (w := w) (base := base) (cls := fun _ => none) (fld := fun x => x) T  (fun_mk (st := s__law_mates) l__law_mates c__law_mates k__law_mates) (PySem.W.mg_of X G a__law_mates)
  have C__law_first_row := cal__law_first_row (P := l.prog) (w := w) (base := base) (cls := fun _ => none) (fld := fun x => x) T C__law_mates (fun_mk (st := s__law_first_row) l__law_first_row c__law_first_row k__law_first_row) (PySem.W.mg_of X G a__law_first_row)
  have C__law_right := cal__law_right (P := l.prog) (w := w) (base := base) (cls := fun _ => none) (fld := fun x => x) T C__law_mates C__law_first_row C_degrees_of C_leaves_of (fun_mk (st := s__law_right) l__law_right c__law_right k__law_right) (PySem.W.mg_of X G a__law_right)
  have C__law_walk_right := cal__law_walk_right (P := l.prog) (w := w) (base := base) (cls := fun _ => none) (fld := fun x => x) T C_walk_of (fun_mk (st := s__law_walk_right) l__law_walk_right c__law_walk_right k__law_walk_right) (PySem.W.mg_of X G a__law_walk_right)
  exact law_ok (cls := fun _ => none) (fld := fun x => x) T C__law_draws C__law_wood C__law_right C__law_next C__law_walk_right C_walk_of (fun_mk (st := s_law) l_law c_law k_law) hval
end K01

/-! K01b: what the defs compute. -/
namespace K01
open PySem L2 DL
theorem whole_i (i : Int) : sg_is_whole.den [.int i] = M.pure (.bool true) := rfl
theorem label_i {i n : Int} (h : 1 ≤ i ∧ i ≤ n) : sg_is_label.den [.int i, .int n] = M.pure (.bool true) := by
  have e : sg_is_label.den [.int i, .int n] = M.bind (df_is_label [some (.int i), some (.int n)]) (fun fl => match fl with | .nx _ => M.pure .none | .rt d => M.pure d) := rfl
  rw [e]
  have n1 : sg_is_whole.np = 1 := rfl
  simp [df_is_label, dsRet, dAndV, dAtom, dCall, dCons, dNil, dN, dC, dChain, b_pure, b_lift, l_some, oLe, atomD, whole_i, n1, h.1, h.2]
theorem edge_i {a b n : Int} (h : 1 ≤ a ∧ a < b ∧ b ≤ n) : sg_is_edge.den [.list [.int a, .int b], .int n] = M.pure (.bool true) := by
  have e : sg_is_edge.den [.list [.int a, .int b], .int n] = M.bind (df_is_edge [some (.list [.int a, .int b]), some (.int n), none]) (fun fl => match fl with | .nx _ => M.pure .none | .rt d => M.pure d) := rfl
  rw [e]
  have n1 : sg_is_label.np = 2 := rfl
  have h1 := label_i (i := a) (n := n) ⟨h.1, by omega⟩
  have h2 := label_i (i := b) (n := n) ⟨by omega, h.2.2⟩
  simp [df_is_edge, dsSeq, dsIf, dOr, dNot, dTruth, dTest, dUn, dBin, dFn, dLc, dIt, seqD, gtT, fl1, setsD, setS, tYesD, dsRet, dsNil, dAtom, dCall, dCons, dNil, dN, dC, b_pure, b_lift, l_some, n_pure, compL, oIsi, tyName, isiB, truthD, boolD, oNe, oLen, isStrD, oAll, boolsD, oIx, atI, ixN, oLt, atomD, n1, h1, h2, h.2.1, SeqAt.shaped, PyData.canLay0, PyData.depth, PyData.eqv]
end K01

/-! K01c: trees; check_edges lets them pass. -/
namespace K01
open PySem L2 DL

def ed (e : Int × Int) : D := .list [.int e.1, .int e.2]
/-- edges on 1 .. n, the lesser label first, that close no ring -/
structure Wood (n : Nat) (E : List (Int × Int)) : Prop where
  rng : ∀ e ∈ E, 1 ≤ e.1 ∧ e.1 < e.2 ∧ e.2 ≤ n
  cut : ∀ pre e post, E = pre ++ e :: post → ∃ χ : Int → Bool, χ e.1 ≠ χ e.2 ∧ ∀ e' ∈ pre ++ post, χ e'.1 = χ e'.2
def lotsI (n : Nat) (dn : List (Int × Int)) (g : Int → Int) : Prop := ∀ χ : Int → Bool, (∀ e ∈ dn, χ e.1 = χ e.2) → ∀ u v, u ∈ labs n → v ∈ labs n → g u = g v → χ u = χ v
theorem lots_step {n : Nat} {dn : List (Int × Int)} {g : Int → Int} {a b : Int} (h : lotsI n dn g) (ha : a ∈ labs n) (hb : b ∈ labs n) : lotsI n (dn ++ [(a, b)]) (fun v => if g v = g a then g b else g v) := by
  intro χ hχ u v hu hv e
  have hd : ∀ e ∈ dn, χ e.1 = χ e.2 := fun e he => hχ e (List.mem_append_left _ he)
  have hab : χ a = χ b := hχ (a, b) (List.mem_append_right _ List.mem_cons_self)
  have k := h χ hd
  by_cases h1 : g u = g a <;> by_cases h2 : g v = g a <;> simp only [h1, h2, if_true, if_false] at e
  · rw [k u a hu ha h1, k v a hv ha h2]
  · rw [k u a hu ha h1, hab]; exact k b v hb hv e
  · rw [k v a hv ha h2, hab]; exact k u b hu hb e
  · exact k u v hu hv e
def bodyC : DenS := (dsSeq (dsIf (dOr (dNot (dTruth (dAtom (dCall sg_is_edge (dCons (dN 5) (dCons (dN 1) dNil)))))) (dTest (dBin oEq (dAtom (dBin oIx (dN 2) (dAtom (dBin oIx (dN 5) (dC (.int 0)))))) (dAtom (dBin oIx (dN 2) (dAtom (dBin oIx (dN 5) (dC (.int 1))))))))) dsBad dsNil)
  (dsSeq (dsUnp fl2 [6, 7] (dFn oTup (dCons (dAtom (dBin oIx (dN 2) (dAtom (dBin oIx (dN 5) (dC (.int 0)))))) (dCons (dAtom (dBin oIx (dN 2) (dAtom (dBin oIx (dN 5) (dC (.int 1)))))) dNil))))
  (dsAsg 2 (dDc (dIt oItems (dN 2)) (gtT fl2 [3, 8]) tYesD (dN 3) (dIf (dTest (dBin oEq (dN 8) (dN 6))) (dN 7) (dN 8))))))
theorem eq_int (i j : Int) : oEq (.int i) (.int j) = some (.bool (decide (i = j))) := by
  simp [oEq, isStrD, SeqAt.shaped, PyData.canLay0, PyData.depth, eqv_int]
theorem line2 : 2 ≤ sizeLine := by rw [sizeLine_eq]; decide
theorem body_step {n : Nat} {g : Int → Int} {a b : Int} (h : 1 ≤ a ∧ a < b ∧ b ≤ n) (hne : g a ≠ g b) (X s4 s6 s7 : Option D) :
    bodyC [X, some (.int n), some (.dict (dmap (labs n) fun v => .int (g v))), none, s4, some (ed (a, b)), s6, s7, none] =
      M.pure (.nx [X, some (.int n), some (.dict (dmap (labs n) fun v => .int (if g v = g a then g b else g v))), none, s4, some (ed (a, b)), some (.int (g a)), some (.int (g b)), none]) := by
  have ha : a ∈ labs n := mem_labs.mpr ⟨h.1, by omega⟩
  have hb : b ∈ labs n := mem_labs.mpr ⟨by omega, h.2.2⟩
  have n1 : sg_is_edge.np = 2 := rfl
  have e1 := edge_i h
  have l1 : lookD (dmap (labs n) fun v => .int (g v)) (.int a) = some (.int (g a)) := by rw [lookD_dmap, if_pos ha]
  have l2 : lookD (dmap (labs n) fun v => .int (g v)) (.int b) = some (.int (g b)) := by rw [lookD_dmap, if_pos hb]
  have hz := line2
  have hc : ∀ ρ : Slots, ρ.length = 9 → ρ[6]? = some (some (.int (g a))) → ρ[7]? = some (some (.int (g b))) →
      compD (gtT fl2 [3, 8]) tYesD (dN 3) (dIf (dTest (dBin oEq (dN 8) (dN 6))) (dN 7) (dN 8)) ρ [] ((dmap (labs n) fun v => .int (g v)).map fun kd => .tuple [kd.1, kd.2]) = M.pure (dmap (labs n) fun v => .int (if g v = g a then g b else g v)) := fun ρ hl h6 h7 => by
    have := compD_map (gt := gtT fl2 [3, 8]) (ft := tYesD) (fk := dN 3) (fe := dIf (dTest (dBin oEq (dN 8) (dN 6))) (dN 7) (dN 8)) (ρ := ρ) (fun v => .tuple [.int v, .int (g v)]) (fun v => .int (if g v = g a then g b else g v)) (labs n) [] (fun v hv => ?_) (by simpa using labs_nodup n)
    · have e : ((dmap (labs n) fun v => .int (g v)).map fun kd => PyData.tuple [kd.1, kd.2]) = (labs n).map fun v => .tuple [.int v, .int (g v)] := by
        unfold dmap; rw [List.map_map]; rfl
      rw [e]
      simpa [dmap] using this
    · refine ⟨(ρ.set 3 (some (.int v))).set 8 (some (.int (g v))), rfl, rfl, ?_, ?_⟩
      · refine dN_at ?_
        rw [List.getElem?_set_ne (by decide), List.getElem?_set_self (by omega)]
      · have d8 : dN 8 ((ρ.set 3 (some (.int v))).set 8 (some (.int (g v)))) = M.pure (.int (g v)) := dN_at (by rw [List.getElem?_set_self (by rw [List.length_set]; omega)])
        have d6 : dN 6 ((ρ.set 3 (some (.int v))).set 8 (some (.int (g v)))) = M.pure (.int (g a)) := dN_at (by rw [List.getElem?_set_ne (by decide), List.getElem?_set_ne (by decide)]; exact h6)
        have d7 : dN 7 ((ρ.set 3 (some (.int v))).set 8 (some (.int (g v)))) = M.pure (.int (g b)) := dN_at (by rw [List.getElem?_set_ne (by decide), List.getElem?_set_ne (by decide)]; exact h7)
        simp only [dIf, dTest, dBin, d8, d6, d7, b_pure, eq_int, l_some, boolD]
        by_cases q : g v = g a <;> simp [q]
  simp [bodyC, dsSeq, dsIf, dOr, dNot, dTruth, dTest, dUn, dBin, dFn, dIt, seqD, gtT, fl2, setsD, setS, dsBad, dsRet, dsNil, dsAsg, dsUnp, dAtom, dCall, dCons, dNil, dN, dC, dDc, b_pure, b_lift, l_some, n_pure, oItems, truthD, boolD, oIx, atI, ixN, oTup, atomD, n1, ed, e1, l1, l2, eq_int, hne, hz, hc]
end K01

/-! K01d: check_edges, check_tree. -/
namespace K01
open PySem L2 DL

theorem edges_go {n : Nat} {E : List (Int × Int)} (W : Wood n E) (X : Option D) : ∀ (todo dn : List (Int × Int)) (g : Int → Int) (k : Nat) (s4 s5 s6 s7 : Option D), E = dn ++ todo → lotsI n dn g →
    ∃ ρ', forD (gtT fl2 [4, 5]) bodyC (((todo.map ed).zipIdx k).map fun p => .tuple [.int (p.2 : Nat), p.1]) [X, some (.int n), some (.dict (dmap (labs n) fun v => .int (g v))), none, s4, s5, s6, s7, none] = M.pure (.nx ρ')
  | [], _, _, _, _, _, _, _, _, _ => ⟨_, rfl⟩
  | e :: todo, dn, g, k, s4, s5, s6, s7, hE, hg => by
    obtain ⟨a, b⟩ := e
    have hr := W.rng (a, b) (by rw [hE]; simp)
    have ha : a ∈ labs n := mem_labs.mpr ⟨hr.1, by have := hr.2.1; have := hr.2.2; omega⟩
    have hb : b ∈ labs n := mem_labs.mpr ⟨by have := hr.1; have := hr.2.1; omega, hr.2.2⟩
    have hne : g a ≠ g b := fun z => by
      obtain ⟨χ, h1, h2⟩ := W.cut dn (a, b) todo hE
      exact h1 (hg χ (fun e he => h2 e (List.mem_append_left _ he)) a b ha hb z)
    obtain ⟨ρ', h⟩ := edges_go W X todo (dn ++ [(a, b)]) (fun v => if g v = g a then g b else g v) (k + 1) (some (.int (k : Nat))) (some (ed (a, b))) (some (.int (g a))) (some (.int (g b))) (by rw [hE]; simp) (lots_step hg ha hb)
    refine ⟨ρ', ?_⟩
    rw [List.map_cons, List.zipIdx_cons, List.map_cons]
    rw [forD_cons (ρ1 := [X, some (.int n), some (.dict (dmap (labs n) fun v => .int (g v))), none, some (.int (k : Nat)), some (ed (a, b)), s6, s7, none]) rfl (body_step hr hne _ _ _ _)]
    exact h
theorem check_edges_den {n : Nat} {E : List (Int × Int)} (W : Wood n E) (hn : n ≤ 1000) : sg_check_edges.den [.list (E.map ed), .int n] = M.pure .none := by
  have e : sg_check_edges.den [.list (E.map ed), .int n] = M.bind (df_check_edges [some (.list (E.map ed)), some (.int n), none, none, none, none, none, none, none]) (fun fl => match fl with | .nx _ => M.pure .none | .rt d => M.pure d) := rfl
  have hr := range_1n hn
  have hc : compD (gtT fl1 [3]) tYesD (dN 3) (dN 3) [some (.list (E.map ed)), some (.int n), none, none, none, none, none, none, none] [] ((labs n).map PyData.int) = M.pure (dmap (labs n) fun v => .int v) := by
    have := compD_map (gt := gtT fl1 [3]) (ft := tYesD) (fk := dN 3) (fe := dN 3) (ρ := [some (.list (E.map ed)), some (.int n), none, none, none, none, none, none, none]) PyData.int (fun v => .int v) (labs n) [] (fun v _ => ⟨[some (.list (E.map ed)), some (.int n), none, some (.int v), none, none, none, none, none], rfl, rfl, rfl, rfl⟩) (by simpa using labs_nodup n)
    simpa [dmap] using this
  obtain ⟨ρ', hl⟩ := edges_go W (some (.list (E.map ed))) E [] (fun v => v) 0 none none none none rfl (fun χ _ u v _ _ z => by rw [show u = v from z])
  have hd : df_check_edges [some (.list (E.map ed)), some (.int n), none, none, none, none, none, none, none] = M.pure (.nx ρ') := by
    show M.bind (dsAsg 2 _ _) _ = _
    simp only [dsAsg, dDc, dIts, dCons, dNil, dN, dC, dAtom, dBin, b_pure, b_lift, l_some, List.getElem?_cons_succ, List.getElem?_cons_zero, add_int, atomD, if_true, hr, hc, n_pure]
    show dsFor (dIts oEnum (dCons (dN 0) dNil)) (gtT fl2 [4, 5]) bodyC [some (.list (E.map ed)), some (.int n), some (.dict (dmap (labs n) fun v => .int v)), none, none, none, none, none, none] = _
    simp only [dsFor, dIts, dCons, dNil, dN, b_pure, b_lift, List.getElem?_cons_zero, oEnum]
    exact hl
  rw [e, hd]
  rfl
theorem check_tree_den {n : Nat} {E : List (Int × Int)} (W : Wood n E) (hl : E.length + 1 = n) (h1 : 2 ≤ n) (h2 : n ≤ 40) : sg_check_tree.den [.list (E.map ed)] = M.pure .none := by
  have e : sg_check_tree.den [.list (E.map ed)] = M.bind (df_check_tree [some (.list (E.map ed))]) (fun fl => match fl with | .nx _ => M.pure .none | .rt d => M.pure d) := rfl
  rw [e]
  have n1 : sg_check_edges.np = 2 := rfl
  have e1 := check_edges_den W (by omega)
  have e2 : ((E.map ed).length : Int) + 1 = n := by rw [List.length_map]; omega
  have e3 : (1 : Int) ≤ (E.length : Int) := by omega
  have e4 : (E.length : Int) < 40 := by omega
  rw [List.length_map] at e2
  simp [df_check_tree, dsSeq, dsIf, dOr, dNot, dTruth, dTest, dUn, dFn, dBin, dChain, dsRet, dsNil, dsBad, dsExpr, dAtom, dCall, dCons, dNil, dN, dC, b_pure, b_lift, l_some, oIsi, tyName, isiB, truthD, boolD, oLen, oLe, oLt, add_int, atomD, n1, e1, e2, e3, e4]
end K01

/-! K01e: neighbours_in. -/
namespace K01
open PySem L2 DL

theorem find_dmap {f : Int → D} {k : Int} : ∀ {ks : List Int}, k ∈ ks → ∃ j : Nat, (dmap ks f).findIdx? (fun p => PyData.eqv p.1 (.int k)) = some j ∧ (dmap ks f)[j]? = some (.int k, f k) ∧ (ks.Nodup → ∀ d, (dmap ks f).set j (.int k, d) = dmap ks (fun v => if v = k then d else f v))
  | [], h => by cases h
  | a :: ks, h => by
    by_cases e : a = k
    · subst e
      refine ⟨0, ?_, rfl, fun nd d => ?_⟩
      · unfold dmap
        rw [List.map_cons, List.findIdx?_cons]
        simp [eqv_int]
      · unfold dmap
        simp only [List.map_cons, List.set_cons_zero, if_true]
        congr 1
        apply List.map_congr_left
        intro b hb
        rw [if_neg (fun z => (List.nodup_cons.mp nd).1 (by rw [← z]; exact hb))]
    · have hk : k ∈ ks := (List.mem_cons.mp h).resolve_left fun z => e z.symm
      obtain ⟨j, h1, h2, h3⟩ := find_dmap (f := f) hk
      refine ⟨j + 1, ?_, ?_, fun nd d => ?_⟩
      · unfold dmap at h1 ⊢
        rw [List.map_cons, List.findIdx?_cons, h1]
        simp [eqv_int, e]
      · unfold dmap at h2 ⊢
        rw [List.map_cons, List.getElem?_cons_succ]; exact h2
      · have := h3 (List.nodup_cons.mp nd).2 d
        unfold dmap at this ⊢
        simp only [List.map_cons, List.set_cons_succ, this, if_neg e]
theorem fc_dmap {ks : List Int} {f : Int → D} {k : Int} {es : List D} (hk : k ∈ ks) (nd : ks.Nodup) (h : f k = .list es) : ∃ pt, fcAtD (dmap ks f) (.int k) = some (es, pt) ∧ ∀ es', pt es' = .dict (dmap ks (fun v => if v = k then .list es' else f v)) := by
  obtain ⟨j, h1, h2, h3⟩ := find_dmap (f := f) hk
  refine ⟨fun es' => .dict ((dmap ks f).set j (.int k, .list es')), ?_, fun es' => congrArg PyData.dict (h3 nd _)⟩
  have h1' : (dmap ks f).findIdx? (fun p => PyData.eqv p.1 (keyD (.inl k))) = some j := h1
  unfold fcAtD
  simp [DL.keyOf, h1', h2, h]
/-- who is joined to v -/
def adj : List (Int × Int) → Int → List Int
  | [], _ => []
  | e :: E, v => (if e.1 = v then [e.2] else []) ++ (if e.2 = v then [e.1] else []) ++ adj E v
theorem adj_append : ∀ (E F : List (Int × Int)) (v : Int), adj (E ++ F) v = adj E v ++ adj F v
  | [], _, _ => rfl
  | e :: E, F, v => by
    show (_ ++ _) ++ adj (E ++ F) v = ((_ ++ _) ++ adj E v) ++ adj F v
    rw [adj_append E F v]; simp
theorem adj_len (v : Int) : ∀ E : List (Int × Int), (∀ e ∈ E, e.1 ≠ e.2) → (adj E v).length ≤ E.length
  | [], _ => Nat.le_refl _
  | e :: E, h => by
    have ih := adj_len v E fun x hx => h x (List.mem_cons_of_mem _ hx)
    have hn := h e List.mem_cons_self
    show ((_ ++ _) ++ adj E v).length ≤ _
    rw [List.length_append, List.length_append, List.length_cons]
    by_cases h1 : e.1 = v <;> by_cases h2 : e.2 = v
    · exact absurd (h1.trans h2.symm) hn
    · simp [h1, h2]; omega
    · simp [h1, h2]; omega
    · simp [h1, h2]; omega
theorem app_dmap {ρ : Slots} {i p q : Nat} {ks : List Int} {F : Int → D} {k : Int} {ns : List Int} {y : D} (h2 : ρ[i]? = some (some (.dict (dmap ks F)))) (hp : dN p ρ = M.pure (.int k)) (hq : dN q ρ = M.pure y) (hk : k ∈ ks) (nd : ks.Nodup) (hF : F k = .list (ns.map PyData.int)) (hl : ns.length < sizeLine) :
    dsApp (fcIx i (dN p)) i (dN q) ρ = M.pure (.nx (setS ρ i (.dict (dmap ks fun v => if v = k then .list (ns.map PyData.int ++ [y]) else F v)))) := by
  obtain ⟨pt, h1, h3⟩ := fc_dmap (f := F) hk nd hF
  unfold dsApp fcIx
  simp only [h2, hp, b_pure, h1, b_lift, hq, l_some]
  rw [if_pos (by rw [List.length_map]; exact hl), h3]
def bodyN : DenS := (dsSeq (dsApp (fcIx 2 (dN 4)) 2 (dN 5))
  (dsApp (fcIx 2 (dN 5)) 2 (dN 4)))
theorem bodyN_step {n : Nat} {dn : List (Int × Int)} {a b : Int} (h : 1 ≤ a ∧ a < b ∧ b ≤ n) (hd : ∀ e ∈ dn, e.1 ≠ e.2) (hl : dn.length < 1000) (X Y : Option D) :
    bodyN [X, Y, some (.dict (dmap (labs n) fun v => .list ((adj dn v).map PyData.int))), none, some (.int a), some (.int b), none] =
      M.pure (.nx [X, Y, some (.dict (dmap (labs n) fun v => .list ((adj (dn ++ [(a, b)]) v).map PyData.int))), none, some (.int a), some (.int b), none]) := by
  have ha : a ∈ labs n := mem_labs.mpr ⟨h.1, by omega⟩
  have hb : b ∈ labs n := mem_labs.mpr ⟨by omega, h.2.2⟩
  have hz : ∀ v, (adj dn v).length < sizeLine := fun v => Nat.lt_of_le_of_lt (adj_len v dn hd) (by rw [sizeLine_eq]; omega)
  unfold bodyN dsSeq
  rw [app_dmap (k := a) (y := .int b) (ns := adj dn a) rfl rfl rfl ha (labs_nodup n) rfl (hz a), b_pure]
  show dsApp (fcIx 2 (dN 5)) 2 (dN 4) [X, Y, some (.dict (dmap (labs n) fun v => if v = a then .list ((adj dn a).map PyData.int ++ [.int b]) else .list ((adj dn v).map PyData.int))), none, some (.int a), some (.int b), none] = _
  rw [app_dmap (k := b) (y := .int a) (ns := adj dn b) rfl rfl rfl hb (labs_nodup n) (if_neg (by omega)) (hz b)]
  show M.pure (Fl.nx [X, Y, some (.dict (dmap (labs n) _)), none, some (.int a), some (.int b), none]) = _
  congr 6
  refine congrArg PyData.dict ?_
  apply dmap_congr
  intro v _
  rw [adj_append]
  show _ = PyData.list ((adj dn v ++ (((if a = v then [b] else []) ++ (if b = v then [a] else [])) ++ [])).map PyData.int)
  by_cases h1 : v = b
  · have h2 : ¬ a = v := by omega
    have h3 : ¬ v = a := by omega
    subst h1
    simp [h2]
  · by_cases h2 : v = a
    · subst h2
      have h3 : ¬ b = v := fun z => h1 z.symm
      simp [h1, h3]
    · have h3 : ¬ b = v := fun z => h1 z.symm
      have h4 : ¬ a = v := fun z => h2 z.symm
      simp [h1, h2, h3, h4]
theorem near_go {n : Nat} (X Y : Option D) : ∀ (todo dn : List (Int × Int)) (s4 s5 : Option D), (∀ e ∈ dn ++ todo, 1 ≤ e.1 ∧ e.1 < e.2 ∧ e.2 ≤ n) → (dn ++ todo).length < 1000 →
    ∃ t4 t5, forD (gtT fl2 [4, 5]) bodyN (todo.map ed) [X, Y, some (.dict (dmap (labs n) fun v => .list ((adj dn v).map PyData.int))), none, s4, s5, none] = M.pure (.nx [X, Y, some (.dict (dmap (labs n) fun v => .list ((adj (dn ++ todo) v).map PyData.int))), none, t4, t5, none])
  | [], dn, s4, s5, _, _ => ⟨s4, s5, by rw [List.append_nil]; rfl⟩
  | e :: todo, dn, s4, s5, hr, hl => by
    obtain ⟨a, b⟩ := e
    have e0 : dn ++ (a, b) :: todo = (dn ++ [(a, b)]) ++ todo := by simp
    have hab := hr (a, b) (by simp)
    obtain ⟨t4, t5, ih⟩ := near_go X Y todo (dn ++ [(a, b)]) (some (.int a)) (some (.int b)) (by rw [← e0]; exact hr) (by rw [← e0]; exact hl)
    refine ⟨t4, t5, ?_⟩
    rw [e0, ← ih, List.map_cons]
    exact forD_cons (ρ1 := [X, Y, some (.dict (dmap (labs n) fun v => .list ((adj dn v).map PyData.int))), none, some (.int a), some (.int b), none]) rfl (bodyN_step hab (fun e he => by have := (hr e (List.mem_append_left _ he)).2.1; omega) (by rw [List.length_append] at hl; omega) X Y)
/-- the neighbours, ascending -/
def nbr (E : List (Int × Int)) (v : Int) : List Int := isort (adj E v)
theorem near_den {n : Nat} {E : List (Int × Int)} (hr : ∀ e ∈ E, 1 ≤ e.1 ∧ e.1 < e.2 ∧ e.2 ≤ n) (hl : E.length < 1000) (hn : n ≤ 1000) :
    sg_neighbours_in.den [.list (E.map ed), .int n] = M.pure (.dict (dmap (labs n) fun v => .list ((nbr E v).map PyData.int))) := by
  have e : sg_neighbours_in.den [.list (E.map ed), .int n] = M.bind (df_neighbours_in [some (.list (E.map ed)), some (.int n), none, none, none, none, none]) (fun fl => match fl with | .nx _ => M.pure .none | .rt d => M.pure d) := rfl
  have h1 := range_1n hn
  have hc : compD (gtT fl1 [3]) tYesD (dN 3) (dFn oList dNil) [some (.list (E.map ed)), some (.int n), none, none, none, none, none] [] ((labs n).map PyData.int) = M.pure (dmap (labs n) fun v => .list ((adj [] v).map PyData.int)) := by
    have := compD_map (gt := gtT fl1 [3]) (ft := tYesD) (fk := dN 3) (fe := dFn oList dNil) (ρ := [some (.list (E.map ed)), some (.int n), none, none, none, none, none]) PyData.int (fun v => .list []) (labs n) [] (fun v _ => ⟨[some (.list (E.map ed)), some (.int n), none, some (.int v), none, none, none], rfl, rfl, rfl, rfl⟩) (by simpa using labs_nodup n)
    simpa [dmap, adj] using this
  obtain ⟨t4, t5, hg⟩ := near_go (n := n) (some (.list (E.map ed))) (some (.int n)) E [] none none (by simpa using hr) (by simpa using hl)
  rw [List.nil_append] at hg
  have hc2 : compD (gtT fl2 [3, 6]) tYesD (dN 3) (dFn oSorted (dCons (dN 6) dNil)) [some (.list (E.map ed)), some (.int n), some (.dict (dmap (labs n) fun v => .list ((adj E v).map PyData.int))), none, t4, t5, none] [] ((dmap (labs n) fun v => .list ((adj E v).map PyData.int)).map fun kd => .tuple [kd.1, kd.2]) = M.pure (dmap (labs n) fun v => .list ((nbr E v).map PyData.int)) := by
    have e2 : ((dmap (labs n) fun v => PyData.list ((adj E v).map PyData.int)).map fun kd => PyData.tuple [kd.1, kd.2]) = (labs n).map fun v => .tuple [.int v, .list ((adj E v).map PyData.int)] := by
      unfold dmap; rw [List.map_map]; rfl
    have := compD_map (gt := gtT fl2 [3, 6]) (ft := tYesD) (fk := dN 3) (fe := dFn oSorted (dCons (dN 6) dNil)) (ρ := [some (.list (E.map ed)), some (.int n), some (.dict (dmap (labs n) fun v => .list ((adj E v).map PyData.int))), none, t4, t5, none]) (fun v => .tuple [.int v, .list ((adj E v).map PyData.int)]) (fun v => .list ((nbr E v).map PyData.int)) (labs n) [] (fun v _ => ⟨[some (.list (E.map ed)), some (.int n), some (.dict (dmap (labs n) fun v => .list ((adj E v).map PyData.int))), some (.int v), t4, t5, some (.list ((adj E v).map PyData.int))], rfl, rfl, rfl, ?_⟩) (by simpa using labs_nodup n)
    · rw [e2]
      simpa [dmap] using this
    · show M.bind (M.bind (M.pure _) _) _ = _
      simp only [b_pure, dNil]
      show M.lift ((intsD ((adj E v).map PyData.int)).map fun ns => PyData.list ((isort ns).map PyData.int)) = _
      rw [intsD_map]; rfl
  have hd : df_neighbours_in [some (.list (E.map ed)), some (.int n), none, none, none, none, none] = M.pure (.rt (.dict (dmap (labs n) fun v => .list ((nbr E v).map PyData.int)))) := by
    show M.bind (dsAsg 2 _ _) _ = _
    simp only [dsAsg, dDc, dIts, dCons, dN, dC, dAtom, dBin, b_pure, b_lift, l_some, List.getElem?_cons_succ, List.getElem?_cons_zero, add_int, atomD, if_true, show dNil [some (PyData.list (E.map ed)), some (.int n), none, none, none, none, none] = M.pure [] from rfl, h1, hc, n_pure]
    show M.bind (dsFor (dIt seqD (dN 0)) (gtT fl2 [4, 5]) bodyN [some (.list (E.map ed)), some (.int n), some (.dict (dmap (labs n) fun v => .list ((adj [] v).map PyData.int))), none, none, none, none]) _ = _
    have hf : dsFor (dIt seqD (dN 0)) (gtT fl2 [4, 5]) bodyN [some (.list (E.map ed)), some (.int n), some (.dict (dmap (labs n) fun v => .list ((adj [] v).map PyData.int))), none, none, none, none] = forD (gtT fl2 [4, 5]) bodyN (E.map ed) [some (.list (E.map ed)), some (.int n), some (.dict (dmap (labs n) fun v => .list ((adj [] v).map PyData.int))), none, none, none, none] := rfl
    rw [hf, hg, b_pure]
    simp only [dsRet, dDc, dIt, dN, b_pure, b_lift, List.getElem?_cons_succ, List.getElem?_cons_zero, oItems, hc2, n_pure]
  rw [e, hd]
  rfl
end K01

/-! K01f: degrees_of, leaves_of; the law's own numbers. -/
namespace K01
open PySem L2 DL

structure Tree (n : Nat) (E : List (Int × Int)) : Prop where
  w : Wood n E
  len : E.length + 1 = n
  two : 2 ≤ n
  few : n ≤ 40
theorem nbr_len (E : List (Int × Int)) (v : Int) : (nbr E v).length = (adj E v).length := (isort_perm _).length_eq
theorem Tree.lenD {n : Nat} {E : List (Int × Int)} (t : Tree n E) : ((E.map ed).length : Int) + 1 = n := by
  rw [List.length_map]; have := t.len; omega
theorem Tree.near {n : Nat} {E : List (Int × Int)} (t : Tree n E) : sg_neighbours_in.den [.list (E.map ed), .int n] = M.pure (.dict (dmap (labs n) fun v => .list ((nbr E v).map PyData.int))) :=
  near_den t.w.rng (by have := t.len; have := t.few; omega) (by have := t.few; omega)
theorem Tree.check {n : Nat} {E : List (Int × Int)} (t : Tree n E) : sg_check_tree.den [.list (E.map ed)] = M.pure .none := check_tree_den t.w t.len t.two t.few
theorem degrees_den {n : Nat} {E : List (Int × Int)} (t : Tree n E) : sg_degrees_of.den [.list (E.map ed)] = M.pure (.list ((labs n).map fun v => .int ((adj E v).length : Nat))) := by
  have e : sg_degrees_of.den [.list (E.map ed)] = M.bind (df_degrees_of [some (.list (E.map ed)), none]) (fun fl => match fl with | .nx _ => M.pure .none | .rt d => M.pure d) := rfl
  have n1 : sg_check_tree.np = 1 := rfl
  have n2 : sg_neighbours_in.np = 2 := rfl
  have h1 := t.check
  have h2 := t.near
  have h3 := t.lenD
  have hv : (dmap (labs n) fun v => PyData.list ((nbr E v).map PyData.int)).map (·.2) = (labs n).map fun v => .list ((nbr E v).map PyData.int) := by unfold dmap; rw [List.map_map]; rfl
  have hc := compL_map (gt := gtT fl1 [1]) (ft := tYesD) (fe := dFn oLen (dCons (dN 1) dNil)) (ρ := [some (.list (E.map ed)), none]) (fun v : Int => .list ((nbr E v).map PyData.int)) (fun v => .int ((adj E v).length : Nat)) (labs n) (fun v _ => ⟨[some (.list (E.map ed)), some (.list ((nbr E v).map PyData.int))], rfl, rfl, by
    show M.lift (some (PyData.int (((nbr E v).map PyData.int).length : Nat))) = _
    rw [List.length_map, nbr_len, l_some]⟩)
  rw [e]
  have hd : df_degrees_of [some (.list (E.map ed)), none] = M.pure (.rt (.list ((labs n).map fun v => .int ((adj E v).length : Nat)))) := by
    simp only [df_degrees_of, dsSeq, dsExpr, dsRet, dCall, dCons, dN, b_pure, List.getElem?_cons_zero, show dNil [some (PyData.list (E.map ed)), none] = M.pure [] from rfl, List.length_cons, List.length_nil, n1, if_true, h1, dLc, dIt, dAtom, dBin, dFn, dC, oLen, b_lift, l_some, add_int, h3, atomD, n2, h2, oVals, hv, hc, n_pure]
  rw [hd]; rfl
theorem leaves_den {n : Nat} {E : List (Int × Int)} (t : Tree n E) : sg_leaves_of.den [.list (E.map ed)] = M.pure (.list (((labs n).filter fun v => decide ((adj E v).length = 1)).map PyData.int)) := by
  have e : sg_leaves_of.den [.list (E.map ed)] = M.bind (df_leaves_of [some (.list (E.map ed)), none, none]) (fun fl => match fl with | .nx _ => M.pure .none | .rt d => M.pure d) := rfl
  have n1 : sg_check_tree.np = 1 := rfl
  have n2 : sg_neighbours_in.np = 2 := rfl
  have h1 := t.check
  have h2 := t.near
  have h3 := t.lenD
  have hv : (dmap (labs n) fun v => PyData.list ((nbr E v).map PyData.int)).map (fun kd => PyData.tuple [kd.1, kd.2]) = (labs n).map fun v => .tuple [.int v, .list ((nbr E v).map PyData.int)] := by unfold dmap; rw [List.map_map]; rfl
  have hc := compL_filter (gt := gtT fl2 [1, 2]) (ft := dTest (dBin oEq (dFn oLen (dCons (dN 2) dNil)) (dC (.int 1)))) (fe := dN 1) (ρ := [some (.list (E.map ed)), none, none]) (fun v : Int => .tuple [.int v, .list ((nbr E v).map PyData.int)]) (fun v => decide ((adj E v).length = 1)) PyData.int (labs n) (fun v _ => ⟨[some (.list (E.map ed)), some (.int v), some (.list ((nbr E v).map PyData.int))], rfl, by
    show M.bind (M.lift (oEq (PyData.int (((nbr E v).map PyData.int).length : Nat)) (.int 1))) _ = _
    rw [List.length_map, nbr_len, eq_int, b_lift]
    show M.pure (decide (((adj E v).length : Int) = 1)) = _
    congr 1
    simp [show (((adj E v).length : Int) = 1) ↔ (adj E v).length = 1 by omega], fun _ => rfl⟩)
  rw [e]
  have hd : df_leaves_of [some (.list (E.map ed)), none, none] = M.pure (.rt (.list (((labs n).filter fun v => decide ((adj E v).length = 1)).map PyData.int))) := by
    simp only [df_leaves_of, dsSeq, dsExpr, dsRet, dCall, dCons, dN, b_pure, List.getElem?_cons_zero, show dNil [some (PyData.list (E.map ed)), none, none] = M.pure [] from rfl, List.length_cons, List.length_nil, n1, if_true, h1, dLc, dIt, dAtom, dBin, dFn, dC, oLen, b_lift, l_some, add_int, h3, atomD, n2, h2, oItems, hv, hc, n_pure]
  rw [hd]; rfl
theorem adj_filter (v : Int) : ∀ E : List (Int × Int), (∀ e ∈ E, e.1 ≠ e.2) → (E.filter fun e => decide (e.1 = v) || decide (e.2 = v)).map (fun e => e.1 + e.2 - v) = adj E v
  | [], _ => rfl
  | e :: E, h => by
    have ih := adj_filter v E fun x hx => h x (List.mem_cons_of_mem _ hx)
    have hn := h e List.mem_cons_self
    show _ = (_ ++ _) ++ adj E v
    rw [List.filter_cons]
    by_cases h1 : e.1 = v <;> by_cases h2 : e.2 = v
    · exact absurd (h1.trans h2.symm) hn
    · simp [h1, h2, ih] <;> omega
    · simp [h1, h2, ih] <;> omega
    · simp [h1, h2, ih]
theorem mates_den {n : Nat} {E : List (Int × Int)} (t : Tree n E) (v : Int) : sg__law_mates.den [.list (E.map ed), .int v] = M.pure (.list ((adj E v).map PyData.int)) := by
  have e : sg__law_mates.den [.list (E.map ed), .int v] = M.bind (df__law_mates [some (.list (E.map ed)), some (.int v), none]) (fun fl => match fl with | .nx _ => M.pure .none | .rt d => M.pure d) := rfl
  have hc := compL_filter (gt := gtT fl1 [2]) (ft := dTest (dBin oIn (dN 1) (dN 2))) (fe := dBin oSub (dAtom (dBin oAdd (dAtom (dBin oIx (dN 2) (dC (.int 0)))) (dAtom (dBin oIx (dN 2) (dC (.int 1)))))) (dN 1)) (ρ := [some (.list (E.map ed)), some (.int v), none]) ed (fun e => decide (e.1 = v) || decide (e.2 = v)) (fun e => .int (e.1 + e.2 - v)) E (fun e _ => ⟨[some (.list (E.map ed)), some (.int v), some (ed e)], rfl, by
    simp [dTest, dBin, dN, b_pure, l_some, oIn, ed, SeqAt.shaped, PyData.canLay0, PyData.canLayAll0, PyData.depth, PyData.depthAll, eqv_int, boolD], fun _ => by
    simp [dBin, dN, dC, dAtom, b_pure, l_some, oIx, ed, atI, ixN, atomD, oAdd, oSub]⟩)
  rw [e]
  have hd : df__law_mates [some (.list (E.map ed)), some (.int v), none] = M.pure (.rt (.list ((adj E v).map PyData.int))) := by
    simp only [df__law_mates, dsRet, dLc, dIt, dN, b_pure, List.getElem?_cons_zero, seqD, b_lift, hc, n_pure]
    rw [← adj_filter v E (fun e he => by have := (t.w.rng e he).2.1; omega), List.map_map]
    rfl
  rw [hd]; rfl
theorem first_den {n : Nat} {E : List (Int × Int)} (t : Tree n E) : sg__law_first_row.den [.list (E.map ed)] = M.pure (.list (((labs n).filter fun v => decide ((adj E v).length = 1)).map PyData.int)) := by
  have e : sg__law_first_row.den [.list (E.map ed)] = M.bind (df__law_first_row [some (.list (E.map ed)), none]) (fun fl => match fl with | .nx _ => M.pure .none | .rt d => M.pure d) := rfl
  have n1 : sg__law_mates.np = 2 := rfl
  have h3 : ((E.map ed).length : Int) + 2 = (n : Int) + 1 := by have := t.lenD; omega
  have hr := range_1n (n := n) (by have := t.few; omega)
  have hc := compL_filter (gt := gtT fl1 [1]) (ft := dTest (dBin oEq (dFn oLen (dCons (dCall sg__law_mates (dCons (dN 0) (dCons (dN 1) dNil))) dNil)) (dC (.int 1)))) (fe := dN 1) (ρ := [some (.list (E.map ed)), none]) PyData.int (fun v => decide ((adj E v).length = 1)) PyData.int (labs n) (fun v _ => ⟨[some (.list (E.map ed)), some (.int v)], rfl, by
    simp only [dTest, dBin, dFn, dCall, dCons, dN, dC, b_pure, List.getElem?_cons_zero, List.getElem?_cons_succ, show dNil [some (PyData.list (E.map ed)), some (.int v)] = M.pure [] from rfl, List.length_cons, List.length_nil, n1, if_true, mates_den t v, oLen, b_lift, eq_int, boolD, l_some, List.length_map]
    congr 1
    simp [show (((adj E v).length : Int) = 1) ↔ (adj E v).length = 1 by omega], fun _ => rfl⟩)
  rw [e]
  have hd : df__law_first_row [some (.list (E.map ed)), none] = M.pure (.rt (.list (((labs n).filter fun v => decide ((adj E v).length = 1)).map PyData.int))) := by
    simp only [df__law_first_row, dsRet, dLc, dIts, dCons, dN, dC, dAtom, dBin, dFn, b_pure, List.getElem?_cons_zero, show dNil [some (PyData.list (E.map ed)), none] = M.pure [] from rfl, oLen, b_lift, l_some, add_int, h3, atomD, if_true, hr, hc, n_pure]
  rw [hd]; rfl
end K01

/-! K01g: texts of nice data; _law_right worked out. -/
namespace K01
open PySem L2 DL
/-- a list of lists .. of small ints, k lists deep -/
def nice : Nat → D → Prop
  | _, .int i => i.natAbs < 10 ^ 12
  | k + 1, .list xs => xs.length ≤ 64 ∧ ∀ x ∈ xs, nice k x
  | _, _ => False
def wide : Nat → Nat
  | 0 => 0
  | k + 1 => 64 * (wide k + 1)
theorem showable_small {i : Int} (h : i.natAbs < 10 ^ 12) : i.natAbs.log2 < 1920 := by
  rcases Nat.eq_zero_or_pos i.natAbs with h0 | h0
  · rw [h0]; decide
  · rw [Nat.log2_lt (by omega)]
    exact Nat.lt_of_lt_of_le h (by
      have : (10 : Nat) ^ 12 ≤ 2 ^ 40 := by decide
      exact Nat.le_trans this (Nat.pow_le_pow_right (by decide) (by decide)))
theorem nice_facts : ∀ (k : Nat) (d : D), nice k d → d.hasDict = false ∧ d.showable = true ∧ d.depth ≤ k ∧ d.leavesShort 13 = true ∧ d.bulk ≤ wide k
  | k, .int i, h => by
    have h' : i.natAbs < 10 ^ 12 := by cases k <;> exact h
    refine ⟨by simp [PyData.hasDict], by simp [PyData.showable, showable_small h'], by simp [PyData.depth], ?_, by simp [PyData.bulk]⟩
    simp only [PyData.leavesShort, decide_eq_true_eq]
    exact PyData.shown_int_le h'
  | k + 1, .list xs, h => by
    obtain ⟨hl, h⟩ := h
    have all : ∀ (ys : List D), (∀ x ∈ ys, nice k x) → PyData.hasDictAll ys = false ∧ PyData.showableAll ys = true ∧ PyData.depthAll ys ≤ k ∧ PyData.leavesShortAll 13 ys = true ∧ PyData.bulkAll ys ≤ ys.length * (wide k + 1) := by
      intro ys
      induction ys with
      | nil => intro _; simp [PyData.hasDictAll, PyData.showableAll, PyData.depthAll, PyData.leavesShortAll, PyData.bulkAll]
      | cons y ys ih =>
        intro hy
        obtain ⟨a1, a2, a3, a4, a5⟩ := nice_facts k y (hy y (by simp))
        obtain ⟨b1, b2, b3, b4, b5⟩ := ih fun x hx => hy x (by simp [hx])
        refine ⟨by simp [PyData.hasDictAll, a1, b1], by simp [PyData.showableAll, a2, b2], by simp only [PyData.depthAll]; omega, by simp [PyData.leavesShortAll, a4, b4], ?_⟩
        simp only [PyData.bulkAll, List.length_cons, Nat.succ_mul]
        omega
    obtain ⟨b1, b2, b3, b4, b5⟩ := all xs h
    refine ⟨by simpa [PyData.hasDict] using b1, by simpa [PyData.showable] using b2, by simp only [PyData.depth]; omega, by simpa [PyData.leavesShort] using b4, ?_⟩
    have : xs.length * (wide k + 1) ≤ 64 * (wide k + 1) := Nat.mul_le_mul_right _ hl
    simp only [PyData.bulk, wide]
    omega
  | 0, .list xs, h => h.elim
  | k, .none, h => by cases k <;> exact h.elim
  | k, .bool _, h => by cases k <;> exact h.elim
  | k, .str _, h => by cases k <;> exact h.elim
  | k, .tuple _, h => by cases k <;> exact h.elim
  | k, .dict _, h => by cases k <;> exact h.elim
theorem repr_nice {xs : List D} (h : nice 3 (.list xs)) : oRepr [.list xs] = some (.str (PyData.shown (.list xs))) := by
  obtain ⟨a, b, c, d, e⟩ := nice_facts 3 _ h
  have e2 : wide 3 = 266304 := rfl
  exact if_pos ⟨a, b, by omega, PyData.shown_fits_bulk (by decide) (by decide) d (Nat.le_trans (e2 ▸ e) (by decide))⟩
theorem nice_int {k : Nat} {i : Int} (h : i.natAbs < 10 ^ 12) : nice k (.int i) := by cases k <;> exact h
theorem nice_succ : ∀ {k : Nat} {d : D}, nice k d → nice (k + 1) d
  | 0, .int _, h => h
  | _ + 1, .int _, h => h
  | _ + 1, .list _, h => ⟨h.1, fun x hx => nice_succ (h.2 x hx)⟩
theorem nice_ints {k : Nat} {ns : List Int} (hl : ns.length ≤ 64) (h : ∀ n ∈ ns, n.natAbs < 10 ^ 12) : nice (k + 1) (.list (ns.map .int)) :=
  ⟨by simpa using hl, fun x hx => by
    obtain ⟨n, hn, rfl⟩ := List.mem_map.mp hx
    exact nice_int (h n hn)⟩

theorem mem_labs_small {n : Nat} (hn : n ≤ 40) {u : Int} (h : u ∈ labs n) : u.natAbs < 10 ^ 12 := by
  have := (mem_labs (n := n)).1 h
  omega
theorem Tree.nice {n : Nat} {E : List (Int × Int)} (h : Tree n E) : nice 2 (.list (E.map ed)) := by
  refine ⟨by have := h.len; have := h.few; simp; omega, fun x hx => ?_⟩
  obtain ⟨e, he, rfl⟩ := List.mem_map.mp hx
  have r := h.w.rng e he
  have := h.few
  exact ⟨Nat.le_of_ble_eq_true rfl, fun y hy => by
    rcases (by simpa using hy : y = .int e.1 ∨ y = .int e.2) with rfl | rfl <;> exact nice_int (by omega)⟩
end K01

/-! K01h: _law_right worked out. -/
namespace K01
open PySem L2 DL
theorem str_eq (s t : Str) : oEq (.str s) (.str t) = some (.bool (decide (s = t))) := rfl
theorem str_ne (s t : Str) : oNe (.str s) (.str t) = some (.bool (!decide (s = t))) := rfl
theorem oList_small {ds : List D} (h : ds.length ≤ 1000) : oList ds = some (.list ds) := if_pos (by rw [sizeLine_eq]; omega)
def degL (n : Nat) (E : List (Int × Int)) : D := .list ((labs n).map fun v => .int ((adj E v).length : Nat))
def lvL (n : Nat) (E : List (Int × Int)) : D := .list (((labs n).filter fun v => decide ((adj E v).length = 1)).map PyData.int)
theorem Tree.ne {n : Nat} {E : List (Int × Int)} (t : Tree n E) : ∀ e ∈ E, e.1 ≠ e.2 := fun e he => by have := (t.w.rng e he).2.1; omega
theorem Tree.nice_deg {n : Nat} {E : List (Int × Int)} (t : Tree n E) : K01.nice 1 (degL n E) := by
  refine ⟨by simp [labs_len]; have := t.few; omega, fun x hx => ?_⟩
  obtain ⟨v, _, rfl⟩ := List.mem_map.mp hx
  have := adj_len v E t.ne
  have := t.len
  have := t.few
  exact nice_int (by omega)
theorem Tree.nice_lv {n : Nat} {E : List (Int × Int)} (t : Tree n E) : K01.nice 1 (lvL n E) := by
  refine nice_ints (Nat.le_trans (List.length_filter_le ..) (by rw [labs_len]; have := t.few; omega)) fun v hv => ?_
  exact mem_labs_small t.few (List.mem_filter.mp hv).1
theorem nice_two {k : Nat} {a b : D} (ha : nice k a) (hb : nice k b) : nice (k + 1) (.list [a, b]) := ⟨Nat.le_of_ble_eq_true rfl, fun x hx => by
  rcases (by simpa using hx : x = a ∨ x = b) with rfl | rfl <;> assumption⟩
theorem right_den {n : Nat} {E : List (Int × Int)} (t : Tree n E) : sg__law_right.den [.list (E.map ed)] = M.pure (.bool true) := by
  have e : sg__law_right.den [.list (E.map ed)] = M.bind (df__law_right [some (.list (E.map ed)), none, none, none, none]) (fun fl => match fl with | .nx _ => M.pure .none | .rt d => M.pure d) := rfl
  have n1 : sg__law_mates.np = 2 := rfl
  have n2 : sg__law_first_row.np = 1 := rfl
  have n3 : sg_degrees_of.np = 1 := rfl
  have n4 : sg_leaves_of.np = 1 := rfl
  have h3 : ((E.map ed).length : Int) + 2 = (n : Int) + 1 := by have := t.lenD; omega
  have hr := range_1n (n := n) (by have := t.few; omega)
  have d1 : sg_degrees_of.den [.list (E.map ed)] = M.pure (degL n E) := degrees_den t
  have d2 : sg_leaves_of.den [.list (E.map ed)] = M.pure (lvL n E) := leaves_den t
  have d3 : sg__law_first_row.den [.list (E.map ed)] = M.pure (lvL n E) := first_den t
  have r1 : oRepr [.list (E.map ed)] = some (.str (PyData.shown (.list (E.map ed)))) := repr_nice (nice_succ t.nice)
  have nd := nice_two t.nice_deg t.nice_lv
  have r2 : oRepr [.list [degL n E, lvL n E]] = some (.str (PyData.shown (.list [degL n E, lvL n E]))) := repr_nice (nice_succ nd)
  have r3 : oRepr [.list [.list [degL n E, lvL n E], .list [degL n E, lvL n E]]] = some (.str (PyData.shown (.list [.list [degL n E, lvL n E], .list [degL n E, lvL n E]]))) := repr_nice (nice_two nd nd)
  have l2 : ∀ a b : D, oList [a, b] = some (.list [a, b]) := fun a b => oList_small (by simp)
  have hc : ∀ b : Option D, compL (gtT fl1 [3]) tYesD (dFn oLen (dCons (dCall sg__law_mates (dCons (dN 0) (dCons (dN 3) dNil))) dNil)) [some (.list (E.map ed)), b, none, none, none] ((labs n).map PyData.int) = M.pure ((labs n).map fun v => .int ((adj E v).length : Nat)) := fun b => compL_map PyData.int (fun v => .int ((adj E v).length : Nat)) (labs n) fun v _ => ⟨[some (.list (E.map ed)), b, none, some (.int v), none], rfl, rfl, by
    simp only [dFn, dCall, dCons, dN, b_pure, List.getElem?_cons_zero, List.getElem?_cons_succ, show dNil [some (PyData.list (E.map ed)), b, none, some (.int v), none] = M.pure [] from rfl, List.length_cons, List.length_nil, n1, if_true, mates_den t v, oLen, l_some, List.length_map]⟩
  have hnil : ∀ ρ : Slots, dNil ρ = M.pure [] := fun _ => rfl
  have dg : PyData.list ((labs n).map fun v => .int ((adj E v).length : Nat)) = degL n E := rfl
  have pk : ∀ a : D, pick [0] ([] ++ [a]) = [a] := fun _ => rfl
  have ix0 : ixN 2 0 = some 0 := rfl
  have ix1 : ixN 2 1 = some 1 := rfl
  obtain ⟨A, hA, zA⟩ : ∃ A, degL n E = .list A ∧ A.length < sizeLine := ⟨_, rfl, by rw [List.length_map, labs_len, sizeLine_eq]; have := t.few; omega⟩
  obtain ⟨B, hB, zB⟩ : ∃ B, lvL n E = .list B ∧ B.length < sizeLine := ⟨_, rfl, by
    rw [List.length_map, sizeLine_eq]
    have := List.length_filter_le (fun v => decide ((adj E v).length = 1)) (labs n)
    have := labs_len n
    have := t.few
    omega⟩
  rw [hA] at d1 r2 r3 dg
  rw [hB] at d2 d3 r2 r3
  rw [e]
  have hd : df__law_right [some (.list (E.map ed)), none, none, none, none] = M.pure (.rt (.bool true)) := by
    simp only [df__law_right, dsSeq, dsAsg, dsIf, dsRet, dsNil, dsApp, dTest, dCall, dCallK, dCons, dN, b_pure, setS, List.set_cons_zero, List.set_cons_succ, List.getElem?_cons_zero, List.getElem?_cons_succ, hnil, List.length_cons, List.length_nil, n1, n2, n3, n4, if_true, d1, d2, d3, dLc, dIts, dAtom, dBin, dFn, dC, oLen, b_lift, l_some, add_int, h3, atomD, hr, hc, n_pure, r1, r2, r3, l2, dg, str_eq, str_ne, pk, decide_true, Bool.not_true, boolD, Bool.false_eq_true, if_false, fcIx, fcAtL, ix0, ix1, dAndV, zA, zB]
  rw [hd]; rfl
end K01

/-! K01i: walk_in, first loop. -/
namespace K01
open PySem L2 DL
def bodyI : DenS := dsIf (dTest (dBin oNotIn (dN 7) (dN 4))) (dsSeq (dsPut 4 (dN 7) (dN 6)) (dsApp (fcTop 5) 5 (dN 7))) dsNil
def stW (T : D) (one two : Int) (near : D) (ks : List Int) (par : Int → Int) (W : List Int) (l o : Option D) : Slots :=
  [some T, some (.int one), some (.int two), some near, some (.dict (dmap ks fun v => .int (par v))), some (.list (W.map PyData.int)), l, o, none]
section
variable {T near : D} {one two : Int}
theorem inner_old {ks W : List Int} {par : Int → Int} {c x : Int} (hx : x ∈ ks) : bodyI (stW T one two near ks par W (some (.int c)) (some (.int x))) = M.pure (.nx (stW T one two near ks par W (some (.int c)) (some (.int x)))) := by
  have h1 : oNotIn (.int x) (.dict (dmap ks fun v => .int (par v))) = some (.bool false) := by
    show some (PyData.bool (!(lookD _ (.int x)).isSome)) = _
    rw [lookD_dmap, if_pos hx]; rfl
  simp only [bodyI, stW, dsIf, dTest, dBin, dN, List.getElem?_cons_zero, List.getElem?_cons_succ, b_pure, h1, b_lift, boolD, l_some, Bool.false_eq_true, if_false, dsNil]
theorem inner_new {ks W : List Int} {par : Int → Int} {c x : Int} (hx : x ∉ ks) (hk : ks.length ≤ 1000) (hw : W.length ≤ 1000) : bodyI (stW T one two near ks par W (some (.int c)) (some (.int x))) = M.pure (.nx (stW T one two near (ks ++ [x]) (fun v => if v = x then c else par v) (W ++ [x]) (some (.int c)) (some (.int x)))) := by
  have h1 : oNotIn (.int x) (.dict (dmap ks fun v => .int (par v))) = some (.bool true) := by
    show some (PyData.bool (!(lookD _ (.int x)).isSome)) = _
    rw [lookD_dmap, if_neg hx]; rfl
  have h2 : putDk (dmap ks fun v => .int (par v)) (.int c) (.int x) = some (.dict (dmap (ks ++ [x]) fun v => .int (if v = x then c else par v))) := by
    show (if (dmap ks fun v => PyData.int (par v)).length < sizeLine then some (PyData.dict (putD _ (.int x) _)) else none) = _
    rw [if_pos (by unfold dmap; rw [List.length_map, sizeLine_eq]; omega), putD_new hx]
    congr 2
    unfold dmap
    rw [List.map_append]
    congr 1
    · refine List.map_congr_left fun a ha => ?_
      show _ = (PyData.int a, PyData.int (if a = x then c else par a))
      rw [if_neg (fun z : a = x => hx (z ▸ ha))]
    · simp
  have h3 : (W.map PyData.int).length < sizeLine := by rw [List.length_map, sizeLine_eq]; omega
  simp only [bodyI, stW, dsIf, dTest, dBin, dN, List.getElem?_cons_zero, List.getElem?_cons_succ, b_pure, h1, b_lift, boolD, l_some, if_true, dsSeq, dsPut, h2, setS, List.set_cons_zero, List.set_cons_succ, dsApp, fcTop, h3, List.map_append, List.map_cons, List.map_nil]
theorem inner_go (c : Int) : ∀ (xs ks : List Int) (par : Int → Int) (W : List Int) (o : Option D), ks.length + xs.length ≤ 1000 → W.length + xs.length ≤ 1000 →
    ∃ new par' o', forD (gtT fl1 [7]) bodyI (xs.map PyData.int) (stW T one two near ks par W (some (.int c)) o) = M.pure (.nx (stW T one two near (ks ++ new) par' (W ++ new) (some (.int c)) o')) ∧ new.Nodup ∧ (∀ v ∈ new, v ∈ xs ∧ v ∉ ks) ∧ (∀ v ∈ xs, v ∈ ks ++ new) ∧ (∀ v ∈ ks, par' v = par v) ∧ ∀ v ∈ new, par' v = c
  | [], ks, par, W, o, _, _ => ⟨[], par, o, by rw [List.append_nil, List.append_nil]; rfl, by simp, by simp, by simp, by simp, by simp⟩
  | x :: xs, ks, par, W, o, hk, hw => by
    rw [List.length_cons] at hk hw
    have hg : gtT fl1 [7] (.int x) (stW T one two near ks par W (some (.int c)) o) = some (stW T one two near ks par W (some (.int c)) (some (.int x))) := rfl
    rw [List.map_cons]
    by_cases hx : x ∈ ks
    · obtain ⟨new, par', o', e, a, b, d, f, g⟩ := inner_go c xs ks par W (some (.int x)) (by omega) (by omega)
      refine ⟨new, par', o', ?_, a, fun v hv => ⟨List.mem_cons_of_mem _ (b v hv).1, (b v hv).2⟩, fun v hv => ?_, f, g⟩
      · rw [forD_cons hg (inner_old hx)]; exact e
      · rcases List.mem_cons.mp hv with rfl | hv
        · exact List.mem_append_left _ hx
        · exact d v hv
    · obtain ⟨new, par', o', e, a, b, d, f, g⟩ := inner_go c xs (ks ++ [x]) (fun v => if v = x then c else par v) (W ++ [x]) (some (.int x)) (by rw [List.length_append, List.length_singleton]; omega) (by rw [List.length_append, List.length_singleton]; omega)
      refine ⟨x :: new, par', o', ?_, ?_, fun v hv => ?_, fun v hv => ?_, fun v hv => ?_, fun v hv => ?_⟩
      · rw [forD_cons hg (inner_new hx (by omega) (by omega)), e, List.append_assoc, List.append_assoc]; rfl
      · exact List.nodup_cons.mpr ⟨fun z => (b x z).2 (by simp), a⟩
      · rcases List.mem_cons.mp hv with rfl | hv
        · exact ⟨List.mem_cons_self, hx⟩
        · exact ⟨List.mem_cons_of_mem _ (b v hv).1, fun z => (b v hv).2 (List.mem_append_left _ z)⟩
      · rcases List.mem_cons.mp hv with rfl | hv
        · simp
        · have := d v hv; rw [List.append_assoc] at this; exact this
      · rw [f v (List.mem_append_left _ hv)]; exact if_neg fun z : v = x => hx (z ▸ hv)
      · rcases List.mem_cons.mp hv with rfl | hv
        · rw [f v (by simp)]; exact if_pos rfl
        · exact g v hv
end
end K01

/-! K01j: walk_in, the waiting list. -/
namespace K01
open PySem L2 DL
theorem len_le_sub : ∀ (l m : List Int), l.Nodup → (∀ v ∈ l, v ∈ m) → l.length ≤ m.length
  | [], _, _, _ => Nat.zero_le _
  | a :: l, m, nd, h => by
    have ha := h a List.mem_cons_self
    obtain ⟨na, nl⟩ := List.nodup_cons.mp nd
    have ih := len_le_sub l (m.erase a) nl fun v hv => (List.mem_erase_of_ne (fun z : v = a => na (z ▸ hv))).mpr (h v (List.mem_cons_of_mem _ hv))
    have := List.length_erase_of_mem ha
    have : 0 < m.length := List.length_pos_of_mem ha
    rw [List.length_cons]
    omega
theorem mem_adj {u v : Int} : ∀ {E : List (Int × Int)}, u ∈ adj E v ↔ ∃ e ∈ E, (e.1 = v ∧ e.2 = u) ∨ (e.2 = v ∧ e.1 = u)
  | [] => by simp [adj]
  | e :: E => by
    have ih := mem_adj (u := u) (v := v) (E := E)
    show u ∈ (_ ++ _) ++ adj E v ↔ _
    rw [List.mem_append, List.mem_append, ih]
    constructor
    · rintro ((h | h) | ⟨x, hx, h⟩)
      · split at h
        · exact ⟨e, List.mem_cons_self, .inl ⟨by assumption, by simpa using (List.mem_singleton.mp h).symm⟩⟩
        · cases h
      · split at h
        · exact ⟨e, List.mem_cons_self, .inr ⟨by assumption, by simpa using (List.mem_singleton.mp h).symm⟩⟩
        · cases h
      · exact ⟨x, List.mem_cons_of_mem _ hx, h⟩
    · rintro ⟨x, hx, h⟩
      rcases List.mem_cons.mp hx with rfl | hx
      · rcases h with ⟨h1, h2⟩ | ⟨h1, h2⟩
        · exact .inl (.inl (by simp [h1, h2]))
        · exact .inl (.inr (by simp [h1, h2]))
      · exact .inr ⟨x, hx, h⟩
theorem adj_symm {E : List (Int × Int)} {u v : Int} (h : u ∈ adj E v) : v ∈ adj E u := by
  obtain ⟨e, he, h⟩ := mem_adj.mp h
  exact mem_adj.mpr ⟨e, he, h.symm.imp (fun z => ⟨z.2, z.1⟩) (fun z => ⟨z.2, z.1⟩) |>.imp id id⟩
theorem mem_nbr {E : List (Int × Int)} {u v : Int} : u ∈ nbr E v ↔ u ∈ adj E v := (isort_perm _).mem_iff
structure Inv (n : Nat) (E : List (Int × Int)) (two : Int) (ks : List Int) (par : Int → Int) (W : List Int) : Prop where
  nd : ks.Nodup
  sub : ∀ v ∈ ks, v ∈ labs n
  top : two ∈ ks
  back : ∀ pre v post, ks = pre ++ v :: post → v = two ∨ (par v ∈ pre ∧ par v ∈ adj E v)
  wk : ∀ v ∈ W, v ∈ ks
  few : W.length ≤ ks.length
  done : ∀ v ∈ ks, v ∉ W → ∀ u ∈ adj E v, u ∈ ks
theorem Inv.step {n : Nat} {E : List (Int × Int)} {two c : Int} {ks new W0 : List Int} {par par' : Int → Int} (h : Inv n E two ks par (W0 ++ [c])) (hr : ∀ e ∈ E, 1 ≤ e.1 ∧ e.1 < e.2 ∧ e.2 ≤ n)
    (a : new.Nodup) (b : ∀ v ∈ new, v ∈ nbr E c ∧ v ∉ ks) (d : ∀ v ∈ nbr E c, v ∈ ks ++ new) (f : ∀ v ∈ ks, par' v = par v) (g : ∀ v ∈ new, par' v = c) : Inv n E two (ks ++ new) par' (W0 ++ new) where
  nd := List.nodup_append.mpr ⟨h.nd, a, fun x hx y hy e => (b y hy).2 (e ▸ hx)⟩
  sub v hv := by
    rcases List.mem_append.mp hv with hv | hv
    · exact h.sub v hv
    · obtain ⟨e, he, z⟩ := mem_adj.mp (mem_nbr.mp (b v hv).1)
      have := hr e he
      exact mem_labs.mpr (by rcases z with ⟨_, z⟩ | ⟨_, z⟩ <;> omega)
  top := List.mem_append_left _ h.top
  back pre v post e := by
    have hc : c ∈ ks := h.wk c (by simp)
    rcases List.append_eq_append_iff.mp e with ⟨m, e1, e2⟩ | ⟨m, e1, e2⟩
    · have hv : v ∈ new := by rw [e2]; simp
      exact .inr ⟨by rw [g v hv, e1]; exact List.mem_append_left _ hc, by rw [g v hv]; exact adj_symm (mem_nbr.mp (b v hv).1)⟩
    · cases m with
      | nil =>
        have hv : v ∈ new := by simp at e2; rw [← e2]; simp
        exact .inr ⟨by rw [g v hv]; simp at e1; rw [← e1]; exact hc, by rw [g v hv]; exact adj_symm (mem_nbr.mp (b v hv).1)⟩
      | cons y m =>
        obtain ⟨rfl, e3⟩ := List.cons.inj e2
        have hv : v ∈ ks := by rw [e1]; simp
        rw [f v hv]
        exact h.back pre v m e1
  wk v hv := by
    rcases List.mem_append.mp hv with hv | hv
    · exact List.mem_append_left _ (h.wk v (List.mem_append_left _ hv))
    · exact List.mem_append_right _ hv
  few := by
    have := h.few
    simp only [List.length_append, List.length_singleton] at this ⊢
    omega
  done v hv hn u hu := by
    have hn1 : v ∉ W0 := fun z => hn (List.mem_append_left _ z)
    have hn2 : v ∉ new := fun z => hn (List.mem_append_right _ z)
    have hk : v ∈ ks := (List.mem_append.mp hv).resolve_right hn2
    by_cases e : v = c
    · subst e; exact d u (mem_nbr.mpr hu)
    · exact List.mem_append_left _ (h.done v hk (by simp [hn1, e]) u hu)
def bodyW : DenS := dsSeq (dsSetPop 6 5 (fpLast 5)) (dsFor (dIt seqD (dBin oIx (dN 3) (dN 6))) (gtT fl1 [7]) bodyI)
def tstW : Slots → M Bool := dTest (dBin oNe (dN 5) (dFn oList dNil))
theorem wh_true {c : Slots → M Bool} {fb : DenS} {n : Nat} {ρ ρ2 : Slots} (h : c ρ = M.pure true) (hb : fb ρ = M.pure (.nx ρ2)) : whD c fb (n + 1) ρ = whD c fb n ρ2 := by
  simp only [whD, h, b_pure, if_true, hb]
theorem wh_false {c : Slots → M Bool} {fb : DenS} {n : Nat} {ρ : Slots} (h : c ρ = M.pure false) : whD c fb (n + 1) ρ = M.pure (.nx ρ) := by
  simp only [whD, h, b_pure, Bool.false_eq_true, if_false]
theorem ints_shaped (W : List Int) : SeqAt.shaped (.list (W.map PyData.int)) = true := by
  have : ∀ W : List Int, PyData.canLayAll0 (W.map PyData.int) = true ∧ PyData.depthAll (W.map PyData.int) = 0 := by
    intro W
    induction W with
    | nil => exact ⟨rfl, rfl⟩
    | cons x W ih => simp [PyData.canLayAll0, PyData.depthAll, PyData.canLay0, PyData.depth, ih]
  simp [SeqAt.shaped, PyData.canLay0, PyData.depth, this W]
theorem ne_nil_ints (W : List Int) : oNe (.list (W.map PyData.int)) (.list []) = some (.bool (!W.isEmpty)) := by
  have a : SeqAt.shaped (.list (W.map PyData.int)) = true := ints_shaped W
  have b : SeqAt.shaped (.list []) = true := by decide
  show (if _ then some (PyData.bool (!PyData.eqv (.list (W.map PyData.int)) (.list []))) else none) = _
  rw [if_pos ⟨a, b⟩]
  cases W with
  | nil => rfl
  | cons x W => rfl
section
variable {T : D} {one two : Int} {n : Nat} {E : List (Int × Int)}
theorem whileW (t : Tree n E) : ∀ (f : Nat) (ks : List Int) (par : Int → Int) (W : List Int) (l o : Option D), Inv n E two ks par W → n + W.length < f + ks.length →
    ∃ ks' par' l' o', whD tstW bodyW f (stW T one two (.dict (dmap (labs n) fun v => .list ((nbr E v).map PyData.int))) ks par W l o) = M.pure (.nx (stW T one two (.dict (dmap (labs n) fun v => .list ((nbr E v).map PyData.int))) ks' par' [] l' o')) ∧ Inv n E two ks' par' []
  | 0, ks, par, W, l, o, h, hf => by
    have := len_le_sub _ _ h.nd h.sub
    rw [labs_len] at this
    omega
  | f + 1, ks, par, W, l, o, h, hf => by
    have hk := len_le_sub _ _ h.nd h.sub
    rw [labs_len] at hk
    have hn := t.few
    have hl := t.len
    have ht : tstW (stW T one two (.dict (dmap (labs n) fun v => .list ((nbr E v).map PyData.int))) ks par W l o) = M.pure (!W.isEmpty) := by
      simp only [tstW, dTest, dBin, dN, dFn, stW, List.getElem?_cons_zero, List.getElem?_cons_succ, b_pure, show ∀ ρ, dNil ρ = M.pure [] from fun _ => rfl, oList_small (ds := []) (by simp), b_lift, l_some, ne_nil_ints, boolD]
    rcases List.eq_nil_or_concat W with rfl | ⟨W0, c, rfl⟩
    · exact ⟨ks, par, l, o, wh_false ht, h⟩
    · have hc : c ∈ ks := h.wk c (by simp)
      have hx := nbr_len E c
      have hy := adj_len c E t.ne
      have hw := h.few
      simp only [List.concat_eq_append, List.length_append, List.length_singleton] at hw hf ht h ⊢
      obtain ⟨new, par', o', e, a, b, d, p, q⟩ := inner_go (T := T) (one := one) (two := two) (near := .dict (dmap (labs n) fun v => .list ((nbr E v).map PyData.int))) c (nbr E c) ks par W0 o (by omega) (by omega)
      obtain ⟨ks', par'', l', o'', e2, i2⟩ := whileW t f (ks ++ new) par' (W0 ++ new) (some (.int c)) o' (h.step t.w.rng a b d p q) (by rw [List.length_append, List.length_append]; omega)
      refine ⟨ks', par'', l', o'', ?_, i2⟩
      rw [← e2]
      have hb : bodyW (stW T one two (.dict (dmap (labs n) fun v => .list ((nbr E v).map PyData.int))) ks par (W0 ++ [c]) l o) = M.pure (.nx (stW T one two (.dict (dmap (labs n) fun v => .list ((nbr E v).map PyData.int))) (ks ++ new) par' (W0 ++ new) (some (.int c)) o')) := by
        have h1 : fpLast 5 (stW T one two (.dict (dmap (labs n) fun v => .list ((nbr E v).map PyData.int))) ks par (W0 ++ [c]) l o) = M.pure (.int c, W0.map PyData.int) := by
          simp only [fpLast, stW, List.getElem?_cons_zero, List.getElem?_cons_succ, List.map_append, List.map_cons, List.map_nil, List.length_append, List.length_cons, List.length_nil]
          rw [show (W0.map PyData.int).length + (0 + 1) - 1 = (W0.map PyData.int).length by omega, List.getElem?_concat_length, List.dropLast_concat]
          rfl
        have h2 : lookD (dmap (labs n) fun v => PyData.list ((nbr E v).map PyData.int)) (.int c) = some (.list ((nbr E c).map PyData.int)) := by
          rw [lookD_dmap, if_pos (h.sub c hc)]
        rw [← e]
        unfold bodyW dsSeq dsSetPop
        rw [h1, b_pure, b_pure]
        show dsFor (dIt seqD (dBin oIx (dN 3) (dN 6))) (gtT fl1 [7]) bodyI (stW T one two _ ks par W0 (some (.int c)) o) = _
        unfold dsFor dIt dBin dN stW
        simp only [List.getElem?_cons_zero, List.getElem?_cons_succ, b_pure, oIx, h2, b_lift, l_some, seqD]
      exact wh_true (by rw [ht]; cases W0 <;> rfl) hb
end
end K01

/-! K01k: walk_in, the road. -/
namespace K01
open PySem L2 DL
/-- a walk from a to b along edges, no label twice -/
inductive Road (E : List (Int × Int)) : Int → Int → List Int → Prop
  | one (a) : Road E a a [a]
  | step {a b c R} : b ∈ adj E a → a ∉ R → Road E b c R → Road E a c (a :: R)
theorem Road.ne {E : List (Int × Int)} {a b : Int} {R : List Int} (h : Road E a b R) : R ≠ [] := by cases h <;> simp
def tstR : Slots → M Bool := dTest (dBin oNe (dAtom (dBin oIx (dN 8) (dUn oNeg (dC (.int 1))))) (dN 2))
def bodyR : DenS := dsApp (fcTop 8) 8 (dAtom (dBin oIx (dN 4) (dAtom (dBin oIx (dN 8) (dUn oNeg (dC (.int 1)))))))
def stR (T : D) (one two : Int) (near : D) (ks : List Int) (par : Int → Int) (l o : Option D) (R : List Int) : Slots :=
  [some T, some (.int one), some (.int two), some near, some (.dict (dmap ks fun v => .int (par v))), some (.list []), l, o, some (.list (R.map PyData.int))]
theorem last_ints (R : List Int) (v : Int) : atI ((R ++ [v]).map PyData.int) (-1) = some (.int v) := by
  unfold atI ixN
  simp
  rw [if_pos (by omega)]
  simp [show (-1 + ((R.length : Int) + 1)).toNat = R.length by omega, List.getElem?_append_right]
section
variable {T near : D} {one two : Int} {n : Nat} {E : List (Int × Int)}
theorem ne_int (i j : Int) : oNe (.int i) (.int j) = some (.bool (!decide (i = j))) := by
  simp [oNe, isStrD, SeqAt.shaped, PyData.canLay0, PyData.depth, eqv_int]
theorem tstR_at {ks : List Int} {par : Int → Int} {l o : Option D} {R : List Int} {v : Int} : tstR (stR T one two near ks par l o (R ++ [v])) = M.pure (!decide (v = two)) := by
  simp only [tstR, stR, dTest, dBin, dAtom, dUn, dC, dN, List.getElem?_cons_zero, List.getElem?_cons_succ, b_pure, b_lift, l_some, oNeg, oIx, last_ints, atomD, if_true, ne_int, boolD]
theorem bodyR_at {ks : List Int} {par : Int → Int} {l o : Option D} {R : List Int} {v : Int} (hv : v ∈ ks) (hl : R.length ≤ 1000) : bodyR (stR T one two near ks par l o (R ++ [v])) = M.pure (.nx (stR T one two near ks par l o (R ++ [v] ++ [par v]))) := by
  have h2 : lookD (dmap ks fun v => PyData.int (par v)) (.int v) = some (.int (par v)) := by rw [lookD_dmap, if_pos hv]
  have h3 : ((R ++ [v]).map PyData.int).length < sizeLine := by rw [List.length_map, List.length_append, List.length_singleton, sizeLine_eq]; omega
  have h4 : (R ++ [v] ++ [par v]).map PyData.int = (R ++ [v]).map PyData.int ++ [.int (par v)] := by simp
  simp only [bodyR, stR, dsApp, fcTop, dBin, dAtom, dUn, dC, dN, List.getElem?_cons_zero, List.getElem?_cons_succ, b_pure, b_lift, l_some, oNeg, oIx, last_ints, atomD, h2, h3, if_true, setS, List.set_cons_zero, List.set_cons_succ, h4]
theorem roadW {ks : List Int} {par : Int → Int} {l o : Option D} (h : Inv n E two ks par []) : ∀ (k f : Nat) (pre post : List Int) (v : Int) (R : List Int), pre.length = k → ks = pre ++ v :: post → R.length + k ≤ 900 → k < f →
    ∃ Q, whD tstR bodyR f (stR T one two near ks par l o (R ++ [v])) = M.pure (.nx (stR T one two near ks par l o (R ++ Q))) ∧ Road E v two Q ∧ ∀ x ∈ Q, x = v ∨ x ∈ pre := by
  intro k
  induction k using Nat.strongRecOn with
  | ind k ih =>
    intro f pre post v R hk e hl hf
    obtain ⟨f, rfl⟩ : ∃ g, f = g + 1 := ⟨f - 1, by omega⟩
    by_cases q : v = two
    · subst q
      exact ⟨[v], wh_false (by rw [tstR_at]; simp), .one v, by simp⟩
    · obtain ⟨p1, p2⟩ := (h.back pre v post e).resolve_left q
      obtain ⟨pa, pb, e2⟩ := List.append_of_mem p1
      have hlen : pa.length < k := by rw [← hk, e2]; simp
      obtain ⟨Q, a, b, c⟩ := ih pa.length hlen f pa (pb ++ v :: post) (par v) (R ++ [v]) rfl (by rw [e, e2]; simp) (by rw [List.length_append, List.length_singleton]; omega) (by omega)
      have hv : v ∈ ks := by rw [e]; simp
      refine ⟨v :: Q, ?_, .step p2 (fun z => ?_) b, fun x hx => ?_⟩
      · rw [wh_true (by rw [tstR_at]; simp [q]) (bodyR_at hv (by omega)), a, List.append_assoc]; rfl
      · have nd := h.nd
        rw [e] at nd
        have nv : v ∉ pre := fun z => (List.nodup_append.mp nd).2.2 v z v List.mem_cons_self rfl
        rcases c v z with y | y
        · exact nv (y ▸ p1)
        · exact nv (by rw [e2]; exact List.mem_append_left _ y)
      · rcases List.mem_cons.mp hx with rfl | hx
        · exact .inl rfl
        · right
          rcases c x hx with rfl | y
          · exact p1
          · rw [e2]; exact List.mem_append_left _ y
end
end K01

/-! K01l: walk_in and walk_of worked out. -/
namespace K01
open PySem L2 DL
theorem seq_nx {f g : DenS} {ρ ρ2 : Slots} (h : f ρ = M.pure (.nx ρ2)) : dsSeq f g ρ = g ρ2 := by unfold dsSeq; rw [h, b_pure]
def Conn (n : Nat) (E : List (Int × Int)) : Prop := ∀ χ : Int → Bool, (∀ e ∈ E, χ e.1 = χ e.2) → ∀ u v, u ∈ labs n → v ∈ labs n → χ u = χ v
theorem Inv.all {n : Nat} {E : List (Int × Int)} {two : Int} {ks : List Int} {par : Int → Int} (h : Inv n E two ks par []) (c : Conn n E) {v : Int} (hv : v ∈ labs n) : v ∈ ks := by
  have := c (fun v => decide (v ∈ ks)) (fun e he => by
    have h1 : e.1 ∈ ks → e.2 ∈ ks := fun z => h.done e.1 z (by simp) e.2 (mem_adj.mpr ⟨e, he, .inl ⟨rfl, rfl⟩⟩)
    have h2 : e.2 ∈ ks → e.1 ∈ ks := fun z => h.done e.2 z (by simp) e.1 (mem_adj.mpr ⟨e, he, .inr ⟨rfl, rfl⟩⟩)
    exact decide_eq_decide.mpr ⟨h1, h2⟩) v two hv (h.sub two h.top)
  simpa [h.top] using this
theorem walk_in_den {n : Nat} {E : List (Int × Int)} (t : Tree n E) (c : Conn n E) {one two : Int} (h1 : one ∈ labs n) (h2 : two ∈ labs n) : ∃ Q, Road E one two Q ∧ sg_walk_in.den [.list (E.map ed), .int one, .int two] = M.pure (.list (Q.map PyData.int)) := by
  have e : sg_walk_in.den [.list (E.map ed), .int one, .int two] = M.bind (df_walk_in [some (.list (E.map ed)), some (.int one), some (.int two), none, none, none, none, none, none]) (fun fl => match fl with | .nx _ => M.pure .none | .rt d => M.pure d) := rfl
  have n2 : sg_neighbours_in.np = 2 := rfl
  have hn := t.near
  have h3 := t.lenD
  have few := t.few
  have i0 : Inv n E two [two] (fun _ => 0) [two] := ⟨by simp, by simpa using h2, by simp, fun pre v post q => by
    cases pre with
    | nil => simp at q; exact .inl q.1.symm
    | cons a pre => simp at q, by simp, by simp, fun v hv nv => absurd hv nv⟩
  obtain ⟨ks, par, l, o, e1, i1⟩ := whileW (T := .list (E.map ed)) (one := one) t 1000000 [two] (fun _ => 0) [two] none none i0 (by simp; omega)
  have hk := len_le_sub _ _ i1.nd i1.sub
  rw [labs_len] at hk
  obtain ⟨pre, post, e2⟩ := List.append_of_mem (i1.all c h1)
  have hp : pre.length < 40 := by
    have := congrArg List.length e2
    rw [List.length_append, List.length_cons] at this
    omega
  obtain ⟨Q, e3, r, _⟩ := roadW (T := .list (E.map ed)) (one := one) (near := .dict (dmap (labs n) fun v => .list ((nbr E v).map PyData.int))) (l := l) (o := o) i1 pre.length 1000000 pre post one [] rfl e2 (by simp; omega) (by omega)
  refine ⟨Q, r, ?_⟩
  rw [e]
  have hd : df_walk_in [some (.list (E.map ed)), some (.int one), some (.int two), none, none, none, none, none, none] = M.pure (.rt (.list (Q.map PyData.int))) := by
    have p1 : (dsPar [3, 4, 5] (dCons (dCall sg_neighbours_in (dCons (dN 0) (dCons (dAtom (dBin oAdd (dFn oLen (dCons (dN 0) dNil)) (dC (.int 1)))) dNil))) (dCons (dDict1 (dN 2) (dC (.int 0))) (dCons (dFn oList (dCons (dN 2) dNil)) dNil)))) [some (.list (E.map ed)), some (.int one), some (.int two), none, none, none, none, none, none] = M.pure (.nx (stW (.list (E.map ed)) one two (.dict (dmap (labs n) fun v => .list ((nbr E v).map PyData.int))) [two] (fun _ => 0) [two] none none)) := by
      simp only [dsPar, dCall, dCons, dN, dDict1, dFn, dC, dBin, dAtom, b_pure, List.getElem?_cons_zero, List.getElem?_cons_succ, show ∀ ρ, dNil ρ = M.pure [] from fun _ => rfl, oLen, b_lift, l_some, add_int, h3, atomD, if_true, List.length_cons, List.length_nil, n2, hn, DL.keyOf, oList_small (ds := [PyData.int two]) (by simp)]
      rfl
    have e0 : df_walk_in = dsSeq (dsPar [3, 4, 5] (dCons (dCall sg_neighbours_in (dCons (dN 0) (dCons (dAtom (dBin oAdd (dFn oLen (dCons (dN 0) dNil)) (dC (.int 1)))) dNil))) (dCons (dDict1 (dN 2) (dC (.int 0))) (dCons (dFn oList (dCons (dN 2) dNil)) dNil)))) (dsSeq (whD tstW bodyW 1000000) (dsSeq (dsAsg 8 (dFn oList (dCons (dN 1) dNil))) (dsSeq (whD tstR bodyR 1000000) (dsRetN 8)))) := rfl
    have p3 : dsAsg 8 (dFn oList (dCons (dN 1) dNil)) (stW (.list (E.map ed)) one two (.dict (dmap (labs n) fun v => .list ((nbr E v).map PyData.int))) ks par [] l o) = M.pure (.nx (stR (.list (E.map ed)) one two (.dict (dmap (labs n) fun v => .list ((nbr E v).map PyData.int))) ks par l o ([] ++ [one]))) := by
      simp only [dsAsg, dFn, dCons, dN, stW, b_pure, List.getElem?_cons_zero, List.getElem?_cons_succ, show ∀ ρ, dNil ρ = M.pure [] from fun _ => rfl, b_lift, l_some, oList_small (ds := [PyData.int one]) (by simp)]
      rfl
    rw [e0, seq_nx p1, seq_nx e1, seq_nx p3, seq_nx e3]
    rfl
  rw [hd]; rfl
end K01

/-! K01m: walk_of; a road is the only one. -/
namespace K01
open PySem L2 DL
theorem check_label_den {n : Nat} {v : Int} (h : v ∈ labs n) : sg_check_label.den [.int v, .int n] = M.pure .none := by
  have e : sg_check_label.den [.int v, .int n] = M.bind (df_check_label [some (.int v), some (.int n)]) (fun fl => match fl with | .nx _ => M.pure .none | .rt d => M.pure d) := rfl
  have n1 : sg_is_label.np = 2 := rfl
  obtain ⟨h1, h2⟩ := mem_labs.mp h
  have hl := label_i ⟨h1, h2⟩
  rw [e]
  have hd : df_check_label [some (.int v), some (.int n)] = M.pure (.nx [some (.int v), some (.int n)]) := by
    simp [df_check_label, dsIf, dNot, dTruth, dAtom, dCall, dCons, dNil, dN, dsNil, b_pure, b_lift, l_some, n1, hl, atomD, truthD]
  rw [hd]; rfl
theorem walk_of_den {n : Nat} {E : List (Int × Int)} (t : Tree n E) (c : Conn n E) {one two : Int} (h1 : one ∈ labs n) (h2 : two ∈ labs n) : ∃ Q, Road E one two Q ∧ sg_walk_of.den [.list (E.map ed), .int one, .int two] = M.pure (.list (Q.map PyData.int)) := by
  obtain ⟨Q, r, hq⟩ := walk_in_den t c h1 h2
  have e : sg_walk_of.den [.list (E.map ed), .int one, .int two] = M.bind (df_walk_of [some (.list (E.map ed)), some (.int one), some (.int two)]) (fun fl => match fl with | .nx _ => M.pure .none | .rt d => M.pure d) := rfl
  have n1 : sg_check_tree.np = 1 := rfl
  have n2 : sg_check_label.np = 2 := rfl
  have n3 : sg_walk_in.np = 3 := rfl
  have h3 := t.lenD
  refine ⟨Q, r, ?_⟩
  rw [e]
  have hd : df_walk_of [some (.list (E.map ed)), some (.int one), some (.int two)] = M.pure (.rt (.list (Q.map PyData.int))) := by
    simp only [df_walk_of, dsSeq, dsExpr, dsRet, dCall, dCons, dN, b_pure, List.getElem?_cons_zero, List.getElem?_cons_succ, show ∀ ρ, dNil ρ = M.pure [] from fun _ => rfl, List.length_cons, List.length_nil, n1, n2, n3, if_true, t.check, check_label_den h1, check_label_den h2, dAtom, dBin, dFn, dC, oLen, b_lift, l_some, add_int, h3, atomD, hq]
  rw [hd]; rfl
end K01

/-! K01n: a road is the only one; the road back. -/
namespace K01
open PySem L2 DL
variable {n : Nat} {E : List (Int × Int)}
theorem Road.last {a c : Int} {Q : List Int} (h : Road E a c Q) : c ∈ Q := by
  induction h with
  | one a => simp
  | step _ _ _ ih => exact List.mem_cons_of_mem _ ih
theorem Road.first {a c : Int} {Q : List Int} (h : Road E a c Q) : a ∈ Q := by cases h <;> simp
theorem Road.same {χ : Int → Bool} {a x : Int} {e : Int × Int} (hs : ∀ e' ∈ E, e' ≠ e → χ e'.1 = χ e'.2) (hx : x = e.1 ∨ x = e.2) {c : Int} {Q : List Int} (h : Road E a c Q) : x ∉ Q → χ a = χ c := by
  induction h with
  | one a => intro _; rfl
  | step hb _ hr ih =>
    intro hn
    have n1 := List.ne_of_not_mem_cons hn
    have n2 := List.not_mem_of_not_mem_cons hn
    have n3 : x ≠ _ := fun z => n2 (z ▸ hr.first)
    rw [← ih n2]
    obtain ⟨e', he, z⟩ := mem_adj.mp hb
    have ne : e' ≠ e := by
      rintro rfl
      rcases z with ⟨z1, z2⟩ | ⟨z1, z2⟩ <;> rcases hx with hx | hx
      · exact n1 (hx.trans z1)
      · exact n3 (hx.trans z2)
      · exact n3 (hx.trans z2)
      · exact n1 (hx.trans z1)
    have := hs e' he ne
    rcases z with ⟨z1, z2⟩ | ⟨z1, z2⟩
    · rw [← z1, ← z2]; exact this
    · rw [← z1, ← z2]; exact this.symm
theorem Road.unique (w : Wood n E) {a c : Int} {Q : List Int} (h : Road E a c Q) : ∀ {Q' : List Int}, Road E a c Q' → Q = Q' := by
  induction h with
  | one a =>
    intro Q' h'
    cases h' with
    | one => rfl
    | step _ hn hr => exact absurd hr.last hn
  | @step a b c R hb hn hr ih =>
    intro Q' h'
    cases h' with
    | one => exact absurd hr.last hn
    | @step _ b' _ R' hb' hn' hr' =>
      have hbb : b = b' := by
        refine Classical.byContradiction fun hne => ?_
        obtain ⟨e, he, z⟩ := mem_adj.mp hb
        obtain ⟨e', he', z'⟩ := mem_adj.mp hb'
        obtain ⟨pre, post, hE⟩ := List.append_of_mem he
        obtain ⟨χ, c1, c2⟩ := w.cut pre e post hE
        have hs : ∀ x ∈ E, x ≠ e → χ x.1 = χ x.2 := fun x hx ne => c2 x (by
          rw [hE] at hx
          simp at hx ⊢
          rcases hx with h | h | h
          · exact .inl h
          · exact absurd h ne
          · exact .inr h)
        have hax : a = e.1 ∨ a = e.2 := z.elim (fun z => .inl z.1.symm) (fun z => .inr z.1.symm)
        have s1 := hr.same hs hax hn
        have s2 := hr'.same hs hax hn'
        have ne : e' ≠ e := by
          rintro rfl
          have r := w.rng e' he
          rcases z with ⟨z1, z2⟩ | ⟨z1, z2⟩ <;> rcases z' with ⟨y1, y2⟩ | ⟨y1, y2⟩ <;> omega
        have s3 := hs e' he' ne
        have s4 : χ a = χ b' := by
          rcases z' with ⟨y1, y2⟩ | ⟨y1, y2⟩
          · rw [← y1, ← y2]; exact s3
          · rw [← y1, ← y2]; exact s3.symm
        have s5 : χ a = χ b := by rw [s4, s2, s1]
        apply c1
        rcases z with ⟨z1, z2⟩ | ⟨z1, z2⟩
        · rw [z1, z2]; exact s5
        · rw [z1, z2]; exact s5.symm
      subst hbb
      rw [ih hr']
theorem Road.snoc {a b c : Int} {R : List Int} (h : Road E a b R) : c ∈ adj E b → c ∉ R → Road E a c (R ++ [c]) := by
  induction h with
  | one a => intro h1 h2; exact .step h1 (by simpa using fun z : a = c => h2 (by simp [z])) (.one c)
  | step hb hn _ ih =>
    intro h1 h2
    have q : _ ∧ _ := ⟨List.ne_of_not_mem_cons h2, List.not_mem_of_not_mem_cons h2⟩
    exact .step hb (by simp [hn]; exact fun z => q.1 z.symm) (ih h1 q.2)
theorem Road.back {a c : Int} {Q : List Int} (h : Road E a c Q) : Road E c a Q.reverse := by
  induction h with
  | one a => exact .one a
  | step hb hn _ ih =>
    rw [List.reverse_cons]
    exact ih.snoc (adj_symm hb) (by simpa using hn)
end K01

/-! K01o: _law_walk_right worked out. -/
namespace K01
open PySem L2 DL
section
variable {n : Nat} {E : List (Int × Int)} {a c : Int} {Q : List Int}
theorem Road.nodup (h : Road E a c Q) : Q.Nodup := by
  induction h with
  | one a => simp
  | step _ hn _ ih => exact List.nodup_cons.mpr ⟨hn, ih⟩
theorem adj_labs (hr : ∀ e ∈ E, 1 ≤ e.1 ∧ e.1 < e.2 ∧ e.2 ≤ n) {u v : Int} (h : u ∈ adj E v) : u ∈ labs n := by
  obtain ⟨e, he, z⟩ := mem_adj.mp h
  have := hr e he
  exact mem_labs.mpr (by rcases z with ⟨_, z⟩ | ⟨_, z⟩ <;> omega)
theorem Road.sub (hr : ∀ e ∈ E, 1 ≤ e.1 ∧ e.1 < e.2 ∧ e.2 ≤ n) (h : Road E a c Q) : a ∈ labs n → ∀ x ∈ Q, x ∈ labs n := by
  induction h with
  | one a => intro h x hx; rw [List.mem_singleton.mp hx]; exact h
  | step hb _ _ ih =>
    intro h x hx
    rcases List.mem_cons.mp hx with rfl | hx
    · exact h
    · exact ih (adj_labs hr hb) x hx
theorem Road.head (h : Road E a c Q) : ∃ R, Q = a :: R := by cases h <;> exact ⟨_, rfl⟩
theorem Road.endIs (h : Road E a c Q) : ∃ R, Q = R ++ [c] := by
  obtain ⟨R, e⟩ := h.back.head
  exact ⟨R.reverse, by rw [← List.reverse_reverse Q, e]; simp⟩
theorem Road.pairs (h : Road E a c Q) : ∀ p ∈ Q.zip (Q.drop 1), p.2 ∈ adj E p.1 := by
  induction h with
  | one a => simp
  | @step a b c R hb _ hr ih =>
    obtain ⟨S, rfl⟩ := hr.head
    intro p hp
    simp only [List.drop_succ_cons, List.drop_zero, List.zip_cons_cons] at hp ih
    rcases List.mem_cons.mp hp with rfl | hp
    · exact hb
    · exact ih p hp
end
theorem ints_atoms (W : List Int) : (W.map PyData.int).all atomD = true := by simp [atomD]
theorem ints_flat (W : List Int) : flatD (.list (W.map PyData.int)) = true := ints_atoms W
theorem edges_shaped (E : List (Int × Int)) : SeqAt.shaped (.list (E.map ed)) = true := by
  have : ∀ E : List (Int × Int), PyData.canLayAll0 (E.map ed) = true ∧ PyData.depthAll (E.map ed) ≤ 1 := by
    intro E
    induction E with
    | nil => exact ⟨rfl, Nat.zero_le _⟩
    | cons x W ih => simp [ed, PyData.canLayAll0, PyData.depthAll, PyData.canLay0, PyData.depth, ih]
  have h := this E
  simp [SeqAt.shaped, PyData.canLay0, PyData.depth, h.1]
  omega
theorem eqv_ed (e : Int × Int) (a b : Int) : PyData.eqv (ed e) (.list [.int a, .int b]) = decide (e = (a, b)) := by
  obtain ⟨x, y⟩ := e
  simp only [ed, PyData.eqv, PyData.eqvAll, Bool.and_true]
  by_cases h1 : x = a <;> by_cases h2 : y = b <;> simp [h1, h2]
theorem notIn_ed (E : List (Int × Int)) (a b : Int) : oNotIn (.list [.int a, .int b]) (.list (E.map ed)) = some (.bool (!decide ((a, b) ∈ E))) := by
  have h1 : SeqAt.shaped (.list [.int a, .int b]) = true := ints_shaped [a, b]
  show (if _ then some (PyData.bool (!(E.map ed).any fun z => PyData.eqv z (.list [.int a, .int b]))) else none) = _
  rw [if_pos ⟨h1, edges_shaped E⟩]
  congr 3
  induction E with
  | nil => simp
  | cons x E ih =>
    rw [List.map_cons, List.any_cons, ih, eqv_ed]
    by_cases h : x = (a, b)
    · subst h; simp
    · have h' : ¬ (a, b) = x := fun z => h z.symm
      simp [h, h']
theorem eqv_ints : ∀ a b : List Int, PyData.eqvAll (a.map PyData.int) (b.map PyData.int) = decide (a = b)
  | [], [] => rfl
  | [], _ :: _ => rfl
  | _ :: _, [] => rfl
  | x :: a, y :: b => by
    have ih := eqv_ints a b
    simp only [List.map_cons, PyData.eqvAll, eqv_int, ih]
    by_cases h1 : x = y <;> by_cases h2 : a = b <;> simp [h1, h2]
theorem eq_ints (a b : List Int) : oEq (.list (a.map PyData.int)) (.list (b.map PyData.int)) = some (.bool (decide (a = b))) := by
  show (if _ then some (PyData.bool (PyData.eqvAll (a.map PyData.int) (b.map PyData.int))) else none) = _
  rw [if_pos ⟨ints_shaped a, ints_shaped b⟩, eqv_ints]
def bodyZ : DenS := (dsIf (dTest (dBin oNotIn (dFn oList (dCons (dFn oMin2 (dCons (dN 6) (dCons (dN 7) dNil))) (dCons (dFn oMax2 (dCons (dN 6) (dCons (dN 7) dNil))) dNil))) (dN 0))) (dsRet (dC (.bool false))) dsNil)
theorem zip_go {n : Nat} {E : List (Int × Int)} (hr : ∀ e ∈ E, 1 ≤ e.1 ∧ e.1 < e.2 ∧ e.2 ≤ n) (X1 X2 X3 X4 X8 : Option D) : ∀ (ps : List (Int × Int)) (s6 s7 : Option D), (∀ p ∈ ps, p.2 ∈ adj E p.1) →
    ∃ t6 t7, forD (gtA fl2 [6, 7]) bodyZ (ps.map fun p => .tuple [.int p.1, .int p.2]) [some (.list (E.map ed)), X1, X2, X3, X4, none, s6, s7, X8] = M.pure (.nx [some (.list (E.map ed)), X1, X2, X3, X4, none, t6, t7, X8])
  | [], s6, s7, _ => ⟨s6, s7, rfl⟩
  | (a, b) :: ps, s6, s7, h => by
    obtain ⟨t6, t7, ih⟩ := zip_go hr X1 X2 X3 X4 X8 ps (some (.int a)) (some (.int b)) fun p hp => h p (List.mem_cons_of_mem _ hp)
    refine ⟨t6, t7, ?_⟩
    rw [← ih, List.map_cons]
    refine forD_cons (ρ1 := [some (.list (E.map ed)), X1, X2, X3, X4, none, some (.int a), some (.int b), X8]) rfl ?_
    obtain ⟨e, he, z⟩ := mem_adj.mp (h (a, b) List.mem_cons_self)
    have r := hr e he
    have hm : ((if b < a then b else a), (if b > a then b else a)) ∈ E := by
      obtain ⟨x, y⟩ := e
      rcases z with ⟨z1, z2⟩ | ⟨z1, z2⟩
      · simp only at z1 z2 r
        subst z1; subst z2
        rw [if_neg (by omega), if_pos (by omega)]; exact he
      · simp only at z1 z2 r
        subst z1; subst z2
        rw [if_pos (by omega), if_neg (by omega)]; exact he
    have l2 : ∀ a b : D, oList [a, b] = some (.list [a, b]) := fun a b => oList_small (by simp)
    simp only [bodyZ, dsIf, dTest, dBin, dFn, dCons, dN, List.getElem?_cons_zero, List.getElem?_cons_succ, b_pure, show ∀ ρ, dNil ρ = M.pure [] from fun _ => rfl, oMin2, oMax2, b_lift, l_some, l2, notIn_ed, decide_eq_true hm, Bool.not_true, boolD, Bool.false_eq_true, if_false, dsNil]
theorem filter_none {ρ : Slots} (hρ : ρ.length = 9) : ∀ W : List Int, compL (gtT fl1 [8]) (dOr (dNot (dTruth (dUn (oIsi "int") (dN 8)))) (dTruth (dUn (oIsi "bool") (dN 8)))) (dN 8) ρ (W.map PyData.int) = M.pure [] := by
  intro W
  have := compL_filter (gt := gtT fl1 [8]) (ft := dOr (dNot (dTruth (dUn (oIsi "int") (dN 8)))) (dTruth (dUn (oIsi "bool") (dN 8)))) (fe := dN 8) (ρ := ρ) PyData.int (fun _ => false) PyData.int W (fun v _ => ⟨ρ.set 8 (some (.int v)), rfl, by
    have d8 : dN 8 (ρ.set 8 (some (.int v))) = M.pure (.int v) := dN_at (by rw [List.getElem?_set_self (by omega)])
    simp only [dOr, dNot, dTruth, dUn, d8, b_pure, oIsi, tyName, Option.map_some, b_lift, l_some, truthD]
    rfl, fun z => by cases z⟩)
  have fe : W.filter (fun _ => false) = [] := List.filter_eq_nil_iff.mpr (by simp)
  rw [this, fe]; rfl
theorem walk_right_den {n : Nat} {E : List (Int × Int)} (t : Tree n E) (c : Conn n E) {one two : Int} (h1 : one ∈ labs n) (h2 : two ∈ labs n) : sg__law_walk_right.den [.list (E.map ed), .int one, .int two] = M.pure (.bool true) := by
  have e : sg__law_walk_right.den [.list (E.map ed), .int one, .int two] = M.bind (df__law_walk_right [some (.list (E.map ed)), some (.int one), some (.int two), none, none, none, none, none, none]) (fun fl => match fl with | .nx _ => M.pure .none | .rt d => M.pure d) := rfl
  obtain ⟨Q, r, hq⟩ := walk_of_den t c h1 h2
  obtain ⟨Q', r', hq'⟩ := walk_of_den t c h2 h1
  have hback : Q' = Q.reverse := r'.unique t.w r.back
  have n1 : sg_walk_of.np = 3 := rfl
  have few := t.few
  have hnd := r.nodup
  have hsub := r.sub t.w.rng h1
  have hlen := len_le_sub _ _ hnd hsub
  rw [labs_len] at hlen
  have rp1 : oRepr [.list (E.map ed)] = some (.str (PyData.shown (.list (E.map ed)))) := repr_nice (nice_succ t.nice)
  have rp2 : oRepr [.list (Q.map PyData.int)] = some (.str (PyData.shown (.list (Q.map PyData.int)))) := repr_nice (nice_ints (k := 2) (by omega) fun v hv => mem_labs_small few (hsub v hv))
  have l2 : ∀ a b : D, oList [a, b] = some (.list [a, b]) := fun a b => oList_small (by simp)
  have l0 : oList [] = some (.list []) := oList_small (by simp)
  obtain ⟨R, hR⟩ := r.head
  obtain ⟨S, hS⟩ := r.endIs
  have at0 : atI (Q.map PyData.int) 0 = some (.int one) := by
    rw [hR]
    unfold atI ixN
    simp
  have atl : atI (Q.map PyData.int) (-1) = some (.int two) := by rw [hS]; exact last_ints S two
  have ls : oLenSet (.list (Q.map PyData.int)) = some (.int Q.length) := by
    unfold oLenSet
    simp only [intsD_map]
    rw [if_pos ⟨by omega, hnd⟩]
  have cut1 : dcut (Q.map PyData.int) (some 1) none = (Q.drop 1).map PyData.int := by
    have hp : 1 ≤ Q.length := by rw [hR]; simp
    unfold dcut
    rw [show (some 1 : Option Int) = some ((1 : Nat) : Int) from rfl, HT.sIx_nat, HT.sIx_none, List.length_map, Nat.min_eq_left hp, List.take_of_length_le (by simp), List.map_drop]
  have tk : takeAt [.list (Q.map PyData.int), .list (Q.map PyData.int)] (.int 0) = some (.list (Q.map PyData.int), [HOLE, .list (Q.map PyData.int)]) := rfl
  have hz : (List.zip (Q.map PyData.int) ((Q.drop 1).map PyData.int)).map (fun p => PyData.tuple [p.1, p.2]) = (Q.zip (Q.drop 1)).map fun p => .tuple [.int p.1, .int p.2] := by
    rw [List.zip_map, List.map_map]; rfl
  have pk : ∀ a b c : D, pick [2, 1, 0] ([] ++ [a, b, c]) = [c, b, a] := fun _ _ _ => rfl
  have ix1 : ∀ a b : D, atI [a, b] 1 = some b := fun _ _ => rfl
  have ix0 : ∀ a b : D, atI [a, b] 0 = some a := fun _ _ => rfl
  have fz := fun (a : Option D) (b : Option D) => filter_none (ρ := [some (.list (E.map ed)), some (.int one), some (.int two), some (.str (PyData.shown (.list (E.map ed)))), some (.list [HOLE, .list (Q.map PyData.int)]), some (.list (Q.map PyData.int)), a, b, none]) rfl Q
  obtain ⟨t6, t7, ez⟩ := zip_go t.w.rng (some (.int one)) (some (.int two)) (some (.str (PyData.shown (.list (E.map ed))))) (some (.list [HOLE, .list (Q.map PyData.int)])) none (Q.zip (Q.drop 1)) none none r.pairs
  have app : Q.length < sizeLine := by rw [sizeLine_eq]; omega
  have eqf := eq_ints Q' Q.reverse
  rw [hback, decide_eq_true rfl, List.map_reverse] at eqf
  rw [hback, List.map_reverse] at hq'
  have fl := ints_flat Q
  have fl1' := ints_flat (Q.drop 1)
  have fl2' := ints_flat Q.reverse
  rw [List.map_reverse] at fl2'
  have ne0 : oNe (.list []) (.list []) = some (.bool false) := ne_nil_ints []
  have fn0 : flatD (.list []) = true := rfl
  have nl : ∀ ρ : Slots, dNil ρ = M.pure [] := fun _ => rfl
  rw [e]
  have hd : df__law_walk_right [some (.list (E.map ed)), some (.int one), some (.int two), none, none, none, none, none, none] = M.pure (.rt (.bool true)) := by
    unfold bodyZ at ez
    simp only [df__law_walk_right, dsSeq, dsAsg, dsIf, dsRet, dsNil, dsApp, dsTake, dsForP, dTest, dCall, dCallK, dCons, dN, dOr, dSl, dPt, dFlat, dUn, b_pure, setS, List.set_cons_zero, List.set_cons_succ, List.getElem?_cons_zero, List.getElem?_cons_succ, nl, List.length_cons, List.length_nil, n1, if_true, hq, hq', dLc, dIt, dIts, dAtom, dBin, dFn, dC, oLen, b_lift, l_some, add_int, atomD, n_pure, rp1, rp2, l2, l0, str_eq, str_ne, pk, decide_true, Bool.not_true, boolD, Bool.false_eq_true, if_false, fcTop, app, lstAt, tk, oIx, at0, atl, ls, oNeg, ne_int, List.length_map, oZip, cut1, fl1', if_pos, hz, ez, finP, seqD, fz, ne0, fn0, ix0, ix1, oRev, eqf, fl2']
  rw [hd]; rfl
end K01

/-! K01p: _law_next, _law_draws worked out; grown trees. -/
namespace K01
open PySem L2 DL
theorem log_small {i : Int} (h0 : 0 ≤ i) (h1 : i < 2 ^ 64) : i.natAbs.log2 < 64 := by
  rcases Nat.eq_zero_or_pos i.natAbs with h | h
  · rw [h]; decide
  · rw [Nat.log2_lt (by omega)]; omega
theorem mul_small {i j : Int} (a : 0 ≤ i ∧ i < 2 ^ 64) (b : 0 ≤ j ∧ j < 2 ^ 64) : oMul (.int i) (.int j) = some (.int (i * j)) := by
  have := log_small a.1 a.2
  have := log_small b.1 b.2
  exact if_pos (by omega)
theorem mod_pos (i : Int) {j : Int} (h : 0 < j) : oMod (.int i) (.int j) = some (.int (i % j)) := if_pos h
theorem div_small (i : Int) {j : Int} (h : 0 < j) (h2 : j < 2 ^ 64) : oDiv (.int i) (.int j) = some (.int (i / j)) := if_pos ⟨h, by have := log_small (Int.le_of_lt h) h2; omega⟩
theorem pow_106 : oPow (.int 10) (.int 6) = some (.int 1000000) := by
  have h : (0 : Int) ≤ 6 ∧ (Builtin.Int.intBits 10 : Int) * 6 ≤ 2 ^ 27 := by decide +kernel
  exact if_pos (e := none) h
def atomR : Res D → Res D
  | .ok (.int i) r => .ok (.int i) r
  | .ok d r => if atomD d = true then .ok d r else .bad
  | .ex c d r => .ex c d r
  | .bad => .bad
theorem atom_app (f : Den) (ρ : Slots) (r : Rg) : dAtom f ρ r = atomR (f ρ r) := by
  unfold dAtom M.bind
  cases f ρ r with
  | ok d r' =>
    cases d with
    | int i => rfl
    | none => rfl
    | bool _ => rfl
    | str _ => rfl
    | _ => rfl
  | ex c d r' => rfl
  | bad => rfl
theorem ite_at {α : Type} {c : Prop} [Decidable c] (f g : M α) (r : Rg) : (if c then f else g) r = if c then f r else g r := by split <;> rfl
/-- c drawn numbers more may be asked for -/
def Ok (c : Nat) (r : Rg) : Prop := ∃ x k b, r = some (x, k, b) ∧ 0 ≤ k ∧ k + c ≤ 1000000
theorem Ok.le {c c' : Nat} {r : Rg} (h : Ok c r) (hc : c' ≤ c) : Ok c' r := by
  obtain ⟨x, k, b, e, h0, h1⟩ := h
  exact ⟨x, k, b, e, h0, by omega⟩
theorem next_den {c : Nat} {r : Rg} (h : Ok (c + 1) r) : ∃ i r', sg__law_next.den [] r = .ok (.int i) r' ∧ Ok c r' := by
  obtain ⟨x, k, b, rfl, h0, h1⟩ := h
  have hk : 0 ≤ k + 1 ∧ k + 1 < 2 ^ 64 := by omega
  cases b with
  | true =>
    have hm := mod_pos x (j := 1000000) (by decide)
    have hd := div_small x (j := 1000000) (by decide) (by decide)
    refine ⟨x % 1000000, some (x / 1000000, k + 1, true), ?_, x / 1000000, k + 1, true, rfl, by omega, by omega⟩
    show M.bind (df__law_next [none, none, none]) (fun fl => match fl with | .nx _ => M.pure .none | .rt d => M.pure d) (some (x, k, true)) = _
    simp only [df__law_next, dsSeq, dsRset, dsAsg, dsIf, dsRet, dsNil, dTruth, atom_app, atomR, dBin, dFn, dCons, dNil, dN, dC, dRng, rgGet, rgSet, M.bind, M.pure, M.lift, oInt, truthD, setS, add_int, hm, hd, pow_106, if_true, List.getElem?_cons_zero, List.getElem?_cons_succ, List.set_cons_succ, List.set_cons_zero]
  | false =>
    have kk : (k + 1) * (k + 1) ≤ 1000001 * 1000001 := Int.mul_le_mul (by omega) (by omega) (by omega) (by omega)
    have kk0 : 0 ≤ (k + 1) * (k + 1) := Int.mul_nonneg (by omega) (by omega)
    have e1 := mod_pos x (j := 1000003) (by decide)
    have m1 := mul_small hk hk
    have m2 := mul_small (i := (k + 1) * (k + 1)) (j := 7919) ⟨kk0, by omega⟩ (by decide)
    have a0 : 0 ≤ x % 1000003 ∧ x % 1000003 < 1000003 := by omega
    have m3 := mul_small (i := x % 1000003 + (k + 1) * (k + 1) * 7919 + (k + 1)) (j := 48271) (by omega) (by decide)
    generalize hs : (x % 1000003 + (k + 1) * (k + 1) * 7919 + (k + 1)) * 48271 = s at m3
    have e2 := mod_pos s (j := 2147483629) (by decide)
    have a1 : 0 ≤ s % 2147483629 ∧ s % 2147483629 < 2147483629 := by omega
    generalize s % 2147483629 = n1 at e2 a1
    have m4 := mul_small (i := n1) (j := n1) (by omega) (by omega)
    have e3 := mod_pos (n1 * n1) (j := 2147483587) (by decide)
    have a2 : 0 ≤ n1 * n1 % 2147483587 ∧ n1 * n1 % 2147483587 < 2147483587 := by omega
    generalize n1 * n1 % 2147483587 = n2 at e3 a2
    have m5 := mul_small (i := n2) (j := n2 + 2) (by omega) (by omega)
    have e4 := mod_pos (n2 * (n2 + 2)) (j := 2147483579) (by decide)
    generalize n2 * (n2 + 2) % 2147483579 = n3 at e4
    have e5 := div_small n3 (j := 7) (by decide) (by decide)
    refine ⟨n3 / 7, some (x, k + 1, false), ?_, x, k + 1, false, rfl, by omega, by omega⟩
    show M.bind (df__law_next [none, none, none]) (fun fl => match fl with | .nx _ => M.pure .none | .rt d => M.pure d) (some (x, k, false)) = _
    simp only [df__law_next, dsSeq, dsRset, dsAsg, dsIf, dsRet, dsNil, dTruth, atom_app, atomR, dBin, dFn, dCons, dNil, dN, dC, dRng, rgGet, rgSet, M.bind, M.pure, M.lift, oInt, truthD, setS, add_int, e1, m1, m2, m3, e2, m4, e3, m5, e4, e5, if_true, if_false, Bool.false_eq_true, List.getElem?_cons_zero, List.getElem?_cons_succ, List.set_cons_succ, List.set_cons_zero]
/-- int(_law_next(..)) % m -/
def dDraw : Den := dFn oInt (dCons (dAtom (dCall sg__law_next dNil)) dNil)
theorem draw_at {c : Nat} {r : Rg} (h : Ok (c + 1) r) : ∃ i r', Ok c r' ∧ ∀ ρ : Slots, dDraw ρ r = .ok (.int i) r' := by
  obtain ⟨i, r', e, h'⟩ := next_den h
  refine ⟨i, r', h', fun ρ => ?_⟩
  have n1 : sg__law_next.np = 0 := rfl
  have e1 : dAtom (dCall sg__law_next dNil) ρ r = .ok (.int i) r' := by
    show M.bind (M.bind (M.pure []) _) _ r = _
    rw [b_pure]
    show M.bind (sg__law_next.den []) _ r = _
    rw [b_at e]; rfl
  simp only [dDraw, dFn, dCons, M.bind, e1]
  rfl
/-- edges among the labels S, grown leaf by leaf -/
structure Grow (n : Nat) (S : List Int) (E : List (Int × Int)) : Prop where
  rng : ∀ e ∈ E, 1 ≤ e.1 ∧ e.1 < e.2 ∧ e.2 ≤ n
  ins : ∀ e ∈ E, e.1 ∈ S ∧ e.2 ∈ S
  cut : ∀ e E0, E.Perm (e :: E0) → ∃ χ : Int → Bool, χ e.1 ≠ χ e.2 ∧ ∀ e' ∈ E0, χ e'.1 = χ e'.2
  con : ∀ χ : Int → Bool, (∀ e ∈ E, χ e.1 = χ e.2) → ∀ u v, u ∈ S → v ∈ S → χ u = χ v
  len : E.length + 1 = S.length
theorem Grow.start (n : Nat) (s : Int) : Grow n [s] [] where
  rng := nofun
  ins := nofun
  cut e E0 h := by have := h.length_eq; simp at this
  con χ _ u v hu hv := by simp at hu hv; rw [hu, hv]
  len := rfl
theorem Grow.step {n : Nat} {S : List Int} {E E' : List (Int × Int)} {u v : Int} (g : Grow n S E) (hu : u ∈ S) (hv : v ∉ S) (h1 : 1 ≤ u ∧ u ≤ n) (h2 : 1 ≤ v ∧ v ≤ n) (hp : E'.Perm ((min u v, max u v) :: E)) : Grow n (S ++ [v]) E' := by
  have hne : u ≠ v := fun z => hv (z ▸ hu)
  have hor : (min u v = u ∧ max u v = v) ∨ (min u v = v ∧ max u v = u) := by omega
  have inE : ∀ e ∈ E, e.1 ≠ v ∧ e.2 ≠ v := fun e he => ⟨fun z => hv (z ▸ (g.ins e he).1), fun z => hv (z ▸ (g.ins e he).2)⟩
  refine ⟨fun e he => ?_, fun e he => ?_, fun e E0 q => ?_, fun χ hχ a b ha hb => ?_, ?_⟩
  · rcases List.mem_cons.mp (hp.mem_iff.mp he) with rfl | he
    · show 1 ≤ min u v ∧ min u v < max u v ∧ max u v ≤ n
      omega
    · exact g.rng e he
  · rcases List.mem_cons.mp (hp.mem_iff.mp he) with rfl | he
    · rcases hor with ⟨a, b⟩ | ⟨a, b⟩ <;> simp [a, b, hu]
    · have := g.ins e he
      simp [this.1, this.2]
  · by_cases ee : e = (min u v, max u v)
    · subst ee
      have q2 : E.Perm E0 := (List.perm_cons _).mp (hp.symm.trans q)
      refine ⟨fun x => decide (x = v), ?_, fun e' he' => ?_⟩
      · rcases hor with ⟨a, b⟩ | ⟨a, b⟩ <;> simp [a, b, hne]
      · have := inE e' (q2.mem_iff.mpr he')
        simp [this.1, this.2]
    · have hm : e ∈ E := by
        have : e ∈ E' := q.mem_iff.mpr List.mem_cons_self
        exact (List.mem_cons.mp (hp.mem_iff.mp this)).resolve_left ee
      have p1 : E.Perm (e :: E.erase e) := List.perm_cons_erase hm
      obtain ⟨χ, c1, c2⟩ := g.cut e _ p1
      have p2 : (e :: E0).Perm (e :: ((min u v, max u v) :: E.erase e)) := (q.symm.trans hp).trans ((p1.cons _).trans (List.Perm.swap ..))
      have p3 : E0.Perm ((min u v, max u v) :: E.erase e) := (List.perm_cons _).mp p2
      refine ⟨fun x => if x = v then χ u else χ x, ?_, fun e' he' => ?_⟩
      · have := inE e hm
        simp [this.1, this.2, c1]
      · rcases List.mem_cons.mp (p3.mem_iff.mp he') with rfl | he'
        · rcases hor with ⟨a, b⟩ | ⟨a, b⟩ <;> simp [a, b, hne]
        · have := inE e' (List.mem_of_mem_erase he')
          simp [this.1, this.2, c2 e' he']
  · have hE : ∀ e ∈ E, χ e.1 = χ e.2 := fun e he => hχ e (hp.mem_iff.mpr (List.mem_cons_of_mem _ he))
    have k := g.con χ hE
    have huv : χ u = χ v := by
      have := hχ _ (hp.mem_iff.mpr List.mem_cons_self)
      rcases hor with ⟨a, b⟩ | ⟨a, b⟩ <;> simp [a, b] at this
      · exact this
      · exact this.symm
    have all : ∀ a, a ∈ S ++ [v] → χ a = χ u := fun a ha => by
      rcases List.mem_append.mp ha with ha | ha
      · exact k a u ha hu
      · rw [List.mem_singleton.mp ha, huv]
    rw [all a ha, all b hb]
  · rw [hp.length_eq, List.length_append, List.length_cons, g.len]; rfl
theorem Grow.tree {n : Nat} {S : List Int} {E : List (Int × Int)} (g : Grow n S E) (hS : S.Perm (labs n)) (h1 : 2 ≤ n) (h2 : n ≤ 40) : Tree n E ∧ Conn n E := by
  have hl : S.length = n := by rw [hS.length_eq]; unfold labs; simp
  refine ⟨⟨⟨g.rng, fun pre e post h => ?_⟩, by rw [g.len, hl], h1, h2⟩, fun χ hχ u v hu hv => g.con χ hχ u v (hS.mem_iff.mpr hu) (hS.mem_iff.mpr hv)⟩
  exact g.cut e (pre ++ post) (by rw [h]; exact List.perm_middle)
/-- a written tree: each edge brings one label more -/
def growB (n : Nat) : List Int → List (Int × Int) → Option (List Int)
  | S, [] => some S
  | S, e :: E => if e.1 < e.2 ∧ 1 ≤ e.1 ∧ e.2 ≤ (n : Int) then
      if e.1 ∈ S ∧ e.2 ∉ S then growB n (S ++ [e.2]) E
      else if e.2 ∈ S ∧ e.1 ∉ S then growB n (S ++ [e.1]) E else none
    else none
theorem growB_ok {n : Nat} : ∀ {E D : List (Int × Int)} {S S' : List Int}, Grow n S D → growB n S E = some S' → Grow n S' (D ++ E)
  | [], D, S, S', g, h => by cases h; rw [List.append_nil]; exact g
  | e :: E, D, S, S', g, h => by
    unfold growB at h
    have e1 : D ++ e :: E = (D ++ [e]) ++ E := by simp
    rw [e1]
    have hp : (D ++ [e]).Perm (e :: D) := by simpa using (List.perm_append_comm (l₁ := D) (l₂ := [e]))
    split at h
    · rename_i hr
      split at h
      · rename_i q
        refine growB_ok (g.step (u := e.1) (v := e.2) q.1 q.2 (by omega) (by omega) ?_) h
        rw [show min e.1 e.2 = e.1 by omega, show max e.1 e.2 = e.2 by omega]; exact hp
      · split at h
        · rename_i q
          refine growB_ok (g.step (u := e.2) (v := e.1) q.1 q.2 (by omega) (by omega) ?_) h
          rw [show min e.2 e.1 = e.1 by omega, show max e.2 e.1 = e.2 by omega]; exact hp
        · cases h
    · cases h
end K01

/-! K01q: _law_wood worked out. -/
namespace K01
open PySem L2 DL
theorem erase_perm : ∀ (l : List Int) (j : Nat) (h : j < l.length), (l[j] :: l.eraseIdx j).Perm l
  | a :: l, 0, _ => .refl _
  | a :: l, j + 1, h => by
    have ih := erase_perm l j (by simpa using h)
    simp only [List.getElem_cons_succ, List.eraseIdx_cons_succ]
    exact (List.Perm.swap ..).trans (ih.cons a)
theorem erase_map {α β : Type} (f : α → β) : ∀ (l : List α) (j : Nat), (l.map f).eraseIdx j = (l.eraseIdx j).map f
  | [], _ => rfl
  | a :: l, 0 => rfl
  | a :: l, j + 1 => by simp [erase_map f l j]
def tstL : Slots → M Bool := dTest (dBin oNe (dN 3) (dFn oList dNil))
def bodyL : DenS := dsAppPop 4 3 (fpAt 3 (dBin oMod dDraw (dFn oLen (dCons (dN 3) dNil))))
def stL (X1 X2 : Option D) (left line : List Int) : Slots := [none, X1, X2, some (.list (left.map PyData.int)), some (.list (line.map PyData.int)), none, none, none, none, none]
theorem tstL_at {X1 X2 : Option D} {left line : List Int} : tstL (stL X1 X2 left line) = M.pure (!left.isEmpty) := by
  simp only [tstL, stL, dTest, dBin, dN, dFn, List.getElem?_cons_zero, List.getElem?_cons_succ, b_pure, show ∀ ρ, dNil ρ = M.pure [] from fun _ => rfl, oList_small (ds := []) (by simp), b_lift, l_some, ne_nil_ints, boolD]
theorem whD_at {c : Slots → M Bool} {fb : DenS} {n : Nat} {ρ ρ2 : Slots} {r r2 : Rg} (h : c ρ = M.pure true) (hb : fb ρ r = .ok (.nx ρ2) r2) : whD c fb (n + 1) ρ r = whD c fb n ρ2 r2 := by
  simp only [whD, h, b_pure, if_true]
  rw [b_at hb]
theorem ixN_in {n : Nat} {j : Int} (h0 : 0 ≤ j) (h1 : j < n) : ixN n j = some j.toNat := by
  unfold ixN
  rw [if_pos h0, if_pos h1]
theorem popAt_ints {l : List Int} {i : Int} (h : l ≠ []) : ∃ j : Nat, ∃ hj : j < l.length, popAt (l.map PyData.int) (.int (i % (l.length : Int))) = some (.int l[j], (l.eraseIdx j).map PyData.int) := by
  have hl : 0 < l.length := List.length_pos_iff.mpr h
  have h0 := Int.emod_nonneg i (b := (l.length : Int)) (by omega)
  have h1 := Int.emod_lt_of_pos i (b := (l.length : Int)) (by omega)
  generalize i % (l.length : Int) = k at h0 h1
  refine ⟨k.toNat, by omega, ?_⟩
  have e1 : ixN (l.map PyData.int).length k = some k.toNat := ixN_in h0 (by rw [List.length_map]; exact h1)
  show (match ixN (l.map PyData.int).length k with | some jj => ((l.map PyData.int)[jj]?).map _ | none => none) = _
  rw [e1]
  simp only [List.getElem?_map, List.getElem?_eq_getElem (show k.toNat < l.length by omega), Option.map_some, erase_map]
theorem lineW {X1 X2 : Option D} : ∀ (m : Nat) (left line : List Int) (f c : Nat) (r : Rg), left.length = m → Ok (m + c) r → m < f → line.length + m ≤ 1000 →
    ∃ line' r', whD tstL bodyL f (stL X1 X2 left line) r = .ok (.nx (stL X1 X2 [] line')) r' ∧ Ok c r' ∧ line'.Perm (line ++ left)
  | 0, left, line, f, c, r, hm, hr, hf, _ => by
    obtain ⟨f, rfl⟩ : ∃ g, f = g + 1 := ⟨f - 1, by omega⟩
    obtain rfl := List.length_eq_zero_iff.mp hm
    refine ⟨line, r, ?_, by simpa using hr, by simp⟩
    rw [wh_false (by rw [tstL_at]; rfl)]; rfl
  | m + 1, left, line, f, c, r, hm, hr, hf, hl => by
    obtain ⟨f, rfl⟩ : ∃ g, f = g + 1 := ⟨f - 1, by omega⟩
    have hne : left ≠ [] := fun z => by rw [z] at hm; cases hm
    obtain ⟨i, r1, h1, hd⟩ := draw_at (c := m + c) (r := r) (by rw [show m + c + 1 = m + 1 + c by omega]; exact hr)
    obtain ⟨j, hj, hp⟩ := popAt_ints (i := i) hne
    obtain ⟨line', r', e, h2, h3⟩ := lineW (X1 := X1) (X2 := X2) m (left.eraseIdx j) (line ++ [left[j]]) f c r1 (by rw [List.length_eraseIdx, if_pos hj, hm]; rfl) h1 (by omega) (by rw [List.length_append, List.length_singleton]; omega)
    refine ⟨line', r', ?_, h2, ?_⟩
    · have h4 : 0 < (left.length : Int) := by omega
      have h5 : line.length < sizeLine := by rw [sizeLine_eq]; omega
      rw [whD_at (by rw [tstL_at]; cases left <;> first | exact absurd rfl hne | rfl) (ρ2 := stL X1 X2 (left.eraseIdx j) (line ++ [left[j]])) (r2 := r1), e]
      simp only [bodyL, dsAppPop, stL, fpAt, dBin, dFn, dCons, dN, dNil, M.bind, M.pure, M.lift, lstAt, List.getElem?_cons_zero, List.getElem?_cons_succ, hd, oLen, List.length_map, mod_pos i h4, hp, setS, List.set_cons_succ, List.set_cons_zero, h5, if_true, List.map_append, List.map_cons, List.map_nil]
    · refine h3.trans ?_
      rw [List.append_assoc]
      exact List.Perm.append_left line (erase_perm left j hj)
theorem ix_line {line : List Int} {k : Nat} {j : Int} (hk : k ≤ line.length) (h0 : 0 ≤ j) (h1 : j < k) : ∃ u ∈ line.take k, oIx (.list (line.map PyData.int)) (.int j) = some (.int u) := by
  have hj : j.toNat < line.length := by omega
  refine ⟨line[j.toNat], ?_, ?_⟩
  · rw [List.mem_take_iff_getElem]
    exact ⟨j.toNat, by omega, rfl⟩
  · show atI (line.map PyData.int) j = _
    have e1 : ixN (line.map PyData.int).length j = some j.toNat := ixN_in h0 (by rw [List.length_map]; omega)
    unfold atI
    rw [e1]
    simp [List.getElem?_eq_getElem hj]
theorem ix_five {u1 u2 u3 u4 u5 : Int} {k : Int} (h0 : 0 ≤ k) (h1 : k < 5) {P : Int → Prop} (p1 : P u1) (p2 : P u2) (p3 : P u3) (p4 : P u4) (p5 : P u5) : ∃ u, P u ∧ oIx (.list [.int u1, .int u2, .int u3, .int u4, .int u5]) (.int k) = some (.int u) := by
  have : k = 0 ∨ k = 1 ∨ k = 2 ∨ k = 3 ∨ k = 4 := by omega
  rcases this with rfl | rfl | rfl | rfl | rfl
  · exact ⟨u1, p1, rfl⟩
  · exact ⟨u2, p2, rfl⟩
  · exact ⟨u3, p3, rfl⟩
  · exact ⟨u4, p4, rfl⟩
  · exact ⟨u5, p5, rfl⟩
def dAbove : Den := (dBin oIx (dFn oList (dCons (dBin oIx (dN 4) (dBin oMod (dN 8) (dN 7))) (dCons (dBin oIx (dN 4) (dBin oSub (dN 7) (dC (.int 1)))) (dCons (dBin oIx (dN 4) (dC (.int 0))) (dCons (dBin oIx (dN 4) (dBin oDiv (dFn oInt (dCons (dBin oSub (dN 7) (dC (.int 1))) dNil)) (dC (.int 2)))) (dCons (dBin oIx (dN 4) (dFn oMax2 (dCons (dC (.int 0)) (dCons (dBin oSub (dBin oSub (dN 7) (dC (.int 1))) (dBin oMod (dN 8) (dC (.int 3)))) dNil)))) dNil)))))) (dN 5))
def dPut : DenS := (dsIns 6 (dBin oMod (dBin oDiv (dN 8) (dC (.int 64))) (dAtom (dBin oAdd (dFn oLen (dCons (dN 6) dNil)) (dC (.int 1))))) (dFn oList (dCons (dFn oMin2 (dCons (dN 9) (dCons (dBin oIx (dN 4) (dN 7)) dNil))) (dCons (dFn oMax2 (dCons (dN 9) (dCons (dBin oIx (dN 4) (dN 7)) dNil))) dNil))))
def bodyT : DenS := (dsSeq (dsAsg 8 dDraw) (dsSeq (dsAsg 9 dAbove) dPut))
def stT (X1 X2 : Option D) (line : List Int) (kind : Int) (E : List (Int × Int)) (s7 s8 s9 : Option D) : Slots := [none, X1, X2, some (.list []), some (.list (line.map PyData.int)), some (.int kind), some (.list (E.map ed)), s7, s8, s9]
theorem above_at {X1 X2 : Option D} {line : List Int} {kind : Int} {E : List (Int × Int)} {s9 : Option D} {k : Nat} {i : Int} (hk : k ≤ line.length) (h1 : 1 ≤ k) (q0 : 0 ≤ kind) (q1 : kind < 5) : ∃ u ∈ line.take k, dAbove (stT X1 X2 line kind E (some (.int k)) (some (.int i)) s9) = M.pure (.int u) := by
  have m1 := mod_pos i (j := (k : Int)) (by omega)
  have m3 := mod_pos i (j := 3) (by decide)
  have d2 := div_small ((k : Int) - 1) (j := 2) (by decide) (by decide)
  have b1 := Int.emod_nonneg i (b := (k : Int)) (by omega)
  have b2 := Int.emod_lt_of_pos i (b := (k : Int)) (by omega)
  obtain ⟨u1, p1, e1⟩ := ix_line hk b1 b2
  obtain ⟨u2, p2, e2⟩ := ix_line (j := (k : Int) - 1) hk (by omega) (by omega)
  obtain ⟨u3, p3, e3⟩ := ix_line (j := 0) hk (by omega) (by omega)
  obtain ⟨u4, p4, e4⟩ := ix_line (j := ((k : Int) - 1) / 2) hk (by omega) (by omega)
  obtain ⟨u5, p5, e5⟩ := ix_line (j := if (k : Int) - 1 - i % 3 > 0 then (k : Int) - 1 - i % 3 else 0) hk (by split <;> omega) (by split <;> omega)
  obtain ⟨u, hu, e⟩ := ix_five (u1 := u1) (u2 := u2) (u3 := u3) (u4 := u4) (u5 := u5) q0 q1 (P := fun u => u ∈ line.take k) p1 p2 p3 p4 p5
  refine ⟨u, hu, ?_⟩
  have l5 : ∀ a b c d e : D, oList [a, b, c, d, e] = some (.list [a, b, c, d, e]) := fun a b c d e => oList_small (by simp)
  simp only [dAbove, stT, dBin, dFn, dCons, dN, dC, List.getElem?_cons_zero, List.getElem?_cons_succ, b_pure, show ∀ ρ, dNil ρ = M.pure [] from fun _ => rfl, b_lift, l_some, m1, m3, d2, oSub, oInt, oMax2, e1, e2, e3, e4, e5, l5, e]
theorem put_at {n : Nat} {X1 X2 : Option D} {line : List Int} {kind : Int} {E : List (Int × Int)} {k : Nat} {i u : Int} (hk : k < line.length) (hE : E.length ≤ 1000) (hn : ∀ v ∈ line, 1 ≤ v ∧ v ≤ n) (hu : u ∈ line.take k) (nd : line.Nodup) (g : Grow n (line.take k) E) :
    ∃ E', dPut (stT X1 X2 line kind E (some (.int k)) (some (.int i)) (some (.int u))) = M.pure (.nx (stT X1 X2 line kind E' (some (.int k)) (some (.int i)) (some (.int u)))) ∧ Grow n (line.take (k + 1)) E' := by
  have ev : oIx (.list (line.map PyData.int)) (.int k) = some (.int line[k]) := by
    show atI (line.map PyData.int) k = _
    have e1 : ixN (line.map PyData.int).length k = some k := ixN_in (by omega) (by rw [List.length_map]; omega)
    unfold atI
    rw [e1]
    simp [List.getElem?_eq_getElem hk]
  generalize hv : line[k] = v at ev
  have hvn : v ∉ line.take k := by
    intro z
    have e := List.take_append_drop k line
    rw [List.drop_eq_getElem_cons hk, hv] at e
    rw [← e] at nd
    exact (List.nodup_append.mp nd).2.2 v z v List.mem_cons_self rfl
  have d1 := div_small i (j := 64) (by decide) (by decide)
  have m1 := mod_pos (i / 64) (j := (E.length : Int) + 1) (by omega)
  have b1 := Int.emod_nonneg (i / 64) (b := (E.length : Int) + 1) (by omega)
  have b2 := Int.emod_lt_of_pos (i / 64) (b := (E.length : Int) + 1) (by omega)
  have hlen : ((E.map ed).length : Int) + 1 = (E.length : Int) + 1 := by rw [List.length_map]
  generalize (i / 64) % ((E.length : Int) + 1) = q at m1 b1 b2
  have l2 : ∀ a b : D, oList [a, b] = some (.list [a, b]) := fun a b => oList_small (by simp)
  have mn : (if v < u then v else u) = min u v := by split <;> omega
  have mx : (if v > u then v else u) = max u v := by split <;> omega
  have is : insAt (E.map ed) (.list [.int (min u v), .int (max u v)]) (.int q) = some ((E.take q.toNat ++ (min u v, max u v) :: E.drop q.toNat).map ed) := by
    show (if _ then some _ else none) = _
    rw [if_pos ⟨b1, by omega, by rw [List.length_map, sizeLine_eq]; omega⟩]
    simp [List.map_take, List.map_drop, ed]
  refine ⟨E.take q.toNat ++ (min u v, max u v) :: E.drop q.toNat, ?_, ?_⟩
  · simp only [dPut, stT, dsIns, lstAt, dBin, dFn, dCons, dN, dC, dAtom, List.getElem?_cons_zero, List.getElem?_cons_succ, b_pure, show ∀ ρ, dNil ρ = M.pure [] from fun _ => rfl, b_lift, l_some, d1, oLen, add_int, hlen, atomD, if_true, m1, ev, oMin2, oMax2, mn, mx, l2, is, setS, List.set_cons_succ, List.set_cons_zero]
  · rw [List.take_succ_eq_append_getElem hk, hv]
    refine g.step hu hvn (hn u (List.mem_of_mem_take hu)) (hn v (hv ▸ List.getElem_mem hk)) ?_
    exact List.perm_middle.trans (by rw [List.take_append_drop])
theorem forD_at {gt : D → Slots → Option Slots} {fb : DenS} {d : D} {ds : List D} {ρ ρ1 ρ2 : Slots} {r r2 : Rg} (h : gt d ρ = some ρ1) (hb : fb ρ1 r = .ok (.nx ρ2) r2) : forD gt fb (d :: ds) ρ r = forD gt fb ds ρ2 r2 := by
  show M.bind (M.lift (gt d ρ)) _ r = _
  rw [h, b_lift, b_at hb]
theorem wood_go {n : Nat} {X1 X2 : Option D} {line : List Int} {kind : Int} (hn : ∀ v ∈ line, 1 ≤ v ∧ v ≤ n) (nd : line.Nodup) (q0 : 0 ≤ kind) (q1 : kind < 5) (hl : line.length ≤ 900) : ∀ (m k c : Nat) (E : List (Int × Int)) (s7 s8 s9 : Option D) (r : Rg), k + m = line.length → 1 ≤ k → Grow n (line.take k) E → Ok (m + c) r →
    ∃ E' r' t7 t8 t9, forD (gtT fl1 [7]) bodyT ((List.range' k m).map fun i : Nat => PyData.int i) (stT X1 X2 line kind E s7 s8 s9) r = .ok (.nx (stT X1 X2 line kind E' t7 t8 t9)) r' ∧ Grow n line E' ∧ Ok c r'
  | 0, k, c, E, s7, s8, s9, r, hk, h1, g, hr => ⟨E, r, s7, s8, s9, rfl, by rw [List.take_of_length_le (by omega)] at g; exact g, by simpa using hr⟩
  | m + 1, k, c, E, s7, s8, s9, r, hk, h1, g, hr => by
    obtain ⟨i, r1, hr1, hd⟩ := draw_at (c := m + c) (r := r) (by rw [show m + c + 1 = m + 1 + c by omega]; exact hr)
    obtain ⟨u, hu, ea⟩ := above_at (X1 := X1) (X2 := X2) (line := line) (kind := kind) (E := E) (s9 := s9) (k := k) (i := i) (by omega) h1 q0 q1
    have hEl := g.len
    rw [List.length_take] at hEl
    obtain ⟨E1, ep, g1⟩ := put_at (X1 := X1) (X2 := X2) (kind := kind) (i := i) (k := k) (by omega) (by omega) hn hu nd g
    obtain ⟨E', r', t7, t8, t9, e, g2, hr2⟩ := wood_go hn nd q0 q1 hl m (k + 1) c E1 (some (.int k)) (some (.int i)) (some (.int u)) r1 (by omega) (by omega) g1 hr1
    refine ⟨E', r', t7, t8, t9, ?_, g2, hr2⟩
    rw [← e, List.range'_succ, List.map_cons]
    refine forD_at (ρ1 := stT X1 X2 line kind E (some (.int k)) s8 s9) rfl ?_
    have a1 : dsAsg 8 dDraw (stT X1 X2 line kind E (some (.int k)) s8 s9) r = .ok (.nx (stT X1 X2 line kind E (some (.int k)) (some (.int i)) s9)) r1 := by
      show M.bind _ _ r = _
      rw [b_at (hd _)]; rfl
    have a2 : dsAsg 9 dAbove (stT X1 X2 line kind E (some (.int k)) (some (.int i)) s9) = M.pure (.nx (stT X1 X2 line kind E (some (.int k)) (some (.int i)) (some (.int u)))) := by
      show M.bind _ _ = _
      rw [ea, b_pure]; rfl
    show M.bind _ _ r = _
    rw [b_at a1]
    show dsSeq (dsAsg 9 dAbove) dPut _ r1 = _
    rw [seq_nx a2, ep]; rfl
theorem wood_den {most : Nat} (h2 : 2 ≤ most) (h40 : most ≤ 40) {c : Nat} {r : Rg} (h : Ok (100 + c) r) : ∃ n E r', Tree n E ∧ Conn n E ∧ sg__law_wood.den [.int most] r = .ok (.list (E.map ed)) r' ∧ Ok c r' := by
  have n1 : sg__law_next.np = 0 := rfl
  obtain ⟨i, r1, h1, hd⟩ := draw_at (c := 99 + c) (r := r) (h.le (by omega))
  have m1 := mod_pos i (j := (most : Int) - 1) (by omega)
  have b1 := Int.emod_nonneg i (b := (most : Int) - 1) (by omega)
  have b2 := Int.emod_lt_of_pos i (b := (most : Int) - 1) (by omega)
  generalize i % ((most : Int) - 1) = z at m1 b1 b2
  obtain ⟨n, hn⟩ : ∃ n : Nat, 2 + z = (n : Int) := ⟨(2 + z).toNat, by omega⟩
  have hn2 : 2 ≤ n := by omega
  have hn40 : n ≤ 40 := by omega
  have hrg := range_1n (n := n) (by omega)
  obtain ⟨line, r2, e2, h2', hp⟩ := lineW (X1 := some (.int most)) (X2 := some (.int n)) n (labs n) [] 1000000 (1 + 39 + c) r1 (labs_len n) (h1.le (by omega)) (by omega) (by simp; omega)
  rw [List.nil_append] at hp
  obtain ⟨i3, r3, h3, hd3⟩ := draw_at (c := 39 + c) (r := r2) (h2'.le (by omega))
  have m3 := mod_pos i3 (j := 5) (by decide)
  have q0 : 0 ≤ i3 % 5 := by omega
  have q1 : i3 % 5 < 5 := by omega
  generalize i3 % 5 = kind at m3 q0 q1
  have hlen : line.length = n := by rw [hp.length_eq, labs_len]
  have hin : ∀ v ∈ line, 1 ≤ v ∧ v ≤ (n : Int) := fun v hv => mem_labs.mp (hp.mem_iff.mp hv)
  have nd : line.Nodup := hp.nodup_iff.mpr (labs_nodup n)
  have g0 : Grow n (line.take 1) [] := by
    obtain ⟨s, l, rfl⟩ : ∃ s l, line = s :: l := by
      cases line with
      | nil => simp at hlen; omega
      | cons s l => exact ⟨s, l, rfl⟩
    exact Grow.start n s
  obtain ⟨E, r4, t7, t8, t9, e4, g, h4⟩ := wood_go (n := n) (X1 := some (.int most)) (X2 := some (.int n)) hin nd q0 q1 (by omega) (n - 1) 1 c [] none none none r3 (by omega) (by omega) g0 (h3.le (by omega))
  obtain ⟨t, cn⟩ := g.tree hp hn2 hn40
  refine ⟨n, E, r4, t, cn, ?_, h4⟩
  have hr2 : oRange2 [.int 1, .int (n : Int)] = some ((List.range' 1 (n - 1)).map fun i : Nat => PyData.int i) := by
    rw [range_2 (by rw [sizeLine_eq]; omega) (by omega), show ((n : Int) - 1).toNat = n - 1 by omega]
    unfold rangeD
    rw [List.range'_eq_map_range, List.map_map]
    congr 1
  have l0 : oList [] = some (.list []) := oList_small (by simp)
  have s1 : dsAsg 2 (dAtom (dBin oAdd (dC (.int 2)) (dBin oMod dDraw (dBin oSub (dN 1) (dC (.int 1)))))) [none, some (.int most), none, none, none, none, none, none, none, none] r = .ok (.nx [none, some (.int most), some (.int n), none, none, none, none, none, none, none]) r1 := by
    simp only [dsAsg, atom_app, atomR, dBin, dC, dN, M.bind, M.pure, M.lift, hd, List.getElem?_cons_zero, List.getElem?_cons_succ, oSub, m1, add_int, hn, atomD, if_true, setS, List.set_cons_succ, List.set_cons_zero]
  have s2 : dsAsg 3 (dListRg oRange2 (dCons (dC (.int 1)) (dCons (dAtom (dBin oAdd (dN 2) (dC (.int 1)))) dNil))) [none, some (.int most), some (.int n), none, none, none, none, none, none, none] = M.pure (.nx [none, some (.int most), some (.int n), some (.list ((labs n).map PyData.int)), none, none, none, none, none, none]) := by
    simp only [dsAsg, dListRg, dCons, dAtom, dBin, dC, dN, b_pure, b_lift, l_some, List.getElem?_cons_zero, List.getElem?_cons_succ, add_int, atomD, if_true, show ∀ ρ, dNil ρ = M.pure [] from fun _ => rfl, hrg, setS, List.set_cons_succ, List.set_cons_zero]
  have s3 : dsAsg 4 (dFn oList dNil) [none, some (.int most), some (.int n), some (.list ((labs n).map PyData.int)), none, none, none, none, none, none] = M.pure (.nx (stL (some (.int most)) (some (.int n)) (labs n) [])) := by
    simp only [dsAsg, dFn, b_pure, b_lift, l_some, show ∀ ρ, dNil ρ = M.pure [] from fun _ => rfl, l0, setS, List.set_cons_succ, List.set_cons_zero]
    rfl
  have s5 : dsAsg 5 (dBin oMod dDraw (dC (.int 5))) (stL (some (.int most)) (some (.int n)) [] line) r2 = .ok (.nx [none, some (.int most), some (.int n), some (.list []), some (.list (line.map PyData.int)), some (.int kind), none, none, none, none]) r3 := by
    simp only [dsAsg, stL, dBin, dC, M.bind, M.pure, M.lift, hd3, m3, setS, List.set_cons_succ, List.set_cons_zero, List.map_nil]
  have s6 : dsAsg 6 (dFn oList dNil) [none, some (.int most), some (.int n), some (.list []), some (.list (line.map PyData.int)), some (.int kind), none, none, none, none] = M.pure (.nx (stT (some (.int most)) (some (.int n)) line kind [] none none none)) := by
    simp only [dsAsg, dFn, b_pure, b_lift, l_some, show ∀ ρ, dNil ρ = M.pure [] from fun _ => rfl, l0, setS, List.set_cons_succ, List.set_cons_zero]
    rfl
  have s7 : dsFor (dIts oRange2 (dCons (dC (.int 1)) (dCons (dN 2) dNil))) (gtT fl1 [7]) bodyT (stT (some (.int most)) (some (.int n)) line kind [] none none none) r3 = .ok (.nx (stT (some (.int most)) (some (.int n)) line kind E t7 t8 t9)) r4 := by
    rw [← e4]
    simp only [dsFor, dIts, dCons, dC, dN, stT, b_pure, List.getElem?_cons_zero, List.getElem?_cons_succ, show ∀ ρ, dNil ρ = M.pure [] from fun _ => rfl, hr2, b_lift]
  have e0 : df__law_wood = dsSeq (dsAsg 2 (dAtom (dBin oAdd (dC (.int 2)) (dBin oMod dDraw (dBin oSub (dN 1) (dC (.int 1))))))) (dsSeq (dsAsg 3 (dListRg oRange2 (dCons (dC (.int 1)) (dCons (dAtom (dBin oAdd (dN 2) (dC (.int 1)))) dNil)))) (dsSeq (dsAsg 4 (dFn oList dNil)) (dsSeq (whD tstL bodyL 1000000) (dsSeq (dsAsg 5 (dBin oMod dDraw (dC (.int 5)))) (dsSeq (dsAsg 6 (dFn oList dNil)) (dsSeq (dsFor (dIts oRange2 (dCons (dC (.int 1)) (dCons (dN 2) dNil))) (gtT fl1 [7]) bodyT) (dsRetN 6))))))) := rfl
  have sq : ∀ {f g : DenS} {ρ ρ2 : Slots} {r r2 : Rg}, f ρ r = .ok (.nx ρ2) r2 → dsSeq f g ρ r = g ρ2 r2 := fun h => by
    show M.bind _ _ _ = _
    rw [b_at h]
  show M.bind (df__law_wood [none, some (.int most), none, none, none, none, none, none, none, none]) _ r = _
  rw [b_at (a := .rt (.list (E.map ed))) (r1 := r4)]
  · rfl
  · rw [e0, sq s1, seq_nx s2, seq_nx s3, sq e2, sq s5, seq_nx s6, sq s7]
    rfl
end K01

/-! K01r: law worked out. -/
namespace K01
open PySem L2 DL
theorem sq_at {f g : DenS} {ρ ρ2 : Slots} {r r2 : Rg} (h : f ρ r = .ok (.nx ρ2) r2) : dsSeq f g ρ r = g ρ2 r2 := by
  show M.bind _ _ _ = _
  rw [b_at h]
theorem forD_inv {gt : D → Slots → Option Slots} {fb : DenS} : ∀ {ds : List D} {I : Nat → Slots → Rg → Prop} (_ : ∀ i d ρ r, ds[i]? = some d → I i ρ r → ∃ ρ1 ρ2 r2, gt d ρ = some ρ1 ∧ fb ρ1 r = .ok (.nx ρ2) r2 ∧ I (i + 1) ρ2 r2) (ρ : Slots) (r : Rg), I 0 ρ r → ∃ ρ' r', forD gt fb ds ρ r = .ok (.nx ρ') r' ∧ I ds.length ρ' r'
  | [], I, _, ρ, r, h0 => ⟨ρ, r, rfl, h0⟩
  | d :: ds, I, h, ρ, r, h0 => by
    obtain ⟨ρ1, ρ2, r2, e1, e2, h1⟩ := h 0 d ρ r rfl h0
    obtain ⟨ρ', r', e3, h3⟩ := forD_inv (ds := ds) (I := fun i => I (i + 1)) (fun i d ρ r q => h (i + 1) d ρ r q) ρ2 r2 h1
    exact ⟨ρ', r', by rw [forD_at e1 e2, e3], h3⟩
theorem pow_ok {i j : Int} (h : 0 ≤ j ∧ (Builtin.Int.intBits i : Int) * j ≤ 2 ^ 27) : oPow (.int i) (.int j) = some (.int (i ^ j.toNat)) := if_pos h
def dBig : Den := (dBin oPow (dBin oPow (dBin oPow (dC (.int 10)) (dC (.int 60))) (dC (.int 60))) (dC (.int 4)))
theorem big_at : ∃ N : Int, 0 < N ∧ ∀ ρ, dBig ρ = M.pure (.int N) := by
  have p1 := pow_ok (i := 10) (j := 60) (by decide +kernel)
  have p2 := pow_ok (i := 10 ^ (60 : Int).toNat) (j := 60) (by decide +kernel)
  have p3 := pow_ok (i := (10 ^ (60 : Int).toNat) ^ (60 : Int).toNat) (j := 4) (by decide +kernel)
  have hp : (0 : Int) < ((10 ^ (60 : Int).toNat) ^ (60 : Int).toNat) ^ (4 : Int).toNat := by decide +kernel
  generalize (((10 : Int) ^ (60 : Int).toNat) ^ (60 : Int).toNat) ^ (4 : Int).toNat = N at p3 hp
  generalize ((10 : Int) ^ (60 : Int).toNat) ^ (60 : Int).toNat = N1 at p2 p3
  generalize (10 : Int) ^ (60 : Int).toNat = N2 at p1 p2
  refine ⟨N, hp, fun ρ => ?_⟩
  unfold dBig dBin dC
  rw [b_pure, b_pure, p1, b_lift, b_pure, p2, b_lift, b_pure, p3, l_some]
theorem draws_den (v : Int) : ∃ x b, sg__law_draws.den [.int v] = M.pure (.list [.int x, .int 0, .bool b]) := by
  obtain ⟨N, hN, hb⟩ := big_at
  have p4 := pow_ok (i := 10) (j := 18) (by decide +kernel)
  generalize (10 : Int) ^ (18 : Int).toNat = N4 at p4
  have m1 := mod_pos v hN
  have l3 : ∀ a b c : D, oList [a, b, c] = some (.list [a, b, c]) := fun a b c => oList_small (by simp)
  refine ⟨v % N, decide (N4 ≤ v), ?_⟩
  have e0 : df__law_draws = dsRet (dFn oList (dCons (dBin oMod (dFn oInt (dCons (dN 0) dNil)) dBig) (dCons (dC (.int 0)) (dCons (dBin oGe (dN 0) (dBin oPow (dC (.int 10)) (dC (.int 18)))) dNil)))) := rfl
  show M.bind (df__law_draws [some (.int v)]) (fun fl => match fl with | .nx _ => M.pure .none | .rt d => M.pure d) = _
  rw [e0]
  simp only [dsRet, dFn, dCons, dBin, dN, dC, List.getElem?_cons_zero, b_pure, show ∀ ρ, dNil ρ = M.pure [] from fun _ => rfl, b_lift, l_some, oInt, hb, m1, p4, oGe, l3]
def dLab : Den := dAtom (dBin oAdd (dC (.int 1)) (dBin oMod dDraw (dAtom (dBin oAdd (dFn oLen (dCons (dN 4) dNil)) (dC (.int 1))))))
def bodyTurn : DenS := dsSeq (dsPar [6, 7] (dCons dLab (dCons dLab dNil)))
  (dsSeq (dsIf (dNot (dTruth (dAtom (dCall sg__law_walk_right (dCons (dN 4) (dCons (dN 6) (dCons (dN 7) dNil))))))) (dsRet (dC (.bool false))) dsNil)
  (dsIf (dNot (dTruth (dAtom (dCall sg__law_walk_right (dCons (dN 4) (dCons (dN 6) (dCons (dN 6) dNil))))))) (dsRet (dC (.bool false))) dsNil))
theorem lab_at {n : Nat} {E : List (Int × Int)} (t : Tree n E) {c : Nat} {r : Rg} (h : Ok (c + 1) r) : ∃ v r', v ∈ labs n ∧ Ok c r' ∧ ∀ ρ : Slots, ρ[4]? = some (some (.list (E.map ed))) → dLab ρ r = .ok (.int v) r' := by
  obtain ⟨i, r', h', hd⟩ := draw_at h
  have hl := t.lenD
  have h2 := t.two
  have m1 := mod_pos i (j := (n : Int)) (by omega)
  have b1 := Int.emod_nonneg i (b := (n : Int)) (by omega)
  have b2 := Int.emod_lt_of_pos i (b := (n : Int)) (by omega)
  refine ⟨1 + i % (n : Int), r', mem_labs.mpr (by omega), h', fun ρ hρ => ?_⟩
  simp only [dLab, atom_app, atomR, dBin, dC, dFn, dCons, dN, hρ, M.bind, M.pure, M.lift, hd, dNil, oLen, add_int, hl, m1]
theorem turn_step {n : Nat} {E : List (Int × Int)} (t : Tree n E) (cn : Conn n E) {c : Nat} {r : Rg} {a0 a2 a3 a5 a6 a7 a8 a9 : Option D} (h : Ok (c + 2) r) :
    ∃ a6' a7' r', bodyTurn [a0, none, a2, a3, some (.list (E.map ed)), a5, a6, a7, a8, a9] r = .ok (.nx [a0, none, a2, a3, some (.list (E.map ed)), a5, a6', a7', a8, a9]) r' ∧ Ok c r' := by
  obtain ⟨u, r1, hu, h1, e1⟩ := lab_at t (c := c + 1) h
  obtain ⟨v, r2, hv, h2, e2⟩ := lab_at t h1
  have n1 : sg__law_walk_right.np = 3 := rfl
  have w1 := walk_right_den t cn hu hv
  have w2 := walk_right_den t cn hu hu
  refine ⟨some (.int u), some (.int v), r2, ?_, h2⟩
  have s1 : dsPar [6, 7] (dCons dLab (dCons dLab dNil)) [a0, none, a2, a3, some (.list (E.map ed)), a5, a6, a7, a8, a9] r = .ok (.nx [a0, none, a2, a3, some (.list (E.map ed)), a5, some (.int u), some (.int v), a8, a9]) r2 := by
    show M.bind (dCons dLab (dCons dLab dNil) _) _ r = _
    rw [b_at (a := [.int u, .int v]) (r1 := r2)]
    · rfl
    · show M.bind (dLab _) _ r = _
      rw [b_at (e1 _ rfl)]
      show M.bind (M.bind (dLab _) _) _ r1 = _
      rw [b_at (a := [.int v]) (r1 := r2)]
      · rfl
      · rw [b_at (e2 _ rfl)]; rfl
  unfold bodyTurn
  rw [sq_at s1]
  simp only [dsSeq, dsIf, dNot, dTruth, dAtom, dCall, dCons, dN, List.getElem?_cons_zero, List.getElem?_cons_succ, b_pure, show ∀ ρ, dNil ρ = M.pure [] from fun _ => rfl, List.length_cons, List.length_nil, n1, if_true, w1, w2, atomD, truthD, b_lift, l_some, Bool.not_true, Bool.false_eq_true, if_false, dsNil]
  rfl
def bodyMost : DenS := dsSeq (dsAsg 4 (dCall sg__law_wood (dCons (dN 3) dNil)))
  (dsSeq (dsIf (dNot (dTruth (dAtom (dCall sg__law_right (dCons (dN 4) dNil))))) (dsRet (dC (.bool false))) dsNil)
  (dsFor (dIts oRange1 (dCons (dC (.int 4)) dNil)) (gtT fl1 [5]) bodyTurn))
theorem most_step {most : Nat} (h2 : 2 ≤ most) (h40 : most ≤ 40) {c : Nat} {r : Rg} {a0 a2 a4 a5 a6 a7 a8 a9 : Option D} (h : Ok (c + 120) r) :
    ∃ a4' a5' a6' a7' r', bodyMost [a0, none, a2, some (.int most), a4, a5, a6, a7, a8, a9] r = .ok (.nx [a0, none, a2, some (.int most), a4', a5', a6', a7', a8, a9]) r' ∧ Ok c r' := by
  obtain ⟨n, E, r1, t, cn, e, h1⟩ := wood_den h2 h40 (c := 8 + c) (r := r) (h.le (by omega))
  have n1 : sg__law_wood.np = 1 := rfl
  have n2 : sg__law_right.np = 1 := rfl
  have w1 := right_den t
  have s1 : dsAsg 4 (dCall sg__law_wood (dCons (dN 3) dNil)) [a0, none, a2, some (.int most), a4, a5, a6, a7, a8, a9] r = .ok (.nx [a0, none, a2, some (.int most), some (.list (E.map ed)), a5, a6, a7, a8, a9]) r1 := by
    show M.bind (M.bind (M.pure [PyData.int most]) fun ds => if ds.length = sg__law_wood.np then sg__law_wood.den ds else M.bad) _ r = _
    rw [b_pure, if_pos (by rw [n1]; rfl), b_at e]; rfl
  have s2 : dsIf (dNot (dTruth (dAtom (dCall sg__law_right (dCons (dN 4) dNil))))) (dsRet (dC (.bool false))) dsNil [a0, none, a2, some (.int most), some (.list (E.map ed)), a5, a6, a7, a8, a9] = M.pure (.nx [a0, none, a2, some (.int most), some (.list (E.map ed)), a5, a6, a7, a8, a9]) := by
    simp only [dsIf, dNot, dTruth, dAtom, dCall, dCons, dN, List.getElem?_cons_zero, List.getElem?_cons_succ, b_pure, show ∀ ρ, dNil ρ = M.pure [] from fun _ => rfl, List.length_cons, List.length_nil, n2, if_true, w1, atomD, truthD, b_lift, l_some, Bool.not_true, Bool.false_eq_true, if_false, dsNil]
  have hr4 : oRange1 [.int 4] = some (rangeD 0 4) := by
    have h : (4 : Int).toNat ≤ sizeLine ∧ -(2 ^ 62) ≤ (4 : Int) := by rw [sizeLine_eq]; decide
    exact if_pos (e := none) h
  obtain ⟨ρ', r', e3, ⟨a5', a6', a7', rfl⟩, h3⟩ := forD_inv (gt := gtT fl1 [5]) (fb := bodyTurn) (ds := rangeD 0 4) (I := fun i ρ r => (∃ a5 a6 a7, ρ = [a0, none, a2, some (.int most), some (.list (E.map ed)), a5, a6, a7, a8, a9]) ∧ Ok (c + 2 * (4 - i)) r) (fun i d ρ r q ⟨⟨a5, a6, a7, hρ⟩, ho⟩ => by
    subst hρ
    have hi : i < 4 := (List.getElem?_eq_some_iff.mp q).1
    obtain ⟨a6', a7', r', e, h'⟩ := turn_step t cn (c := c + 2 * (4 - (i + 1))) (r := r) (a0 := a0) (a2 := a2) (a3 := some (.int most)) (a5 := some d) (a6 := a6) (a7 := a7) (a8 := a8) (a9 := a9) (ho.le (by omega))
    exact ⟨_, _, r', rfl, e, ⟨_, _, _, rfl⟩, h'⟩) [a0, none, a2, some (.int most), some (.list (E.map ed)), a5, a6, a7, a8, a9] r1 ⟨⟨_, _, _, rfl⟩, h1.le (by omega)⟩
  refine ⟨some (.list (E.map ed)), a5', a6', a7', r', ?_, h3.le (by omega)⟩
  unfold bodyMost
  rw [sq_at s1, seq_nx s2, ← e3]
  show M.bind (M.bind (M.pure [PyData.int 4]) fun ds => M.lift (oRange1 ds)) _ r1 = _
  rw [b_pure, hr4, b_lift]
def bodyDraw : DenS := dsFor (dIt seqD (dFn oList (dCons (dC (.int 40)) (dCons (dC (.int 7)) (dCons (dC (.int 3)) dNil))))) (gtT fl1 [3]) bodyMost
theorem draw_step (x : Int) (b : Bool) {ρ : Slots} (hl : ρ.length = 10) (h1 : ρ[1]? = some none) : ∃ ρ' r', bodyDraw ρ (some (x, 0, b)) = .ok (.nx ρ') r' ∧ ρ'.length = 10 := by
  match ρ, hl with
  | [a0, a1, a2, a3, a4, a5, a6, a7, a8, a9], _ =>
    obtain rfl : a1 = none := by simpa using h1
    have l3 : ∀ a b c : D, oList [a, b, c] = some (.list [a, b, c]) := fun a b c => oList_small (by simp)
    obtain ⟨ρ', r', e3, ⟨a3', a4', a5', a6', a7', rfl⟩, h3⟩ := forD_inv (gt := gtT fl1 [3]) (fb := bodyMost) (ds := [PyData.int 40, .int 7, .int 3]) (I := fun i ρ r => (∃ a3 a4 a5 a6 a7, ρ = [a0, none, a2, a3, a4, a5, a6, a7, a8, a9]) ∧ Ok (120 * (3 - i)) r) (fun i d ρ r q ⟨⟨a3, a4, a5, a6, a7, hρ⟩, ho⟩ => by
      subst hρ
      have hi : i < 3 := (List.getElem?_eq_some_iff.mp q).1
      have hm : ∃ most : Nat, 2 ≤ most ∧ most ≤ 40 ∧ d = .int most := by
        have : i = 0 ∨ i = 1 ∨ i = 2 := by omega
        rcases this with rfl | rfl | rfl <;> cases q
        · exact ⟨40, by decide, by decide, rfl⟩
        · exact ⟨7, by decide, by decide, rfl⟩
        · exact ⟨3, by decide, by decide, rfl⟩
      obtain ⟨most, m2, m40, rfl⟩ := hm
      obtain ⟨a4', a5', a6', a7', r', e, h'⟩ := most_step m2 m40 (c := 120 * (3 - (i + 1))) (r := r) (a0 := a0) (a2 := a2) (a4 := a4) (a5 := a5) (a6 := a6) (a7 := a7) (a8 := a8) (a9 := a9) (ho.le (by omega))
      exact ⟨_, _, r', rfl, e, ⟨_, _, _, _, _, rfl⟩, h'⟩) [a0, none, a2, a3, a4, a5, a6, a7, a8, a9] (some (x, 0, b)) ⟨⟨_, _, _, _, _, rfl⟩, x, 0, b, rfl, by decide, by decide⟩
    refine ⟨[a0, none, a2, a3', a4', a5', a6', a7', a8, a9], r', ?_, rfl⟩
    rw [← e3]
    simp only [bodyDraw, dsFor, dIt, dFn, dCons, dC, b_pure, show ∀ ρ, dNil ρ = M.pure [] from fun _ => rfl, b_lift, l_some, l3, seqD]
theorem forRD_go : ∀ (zs : List (Int × Int × Bool)) (ρ : Slots) (r : Rg), ρ.length = 10 → (∀ z ∈ zs, z.2.1 = 0) → ∃ ρ', forRD 1 bodyDraw zs ρ r = .ok (.nx ρ') r ∧ ρ'.length = 10
  | [], ρ, r, h, _ => ⟨ρ, rfl, h⟩
  | (x, k, b) :: zs, ρ, r, h, hz => by
    obtain rfl : k = 0 := hz (x, k, b) List.mem_cons_self
    obtain ⟨ρ1, r1, e, h1⟩ := draw_step x b (ρ := ρ.set 1 none) (by rw [List.length_set]; exact h) (by rw [List.getElem?_set_self (by omega)])
    obtain ⟨ρ', e2, h2⟩ := forRD_go zs ρ1 r h1 fun z q => hz z (List.mem_cons_of_mem _ q)
    refine ⟨ρ', ?_, h2⟩
    show (match bodyDraw (ρ.set 1 none) (some (x, 0, b)) with
      | .ok (.nx ρ') _ => forRD 1 bodyDraw zs ρ' r
      | .ok (.rt d) _ => .ok (.rt d) r
      | .ex c d _ => .ex c d r
      | .bad => .bad) = _
    rw [e]; exact e2
def drawList : Den := dLc (dIt seqD (dBin oAdd (dScr 6 []) (dFn oList (dCons (dC (.int 0)) dNil)))) (gtT fl1 [2]) tYesD (dCall sg__law_draws (dCons (dN 2) dNil))
theorem drawL (ρ : Slots) (hl : ρ.length = 10) : ∀ cs : List Int, ∃ ds zs, compL (gtT fl1 [2]) tYesD (dCall sg__law_draws (dCons (dN 2) dNil)) ρ (cs.map PyData.int) = M.pure ds ∧ rgsL ds = some zs ∧ ∀ z ∈ zs, z.2.1 = 0
  | [] => ⟨[], [], rfl, rfl, by simp⟩
  | v :: cs => by
    obtain ⟨ds, zs, e, e2, e3⟩ := drawL ρ hl cs
    obtain ⟨x, b, e4⟩ := draws_den v
    have d2 : dN 2 (ρ.set 2 (some (.int v))) = M.pure (.int v) := dN_at (by rw [List.getElem?_set_self (by omega)])
    have n1 : sg__law_draws.np = 1 := rfl
    refine ⟨.list [.int x, .int 0, .bool b] :: ds, (x, 0, b) :: zs, ?_, ?_, fun z hz => ?_⟩
    · show M.bind (M.lift (some (ρ.set 2 (some (.int v))))) _ = _
      rw [b_lift]
      simp only [tYesD, b_pure, if_true, dCall, dCons, d2, show ∀ ρ, dNil ρ = M.pure [] from fun _ => rfl, List.length_cons, List.length_nil, n1, e4, e]
    · simp only [rgsL, rgItem, e2]
    · rcases List.mem_cons.mp hz with rfl | hz
      · rfl
      · exact e3 z hz
def roadB (E : List (Int × Int)) : Int → Int → List Int → Bool
  | _, _, [] => false
  | a, c, [x] => decide (x = a) && decide (a = c)
  | a, c, x :: y :: R => decide (x = a) && decide (y ∈ adj E a) && decide (a ∉ y :: R) && roadB E y c (y :: R)
theorem roadB_ok {E : List (Int × Int)} : ∀ {Q : List Int} {a c : Int}, roadB E a c Q = true → Road E a c Q
  | [], _, _, h => by cases h
  | [x], a, c, h => by
    simp [roadB] at h
    obtain ⟨rfl, rfl⟩ := h
    exact .one _
  | x :: y :: R, a, c, h => by
    simp only [roadB, Bool.and_eq_true, decide_eq_true_eq] at h
    obtain ⟨⟨⟨rfl, h2⟩, h3⟩, h4⟩ := h
    exact .step h2 h3 (roadB_ok h4)
theorem grown {n : Nat} {s : Int} {E : List (Int × Int)} (h : ((growB n [s] E).map fun S => S.isPerm (labs n)) = some true) (h2 : 2 ≤ n) (h40 : n ≤ 40) : Tree n E ∧ Conn n E := by
  cases q : growB n [s] E with
  | none => rw [q] at h; cases h
  | some S =>
    rw [q] at h
    have g := growB_ok (Grow.start n s) q
    exact g.tree (List.isPerm_iff.mp (by simpa using h)) h2 h40
def pathE : List (Int × Int) := (labs 39).map fun i => (i, i + 1)
def starE : List (Int × Int) := (labs 39).map fun i => (i, 40)
def downQ : List Int := (List.range 40).map fun i : Nat => 40 + (i : Int) * (-1)
theorem path_tree : Tree 40 pathE ∧ Conn 40 pathE := grown (s := 1) (by decide +kernel) (by decide) (by decide)
theorem star_tree : Tree 40 starE ∧ Conn 40 starE := grown (s := 40) (by decide +kernel) (by decide) (by decide)
theorem two_tree : Tree 2 [(1, 2)] ∧ Conn 2 [(1, 2)] := grown (s := 1) (by decide +kernel) (by decide) (by decide)
theorem path_walk : sg_walk_of.den [.list (pathE.map ed), .int 40, .int 1] = M.pure (.list (downQ.map PyData.int)) := by
  obtain ⟨t, cn⟩ := path_tree
  obtain ⟨Q, r, e⟩ := walk_of_den t cn (one := 40) (two := 1) (by decide +kernel) (by decide +kernel)
  rw [e, r.unique t.w (roadB_ok (Q := downQ) (by decide +kernel))]
theorem two_walk : sg_walk_of.den [.list (([(1, 2)] : List (Int × Int)).map ed), .int 2, .int 1] = M.pure (.list [.int 2, .int 1]) := by
  obtain ⟨t, cn⟩ := two_tree
  obtain ⟨Q, r, e⟩ := walk_of_den t cn (one := 2) (two := 1) (by decide +kernel) (by decide +kernel)
  rw [e, r.unique t.w (roadB_ok (Q := [2, 1]) (by decide +kernel))]; rfl
theorem ne_ints (a b : List Int) : oNe (.list (a.map PyData.int)) (.list (b.map PyData.int)) = some (.bool (!decide (a = b))) := by
  show (if _ then some (PyData.bool (!PyData.eqvAll (a.map PyData.int) (b.map PyData.int))) else none) = _
  rw [if_pos ⟨ints_shaped a, ints_shaped b⟩, eqv_ints]
def lawEndG (gw gr : Sig) : DenS := (dsSeq (dsAsg 8 (dLc (dIts oRange2 (dCons (dC (.int 1)) (dCons (dC (.int 40)) dNil))) (gtT fl1 [9]) tYesD (dFn oList (dCons (dN 9) (dCons (dAtom (dBin oAdd (dN 9) (dC (.int 1)))) dNil)))))
  (dsSeq (dsIf (dTest (dBin oNe (dCall gw (dCons (dN 8) (dCons (dC (.int 40)) (dCons (dC (.int 1)) dNil)))) (dListRg oRangeN (dCons (dC (.int 40)) (dCons (dC (.int 0)) (dCons (dUn oNeg (dC (.int 1))) dNil)))))) (dsRet (dC (.bool false))) dsNil)
  (dsSeq (dsIf (dNot (dTruth (dAtom (dCall gr (dCons (dLc (dIts oRange2 (dCons (dC (.int 1)) (dCons (dC (.int 40)) dNil))) (gtT fl1 [9]) tYesD (dFn oList (dCons (dN 9) (dCons (dC (.int 40)) dNil)))) dNil))))) (dsRet (dC (.bool false))) dsNil)
  (dsRet (dAndV (dAtom (dCall gr (dCons (dN 8) dNil))) (dAndV (dAtom (dCall gr (dCons (dFn oList (dCons (dFn oList (dCons (dC (.int 1)) (dCons (dC (.int 2)) dNil))) dNil)) dNil))) (dBin oEq (dCall gw (dCons (dFn oList (dCons (dFn oList (dCons (dC (.int 1)) (dCons (dC (.int 2)) dNil))) dNil)) (dCons (dC (.int 2)) (dCons (dC (.int 1)) dNil)))) (dFn oList (dCons (dC (.int 2)) (dCons (dC (.int 1)) dNil))))))))))
theorem rg39 : oRange2 [.int 1, .int 40] = some ((labs 39).map PyData.int) := range_1n (n := 39) (by decide)
theorem rgDown : oRangeN [.int 40, .int 0, .int (-1)] = some (downQ.map PyData.int) := by
  have h : (-1 : Int) = -1 ∧ ((40 : Int) - 0).toNat ≤ sizeLine ∧ (-(2 ^ 61) ≤ (40 : Int) ∧ (40 : Int) < 2 ^ 61 ∧ -(2 ^ 61) ≤ (0 : Int) ∧ (0 : Int) < 2 ^ 61) := by rw [sizeLine_eq]; decide
  refine (if_pos (e := none) h).trans ?_
  unfold rangeC downQ
  rw [List.map_map]; rfl
theorem path_ed : (labs 39).map (fun v : Int => PyData.list [.int v, .int (v + 1)]) = pathE.map ed := by unfold pathE; rw [List.map_map]; rfl
theorem star_ed : (labs 39).map (fun v : Int => PyData.list [.int v, .int 40]) = starE.map ed := by unfold starE; rw [List.map_map]; rfl
theorem end_gen {gw gr : Sig} {A1 A2 A3 : List D} {ρ : Slots} (hl : ρ.length = 10) (n1 : gw.np = 3) (n2 : gr.np = 1) (ep : (labs 39).map (fun v : Int => PyData.list [.int v, .int (v + 1)]) = A1) (es : (labs 39).map (fun v : Int => PyData.list [.int v, .int 40]) = A2)
    (w1 : gw.den [.list A1, .int 40, .int 1] = M.pure (.list A3)) (w2 : gw.den [.list [.list [.int 1, .int 2]], .int 2, .int 1] = M.pure (.list [.int 2, .int 1])) (r1 : gr.den [.list A1] = M.pure (.bool true)) (r2 : gr.den [.list A2] = M.pure (.bool true)) (r3 : gr.den [.list [.list [.int 1, .int 2]]] = M.pure (.bool true))
    (q1 : oNe (.list A3) (.list A3) = some (.bool false)) (hrN : oRangeN [.int 40, .int 0, .int (-1)] = some A3) : lawEndG gw gr ρ = M.pure (.rt (.bool true)) := by
  match ρ, hl with
  | [a0, a1, a2, a3, a4, a5, a6, a7, a8, a9], _ =>
    have nl : ∀ ρ : Slots, dNil ρ = M.pure [] := fun _ => rfl
    have l2 : ∀ a b : D, oList [a, b] = some (.list [a, b]) := fun a b => oList_small (by simp)
    have l1 : ∀ a : D, oList [a] = some (.list [a]) := fun a => oList_small (by simp)
    have hr := rg39
    have c1 : ∀ b, compL (gtT fl1 [9]) tYesD (dFn oList (dCons (dN 9) (dCons (dAtom (dBin oAdd (dN 9) (dC (.int 1)))) dNil))) [a0, a1, a2, a3, a4, a5, a6, a7, b, a9] ((labs 39).map PyData.int) = M.pure (A1) := fun b => by
      rw [← ep]
      refine compL_map PyData.int (fun v => .list [.int v, .int (v + 1)]) (labs 39) fun v _ => ⟨[a0, a1, a2, a3, a4, a5, a6, a7, b, some (.int v)], rfl, rfl, ?_⟩
      simp only [dFn, dCons, dN, dAtom, dBin, dC, List.getElem?_cons_zero, List.getElem?_cons_succ, b_pure, nl, b_lift, l_some, add_int, atomD, if_true, l2]
    have c2 : ∀ b, compL (gtT fl1 [9]) tYesD (dFn oList (dCons (dN 9) (dCons (dC (.int 40)) dNil))) [a0, a1, a2, a3, a4, a5, a6, a7, b, a9] ((labs 39).map PyData.int) = M.pure (A2) := fun b => by
      rw [← es]
      refine compL_map PyData.int (fun v => .list [.int v, .int 40]) (labs 39) fun v _ => ⟨[a0, a1, a2, a3, a4, a5, a6, a7, b, some (.int v)], rfl, rfl, ?_⟩
      simp only [dFn, dCons, dN, dAtom, dBin, dC, List.getElem?_cons_zero, List.getElem?_cons_succ, b_pure, nl, b_lift, l_some, add_int, atomD, if_true, l2]
    have q2 : oEq (.list [.int 2, .int 1]) (.list [.int 2, .int 1]) = some (.bool true) := eq_ints [2, 1] [2, 1]
    simp only [lawEndG, dsSeq, dsAsg, dsIf, dsRet, dsNil, dLc, dIts, dCons, dC, dN, dNot, dTruth, dTest, dAtom, dCall, dBin, dFn, dUn, dListRg, dAndV, b_pure, b_lift, l_some, nl, hr, hrN, c1, c2, n_pure, setS, List.set_cons_zero, List.set_cons_succ, List.getElem?_cons_zero, List.getElem?_cons_succ, List.length_cons, List.length_nil, n1, n2, if_true, oNeg, w1, w2, r1, r2, r3, q1, q2, boolD, truthD, atomD, Bool.not_true, Bool.false_eq_true, if_false, l1, l2]
theorem end_at {ρ : Slots} (hl : ρ.length = 10) : lawEndG sg_walk_of sg__law_right ρ = M.pure (.rt (.bool true)) :=
  end_gen hl rfl rfl path_ed star_ed path_walk two_walk (right_den path_tree.1) (right_den star_tree.1) (right_den two_tree.1) (by rw [ne_ints]; simp) rgDown
theorem hval : ∀ ns : List Int, ns.length ≤ 63 → df_law ns (List.replicate 10 none) none = .ok (.rt (.bool true)) none := by
  intro ns _
  have e0 : df_law ns = dsSeq (dsForR 1 (dLc (dIt seqD (dBin oAdd (dScr 6 ns) (dFn oList (dCons (dC (.int 0)) dNil)))) (gtT fl1 [2]) tYesD (dCall sg__law_draws (dCons (dN 2) dNil))) bodyDraw) (lawEndG sg_walk_of sg__law_right) := rfl
  obtain ⟨ds, zs, e1, e2, e3⟩ := drawL (List.replicate 10 none) rfl (ns.take 6 ++ [0])
  obtain ⟨ρ', e4, h4⟩ := forRD_go zs (List.replicate 10 none) none rfl e3
  have cut : dcut (ns.map PyData.int) none (some ((6 : Nat) : Int)) = (ns.take 6).map PyData.int := by
    unfold dcut
    rw [HT.sIx_nat, HT.sIx_none, List.length_map, List.drop_zero, Nat.sub_zero, List.map_take]
    rw [List.take_eq_take_min (i := 6), List.length_map]
  have l1 : ∀ a : D, oList [a] = some (.list [a]) := fun a => oList_small (by simp)
  have ad : oAdd (.list ((ns.take 6).map PyData.int)) (.list [.int 0]) = some (.list ((ns.take 6 ++ [0]).map PyData.int)) := by
    show (if _ then _ else _) = _
    rw [if_pos (by simp [sizeLine_eq]; omega), List.map_append]; rfl
  have s1 : dsForR 1 (dLc (dIt seqD (dBin oAdd (dScr 6 ns) (dFn oList (dCons (dC (.int 0)) dNil)))) (gtT fl1 [2]) tYesD (dCall sg__law_draws (dCons (dN 2) dNil))) bodyDraw (List.replicate 10 none) none = .ok (.nx ρ') none := by
    rw [← e4]
    have e5 : dLc (dIt seqD (dBin oAdd (dScr 6 ns) (dFn oList (dCons (dC (.int 0)) dNil)))) (gtT fl1 [2]) tYesD (dCall sg__law_draws (dCons (dN 2) dNil)) (List.replicate 10 none) = M.pure (.list ds) := by
      simp only [dLc, dIt, dBin, dScr, dFn, dCons, dC, show ∀ ρ, dNil ρ = M.pure [] from fun _ => rfl, b_pure, b_lift, l_some, cut, l1, ad, seqD]
      rw [e1, n_pure, b_pure]
    show M.bind _ _ none = _
    rw [e5, b_pure]
    show M.bind (M.lift (rgsL ds)) _ none = _
    rw [e2, b_lift]
  rw [e0, sq_at s1, end_at h4]; rfl
end K01

open PySem PySem.W PyProof.Rows in
set_option maxRecDepth 100000 in
set_option maxHeartbeats 0 in
theorem PySem.Challenge.cw_leafcodes_k01_trees_holds : PySem.Challenge.rw_leafcodes_k01_trees.Holds := by
  w_on; o_law; k_head; (case hw => w_witness2)
  k_fill
  refine DL.walk_law (l := PySem.Challenge.rw_leafcodes_k01_trees) (n := 63) (k := 8) (x := ("_law_script" : Str)) rfl (by decide) rfl ⟨rfl, by decide, by decide⟩ (fun w h Y => PySem.W.kIn_of Y) ?F
  case F =>
    intro w mg fa h KX G hmg
    refine' K01.all_mk K01.hval KX G hmg ?a__law_draws ?l__law_draws ?c__law_draws ?k__law_draws ?a_is_whole ?l_is_whole ?c_is_whole ?k_is_whole ?a_is_label ?l_is_label ?c_is_label ?k_is_label ?a_is_edge ?l_is_edge ?c_is_edge ?k_is_edge ?a_check_edges ?l_check_edges ?c_check_edges ?k_check_edges ?a_check_tree ?l_check_tree ?c_check_tree ?k_check_tree ?a_check_label ?l_check_label ?c_check_label ?k_check_label ?a_neighbours_in ?l_neighbours_in ?c_neighbours_in ?k_neighbours_in ?a_walk_in ?l_walk_in ?c_walk_in ?k_walk_in ?a_degrees_of ?l_degrees_of ?c_degrees_of ?k_degrees_of ?a_leaves_of ?l_leaves_of ?c_leaves_of ?k_leaves_of ?a_walk_of ?l_walk_of ?c_walk_of ?k_walk_of ?a__law_next ?l__law_next ?c__law_next ?k__law_next ?a__law_wood ?l__law_wood ?c__law_wood ?k__law_wood ?a__law_mates ?l__law_mates ?c__law_mates ?k__law_mates ?a__law_first_row ?l__law_first_row ?c__law_first_row ?k__law_first_row ?a__law_right ?l__law_right ?c__law_right ?k__law_right ?a__law_walk_right ?l__law_walk_right ?c__law_walk_right ?k__law_walk_right ?a_law ?l_law ?c_law ?k_law ?z_len ?z_int ?z_repr ?z_all ?z_min ?z_max ?z_sorted ?z_list ?z_bool ?z_isinstance ?z_set ?z_range ?z_enumerate ?z_zip ?z_MOST_LABELS
    (case a__law_draws => k_is)
    (case l__law_draws => k_is)
    (case c__law_draws => k_is)
    (case k__law_draws => k_is)
    (case a_is_whole => k_is)
    (case l_is_whole => k_is)
    (case c_is_whole => k_is)
    (case k_is_whole => k_is)
    (case a_is_label => k_is)
    (case l_is_label => k_is)
    (case c_is_label => k_is)
    (case k_is_label => k_is)
    (case a_is_edge => k_is)
    (case l_is_edge => k_is)
    (case c_is_edge => k_is)
    (case k_is_edge => k_is)
    (case a_check_edges => k_is)
    (case l_check_edges => k_is)
    (case c_check_edges => k_is)
    (case k_check_edges => k_is)
    (case a_check_tree => k_is)
    (case l_check_tree => k_is)
    (case c_check_tree => k_is)
    (case k_check_tree => k_is)
    (case a_check_label => k_is)
    (case l_check_label => k_is)
    (case c_check_label => k_is)
    (case k_check_label => k_is)
    (case a_neighbours_in => k_is)
    (case l_neighbours_in => k_is)
    (case c_neighbours_in => k_is)
    (case k_neighbours_in => k_is)
    (case a_walk_in => k_is)
    (case l_walk_in => k_is)
    (case c_walk_in => k_is)
    (case k_walk_in => k_is)
    (case a_degrees_of => k_is)
    (case l_degrees_of => k_is)
    (case c_degrees_of => k_is)
    (case k_degrees_of => k_is)
    (case a_leaves_of => k_is)
    (case l_leaves_of => k_is)
    (case c_leaves_of => k_is)
    (case k_leaves_of => k_is)
    (case a_walk_of => k_is)
    (case l_walk_of => k_is)
    (case c_walk_of => k_is)
    (case k_walk_of => k_is)
    (case a__law_next => k_is)
    (case l__law_next => k_is)
    (case c__law_next => k_is)
    (case k__law_next => k_is)
    (case a__law_wood => k_is)
    (case l__law_wood => k_is)
    (case c__law_wood => k_is)
    (case k__law_wood => k_is)
    (case a__law_mates => k_is)
    (case l__law_mates => k_is)
    (case c__law_mates => k_is)
    (case k__law_mates => k_is)
    (case a__law_first_row => k_is)
    (case l__law_first_row => k_is)
    (case c__law_first_row => k_is)
    (case k__law_first_row => k_is)
    (case a__law_right => k_is)
    (case l__law_right => k_is)
    (case c__law_right => k_is)
    (case k__law_right => k_is)
    (case a__law_walk_right => k_is)
    (case l__law_walk_right => k_is)
    (case c__law_walk_right => k_is)
    (case k__law_walk_right => k_is)
    (case a_law => k_is)
    (case l_law => k_is)
    (case c_law => k_is)
    (case k_law => k_is)
    (case z_len => k_is)
    (case z_int => k_is)
    (case z_repr => k_is)
    (case z_all => k_is)
    (case z_min => k_is)
    (case z_max => k_is)
    (case z_sorted => k_is)
    (case z_list => k_is)
    (case z_bool => k_is)
    (case z_isinstance => k_is)
    (case z_set => k_is)
    (case z_range => k_is)
    (case z_enumerate => k_is)
    (case z_zip => k_is)
    (case z_MOST_LABELS => k_is)

