import PyProof.Rows.All
import Wide.All
import OpenK.AllK
import Wide.FinOn
import HandS.ForMost
import HandS.Wide
import HandS.TupAny
import HandS.TupMul
import HandS.IsInst
import HandS.SortInts
import HandS.Conv
import HandS.Style
import HandS.SetFor
import PySem.Challenge.RW_cutandsewn_k00_whole_words_as_tables
set_option Elab.async false
set_option linter.all false
set_option maxRecDepth 100000
namespace Cs
open PySem PySem.Spec PyProof.Rows L2

/-! ## values as data: what a name of a def holds -/
/-- pure data, a list of pure data that the name owns, such a list that is only read for a while, a list that is locked -/
inductive M where
  | d (x : PyData) | lst (xs : List PyData) | sh (xs : List PyData) | fz (xs : List PyData)
abbrev Slots := List (Option M)
/-- what an expression gives: a value of its own, or the list that the name in a slot holds -/
inductive RV where
  | ow (m : M) | al (k : Nat)

mutual
def pureD : PyData → Bool
  | .tuple xs => pureL xs
  | .list _ => false
  | .dict _ => false
  | _ => true
def pureL : List PyData → Bool
  | [] => true
  | x :: xs => pureD x && pureL xs
end
theorem pureL_iff : ∀ {xs : List PyData}, pureL xs = true ↔ ∀ x ∈ xs, pureD x = true
  | [] => by simp [pureL]
  | x :: xs => by rw [pureL]; simp [pureL_iff (xs := xs)]

/-! ## heaps -/
def Frm (F : List Addr) (H H' : Hp) : Prop := ∀ b o, H b = some o → b ∉ F → H' b = some o
def MutAt (H : Hp) (F : List Addr) : Prop := ∀ a ∈ F, Mut (H a)
theorem Frm.refl {F : List Addr} {H : Hp} : Frm F H H := fun _ _ h _ => h
theorem Frm.mono {F G : List Addr} {H H' : Hp} (h : Frm F H H') (s : ∀ a ∈ F, a ∈ G) : Frm G H H' := fun b o e n => h b o e fun z => n (s b z)
theorem Frm.tr {F F1 : List Addr} {H H1 H2 : Hp} (a : Frm F H H1) (b : Frm F1 H1 H2) (n : ∀ x ∈ F1, x ∈ F ∨ H x = none) : Frm F H H2 := fun c o e hc =>
  b c o (a c o e hc) fun z => (n c z).elim hc fun q => by rw [q] at e; cases e
theorem Frm.new {H : Hp} {p : Addr} {o : HO} (h : H p = none) (F : List Addr) : Frm F H (upd H p o) := fun b u e _ => by rw [upd_ne (ne_of_none e h)]; exact e
theorem Frm.put {H : Hp} {p : Addr} {o : HO} {F : List Addr} (h : p ∈ F) : Frm F H (upd H p o) := fun b u e n => by
  rw [upd_ne (fun z => n (by rw [z]; exact h))]; exact e
theorem rd_tup {F : List Addr} {H H' : Hp} {a : Addr} {vs : List V} (r : Rd H a (.tup vs)) (f : Frm F H H') (m : MutAt H F) : Rd H' a (.tup vs) := by
  rcases r with r | ⟨o, r⟩
  · exact .inl (f a _ r fun z => by have := m a z; rw [r] at this; exact this)
  · exact .inr ⟨o, f a _ r fun z => by have := m a z; rw [r] at this; exact this⟩
theorem sqT_frm {K : PySem.W.Frag} {F : List Addr} {H H' : Hp} {a : Addr} {vs : List V} (r : SqT K H a vs) (f : Frm F H H') (m : MutAt H F) : SqT K H' a vs := by
  rcases r with r | r
  · exact .inl (rd_tup r f m)
  · exact .inr r
section
variable {K : PySem.W.Frag} {F : List Addr} {H H' : Hp}
mutual
theorem dp_frm (f : Frm F H H') (m : MutAt H F) : ∀ (d : PyData) (v : V), pureD d = true → Dp K H v d → Dp K H' v d
  | .none, _, _, h => by cases h; exact .non
  | .bool _, _, _, h => by cases h; exact .bl _
  | .int _, _, _, h => by cases h; exact .int _
  | .str _, _, _, h => by cases h; exact .str _
  | .tuple ds, _, p, h => by
    cases h with
    | tup hs ha => exact .tup (sqT_frm hs f m) (dps_frm f m ds _ p ha)
  | .list _, _, p, _ => by cases p
  | .dict _, _, p, _ => by cases p
theorem dps_frm (f : Frm F H H') (m : MutAt H F) : ∀ (ds : List PyData) (vs : List V), pureL ds = true → DpAll K H vs ds → DpAll K H' vs ds
  | [], _, _, h => by cases h; exact .nil
  | d :: ds, _, p, h => by
    cases h with
    | cons h1 h2 =>
      have q : pureD d = true ∧ pureL ds = true := by rw [pureL] at p; simpa using p
      exact .cons (dp_frm f m d _ q.1 h1) (dps_frm f m ds _ q.2 h2)
end
end

/-- a list that nothing here writes -/
def StL (K : PySem.W.Frag) (L : List Addr) (H : Hp) (a : Addr) (vs : List V) : Prop :=
  (∃ o, H a = some (.frz o (.lst vs))) ∨ (a ∈ L ∧ H a = some (.lst vs)) ∨
    ∃ (o : Obj) (its : Array Value) (n : Nat), K.lookup a = some o ∧ o.cls = .type "list" ∧ o.dict = none ∧ o.data = .seq its n ∧ its.size ≤ sizeLine ∧ Vals vs its.toList
theorem StL.sq {K : PySem.W.Frag} {L : List Addr} {H : Hp} {a : Addr} {vs : List V} (h : StL K L H a vs) : SqL K H a vs := by
  rcases h with ⟨o, q⟩ | ⟨_, q⟩ | q
  · exact .inl (.inr ⟨o, q⟩)
  · exact .inl (.inl q)
  · exact .inr q
/-- the value v holds m; G: what it alone may write -/
def Rep (K : PySem.W.Frag) (L : List Addr) (H : Hp) (v : V) (m : M) (G : List Addr) : Prop :=
  match m with
  | .d x => G = [] ∧ Dp K H v x ∧ pureD x = true
  | .lst xs => ∃ a vs, v = .ref a ∧ G = [a] ∧ H a = some (.lst vs) ∧ DpAll K H vs xs ∧ pureL xs = true
  | .sh xs => G = [] ∧ ∃ a vs, v = .ref a ∧ a ∈ L ∧ H a = some (.lst vs) ∧ DpAll K H vs xs ∧ pureL xs = true
  | .fz xs => G = [] ∧ ∃ a vs, v = .ref a ∧ StL K L H a vs ∧ DpAll K H vs xs ∧ pureL xs = true
/-- the value v is to be read as m -/
def RepR (K : PySem.W.Frag) (H : Hp) (v : V) (m : M) : Prop :=
  match m with
  | .d x => Dp K H v x ∧ pureD x = true
  | .lst xs => ∃ a vs, v = .ref a ∧ H a = some (.lst vs) ∧ DpAll K H vs xs ∧ pureL xs = true
  | .sh xs => ∃ a vs, v = .ref a ∧ H a = some (.lst vs) ∧ DpAll K H vs xs ∧ pureL xs = true
  | .fz xs => ∃ a vs, v = .ref a ∧ SqL K H a vs ∧ DpAll K H vs xs ∧ pureL xs = true
theorem Rep.read {K : PySem.W.Frag} {L : List Addr} {H : Hp} {v : V} {m : M} {G : List Addr} (h : Rep K L H v m G) : RepR K H v m := by
  cases m with
  | d x => exact h.2
  | lst xs => obtain ⟨a, vs, h1, _, h2⟩ := h; exact ⟨a, vs, h1, h2⟩
  | sh xs => obtain ⟨_, a, vs, h1, _, h2⟩ := h; exact ⟨a, vs, h1, h2⟩
  | fz xs => obtain ⟨_, a, vs, h1, h2, h3⟩ := h; exact ⟨a, vs, h1, h2.sq, h3⟩
theorem Rep.mutAt {K : PySem.W.Frag} {L : List Addr} {H : Hp} {v : V} {m : M} {G : List Addr} (h : Rep K L H v m G) : MutAt H G := by
  intro b hb
  cases m with
  | d x => rw [h.1] at hb; cases hb
  | lst xs =>
    obtain ⟨a, vs, _, e, h2, _⟩ := h
    rw [e] at hb
    rw [List.mem_singleton.mp hb, h2]; trivial
  | sh xs => rw [h.1] at hb; cases hb
  | fz xs => rw [h.1] at hb; cases hb
theorem Rep.nodup {K : PySem.W.Frag} {L : List Addr} {H : Hp} {v : V} {m : M} {G : List Addr} (h : Rep K L H v m G) : G.Nodup := by
  cases m with
  | d x => rw [h.1]; exact List.nodup_nil
  | lst xs => obtain ⟨a, vs, _, e, _⟩ := h; rw [e]; simp
  | sh xs => rw [h.1]; exact List.nodup_nil
  | fz xs => rw [h.1]; exact List.nodup_nil
theorem Rep.frm {K : PySem.W.Frag} {L F : List Addr} {H H' : Hp} {v : V} {m : M} {G : List Addr} (h : Rep K L H v m G) (f : Frm F H H') (mu : MutAt H F) (d : ∀ a ∈ F, a ∉ G) (dl : ∀ a ∈ F, a ∉ L) : Rep K L H' v m G := by
  cases m with
  | d x => exact ⟨h.1, dp_frm f mu _ _ h.2.2 h.2.1, h.2.2⟩
  | lst xs =>
    obtain ⟨a, vs, h1, e, h2, h3, h4⟩ := h
    exact ⟨a, vs, h1, e, f a _ h2 (fun z => d a z (by rw [e]; simp)), dps_frm f mu _ _ h4 h3, h4⟩
  | sh xs =>
    obtain ⟨e, a, vs, h1, hL, h2, h3, h4⟩ := h
    exact ⟨e, a, vs, h1, hL, f a _ h2 (fun z => dl a z hL), dps_frm f mu _ _ h4 h3, h4⟩
  | fz xs =>
    obtain ⟨e, a, vs, h1, h2, h3, h4⟩ := h
    refine ⟨e, a, vs, h1, ?_, dps_frm f mu _ _ h4 h3, h4⟩
    rcases h2 with ⟨o, q⟩ | ⟨l, q⟩ | q
    · exact .inl ⟨o, f a _ q fun z => by have := mu a z; rw [q] at this; exact this⟩
    · exact .inr (.inl ⟨l, f a _ q fun z => dl a z l⟩)
    · exact .inr (.inr q)

/-! ## the names of a def -/
inductive EnvR (K : PySem.W.Frag) (L : List Addr) (H : Hp) : L2.St → Slots → List Addr → Prop
  | nil : EnvR K L H [] [] []
  | no {x : Option V} {σ : L2.St} {e : Slots} {F : List Addr} : EnvR K L H σ e F → EnvR K L H (x :: σ) (none :: e) F
  | so {v : V} {m : M} {G : List Addr} {σ : L2.St} {e : Slots} {F : List Addr} : Rep K L H v m G → EnvR K L H σ e F → EnvR K L H (some v :: σ) (some m :: e) (G ++ F)
section
variable {K : PySem.W.Frag} {L : List Addr} {H H' : Hp} {σ : L2.St} {e : Slots} {F : List Addr}
theorem EnvR.len (h : EnvR K L H σ e F) : σ.length = e.length := by
  induction h with
  | nil => rfl
  | no _ ih => simp [ih]
  | so _ _ ih => simp [ih]
theorem EnvR.mutAt (h : EnvR K L H σ e F) : MutAt H F := by
  induction h with
  | nil => intro a ha; cases ha
  | no _ ih => exact ih
  | so r _ ih =>
    intro a ha
    rcases List.mem_append.mp ha with z | z
    · exact r.mutAt a z
    · exact ih a z
theorem EnvR.frm {G : List Addr} (h : EnvR K L H σ e F) (f : Frm G H H') (mu : MutAt H G) (d : ∀ a ∈ G, a ∉ F) (dl : ∀ a ∈ G, a ∉ L) : EnvR K L H' σ e F := by
  induction h with
  | nil => exact .nil
  | no _ ih => exact .no (ih d)
  | so r _ ih =>
    exact .so (r.frm f mu (fun a ha z => d a ha (List.mem_append_left _ z)) dl) (ih fun a ha z => d a ha (List.mem_append_right _ z))
/-- what a slot holds -/
theorem EnvR.at : ∀ {k : Nat} {m : M} {σ : L2.St} {e : Slots} {F : List Addr}, EnvR K L H σ e F → e[k]? = some (some m) → ∃ v G F', σ[k]? = some (some v) ∧ Rep K L H v m G ∧ EnvR K L H σ (e.set k none) F' ∧ F.Perm (G ++ F')
  | k, m, _, _, _, .nil, h => by simp at h
  | 0, m, _, _, _, .no _, h => by simp at h
  | k + 1, m, _, _, _, .no r, h => by
    obtain ⟨v, G, F', h1, h2, h3, h4⟩ := EnvR.at (k := k) r (by simpa using h)
    exact ⟨v, G, F', by simpa using h1, h2, .no h3, h4⟩
  | 0, m, _, _, _, .so (F := F) p r, h => by
    simp only [List.getElem?_cons_zero, Option.some.injEq] at h
    subst h
    exact ⟨_, _, F, rfl, p, .no r, .refl _⟩
  | k + 1, m, _, _, _, .so (G := G0) p r, h => by
    obtain ⟨v, G, F', h1, h2, h3, h4⟩ := EnvR.at (k := k) r (by simpa using h)
    refine ⟨v, G, G0 ++ F', by simpa using h1, h2, .so p h3, ?_⟩
    refine (List.Perm.append_left G0 h4).trans ?_
    rw [← List.append_assoc, ← List.append_assoc]
    exact List.Perm.append_right F' List.perm_append_comm
theorem EnvR.drop : ∀ {k : Nat} {σ : L2.St} {e : Slots} {F : List Addr}, EnvR K L H σ e F → ∃ F', EnvR K L H σ (e.set k none) F' ∧ F'.Sublist F
  | k, _, _, _, .nil => ⟨[], by simpa using .nil, .refl _⟩
  | 0, _, _, _, .no r => ⟨_, .no r, .refl _⟩
  | k + 1, _, _, _, .no r => by
    obtain ⟨F', h1, h2⟩ := EnvR.drop (k := k) r
    exact ⟨F', .no h1, h2⟩
  | 0, _, _, _, .so p r => ⟨_, .no r, List.sublist_append_right _ _⟩
  | k + 1, _, _, _, .so (G := G0) p r => by
    obtain ⟨F', h1, h2⟩ := EnvR.drop (k := k) r
    exact ⟨G0 ++ F', .so p h1, List.Sublist.append (.refl _) h2⟩
/-- a slot that holds nothing is filled -/
theorem EnvR.fill : ∀ {k : Nat} {v : V} {m : M} {G : List Addr} {σ : L2.St} {e : Slots} {F : List Addr}, EnvR K L H σ (e.set k none) F → k < e.length → Rep K L H v m G → ∃ F', EnvR K L H (σ.set k (some v)) (e.set k (some m)) F' ∧ F'.Perm (G ++ F)
  | _, _, _, _, _, [], _, _, h, _ => by simp at h
  | 0, v, m, G, _, x :: e, _, r, _, p => by
    cases r with
    | no r => exact ⟨_, .so p r, .refl _⟩
  | k + 1, v, m, G, _, x :: e, _, r, h, p => by
    have hk : k < e.length := by simpa using h
    cases r with
    | no r =>
      obtain ⟨F', h1, h2⟩ := EnvR.fill (k := k) r hk p
      exact ⟨F', .no h1, h2⟩
    | so q r =>
      obtain ⟨F', h1, h2⟩ := EnvR.fill (k := k) r hk p
      refine ⟨_, .so q h1, (List.Perm.append_left _ h2).trans ?_⟩
      rw [← List.append_assoc, ← List.append_assoc]
      exact List.Perm.append_right _ List.perm_append_comm
/-- a slot that holds nothing may stand anyhow -/
theorem EnvR.any : ∀ {k : Nat} {y : Option V} {σ : L2.St} {e : Slots} {F : List Addr}, EnvR K L H σ e F → (e[k]? = some none ∨ e[k]? = none) → EnvR K L H (σ.set k y) e F
  | _, _, _, _, _, .nil, _ => by simpa using .nil
  | 0, _, _, _, _, .no r, _ => .no r
  | k + 1, _, _, _, _, .no r, h => .no (EnvR.any (k := k) r (by simpa using h))
  | 0, _, _, _, _, .so p r, h => by rcases h with h | h <;> simp at h
  | k + 1, _, _, _, _, .so p r, h => .so p (EnvR.any (k := k) r (by simpa using h))
end

/-! ## the small language that a def's body is turned into -/
inductive O2 where
  | add | sub | mul | fdiv | mod | pow | lt | le | gt | ge | eq | ne | mem | nmem | idx | maxm | minm
  deriving DecidableEq
inductive O1 where
  | neg | isN | notN | isB (b : Bool) | notB (b : Bool) | len | tuple | list | abs | int | sum | max | min | rev | isInt | isBool | isStr | isTuple | all | any | sorted
  deriving DecidableEq
inductive Mt where
  | append | pop | reverse | remove
  deriving DecidableEq
inductive Tg where
  | n (i : Nat) | t (is : List Nat)
  deriving DecidableEq
inductive Tm where
  | var (k : Nat) | cst (x : PyData)
  | bin (o : O2) (a b : Tm) | un (o : O1) (a : Tm)
  | and_ (a b : Tm) | or_ (a b : Tm) | not_ (a : Tm) | ite (c a b : Tm)
  | tup (as : Tm) | lst (as : Tm) | nil | cons (a r : Tm)
  | slice (a lo hi : Tm)
  | sm (a : Tm) | sq (a : Tm) | rng1 (a : Tm) | rng2 (a b : Tm) | lrng (a : Tm) | trng (a : Tm)
  | call (f : Nat) (as : Tm)
  | mt0 (o : Mt) (k : Nat) | mt1 (o : Mt) (k : Nat) (a : Tm)
  | comp (own : List Nat) (tg : Tg) (it cond elt : Tm)
inductive Sm where
  | skip | seq (a b : Sm) | set (i : Nat) (e : Tm) | par (is : List Nat) (as : Tm) | unp (is : List Nat) (e : Tm) | setI (k : Nat) (i e : Tm) | aug (o : O2) (i : Nat) (e : Tm)
  | ex (e : Tm) | ret (e : Tm) | retN | ite (c : Tm) (a b : Sm) | for_ (tg : Tg) (it : Tm) (b : Sm) | while_ (c : Tm) (b : Sm) | brk | cnt | fail
inductive Fl where
  | nx | rt (m : M) | bk | ct

/-! ## what the operators give -/
def int? : PyData → Option Int
  | .int i => some i
  | _ => none
def ints? : List PyData → Option (List Int)
  | [] => some []
  | x :: xs => (int? x).bind fun i => (ints? xs).map (i :: ·)
def bool? : PyData → Option Bool
  | .bool b => some b
  | _ => none
def bools? : List PyData → Option (List Bool)
  | [] => some []
  | x :: xs => (bool? x).bind fun i => (bools? xs).map (i :: ·)
def small (i : Int) : Bool := decide (-(2 ^ 64) < i) && decide (i < 2 ^ 64)
def data : M → PyData
  | .d x => x
  | .lst xs => .list xs
  | .sh xs => .list xs
  | .fz xs => .list xs
def seq? : M → Option (List PyData)
  | .d (.tuple xs) => some xs
  | .lst xs => some xs
  | .sh xs => some xs
  | .fz xs => some xs
  | _ => none
def eq? (a b : M) : Option Bool := if SeqAt.shaped (data a) && SeqAt.shaped (data b) then some (PyData.eqv (data a) (data b)) else none
def dB (b : Bool) : M := .d (.bool b)
def dI (i : Int) : M := .d (.int i)
/-- max, min of a list of ints, the first one at the head -/
def maxL : List Int → Int → Int
  | [], m => m
  | x :: xs, m => maxL xs (if m < x then x else m)
def minL : List Int → Int → Int
  | [], m => m
  | x :: xs, m => minL xs (if x < m then x else m)
def isNoneD : PyData → Bool
  | .none => true
  | _ => false
def isIntD : PyData → Bool
  | .int _ => true
  | .bool _ => true
  | _ => false
def isBoolD : PyData → Bool
  | .bool _ => true
  | _ => false
def isStrD : PyData → Bool
  | .str _ => true
  | _ => false
def isTupD : PyData → Bool
  | .tuple _ => true
  | _ => false
def pD (f : PyData → Option M) : M → Option M
  | .d x => f x
  | _ => none
def pL (f : List PyData → Option M) : M → Option M
  | .lst xs => f xs
  | _ => none
def pRev : M → Option M
  | .d (.tuple xs) => some (.d (.tuple xs.reverse))
  | .lst xs => some (.lst xs.reverse)
  | _ => none
def pTuple : M → Option M
  | .d (.tuple xs) => some (.d (.tuple xs))
  | .lst xs => some (.d (.tuple xs))
  | _ => none
def pIsTuple : M → Option M
  | .d x => some (dB (isTupD x))
  | .lst _ => some (dB false)
  | _ => none
def p1 (o : O1) : M → Option M :=
  match o with
  | .neg => pD fun x => (int? x).map fun i => dI (-i)
  | .isN => pD fun x => some (dB (isNoneD x))
  | .notN => pD fun x => some (dB (!isNoneD x))
  | .isB b => pD fun x => (bool? x).map fun c => dB (decide (c = b))
  | .notB b => pD fun x => (bool? x).map fun c => dB (!decide (c = b))
  | .len => fun m => (seq? m).map fun xs => dI xs.length
  | .tuple => pTuple
  | .list => fun m => (seq? m).map .lst
  | .abs => pD fun x => (int? x).map fun i => dI (if i < 0 then -i else i)
  | .int => pD fun x => match x with
    | .int i => some (dI i)
    | .bool b => some (dI (if b then 1 else 0))
    | _ => none
  | .sum => pL fun xs => (ints? xs).map fun ns => dI ns.sum
  | .max => pL fun xs => (ints? xs).bind fun ns => match ns with
    | n :: ns => some (dI (maxL ns n))
    | [] => none
  | .min => pL fun xs => (ints? xs).bind fun ns => match ns with
    | n :: ns => some (dI (minL ns n))
    | [] => none
  | .rev => pRev
  | .isInt => pD fun x => some (dB (isIntD x))
  | .isBool => pD fun x => some (dB (isBoolD x))
  | .isStr => pD fun x => some (dB (isStrD x))
  | .isTuple => pIsTuple
  | .all => pL fun xs => (bools? xs).map fun bs => dB (bs.all id)
  | .any => pL fun xs => (bools? xs).map fun bs => dB (bs.any id)
  | .sorted => pL fun xs => (ints? xs).map fun ns => .lst ((ns.mergeSort (fun a b => decide (a ≤ b))).map .int)
def pAdd : M → M → Option M
  | .d (.int i), .d (.int j) => some (dI (i + j))
  | .d (.tuple xs), .d (.tuple ys) => if xs.length + ys.length ≤ sizeLine then some (.d (.tuple (xs ++ ys))) else none
  | .lst xs, .lst ys => if xs.length + ys.length ≤ sizeLine then some (.lst (xs ++ ys)) else none
  | _, _ => none
def pMul : M → M → Option M
  | .d (.int i), .d (.int j) => if small i || small j || decide (i.natAbs.log2 + j.natAbs.log2 < 1000000) then some (dI (i * j)) else none
  | .d (.tuple xs), .d (.int j) => if decide (-(2 ^ 62) ≤ j) && decide (j ≤ 1000) && decide (xs.length ≤ 1000) then some (.d (.tuple (List.replicate j.toNat xs).flatten)) else none
  | .lst xs, .d (.int j) => if decide (-(2 ^ 63) ≤ j) && decide (j < 2 ^ 63) && decide (xs.length * j.toNat ≤ sizeLine) then some (.lst (List.replicate j.toNat xs).flatten) else none
  | _, _ => none
def pI (f : Int → Int → Option M) : M → M → Option M
  | .d (.int i), .d (.int j) => f i j
  | _, _ => none
def pMem (neg : Bool) (a b : M) : Option M :=
  match seq? b with
  | some ys => if SeqAt.shaped (data a) && SeqAt.shaped (.list ys) then some (dB (if neg then !ys.any (fun z => PyData.eqv z (data a)) else ys.any fun z => PyData.eqv z (data a))) else none
  | none => none
def pIdx (a b : M) : Option M :=
  match seq? a, b with
  | some xs, .d (.int i) => (atI xs i).map .d
  | _, _ => none
def p2 (o : O2) : M → M → Option M :=
  match o with
  | .eq => fun a b => (eq? a b).map dB
  | .ne => fun a b => (eq? a b).map fun k => dB (!k)
  | .mem => pMem false
  | .nmem => pMem true
  | .idx => pIdx
  | .add => pAdd
  | .mul => pMul
  | .sub => pI fun i j => some (dI (i - j))
  | .fdiv => pI fun i j => if decide (0 < j) && decide (j < 1073741824) then some (dI (i / j)) else none
  | .mod => pI fun i j => if 0 < j then some (dI (i % j)) else none
  | .pow => pI fun i j => if decide (0 ≤ j) && decide (j ≤ 1000000) && decide (i.natAbs < 2 ^ 64) then some (dI (i ^ j.toNat)) else none
  | .lt => pI fun i j => some (dB (decide (i < j)))
  | .le => pI fun i j => some (dB (decide (i ≤ j)))
  | .gt => pI fun i j => some (dB (decide (j < i)))
  | .ge => pI fun i j => some (dB (decide (j ≤ i)))
  | .maxm => pI fun i j => some (dI (if j > i then j else i))
  | .minm => pI fun i j => some (dI (if j < i then j else i))
def part? : Option RV → Slots → Option (Option Int)
  | none, _ => some none
  | some (.ow (.d (.int i))), _ => some (some i)
  | _, _ => none
/-- a[lo:hi] -/
def cut? (a : M) (lo hi : Option Int) : Option M :=
  match a with
  | .d (.tuple xs) => some (.d (.tuple ((xs.drop (HT.sIx xs.length 0 lo)).take (HT.sIx xs.length xs.length hi - HT.sIx xs.length 0 lo))))
  | .lst xs => some (.lst ((xs.drop (HT.sIx xs.length 0 lo)).take (HT.sIx xs.length xs.length hi - HT.sIx xs.length 0 lo)))
  | _ => none
def rngL (lo hi : Int) : List PyData := (List.range (hi - lo).toNat).map fun k : Nat => PyData.int (lo + (k : Int))
def inRng (i : Int) : Bool := decide (-(2 ^ 62) ≤ i) && decide (i < 2 ^ 62)

/-! ## the evaluator -/
/-- the lists that are only read stay where they are -/
def isSh : M → Bool
  | .sh _ => true
  | .fz _ => true
  | _ => false
def SameSh (e e' : Slots) : Prop := ∀ (j : Nat) (m : M), e'[j]? = some (some m) → isSh m = true → e[j]? = some (some m)
def shAt (e : Slots) (i : Nat) : Bool :=
  match e[i]? with
  | some (some m) => isSh m
  | _ => false

def val (r : RV) (e : Slots) : Option M :=
  match r with
  | .ow m => some m
  | .al k => match e[k]? with
    | some (some (.sh xs)) => some (.lst xs)
    | some (some m) => some m
    | _ => none
/-- an argument that is handed over: a value of its own, or what a slot holds -/
def raw (r : RV) (e : Slots) : Option M :=
  match r with
  | .ow m => some m
  | .al k => e[k]?.bind id
def raws : List RV → Slots → Option (List M)
  | [], _ => some []
  | r :: rs, e => (raw r e).bind fun m => (raws rs e).map (m :: ·)
def alK : List RV → List Nat
  | [] => []
  | .al k :: rs => k :: alK rs
  | _ :: rs => alK rs
/-- behind a call: the lists that were handed over, as they are now -/
def back : List RV → List M → List M → Slots → Option Slots
  | [], [], [], e => some e
  | .al k :: rs, .lst _ :: ms, .lst ys :: ms', e => back rs ms ms' (e.set k (some (.lst ys)))
  | .al _ :: _, .lst _ :: _, _ :: _, _ => none
  | _ :: rs, _ :: ms, _ :: ms', e => back rs ms ms' e
  | _, _, _, _ => none
def owD : List RV → Option (List PyData)
  | [] => some []
  | .ow (.d x) :: rs => (owD rs).map (x :: ·)
  | _ => none
def wipeE (e : Slots) : List Nat → Slots
  | [] => e
  | v :: vs => (wipeE e vs).set v none
def fillE (e e0 : Slots) : List Nat → Slots
  | [] => e
  | v :: vs => (fillE e e0 vs).set v (match e0[v]? with | some (some (.d x)) => some (.d x) | _ => none)
def bindN : List Nat → List PyData → Slots → Option Slots
  | [], [], e => some e
  | i :: is, x :: xs, e => if shAt e i then none else bindN is xs (e.set i (some (.d x)))
  | _, _, _ => none
def bindT (pin : List Nat) (tg : Tg) (x : PyData) (e : Slots) : Option Slots :=
  match tg with
  | .n i => if decide (i ∈ pin) || shAt e i then none else some (e.set i (some (.d x)))
  | .t is => match x with
    | .tuple xs => if is.any fun i => decide (i ∈ pin) then none else bindN is xs e
    | _ => none
def compL (f : PyData → Slots → Option (Option PyData × Slots)) : List PyData → Slots → Option (List PyData × Slots)
  | [], e => some ([], e)
  | x :: xs, e => (f x e).bind fun r => (compL f xs r.2).map fun q => (r.1.toList ++ q.1, q.2)
/-- what is walked: the items, the slot that is locked meanwhile -/
abbrev IV := List PyData × Option Nat
def lockE : Option Nat → List PyData → Slots → Slots
  | none, _, e => e
  | some k, xs, e => e.set k (some (.sh xs))
def openE : Option Nat → List PyData → Slots → Slots
  | none, _, e => e
  | some k, xs, e => e.set k (some (.lst xs))
def iter? : RV → Slots → Option IV
  | .ow (.d (.tuple xs)), _ => some (xs, none)
  | .ow (.lst xs), _ => some (xs, none)
  | .al k, e => match e[k]? with
    | some (some (.lst xs)) => some (xs, some k)
    | some (some (.sh xs)) => some (xs, none)
    | some (some (.fz xs)) => some (xs, none)
    | _ => none
  | _, _ => none
def mt0? (o : Mt) (xs : List PyData) : Option (M × List PyData) :=
  match o with
  | .pop => match xs[xs.length - 1]? with
    | some y => some (.d y, xs.dropLast)
    | none => none
  | .reverse => some (.d .none, xs.reverse)
  | _ => none
def mt1? (o : Mt) (xs : List PyData) (y : PyData) : Option (M × List PyData) :=
  match o with
  | .append => if xs.length < sizeLine then some (.d .none, xs ++ [y]) else none
  | .remove => match ints? xs, y with
    | some ns, .int i => if i ∈ ns then some (.d .none, (ns.erase i).map .int) else none
    | _, _ => none
  | _ => none
section
variable (C : Nat → List M → Option (M × List M))
mutual
def ev : Tm → Slots → Option (RV × Slots)
  | .var k, e => match e[k]? with
    | some (some (.d x)) => some (.ow (.d x), e)
    | some (some _) => some (.al k, e)
    | _ => none
  | .cst x, e => some (.ow (.d x), e)
  | .bin o a b, e => (ev a e).bind fun ra => (ev b ra.2).bind fun rb => (val ra.1 rb.2).bind fun ma => (val rb.1 rb.2).bind fun mb => (p2 o ma mb).map fun m => (.ow m, rb.2)
  | .un o a, e => (ev a e).bind fun ra => (val ra.1 ra.2).bind fun ma => (p1 o ma).map fun m => (.ow m, ra.2)
  | .and_ a b, e => (ev a e).bind fun ra => match ra.1 with
    | .ow (.d (.bool true)) => ev b ra.2
    | .ow (.d (.bool false)) => some (.ow (.d (.bool false)), ra.2)
    | _ => none
  | .or_ a b, e => (ev a e).bind fun ra => match ra.1 with
    | .ow (.d (.bool false)) => ev b ra.2
    | .ow (.d (.bool true)) => some (.ow (.d (.bool true)), ra.2)
    | _ => none
  | .not_ a, e => (ev a e).bind fun ra => match ra.1 with
    | .ow (.d (.bool k)) => some (.ow (.d (.bool (!k))), ra.2)
    | _ => none
  | .ite c a b, e => (ev c e).bind fun ra => match ra.1 with
    | .ow (.d (.bool true)) => ev a ra.2
    | .ow (.d (.bool false)) => ev b ra.2
    | _ => none
  | .tup as, e => (evL as e).bind fun r => (owD r.1).bind fun xs => if xs.length ≤ sizeLine then some (.ow (.d (.tuple xs)), r.2) else none
  | .lst as, e => (evL as e).bind fun r => (owD r.1).bind fun xs => if xs.length ≤ sizeLine then some (.ow (.lst xs), r.2) else none
  | .slice a lo hi, e => (ev a e).bind fun ra => (evP lo ra.2).bind fun rl => (evP hi rl.2).bind fun rh => (val ra.1 rh.2).bind fun m => (cut? m rl.1 rh.1).map fun m => (.ow m, rh.2)
  | .lrng a, e => (evI a e).bind fun r => match r.1 with
    | (xs, none) => if xs.length ≤ sizeLine then some (.ow (.lst xs), r.2) else none
    | _ => none
  | .trng a, e => (evI a e).bind fun r => match r.1 with
    | (xs, none) => if xs.length ≤ sizeLine then some (.ow (.d (.tuple xs)), r.2) else none
    | _ => none
  | .call f as, e => (evL as e).bind fun r => if (alK r.1).Nodup then (raws r.1 r.2).bind fun ms => (C f ms).bind fun q => (back r.1 ms q.2 r.2).map fun e2 => (.ow q.1, e2) else none
  | .mt0 o k, e => match e[k]? with
    | some (some (.lst xs)) => (mt0? o xs).map fun q => (.ow q.1, e.set k (some (.lst q.2)))
    | _ => none
  | .mt1 o k a, e => match e[k]? with
    | some (some (.lst _)) => (ev a e).bind fun r => match r.1, r.2[k]? with
      | .ow (.d y), some (some (.lst xs)) => (mt1? o xs y).map fun q => (.ow q.1, r.2.set k (some (.lst q.2)))
      | _, _ => none
    | _ => none
  | .comp own tg it cond elt, e => (evI it e).bind fun r =>
      (compL (fun x e1 => (bindT [] tg x e1).bind fun e2 => (ev cond e2).bind fun c => match c.1 with
        | .ow (.d (.bool true)) => (ev elt c.2).bind fun y => match y.1 with
          | .ow (.d y0) => some (some y0, wipeE y.2 own)
          | _ => none
        | .ow (.d (.bool false)) => some (none, wipeE c.2 own)
        | _ => none) r.1.1 (wipeE (lockE r.1.2 r.1.1 r.2) own)).bind fun q =>
      if q.1.length ≤ sizeLine then some (.ow (.lst q.1), openE r.1.2 r.1.1 (fillE q.2 r.2 own)) else none
  | _, _ => none
def evL : Tm → Slots → Option (List RV × Slots)
  | .nil, e => some ([], e)
  | .cons a r, e => (ev a e).bind fun ra => (evL r ra.2).map fun rr => (ra.1 :: rr.1, rr.2)
  | _, _ => none
/-- an end of a slice, perhaps left out -/
def evP : Tm → Slots → Option (Option Int × Slots)
  | .nil, e => some (none, e)
  | .sm t, e => (ev t e).bind fun r => match r.1 with
    | .ow (.d (.int i)) => some (some i, r.2)
    | _ => none
  | _, _ => none
/-- what is walked -/
def evI : Tm → Slots → Option (IV × Slots)
  | .rng1 a, e => (ev a e).bind fun r => match r.1 with
    | .ow (.d (.int i)) => if inRng i then some ((rngL 0 i, none), r.2) else none
    | _ => none
  | .rng2 a b, e => (ev a e).bind fun r => (ev b r.2).bind fun q => match r.1, q.1 with
    | .ow (.d (.int i)), .ow (.d (.int j)) => if inRng i && inRng j then some ((rngL i j, none), q.2) else none
    | _, _ => none
  | .sq t, e => (ev t e).bind fun r => (iter? r.1 r.2).map fun v => (v, r.2)
  | _, _ => none
end
end

def forL (f : PyData → Slots → Option (Fl × Slots)) : List PyData → Slots → Option (Fl × Slots)
  | [], e => some (.nx, e)
  | x :: xs, e => (f x e).bind fun r => match r.1 with
    | .nx => forL f xs r.2
    | .ct => forL f xs r.2
    | .bk => some (.nx, r.2)
    | .rt m => if isSh m then none else some (.rt m, r.2)
def whl (c : Slots → Option (RV × Slots)) (b : Slots → Option (Fl × Slots)) : Nat → Slots → Option (Fl × Slots)
  | 0, _ => none
  | n + 1, e => (c e).bind fun t => match t.1 with
    | .ow (.d (.bool true)) => (b t.2).bind fun r => match r.1 with
      | .nx => whl c b n r.2
      | .ct => whl c b n r.2
      | .bk => some (.nx, r.2)
      | .rt m => some (.rt m, r.2)
    | .ow (.d (.bool false)) => some (.nx, t.2)
    | _ => none
def owM : List RV → Option (List M)
  | [] => some []
  | .ow m :: rs => (owM rs).map (m :: ·)
  | _ => none
def bindM : List Nat → List M → Slots → Option Slots
  | [], [], e => some e
  | i :: is, x :: xs, e => if shAt e i || isSh x then none else bindM is xs (e.set i (some x))
  | _, _, _ => none
def inPin (pin is : List Nat) : Bool := is.any fun i => decide (i ∈ pin)
def aug2 (o : O2) (x y : Int) : Option Int :=
  match o with
  | .add => some (x + y)
  | .sub => some (x - y)
  | _ => none
section
variable (C : Nat → List M → Option (M × List M)) (wf : Nat)
def xq (pin : List Nat) : Sm → Slots → Option (Fl × Slots)
  | .skip, e => some (.nx, e)
  | .seq a b, e => (xq pin a e).bind fun r => match r.1 with
    | .nx => xq pin b r.2
    | .rt m => some (.rt m, r.2)
    | .bk => some (.bk, r.2)
    | .ct => some (.ct, r.2)
  | .set i t, e => if i ∈ pin then none else (ev C t e).bind fun r => match r.1 with
    | .ow m => if shAt r.2 i || isSh m then none else some (.nx, r.2.set i (some m))
    | _ => none
  | .par is as, e => if inPin pin is || !decide (is.length ≤ sizeLine) then none else (evL C as e).bind fun r => (owM r.1).bind fun ms => (bindM is ms r.2).map fun e => (.nx, e)
  | .unp is t, e => if inPin pin is then none else (ev C t e).bind fun r => match r.1 with
    | .ow (.d (.tuple xs)) => (bindN is xs r.2).map fun e => (.nx, e)
    | _ => none
  | .setI k i t, e => (ev C t e).bind fun r => match r.2[k]? with
    | some (some (.lst _)) => (ev C i r.2).bind fun q => match r.1, q.1, q.2[k]? with
      | .ow (.d y), .ow (.d (.int n)), some (some (.lst xs)) => (ixN xs.length n).map fun j => (.nx, q.2.set k (some (.lst (xs.set j y))))
      | _, _, _ => none
    | _ => none
  | .aug o i t, e => (ev C t e).bind fun r => match e[i]?, r.1 with
    | some (some (.d (.int x))), .ow (.d (.int y)) => if i ∈ pin || shAt r.2 i then none else (aug2 o x y).map fun z => (.nx, r.2.set i (some (dI z)))
    | some (some (.lst _)), .ow (.lst ys) => match o, r.2[i]? with
      | .add, some (some (.lst xs)) => if xs.length + ys.length ≤ sizeLine then some (.nx, r.2.set i (some (.lst (xs ++ ys)))) else none
      | _, _ => none
    | some (some (.lst _)), .ow (.d (.tuple ys)) => match o, r.2[i]? with
      | .add, some (some (.lst xs)) => if xs.length + ys.length ≤ sizeLine then some (.nx, r.2.set i (some (.lst (xs ++ ys)))) else none
      | _, _ => none
    | _, _ => none
  | .ex t, e => (ev C t e).map fun r => (.nx, r.2)
  | .ret t, e => (ev C t e).bind fun r => match r.1 with
    | .ow m => some (.rt m, r.2)
    | .al k => match r.2[k]? with
      | some (some (.lst xs)) => if k ∈ pin then none else some (.rt (.lst xs), r.2.set k none)
      | _ => none
  | .retN, e => some (.rt (.d .none), e)
  | .ite c a b, e => (ev C c e).bind fun r => match r.1 with
    | .ow (.d (.bool true)) => xq pin a r.2
    | .ow (.d (.bool false)) => xq pin b r.2
    | _ => none
  | .for_ tg it b, e => (evI C it e).bind fun r =>
      (forL (fun x e1 => (bindT (r.1.2.toList ++ pin) tg x e1).bind fun e2 => xq (r.1.2.toList ++ pin) b e2) r.1.1 (lockE r.1.2 r.1.1 r.2)).map fun q => (q.1, openE r.1.2 r.1.1 q.2)
  | .while_ c b, e => whl (ev C c) (xq pin b) wf e
  | .brk, e => some (.bk, e)
  | .cnt, e => some (.ct, e)
  | .fail, _ => none
end
structure Fn where
  np : Nat
  ns : Nat
  body : Sm
def pinsOf : Nat → List M → List Nat
  | _, [] => []
  | i, .d _ :: ms => pinsOf (i + 1) ms
  | i, _ :: ms => i :: pinsOf (i + 1) ms
def outs : List M → Slots → Option (List M)
  | [], _ => some []
  | .lst _ :: ms, some m :: e => (outs ms e).map (m :: ·)
  | .lst _ :: _, none :: _ => none
  | m :: ms, _ :: e => (outs ms e).map (m :: ·)
  | _, _ => none
def run1 (C : Nat → List M → Option (M × List M)) (wf : Nat) (fd : Fn) (ms : List M) : Option (M × List M) :=
  if ms.length = fd.np then (xq C wf (pinsOf 0 ms) fd.body (ms.map some ++ List.replicate (fd.ns - fd.np) none)).bind fun r => match r.1 with
    | .nx => (outs ms r.2).map fun o => (.d .none, o)
    | .rt m => (outs ms r.2).map fun o => (m, o)
    | _ => none
  else none
def callF (wf : Nat) (fs : List Fn) : Nat → Nat → List M → Option (M × List M)
  | 0, _, _ => none
  | n + 1, f, ms => (fs[f]?).bind fun fd => run1 (callF wf fs n) wf fd ms

/-! ## what is read of an expression -/
structure Ste (K : PySem.W.Frag) (L : List Addr) (H : Hp) (σ : L2.St) (e : Slots) (F : List Addr) : Prop where
  er : ∃ F0, EnvR K L H σ e F0 ∧ F0.Perm F
  nd : F.Nodup
  dj : ∀ a ∈ F, a ∉ L
  lt : ∀ a ∈ L, ∃ o, H a = some o
def Hold (K : PySem.W.Frag) (L : List Addr) (H : Hp) (σ : L2.St) (r : RV) (v : V) (G : List Addr) : Prop :=
  match r with
  | .ow m => Rep K L H v m G
  | .al k => G = [] ∧ σ[k]? = some (some v)
structure XPw (K : PySem.W.Frag) (L : List Addr) (H : Hp) (F : List Addr) (σ : L2.St) (e e' : Slots) (H' : Hp) (G F' : List Addr) : Prop where
  er : ∃ F0, EnvR K L H' σ e' F0 ∧ F0.Perm F'
  nd : (G ++ F').Nodup
  new : ∀ a ∈ G ++ F', a ∈ F ∨ H a = none
  frm : Frm F H H'
  mu : MutAt H' G
  sh : SameSh e e'
def XP (K : PySem.W.Frag) (L : List Addr) (H : Hp) (F : List Addr) (σ : L2.St) (e e' : Slots) (r : RV) (v : V) (H' : Hp) : Prop :=
  ∃ G F', XPw K L H F σ e e' H' G F' ∧ Hold K L H' σ r v G
def tE (K : PySem.W.Frag) (f : Slots → Option (RV × Slots)) : TE := fun σ H Q =>
  ∃ L e F r e', Ste K L H σ e F ∧ f e = some (r, e') ∧ ∀ v H', XP K L H F σ e e' r v H' → Q v H'
section
variable {K : PySem.W.Frag} {L : List Addr} {H H' H1 H2 : Hp} {F F' F1 F2 G G1 G2 : List Addr} {σ : L2.St} {e e' e1 e2 : Slots} {r : RV} {v : V}
theorem Ste.mutAt (S : Ste K L H σ e F) : MutAt H F := fun a ha => by
  obtain ⟨F0, h, p⟩ := S.er
  exact h.mutAt a (p.mem_iff.mpr ha)
theorem XPw.dj (S : Ste K L H σ e F) (X : XPw K L H F σ e e' H' G F') : ∀ a ∈ G ++ F', a ∉ L := fun a ha z => by
  rcases X.new a ha with q | q
  · exact S.dj a q z
  · obtain ⟨o, h⟩ := S.lt a z; rw [q] at h; cases h
theorem XPw.ste (S : Ste K L H σ e F) (X : XPw K L H F σ e e' H' G F') : Ste K L H' σ e' F' where
  er := X.er
  nd := (List.nodup_append.mp X.nd).2.1
  dj := fun a ha => X.dj S a (List.mem_append_right _ ha)
  lt := fun a ha => by
    obtain ⟨o, h⟩ := S.lt a ha
    exact ⟨o, X.frm a o h fun z => S.dj a z ha⟩
theorem Hold.frm (h : Hold K L H σ r v G) (f : Frm F H H') (mu : MutAt H F) (d : ∀ a ∈ F, a ∉ G) (dl : ∀ a ∈ F, a ∉ L) : Hold K L H' σ r v G := by
  cases r with
  | ow m => exact Rep.frm h f mu d dl
  | al k => exact h
/-- one part is reckoned, then another one -/
theorem XPw.tr (S : Ste K L H σ e F) (A : XPw K L H F σ e e1 H1 G1 F1) (B : XPw K L H1 F1 σ e1 e2 H2 G2 F2) : XPw K L H F σ e e2 H2 (G1 ++ G2) F2 where
  er := B.er
  nd := by
    have hA := List.nodup_append.mp A.nd
    have hB := B.nd
    rw [List.append_assoc]
    refine List.nodup_append.mpr ⟨hA.1, hB, fun a ha b hb z => ?_⟩
    subst z
    rcases B.new a hb with q | q
    · exact hA.2.2 a ha a q rfl
    · have := A.mu a ha
      rw [q] at this
      exact this
  new := fun a ha => by
    rw [List.append_assoc] at ha
    rcases List.mem_append.mp ha with z | z
    · exact A.new a (List.mem_append_left _ z)
    · rcases B.new a z with q | q
      · exact A.new a (List.mem_append_right _ q)
      · by_cases hf : a ∈ F
        · exact .inl hf
        · cases hH : H a with
          | none => exact .inr rfl
          | some o => rw [A.frm a o hH hf] at q; cases q
  frm := A.frm.tr B.frm fun a ha => A.new a (List.mem_append_right _ ha)
  mu := fun a ha => by
    rcases List.mem_append.mp ha with z | z
    · have h1 := A.mu a z
      cases q : H1 a with
      | none => rw [q] at h1; exact h1.elim
      | some o =>
        rw [B.frm a o q fun zz => (List.nodup_append.mp A.nd).2.2 a z a zz rfl, ← q]
        exact h1
    · exact B.mu a z
  sh := fun j m h q => A.sh j m (B.sh j m h q) q
/-- what is held from the first part, behind the second -/
theorem XPw.keep (S : Ste K L H σ e F) (A : XPw K L H F σ e e1 H1 G1 F1) (B : XPw K L H1 F1 σ e1 e2 H2 G2 F2) (h : Hold K L H1 σ r v G1) : Hold K L H2 σ r v G1 :=
  h.frm B.frm (A.ste S).mutAt (fun a ha z => (List.nodup_append.mp A.nd).2.2 a z a ha rfl) (A.ste S).dj
theorem Hold.read {m : M} (h : Hold K L H σ r v G) (er : ∃ F0, EnvR K L H σ e F0 ∧ F0.Perm F) (hv : val r e = some m) : RepR K H v m := by
  cases r with
  | ow m' => cases hv; exact Rep.read h
  | al k =>
    obtain ⟨F0, er, _⟩ := er
    obtain ⟨_, hk⟩ := h
    simp only [val] at hv
    split at hv
    · rename_i xs hs
      cases hv
      obtain ⟨v', G', F', h1, h2, _⟩ := er.at hs
      rw [hk] at h1; cases h1
      show RepR K H v (.sh xs)
      exact Rep.read h2
    · rename_i m' _ hs
      cases hv
      obtain ⟨v', G', F', h1, h2, _⟩ := er.at hs
      rw [hk] at h1; cases h1
      exact Rep.read h2
    · cases hv
/-- the end: a value of its own -/
theorem XPw.fin {m : M} {G3 : List Addr} {H3 : Hp} (S : Ste K L H σ e F) (A : XPw K L H F σ e e1 H1 G1 F1) (f : Frm [] H1 H3) (n : ∀ a ∈ G3, H1 a = none) (h : Rep K L H3 v m G3) : XP K L H F σ e e1 (.ow m) v H3 := by
  refine ⟨G3, F1, ⟨?_, ?_, ?_, ?_, h.mutAt, A.sh⟩, h⟩
  · obtain ⟨F0, er, p⟩ := A.er
    exact ⟨F0, er.frm f (fun a ha => by cases ha) (fun a ha => by cases ha) (fun a ha => by cases ha), p⟩
  · refine List.nodup_append.mpr ⟨h.nodup, (List.nodup_append.mp A.nd).2.1, fun a ha b hb z => ?_⟩
    subst z
    have := (A.ste S).mutAt a hb
    rw [n a ha] at this
    exact this
  · intro a ha
    rcases List.mem_append.mp ha with z | z
    · have q := n a z
      by_cases hf : a ∈ F
      · exact .inl hf
      · cases hH : H a with
        | none => exact .inr rfl
        | some o => rw [A.frm a o hH hf] at q; cases q
    · exact A.new a (List.mem_append_right _ z)
  · exact A.frm.tr (f.mono (G := F1) fun a ha => by cases ha) fun a ha => A.new a (List.mem_append_right _ ha)
/-- nothing was reckoned -/
theorem Ste.xpw (S : Ste K L H σ e F) : XPw K L H F σ e e H [] F := ⟨S.er, by simpa using S.nd, fun a ha => .inl (by simpa using ha), Frm.refl, (fun a ha => by cases ha), fun _ _ h _ => h⟩
end

/-! ## operators by values -/
def P2ok (K : PySem.W.Frag) (r : R2) (p : M → M → Option M) : Prop :=
  ∀ (L : List Addr) (H : Hp) (v1 v2 : V) (m1 m2 m : M) (Q : VK), RepR K H v1 m1 → RepR K H v2 m2 → p m1 m2 = some m → (∀ v H' G, Rep K L H' v m G → (∀ a ∈ G, H a = none) → Frm [] H H' → Q v H') → r v1 v2 H Q
def P1ok (K : PySem.W.Frag) (r : V → Hp → VK → Prop) (p : M → Option M) : Prop :=
  ∀ (L : List Addr) (H : Hp) (v1 : V) (m1 m : M) (Q : VK), RepR K H v1 m1 → p m1 = some m → (∀ v H' G, Rep K L H' v m G → (∀ a ∈ G, H a = none) → Frm [] H H' → Q v H') → r v1 H Q
section
variable {K : PySem.W.Frag} {fa fb : Slots → Option (RV × Slots)} {σ : L2.St} {H : Hp} {Q : VK}
def fBin (p : M → M → Option M) (fa fb : Slots → Option (RV × Slots)) (e : Slots) : Option (RV × Slots) :=
  (fa e).bind fun ra => (fb ra.2).bind fun rb => (val ra.1 rb.2).bind fun ma => (val rb.1 rb.2).bind fun mb => (p ma mb).map fun m => (.ow m, rb.2)
theorem t_bin {r : R2} {p : M → M → Option M} (ok : P2ok K r p) (h : tE K (fBin p fa fb) σ H Q) : tOp r (tE K fa) (tE K fb) σ H Q := by
  obtain ⟨L, e, F, rr, e', S, he, q⟩ := h
  unfold fBin at he
  simp only [Option.bind_eq_some_iff, Option.map_eq_some_iff, Prod.exists] at he
  obtain ⟨ra, e1, h1, rb, e2, h2, ma, h3, mb, h4, m, h5, h6⟩ := he
  cases h6
  refine ⟨L, e, F, ra, e1, S, h1, fun va H1 ⟨G1, F1, A, hA⟩ => ?_⟩
  refine ⟨L, e1, F1, rb, _, A.ste S, h2, fun vb H2 ⟨G2, F2, B, hB⟩ => ?_⟩
  have W := A.tr S B
  exact ok L H2 va vb ma mb m Q ((A.keep S B hA).read W.er h3) (hB.read W.er h4) h5 fun v H3 G3 hr hn hf => q v H3 (W.fin S hf hn hr)
def fUn (p : M → Option M) (fa : Slots → Option (RV × Slots)) (e : Slots) : Option (RV × Slots) :=
  (fa e).bind fun ra => (val ra.1 ra.2).bind fun ma => (p ma).map fun m => (.ow m, ra.2)
theorem t_un {r : V → Hp → VK → Prop} {p : M → Option M} (ok : P1ok K r p) (h : tE K (fUn p fa) σ H Q) : tE K fa σ H fun x H1 => r x H1 Q := by
  obtain ⟨L, e, F, rr, e', S, he, q⟩ := h
  unfold fUn at he
  simp only [Option.bind_eq_some_iff, Option.map_eq_some_iff, Prod.exists] at he
  obtain ⟨ra, e1, h1, ma, h3, m, h5, h6⟩ := he
  cases h6
  refine ⟨L, e, F, ra, _, S, h1, fun va H1 ⟨G1, F1, A, hA⟩ => ?_⟩
  exact ok L H1 va ma m Q (hA.read A.er h3) h5 fun v H3 G3 hr hn hf => q v H3 (A.fin S hf hn hr)
end

/-! ## tuple * int, the remaining ones; xs += t -/
section
theorem tuple_mul1W (l : Addr) (items : Array Value) (n : Nat) (dd : Option Addr) (sl : Array (Option Value)) (x : Int) (u : Tok) (c0 : (decide (x < -(2 ^ 63)) || decide (x ≥ 2 ^ 63)) = false) (c1 : (items.isEmpty || x == 1) = true) :
    Meets (Builtin.«tuple.__mul__» ⟨[.ref l, .int x u], []⟩) (fun _ R s => s.heap.get? l = some { cls := .type "tuple", dict := dd, data := .seq items n, slots := sl } ∧ R (.ok (.ret (Value.ref l))) s) :=
  .of_wp fun prog w A R s h => by
    obtain ⟨hp, g, d, tk, os⟩ := s
    obtain ⟨hl, h⟩ := h
    have f1 := AutoSeq1.idx_int
    wp_walk using wpAny_loadPart' hl
    repeat (first
      | (refine wpAny_ite_false (decide_eq_false (by rw [c0]; exact Bool.false_ne_true)) ?_; wp_walk using wpAny_loadPart' hl)
      | (refine wpAny_ite_true (decide_eq_true c1) ?_; wp_walk using wpAny_loadPart' hl))
    exact ⟨_, rfl, h⟩
theorem tuple_mul0W (l : Addr) (items : Array Value) (n : Nat) (dd : Option Addr) (sl : Array (Option Value)) (x : Int) (u : Tok) (c0 : (decide (x < -(2 ^ 63)) || decide (x ≥ 2 ^ 63)) = false) (c1 : (items.isEmpty || x == 1) = false) (c2 : (decide (x ≤ 0) || items.isEmpty) = true) :
    Meets (Builtin.«tuple.__mul__» ⟨[.ref l, .int x u], []⟩) (fun _ R s => s.heap.get? l = some { cls := .type "tuple", dict := dd, data := .seq items n, slots := sl } ∧
      R (.ok (.ret (Value.ref s.heap.objs.size))) { s with heap := s.heap.push { cls := Value.type "tuple", data := Data.seq #[] }, toks := s.toks }) :=
  .of_wp fun prog w A R s h => by
    obtain ⟨hp, g, d, tk, os⟩ := s
    obtain ⟨hl, h⟩ := h
    have f1 := AutoSeq1.idx_int
    wp_walk using wpAny_loadPart' hl
    repeat (first
      | (refine wpAny_ite_false (decide_eq_false (by rw [c0]; exact Bool.false_ne_true)) ?_; wp_walk using wpAny_loadPart' hl)
      | (refine wpAny_ite_false (decide_eq_false (by rw [c1]; exact Bool.false_ne_true)) ?_; wp_walk using wpAny_loadPart' hl)
      | (refine wpAny_ite_true (decide_eq_true c2) ?_; wp_walk using wpAny_loadPart' hl))
    exact ⟨_, rfl, h⟩

def rRep1 (K : PySem.W.Frag) : R2 := fun x y H Q => ∃ l k xs, x = .ref l ∧ y = .int k ∧ SqT K H l xs ∧ (xs = [] ∨ k = 1) ∧ -(2 ^ 63) ≤ k ∧ k < 2 ^ 63 ∧ Q (.ref l) H
def rRep0 (K : PySem.W.Frag) : R2 := fun x y H Q => ∃ l k xs, x = .ref l ∧ y = .int k ∧ SqT K H l xs ∧ xs ≠ [] ∧ -(2 ^ 63) ≤ k ∧ k ≤ 0 ∧ ∀ p, H p = none → Q (.ref p) (upd H p (.tup []))
theorem op_rep1 {X : Cx} : OpR X (binaryOp .Mult) (rRep1 X.K) := by
  intro pins s σ H x y v u Q I rx ry h
  obtain ⟨l, k, xs, rfl, rfl, hT, hk, k1, k2, q⟩ := h
  cases rx
  obtain ⟨t, rfl⟩ := ry
  obtain ⟨its, r, ⟨⟨cls, dd, data, sl⟩, ho, hc, n, hd⟩, hs⟩ := I.tuple hT
  simp only at hc hd
  subst hc hd
  have hle : its.length = xs.length := r.length.symm
  have c0 : (decide (k < -(2 ^ 63)) || decide (k ≥ 2 ^ 63)) = false := by
    rw [decide_eq_false (by omega), decide_eq_false (by omega)] <;> rfl
  have c1 : (its.toArray.isEmpty || k == 1) = true := by
    rcases hk with e | e
    · rw [e] at hle
      rw [List.eq_nil_of_length_eq_zero hle]; rfl
    · rw [e]; simp
  exact wpAny_binaryOp_repeat_ref (T := "tuple") (U := "int") (by decide) ⟨_, ho, rfl⟩ (fun s' => typeIs_int s' k t) noFill_tuple_mul F.fills_int_mul F.slot_int_rmul repeat_tuple F.slot_int_index.lookup
    (call_meets F.slot_int_rmul (typeIs_int s k t) F.entry_int_rmul (F.args_int_rmul_2 _ _) (int_rmul_tuple k t l its.toArray n dd sl)
      ⟨ho, rfl, ⟨_, ho, rfl⟩, call_meets F.slot_tuple_mul ⟨_, ho, rfl⟩ F.entry_tuple_mul (F.args_tuple_mul_2 _ _) (tuple_mul1W l its.toArray n dd sl k t c0 c1) ⟨ho, .ref l, H, I, rfl, q⟩⟩)
theorem op_rep0 {X : Cx} : OpR X (binaryOp .Mult) (rRep0 X.K) := by
  intro pins s σ H x y v u Q I rx ry h
  obtain ⟨l, k, xs, rfl, rfl, hT, hne, k1, k2, q⟩ := h
  cases rx
  obtain ⟨t, rfl⟩ := ry
  obtain ⟨its, r, ⟨⟨cls, dd, data, sl⟩, ho, hc, n, hd⟩, hs⟩ := I.tuple hT
  simp only at hc hd
  subst hc hd
  have hle : its.length = xs.length := r.length.symm
  have c0 : (decide (k < -(2 ^ 63)) || decide (k ≥ 2 ^ 63)) = false := by
    rw [decide_eq_false (by omega), decide_eq_false (by omega)] <;> rfl
  have hi : its.toArray.isEmpty = false := by
    cases its with
    | nil => exact absurd (List.eq_nil_of_length_eq_zero hle.symm) hne
    | cons a b => rfl
  have c1 : (its.toArray.isEmpty || k == 1) = false := by
    rw [hi, Bool.false_or]
    exact beq_eq_false_iff_ne.mpr (by omega)
  have c2 : (decide (k ≤ 0) || its.toArray.isEmpty) = true := by
    rw [decide_eq_true k2]; rfl
  refine wpAny_binaryOp_repeat_ref (T := "tuple") (U := "int") (by decide) ⟨_, ho, rfl⟩ (fun s' => typeIs_int s' k t) noFill_tuple_mul F.fills_int_mul F.slot_int_rmul repeat_tuple F.slot_int_index.lookup
    (call_meets F.slot_int_rmul (typeIs_int s k t) F.entry_int_rmul (F.args_int_rmul_2 _ _) (int_rmul_tuple k t l its.toArray n dd sl)
      ⟨ho, rfl, ⟨_, ho, rfl⟩, call_meets F.slot_tuple_mul ⟨_, ho, rfl⟩ F.entry_tuple_mul (F.args_tuple_mul_2 _ _) (tuple_mul0W l its.toArray n dd sl k t c0 c1 c2) ⟨ho, ?_⟩⟩)
  refine ⟨.ref s.heap.objs.size, _, I.laid (t' := s.toks) (o := .tup []) (fun b ob q => Heap.get?_push_of_some _ q) (Nat.le_refl _) ?_, rfl, q _ (I.hok.fresh (Nat.le_refl _))⟩
  exact ⟨by rw [sizeLine_eq]; decide, [], .nil, IsTup.new _ _⟩
theorem list_iadd_tuple (l : Addr) (items : Array Value) (n : Nat) (b : Addr) (items2 : Array Value) (n2 : Nat) (dd : Option Addr) (sl : Array (Option Value)) (hs0 : ¬(!items.isEmpty && Builtin.List.listTooLong (items.size + items2.size)) = true) (hs1 : items.size ≤ sizeLine) (hs2 : items.size + items2.size ≤ sizeLine + 1 := by seq_fits) :
    Meets (Builtin.«list.__iadd__» ⟨[.ref l, .ref b], []⟩) (fun _ R s => s.heap.get? l = some { cls := .type "list", dict := none, data := .seq items n, slots := #[] } ∧ s.heap.get? b = some { cls := .type "tuple", dict := dd, data := .seq items2 n2, slots := sl } ∧ R (.ok (.ret (Value.ref l))) { s with heap := s.heap.update l (Obj.mapSeq fun x => x ++ items2), toks := s.toks }) :=
  .of_wp fun prog w A R s h => by
    obtain ⟨hp, g, d, tk, os⟩ := s; obtain ⟨hl, hb, h⟩ := h; have f1 := AutoSeq1.idx_int; have f2 := AutoSeq1.sub_tuple_tuple; have f3 := AutoSeq1.sub_list_list; have f4 := AutoSeq1.sub_tuple_list; have f5 := AutoSeq1.sub_list_tuple;
    have hz' : (items ++ items2).size ≤ sizeLine + 1 := by rw [Array.size_append]; exact hs2
    wp_walk using (wpAny_updateSeq hl rfl (hz := hs1) (_hz' := hz')), wpAny_loadPart' hl, wpAny_loadPart' hb; exact ⟨_, rfl, h⟩
theorem iadd_roadT {M : Model} {A : Around} {E : Value → Shared → Prop} {s : Shared} {a b : Value} {Q : Value → Shared → Prop} (ha : s.TypeIs a "list") (hb : s.TypeIs b "tuple") (hc : wpAny M A (call (.builtin "list.__iadd__") [a, b]) Q E s) : wpAny M A (inplaceOp .Add a b) Q E s := by
  have hsl : typeLookup (.type "list") (dunderI "add") = pure (some (.builtin "list.__iadd__")) := PySem.F.slot_list_iadd.lookup
  have hsq : isSeqSlot (some (.builtin "list.__iadd__")) = true := by decide +kernel
  have hfi : fillsInplaceSlot (.type "list") "add" (Operator.Add == .Add) = pure false := by
    unfold fillsInplaceSlot
    show (typeLookup (.type "list") (dunderI "add") >>= fun fi => pure (fi.isSome && !isSeqSlot fi)) = pure false
    rw [hsl]
    show (pure (true && !isSeqSlot (some (.builtin "list.__iadd__"))) : Sem Bool) = pure false
    rw [hsq] <;> rfl
  have hsi : seqSlot? (.type "list") (dunderI "add") = pure (some (.builtin "list.__iadd__")) := PySem.seqSlot_of hsl hsq
  unfold inplaceOp
  refine wpAny_holding ?_
  refine wpAny_bind (wpAny_typeOf ha (wpAny_bind (wpAny_of_eq hfi ?_)))
  show wpAny M A (if false = true then _ else _) Q E s
  rw [if_neg Bool.false_ne_true]
  refine wpAny_bind ?_
  simp only [binaryOp1]
  have hn : (Value.type "tuple" == Value.type "list") = false := by decide +kernel
  refine wpAny_bind (wpAny_typeOf ha (wpAny_bind (wpAny_typeOf hb (wpAny_bind (wpAny_of_eq noFill_list_add ?_)))))
  rw [show (Value.type "list" == Value.type "tuple") = false by decide +kernel]
  refine wpAny_bind (wpAny_of_eq (show (if false = true then pure false else fillsNumberSlot (Value.type "tuple") Operator.Add.info.2) = pure false from noFill_tuple_add) ?_)
  simp only [Bool.false_and, Bool.and_false, Bool.false_eq_true, if_false, pure_bind]
  refine wpAny_pure ?_
  refine wpAny_bind (wpAny_of_eq hsi ?_)
  exact wpAny_bind (wpAny_rule hc)
def rExtT (K : PySem.W.Frag) : R2 := fun x y H Q => ∃ l b xs zs, x = .ref l ∧ y = .ref b ∧ H l = some (.lst xs) ∧ SqT K H b zs ∧ xs.length + zs.length ≤ sizeLine ∧ Q (.ref l) (upd H l (.lst (xs ++ zs)))
theorem iop_extT {X : Cx} : OpR X (inplaceOp .Add) (rExtT X.K) := by
  intro pins s σ H x y v u Q I rx ry h
  obtain ⟨l, b, xs, zs, rfl, rfl, hH, hB, hz, q⟩ := h
  cases rx
  cases ry
  obtain ⟨z, its, n, r, hl, e⟩ := I.lstM hH
  obtain ⟨its2, r2, ⟨⟨cls, dd, data, sl⟩, ho, hc, n2, hd⟩, hs⟩ := I.tuple hB
  simp only at hc hd
  subst hc hd
  have hl2 : its2.length = zs.length := r2.length.symm
  have hsz : its.toArray.size + its2.toArray.size ≤ sizeLine := by rw [List.size_toArray, List.size_toArray]; omega
  have hlong : ¬ (!its.toArray.isEmpty && Builtin.List.listTooLong (its.toArray.size + its2.toArray.size)) = true := by
    rw [notLongL hsz, Bool.and_false]
    exact Bool.false_ne_true
  refine iadd_roadT ⟨_, e, rfl⟩ ⟨_, ho, rfl⟩ (call_meets PySem.F.slot_list_iadd ⟨_, e, rfl⟩ PySem.F.entry_list_iadd (PySem.F.args_list_iadd_2 _ _)
    (list_iadd_tuple l its.toArray n b its2.toArray n2 dd sl hlong (by rw [List.size_toArray]; omega) (by omega)) ⟨e, ho, ?_⟩)
  refine ⟨.ref l, _, I.lset (its' := its ++ its2) (t' := s.toks) hH e (by simp) (r.append r2) ?_, rfl, q⟩
  rw [List.length_append]
  omega
end
/-! ## rows of data -/
section
variable {K : PySem.W.Frag} {H H' : Hp} {L : List Addr}
theorem dps_len : ∀ {vs : List V} {xs : List PyData}, DpAll K H vs xs → vs.length = xs.length
  | _, _, .nil => rfl
  | _, _, .cons _ t => by simp [dps_len t]
theorem dps_app : ∀ {vs ws : List V} {xs ys : List PyData}, DpAll K H vs xs → DpAll K H ws ys → DpAll K H (vs ++ ws) (xs ++ ys)
  | _, _, _, _, .nil, b => b
  | _, _, _, _, .cons h t, b => .cons h (dps_app t b)
theorem dps_take : ∀ {vs : List V} {xs : List PyData} (n : Nat), DpAll K H vs xs → DpAll K H (vs.take n) (xs.take n)
  | _, _, 0, _ => .nil
  | _, _, _ + 1, .nil => .nil
  | _, _, n + 1, .cons h t => .cons h (dps_take n t)
theorem dps_drop : ∀ {vs : List V} {xs : List PyData} (n : Nat), DpAll K H vs xs → DpAll K H (vs.drop n) (xs.drop n)
  | _, _, 0, h => h
  | _, _, _ + 1, .nil => .nil
  | _, _, n + 1, .cons _ t => dps_drop n t
theorem dps_rev : ∀ {vs : List V} {xs : List PyData}, DpAll K H vs xs → DpAll K H vs.reverse xs.reverse
  | _, _, .nil => .nil
  | _, _, .cons h t => by
    rw [List.reverse_cons, List.reverse_cons]
    exact dps_app (dps_rev t) (.cons h .nil)
theorem dps_get : ∀ {vs : List V} {xs : List PyData} {n : Nat} {x : PyData}, DpAll K H vs xs → xs[n]? = some x → ∃ v, vs[n]? = some v ∧ Dp K H v x
  | _, _, _, _, .nil, h => by simp at h
  | _, _, 0, _, .cons h t, e => by simp at e; subst e; exact ⟨_, rfl, h⟩
  | _, _, n + 1, _, .cons h t, e => by
    obtain ⟨v, h1, h2⟩ := dps_get (n := n) t (by simpa using e)
    exact ⟨v, by simpa using h1, h2⟩
theorem dps_set : ∀ {vs : List V} {xs : List PyData} {n : Nat} {v : V} {x : PyData}, DpAll K H vs xs → Dp K H v x → DpAll K H (vs.set n v) (xs.set n x)
  | _, _, _, _, _, .nil, _ => .nil
  | _, _, 0, _, _, .cons _ t, h => .cons h t
  | _, _, n + 1, _, _, .cons h t, d => .cons h (dps_set t d)
theorem dps_last : ∀ {vs : List V} {xs : List PyData}, DpAll K H vs xs → DpAll K H vs.dropLast xs.dropLast := fun {vs xs} h => by
  rw [List.dropLast_eq_take, List.dropLast_eq_take, dps_len h]
  exact dps_take _ h
theorem dps_rep {vs : List V} {xs : List PyData} (h : DpAll K H vs xs) : ∀ n : Nat, DpAll K H (List.replicate n vs).flatten (List.replicate n xs).flatten
  | 0 => .nil
  | n + 1 => by
    rw [List.replicate_succ, List.replicate_succ, List.flatten_cons, List.flatten_cons]
    exact dps_app h (dps_rep h n)
theorem dp_int {v : V} {i : Int} (h : Dp K H v (.int i)) : v = .int i := by cases h; rfl
theorem dp_bool {v : V} {b : Bool} (h : Dp K H v (.bool b)) : v = .bl b := by cases h; rfl
theorem dps_ints : ∀ {vs : List V} {xs : List PyData} {ns : List Int}, DpAll K H vs xs → ints? xs = some ns → vs = ns.map V.int
  | _, _, _, .nil, h => by cases h; rfl
  | _, _, ns, .cons (d := d) h t, e => by
    rw [ints?] at e
    simp only [Option.bind_eq_some_iff, Option.map_eq_some_iff] at e
    obtain ⟨i, h1, ms, h2, rfl⟩ := e
    cases d <;> cases h1
    rw [dp_int h, dps_ints t h2]
    rfl
theorem dps_bools : ∀ {vs : List V} {xs : List PyData} {ns : List Bool}, DpAll K H vs xs → bools? xs = some ns → vs = ns.map V.bl
  | _, _, _, .nil, h => by cases h; rfl
  | _, _, ns, .cons (d := d) h t, e => by
    rw [bools?] at e
    simp only [Option.bind_eq_some_iff, Option.map_eq_some_iff] at e
    obtain ⟨i, h1, ms, h2, rfl⟩ := e
    cases d <;> cases h1
    rw [dp_bool h, dps_bools t h2]
    rfl
theorem dps_of_ints : ∀ ns : List Int, DpAll K H (ns.map V.int) (ns.map PyData.int)
  | [] => .nil
  | n :: ns => .cons (.int n) (dps_of_ints ns)
theorem pure_ints (ns : List Int) : pureL (ns.map PyData.int) = true := by
  rw [pureL_iff]; intro x hx
  obtain ⟨i, _, rfl⟩ := List.mem_map.mp hx
  rfl
theorem pureL_app {xs ys : List PyData} (h : pureL xs = true) (h' : pureL ys = true) : pureL (xs ++ ys) = true := by
  rw [pureL_iff] at *
  intro x hx
  rcases List.mem_append.mp hx with z | z
  · exact h x z
  · exact h' x z
theorem pureL_sub {xs ys : List PyData} (h : pureL ys = true) (s : ∀ x ∈ xs, x ∈ ys) : pureL xs = true := by
  rw [pureL_iff] at *
  exact fun x hx => h x (s x hx)
theorem pureL_get {xs : List PyData} {n : Nat} {x : PyData} (h : pureL xs = true) (e : xs[n]? = some x) : pureD x = true :=
  pureL_iff.mp h x (List.mem_of_getElem? e)
theorem pureL_rep {xs : List PyData} (h : pureL xs = true) (n : Nat) : pureL (List.replicate n xs).flatten = true := by
  rw [pureL_iff] at *
  intro x hx
  obtain ⟨l, hl, hx⟩ := List.mem_flatten.mp hx
  exact h x ((List.eq_of_mem_replicate hl) ▸ hx)
theorem newTup {p : Addr} {vs : List V} {xs : List PyData} (hp : H p = none) (h : DpAll K H vs xs) (pu : pureL xs = true) : Rep K L (upd H p (.tup vs)) (.ref p) (.d (.tuple xs)) [] :=
  ⟨rfl, .tup (.inl (.inl upd_same)) (dps_frm (Frm.new hp []) (fun a ha => by cases ha) _ _ pu h), pu⟩
theorem newLst {p : Addr} {vs : List V} {xs : List PyData} (hp : H p = none) (h : DpAll K H vs xs) (pu : pureL xs = true) : Rep K L (upd H p (.lst vs)) (.ref p) (.lst xs) [p] :=
  ⟨p, vs, rfl, rfl, upd_same, dps_frm (Frm.new hp []) (fun a ha => by cases ha) _ _ pu h, pu⟩
theorem one_new {p : Addr} (hp : H p = none) : ∀ a ∈ [p], H a = none := fun a ha => by rw [List.mem_singleton.mp ha]; exact hp
theorem no_new : ∀ a ∈ ([] : List Addr), H a = none := fun a ha => by cases ha
theorem repR_dp {v : V} {m : M} (h : RepR K H v m) : Dp K H v (data m) := by
  cases m with
  | d x => exact h.1
  | lst xs => obtain ⟨a, vs, rfl, h1, h2, _⟩ := h; exact .lst (.inl (.inl h1)) h2
  | sh xs => obtain ⟨a, vs, rfl, h1, h2, _⟩ := h; exact .lst (.inl (.inl h1)) h2
  | fz xs => obtain ⟨a, vs, rfl, h1, h2, _⟩ := h; exact .lst h1 h2
theorem repR_seq {v : V} {m : M} {xs : List PyData} (h : RepR K H v m) (e : seq? m = some xs) : ∃ a vs, v = .ref a ∧ (SqL K H a vs ∨ SqT K H a vs) ∧ DpAll K H vs xs ∧ pureL xs = true := by
  cases m with
  | d x =>
    cases x <;> cases e
    obtain ⟨h1, h2⟩ := h
    cases h1 with
    | tup hs ha => exact ⟨_, _, rfl, .inr hs, ha, h2⟩
  | lst xs => cases e; obtain ⟨a, vs, rfl, h1, h2, h3⟩ := h; exact ⟨a, vs, rfl, .inl (.inl (.inl h1)), h2, h3⟩
  | sh xs => cases e; obtain ⟨a, vs, rfl, h1, h2, h3⟩ := h; exact ⟨a, vs, rfl, .inl (.inl (.inl h1)), h2, h3⟩
  | fz xs => cases e; obtain ⟨a, vs, rfl, h1, h2, h3⟩ := h; exact ⟨a, vs, rfl, .inl h1, h2, h3⟩
theorem repR_tup {v : V} {xs : List PyData} (h : RepR K H v (.d (.tuple xs))) : ∃ a vs, v = .ref a ∧ SqT K H a vs ∧ DpAll K H vs xs ∧ pureL xs = true := by
  obtain ⟨h1, h2⟩ := h
  cases h1 with
  | tup hs ha => exact ⟨_, _, rfl, hs, ha, h2⟩
theorem repR_int {v : V} {i : Int} (h : RepR K H v (.d (.int i))) : v = .int i := dp_int h.1
theorem repR_bool {v : V} {b : Bool} (h : RepR K H v (.d (.bool b))) : v = .bl b := dp_bool h.1
theorem rep_int (i : Int) : Rep K L H (.int i) (dI i) [] := ⟨rfl, .int i, rfl⟩
theorem rep_bool (b : Bool) : Rep K L H (.bl b) (dB b) [] := ⟨rfl, .bl b, rfl⟩
theorem rep_non : Rep K L H .non (.d .none) [] := ⟨rfl, .non, rfl⟩
end

/-! ## the operators keep what p2 says -/
section
variable {K : PySem.W.Frag}
def rAll (K : PySem.W.Frag) (neg : Bool) : R2 := fun x y H Q => ∃ d ds, Dp K H x d ∧ (Dp K H y (.list ds) ∨ Dp K H y (.tuple ds)) ∧ SeqAt.shaped d = true ∧ SeqAt.shaped (.list ds) = true ∧ Q (.bl (if neg then !ds.any (fun z => PyData.eqv z d) else ds.any fun z => PyData.eqv z d)) H
theorem op_memA {X : Cx} (hu : X.A.units + 65 < cLine) : OpR X (compareOp .In) (rAll X.K false) := by
  intro pins s σ H x y v u Q I rx ry h
  obtain ⟨d, ds, hd, he, sd, se, q⟩ := h
  obtain ⟨as, r1⟩ := Dp.reads I d x v hd rx
  rcases he with he | he
  · obtain ⟨bs, r2⟩ := Dp.reads I (.list ds) y u he ry
    exact SeqAt.in_list_reads r2 r1 (SeqAt.canLay_of_shaped se) (SeqAt.canLay_of_shaped sd) (room_in_shaped sd hu) ⟨.bl _, H, I, rfl, q⟩
  · obtain ⟨bs, r2⟩ := Dp.reads I (.tuple ds) y u he ry
    exact SeqAt.in_tuple_reads r2 r1 (SeqAt.canLay_of_shaped se) (SeqAt.canLay_of_shaped sd) (room_in_shaped sd hu) ⟨.bl _, H, I, rfl, q⟩
theorem op_nmemA {X : Cx} (hu : X.A.units + 65 < cLine) : OpR X (compareOp .NotIn) (rAll X.K true) := by
  intro pins s σ H x y v u Q I rx ry h
  obtain ⟨d, ds, hd, he, sd, se, q⟩ := h
  obtain ⟨as, r1⟩ := Dp.reads I d x v hd rx
  rcases he with he | he
  · obtain ⟨bs, r2⟩ := Dp.reads I (.list ds) y u he ry
    exact SeqAt.notIn_list_reads r2 r1 (SeqAt.canLay_of_shaped se) (SeqAt.canLay_of_shaped sd) (room_in_shaped sd hu) ⟨.bl _, H, I, rfl, q⟩
  · obtain ⟨bs, r2⟩ := Dp.reads I (.tuple ds) y u he ry
    exact SeqAt.notIn_tuple_reads r2 r1 (SeqAt.canLay_of_shaped se) (SeqAt.canLay_of_shaped sd) (room_in_shaped sd hu) ⟨.bl _, H, I, rfl, q⟩
theorem ok_memA (neg : Bool) : P2ok K (rAll K neg) (pMem neg) := by
  intro L H v1 v2 m1 m2 m Q h1 h2 hp k
  simp only [pMem] at hp
  split at hp
  · rename_i ys hy
    split at hp
    · rename_i hs
      cases hp
      simp only [Bool.and_eq_true] at hs
      obtain ⟨a, vs, rfl, hq, hd, _⟩ := repR_seq h2 hy
      refine ⟨data m1, ys, repR_dp h1, ?_, hs.1, hs.2, k _ _ [] (rep_bool _) no_new Frm.refl⟩
      rcases hq with hq | hq
      · exact .inl (.lst hq hd)
      · exact .inr (.tup hq hd)
    · cases hp
  · cases hp
theorem ok_eq : P2ok K (rEqD K) (p2 .eq) := by
  intro L H v1 v2 m1 m2 m Q h1 h2 hp k
  simp only [p2, eq?] at hp
  split at hp
  · rename_i hs
    cases hp
    simp only [Bool.and_eq_true] at hs
    exact ⟨data m1, data m2, repR_dp h1, repR_dp h2, hs.1, hs.2, k _ _ [] (rep_bool _) no_new Frm.refl⟩
  · cases hp
theorem ok_ne : P2ok K (rNeD K) (p2 .ne) := by
  intro L H v1 v2 m1 m2 m Q h1 h2 hp k
  simp only [p2, eq?] at hp
  split at hp
  · rename_i hs
    cases hp
    simp only [Bool.and_eq_true] at hs
    exact ⟨data m1, data m2, repR_dp h1, repR_dp h2, hs.1, hs.2, k _ _ [] (rep_bool _) no_new Frm.refl⟩
  · cases hp
def rIx2 (K : PySem.W.Frag) : R2 := fun x y H Q => rIxL K x y H Q ∨ rIxT K x y H Q
theorem ix_any {X : Cx} : IxR X (rIx2 X.K) := IxR.or ix_list ix_tup
theorem atI_get {α : Type} {xs : List α} {i : Int} {x : α} (h : atI xs i = some x) : ∃ j, ixN xs.length i = some j ∧ xs[j]? = some x := by
  unfold atI at h
  simpa [Option.bind_eq_some_iff] using h
theorem ok_idx : P2ok K (rIx2 K) (p2 .idx) := by
  intro L H v1 v2 m1 m2 m Q h1 h2 hp k
  simp only [p2, pIdx] at hp
  split at hp
  · rename_i xs i hy
    simp only [Option.map_eq_some_iff] at hp
    obtain ⟨x, hx, rfl⟩ := hp
    obtain ⟨a, vs, rfl, hq, hd, hpu⟩ := repR_seq h1 hy
    rw [repR_int h2]
    obtain ⟨j, hj, hxj⟩ := atI_get hx
    obtain ⟨v, hv, hdv⟩ := dps_get hd hxj
    have hat : atI vs i = some v := by unfold atI; rw [dps_len hd, hj]; exact hv
    have e := k v H [] ⟨rfl, hdv, pureL_get hpu hxj⟩ no_new Frm.refl
    rcases hq with hq | hq
    · exact .inl ⟨a, vs, i, v, rfl, rfl, hq, hat, e⟩
    · exact .inr ⟨a, vs, i, v, rfl, rfl, hq, hat, e⟩
  · cases hp
theorem pI_of {f : Int → Int → Option M} {H : Hp} {v1 v2 : V} {m1 m2 m : M} (h1 : RepR K H v1 m1) (h2 : RepR K H v2 m2) (hp : pI f m1 m2 = some m) : ∃ i j, v1 = .int i ∧ v2 = .int j ∧ f i j = some m := by
  unfold pI at hp
  split at hp
  · exact ⟨_, _, repR_int h1, repR_int h2, hp⟩
  · cases hp
def rAdd3 (K : PySem.W.Frag) : R2 := fun x y H Q => rI0 (fun i j => .int (i + j)) x y H Q ∨ (rCatA K x y H Q ∨ rCat x y H Q)
theorem op_add3 {X : Cx} : OpR X (binaryOp .Add) (rAdd3 X.K) := OpR.or op_add (OpR.or op_catA op_cat)
theorem ok_add : P2ok K (rAdd3 K) (p2 .add) := by
  intro L H v1 v2 m1 m2 m Q h1 h2 hp k
  simp only [p2] at hp
  unfold pAdd at hp
  split at hp
  · cases hp
    exact .inl ⟨_, _, repR_int h1, repR_int h2, k _ _ [] (rep_int _) no_new Frm.refl⟩
  · rename_i xs ys
    split at hp
    · rename_i hz
      cases hp
      obtain ⟨a, vs, rfl, ha, hda, pa⟩ := repR_tup h1
      obtain ⟨b, ws, rfl, hb, hdb, pb⟩ := repR_tup h2
      refine .inr (.inl ⟨a, b, vs, ws, rfl, rfl, ha, hb, by rw [dps_len hda, dps_len hdb]; exact hz, fun e => ?_, fun _ e => ?_, fun _ _ p hp => ?_⟩)
      · subst e; cases hda
        exact k _ _ [] ⟨rfl, .tup hb hdb, pb⟩ no_new Frm.refl
      · subst e; cases hdb
        exact k _ _ [] ⟨rfl, by rw [List.append_nil]; exact .tup ha hda, by rw [List.append_nil]; exact pa⟩ no_new Frm.refl
      · exact k _ _ [] (newTup hp (dps_app hda hdb) (pureL_app pa pb)) no_new (Frm.new hp [])
    · cases hp
  · rename_i xs ys
    split at hp
    · rename_i hz
      cases hp
      obtain ⟨a, vs, rfl, ha, hda, pa⟩ := h1
      obtain ⟨b, ws, rfl, hb, hdb, pb⟩ := h2
      exact .inr (.inr ⟨a, b, vs, ws, rfl, rfl, ha, hb, by rw [dps_len hda, dps_len hdb]; exact hz, fun p hp => k _ _ [p] (newLst hp (dps_app hda hdb) (pureL_app pa pb)) (one_new hp) (Frm.new hp [])⟩)
    · cases hp
  · cases hp
/-- an operator on two ints -/
theorem ok_I {f : Int → Int → Option M} {c : Int → Int → Prop} {g : Int → Int → V} (h : ∀ i j m, f i j = some m → c i j ∧ ∀ L H, Rep K L H (g i j) m []) : P2ok K (rI c g) (pI f) := by
  intro L H v1 v2 m1 m2 m Q h1 h2 hp k
  obtain ⟨i, j, rfl, rfl, e⟩ := pI_of h1 h2 hp
  obtain ⟨hc, hr⟩ := h i j m e
  exact ⟨i, j, rfl, rfl, hc, k _ _ [] (hr L H) no_new Frm.refl⟩
theorem ok_I0 {f : Int → Int → Option M} {g : Int → Int → V} (h : ∀ i j m, f i j = some m → ∀ L H, Rep K L H (g i j) m []) : P2ok K (rI0 g) (pI f) := by
  intro L H v1 v2 m1 m2 m Q h1 h2 hp k
  obtain ⟨i, j, rfl, rfl, e⟩ := pI_of h1 h2 hp
  exact ⟨i, j, rfl, rfl, k _ _ [] (h i j m e L H) no_new Frm.refl⟩
theorem ok_sub : P2ok K (rI0 fun i j => .int (i - j)) (p2 .sub) := ok_I0 fun i j m h L H => by cases h; exact rep_int _
theorem ok_lt : P2ok K (rI0 fun i j => .bl (decide (i < j))) (p2 .lt) := ok_I0 fun i j m h L H => by cases h; exact rep_bool _
theorem ok_le : P2ok K (rI0 fun i j => .bl (decide (i ≤ j))) (p2 .le) := ok_I0 fun i j m h L H => by cases h; exact rep_bool _
theorem ok_gt : P2ok K (rI0 fun i j => .bl (decide (j < i))) (p2 .gt) := ok_I0 fun i j m h L H => by cases h; exact rep_bool _
theorem ok_ge : P2ok K (rI0 fun i j => .bl (decide (j ≤ i))) (p2 .ge) := ok_I0 fun i j m h L H => by cases h; exact rep_bool _
theorem ok_fdiv : P2ok K (rI CDiv fun i j => .int (i / j)) (p2 .fdiv) := ok_I fun i j m h => by
  split at h
  · rename_i hc
    cases h
    simp only [Bool.and_eq_true, decide_eq_true_eq] at hc
    exact ⟨hc, fun L H => rep_int _⟩
  · cases h
theorem ok_mod : P2ok K (rI (fun _ j => 0 < j) fun i j => .int (i % j)) (p2 .mod) := ok_I fun i j m h => by
  split at h
  · rename_i hc
    cases h
    exact ⟨hc, fun L H => rep_int _⟩
  · cases h
theorem ok_pow : P2ok K (rI CPow fun i j => .int (i ^ j.toNat)) (p2 .pow) := ok_I fun i j m h => by
  split at h
  · rename_i hc
    cases h
    simp only [Bool.and_eq_true, decide_eq_true_eq] at hc
    exact ⟨⟨hc.1.1, hc.1.2, hc.2⟩, fun L H => rep_int _⟩
  · cases h
def rMul3 (K : PySem.W.Frag) : R2 := fun x y H Q => rI CMul (fun i j => .int (i * j)) x y H Q ∨ (rRepT K x y H Q ∨ (rRep x y H Q ∨ (rRep1 K x y H Q ∨ (rRep0 K x y H Q ∨ rI CMulW (fun i j => .int (i * j)) x y H Q))))
theorem op_mul3 {X : Cx} : OpR X (binaryOp .Mult) (rMul3 X.K) := OpR.or op_mul (OpR.or op_repT (OpR.or op_rep (OpR.or op_rep1 (OpR.or op_rep0 op_mulW))))
theorem ok_mul : P2ok K (rMul3 K) (p2 .mul) := by
  intro L H v1 v2 m1 m2 m Q h1 h2 hp k
  simp only [p2] at hp
  unfold pMul at hp
  split at hp
  · split at hp
    · rename_i i j hc
      cases hp
      simp only [Bool.or_eq_true, small, Bool.and_eq_true, decide_eq_true_eq] at hc
      rcases hc with hc | hc
      · exact .inl ⟨_, _, repR_int h1, repR_int h2, hc, k _ _ [] (rep_int _) no_new Frm.refl⟩
      · exact .inr (.inr (.inr (.inr (.inr ⟨_, _, repR_int h1, repR_int h2, hc, k _ _ [] (rep_int _) no_new Frm.refl⟩))))
    · cases hp
  · split at hp
    · rename_i xs j hc
      cases hp
      simp only [Bool.and_eq_true, decide_eq_true_eq] at hc
      obtain ⟨a, vs, rfl, ha, hda, pa⟩ := repR_tup h1
      have hlen := dps_len hda
      by_cases h0 : xs = [] ∨ j = 1
      · refine .inr (.inr (.inr (.inl ⟨a, j, vs, rfl, repR_int h2, ha, ?_, by omega, by omega, ?_⟩)))
        · rcases h0 with e | e
          · subst e; exact .inl (List.eq_nil_of_length_eq_zero hlen)
          · exact .inr e
        · have e : (List.replicate j.toNat xs).flatten = xs := by
            rcases h0 with e | e
            · subst e; simp
            · subst e; simp
          rw [e] at k
          exact k _ _ [] ⟨rfl, h1⟩ no_new Frm.refl
      · have hne : vs ≠ [] := fun e => h0 (.inl (by subst e; exact List.eq_nil_of_length_eq_zero hlen.symm))
        by_cases h2' : j ≤ 0
        · have e : j.toNat = 0 := by omega
          rw [e] at k
          exact .inr (.inr (.inr (.inr (.inl ⟨a, j, vs, rfl, repR_int h2, ha, hne, by omega, h2', fun p hp => k _ _ [] (newTup hp .nil rfl) no_new (Frm.new hp [])⟩))))
        · refine .inr (.inl ⟨a, j, vs, rfl, repR_int h2, ha, hne, by omega, hc.1.2, by rw [dps_len hda]; exact hc.2, fun p hp => ?_⟩)
          exact k _ _ [] (newTup hp (dps_rep hda _) (pureL_rep pa _)) no_new (Frm.new hp [])
    · cases hp
  · split at hp
    · rename_i xs j hc
      cases hp
      simp only [Bool.and_eq_true, decide_eq_true_eq] at hc
      obtain ⟨a, vs, rfl, ha, hda, pa⟩ := h1
      refine .inr (.inr (.inl ⟨a, j, vs, rfl, repR_int h2, ha, hc.1.1, hc.1.2, by rw [dps_len hda]; exact hc.2, fun p hp => ?_⟩))
      exact k _ _ [p] (newLst hp (dps_rep hda _) (pureL_rep pa _)) (one_new hp) (Frm.new hp [])
    · cases hp
  · cases hp
end

/-! ## t[::-1] -/
section
variable {prog : Program} {w : World} {A : Around} {E : Value → Shared → Prop} {s : Shared}
theorem places_back (n : Nat) : Builtin.Slice.slicePlaces ((n : Int) - 1) (-1) (-1) = n := by
  unfold Builtin.Slice.slicePlaces
  have h1 : ¬ ((-1 : Int) > 0) := by omega
  have h2 : (-(-1 : Int)) = 1 := by omega
  simp only [h1, if_false, h2, Int.ediv_one]
  split <;> omega
theorem adjust_back (n : Nat) : Builtin.Slice.sliceAdjust none none (-1) (n : Int) = ((n : Int) - 1, -1) := by
  unfold Builtin.Slice.sliceAdjust
  have h1 : ((-1 : Int) < 0) := by omega
  simp only [h1, if_true]
theorem pick_back (xs : Array Value) : ((List.range xs.size).filterMap fun (m : Nat) => xs[((xs.size : Int) - 1 + (m : Int) * (-1)).toNat]?).toArray = xs.toList.reverse.toArray := by
  congr 1
  apply List.ext_getElem?
  intro i
  have hf : ∀ m ∈ List.range xs.size, (xs[((xs.size : Int) - 1 + (m : Int) * (-1)).toNat]?) = some (xs.toList.reverse.getD m .none) := by
    intro m hm
    have hm' : m < xs.size := List.mem_range.mp hm
    have e : ((xs.size : Int) - 1 + (m : Int) * (-1)).toNat = xs.size - 1 - m := by omega
    rw [e]
    have h1 : xs.size - 1 - m < xs.size := by omega
    rw [Array.getElem?_eq_getElem h1]
    have h2 : m < xs.toList.reverse.length := by simpa using hm'
    rw [List.getD_eq_getElem?_getD, List.getElem?_eq_getElem h2]
    simp
  have e2 : (List.range xs.size).filterMap (fun (m : Nat) => xs[((xs.size : Int) - 1 + (m : Int) * (-1)).toNat]?) = (List.range xs.size).map fun m => xs.toList.reverse.getD m .none := by
    generalize hl : List.range xs.size = l at hf
    clear hl
    induction l with
    | nil => rfl
    | cons m r ih =>
      rw [List.filterMap_cons, hf m List.mem_cons_self, List.map_cons, ih fun k hk => hf k (List.mem_cons_of_mem _ hk)]
  rw [e2, List.getElem?_map]
  by_cases hi : i < xs.size
  · rw [List.getElem?_range hi]
    have h2 : i < xs.toList.reverse.length := by simpa using hi
    simp [List.getD_eq_getElem?_getD, List.getElem?_eq_getElem h2]
  · rw [List.getElem?_eq_none (by simpa using hi), List.getElem?_eq_none (by simpa using hi)]
    rfl
theorem applied_back {sl : Addr} {vs : Value} {n : Nat} {Q : Int × Int × Nat → Shared → Prop} (hs : s.heap.IsSliceOf sl .none .none vs) (ps : IsPart vs (some (-1)))
    (h : Q ((n : Int) - 1, -1, n) s) : wpAny (model prog w) A (Builtin.Slice.sliceApplied (.ref sl) (pure (n : Int))) Q E s := by
  obtain ⟨os, hos, hcs, hds⟩ := id hs
  unfold Builtin.Slice.sliceApplied Builtin.Slice.sliceFields
  refine wpAny_bind (wpAny_bind (wpAny_field hos hds (x := .none) rfl (wpAny_bind (wpAny_field hos hds (x := .none) rfl (wpAny_bind (wpAny_field hos hds (x := vs) rfl (wpAny_pure ?_)))))))
  refine wpAny_bind (HT.slicePart_ ps ?_)
  show wpAny _ _ (if ((-1 : Int) == 0) = true then _ else _) _ _ s
  rw [if_neg (by decide)]
  refine wpAny_bind (HT.slicePart_ .none (wpAny_bind (HT.slicePart_ .none (wpAny_bind (wpAny_pure ?_)))))
  show wpAny _ _ (match Builtin.Slice.sliceAdjust none none (-1) (n : Int) with | (lo, hi) => pure (lo, (-1 : Int), Builtin.Slice.slicePlaces lo hi (-1))) _ _ s
  rw [adjust_back n]
  show wpAny _ _ (pure ((n : Int) - 1, (-1 : Int), Builtin.Slice.slicePlaces ((n : Int) - 1) (-1) (-1))) _ _ s
  rw [places_back]
  exact wpAny_pure h
theorem getItem_tup_back {t sl : Addr} {items : Array Value} {vs : Value} {Q : Value → Shared → Prop} (ht : IsTup s.heap t items) (hs : s.heap.IsSliceOf sl .none .none vs) (ps : IsPart vs (some (-1)))
    (h : Q (.ref s.heap.objs.size) { s with heap := s.heap.push { cls := .type "tuple", data := .seq items.toList.reverse.toArray } })
    (hsz : items.size ≤ sizeLine) : wpAny (model prog w) A (getItem (.ref t) (.ref sl)) Q E s := by
  have htake : sizeOk (.seq items.toList.reverse.toArray) := by
    show items.toList.reverse.toArray.size ≤ sizeLine
    simpa using hsz
  obtain ⟨os, hos, hcs, hds⟩ := id hs
  have hTs : s.TypeIs (.ref sl) "slice" := ⟨os, hos, hcs⟩
  unfold getItem
  try with_reducible refine wpAny_holding ?_
  first | refine wpAny_bind (wpAny_pure ?_) | skip
  refine wpAny_bind (wpAny_sequenceKey ht.typeIs (by decide) ?_)
  refine wpAny_bind (wpAny_callSpecial?_slot (name := Str.ofString "__getitem__") ht.typeIs PyProof.Rows.slot_tuple_getitem
    (wpAny_call_entry PyProof.Rows.slot_tuple_getitem ht.typeIs entry_tuple_getitem ?_ (args_tuple_getitem _ _)))
  show wpAny _ _ (Builtin.Tuple.tupleItemsOf (.ref t) >>= _) _ _ s
  refine wpAny_bind (PyProof.Rows.tupleItemsOf_ ht ?_)
  refine wpAny_bind (wpAny_typeOf hTs ?_)
  rw [if_pos (by decide)]
  refine wpAny_bind (applied_back hs ps ?_)
  have hno : ¬ ((((items.size : Int) - 1) == 0 && (-1 : Int) == 1 && items.size == items.size) = true) := by
    simp
  show wpAny _ _ (if (((items.size : Int) - 1) == 0 && (-1 : Int) == 1 && items.size == items.size) = true then _ else _) _ _ s
  rw [if_neg hno, pick_back]
  first
    | exact wpAny_bind (m := Builtin.Tuple.tupleExact _) (wpAny_newObj_type (wpAny_pure ⟨_, rfl, wpAny_pure h⟩) htake)
    | exact wpAny_bind (m := Builtin.Tuple.tupleExact _) (wpAny_newObj_type (wpAny_bind (wpAny_pure (wpAny_pure ⟨_, rfl, wpAny_pure h⟩))) htake)
end
section
variable {X : Cx}
def rBack (K : PySem.W.Frag) : V → Hp → VK → Prop := fun x H Q => (∃ a xs, x = .ref a ∧ SqL K H a xs ∧ ∀ p, H p = none → Q (.ref p) (upd H p (.lst xs.reverse))) ∨
  ∃ a xs, x = .ref a ∧ SqT K H a xs ∧ ∀ p, H p = none → Q (.ref p) (upd H p (.tup xs.reverse))
theorem pe_back {e : Expr} {te : TE} {k : Nat} {p1 p2 p3 pos : Pos} (he : PE X e te) : PE X (.Subscript e (.Slice none none (some (.UnaryOp .USub (.Constant (.int 1) k p1) p2)) p3) pos) (fun σ H Q => te σ H fun x H1 => rBack X.K x H1 Q) := by
  refine ⟨fun pins s σ H Q I h => ?_⟩
  refine Subscript_ (thn (he.run pins s σ H _ I h) fun v s1 ⟨x, H1, I1, r1, q1⟩ => ?_)
  have hst : PO X (some (.UnaryOp .USub (.Constant (.int 1) k p1) p2)) (tPart (tUn (rU fun i => .int (-i)) (tC (.int 1)))) := po_some (pe_un un_neg pe_int)
  refine wpAny_Slice (thn (po_none.run pins s1 σ H1 (fun o H2 => o = none ∧ H2 = H1) I1 ⟨rfl, rfl⟩) fun vl s2 ⟨l, H2, I2, pl, el, e2⟩ => ?_)
  subst el e2
  refine thn (po_none.run pins s2 σ H2 (fun o H3 => o = none ∧ H3 = H2) I2 ⟨rfl, rfl⟩) fun vu s3 ⟨u, H3, I3, pu, eu, e3⟩ => ?_
  subst eu e3
  refine thn (hst.run pins s3 σ H3 (fun o H4 => o = some (-1) ∧ H4 = H3) I3 ⟨1, rfl, -1, rfl, rfl, rfl⟩) fun vs s4 ⟨o, H4, I4, ps, eo, e4⟩ => ?_
  subst eo e4
  have I5 : Inv X pins σ H4 { s4 with heap := s4.heap.push { cls := .type "slice", data := .fields #[vl, vu, vs] } } := I4.kept (t' := s4.toks) fun b ob q => Heap.get?_push_of_some _ q
  rcases q1 with ⟨a, xs, ex, hx, q⟩ | ⟨a, xs, ex, hx, q⟩
  · subst ex
    cases r1
    obtain ⟨its, r, ht, hz⟩ := I5.list hx
    have hlen := r.length
    show wpAny (model X.prog X.w) X.A (subscriptTail e (.Slice none none (some (.UnaryOp .USub (.Constant (.int 1) k p1) p2)) p3) (.ref a) (.ref s4.heap.objs.size)) (EP X pins σ Q) X.xe { s4 with heap := s4.heap.push { cls := .type "slice", data := .fields #[vl, vu, vs] } }
    refine tail_any (ops := [.ref a, .ref s4.heap.objs.size]) ht.isList.typeIs (PySem.slot_list_getitem.lookup) ?_ (by with_unfolding_all rfl)
    refine wpAny_getItem_list_slice ht.isList (Heap.IsSliceOf.new _ vl vu vs) pl pu ps (by decide) ?_ (by rw [List.size_toArray]; omega)
    rw [PySem.W.krv_pick]
    refine ⟨.ref _, _, I5.laid (t' := s4.toks) (o := .lst xs.reverse) (fun b ob q => Heap.get?_push_of_some _ q) (Nat.le_refl _) ?_, rfl, q _ (I5.hok.fresh (Nat.le_refl _))⟩
    exact ⟨by rw [List.length_reverse]; exact hz, _, 0, r.reverse, Heap.get?_push_size _ rfl⟩
  · subst ex
    cases r1
    obtain ⟨its, r, ht, hz⟩ := I5.tuple hx
    have hlen := r.length
    cases pl
    cases pu
    show wpAny (model X.prog X.w) X.A (subscriptTail e (.Slice none none (some (.UnaryOp .USub (.Constant (.int 1) k p1) p2)) p3) (.ref a) (.ref s4.heap.objs.size)) (EP X pins σ Q) X.xe { s4 with heap := s4.heap.push { cls := .type "slice", data := .fields #[.none, .none, vs] } }
    refine tail_any (ops := [.ref a, .ref s4.heap.objs.size]) ht.typeIs (PyProof.Rows.slot_tuple_getitem.lookup) ?_ (by with_unfolding_all rfl)
    refine getItem_tup_back ht (Heap.IsSliceOf.new _ .none .none vs) ps ?_ (by rw [List.size_toArray]; omega)
    refine ⟨.ref _, _, I5.laid (t' := s4.toks) (o := .tup xs.reverse) (fun b ob q => Heap.get?_push_of_some _ q) (Nat.le_refl _) ?_, rfl, q _ (I5.hok.fresh (Nat.le_refl _))⟩
    exact ⟨by rw [List.length_reverse]; exact hz, _, r.reverse, IsTup.new _ _⟩
end
section
variable {K : PySem.W.Frag}
theorem ok_rev : P1ok K (rBack K) (p1 .rev) := by
  intro L H v m1 m Q h hp k
  simp only [p1] at hp
  unfold pRev at hp
  split at hp
  · cases hp
    obtain ⟨a, vs, rfl, hs, hd, pu⟩ := repR_tup h
    exact .inr ⟨a, vs, rfl, hs, fun p hp => k _ _ [] (newTup hp (dps_rev hd) (pureL_sub pu fun x hx => List.mem_reverse.mp hx)) no_new (Frm.new hp [])⟩
  · cases hp
    obtain ⟨a, vs, rfl, hs, hd, pu⟩ := h
    exact .inl ⟨a, vs, rfl, .inl (.inl hs), fun p hp => k _ _ [p] (newLst hp (dps_rev hd) (pureL_sub pu fun x hx => List.mem_reverse.mp hx)) (one_new hp) (Frm.new hp [])⟩
  · cases hp
end

/-! ## one value -/
section
variable {K : PySem.W.Frag} {H : Hp}
theorem pD_of {f : PyData → Option M} {v : V} {m1 m : M} (h : RepR K H v m1) (hp : pD f m1 = some m) : ∃ x, Dp K H v x ∧ pureD x = true ∧ f x = some m := by
  unfold pD at hp
  split at hp
  · exact ⟨_, h.1, h.2, hp⟩
  · cases hp
theorem pL_of {f : List PyData → Option M} {v : V} {m1 m : M} (h : RepR K H v m1) (hp : pL f m1 = some m) : ∃ xs a vs, v = .ref a ∧ H a = some (.lst vs) ∧ DpAll K H vs xs ∧ pureL xs = true ∧ f xs = some m := by
  unfold pL at hp
  split at hp
  · obtain ⟨a, vs, h1, h2, h3, h4⟩ := h
    exact ⟨_, a, vs, h1, h2, h3, h4, hp⟩
  · cases hp
theorem pint_of {f : Int → M} {v : V} {m1 m : M} (h : RepR K H v m1) (hp : pD (fun x => (int? x).map f) m1 = some m) : ∃ i, v = .int i ∧ m = f i := by
  obtain ⟨x, hx, _, e⟩ := pD_of h hp
  cases x <;> cases e
  exact ⟨_, dp_int hx, rfl⟩
theorem pbool_of {f : Bool → M} {v : V} {m1 m : M} (h : RepR K H v m1) (hp : pD (fun x => (bool? x).map f) m1 = some m) : ∃ i, v = .bl i ∧ m = f i := by
  obtain ⟨x, hx, _, e⟩ := pD_of h hp
  cases x <;> cases e
  exact ⟨_, dp_bool hx, rfl⟩
theorem pints_of {f : List Int → Option M} {v : V} {m1 m : M} (h : RepR K H v m1) (hp : pL (fun xs => (ints? xs).bind f) m1 = some m) : ∃ a ns, v = .ref a ∧ H a = some (.lst (ns.map V.int)) ∧ f ns = some m := by
  obtain ⟨xs, a, vs, h1, h2, h3, _, e⟩ := pL_of h hp
  obtain ⟨ns, hn, e⟩ := Option.bind_eq_some_iff.mp e
  rw [dps_ints h3 hn] at h2
  exact ⟨a, ns, h1, h2, e⟩
theorem pbools_of {f : List Bool → M} {v : V} {m1 m : M} (h : RepR K H v m1) (hp : pL (fun xs => (bools? xs).map f) m1 = some m) : ∃ a ns, v = .ref a ∧ H a = some (.lst (ns.map V.bl)) ∧ m = f ns := by
  obtain ⟨xs, a, vs, h1, h2, h3, _, e⟩ := pL_of h hp
  obtain ⟨ns, hn, e⟩ := Option.map_eq_some_iff.mp e
  rw [dps_bools h3 hn] at h2
  exact ⟨a, ns, h1, h2, e.symm⟩
theorem ok_neg : P1ok K (rU fun i => .int (-i)) (p1 .neg) := fun L H v m1 m Q h hp k => by
  obtain ⟨i, rfl, rfl⟩ := pint_of h hp
  exact ⟨i, rfl, k _ _ [] (rep_int _) no_new Frm.refl⟩
theorem isnone_eq {v : V} {x : PyData} (h : Dp K H v x) : decide (v = .non) = isNoneD x := by
  cases h <;> rfl
theorem ok_isN : P1ok K (fun x H Q => Q (.bl (decide (x = .non))) H) (p1 .isN) := fun L H v m1 m Q h hp k => by
  obtain ⟨x, hx, _, e⟩ := pD_of h hp
  cases e
  rw [isnone_eq hx]
  exact k _ _ [] (rep_bool _) no_new Frm.refl
theorem ok_notN : P1ok K (fun x H Q => Q (.bl (!decide (x = .non))) H) (p1 .notN) := fun L H v m1 m Q h hp k => by
  obtain ⟨x, hx, _, e⟩ := pD_of h hp
  cases e
  rw [isnone_eq hx]
  exact k _ _ [] (rep_bool _) no_new Frm.refl
theorem ok_isB (b : Bool) : P1ok K (fun x H Q => rIsB x (.bl b) H Q) (p1 (.isB b)) := fun L H v m1 m Q h hp k => by
  obtain ⟨c, rfl, rfl⟩ := pbool_of h hp
  exact ⟨c, b, rfl, rfl, k _ _ [] (rep_bool _) no_new Frm.refl⟩
theorem ok_notB (b : Bool) : P1ok K (fun x H Q => rNotB x (.bl b) H Q) (p1 (.notB b)) := fun L H v m1 m Q h hp k => by
  obtain ⟨c, rfl, rfl⟩ := pbool_of h hp
  exact ⟨c, b, rfl, rfl, k _ _ [] (rep_bool _) no_new Frm.refl⟩
abbrev rLen (K : PySem.W.Frag) : List V → Hp → VK → Prop := fun xs H Q => ∃ p ys, xs = [.ref p] ∧ (SqL K H p ys ∨ SqT K H p ys) ∧ Q (.int ys.length) H
theorem ok_len : P1ok K (fun x H Q => rLen K [x] H Q) (p1 .len) := fun L H v m1 m Q h hp k => by
  simp only [p1, Option.map_eq_some_iff] at hp
  obtain ⟨xs, hs, rfl⟩ := hp
  obtain ⟨a, vs, rfl, hq, hd, _⟩ := repR_seq h hs
  refine ⟨a, vs, rfl, hq, ?_⟩
  rw [dps_len hd]
  exact k _ _ [] (rep_int _) no_new Frm.refl
abbrev rTupleOf (K : PySem.W.Frag) : List V → Hp → VK → Prop := fun xs H Q => ∃ p ys, xs = [.ref p] ∧ ((SqL K H p ys ∧ ∀ l, H l = none → Q (.ref l) (upd H l (.tup ys))) ∨ (SqT K H p ys ∧ Q (.ref p) H))
theorem ok_tuple : P1ok K (fun x H Q => rTupleOf K [x] H Q) (p1 .tuple) := fun L H v m1 m Q h hp k => by
  simp only [p1] at hp
  unfold pTuple at hp
  split at hp
  · cases hp
    obtain ⟨a, vs, rfl, hq, hd, pu⟩ := repR_tup h
    exact ⟨a, vs, rfl, .inr ⟨hq, k _ _ [] ⟨rfl, .tup hq hd, pu⟩ no_new Frm.refl⟩⟩
  · cases hp
    obtain ⟨a, vs, rfl, hq, hd, pu⟩ := h
    exact ⟨a, vs, rfl, .inl ⟨.inl (.inl hq), fun p hp => k _ _ [] (newTup hp hd pu) no_new (Frm.new hp [])⟩⟩
  · cases hp
abbrev rListOf (K : PySem.W.Frag) : List V → Hp → VK → Prop := fun xs H Q => ∃ p ys, xs = [.ref p] ∧ (SqL K H p ys ∨ SqT K H p ys) ∧ ∀ l, H l = none → Q (.ref l) (upd H l (.lst ys))
theorem ok_list : P1ok K (fun x H Q => rListOf K [x] H Q) (p1 .list) := fun L H v m1 m Q h hp k => by
  simp only [p1, Option.map_eq_some_iff] at hp
  obtain ⟨xs, hs, rfl⟩ := hp
  obtain ⟨a, vs, rfl, hq, hd, pu⟩ := repR_seq h hs
  exact ⟨a, vs, rfl, hq, fun p hp => k _ _ [p] (newLst hp hd pu) (one_new hp) (Frm.new hp [])⟩
abbrev rAbs : List V → Hp → VK → Prop := fun xs H Q => ∃ i, xs = [.int i] ∧ Q (.int (if i < 0 then -i else i)) H
theorem ok_abs : P1ok K (fun x H Q => rAbs [x] H Q) (p1 .abs) := fun L H v m1 m Q h hp k => by
  obtain ⟨i, rfl, rfl⟩ := pint_of h hp
  exact ⟨i, rfl, k _ _ [] (rep_int _) no_new Frm.refl⟩
abbrev rInt1 : List V → Hp → VK → Prop := fun xs H Q => (∃ i, xs = [.int i] ∧ Q (.int i) H) ∨ ∃ k, xs = [.bl k] ∧ Q (.int (if k then 1 else 0)) H
theorem ok_int : P1ok K (fun x H Q => rInt1 [x] H Q) (p1 .int) := fun L H v m1 m Q h hp k => by
  obtain ⟨x, hx, _, e⟩ := pD_of h hp
  cases x <;> cases e
  · rw [dp_bool hx]; exact .inr ⟨_, rfl, k _ _ [] (rep_int _) no_new Frm.refl⟩
  · rw [dp_int hx]; exact .inl ⟨_, rfl, k _ _ [] (rep_int _) no_new Frm.refl⟩
theorem ok_sum : P1ok K (fun x H Q => rSum K [x] H Q) (p1 .sum) := fun L H v m1 m Q h hp k => by
  obtain ⟨xs, a, vs, rfl, h2, h3, _, e⟩ := pL_of h hp
  obtain ⟨ns, hn, rfl⟩ := Option.map_eq_some_iff.mp e
  rw [dps_ints h3 hn] at h2
  exact ⟨a, ns, rfl, .inl (.inl h2), k _ _ [] (rep_int _) no_new Frm.refl⟩
theorem maxL_mem : ∀ (ns : List Int) (m : Int), maxL ns m = m ∨ maxL ns m ∈ ns
  | [], _ => .inl rfl
  | x :: xs, m => by
    rw [maxL]
    by_cases h : m < x
    · rw [if_pos h]
      rcases maxL_mem xs x with q | q
      · rw [q]; exact .inr List.mem_cons_self
      · exact .inr (List.mem_cons_of_mem _ q)
    · rw [if_neg h]
      rcases maxL_mem xs m with q | q
      · exact .inl q
      · exact .inr (List.mem_cons_of_mem _ q)
theorem maxL_ge : ∀ (ns : List Int) (m : Int), m ≤ maxL ns m ∧ ∀ y ∈ ns, y ≤ maxL ns m
  | [], _ => ⟨Int.le_refl _, fun _ h => by cases h⟩
  | x :: xs, m => by
    rw [maxL]
    by_cases h : m < x
    · rw [if_pos h]
      obtain ⟨h1, h2⟩ := maxL_ge xs x
      refine ⟨by omega, fun y hy => ?_⟩
      rcases List.mem_cons.mp hy with q | q
      · rw [q]; exact h1
      · exact h2 y q
    · rw [if_neg h]
      obtain ⟨h1, h2⟩ := maxL_ge xs m
      refine ⟨h1, fun y hy => ?_⟩
      rcases List.mem_cons.mp hy with q | q
      · rw [q]; omega
      · exact h2 y q
theorem minL_mem : ∀ (ns : List Int) (m : Int), minL ns m = m ∨ minL ns m ∈ ns
  | [], _ => .inl rfl
  | x :: xs, m => by
    rw [minL]
    by_cases h : x < m
    · rw [if_pos h]
      rcases minL_mem xs x with q | q
      · rw [q]; exact .inr List.mem_cons_self
      · exact .inr (List.mem_cons_of_mem _ q)
    · rw [if_neg h]
      rcases minL_mem xs m with q | q
      · exact .inl q
      · exact .inr (List.mem_cons_of_mem _ q)
theorem minL_le : ∀ (ns : List Int) (m : Int), minL ns m ≤ m ∧ ∀ y ∈ ns, minL ns m ≤ y
  | [], _ => ⟨Int.le_refl _, fun _ h => by cases h⟩
  | x :: xs, m => by
    rw [minL]
    by_cases h : x < m
    · rw [if_pos h]
      obtain ⟨h1, h2⟩ := minL_le xs x
      refine ⟨by omega, fun y hy => ?_⟩
      rcases List.mem_cons.mp hy with q | q
      · rw [q]; exact h1
      · exact h2 y q
    · rw [if_neg h]
      obtain ⟨h1, h2⟩ := minL_le xs m
      refine ⟨h1, fun y hy => ?_⟩
      rcases List.mem_cons.mp hy with q | q
      · rw [q]; omega
      · exact h2 y q
theorem ok_max : P1ok K (fun x H Q => rMax K [x] H Q) (p1 .max) := fun L H v m1 m Q h hp k => by
  obtain ⟨a, ns, rfl, h2, e⟩ := pints_of h hp
  cases ns with
  | nil => cases e
  | cons n ns =>
    cases e
    refine ⟨a, n :: ns, rfl, .inl (.inl h2), by simp, fun z hz hall => ?_⟩
    have hm := maxL_mem ns n
    have hg := maxL_ge ns n
    have h3 : maxL ns n ≤ z := by
      rcases hm with q | q
      · rw [q]; exact hall n List.mem_cons_self
      · exact hall _ (List.mem_cons_of_mem _ q)
    have h4 : z ≤ maxL ns n := by
      rcases List.mem_cons.mp hz with q | q
      · rw [q]; exact hg.1
      · exact hg.2 z q
    have e : z = maxL ns n := Int.le_antisymm h4 h3
    rw [e]
    exact k _ _ [] (rep_int _) no_new Frm.refl
theorem ok_min : P1ok K (fun x H Q => rMin K [x] H Q) (p1 .min) := fun L H v m1 m Q h hp k => by
  obtain ⟨a, ns, rfl, h2, e⟩ := pints_of h hp
  cases ns with
  | nil => cases e
  | cons n ns =>
    cases e
    refine ⟨a, n :: ns, rfl, .inl (.inl h2), by simp, fun z hz hall => ?_⟩
    have hm := minL_mem ns n
    have hg := minL_le ns n
    have h3 : z ≤ minL ns n := by
      rcases hm with q | q
      · rw [q]; exact hall n List.mem_cons_self
      · exact hall _ (List.mem_cons_of_mem _ q)
    have h4 : minL ns n ≤ z := by
      rcases List.mem_cons.mp hz with q | q
      · rw [q]; exact hg.1
      · exact hg.2 z q
    have e : z = minL ns n := Int.le_antisymm h3 h4
    rw [e]
    exact k _ _ [] (rep_int _) no_new Frm.refl
theorem ok_all : P1ok K (fun x H Q => L2.rAll K [x] H Q) (p1 .all) := fun L H v m1 m Q h hp k => by
  obtain ⟨a, bs, rfl, h2, rfl⟩ := pbools_of h hp
  exact ⟨a, bs, rfl, .inl (.inl h2), k _ _ [] (rep_bool _) no_new Frm.refl⟩
theorem ok_any : P1ok K (fun x H Q => L2.rAny K [x] H Q) (p1 .any) := fun L H v m1 m Q h hp k => by
  obtain ⟨a, bs, rfl, h2, rfl⟩ := pbools_of h hp
  exact ⟨a, bs, rfl, .inl (.inl h2), k _ _ [] (rep_bool _) no_new Frm.refl⟩
theorem sorted_one : ∀ {ns ms : List Int}, ns.Perm ms → ns.Pairwise (· ≤ ·) → ms.Pairwise (· ≤ ·) → ns = ms := fun p h1 h2 =>
  p.eq_of_pairwise (fun a b _ _ x y => Int.le_antisymm x y) h1 h2
theorem ok_sorted : P1ok K (fun x H Q => rSortedI K [x] H Q) (p1 .sorted) := fun L H v m1 m Q h hp k => by
  obtain ⟨xs, a, vs, rfl, h2, h3, _, e⟩ := pL_of h hp
  obtain ⟨ns, hn, rfl⟩ := Option.map_eq_some_iff.mp e
  rw [dps_ints h3 hn] at h2
  refine ⟨a, ns, rfl, .inl (.inl h2), fun ns' p hpm hso hp => ?_⟩
  have hs : (ns.mergeSort fun a b => decide (a ≤ b)).Pairwise (· ≤ ·) := by
    have := List.pairwise_mergeSort (le := fun a b : Int => decide (a ≤ b)) (fun a b c h1 h2 => by simp at *; omega) (fun a b => by simp; omega) ns
    exact this.imp fun h => by simpa using h
  have e : ns' = ns.mergeSort fun a b => decide (a ≤ b) := sorted_one (hpm.trans (List.mergeSort_perm ns _).symm) hso hs
  rw [e]
  exact k _ _ [p] (newLst hp (dps_of_ints _) (pure_ints _)) (one_new hp) (Frm.new hp [])
/-- isinstance(x, T) of data -/
def rIs (K : PySem.W.Frag) (T : String) : V → Hp → VK → Prop := fun x H Q => ∃ (t : String) (b : Bool), TyX K H x (.type t) ∧ PySem.W.kitOne K (.type t) (.type T) = some b ∧ Q (.bl b) H
theorem ty_tup {a : Addr} {vs : List V} (h : SqT K H a vs) : TyX K H (.ref a) (.type "tuple") := by
  rcases h with (h | ⟨o, h⟩) | ⟨o, its, n, h1, h2, _⟩
  · exact .base (.tup h)
  · exact .fTuple h
  · exact .kTuple h1 h2
theorem ty_of {v : V} {x : PyData} (h : Dp K H v x) (p : pureD x = true) : TyX K H v (.type (match x with | .none => "NoneType" | .bool _ => "bool" | .int _ => "int" | .str _ => "str" | .tuple _ => "tuple" | _ => "list")) := by
  cases h with
  | non => exact .base .non
  | bl b => exact .base (.bl b)
  | int i => exact .base (.int i)
  | str y => exact .base (.str y)
  | lst _ _ => cases p
  | tup hs _ => exact ty_tup hs
theorem is_ok {T : String} {f : PyData → Bool} (hn : PySem.W.kitOne K (.type "NoneType") (.type T) = some (f .none)) (hb : ∀ b, PySem.W.kitOne K (.type "bool") (.type T) = some (f (.bool b))) (hi : ∀ b, PySem.W.kitOne K (.type "int") (.type T) = some (f (.int b)))
    (hs : ∀ b, PySem.W.kitOne K (.type "str") (.type T) = some (f (.str b))) (ht : ∀ b, PySem.W.kitOne K (.type "tuple") (.type T) = some (f (.tuple b))) {L : List Addr} {v : V} {x : PyData} {Q : VK} (hx : Dp K H v x) (hp : pureD x = true)
    (k : ∀ v H' G, Rep K L H' v (dB (f x)) G → (∀ a ∈ G, H a = none) → Frm [] H H' → Q v H') : rIs K T v H Q := by
  have q := k (.bl (f x)) H [] (rep_bool _) no_new Frm.refl
  have ty := ty_of hx hp
  cases x with
  | none => exact ⟨_, _, ty, hn, q⟩
  | bool b => exact ⟨_, _, ty, hb b, q⟩
  | int b => exact ⟨_, _, ty, hi b, q⟩
  | str b => exact ⟨_, _, ty, hs b, q⟩
  | tuple b => exact ⟨_, _, ty, ht b, q⟩
  | list b => cases hp
  | dict b => cases hp
theorem ok_isInt : P1ok K (rIs K "int") (p1 .isInt) := fun L H v m1 m Q h hp k => by
  obtain ⟨x, hx, pu, e⟩ := pD_of h hp
  cases e
  exact is_ok (L := L) (f := isIntD) (kit_ty (show L2.kitB "NoneType" "int" = some false by decide +kernel)) (fun _ => kit_ty (show L2.kitB "bool" "int" = some true by decide +kernel)) (fun _ => kit_ty (show L2.kitB "int" "int" = some true by decide +kernel)) (fun _ => kit_ty (show L2.kitB "str" "int" = some false by decide +kernel)) (fun _ => kit_ty (show L2.kitB "tuple" "int" = some false by decide +kernel)) hx pu k
theorem ok_isBool : P1ok K (rIs K "bool") (p1 .isBool) := fun L H v m1 m Q h hp k => by
  obtain ⟨x, hx, pu, e⟩ := pD_of h hp
  cases e
  exact is_ok (L := L) (f := isBoolD) (kit_ty (show L2.kitB "NoneType" "bool" = some false by decide +kernel)) (fun _ => kit_ty (show L2.kitB "bool" "bool" = some true by decide +kernel)) (fun _ => kit_ty (show L2.kitB "int" "bool" = some false by decide +kernel)) (fun _ => kit_ty (show L2.kitB "str" "bool" = some false by decide +kernel)) (fun _ => kit_ty (show L2.kitB "tuple" "bool" = some false by decide +kernel)) hx pu k
theorem ok_isStr : P1ok K (rIs K "str") (p1 .isStr) := fun L H v m1 m Q h hp k => by
  obtain ⟨x, hx, pu, e⟩ := pD_of h hp
  cases e
  exact is_ok (L := L) (f := isStrD) (kit_ty (show L2.kitB "NoneType" "str" = some false by decide +kernel)) (fun _ => kit_ty (show L2.kitB "bool" "str" = some false by decide +kernel)) (fun _ => kit_ty (show L2.kitB "int" "str" = some false by decide +kernel)) (fun _ => kit_ty (show L2.kitB "str" "str" = some true by decide +kernel)) (fun _ => kit_ty (show L2.kitB "tuple" "str" = some false by decide +kernel)) hx pu k
theorem ok_isTuple : P1ok K (rIs K "tuple") (p1 .isTuple) := fun L H v m1 m Q h hp k => by
  simp only [p1] at hp
  unfold pIsTuple at hp
  split at hp
  · cases hp
    exact is_ok (L := L) (f := isTupD) (kit_ty (show L2.kitB "NoneType" "tuple" = some false by decide +kernel)) (fun _ => kit_ty (show L2.kitB "bool" "tuple" = some false by decide +kernel)) (fun _ => kit_ty (show L2.kitB "int" "tuple" = some false by decide +kernel)) (fun _ => kit_ty (show L2.kitB "str" "tuple" = some false by decide +kernel)) (fun _ => kit_ty (show L2.kitB "tuple" "tuple" = some true by decide +kernel)) h.1 h.2 k
  · cases hp
    obtain ⟨a, vs, rfl, h2, _⟩ := h
    exact ⟨"list", false, .base (.lst h2), kit_ty (by decide +kernel), k _ _ [] (rep_bool _) no_new Frm.refl⟩
  · cases hp
end

/-! ## names, tests, and, or, not -/
section
variable {K : PySem.W.Frag} {L : List Addr} {H H' H1 H2 : Hp} {F F' F1 F2 G G1 G2 : List Addr} {σ : L2.St} {e e' e1 e2 : Slots} {r : RV} {v : V} {Q : VK} {fa fb fc : Slots → Option (RV × Slots)}
def fVar (k : Nat) (e : Slots) : Option (RV × Slots) :=
  match e[k]? with
  | some (some (.d x)) => some (.ow (.d x), e)
  | some (some _) => some (.al k, e)
  | _ => none
theorem XP.of (S : Ste K L H σ e F) {m : M} (h : Rep K L H v m []) : XP K L H F σ e e (.ow m) v H := ⟨[], F, S.xpw, h⟩
theorem t_var {k : Nat} (h : tE K (fVar k) σ H Q) : tVar k σ H Q := by
  obtain ⟨L, e, F, r, e', S, he, q⟩ := h
  obtain ⟨F0, er, _⟩ := S.er
  unfold fVar at he
  split at he
  · rename_i x hx
    cases he
    obtain ⟨v, G, F', h1, h2, _⟩ := er.at hx
    have hG : G = [] := h2.1
    subst hG
    exact ⟨v, h1, q v H (XP.of S h2)⟩
  · rename_i m _ hx
    cases he
    obtain ⟨v, G, F', h1, h2, _⟩ := er.at hx
    exact ⟨v, h1, q v H ⟨[], F, S.xpw, rfl, h1⟩⟩
  · cases he
theorem t_cst {x : PyData} {v : V} (h : tE K (fun e => some (.ow (.d x), e)) σ H Q) (hd : ∀ H, Dp K H v x) (hp : pureD x = true) : tC v σ H Q := by
  obtain ⟨L, e, F, r, e', S, he, q⟩ := h
  cases he
  exact q v H (XP.of S ⟨rfl, hd H, hp⟩)
/-- a truth value -/
def tT (K : PySem.W.Frag) (f : Slots → Option (RV × Slots)) : TT := fun σ H Q =>
  ∃ L e F b e', Ste K L H σ e F ∧ f e = some (.ow (.d (.bool b)), e') ∧ ∀ H' F', XPw K L H F σ e e' H' [] F' → Q b H'
theorem XP.bl {b : Bool} (X : XP K L H F σ e e' (.ow (.d (.bool b))) v H') : v = .bl b ∧ ∃ F', XPw K L H F σ e e' H' [] F' := by
  obtain ⟨G, F', w, h⟩ := X
  have hG : G = [] := h.1
  subst hG
  exact ⟨dp_bool h.2.1, F', w⟩
theorem XP.it {b : Int} (X : XP K L H F σ e e' (.ow (.d (.int b))) v H') : v = .int b ∧ ∃ F', XPw K L H F σ e e' H' [] F' := by
  obtain ⟨G, F', w, h⟩ := X
  have hG : G = [] := h.1
  subst hG
  exact ⟨dp_int h.2.1, F', w⟩
theorem XP.pd {x : PyData} (X : XP K L H F σ e e' (.ow (.d x)) v H') : Dp K H' v x ∧ pureD x = true ∧ ∃ F', XPw K L H F σ e e' H' [] F' := by
  obtain ⟨G, F', w, h⟩ := X
  have hG : G = [] := h.1
  subst hG
  exact ⟨h.2.1, h.2.2, F', w⟩
theorem XPw.bl {b : Bool} (w : XPw K L H F σ e e' H' [] F') : XP K L H F σ e e' (.ow (.d (.bool b))) (.bl b) H' := ⟨[], F', w, rfl, .bl b, rfl⟩
theorem tr0 (S : Ste K L H σ e F) (A : XPw K L H F σ e e1 H1 [] F1) (B : XPw K L H1 F1 σ e1 e2 H2 G2 F2) : XPw K L H F σ e e2 H2 G2 F2 := A.tr S B
theorem XP.tr (S : Ste K L H σ e F) (A : XPw K L H F σ e e1 H1 [] F1) (B : XP K L H1 F1 σ e1 e2 r v H2) : XP K L H F σ e e2 r v H2 := by
  obtain ⟨G, F', w, h⟩ := B
  exact ⟨G, F', tr0 S A w, h⟩
theorem t_test {Qb : Bool → Hp → Prop} (h : tT K fa σ H Qb) : tB (tE K fa) σ H Qb := by
  obtain ⟨L, e, F, b, e', S, he, q⟩ := h
  refine ⟨L, e, F, _, e', S, he, fun v H' X => ?_⟩
  obtain ⟨rfl, F', w⟩ := X.bl
  exact ⟨b, rfl, q H' F' w⟩
def fAnd (fa fb : Slots → Option (RV × Slots)) (e : Slots) : Option (RV × Slots) :=
  (fa e).bind fun ra => match ra.1 with
    | .ow (.d (.bool true)) => fb ra.2
    | .ow (.d (.bool false)) => some (.ow (.d (.bool false)), ra.2)
    | _ => none
def fOr (fa fb : Slots → Option (RV × Slots)) (e : Slots) : Option (RV × Slots) :=
  (fa e).bind fun ra => match ra.1 with
    | .ow (.d (.bool false)) => fb ra.2
    | .ow (.d (.bool true)) => some (.ow (.d (.bool true)), ra.2)
    | _ => none
def fNot (fa : Slots → Option (RV × Slots)) (e : Slots) : Option (RV × Slots) :=
  (fa e).bind fun ra => match ra.1 with
    | .ow (.d (.bool k)) => some (.ow (.d (.bool (!k))), ra.2)
    | _ => none
def fIte (fc fa fb : Slots → Option (RV × Slots)) (e : Slots) : Option (RV × Slots) :=
  (fc e).bind fun ra => match ra.1 with
    | .ow (.d (.bool true)) => fa ra.2
    | .ow (.d (.bool false)) => fb ra.2
    | _ => none
/-- a truth value first -/
theorem cut_bool {β : Type} {r : RV} {A B C : Option β} {z : β} (h : (match r with | .ow (.d (.bool true)) => A | .ow (.d (.bool false)) => B | _ => none) = some z) : ∃ b, r = .ow (.d (.bool b)) ∧ (if b = true then A else B) = some z := by
  split at h
  · exact ⟨true, rfl, h⟩
  · exact ⟨false, rfl, h⟩
  · cases h
theorem t_and (h : tE K (fAnd fa fb) σ H Q) : tAndV (tE K fa) (tE K fb) σ H Q := by
  obtain ⟨L, e, F, r, e', S, he, q⟩ := h
  obtain ⟨⟨ra, e1⟩, h1, h2⟩ := Option.bind_eq_some_iff.mp he
  obtain ⟨b, e0, h2⟩ := cut_bool (C := none) h2
  dsimp only at e0 h2
  subst e0
  refine ⟨L, e, F, _, e1, S, h1, fun v H1 X => ?_⟩
  obtain ⟨rfl, F1, w⟩ := X.bl
  refine ⟨b, rfl, ?_⟩
  cases b with
  | true => exact ⟨L, e1, F1, r, e', w.ste S, h2, fun v H2 Y => q v H2 (Y.tr S w)⟩
  | false => cases h2; exact q _ _ w.bl
theorem t_or (h : tE K (fOr fa fb) σ H Q) : tOrV (tE K fa) (tE K fb) σ H Q := by
  obtain ⟨L, e, F, r, e', S, he, q⟩ := h
  obtain ⟨⟨ra, e1⟩, h1, h2⟩ := Option.bind_eq_some_iff.mp he
  have h3 : ∃ b, ra = .ow (.d (.bool b)) ∧ (if b = true then some (RV.ow (.d (.bool true)), e1) else fb e1) = some (r, e') := by
    dsimp only at h2
    split at h2
    · exact ⟨false, rfl, h2⟩
    · exact ⟨true, rfl, h2⟩
    · cases h2
  obtain ⟨b, e0, h2⟩ := h3
  subst e0
  refine ⟨L, e, F, _, e1, S, h1, fun v H1 X => ?_⟩
  obtain ⟨rfl, F1, w⟩ := X.bl
  refine ⟨b, rfl, ?_⟩
  cases b with
  | true => cases h2; exact q _ _ w.bl
  | false => exact ⟨L, e1, F1, r, e', w.ste S, h2, fun v H2 Y => q v H2 (Y.tr S w)⟩
theorem fNot_of {r : RV} {e' : Slots} (he : fNot fa e = some (r, e')) : ∃ b, fa e = some (.ow (.d (.bool b)), e') ∧ r = .ow (.d (.bool (!b))) := by
  obtain ⟨⟨ra, e1⟩, h1, h2⟩ := Option.bind_eq_some_iff.mp he
  dsimp only at h2
  split at h2
  · cases h2; exact ⟨_, h1, rfl⟩
  · cases h2
theorem t_not (h : tE K (fNot fa) σ H Q) : tNotV (tE K fa) σ H Q := by
  obtain ⟨L, e, F, r, e', S, he, q⟩ := h
  obtain ⟨b, h1, rfl⟩ := fNot_of he
  refine ⟨L, e, F, _, e', S, h1, fun v H1 X => ?_⟩
  obtain ⟨rfl, F1, w⟩ := X.bl
  exact ⟨b, rfl, q _ _ w.bl⟩
theorem t_ite (h : tE K (fIte fc fa fb) σ H Q) : tIf (tT K fc) (tE K fa) (tE K fb) σ H Q := by
  obtain ⟨L, e, F, r, e', S, he, q⟩ := h
  obtain ⟨⟨ra, e1⟩, h1, h2⟩ := Option.bind_eq_some_iff.mp he
  obtain ⟨b, e0, h2⟩ := cut_bool (C := none) h2
  dsimp only at e0 h2
  subst e0
  refine ⟨L, e, F, b, e1, S, h1, fun H1 F1 w => ?_⟩
  cases b with
  | true => exact ⟨L, e1, F1, r, e', w.ste S, h2, fun v H2 Y => q v H2 (Y.tr S w)⟩
  | false => exact ⟨L, e1, F1, r, e', w.ste S, h2, fun v H2 Y => q v H2 (Y.tr S w)⟩
/-- the same as tests -/
theorem tt_and {Qb : Bool → Hp → Prop} (h : tT K (fAnd fa fb) σ H Qb) : tAnd (tT K fa) (tT K fb) σ H Qb := by
  obtain ⟨L, e, F, c, e', S, he, q⟩ := h
  obtain ⟨⟨ra, e1⟩, h1, h2⟩ := Option.bind_eq_some_iff.mp he
  obtain ⟨b, e0, h2⟩ := cut_bool (C := none) h2
  dsimp only at e0 h2
  subst e0
  refine ⟨L, e, F, b, e1, S, h1, fun H1 F1 w => ?_⟩
  cases b with
  | true => exact ⟨L, e1, F1, c, e', w.ste S, h2, fun H2 F2 Y => q H2 F2 (tr0 S w Y)⟩
  | false => cases h2; exact q _ _ w
theorem tt_or {Qb : Bool → Hp → Prop} (h : tT K (fOr fa fb) σ H Qb) : tOr (tT K fa) (tT K fb) σ H Qb := by
  obtain ⟨L, e, F, c, e', S, he, q⟩ := h
  obtain ⟨⟨ra, e1⟩, h1, h2⟩ := Option.bind_eq_some_iff.mp he
  have h3 : ∃ b, ra = .ow (.d (.bool b)) ∧ (if b = true then some (RV.ow (.d (.bool true)), e1) else fb e1) = some (.ow (.d (.bool c)), e') := by
    dsimp only at h2
    split at h2
    · exact ⟨false, rfl, h2⟩
    · exact ⟨true, rfl, h2⟩
    · cases h2
  obtain ⟨b, e0, h2⟩ := h3
  subst e0
  refine ⟨L, e, F, b, e1, S, h1, fun H1 F1 w => ?_⟩
  cases b with
  | true => cases h2; exact q _ _ w
  | false => exact ⟨L, e1, F1, c, e', w.ste S, h2, fun H2 F2 Y => q H2 F2 (tr0 S w Y)⟩
theorem tt_not {Qb : Bool → Hp → Prop} (h : tT K (fNot fa) σ H Qb) : tNot (tT K fa) σ H Qb := by
  obtain ⟨L, e, F, c, e', S, he, q⟩ := h
  obtain ⟨b, h1, h2⟩ := fNot_of he
  cases h2
  exact ⟨L, e, F, b, e', S, h1, fun H1 F1 w => q H1 F1 w⟩

/-! ## rows of arguments -/
inductive HoldL (K : PySem.W.Frag) (L : List Addr) (H : Hp) (σ : L2.St) : List RV → List V → List Addr → Prop
  | nil : HoldL K L H σ [] [] []
  | cons {r : RV} {v : V} {G : List Addr} {rs : List RV} {vs : List V} {Gs : List Addr} : Hold K L H σ r v G → HoldL K L H σ rs vs Gs → HoldL K L H σ (r :: rs) (v :: vs) (G ++ Gs)
def tL (K : PySem.W.Frag) (f : Slots → Option (List RV × Slots)) : TA := fun σ H Q =>
  ∃ L e F rs e', Ste K L H σ e F ∧ f e = some (rs, e') ∧ ∀ vs H' G F', XPw K L H F σ e e' H' G F' → HoldL K L H' σ rs vs G → Q vs H'
def fCons (fa : Slots → Option (RV × Slots)) (fr : Slots → Option (List RV × Slots)) (e : Slots) : Option (List RV × Slots) :=
  (fa e).bind fun ra => (fr ra.2).map fun rr => (ra.1 :: rr.1, rr.2)
theorem t_nil {Ql : List V → Hp → Prop} (h : tL K (fun e => some ([], e)) σ H Ql) : tNil σ H Ql := by
  obtain ⟨L, e, F, rs, e', S, he, q⟩ := h
  cases he
  exact q [] H [] F S.xpw .nil
theorem t_cons {fr : Slots → Option (List RV × Slots)} {Ql : List V → Hp → Prop} (h : tL K (fCons fa fr) σ H Ql) : tCons (tE K fa) (tL K fr) σ H Ql := by
  obtain ⟨L, e, F, rs, e', S, he, q⟩ := h
  unfold fCons at he
  simp only [Option.bind_eq_some_iff, Option.map_eq_some_iff, Prod.exists] at he
  obtain ⟨ra, e1, h1, rr, e2, h2, h3⟩ := he
  cases h3
  refine ⟨L, e, F, ra, e1, S, h1, fun va H1 ⟨G1, F1, A, hA⟩ => ?_⟩
  refine ⟨L, e1, F1, rr, _, A.ste S, h2, fun vs H2 G2 F2 B hB => ?_⟩
  exact q (va :: vs) H2 (G1 ++ G2) F2 (A.tr S B) (.cons (A.keep S B hA) hB)
theorem owD_of : ∀ {rs : List RV} {vs : List V} {G : List Addr} {xs : List PyData}, HoldL K L H σ rs vs G → owD rs = some xs → DpAll K H vs xs ∧ pureL xs = true ∧ G = []
  | _, _, _, _, .nil, h => by cases h; exact ⟨.nil, rfl, rfl⟩
  | .ow (.d x) :: rs, _, _, xs, .cons h1 h2, h => by
    rw [owD] at h
    obtain ⟨ys, hy, rfl⟩ := Option.map_eq_some_iff.mp h
    obtain ⟨a, b, rfl⟩ := owD_of h2 hy
    obtain ⟨rfl, c, d⟩ := h1
    exact ⟨.cons c a, by rw [pureL, d, b]; rfl, rfl⟩
  | .ow (.lst x) :: rs, _, _, xs, .cons h1 h2, h => by cases h
  | .ow (.sh x) :: rs, _, _, xs, .cons h1 h2, h => by cases h
  | .ow (.fz x) :: rs, _, _, xs, .cons h1 h2, h => by cases h
  | .al k :: rs, _, _, xs, .cons h1 h2, h => by cases h
def fTup (fl : Slots → Option (List RV × Slots)) (e : Slots) : Option (RV × Slots) :=
  (fl e).bind fun r => (owD r.1).bind fun xs => if xs.length ≤ sizeLine then some (.ow (.d (.tuple xs)), r.2) else none
def fLst (fl : Slots → Option (List RV × Slots)) (e : Slots) : Option (RV × Slots) :=
  (fl e).bind fun r => (owD r.1).bind fun xs => if xs.length ≤ sizeLine then some (.ow (.lst xs), r.2) else none
theorem t_tup {fl : Slots → Option (List RV × Slots)} (h : tE K (fTup fl) σ H Q) : tTup (tL K fl) σ H Q := by
  obtain ⟨L, e, F, r, e', S, he, q⟩ := h
  unfold fTup at he
  obtain ⟨⟨rs, e1⟩, h1, h2⟩ := Option.bind_eq_some_iff.mp he
  obtain ⟨xs, h3, h2⟩ := Option.bind_eq_some_iff.mp h2
  split at h2
  · rename_i hz
    cases h2
    refine ⟨L, e, F, rs, _, S, h1, fun vs H1 G F1 w hl => ?_⟩
    obtain ⟨hd, hp, rfl⟩ := owD_of hl h3
    refine ⟨by rw [dps_len hd]; exact hz, fun p hn => ?_⟩
    exact q _ _ (w.fin S (Frm.new hn []) no_new (newTup hn hd hp))
  · cases h2
theorem t_lst {fl : Slots → Option (List RV × Slots)} (h : tE K (fLst fl) σ H Q) : tLst (tL K fl) σ H Q := by
  obtain ⟨L, e, F, r, e', S, he, q⟩ := h
  unfold fLst at he
  obtain ⟨⟨rs, e1⟩, h1, h2⟩ := Option.bind_eq_some_iff.mp he
  obtain ⟨xs, h3, h2⟩ := Option.bind_eq_some_iff.mp h2
  split at h2
  · rename_i hz
    cases h2
    refine ⟨L, e, F, rs, _, S, h1, fun vs H1 G F1 w hl => ?_⟩
    obtain ⟨hd, hp, rfl⟩ := owD_of hl h3
    refine ⟨by rw [dps_len hd]; exact hz, fun p hn => ?_⟩
    exact q _ _ (w.fin S (Frm.new hn []) (one_new hn) (newLst hn hd hp))
  · cases h2
/-- slices -/
def fSl (fa : Slots → Option (RV × Slots)) (fl fh : Slots → Option (Option Int × Slots)) (e : Slots) : Option (RV × Slots) :=
  (fa e).bind fun ra => (fl ra.2).bind fun rl => (fh rl.2).bind fun rh => (val ra.1 rh.2).bind fun m => (cut? m rl.1 rh.1).map fun m => (.ow m, rh.2)
def tO (K : PySem.W.Frag) (f : Slots → Option (Option Int × Slots)) : TO := fun σ H Q =>
  ∃ L e F o e', Ste K L H σ e F ∧ f e = some (o, e') ∧ ∀ H' F', XPw K L H F σ e e' H' [] F' → Q o H'
def rCut (K : PySem.W.Frag) : V → Option Int → Option Int → Hp → VK → Prop := fun x lo hi H Q => rSlL K x lo hi H Q ∨ rSlA K x lo hi H Q
theorem sl_cut {X : Cx} : SlR X (rCut X.K) := SlR.or sl_list sl_tupA
theorem cut_all {xs : List PyData} {lo hi : Option Int} (h : HT.sIx xs.length 0 lo = 0 ∧ HT.sIx xs.length xs.length hi = xs.length) : (xs.drop (HT.sIx xs.length 0 lo)).take (HT.sIx xs.length xs.length hi - HT.sIx xs.length 0 lo) = xs := by
  rw [h.1, h.2]
  simp
theorem t_slice {fl fh : Slots → Option (Option Int × Slots)} (h : tE K (fSl fa fl fh) σ H Q) : tSl (rCut K) (tE K fa) (tO K fl) (tO K fh) σ H Q := by
  obtain ⟨L, e, F, r, e', S, he, q⟩ := h
  unfold fSl at he
  simp only [Option.bind_eq_some_iff, Option.map_eq_some_iff, Prod.exists] at he
  obtain ⟨ra, e1, h1, lo, e2, h2, hi, e3, h3, m, h4, m', h5, h6⟩ := he
  cases h6
  refine ⟨L, e, F, ra, e1, S, h1, fun va H1 ⟨G1, F1, A, hA⟩ => ?_⟩
  refine ⟨L, e1, F1, lo, e2, A.ste S, h2, fun H2 F2 B => ?_⟩
  have W := A.tr S B
  refine ⟨L, e2, F2, hi, _, W.ste S, h3, fun H3 F3 D => ?_⟩
  have Z := W.tr S D
  have hA3 : Hold K L H3 σ ra va G1 := by
    have h2 := A.keep S B hA
    have := W.keep S D (r := ra) (v := va) (by rw [List.append_nil]; exact h2)
    rw [List.append_nil] at this
    exact this
  have rr := hA3.read Z.er h4
  unfold cut? at h5
  split at h5
  · rename_i xs
    cases h5
    obtain ⟨a, vs, rfl, hs, hd, hp⟩ := repR_tup rr
    have hl := dps_len hd
    refine .inr ⟨a, vs, rfl, hs, fun hw => ?_, fun _ p hn => ?_⟩
    · rw [hl] at hw
      rw [cut_all hw] at q
      exact q _ _ (Z.fin S Frm.refl no_new ⟨rfl, .tup hs hd, hp⟩)
    · refine q _ _ (Z.fin S (Frm.new hn []) no_new ?_)
      unfold cutV
      rw [hl]
      exact newTup hn (dps_take _ (dps_drop _ hd)) (pureL_sub hp fun x hx => List.mem_of_mem_drop (List.mem_of_mem_take hx))
  · rename_i xs
    cases h5
    obtain ⟨a, vs, rfl, hs, hd, hp⟩ := rr
    have hl := dps_len hd
    refine .inl ⟨a, vs, rfl, .inl (.inl hs), fun p hn => ?_⟩
    refine q _ _ (Z.fin S (Frm.new hn []) (one_new hn) ?_)
    unfold cutV
    rw [hl]
    exact newLst hn (dps_take _ (dps_drop _ hd)) (pureL_sub hp fun x hx => List.mem_of_mem_drop (List.mem_of_mem_take hx))
  · cases h5
theorem t_noPart {Qo : Option Int → Hp → Prop} (h : tO K (fun e => some (none, e)) σ H Qo) : tNoPart σ H Qo := by
  obtain ⟨L, e, F, r, e', S, he, q⟩ := h
  cases he
  exact q H F S.xpw
def fPart (fa : Slots → Option (RV × Slots)) (e : Slots) : Option (Option Int × Slots) :=
  (fa e).bind fun r => match r.1 with
    | .ow (.d (.int i)) => some (some i, r.2)
    | _ => none
theorem t_part {Qo : Option Int → Hp → Prop} (h : tO K (fPart fa) σ H Qo) : tPart (tE K fa) σ H Qo := by
  obtain ⟨L, e, F, r, e', S, he, q⟩ := h
  unfold fPart at he
  obtain ⟨⟨ra, e1⟩, h1, h2⟩ := Option.bind_eq_some_iff.mp he
  dsimp only at h2
  split at h2
  · cases h2
    refine ⟨L, e, F, _, _, S, h1, fun v H1 X => ?_⟩
    obtain ⟨rfl, F1, w⟩ := X.it
    exact ⟨_, rfl, q _ _ w⟩
  · cases h2
end

/-! ## calls of defs -/
def clr : List Nat → Slots → Slots
  | [], e => e
  | k :: ks, e => clr ks (e.set k none)
theorem clr_set : ∀ {ks : List Nat} {e : Slots} {k : Nat} {x : Option M}, k ∉ ks → clr ks (e.set k x) = (clr ks e).set k x
  | [], _, _, _, _ => rfl
  | j :: ks, e, k, x, h => by
    have h1 : k ≠ j := fun z => h (by rw [z]; exact List.mem_cons_self)
    have h2 : k ∉ ks := fun z => h (List.mem_cons_of_mem _ z)
    rw [clr, clr, List.set_comm _ _ h1, clr_set h2]
theorem clr_len : ∀ (ks : List Nat) (e : Slots), (clr ks e).length = e.length
  | [], _ => rfl
  | k :: ks, e => by rw [clr, clr_len]; simp
theorem raws_set : ∀ {rs : List RV} {e : Slots} {k : Nat} {x : Option M}, k ∉ alK rs → raws rs (e.set k x) = raws rs e
  | [], _, _, _, _ => rfl
  | .ow m :: rs, e, k, x, h => by
    rw [raws, raws, raws_set (rs := rs) h]
    rfl
  | .al j :: rs, e, k, x, h => by
    have h1 : k ≠ j := fun z => h (by rw [z]; exact List.mem_cons_self)
    have h2 : k ∉ alK rs := fun z => h (List.mem_cons_of_mem _ z)
    rw [raws, raws, raws_set (rs := rs) h2]
    simp only [raw, List.getElem?_set_ne h1]
section
variable {K : PySem.W.Frag} {L : List Addr} {H H' H1 H2 : Hp} {σ : L2.St}
theorem perm3 {A B C D : List Addr} (h : (A ++ B).Perm (C ++ D)) (G : List Addr) : (G ++ A ++ B).Perm (G ++ C ++ D) := by
  rw [List.append_assoc, List.append_assoc]; exact h.append_left G
theorem perm_mid {A B C : List Addr} : (A ++ (B ++ C)).Perm (B ++ (A ++ C)) := by
  rw [← List.append_assoc, ← List.append_assoc]; exact List.perm_append_comm.append_right C
theorem args_split : ∀ {rs : List RV} {vs : List V} {G : List Addr} {e : Slots} {F : List Addr} {ms : List M}, EnvR K L H σ e F → HoldL K L H σ rs vs G → raws rs e = some ms → (alK rs).Nodup →
    ∃ Fa Fr, EnvR K L H (vs.map some) (ms.map some) Fa ∧ EnvR K L H σ (clr (alK rs) e) Fr ∧ (Fa ++ Fr).Perm (G ++ F)
  | [], _, _, e, F, ms, er, .nil, hr, _ => by
    cases hr
    exact ⟨[], F, .nil, er, .refl _⟩
  | .ow m :: rs, _, _, e, F, ms, er, .cons (G := G1) (Gs := G2) h1 h2, hr, hn => by
    rw [raws] at hr
    obtain ⟨m0, e0, hr⟩ := Option.bind_eq_some_iff.mp hr
    cases e0
    obtain ⟨ms2, hr2, rfl⟩ := Option.map_eq_some_iff.mp hr
    obtain ⟨Fa, Fr, a, b, p⟩ := args_split er h2 hr2 hn
    exact ⟨G1 ++ Fa, Fr, .so h1 a, b, perm3 p G1⟩
  | .al k :: rs, _, _, e, F, ms, er, .cons (G := G1) (Gs := G2) h1 h2, hr, hn => by
    obtain ⟨rfl, hk⟩ := h1
    have hn2 := List.nodup_cons.mp hn
    rw [raws] at hr
    obtain ⟨m0, e0, hr⟩ := Option.bind_eq_some_iff.mp hr
    obtain ⟨ms2, hr2, rfl⟩ := Option.map_eq_some_iff.mp hr
    have e1 : e[k]? = some (some m0) := by
      simp only [raw] at e0
      obtain ⟨y, hy, hz⟩ := Option.bind_eq_some_iff.mp e0
      rw [hy]; exact congrArg some hz
    obtain ⟨v', Gk, F1, b1, b2, b3, b4⟩ := er.at e1
    rw [hk] at b1; cases b1
    obtain ⟨Fa, Fr, a, b, p⟩ := args_split b3 h2 ((raws_set hn2.1).trans hr2) hn2.2
    refine ⟨Gk ++ Fa, Fr, .so b2 a, b, (perm3 p Gk).trans ?_⟩
    rw [List.append_assoc, List.nil_append]
    exact perm_mid.trans (List.Perm.append_left G2 b4.symm)
theorem getElem_set_self' {e : Slots} {k : Nat} {y : Option M} (h : e[k]? = some y) : e.set k y = e := by
  apply List.ext_getElem?
  intro i
  by_cases hi : k = i
  · subst hi
    rw [h, List.getElem?_set_self]
    exact (List.getElem?_eq_some_iff.mp h).1
  · rw [List.getElem?_set_ne hi]
theorem st_set_self {σ : L2.St} {k : Nat} {y : Option V} (h : σ[k]? = some y) : σ.set k y = σ := by
  apply List.ext_getElem?
  intro i
  by_cases hi : k = i
  · subst hi
    rw [h, List.getElem?_set_self]
    exact (List.getElem?_eq_some_iff.mp h).1
  · rw [List.getElem?_set_ne hi]
def isLst : M → Bool
  | .lst _ => true
  | _ => false
/-- back: the lists as they stand now -/
theorem args_join : ∀ {rs : List RV} {vs : List V} {G : List Addr} {e e2 : Slots} {Fr Fa : List Addr} {ms ms' : List M}, raws rs e = some ms → (∀ k ∈ alK rs, ∀ m, e[k]? = some (some m) → isLst m = false → ∃ v, σ[k]? = some (some v) ∧ Rep K L H v m []) →
    EnvR K L H σ (clr (alK rs) e) Fr → HoldL K L H1 σ rs vs G → EnvR K L H (vs.map some) (ms'.map some) Fa → (alK rs).Nodup → back rs ms ms' e = some e2 →
    ∃ F2 T, EnvR K L H σ e2 F2 ∧ (T ++ F2).Perm (Fa ++ Fr)
  | [], _, _, e, e2, Fr, Fa, ms, ms', hr, _, er, .nil, ea, _, hb => by
    cases hr
    cases ms' with
    | nil => cases ea; cases hb; exact ⟨Fr, [], er, .refl _⟩
    | cons m ms => cases ea
  | .ow m :: rs, _, _, e, e2, Fr, Fa, ms, ms', hr, hs, er, .cons h1 h2, ea, hn, hb => by
    rw [raws] at hr
    obtain ⟨m0, e0, hr⟩ := Option.bind_eq_some_iff.mp hr
    obtain ⟨ms2, hr2, rfl⟩ := Option.map_eq_some_iff.mp hr
    cases ms' with
    | nil => cases ea
    | cons m' ms' =>
      cases ea with
      | so r ea =>
        rename_i Ga Fa2
        have hb2 : back rs ms2 ms' e = some e2 := hb
        obtain ⟨F2, T, a, p⟩ := args_join hr2 (fun k h => hs k h) er h2 ea hn hb2
        exact ⟨F2, Ga ++ T, a, perm3 p Ga⟩
  | .al k :: rs, _, _, e, e2, Fr, Fa, ms, ms', hr, hs, er, .cons h1 h2, ea, hn, hb => by
    obtain ⟨_, hk⟩ := h1
    have hn2 := List.nodup_cons.mp hn
    rw [raws] at hr
    obtain ⟨m0, e0, hr⟩ := Option.bind_eq_some_iff.mp hr
    obtain ⟨ms2, hr2, rfl⟩ := Option.map_eq_some_iff.mp hr
    have hm0 : e[k]? = some (some m0) := by
      simp only [raw] at e0
      obtain ⟨y, hy, hz⟩ := Option.bind_eq_some_iff.mp e0
      rw [hy]; exact congrArg some hz
    have hkl : k < e.length := (List.getElem?_eq_some_iff.mp hm0).1
    have er' : EnvR K L H σ ((clr (alK rs) e).set k none) Fr := by rw [← clr_set hn2.1]; exact er
    cases ms' with
    | nil => cases ea
    | cons m' ms' =>
      cases ea with
      | so r ea =>
        rename_i Ga Fa2
        have other : isLst m0 = false → back rs ms2 ms' e = some e2 → ∃ F2 T, EnvR K L H σ e2 F2 ∧ (T ++ F2).Perm (Ga ++ Fa2 ++ Fr) := fun h0 hb2 => by
          obtain ⟨v0, hv0, hr0⟩ := hs k List.mem_cons_self m0 hm0 h0
          rw [hk] at hv0; cases hv0
          obtain ⟨F', hf, hp⟩ := er'.fill (by rw [clr_len]; exact hkl) hr0
          rw [st_set_self hk] at hf
          have he2 : (clr (alK rs) e).set k (some m0) = clr (alK rs) e := by
            rw [← clr_set (x := some m0) hn2.1, getElem_set_self' hm0]
          rw [he2] at hf
          obtain ⟨F2, T, a, p⟩ := args_join hr2 (fun j h => hs j (List.mem_cons_of_mem _ h)) hf h2 ea hn2.2 hb2
          refine ⟨F2, Ga ++ T, a, (perm3 p Ga).trans ?_⟩
          refine List.Perm.append_left _ ?_
          simpa using hp
        cases m0 with
        | d x => exact other rfl hb
        | sh x => exact other rfl hb
        | fz x => exact other rfl hb
        | lst xs =>
          cases m' with
          | d x => cases hb
          | sh x => cases hb
          | fz x => cases hb
          | lst ys =>
            have hb2 : back rs ms2 ms' (e.set k (some (.lst ys))) = some e2 := hb
            obtain ⟨F', hf, hp⟩ := er'.fill (by rw [clr_len]; exact hkl) r
            rw [st_set_self hk, ← clr_set hn2.1] at hf
            obtain ⟨F2, T, a, p⟩ := args_join (e := e.set k (some (.lst ys))) ((raws_set hn2.1).trans hr2) (fun j hj m hm hl => by
              have hkj : k ≠ j := fun z => hn2.1 (by rw [z]; exact hj)
              rw [List.getElem?_set_ne hkj] at hm
              exact hs j (List.mem_cons_of_mem _ hj) m hm hl) hf h2 ea hn2.2 hb2
            refine ⟨F2, T, a, p.trans ?_⟩
            refine (List.Perm.append_left Fa2 hp).trans ?_
            rw [List.append_assoc]
            exact perm_mid
theorem back_sh : ∀ {rs : List RV} {ms ms' : List M} {e e2 : Slots}, back rs ms ms' e = some e2 → SameSh e e2
  | [], [], [], e, e2, h => by cases h; exact fun _ _ h _ => h
  | .al k :: rs, .lst xs :: ms, .lst ys :: ms', e, e2, h => by
    have h' : back rs ms ms' (e.set k (some (.lst ys))) = some e2 := h
    intro j m hj hm
    have q := back_sh h' j m hj hm
    by_cases hkj : k = j
    · subst hkj
      by_cases hk : k < e.length
      · rw [List.getElem?_set_self hk] at q
        cases q; cases hm
      · rw [List.getElem?_eq_none (by simpa using hk)] at q; cases q
    · rw [List.getElem?_set_ne hkj] at q; exact q
  | .al k :: rs, .lst xs :: ms, .d _ :: ms', e, e2, h => by cases h
  | .al k :: rs, .lst xs :: ms, .sh _ :: ms', e, e2, h => by cases h
  | .al k :: rs, .lst xs :: ms, .fz _ :: ms', e, e2, h => by cases h
  | .al k :: rs, .d _ :: ms, _ :: ms', e, e2, h => back_sh (rs := rs) (ms := ms) (ms' := ms') h
  | .al k :: rs, .sh _ :: ms, _ :: ms', e, e2, h => back_sh (rs := rs) (ms := ms) (ms' := ms') h
  | .al k :: rs, .fz _ :: ms, _ :: ms', e, e2, h => back_sh (rs := rs) (ms := ms) (ms' := ms') h
  | .ow _ :: rs, _ :: ms, _ :: ms', e, e2, h => back_sh (rs := rs) (ms := ms) (ms' := ms') h
  | [], [], _ :: _, e, e2, h => by cases h
  | [], _ :: _, [], e, e2, h => by cases h
  | [], _ :: _, _ :: _, e, e2, h => by cases h
  | .al _ :: _, [], [], e, e2, h => by cases h
  | .al _ :: _, [], _ :: _, e, e2, h => by cases h
  | .ow _ :: _, [], [], e, e2, h => by cases h
  | .ow _ :: _, [], _ :: _, e, e2, h => by cases h
  | .al _ :: _, _ :: _, [], e, e2, h => by rename_i m ms; cases m <;> cases h
  | .ow _ :: _, _ :: _, [], e, e2, h => by cases h
/-- what a def promises: what the evaluator says -/
def spOf (K : PySem.W.Frag) (c : List M → Option (M × List M)) (np : Nat) : Sp := fun vs H Q _ =>
  vs.length = np ∧ ∃ L ms F r ms', Ste K L H (vs.map some) (ms.map some) F ∧ c ms = some (r, ms') ∧
    ∀ v H' G F', XPw K L H F (vs.map some) (ms.map some) (ms'.map some) H' G F' → Rep K L H' v r G → Q v H'
def fCall (c : List M → Option (M × List M)) (fl : Slots → Option (List RV × Slots)) (e : Slots) : Option (RV × Slots) :=
  (fl e).bind fun r => if (alK r.1).Nodup then (raws r.1 r.2).bind fun ms => (c ms).bind fun q => (back r.1 ms q.2 r.2).map fun e2 => (.ow q.1, e2) else none
theorem holdL_len : ∀ {rs : List RV} {vs : List V} {G : List Addr}, HoldL K L H σ rs vs G → rs.length = vs.length
  | _, _, _, .nil => rfl
  | _, _, _, .cons _ t => by simp [holdL_len t]
theorem holdL_al : ∀ {rs : List RV} {vs : List V} {G : List Addr} {k : Nat}, HoldL K L H σ rs vs G → k ∈ alK rs → ∃ v, σ[k]? = some (some v)
  | .ow _ :: _, _, _, k, .cons _ t, h => holdL_al t h
  | .al j :: _, _, _, k, .cons h1 t, h => by
    rcases List.mem_cons.mp h with z | z
    · subst z; exact ⟨_, h1.2⟩
    · exact holdL_al t z
theorem t_call {c : List M → Option (M × List M)} {np : Nat} {fl : Slots → Option (List RV × Slots)} {Q : VK} {E : XK} (hl : ∀ e rs e', fl e = some (rs, e') → rs.length = np) (h : tE K (fCall c fl) σ H Q) : tCall (spOf K c np) [] E (tL K fl) σ H Q := by
  obtain ⟨L, e, F, r, e', S, he, q⟩ := h
  unfold fCall at he
  obtain ⟨⟨rs, e1⟩, h1, he⟩ := Option.bind_eq_some_iff.mp he
  split at he
  · rename_i hn
    obtain ⟨ms, h2, he⟩ := Option.bind_eq_some_iff.mp he
    obtain ⟨⟨r0, ms'⟩, h3, he⟩ := Option.bind_eq_some_iff.mp he
    obtain ⟨e2, h4, he⟩ := Option.map_eq_some_iff.mp he
    cases he
    refine ⟨L, e, F, rs, e1, S, h1, fun vs H1 G F1 W hh => ?_⟩
    show spOf K c np (vs ++ []) H1 Q E
    rw [List.append_nil]
    have S1 := W.ste S
    obtain ⟨F0, er, pF⟩ := W.er
    obtain ⟨Fa, Fr, ea, eb, p⟩ := args_split er hh h2 hn
    have p1 : (Fa ++ Fr).Perm (G ++ F1) := p.trans (List.Perm.append_left G pF)
    have ndA : (Fa ++ Fr).Nodup := p1.nodup_iff.mpr W.nd
    have inA : ∀ a, a ∈ Fa → a ∈ G ++ F1 := fun a ha => p1.mem_iff.mp (List.mem_append_left _ ha)
    have inR : ∀ a, a ∈ Fr → a ∈ G ++ F1 := fun a ha => p1.mem_iff.mp (List.mem_append_right _ ha)
    have Sa : Ste K L H1 (vs.map some) (ms.map some) Fa := ⟨⟨Fa, ea, .refl _⟩, (List.nodup_append.mp ndA).1, fun a ha => W.dj S a (inA a ha), S1.lt⟩
    refine ⟨by rw [← holdL_len hh]; exact hl _ _ _ h1, L, ms, Fa, r0, ms', Sa, h3, fun v H2 Gr Fa' Y hr => ?_⟩
    obtain ⟨Fa0, ea', pa'⟩ := Y.er
    have dis : ∀ a ∈ Fa, a ∉ Fr := fun a ha z => (List.nodup_append.mp ndA).2.2 a ha a z rfl
    have eb2 : EnvR K L H2 σ (clr (alK rs) e1) Fr := eb.frm Y.frm Sa.mutAt dis Sa.dj
    have hs : ∀ k ∈ alK rs, ∀ m, e1[k]? = some (some m) → isLst m = false → ∃ v, σ[k]? = some (some v) ∧ Rep K L H2 v m [] := fun k hk m hm hl => by
      obtain ⟨v, Gk, Fk, k1, k2, _⟩ := er.at hm
      have hG : Gk = [] := by
        cases m with
        | d x => exact k2.1
        | lst x => cases hl
        | sh x => exact k2.1
        | fz x => exact k2.1
      subst hG
      exact ⟨v, k1, k2.frm Y.frm Sa.mutAt (fun a ha z => by cases z) Sa.dj⟩
    obtain ⟨F2, T, e2r, pT⟩ := args_join h2 hs eb2 hh ea' hn h4
    have in2 : ∀ a ∈ F2, a ∈ Fa' ∨ a ∈ Fr := fun a ha => by
      rcases List.mem_append.mp (pT.mem_iff.mp (List.mem_append_right T ha)) with z | z
      · exact .inl (pa'.mem_iff.mp z)
      · exact .inr z
    have trk : ∀ a ∈ Fr, ∃ o, H1 a = some o := fun a ha => by
      have := eb.mutAt a ha
      cases hq : H1 a with
      | none => rw [hq] at this; exact this.elim
      | some o => exact ⟨o, rfl⟩
    have disR : ∀ a ∈ Gr ++ Fa', a ∉ Fr := fun a ha z => by
      rcases Y.new a ha with q | q
      · exact dis a q z
      · obtain ⟨o, ho⟩ := trk a z
        rw [q] at ho; cases ho
    refine q v H2 ⟨Gr, F2, ⟨⟨F2, e2r, .refl _⟩, ?_, ?_, ?_, Y.mu, ?_⟩, hr⟩
    · have n1 : (Fa0 ++ Fr).Nodup := by
        refine List.nodup_append.mpr ⟨pa'.nodup_iff.mpr (List.nodup_append.mp Y.nd).2.1, (List.nodup_append.mp ndA).2.1, fun a ha b hb z => ?_⟩
        subst z
        exact disR a (List.mem_append_right _ (pa'.mem_iff.mp ha)) hb
      have n2 : F2.Nodup := (List.nodup_append.mp (pT.nodup_iff.mpr n1)).2.1
      refine List.nodup_append.mpr ⟨(List.nodup_append.mp Y.nd).1, n2, fun a ha b hb z => ?_⟩
      subst z
      rcases in2 a hb with k | k
      · exact (List.nodup_append.mp Y.nd).2.2 a ha a k rfl
      · exact disR a (List.mem_append_left _ ha) k
    · intro a ha
      have up : ∀ a, a ∈ Gr ++ Fa' → a ∈ F ∨ H a = none := fun a ha => by
        rcases Y.new a ha with k | k
        · exact W.new a (inA a k)
        · by_cases hf : a ∈ F
          · exact .inl hf
          · cases hH : H a with
            | none => exact .inr rfl
            | some o => rw [W.frm a o hH hf] at k; cases k
      rcases List.mem_append.mp ha with k | k
      · exact up a (List.mem_append_left _ k)
      · rcases in2 a k with k | k
        · exact up a (List.mem_append_right _ k)
        · exact W.new a (inR a k)
    · exact W.frm.tr Y.frm fun a ha => W.new a (inA a ha)
    · exact fun j m hj hm => W.sh j m (back_sh h4 j m hj hm) hm
  · cases he
end

/-! ## methods of a list -/
section
variable {K : PySem.W.Frag} {L L' : List Addr} {H H' H1 H2 : Hp} {F F' F1 F2 G G1 G2 : List Addr} {σ σ' : L2.St} {e e' e1 e2 : Slots} {r : RV} {v : V} {Q : VK} {fa fb fc : Slots → Option (RV × Slots)}
theorem Ste.at {k : Nat} {xs : List PyData} (S : Ste K L H σ e F) (hk : e[k]? = some (some (.lst xs))) : ∃ a vs, σ[k]? = some (some (.ref a)) ∧ H a = some (.lst vs) ∧ DpAll K H vs xs ∧ pureL xs = true ∧ a ∈ F := by
  obtain ⟨F0, er, p⟩ := S.er
  obtain ⟨v, G, F', h1, h2, h3, h4⟩ := er.at hk
  obtain ⟨a, vs, rfl, rfl, k1, k2, k3⟩ := h2
  exact ⟨a, vs, h1, k1, k2, k3, p.mem_iff.mp (h4.mem_iff.mpr (by simp))⟩
/-- a list of the name's is changed -/
theorem Ste.put {k : Nat} {xs ys : List PyData} {a : Addr} {ws : List V} (S : Ste K L H σ e F) (hk : e[k]? = some (some (.lst xs))) (ha : σ[k]? = some (some (.ref a))) (hd : DpAll K H ws ys) (hp : pureL ys = true) :
    XPw K L H F σ e (e.set k (some (.lst ys))) (upd H a (.lst ws)) [] F := by
  obtain ⟨F0, er, p⟩ := S.er
  obtain ⟨v, G, F1, h1, h2, h3, h4⟩ := er.at hk
  rw [ha] at h1
  cases h1
  obtain ⟨a', vs, e0, rfl, k1, k2, k3⟩ := h2
  cases e0
  have hF : ([a] ++ F1).Perm F := h4.symm.trans p
  have nd : ([a] ++ F1).Nodup := hF.nodup_iff.mpr S.nd
  have haF : a ∈ F := hF.mem_iff.mp (by simp)
  have mu : MutAt H [a] := fun b hb => by rw [List.mem_singleton.mp hb, k1]; trivial
  have f1 : Frm [a] H (upd H a (.lst ws)) := Frm.put (by simp)
  have h3' : EnvR K L (upd H a (.lst ws)) σ (e.set k none) F1 := h3.frm f1 mu (fun b hb z => (List.nodup_append.mp nd).2.2 b hb b z rfl) (fun b hb z => S.dj b (by rw [List.mem_singleton.mp hb]; exact haF) z)
  have hkl : k < e.length := (List.getElem?_eq_some_iff.mp hk).1
  have rep : Rep K L (upd H a (.lst ws)) (.ref a) (.lst ys) [a] := ⟨a, ws, rfl, rfl, upd_same, dps_frm f1 mu _ _ hp hd, hp⟩
  obtain ⟨F2, k4, k5⟩ := h3'.fill hkl rep
  rw [st_set_self ha] at k4
  refine ⟨⟨F2, k4, k5.trans hF⟩, by simpa using S.nd, fun b hb => .inl (by simpa using hb), Frm.put haF, (fun b hb => by cases hb), fun j m hj hm => ?_⟩
  by_cases hkj : k = j
  · subst hkj
    rw [List.getElem?_set_self hkl] at hj
    cases hj; cases hm
  · rw [List.getElem?_set_ne hkj] at hj; exact hj
theorem XPw.out {m : M} (w : XPw K L H F σ e e' H' [] F') (h : Rep K L H' v m []) : XP K L H F σ e e' (.ow m) v H' := ⟨[], F', w, h⟩
def fMt0 (o : Mt) (k : Nat) (e : Slots) : Option (RV × Slots) :=
  match e[k]? with
  | some (some (.lst xs)) => (mt0? o xs).map fun q => (.ow q.1, e.set k (some (.lst q.2)))
  | _ => none
def rMt0 : Mt → V → List V → Hp → VK → Prop
  | .pop => rPop
  | .reverse => rReverse
  | _ => fun _ _ _ _ => False
theorem t_mt0 {o : Mt} {k : Nat} (h : tE K (fMt0 o k) σ H Q) : tBM0 K "list" (rMt0 o) (tVar k) σ H Q := by
  obtain ⟨L, e, F, r, e', S, he, q⟩ := h
  unfold fMt0 at he
  split at he
  · rename_i xs hk
    obtain ⟨⟨m, ys⟩, h1, h2⟩ := Option.map_eq_some_iff.mp he
    cases h2
    obtain ⟨a, vs, ha, hH, hd, hp, _⟩ := S.at hk
    refine ⟨.ref a, ha, .inl ⟨rfl, vs, .inl (.inl hH)⟩, ?_⟩
    cases o with
    | append => cases h1
    | remove => cases h1
    | pop =>
      simp only [mt0?] at h1
      split at h1
      · rename_i y hy
        cases h1
        obtain ⟨w, hw, hwd⟩ := dps_get hd hy
        have hl : vs[vs.length - 1]? = some w := by rw [dps_len hd]; exact hw
        have W := S.put (ws := vs.dropLast) hk ha (dps_last hd) (pureL_sub hp fun x hx => List.dropLast_subset xs hx)
        have mu : MutAt H F := S.mutAt
        exact ⟨a, vs, w, rfl, rfl, hH, hl, q _ _ (W.out ⟨rfl, dp_frm W.frm mu _ _ (pureL_get hp hy) hwd, pureL_get hp hy⟩)⟩
      · cases h1
    | reverse =>
      cases h1
      have W := S.put (ws := vs.reverse) hk ha (dps_rev hd) (pureL_sub hp fun x hx => List.mem_reverse.mp hx)
      exact ⟨a, vs, rfl, rfl, hH, q _ _ (W.out rep_non)⟩
  · cases he
def fMt1 (o : Mt) (k : Nat) (fa : Slots → Option (RV × Slots)) (e : Slots) : Option (RV × Slots) :=
  match e[k]? with
  | some (some (.lst _)) => (fa e).bind fun r => match r.1, r.2[k]? with
    | .ow (.d y), some (some (.lst xs)) => (mt1? o xs y).map fun q => (.ow q.1, r.2.set k (some (.lst q.2)))
    | _, _ => none
  | _ => none
def rMt1 : Mt → V → List V → Hp → VK → Prop
  | .append => rAppend
  | .remove => fun x xs H Q => ∃ (a : Addr) (ns : List Int) (k : Int), x = V.ref a ∧ xs = [V.int k] ∧ H a = some (.lst (ns.map V.int)) ∧ k ∈ ns ∧ Q .non (upd H a (.lst ((ns.erase k).map V.int)))
  | _ => fun _ _ _ _ => False
theorem ints_back : ∀ {xs : List PyData} {ns : List Int}, ints? xs = some ns → xs = ns.map PyData.int
  | [], _, h => by cases h; rfl
  | x :: xs, ns, h => by
    rw [ints?] at h
    simp only [Option.bind_eq_some_iff, Option.map_eq_some_iff] at h
    obtain ⟨i, h1, ms, h2, rfl⟩ := h
    cases x <;> cases h1
    rw [ints_back h2]
    rfl
theorem t_mt1 {o : Mt} {k : Nat} (h : tE K (fMt1 o k fa) σ H Q) : tBM K "list" (rMt1 o) (tVar k) (tCons (tE K fa) tNil) σ H Q := by
  obtain ⟨L, e, F, r, e', S, he, q⟩ := h
  unfold fMt1 at he
  split at he
  · rename_i xs0 hk0
    obtain ⟨a0, vs0, ha0, hH0, _⟩ := S.at hk0
    refine ⟨.ref a0, ha0, .inl ⟨rfl, vs0, .inl (.inl hH0)⟩, ?_⟩
    obtain ⟨⟨ra, e1⟩, h1, h2⟩ := Option.bind_eq_some_iff.mp he
    dsimp only at h2
    split at h2
    · rename_i y xs hk
      obtain ⟨⟨m, ys⟩, h3, h4⟩ := Option.map_eq_some_iff.mp h2
      cases h4
      refine ⟨L, e, F, _, e1, S, h1, fun w H1 X => ?_⟩
      obtain ⟨hw, hpw, F1, A⟩ := X.pd
      have S1 := A.ste S
      obtain ⟨a, vs, ha, hH, hd, hp, _⟩ := S1.at hk
      rw [ha0] at ha
      cases ha
      cases o with
      | pop => cases h3
      | reverse => cases h3
      | append =>
        simp only [mt1?] at h3
        split at h3
        · rename_i hz
          cases h3
          have W := S1.put (ws := vs ++ [w]) hk ha0 (dps_app hd (.cons hw .nil)) (pureL_app hp (by rw [pureL, hpw]; rfl))
          exact ⟨a0, vs, w, rfl, rfl, hH, by rw [dps_len hd]; exact hz, q _ _ ((tr0 S A W).out rep_non)⟩
        · cases h3
      | remove =>
        simp only [mt1?] at h3
        split at h3
        · rename_i ns i hns
          split at h3
          · rename_i hm
            cases h3
            have e1 := dps_ints hd hns
            subst e1
            have W := S1.put (ws := (ns.erase i).map V.int) hk ha0 (dps_of_ints _) (pure_ints _)
            exact ⟨a0, ns, i, rfl, by rw [dp_int hw], hH, hm, q _ _ ((tr0 S A W).out rep_non)⟩
          · cases h3
        · cases h3
    · cases h2
  · cases he

/-! ## what is locked and opened -/
theorem Rep.mono {m : M} (h : Rep K L H v m G) (s : ∀ a ∈ L, a ∈ L') : Rep K L' H v m G := by
  cases m with
  | d x => exact h
  | lst xs => exact h
  | sh xs => obtain ⟨e, a, vs, h1, hL, h2⟩ := h; exact ⟨e, a, vs, h1, s a hL, h2⟩
  | fz xs =>
    obtain ⟨e, a, vs, h1, h2, h3⟩ := h
    refine ⟨e, a, vs, h1, ?_, h3⟩
    rcases h2 with q | ⟨l, q⟩ | q
    · exact .inl q
    · exact .inr (.inl ⟨s a l, q⟩)
    · exact .inr (.inr q)
theorem Rep.own {m : M} (h : Rep K L H v m G) (hs : isSh m = false) : Rep K L' H v m G := by
  cases m with
  | d x => exact h
  | lst xs => exact h
  | sh xs => cases hs
  | fz xs => cases hs
theorem Rep.shNil {m : M} (h : Rep K L H v m G) (hs : isLst m = false) : G = [] := by
  cases m with
  | d x => exact h.1
  | lst xs => cases hs
  | sh xs => exact h.1
  | fz xs => exact h.1
theorem EnvR.monoL (h : EnvR K L H σ e F) (s : ∀ a ∈ L, a ∈ L') : EnvR K L' H σ e F := by
  induction h with
  | nil => exact .nil
  | no _ ih => exact .no ih
  | so r _ ih => exact .so (r.mono s) ih
theorem EnvR.relock : ∀ {σ : L2.St} {e : Slots} {F : List Addr}, EnvR K L' H σ e F → (∀ (j : Nat) (m : M), e[j]? = some (some m) → isSh m = true → ∃ v, σ[j]? = some (some v) ∧ Rep K L H v m []) → EnvR K L H σ e F
  | _, _, _, .nil, _ => .nil
  | _, _, _, .no r, h => .no (r.relock fun j m hj hm => h (j + 1) m (by simpa using hj) hm)
  | _, _, _, .so (m := m) p r, h => by
    refine .so ?_ (r.relock fun j m hj hm => h (j + 1) m (by simpa using hj) hm)
    cases hs : isSh m with
    | false => exact p.own hs
    | true =>
      obtain ⟨v, h1, h2⟩ := h 0 m rfl hs
      have hl : isLst m = false := by cases m <;> first | rfl | cases hs
      rw [p.shNil hl]
      cases h1
      exact h2
theorem EnvR.congr : ∀ {σ σ' : L2.St} {e : Slots} {F : List Addr}, EnvR K L H σ e F → σ'.length = σ.length → (∀ (i : Nat) (m : M), e[i]? = some (some m) → σ'[i]? = σ[i]?) → EnvR K L H σ' e F
  | [], [], _, _, .nil, _, _ => .nil
  | [], _ :: _, _, _, .nil, h, _ => by simp at h
  | _ :: _, [], _, _, _, h, _ => by simp at h
  | _ :: _, _ :: _, _, _, .no r, h, g => .no (r.congr (by simpa using h) fun i m hi => by simpa using g (i + 1) m (by simpa using hi))
  | _ :: _, y :: _, _, _, .so (v := v) p r, h, g => by
    have h0 : y = some v := by simpa using g 0 _ rfl
    subst h0
    exact .so p (r.congr (by simpa using h) fun i m hi => by simpa using g (i + 1) m (by simpa using hi))
theorem shRep {m : M} {j : Nat} (er : EnvR K L H σ e F) (hj : e[j]? = some (some m)) (hs : isLst m = false) : ∃ v, σ[j]? = some (some v) ∧ Rep K L H v m [] := by
  obtain ⟨v, G, F', h1, h2, _⟩ := er.at hj
  rw [h2.shNil hs] at h2
  exact ⟨v, h1, h2⟩
theorem isLst_of_sh {m : M} (h : isSh m = true) : isLst m = false := by cases m <;> first | rfl | cases h
end

/-! ## what is walked -/
structure Wk (J : It) (st : Hp → Prop) (vs : List V) : Prop where
  go : ∀ i H, st H → i < vs.length → J.go i H
  stop : ∀ i H, st H → vs.length ≤ i → J.stop i H
  yld : ∀ i H x H', st H → J.yld i H x H' → H' = H ∧ (i < vs.length → vs[i]? = some x)
def Stable (L : List Addr) (st : Hp → Prop) : Prop := ∀ H1 H2 F, Frm F H1 H2 → MutAt H1 F → (∀ a ∈ F, a ∉ L) → st H1 → st H2
def LockOk (lk : Option Nat) (σ : L2.St) (H : Hp) (e : Slots) (xs : List PyData) (vs : List V) (A G : List Addr) : Prop :=
  match lk with
  | none => A = G
  | some k => G = [] ∧ ∃ a, A = [a] ∧ σ[k]? = some (some (.ref a)) ∧ H a = some (.lst vs) ∧ e[k]? = some (some (.lst xs))
def tI (K : PySem.W.Frag) (f : Slots → Option (IV × Slots)) : TI := fun σ H R =>
  ∃ L e F xs lk e', Ste K L H σ e F ∧ f e = some ((xs, lk), e') ∧ ∀ J H' G F' vs st A, XPw K L H F σ e e' H' G F' → Wk J st vs → DpAll K H' vs xs → pureL xs = true → st H' → Stable (A ++ L) st → LockOk lk σ H' e' xs vs A G → R J H'
section
variable {K : PySem.W.Frag} {L L' A : List Addr} {H H' H1 H2 : Hp} {F F' F1 F2 G G1 G2 : List Addr} {σ σ' σ2 : L2.St} {e e' e1 e2 : Slots} {r : RV} {v : V} {Q : VK} {fa fb fc fe : Slots → Option (RV × Slots)} {xs : List PyData} {vs : List V} {lk : Option Nat}
theorem wk_list {a : Addr} {st : Hp → Prop} (h : ∀ H, st H → SqL K H a vs) : Wk (Itl K a) st vs :=
  ⟨fun i H s hi => ⟨vs, vs[i], h H s, List.getElem?_eq_getElem hi⟩, fun i H s hi => ⟨vs, h H s, hi⟩, fun i H x H' s hy => ⟨hy.1, fun _ => hy.2 vs (h H s)⟩⟩
theorem wk_tup {a : Addr} {st : Hp → Prop} (h : ∀ H, st H → SqT K H a vs) : Wk (Itt K a) st vs :=
  ⟨fun i H s hi => ⟨vs, vs[i], h H s, List.getElem?_eq_getElem hi⟩, fun i H s hi => ⟨vs, h H s, hi⟩, fun i H x H' s hy => ⟨hy.1, fun _ => hy.2 vs (h H s)⟩⟩
theorem wk_rng {lo : Int} {n : Nat} : Wk (Itr lo n) (fun _ => True) ((List.range n).map fun k : Nat => V.int (lo + (k : Int))) :=
  ⟨fun i H _ hi => (show i < n by simpa using hi), fun i H _ hi => (show n ≤ i by simpa using hi), fun i H x H' _ hy => ⟨hy.1, fun hi => by
    have hi' : i < n := by simpa using hi
    rw [hy.2, List.getElem?_map, List.getElem?_range hi']
    rfl⟩⟩
theorem rngL_dps (lo hi : Int) : DpAll K H ((List.range (hi - lo).toNat).map fun k : Nat => V.int (lo + (k : Int))) (rngL lo hi) := by
  unfold rngL
  generalize List.range (hi - lo).toNat = l
  induction l with
  | nil => exact .nil
  | cons n l ih => exact .cons (.int _) ih
theorem rngL_pure (lo hi : Int) : pureL (rngL lo hi) = true := by
  rw [pureL_iff]
  intro x hx
  unfold rngL at hx
  obtain ⟨k, _, rfl⟩ := List.mem_map.mp hx
  rfl
def fRng1 (fa : Slots → Option (RV × Slots)) (e : Slots) : Option (IV × Slots) :=
  (fa e).bind fun r => match r.1 with
    | .ow (.d (.int i)) => if inRng i then some ((rngL 0 i, none), r.2) else none
    | _ => none
def fRng2 (fa fb : Slots → Option (RV × Slots)) (e : Slots) : Option (IV × Slots) :=
  (fa e).bind fun r => (fb r.2).bind fun q => match r.1, q.1 with
    | .ow (.d (.int i)), .ow (.d (.int j)) => if inRng i && inRng j then some ((rngL i j, none), q.2) else none
    | _, _ => none
def fSeq (fa : Slots → Option (RV × Slots)) (e : Slots) : Option (IV × Slots) := (fa e).bind fun r => (iter? r.1 r.2).map fun v => (v, r.2)
theorem stable_true : Stable L (fun _ => True) := fun _ _ _ _ _ _ _ => trivial
theorem t_rng1 {R : It → Hp → Prop} (h : tI K (fRng1 fa) σ H R) : iRng1 (tCons (tE K fa) tNil) σ H R := by
  obtain ⟨L, e, F, xs, lk, e', S, he, q⟩ := h
  unfold fRng1 at he
  obtain ⟨⟨ra, e1⟩, h1, h2⟩ := Option.bind_eq_some_iff.mp he
  dsimp only at h2
  split at h2
  · rename_i i
    split at h2
    · rename_i hi
      cases h2
      simp only [inRng, Bool.and_eq_true, decide_eq_true_eq] at hi
      refine ⟨L, e, F, _, _, S, h1, fun v H1 X => ?_⟩
      obtain ⟨rfl, F1, w⟩ := X.it
      refine ⟨_, rfl, hi.1, hi.2, ?_⟩
      have e0 : i.toNat = (i - 0).toNat := by rw [Int.sub_zero]
      rw [e0]
      exact q (Itr 0 (i - 0).toNat) H1 [] F1 _ (fun _ => True) [] w wk_rng (rngL_dps 0 i) (rngL_pure 0 i) trivial stable_true rfl
    · cases h2
  · cases h2
theorem t_rng2 {R : It → Hp → Prop} (h : tI K (fRng2 fa fb) σ H R) : iRng2 (tCons (tE K fa) (tCons (tE K fb) tNil)) σ H R := by
  obtain ⟨L, e, F, xs, lk, e', S, he, q⟩ := h
  unfold fRng2 at he
  obtain ⟨⟨ra, e1⟩, h1, h2⟩ := Option.bind_eq_some_iff.mp he
  obtain ⟨⟨rb, e2⟩, h3, h2⟩ := Option.bind_eq_some_iff.mp h2
  dsimp only at h2 h3
  split at h2
  · rename_i i j _
    split at h2
    · rename_i hi
      cases h2
      simp only [inRng, Bool.and_eq_true, decide_eq_true_eq] at hi
      refine ⟨L, e, F, _, _, S, h1, fun v H1 X => ?_⟩
      obtain ⟨rfl, F1, w⟩ := X.it
      refine ⟨L, e1, F1, _, _, w.ste S, h3, fun v2 H2 X2 => ?_⟩
      obtain ⟨rfl, F2, w2⟩ := X2.it
      exact ⟨_, _, rfl, ⟨hi.1.1, hi.1.2, hi.2.1, hi.2.2⟩, q (Itr i (j - i).toNat) H2 [] F2 _ (fun _ => True) [] (tr0 S w w2) wk_rng (rngL_dps i j) (rngL_pure i j) trivial stable_true rfl⟩
    · cases h2
  · cases h2
def iSeq (K : PySem.W.Frag) (tl : TE) : TI := fun σ H R => tl σ H fun x H1 => ∃ a, x = .ref a ∧ (((∃ xs, SqL K H1 a xs) ∧ R (Itl K a) H1) ∨ ((∃ xs, SqT K H1 a xs) ∧ R (Itt K a) H1))
theorem pi_seq {X : Cx} {tg l : Expr} {tl : TE} (hl : PE X l tl) : PI X tg l (iSeq X.K tl) := by
  refine ⟨fun pins s σ H R I h => ?_⟩
  refine thn (hl.run pins s σ H _ I h) fun v s1 ⟨x, H1, I1, r1, q1⟩ => ?_
  obtain ⟨a, e, q1⟩ := q1
  subst e
  cases r1
  rcases q1 with ⟨⟨xs, hq⟩, q⟩ | ⟨⟨xs, hq⟩, q⟩
  · obtain ⟨its, rv, p, hz⟩ := I1.list hq
    refine wpAny_pyIter_list p.isList ?_
    refine ⟨s1.heap.objs.size, [s1.heap.objs.size], _, _, H1, rfl, I1.kept (t' := s1.toks) (fun b o e => Heap.get?_push_of_some _ e), turn_list a _, ⟨_, Heap.get?_push_size _ rfl, rfl, rfl⟩, (fun b hb => ?_), q⟩
    rw [show b = s1.heap.objs.size by simpa using hb]
    exact I1.fpOk (Nat.le_refl _) (I1.hok.fresh (Nat.le_refl _))
  · obtain ⟨its, rv, p, hz⟩ := I1.tuple hq
    refine wpAny_pyIter_tuple (show s1.heap.IsTuple a its.toArray from p) ?_
    refine ⟨s1.heap.objs.size, [s1.heap.objs.size], _, _, H1, rfl, I1.kept (t' := s1.toks) (fun b o e => Heap.get?_push_of_some _ e), turn_tuple a _, ⟨_, Heap.get?_push_size _ rfl, rfl, rfl⟩, (fun b hb => ?_), q⟩
    rw [show b = s1.heap.objs.size by simpa using hb]
    exact I1.fpOk (Nat.le_refl _) (I1.hok.fresh (Nat.le_refl _))
theorem stable_own {a : Addr} (h : a ∈ L) : Stable L (fun H => H a = some (.lst vs)) := fun H1 H2 F f m d s => f a _ s fun z => d a z h
theorem t_seq {R : It → Hp → Prop} (h : tI K (fSeq fa) σ H R) : iSeq K (tE K fa) σ H R := by
  obtain ⟨L, e, F, xs, lk, e', S, he, q⟩ := h
  unfold fSeq at he
  obtain ⟨⟨ra, e1⟩, h1, h2⟩ := Option.bind_eq_some_iff.mp he
  obtain ⟨iv, h3, h4⟩ := Option.map_eq_some_iff.mp h2
  cases h4
  refine ⟨L, e, F, _, _, S, h1, fun v H1 ⟨G, F1, w, hh⟩ => ?_⟩
  cases ra with
  | ow m =>
    cases m with
    | d x =>
      cases x <;> cases h3
      obtain ⟨rfl, hd, hp⟩ := hh
      cases hd with
      | tup hs ha =>
        exact ⟨_, rfl, .inr ⟨⟨_, hs⟩, q _ H1 [] F1 _ (fun H => SqT K H _ _) [] w (wk_tup fun _ h => h) ha hp hs (fun H1 H2 F f m d s => sqT_frm s f m) rfl⟩⟩
    | lst x =>
      cases h3
      obtain ⟨a, vs, rfl, rfl, k1, k2, k3⟩ := hh
      exact ⟨_, rfl, .inl ⟨⟨_, .inl (.inl k1)⟩, q _ H1 [a] F1 _ (fun H => H a = some (.lst vs)) [a] w (wk_list fun _ h => .inl (.inl h)) k2 k3 k1 (stable_own (by simp)) rfl⟩⟩
    | sh x => cases h3
    | fz x => cases h3
  | al k =>
    obtain ⟨rfl, hk⟩ := hh
    obtain ⟨F0, er, p⟩ := w.er
    simp only [iter?] at h3
    split at h3
    · rename_i ys hs
      cases h3
      obtain ⟨v', G, F', h1', h2', _⟩ := er.at hs
      rw [hk] at h1'; cases h1'
      obtain ⟨a, vs, rfl, rfl, k1, k2, k3⟩ := h2'
      exact ⟨_, rfl, .inl ⟨⟨_, .inl (.inl k1)⟩, q _ H1 [] F1 _ (fun H => H a = some (.lst vs)) [a] w (wk_list fun _ h => .inl (.inl h)) k2 k3 k1 (stable_own (by simp)) ⟨rfl, a, rfl, hk, k1, hs⟩⟩⟩
    · rename_i ys hs
      cases h3
      obtain ⟨v', G, F', h1', h2', _⟩ := er.at hs
      rw [hk] at h1'; cases h1'
      obtain ⟨rfl, a, vs, rfl, hL, k1, k2, k3⟩ := h2'
      exact ⟨_, rfl, .inl ⟨⟨_, .inl (.inl k1)⟩, q _ H1 [] F1 _ (fun H => H a = some (.lst vs)) [] w (wk_list fun _ h => .inl (.inl h)) k2 k3 k1 (stable_own (by simpa using hL)) rfl⟩⟩
    · rename_i ys hs
      cases h3
      obtain ⟨v', G, F', h1', h2', _⟩ := er.at hs
      rw [hk] at h1'; cases h1'
      obtain ⟨rfl, a, vs, rfl, k1, k2, k3⟩ := h2'
      refine ⟨_, rfl, .inl ⟨⟨_, k1.sq⟩, q _ H1 [] F1 _ (fun H => StL K L H a vs) [] w (wk_list fun _ h => h.sq) k2 k3 k1 (fun H1 H2 F f m d s => ?_) rfl⟩⟩
      rcases s with ⟨o, q⟩ | ⟨l, q⟩ | q
      · exact .inl ⟨o, f a _ q fun z => by have := m a z; rw [q] at this; exact this⟩
      · exact .inr (.inl ⟨l, f a _ q fun z => d a z (by simpa using l)⟩)
      · exact .inr (.inr q)
    · cases h3

/-! ## locked, opened -/
theorem Ste.frm (S : Ste K L H σ e F) (f : Frm G H H') (mu : MutAt H G) (d : ∀ a ∈ G, a ∉ F) (dl : ∀ a ∈ G, a ∉ L) : Ste K L H' σ e F where
  er := by
    obtain ⟨F0, er, p⟩ := S.er
    exact ⟨F0, er.frm f mu (fun a ha z => d a ha (p.mem_iff.mp z)) dl, p⟩
  nd := S.nd
  dj := S.dj
  lt := fun a ha => by
    obtain ⟨o, h⟩ := S.lt a ha
    exact ⟨o, f a o h fun z => dl a z ha⟩
theorem Ste.trk (S : Ste K L H σ e F) {a : Addr} (h : a ∈ F) : ∃ o, H a = some o := by
  have := S.mutAt a h
  cases hq : H a with
  | none => rw [hq] at this; exact this.elim
  | some o => exact ⟨o, rfl⟩
theorem XPw.trk (X : XPw K L H F σ e e' H' G F') {a : Addr} (h : a ∈ G) : ∃ o, H' a = some o := by
  have := X.mu a h
  cases hq : H' a with
  | none => rw [hq] at this; exact this.elim
  | some o => exact ⟨o, rfl⟩
theorem lock_in (S : Ste K L H σ e F) (W : XPw K L H F σ e e1 H1 G F1) (lo : LockOk lk σ H1 e1 xs vs A G) (hd : DpAll K H1 vs xs) (hp : pureL xs = true) :
    ∃ Fl, Ste K (A ++ L) H1 σ (lockE lk xs e1) Fl ∧ ∀ a ∈ Fl, a ∈ F1 := by
  have S1 := W.ste S
  obtain ⟨F0, er, p⟩ := W.er
  cases lk with
  | none =>
    obtain rfl : A = G := lo
    refine ⟨F1, ⟨⟨F0, er.monoL fun a ha => List.mem_append_right _ ha, p⟩, S1.nd, fun a ha z => ?_, fun a ha => ?_⟩, fun a h => h⟩
    · rcases List.mem_append.mp z with q | q
      · exact (List.nodup_append.mp W.nd).2.2 a q a ha rfl
      · exact S1.dj a ha q
    · rcases List.mem_append.mp ha with q | q
      · exact W.trk q
      · exact S1.lt a q
  | some k =>
    obtain ⟨rfl, a, rfl, ha, hH, hk⟩ := lo
    obtain ⟨v, Ga, F2, h1, h2, h3, h4⟩ := er.at hk
    rw [ha] at h1; cases h1
    obtain ⟨a', vs', e0, rfl, k1, k2, k3⟩ := h2
    cases e0
    have hkl : k < e1.length := (List.getElem?_eq_some_iff.mp hk).1
    have rep : Rep K ([a] ++ L) H1 (.ref a) (.sh xs) [] := ⟨rfl, a, vs, rfl, by simp, hH, hd, hp⟩
    obtain ⟨F3, k4, k5⟩ := (h3.monoL (L' := [a] ++ L) fun a ha => List.mem_append_right _ ha).fill hkl rep
    rw [st_set_self ha] at k4
    have hF : ([a] ++ F2).Perm F1 := h4.symm.trans p
    have nd : ([a] ++ F2).Nodup := hF.nodup_iff.mpr S1.nd
    have sub : ∀ b ∈ F3, b ∈ F1 := fun b hb => hF.mem_iff.mp (List.mem_append_right _ (by simpa using k5.mem_iff.mp hb))
    refine ⟨F3, ⟨⟨F3, k4, .refl _⟩, k5.nodup_iff.mpr (by simpa using (List.nodup_append.mp nd).2.1), fun b hb z => ?_, fun b hb => ?_⟩, sub⟩
    · rcases List.mem_append.mp z with q | q
      · have hb2 : b ∈ F2 := by simpa using k5.mem_iff.mp hb
        exact (List.nodup_append.mp nd).2.2 b q b hb2 rfl
      · exact S1.dj b (sub b hb) q
    · rcases List.mem_append.mp hb with q | q
      · rw [List.mem_singleton.mp q]; exact ⟨_, hH⟩
      · exact S1.lt b q
/-- which of A the name has again -/
def lkA (lk : Option Nat) (A : List Addr) : List Addr :=
  match lk with
  | none => []
  | some _ => A
theorem lock_out {Fl : List Addr} (S : Ste K L H σ e F) (W : XPw K L H F σ e e1 H1 G F1) (lo : LockOk lk σ H1 e1 xs vs A G) (hd : DpAll K H1 vs xs) (hp : pureL xs = true)
    (Sl : Ste K (A ++ L) H1 σ (lockE lk xs e1) Fl) (f : Frm Fl H1 H2) (S2 : Ste K (A ++ L) H2 σ2 e2 F2)
    (sh : ∀ (j : Nat) (m : M), e2[j]? = some (some m) → isSh m = true → (lockE lk xs e1)[j]? = some (some m) ∧ σ2[j]? = σ[j]?) (hk : ∀ k, lk = some k → σ2[k]? = σ[k]? ∧ k < e2.length) :
    ∃ F3, EnvR K L H2 σ2 (openE lk xs e2) F3 ∧ F3.Nodup ∧ (∀ a ∈ F3, a ∈ F2 ∨ a ∈ lkA lk A) ∧ (∀ a ∈ lkA lk A, a ∈ F1) := by
  have S1 := W.ste S
  obtain ⟨F0, er, p⟩ := W.er
  obtain ⟨F20, er2, p2⟩ := S2.er
  have dl : ∀ a ∈ Fl, a ∉ L := fun a ha z => Sl.dj a ha (List.mem_append_right _ z)
  have old : ∀ (j : Nat) (m : M), e1[j]? = some (some m) → isSh m = true → ∃ v, σ[j]? = some (some v) ∧ Rep K L H2 v m [] := fun j m hj hm => by
    obtain ⟨v, h1, h2⟩ := shRep er hj (isLst_of_sh hm)
    exact ⟨v, h1, h2.frm f Sl.mutAt (fun a ha z => by cases z) dl⟩
  cases lk with
  | none =>
    refine ⟨F20, er2.relock fun j m hj hm => ?_, p2.nodup_iff.mpr S2.nd, fun a ha => .inl (p2.mem_iff.mp ha), fun a ha => by cases ha⟩
    obtain ⟨h1, h2⟩ := sh j m hj hm
    obtain ⟨v, h3, h4⟩ := old j m h1 hm
    exact ⟨v, by rw [h2]; exact h3, h4⟩
  | some k =>
    obtain ⟨rfl, a, rfl, ha, hH, hk1⟩ := lo
    obtain ⟨hσ, hkl⟩ := hk k rfl
    have hk1l : k < e1.length := (List.getElem?_eq_some_iff.mp hk1).1
    have haF : a ∈ F1 := by
      obtain ⟨v, Ga, F', h1, h2, h3, h4⟩ := er.at hk1
      rw [ha] at h1; cases h1
      obtain ⟨a', vs', e0, rfl, _⟩ := h2
      cases e0
      exact p.mem_iff.mp (h4.mem_iff.mpr (by simp))
    have haL : a ∉ Fl := fun z => Sl.dj a z (by simp)
    have haF2 : a ∉ F2 := fun z => S2.dj a z (by simp)
    obtain ⟨F3, h3, hs⟩ := er2.drop (k := k)
    have h4 : EnvR K L H2 σ2 (e2.set k none) F3 := h3.relock fun j m hj hm => by
      have hjk : k ≠ j := fun z => by subst z; rw [List.getElem?_set_self hkl] at hj; cases hj
      rw [List.getElem?_set_ne hjk] at hj
      obtain ⟨h1, h2⟩ := sh j m hj hm
      have h1' : (e1.set k (some (.sh xs)))[j]? = some (some m) := h1
      rw [List.getElem?_set_ne hjk] at h1'
      obtain ⟨v, h5, h6⟩ := old j m h1' hm
      exact ⟨v, by rw [h2]; exact h5, h6⟩
    have rep : Rep K L H2 (.ref a) (.lst xs) [a] := ⟨a, vs, rfl, rfl, f a _ hH haL, dps_frm f Sl.mutAt _ _ hp hd, hp⟩
    obtain ⟨F4, k4, k5⟩ := h4.fill hkl rep
    rw [st_set_self (by rw [hσ]; exact ha)] at k4
    refine ⟨F4, k4, k5.nodup_iff.mpr ?_, fun b hb => ?_, fun b hb => by rw [List.mem_singleton.mp hb]; exact haF⟩
    · refine List.nodup_append.mpr ⟨by simp, (p2.nodup_iff.mpr S2.nd).sublist hs, fun b hb c hc z => ?_⟩
      subst z
      rw [List.mem_singleton.mp hb] at hc
      exact haF2 (p2.mem_iff.mp (hs.subset hc))
    · rcases List.mem_append.mp (k5.mem_iff.mp hb) with z | z
      · exact .inr z
      · exact .inl (p2.mem_iff.mp (hs.subset z))
end

/-! ## targets -/
def gNames : List Nat → TGs
  | [] => gNil
  | i :: is => gCons (gName i) (gNames is)
def gT (K : PySem.W.Frag) : Tg → TG
  | .n i => gName i
  | .t is => gTup K is.length (gNames is)
def tgSlots : Tg → List Nat
  | .n i => [i]
  | .t is => is
section
variable {K : PySem.W.Frag} {L L' A : List Addr} {H H' H1 H2 : Hp} {F F' F1 F2 G G1 G2 : List Addr} {σ σ' σ2 : L2.St} {e e' e1 e2 : Slots} {r : RV} {v : V} {Q : VK} {fa fb fc fe : Slots → Option (RV × Slots)} {xs : List PyData} {vs : List V} {lk : Option Nat}
/-- a store into a slot that holds no list that is only read -/
structure Sto (is : List Nat) (σ : L2.St) (e : Slots) (σ2 : L2.St) (e2 : Slots) : Prop where
  out : ∀ j, j ∉ is → σ2[j]? = σ[j]? ∧ e2[j]? = e[j]?
  len : σ2.length = σ.length ∧ e2.length = e.length
  sh : ∀ (j : Nat) (m : M), e2[j]? = some (some m) → isSh m = true → e[j]? = some (some m) ∧ σ2[j]? = σ[j]?
theorem Sto.nil : Sto [] σ e σ e := ⟨fun _ _ => ⟨rfl, rfl⟩, ⟨rfl, rfl⟩, fun _ _ h _ => ⟨h, rfl⟩⟩
theorem Sto.cons {i : Nat} {is : List Nat} (a : Sto [i] σ e σ' e') (b : Sto is σ' e' σ2 e2) : Sto (i :: is) σ e σ2 e2 where
  out := fun j hj => by
    have h1 := a.out j (fun z => hj (by rw [List.mem_singleton.mp z]; exact List.mem_cons_self))
    have h2 := b.out j (fun z => hj (List.mem_cons_of_mem _ z))
    exact ⟨h2.1.trans h1.1, h2.2.trans h1.2⟩
  len := ⟨b.len.1.trans a.len.1, b.len.2.trans a.len.2⟩
  sh := fun j m h q => by
    obtain ⟨h1, h2⟩ := b.sh j m h q
    obtain ⟨h3, h4⟩ := a.sh j m h1 q
    exact ⟨h3, h2.trans h4⟩
theorem set_one {i : Nat} {x : Option V} {m : M} (hs : isSh m = false) : Sto [i] σ e (σ.set i x) (e.set i (some m)) where
  out := fun j hj => by
    have h : i ≠ j := fun z => hj (by rw [z]; simp)
    exact ⟨List.getElem?_set_ne h, List.getElem?_set_ne h⟩
  len := by simp
  sh := fun j k h q => by
    by_cases hj : i = j
    · subst hj
      by_cases hi : i < e.length
      · rw [List.getElem?_set_self hi] at h
        cases h; rw [hs] at q; cases q
      · rw [List.getElem?_eq_none (by simpa using hi)] at h; cases h
    · rw [List.getElem?_set_ne hj] at h ⊢
      exact ⟨h, rfl⟩
/-- pure data or a list of its own, into a slot -/
theorem Ste.set1 {i : Nat} {m : M} (S : Ste K L H σ e F) (hi : i < e.length) (h : Rep K L H v m G) (nd : (G ++ F).Nodup) (dl : ∀ a ∈ G, a ∉ L) : ∃ F', Ste K L H (σ.set i (some v)) (e.set i (some m)) F' ∧ ∀ a ∈ F', a ∈ G ∨ a ∈ F := by
  obtain ⟨F0, er, p⟩ := S.er
  obtain ⟨F1, h1, h2⟩ := er.drop (k := i)
  have sub : ∀ a ∈ F1, a ∈ F := fun a ha => p.mem_iff.mp (h2.subset ha)
  obtain ⟨F2, h3, h4⟩ := h1.fill hi h
  have mem : ∀ a ∈ F2, a ∈ G ∨ a ∈ F := fun a ha => (List.mem_append.mp (h4.mem_iff.mp ha)).imp id (sub a)
  refine ⟨F2, ⟨⟨F2, h3, .refl _⟩, h4.nodup_iff.mpr ?_, fun a ha z => ?_, S.lt⟩, mem⟩
  · have n1 := List.nodup_append.mp nd
    exact List.nodup_append.mpr ⟨n1.1, (p.nodup_iff.mpr S.nd).sublist h2, fun a ha b hb z => n1.2.2 a ha b (sub b hb) z⟩
  · rcases mem a ha with q | q
    · exact dl a q z
    · exact S.dj a q z
theorem Ste.lenE (S : Ste K L H σ e F) : σ.length = e.length := by
  obtain ⟨F0, er, _⟩ := S.er
  exact er.len
theorem Ste.setD {i : Nat} {x : PyData} (S : Ste K L H σ e F) (hd : Dp K H v x) (hp : pureD x = true) : ∃ F', Ste K L H (σ.set i (some v)) (e.set i (some (.d x))) F' ∧ ∀ a ∈ F', a ∈ F := by
  by_cases hi : i < e.length
  · obtain ⟨F', h1, h2⟩ := S.set1 (v := v) (m := .d x) (G := []) hi ⟨rfl, hd, hp⟩ (by simpa using S.nd) (fun a ha => by cases ha)
    exact ⟨F', h1, fun a ha => (h2 a ha).elim (fun z => by cases z) id⟩
  · have e1 : e.set i (some (.d x)) = e := List.set_eq_of_length_le (by omega)
    have e2 : σ.set i (some v) = σ := List.set_eq_of_length_le (by rw [S.lenE]; omega)
    rw [e1, e2]
    exact ⟨F, S, fun _ h => h⟩
theorem bindN_ok : ∀ {is : List Nat} {xs : List PyData} {vs : List V} {e e2 : Slots} {σ : L2.St} {F : List Addr}, Ste K L H σ e F → bindN is xs e = some e2 → DpAll K H vs xs → pureL xs = true →
    ∃ σ2 F', (∀ R : L2.St → Hp → Prop, R σ2 H → gNames is vs σ H R) ∧ Ste K L H σ2 e2 F' ∧ (∀ a ∈ F', a ∈ F) ∧ Sto is σ e σ2 e2
  | [], [], _, e, e2, σ, F, S, h, hd, _ => by
    cases h; cases hd
    exact ⟨σ, F, fun R h => ⟨rfl, h⟩, S, fun _ h => h, .nil⟩
  | i :: is, x :: xs, _, e, e2, σ, F, S, h, hd, hp => by
    rw [bindN] at h
    split at h
    · cases h
    · cases hd with
      | cons h1 h2 =>
        have q : pureD x = true ∧ pureL xs = true := by rw [pureL] at hp; simpa using hp
        obtain ⟨F1, S1, s1⟩ := S.setD (i := i) h1 q.1
        obtain ⟨σ2, F2, r, S2, s2, t⟩ := bindN_ok S1 h h2 q.2
        exact ⟨σ2, F2, fun R hR => ⟨_, _, rfl, r R hR⟩, S2, fun a ha => s1 a (s2 a ha), (set_one rfl).cons t⟩
  | [], _ :: _, _, _, _, _, _, _, h, _, _ => by cases h
  | _ :: _, [], _, _, _, _, _, _, h, _, _ => by cases h
theorem bindN_len : ∀ {is : List Nat} {xs : List PyData} {e e2 : Slots}, bindN is xs e = some e2 → xs.length = is.length
  | [], [], _, _, _ => rfl
  | i :: is, x :: xs, e, e2, h => by
    rw [bindN] at h
    split at h
    · cases h
    · simp [bindN_len h]
  | [], _ :: _, _, _, h => by cases h
  | _ :: _, [], _, _, h => by cases h
theorem bindT_ok {pin : List Nat} {tg : Tg} {x : PyData} (S : Ste K L H σ e F) (h : bindT pin tg x e = some e2) (hd : Dp K H v x) (hp : pureD x = true) :
    ∃ σ2 F', (∀ R : L2.St → Hp → Prop, R σ2 H → gT K tg v σ H R) ∧ Ste K L H σ2 e2 F' ∧ (∀ a ∈ F', a ∈ F) ∧ Sto (tgSlots tg) σ e σ2 e2 ∧ ∀ j ∈ pin, j ∉ tgSlots tg := by
  cases tg with
  | n i =>
    simp only [bindT] at h
    split at h
    · cases h
    · rename_i hc
      cases h
      simp only [Bool.or_eq_true, decide_eq_true_eq, not_or] at hc
      obtain ⟨F1, S1, s1⟩ := S.setD (i := i) hd hp
      exact ⟨_, F1, fun R h => h, S1, s1, set_one rfl, fun j hj z => hc.1 (by rw [← List.mem_singleton.mp z]; exact hj)⟩
  | t is =>
    simp only [bindT] at h
    split at h
    · rename_i xs
      split at h
      · cases h
      · rename_i hc
        cases hd with
        | tup hs ha =>
          obtain ⟨σ2, F2, r, S2, s2, t⟩ := bindN_ok S h ha hp
          refine ⟨σ2, F2, fun R hR => ⟨_, _, rfl, hs, ?_, r R hR⟩, S2, s2, t, fun j hj z => hc ?_⟩
          · rw [dps_len ha]; exact bindN_len h
          · simp only [List.any_eq_true, decide_eq_true_eq]
            exact ⟨j, z, hj⟩
    · cases h

/-! ## the names of a comprehension are forgotten -/
theorem wipeE_len (e : Slots) : ∀ vs : List Nat, (wipeE e vs).length = e.length
  | [] => rfl
  | v :: vs => by rw [wipeE, List.length_set, wipeE_len e vs]
theorem wipeE_out : ∀ {vs : List Nat} {e : Slots} {i : Nat}, i ∉ vs → (wipeE e vs)[i]? = e[i]?
  | [], _, _, _ => rfl
  | v :: vs, e, i, h => by
    rw [wipeE, List.getElem?_set_ne (fun z => h (by rw [z]; exact List.mem_cons_self)), wipeE_out fun z => h (List.mem_cons_of_mem _ z)]
theorem wipeE_in : ∀ {vs : List Nat} {e : Slots} {i : Nat} {m : M}, i ∈ vs → (wipeE e vs)[i]? ≠ some (some m)
  | v :: vs, e, i, m, h => by
    intro q
    rw [wipeE] at q
    by_cases hv : v = i
    · subst hv
      by_cases hl : v < (wipeE e vs).length
      · rw [List.getElem?_set_self hl] at q; cases q
      · rw [List.getElem?_eq_none (by simpa using hl)] at q; cases q
    · rw [List.getElem?_set_ne hv] at q
      rcases List.mem_cons.mp h with z | z
      · exact hv z.symm
      · exact wipeE_in z q
theorem wipe_in : ∀ {vs : List Nat} {i : Nat}, i ∉ vs → (wipe σ vs)[i]? = σ[i]?
  | [], _, _ => rfl
  | v :: vs, i, h => by
    rw [wipe, List.getElem?_set_ne (fun z => h (by rw [z]; exact List.mem_cons_self)), wipe_in fun z => h (List.mem_cons_of_mem _ z)]
theorem wipe_at : ∀ {vs : List Nat} {i : Nat}, i ∈ vs → i < σ.length → (wipe σ vs)[i]? = some none
  | v :: vs, i, h, hl => by
    rw [wipe]
    by_cases hv : v = i
    · subst hv
      rw [List.getElem?_set_self (by rw [wipe_length]; exact hl)]
    · rw [List.getElem?_set_ne hv]
      rcases List.mem_cons.mp h with z | z
      · exact absurd z.symm hv
      · exact wipe_at z hl
theorem wipe_eq {vs : List Nat} (hl : σ2.length = σ.length) (h : ∀ i, i ∉ vs → σ2[i]? = σ[i]?) : wipe σ2 vs = wipe σ vs := by
  apply List.ext_getElem?
  intro i
  by_cases hi : i ∈ vs
  · by_cases hs : i < σ.length
    · rw [wipe_at hi hs, wipe_at hi (by rw [hl]; exact hs)]
    · rw [List.getElem?_eq_none (by rw [wipe_length, hl]; omega), List.getElem?_eq_none (by rw [wipe_length]; omega)]
  · rw [wipe_in hi, wipe_in hi, h i hi]
theorem Ste.wiped (S : Ste K L H σ e F) : ∀ vs : List Nat, ∃ F', Ste K L H σ (wipeE e vs) F' ∧ ∀ a ∈ F', a ∈ F
  | [] => ⟨F, S, fun _ h => h⟩
  | v :: vs => by
    obtain ⟨F1, S1, s1⟩ := S.wiped vs
    obtain ⟨F0, er, p⟩ := S1.er
    obtain ⟨F2, h2, h3⟩ := er.drop (k := v)
    have sub : ∀ a ∈ F2, a ∈ F1 := fun a ha => p.mem_iff.mp (h3.subset ha)
    exact ⟨F2, ⟨⟨F2, h2, .refl _⟩, (p.nodup_iff.mpr S1.nd).sublist h3, fun a ha => S1.dj a (sub a ha), S1.lt⟩, fun a ha => s1 a (sub a ha)⟩
theorem Ste.congr (S : Ste K L H σ e F) (hl : σ2.length = σ.length) (h : ∀ (i : Nat) (m : M), e[i]? = some (some m) → σ2[i]? = σ[i]?) : Ste K L H σ2 e F := by
  obtain ⟨F0, er, p⟩ := S.er
  exact ⟨⟨F0, er.congr hl h, p⟩, S.nd, S.dj, S.lt⟩
/-- the slots of the comprehension's names forgotten on both sides -/
theorem Ste.wipe2 (S : Ste K L H σ e F) (vs : List Nat) (hl : σ2.length = σ.length) (h : ∀ i, i ∉ vs → σ2[i]? = σ[i]?) : ∃ F', Ste K L H σ2 (wipeE e vs) F' ∧ ∀ a ∈ F', a ∈ F := by
  obtain ⟨F1, S1, s1⟩ := S.wiped vs
  refine ⟨F1, S1.congr hl fun i m hi => h i fun z => wipeE_in z hi, s1⟩
theorem wipeE_sh {vs : List Nat} {j : Nat} {m : M} (h : (wipeE e vs)[j]? = some (some m)) : e[j]? = some (some m) := by
  by_cases hj : j ∈ vs
  · exact absurd h (wipeE_in hj)
  · rw [wipeE_out hj] at h; exact h
/-- .. and filled again by pure data -/
theorem Ste.filled (S : Ste K L H σ e F) (h : ∀ (i : Nat) (x : PyData), e1[i]? = some (some (.d x)) → ∃ v, σ[i]? = some (some v) ∧ Dp K H v x ∧ pureD x = true) (hl : e.length = e1.length) :
    ∀ vs : List Nat, (∃ F', Ste K L H σ (fillE e e1 vs) F' ∧ ∀ a ∈ F', a ∈ F) ∧ (fillE e e1 vs).length = e.length ∧ ∀ (j : Nat) (m : M), (fillE e e1 vs)[j]? = some (some m) → isSh m = true → e[j]? = some (some m)
  | [] => ⟨⟨F, S, fun _ h => h⟩, rfl, fun _ _ h _ => h⟩
  | v :: vs => by
    obtain ⟨⟨F1, S1, s1⟩, l1, sh1⟩ := S.filled h hl vs
    rw [fillE]
    have sh2 : ∀ (y : Option M), (∀ m, y = some m → isSh m = false) → ∀ (j : Nat) (m : M), ((fillE e e1 vs).set v y)[j]? = some (some m) → isSh m = true → e[j]? = some (some m) := fun y hy j m hj hm => by
      by_cases hv : v = j
      · subst hv
        by_cases hlt : v < (fillE e e1 vs).length
        · rw [List.getElem?_set_self hlt] at hj
          have q := hy m (Option.some.inj hj)
          rw [hm] at q; cases q
        · rw [List.getElem?_eq_none (by simpa using hlt)] at hj; cases hj
      · rw [List.getElem?_set_ne hv] at hj
        exact sh1 j m hj hm
    split
    · rename_i x hx
      obtain ⟨w, hw, hd, hp⟩ := h v x hx
      obtain ⟨F2, S2, s2⟩ := S1.setD (i := v) hd hp
      rw [st_set_self hw] at S2
      exact ⟨⟨F2, S2, fun a ha => s1 a (s2 a ha)⟩, by simp [l1], sh2 _ fun m hm => by cases hm; rfl⟩
    · obtain ⟨F0, er, p⟩ := S1.er
      obtain ⟨F2, h2, h3⟩ := er.drop (k := v)
      have sub : ∀ a ∈ F2, a ∈ F1 := fun a ha => p.mem_iff.mp (h3.subset ha)
      exact ⟨⟨F2, ⟨⟨F2, h2, .refl _⟩, (p.nodup_iff.mpr S1.nd).sublist h3, fun a ha => S1.dj a (sub a ha), S1.lt⟩, fun a ha => s1 a (sub a ha)⟩, by simp [l1], sh2 _ fun m hm => by cases hm⟩
end

/-! ## comprehensions -/
def fTurn (own : List Nat) (tg : Tg) (fc fe : Slots → Option (RV × Slots)) (x : PyData) (e1 : Slots) : Option (Option PyData × Slots) :=
  (bindT [] tg x e1).bind fun e2 => (fc e2).bind fun c => match c.1 with
    | .ow (.d (.bool true)) => (fe c.2).bind fun y => match y.1 with
      | .ow (.d y0) => some (some y0, wipeE y.2 own)
      | _ => none
    | .ow (.d (.bool false)) => some (none, wipeE c.2 own)
    | _ => none
def fComp (own : List Nat) (tg : Tg) (fI : Slots → Option (IV × Slots)) (fc fe : Slots → Option (RV × Slots)) (e : Slots) : Option (RV × Slots) :=
  (fI e).bind fun r => (compL (fTurn own tg fc fe) r.1.1 (wipeE (lockE r.1.2 r.1.1 r.2) own)).bind fun q =>
    if q.1.length ≤ sizeLine then some (.ow (.lst q.1), openE r.1.2 r.1.1 (fillE q.2 r.2 own)) else none
theorem lockE_len : ∀ (lk : Option Nat) (xs : List PyData) (e : Slots), (lockE lk xs e).length = e.length
  | none, _, _ => rfl
  | some k, xs, e => by simp [lockE]
theorem openE_sh {lk : Option Nat} {xs : List PyData} {e : Slots} {j : Nat} {m : M} (h : (openE lk xs e)[j]? = some (some m)) (hm : isSh m = true) : e[j]? = some (some m) ∧ ∀ k, lk = some k → k ≠ j := by
  cases lk with
  | none => exact ⟨h, fun k q => by cases q⟩
  | some k =>
    have h' : (e.set k (some (.lst xs)))[j]? = some (some m) := h
    by_cases hk : k = j
    · subst hk
      by_cases hl : k < e.length
      · rw [List.getElem?_set_self hl] at h'
        cases h'; cases hm
      · rw [List.getElem?_eq_none (by simpa using hl)] at h'; cases h'
    · rw [List.getElem?_set_ne hk] at h'
      exact ⟨h', fun k' q => by cases q; exact hk⟩
theorem lockE_sh {lk : Option Nat} {xs : List PyData} {e : Slots} {j : Nat} {m : M} (h : (lockE lk xs e)[j]? = some (some m)) (hk : ∀ k, lk = some k → k ≠ j) : e[j]? = some (some m) := by
  cases lk with
  | none => exact h
  | some k =>
    have h' : (e.set k (some (.sh xs)))[j]? = some (some m) := h
    rw [List.getElem?_set_ne (hk k rfl)] at h'
    exact h'
section
variable {K : PySem.W.Frag} {L : List Addr} {H : Hp} {F : List Addr} {σ : L2.St} {Q : VK} {fc fe : Slots → Option (RV × Slots)} {fI : Slots → Option (IV × Slots)} {own : List Nat} {tg : Tg}
/-- where a comprehension stands behind i turns -/
structure At (K : PySem.W.Frag) (LL : List Addr) (σw : L2.St) (e0 : Slots) (F0 : List Addr) (H1 : Hp) (D : Addr) (own : List Nat) (Hc : Hp) (ec : Slots) (Fc : List Addr) (ys : List PyData) (acc : List V) : Prop where
  st : Ste K LL Hc σw ec Fc
  frm : Frm F0 H1 Hc
  new : ∀ a ∈ Fc, a ∈ F0 ∨ H1 a = none
  d : Hc D = some (.lst acc)
  dF : D ∉ Fc
  dps : DpAll K Hc acc ys
  pu : pureL ys = true
  sh : SameSh e0 ec
  len : ec.length = e0.length
  out : ∀ i ∈ own, ∀ m, ec[i]? ≠ some (some m)
theorem xp_frm1 {K : PySem.W.Frag} {L : List Addr} {H H' : Hp} {F G F' : List Addr} {σ : L2.St} {e e' : Slots} (X : XPw K L H F σ e e' H' G F') {D : Addr} {o : HO} (h : H D = some o) (hF : D ∉ F) : H' D = some o ∧ D ∉ F' := by
  refine ⟨X.frm D o h hF, fun z => ?_⟩
  rcases X.new D (List.mem_append_right _ z) with q | q
  · exact hF q
  · rw [h] at q; cases q
theorem xp_len {K : PySem.W.Frag} {L : List Addr} {H H' : Hp} {F G F' : List Addr} {σ : L2.St} {e e' : Slots} (S : Ste K L H σ e F) (X : XPw K L H F σ e e' H' G F') : e'.length = e.length := by
  rw [← S.lenE, ← (X.ste S).lenE]
theorem t_comp (htg : ∀ i ∈ tgSlots tg, i ∈ own) (h : tE K (fComp own tg fI fc fe) σ H Q) : tLc (tI K fI) (gT K tg) (tT K fc) (tE K fe) own σ H Q := by
  obtain ⟨L, e, F, r, e', S, he, q⟩ := h
  unfold fComp at he
  obtain ⟨⟨⟨xs, lk⟩, e1⟩, h1, he⟩ := Option.bind_eq_some_iff.mp he
  obtain ⟨⟨ys, e2⟩, h2, he⟩ := Option.bind_eq_some_iff.mp he
  dsimp only at h2 he
  split at he
  · rename_i hz
    cases he
    refine ⟨L, e, F, xs, lk, e1, S, h1, fun J H1 G F1 vs st A W wk hd hp hst stab lo D hD => ?_⟩
    obtain ⟨Fl, Sl, sl⟩ := lock_in S W lo hd hp
    obtain ⟨F0, S0', s0⟩ := Sl.wipe2 (σ2 := wipe σ own) own (wipe_length σ own) fun i hi => wipe_in hi
    have hl := dps_len hd
    have nD : ∀ a ∈ A ++ L, a ≠ D := fun a ha z => by
      obtain ⟨o, ho⟩ := S0'.lt a ha
      rw [z, hD] at ho; cases ho
    have e0len : (wipeE (lockE lk xs e1) own).length = e1.length := by rw [wipeE_len, lockE_len]
    let Pv : Nat → Hp → Prop := fun i Hc => st Hc ∧ ∃ ec Fc ys1 ys2 acc, At K (A ++ L) (wipe σ own) (wipeE (lockE lk xs e1) own) F0 H1 D own Hc ec Fc ys1 acc ∧
      compL (fTurn own tg fc fe) (xs.drop i) ec = some (ys2, e2) ∧ ys1 ++ ys2 = ys
    have start : Pv 0 (upd H1 D (.lst [])) := by
      have f0 : Frm [] H1 (upd H1 D (.lst [])) := Frm.new hD []
      have S0 := S0'.frm f0 (fun a ha => by cases ha) (fun a ha => by cases ha) (fun a ha => by cases ha)
      refine ⟨stab _ _ [] f0 (fun a ha => by cases ha) (fun a ha => by cases ha) hst, _, F0, [], ys, [], ⟨S0, Frm.new hD F0, fun a ha => .inl ha, upd_same, fun z => ?_, .nil, rfl, fun _ _ h _ => h, rfl, fun i hi m => wipeE_in hi⟩, h2, rfl⟩
      obtain ⟨o, ho⟩ := S0'.trk z
      rw [hD] at ho; cases ho
    refine ⟨fun i m Hc => m = vs.length - i ∧ i ≤ vs.length ∧ Pv i Hc, ⟨_, rfl, Nat.zero_le _, start⟩, ?_⟩
    rintro i m Hc ⟨rfl, hi, hsc, ec, Fc, ys1, ys2, acc, T, hc, hy⟩
    by_cases hlt : i < vs.length
    · refine .inr ⟨wk.go i Hc hsc hlt, Pv (i + 1), fun H' p' => ⟨vs.length - (i + 1), by omega, rfl, hlt, p'⟩, fun x Hx hyl => ?_⟩
      obtain ⟨e0, hx⟩ := wk.yld i Hc x Hx hsc hyl
      subst e0
      have hx := hx hlt
      have hdc : DpAll K Hx vs xs := dps_frm T.frm S0'.mutAt _ _ hp hd
      have hix : i < xs.length := by omega
      have hdrop : xs.drop i = xs[i] :: xs.drop (i + 1) := List.drop_eq_getElem_cons hix
      obtain ⟨x', hx', hdx⟩ := dps_get hdc (List.getElem?_eq_getElem hix)
      rw [hx] at hx'; cases hx'
      have hpx : pureD xs[i] = true := pureL_get hp (List.getElem?_eq_getElem hix)
      rw [hdrop, compL] at hc
      obtain ⟨⟨yo, en⟩, c1, c2⟩ := Option.bind_eq_some_iff.mp hc
      obtain ⟨⟨ys3, e3⟩, c3, c4⟩ := Option.map_eq_some_iff.mp c2
      cases c4
      dsimp only at c3
      unfold fTurn at c1
      obtain ⟨eb, b1, c1⟩ := Option.bind_eq_some_iff.mp c1
      obtain ⟨⟨rc, e4⟩, b2, c1⟩ := Option.bind_eq_some_iff.mp c1
      obtain ⟨b, hb, c1⟩ := cut_bool (C := none) c1
      dsimp only at hb c1
      subst hb
      obtain ⟨σb, Fb, gg, Sb, sb, to, _⟩ := bindT_ok T.st b1 hdx hpx
      have hσb : wipe σb own = wipe (wipe σ own) own := wipe_eq to.len.1 fun j hj => (to.out j fun z => hj (htg j z)).1
      have hww : wipe (wipe σ own) own = wipe σ own := wipe_eq (wipe_length σ own) fun j hj => wipe_in hj
      have hDb : D ∉ Fb := fun z => T.dF (sb D z)
      refine gg _ ⟨hσb.trans hww, A ++ L, eb, Fb, b, e4, Sb, b2, fun H3 F3 X3 => ?_⟩
      have S3 := X3.ste Sb
      obtain ⟨d3, dF3⟩ := xp_frm1 X3 T.d hDb
      have new3 : ∀ a ∈ F3, a ∈ F0 ∨ H1 a = none := fun a ha => by
        rcases X3.new a (by simpa using ha) with z | z
        · exact T.new a (sb a z)
        · by_cases hf : a ∈ F0
          · exact .inl hf
          · cases hH : H1 a with
            | none => exact .inr rfl
            | some o => rw [T.frm a o hH hf] at z; cases z
      have frm3 : Frm F0 H1 H3 := T.frm.tr X3.frm fun a ha => T.new a (sb a ha)
      have st3 : st H3 := stab _ _ Fb X3.frm Sb.mutAt Sb.dj hsc
      -- behind a turn: the names are forgotten again
      have endT : ∀ {H4 : Hp} {e5 : Slots} {F4 : List Addr}, Ste K (A ++ L) H4 σb e5 F4 → (∀ a ∈ F4, a ∈ F0 ∨ H1 a = none) → Frm F0 H1 H4 → SameSh eb e5 → e5.length = eb.length → D ∉ F4 →
          ∃ F5, Ste K (A ++ L) H4 (wipe σ own) (wipeE e5 own) F5 ∧ (∀ a ∈ F5, a ∈ F0 ∨ H1 a = none) ∧ D ∉ F5 ∧ SameSh (wipeE (lockE lk xs e1) own) (wipeE e5 own) ∧ (wipeE e5 own).length = (wipeE (lockE lk xs e1) own).length ∧ ∀ i ∈ own, ∀ m, (wipeE e5 own)[i]? ≠ some (some m) := by
        intro H4 e5 F4 S4 n4 f4 sh4 l4 d4
        obtain ⟨F5, S5, s5⟩ := S4.wipe2 (σ2 := wipe σb own) own (wipe_length σb own) fun j hj => wipe_in hj
        rw [hσb, hww] at S5
        refine ⟨F5, S5, fun a ha => n4 a (s5 a ha), fun z => d4 (s5 D z), fun j m hj hm => ?_, ?_, fun j hj m => wipeE_in hj⟩
        · exact T.sh j m (to.sh j m (sh4 j m (wipeE_sh hj) hm) hm).1 hm
        · rw [wipeE_len, l4, to.len.2, T.len]
      have l4 := xp_len Sb X3
      cases b with
      | false =>
        cases c1
        obtain ⟨F5, S5, n5, d5, sh5, l5, o5⟩ := endT S3 new3 frm3 X3.sh l4 dF3
        exact ⟨st3, _, F5, ys1, ys3, acc, ⟨S5, frm3, n5, d3, d5, dps_frm (T.frm.tr X3.frm (fun a ha => T.new a (sb a ha)) |> fun _ => X3.frm) Sb.mutAt _ _ T.pu T.dps, T.pu, sh5, l5, o5⟩, c3, hy⟩
      | true =>
        obtain ⟨⟨ry, e6⟩, b3, c1⟩ := Option.bind_eq_some_iff.mp c1
        dsimp only at c1
        split at c1
        · rename_i y0
          cases c1
          refine ⟨A ++ L, e4, F3, _, e6, S3, b3, fun w H4 X4 => ?_⟩
          obtain ⟨hw, hpw, F4, X4⟩ := X4.pd
          have S4 := X4.ste S3
          obtain ⟨d4, dF4⟩ := xp_frm1 X4 d3 dF3
          have new4 : ∀ a ∈ F4, a ∈ F0 ∨ H1 a = none := fun a ha => by
            rcases X4.new a (by simpa using ha) with z | z
            · exact new3 a z
            · by_cases hf : a ∈ F0
              · exact .inl hf
              · cases hH : H1 a with
                | none => exact .inr rfl
                | some o => rw [frm3 a o hH hf] at z; cases z
          have frm4 : Frm F0 H1 H4 := frm3.tr X4.frm new3
          have st4 : st H4 := stab _ _ F3 X4.frm S3.mutAt S3.dj st3
          obtain ⟨F5, S5, n5, d5, sh5, l5, o5⟩ := endT S4 new4 frm4 (fun j m h q => X3.sh j m (X4.sh j m h q) q) ((xp_len S3 X4).trans l4) dF4
          have hD1 : MutAt H4 [D] := fun a ha => by rw [List.mem_singleton.mp ha, d4]; trivial
          have fD : Frm [D] H4 (upd H4 D (.lst (acc ++ [w]))) := Frm.put (by simp)
          have hlen : acc.length = ys1.length := dps_len T.dps
          have hdps4 : DpAll K H4 acc ys1 := dps_frm X4.frm S3.mutAt _ _ T.pu (dps_frm X3.frm Sb.mutAt _ _ T.pu T.dps)
          have hpu : pureL (ys1 ++ [y0]) = true := pureL_app T.pu (by rw [pureL, hpw]; rfl)
          refine ⟨acc, d4, ?_, ?_, wipeE e6 own, F5, ys1 ++ [y0], ys3, acc ++ [w], ⟨?_, ?_, n5, upd_same, d5, ?_, hpu, sh5, l5, o5⟩, c3, ?_⟩
          · rw [hlen]
            have : ys.length = ys1.length + (ys3.length + 1) := by rw [← hy]; simp
            omega
          · exact stab _ _ [D] fD hD1 (fun a ha z => nD a z (List.mem_singleton.mp ha)) st4
          · exact S5.frm fD hD1 (fun a ha z => d5 (by rw [← List.mem_singleton.mp ha]; exact z)) (fun a ha z => nD a z (List.mem_singleton.mp ha))
          · intro b o hb hn
            have : b ≠ D := fun z => by rw [z, hD] at hb; cases hb
            rw [upd_ne this]
            exact frm4 b o hb hn
          · exact dps_frm fD hD1 _ _ hpu (dps_app hdps4 (.cons hw .nil))
          · rw [← hy]; simp
        · cases c1
    · have ei : i = vs.length := by omega
      subst ei
      refine .inl ⟨wk.stop _ Hc hsc (Nat.le_refl _), ?_⟩
      rw [List.drop_eq_nil_of_le (by omega), compL] at hc
      cases hc
      rw [List.append_nil] at hy
      subst hy
      -- the names stand as ahead of it
      have Sσ : Ste K (A ++ L) Hc σ e2 Fc := T.st.congr (wipe_length σ own).symm fun j m hj => (wipe_in fun z => T.out j z m hj).symm
      have dl : ∀ a ∈ F0, a ∉ L := fun a ha z => S0'.dj a ha (List.mem_append_right _ z)
      obtain ⟨FW, erW, pW⟩ := W.er
      have pur : ∀ (i : Nat) (x : PyData), e1[i]? = some (some (.d x)) → ∃ v, σ[i]? = some (some v) ∧ Dp K Hc v x ∧ pureD x = true := fun i x hx => by
        obtain ⟨v, k1, k2⟩ := shRep erW hx rfl
        exact ⟨v, k1, dp_frm T.frm S0'.mutAt _ _ k2.2.2 k2.2.1, k2.2.2⟩
      have hlen2 : e2.length = e1.length := by rw [T.len, e0len]
      obtain ⟨⟨F2, S2, s2⟩, l2, sh2⟩ := Sσ.filled pur hlen2 own
      have lke : ∀ (j : Nat) (m : M), (fillE e2 e1 own)[j]? = some (some m) → isSh m = true → (lockE lk xs e1)[j]? = some (some m) := fun j m hj hm => wipeE_sh (T.sh j m (sh2 j m hj hm) hm)
      have f0l : Frm Fl H1 Hc := T.frm.mono s0
      obtain ⟨F3, er3, nd3, in3, inA⟩ := lock_out S W lo hd hp Sl f0l S2 (fun j m hj hm => ⟨lke j m hj hm, rfl⟩) (fun k hk => ⟨rfl, by
        rw [l2, hlen2]
        subst hk
        obtain ⟨_, a, _, _, _, hk1⟩ := lo
        exact (List.getElem?_eq_some_iff.mp hk1).1⟩)
      have trkA : ∀ a ∈ lkA lk A, a ≠ D := fun a ha => by
        cases lk with
        | none => cases ha
        | some k => exact nD a (List.mem_append_left _ ha)
      have hD3 : D ∉ F3 := fun z => by
        rcases in3 D z with k | k
        · exact T.dF (s2 D k)
        · exact trkA D k rfl
      have hDn : ∀ a, H1 a = none → a ∈ F ∨ H a = none := fun a ha => by
        by_cases hf : a ∈ F
        · exact .inl hf
        · cases hH : H a with
          | none => exact .inr rfl
          | some o => rw [W.frm a o hH hf] at ha; cases ha
      refine q (.ref D) Hc ⟨[D], F3, ⟨⟨F3, er3, .refl _⟩, ?_, fun a ha => ?_, ?_, ?_, fun j m hj hm => ?_⟩, D, acc, rfl, rfl, T.d, T.dps, T.pu⟩
      · exact List.nodup_append.mpr ⟨by simp, nd3, fun a ha b hb z => by
          subst z
          rw [List.mem_singleton.mp ha] at hb
          exact hD3 hb⟩
      · rcases List.mem_append.mp ha with z | z
        · rw [List.mem_singleton.mp z]; exact hDn D hD
        · rcases in3 a z with k | k
          · rcases T.new a (s2 a k) with k2 | k2
            · exact W.new a (List.mem_append_right _ (sl a (s0 a k2)))
            · exact hDn a k2
          · exact W.new a (List.mem_append_right _ (inA a k))
      · exact W.frm.tr T.frm fun a ha => W.new a (List.mem_append_right _ (sl a (s0 a ha)))
      · intro a ha
        rw [List.mem_singleton.mp ha, T.d]; trivial
      · obtain ⟨k1, k2⟩ := openE_sh hj hm
        exact W.sh j m (lockE_sh (lke j m k1 hm) k2) hm
  · cases he
end

/-! ## statements -/
structure XS (K : PySem.W.Frag) (L : List Addr) (H : Hp) (F : List Addr) (pin : List Nat) (σ : L2.St) (e : Slots) (σ' : L2.St) (e' : Slots) (H' : Hp) (G F' : List Addr) : Prop where
  st : Ste K L H' σ' e' F'
  nd : (G ++ F').Nodup
  new : ∀ a ∈ G ++ F', a ∈ F ∨ H a = none
  frm : Frm F H H'
  sh : ∀ (j : Nat) (m : M), e'[j]? = some (some m) → isSh m = true → e[j]? = some (some m) ∧ σ'[j]? = σ[j]?
  pin : ∀ j ∈ pin, σ'[j]? = σ[j]?
  len : σ'.length = σ.length
/-- what is wanted behind a statement that ends so -/
def Wd (D : Ends) (fl : Fl) (K : PySem.W.Frag) (L : List Addr) (σ : L2.St) (H : Hp) (G : List Addr) : Prop :=
  match fl with
  | .nx => G = [] → D.nx σ H
  | .bk => G = [] → D.bk σ H
  | .ct => G = [] → D.ct σ H
  | .rt m => ∀ v, Rep K L H v m G → D.rt v H
def tS (K : PySem.W.Frag) (pin : List Nat) (f : Slots → Option (Fl × Slots)) : TS := fun D σ H =>
  ∃ L e F fl e', Ste K L H σ e F ∧ f e = some (fl, e') ∧ ∀ σ' H' G F', XS K L H F pin σ e σ' e' H' G F' → Wd D fl K L σ' H' G
section
variable {K : PySem.W.Frag} {L L' A : List Addr} {H H' H1 H2 : Hp} {F F' F1 F2 G G1 G2 : List Addr} {σ σ' σ1 σ2 : L2.St} {e e' e1 e2 : Slots} {r : RV} {v : V} {Q : VK} {fa fb fc fe : Slots → Option (RV × Slots)} {xs : List PyData} {vs : List V} {lk : Option Nat} {D : Ends} {pin : List Nat} {f g : Slots → Option (Fl × Slots)}
theorem XS.refl (S : Ste K L H σ e F) : XS K L H F pin σ e σ e H [] F := ⟨S, by simpa using S.nd, fun a ha => .inl (by simpa using ha), Frm.refl, fun _ _ h _ => ⟨h, rfl⟩, fun _ _ => rfl, rfl⟩
theorem XPw.toS (S : Ste K L H σ e F) (X : XPw K L H F σ e e' H' G F') : XS K L H F pin σ e σ e' H' G F' := ⟨X.ste S, X.nd, X.new, X.frm, fun j m h q => ⟨X.sh j m h q, rfl⟩, fun _ _ => rfl, rfl⟩
theorem XS.tr (A : XS K L H F pin σ e σ1 e1 H1 [] F1) (B : XS K L H1 F1 pin σ1 e1 σ2 e2 H2 G F2) : XS K L H F pin σ e σ2 e2 H2 G F2 where
  st := B.st
  nd := B.nd
  new := fun a ha => by
    rcases B.new a ha with q | q
    · exact A.new a (by simpa using q)
    · by_cases hf : a ∈ F
      · exact .inl hf
      · cases hH : H a with
        | none => exact .inr rfl
        | some o => rw [A.frm a o hH hf] at q; cases q
  frm := A.frm.tr B.frm fun a ha => A.new a (by simpa using ha)
  sh := fun j m h q => by
    obtain ⟨h1, h2⟩ := B.sh j m h q
    obtain ⟨h3, h4⟩ := A.sh j m h1 q
    exact ⟨h3, h2.trans h4⟩
  pin := fun j hj => (B.pin j hj).trans (A.pin j hj)
  len := B.len.trans A.len
/-- names are set -/
theorem XS.sto {is : List Nat} (S : Ste K L H σ e F) (S2 : Ste K L H σ2 e2 F2) (sub : ∀ a ∈ F2, a ∈ F) (t : Sto is σ e σ2 e2) (hp : ∀ j ∈ pin, j ∉ is) : XS K L H F pin σ e σ2 e2 H [] F2 :=
  ⟨S2, by simpa using S2.nd, fun a ha => .inl (sub a (by simpa using ha)), Frm.refl, t.sh, fun j hj => (t.out j (hp j hj)).1, t.len.1⟩
theorem s_skip (h : tS K pin (fun e => some (.nx, e)) D σ H) : tNext D σ H := by
  obtain ⟨L, e, F, fl, e', S, he, q⟩ := h
  cases he
  exact q σ H [] F (.refl S) rfl
theorem s_brk (h : tS K pin (fun e => some (.bk, e)) D σ H) : tBreak D σ H := by
  obtain ⟨L, e, F, fl, e', S, he, q⟩ := h
  cases he
  exact q σ H [] F (.refl S) rfl
theorem s_cnt (h : tS K pin (fun e => some (.ct, e)) D σ H) : tCont D σ H := by
  obtain ⟨L, e, F, fl, e', S, he, q⟩ := h
  cases he
  exact q σ H [] F (.refl S) rfl
theorem s_fail {t : TS} (h : tS K pin (fun _ => none) D σ H) : t D σ H := by
  obtain ⟨L, e, F, fl, e', S, he, q⟩ := h
  cases he
def fSq (f g : Slots → Option (Fl × Slots)) (e : Slots) : Option (Fl × Slots) :=
  (f e).bind fun r => match r.1 with
    | .nx => g r.2
    | .rt m => some (.rt m, r.2)
    | .bk => some (.bk, r.2)
    | .ct => some (.ct, r.2)
theorem s_seq (h : tS K pin (fSq f g) D σ H) : tSeq (tS K pin f) (tS K pin g) D σ H := by
  obtain ⟨L, e, F, fl, e', S, he, q⟩ := h
  obtain ⟨⟨fl1, e1⟩, h1, h2⟩ := Option.bind_eq_some_iff.mp he
  refine ⟨L, e, F, fl1, e1, S, h1, fun σ1 H1 G F1 X => ?_⟩
  cases fl1 with
  | nx =>
    intro hG
    subst hG
    exact ⟨L, e1, F1, fl, e', X.st, h2, fun σ2 H2 G2 F2 Y => q σ2 H2 G2 F2 (X.tr Y)⟩
  | rt m => cases h2; exact q σ1 H1 G F1 X
  | bk => cases h2; exact q σ1 H1 G F1 X
  | ct => cases h2; exact q σ1 H1 G F1 X
def fSet (pin : List Nat) (i : Nat) (fa : Slots → Option (RV × Slots)) (e : Slots) : Option (Fl × Slots) :=
  if i ∈ pin then none else (fa e).bind fun r => match r.1 with
    | .ow m => if shAt r.2 i || isSh m then none else some (.nx, r.2.set i (some m))
    | _ => none
theorem s_set {i : Nat} {te : TE} (ht : ∀ σ H Q, tE K fa σ H Q → te σ H Q) (hi : i < σ.length) (h : tS K pin (fSet pin i fa) D σ H) : tAsg te (gName i) D σ H := by
  obtain ⟨L, e, F, fl, e', S, he, q⟩ := h
  unfold fSet at he
  split at he
  · cases he
  · rename_i hp
    obtain ⟨⟨ra, e1⟩, h1, h2⟩ := Option.bind_eq_some_iff.mp he
    dsimp only at h2
    split at h2
    · rename_i m
      split at h2
      · cases h2
      · rename_i hs
        cases h2
        simp only [Bool.or_eq_true, not_or, Bool.not_eq_true] at hs
        refine ht σ H _ ⟨L, e, F, _, e1, S, h1, fun v H1 ⟨G, F1, X, hh⟩ => ?_⟩
        have S1 := X.ste S
        have hl : i < e1.length := by rw [← S1.lenE]; exact hi
        obtain ⟨F2, S2, s2⟩ := S1.set1 (i := i) hl hh X.nd fun a ha => X.dj S a (List.mem_append_left _ ha)
        have t : Sto [i] σ e1 (σ.set i (some v)) (e1.set i (some m)) := set_one hs.2
        refine q _ H1 [] F2 ⟨S2, by simpa using S2.nd, fun a ha => ?_, X.frm, fun j k hj hk => ?_, fun j hj => (t.out j fun z => hp (by rw [← List.mem_singleton.mp z]; exact hj)).1, t.len.1⟩ rfl
        · rcases s2 a (by simpa using ha) with z | z
          · exact X.new a (List.mem_append_left _ z)
          · exact X.new a (List.mem_append_right _ z)
        · obtain ⟨k1, k2⟩ := t.sh j k hj hk
          exact ⟨X.sh j k k1 hk, k2⟩
    · cases h2
theorem bindM_ok : ∀ {is : List Nat} {rs : List RV} {ms : List M} {vs : List V} {e e2 : Slots} {σ : L2.St} {G F : List Addr}, Ste K L H σ e F → HoldL K L H σ' rs vs G → owM rs = some ms → bindM is ms e = some e2 → (∀ i ∈ is, i < σ.length) → (G ++ F).Nodup → (∀ a ∈ G, a ∉ L) →
    ∃ σ2 F', (∀ R : L2.St → Hp → Prop, R σ2 H → gNames is vs σ H R) ∧ Ste K L H σ2 e2 F' ∧ (∀ a ∈ F', a ∈ G ∨ a ∈ F) ∧ Sto is σ e σ2 e2
  | [], rs, ms, vs, e, e2, σ, G, F, S, hl, ho, h, _, nd, dl => by
    cases ms with
    | cons m ms => cases h
    | nil =>
      cases h
      cases hl with
      | nil => exact ⟨σ, F, fun R h => ⟨rfl, h⟩, S, fun _ h => .inr h, .nil⟩
      | cons h1 h2 =>
        rename_i r _ _ rs _ _
        cases r with
        | ow m =>
          rw [owM] at ho
          obtain ⟨y, _, hy⟩ := Option.map_eq_some_iff.mp ho
          cases hy
        | al k => cases ho
  | i :: is, rs, ms, vs, e, e2, σ, G, F, S, hl, ho, h, hlen, nd, dl => by
    cases ms with
    | nil => cases h
    | cons m ms =>
      cases hl with
      | nil => cases ho
      | cons h1 h2 =>
        rename_i r v G1 rs vs G2
        cases r with
        | al k => cases ho
        | ow m0 =>
          rw [owM] at ho
          obtain ⟨y, ho, hy⟩ := Option.map_eq_some_iff.mp ho
          cases hy
          rw [bindM] at h
          split at h
          · cases h
          · rename_i hs
            simp only [Bool.or_eq_true, not_or, Bool.not_eq_true] at hs
            rw [List.append_assoc] at nd
            have n1 := List.nodup_append.mp nd
            have n2 := List.nodup_append.mp n1.2.1
            have nd1 : (G1 ++ F).Nodup := List.nodup_append.mpr ⟨n1.1, n2.2.1, fun a ha b hb z => n1.2.2 a ha b (List.mem_append_right _ hb) z⟩
            obtain ⟨F1, S1, s1⟩ := S.set1 (i := i) (by rw [← S.lenE]; exact hlen i List.mem_cons_self) h1 nd1 fun a ha => dl a (List.mem_append_left _ ha)
            have nd2 : (G2 ++ F1).Nodup := List.nodup_append.mpr ⟨n2.1, S1.nd, fun a ha b hb z => by
              subst z
              rcases s1 a hb with k | k
              · exact n1.2.2 a k a (List.mem_append_left _ ha) rfl
              · exact n2.2.2 a ha a k rfl⟩
            obtain ⟨σ2, F2, r, S2, s2, t⟩ := bindM_ok S1 h2 ho h (fun j hj => by rw [List.length_set]; exact hlen j (List.mem_cons_of_mem _ hj)) nd2 fun a ha => dl a (List.mem_append_right _ ha)
            refine ⟨σ2, F2, fun R hR => ⟨_, _, rfl, r R hR⟩, S2, fun a ha => ?_, (set_one hs.2).cons t⟩
            rcases s2 a ha with k | k
            · exact .inl (List.mem_append_right _ k)
            · rcases s1 a k with k | k
              · exact .inl (List.mem_append_left _ k)
              · exact .inr k
theorem holdL_frm : ∀ {rs : List RV} {vs : List V} {G : List Addr}, HoldL K L H σ rs vs G → Frm F H H' → MutAt H F → (∀ a ∈ F, a ∉ G) → (∀ a ∈ F, a ∉ L) → HoldL K L H' σ rs vs G
  | _, _, _, .nil, _, _, _, _ => .nil
  | _, _, _, .cons h1 h2, f, mu, d, dl => .cons (h1.frm f mu (fun a ha z => d a ha (List.mem_append_left _ z)) dl) (holdL_frm h2 f mu (fun a ha z => d a ha (List.mem_append_right _ z)) dl)
def fPar (pin is : List Nat) (fl : Slots → Option (List RV × Slots)) (e : Slots) : Option (Fl × Slots) :=
  if inPin pin is || !decide (is.length ≤ sizeLine) then none else (fl e).bind fun r => (owM r.1).bind fun ms => (bindM is ms r.2).map fun e => (.nx, e)
theorem inPin_not {pin is : List Nat} (h : ¬ inPin pin is = true) : ∀ j ∈ pin, j ∉ is := fun j hj z => h (by
  unfold inPin
  simp only [List.any_eq_true, decide_eq_true_eq]
  exact ⟨j, z, hj⟩)
theorem owM_len : ∀ {rs : List RV} {ms : List M}, owM rs = some ms → rs.length = ms.length
  | [], _, h => by cases h; rfl
  | .ow m :: rs, ms, h => by
    rw [owM] at h
    obtain ⟨y, h1, rfl⟩ := Option.map_eq_some_iff.mp h
    simp [owM_len h1]
  | .al k :: rs, ms, h => by cases h
theorem bindM_len : ∀ {is : List Nat} {xs : List M} {e e2 : Slots}, bindM is xs e = some e2 → xs.length = is.length
  | [], [], _, _, _ => rfl
  | i :: is, x :: xs, e, e2, h => by
    rw [bindM] at h
    split at h
    · cases h
    · simp [bindM_len h]
  | [], _ :: _, _, _, h => by cases h
  | _ :: _, [], _, _, h => by cases h
/-- a, b = x, y -/
theorem s_par {is : List Nat} {fl : Slots → Option (List RV × Slots)} (hi : ∀ i ∈ is, i < σ.length) (h : tS K pin (fPar pin is fl) D σ H) :
    tAsg (tTup (tL K fl)) (gTup K is.length (gNames is)) D σ H := by
  obtain ⟨L, e, F, fl0, e', S, he, q⟩ := h
  unfold fPar at he
  split at he
  · cases he
  · rename_i hp
    simp only [Bool.or_eq_true, not_or, Bool.not_eq_true', decide_eq_false_iff_not, Classical.not_not] at hp
    obtain ⟨⟨rs, e1⟩, h1, h2⟩ := Option.bind_eq_some_iff.mp he
    obtain ⟨ms, h3, h2⟩ := Option.bind_eq_some_iff.mp h2
    obtain ⟨e2, h4, h5⟩ := Option.map_eq_some_iff.mp h2
    cases h5
    refine ⟨L, e, F, rs, e1, S, h1, fun vs H1 G F1 X hh => ?_⟩
    have hlen : vs.length = is.length := by rw [← holdL_len hh, owM_len h3, bindM_len h4]
    refine ⟨by rw [hlen]; exact hp.2, fun p hn => ⟨p, vs, rfl, .inl (.inl upd_same), hlen, ?_⟩⟩
    have f0 : Frm [] H1 (upd H1 p (.tup vs)) := Frm.new hn []
    have S1 := (X.ste S).frm f0 (fun a ha => by cases ha) (fun a ha => by cases ha) (fun a ha => by cases ha)
    have hh1 := holdL_frm hh f0 (fun a ha => by cases ha) (fun a ha => by cases ha) (fun a ha => by cases ha)
    obtain ⟨σ2, F2, r, S2, s2, t⟩ := bindM_ok S1 hh1 h3 h4 hi X.nd fun a ha => X.dj S a (List.mem_append_left _ ha)
    refine r _ (q σ2 _ [] F2 ⟨S2, by simpa using S2.nd, fun a ha => ?_, X.frm.tr (f0.mono (G := F1) fun a ha => by cases ha) (fun a ha => X.new a (List.mem_append_right _ ha)), fun j k hj hk => ?_, fun j hj => (t.out j (inPin_not hp.1 j hj)).1, t.len.1⟩ rfl)
    · rcases s2 a (by simpa using ha) with z | z
      · exact X.new a (List.mem_append_left _ z)
      · exact X.new a (List.mem_append_right _ z)
    · obtain ⟨k1, k2⟩ := t.sh j k hj hk
      exact ⟨X.sh j k k1 hk, k2⟩
/-- .. where the pair itself is not made -/
theorem s_par2 {i j : Nat} {fl : Slots → Option (List RV × Slots)} (hi : ∀ k ∈ [i, j], k < σ.length) (h : tS K pin (fPar pin [i, j] fl) D σ H) : tPar i j (tL K fl) D σ H := by
  obtain ⟨L, e, F, fl0, e', S, he, q⟩ := h
  unfold fPar at he
  split at he
  · cases he
  · rename_i hp
    simp only [Bool.or_eq_true, not_or, Bool.not_eq_true', decide_eq_false_iff_not, Classical.not_not] at hp
    obtain ⟨⟨rs, e1⟩, h1, h2⟩ := Option.bind_eq_some_iff.mp he
    obtain ⟨ms, h3, h2⟩ := Option.bind_eq_some_iff.mp h2
    obtain ⟨e2, h4, h5⟩ := Option.map_eq_some_iff.mp h2
    cases h5
    refine ⟨L, e, F, rs, e1, S, h1, fun vs H1 G F1 X hh => ?_⟩
    obtain ⟨σ2, F2, r, S2, s2, t⟩ := bindM_ok (X.ste S) hh h3 h4 hi X.nd fun a ha => X.dj S a (List.mem_append_left _ ha)
    have fin : D.nx σ2 H1 := q σ2 _ [] F2 ⟨S2, by simpa using S2.nd, fun a ha => by
        rcases s2 a (by simpa using ha) with z | z
        · exact X.new a (List.mem_append_left _ z)
        · exact X.new a (List.mem_append_right _ z), X.frm, fun j k hj hk => by
        obtain ⟨k1, k2⟩ := t.sh j k hj hk
        exact ⟨X.sh j k k1 hk, k2⟩, fun j hj => (t.out j (inPin_not hp.1 j hj)).1, t.len.1⟩ rfl
    obtain ⟨v, r1, e0, w, r2, e3, e4, fin'⟩ := r D.nx fin
    subst e0 e3 e4
    exact ⟨v, w, rfl, fin'⟩
def fUnp (pin is : List Nat) (fa : Slots → Option (RV × Slots)) (e : Slots) : Option (Fl × Slots) :=
  if inPin pin is then none else (fa e).bind fun r => match r.1 with
    | .ow (.d (.tuple xs)) => (bindN is xs r.2).map fun e => (.nx, e)
    | _ => none
theorem s_unp {is : List Nat} (h : tS K pin (fUnp pin is fa) D σ H) : tAsg (tE K fa) (gTup K is.length (gNames is)) D σ H := by
  obtain ⟨L, e, F, fl0, e', S, he, q⟩ := h
  unfold fUnp at he
  split at he
  · cases he
  · rename_i hp
    obtain ⟨⟨ra, e1⟩, h1, h2⟩ := Option.bind_eq_some_iff.mp he
    dsimp only at h2
    split at h2
    · rename_i xs
      obtain ⟨e2, h4, h5⟩ := Option.map_eq_some_iff.mp h2
      cases h5
      refine ⟨L, e, F, _, e1, S, h1, fun v H1 X => ?_⟩
      obtain ⟨hd, hpx, F1, X1⟩ := X.pd
      cases hd with
      | tup hs ha =>
        obtain ⟨σ2, F2, r, S2, s2, t⟩ := bindN_ok (X1.ste S) h4 ha hpx
        have Y : XS K L H1 F1 pin σ e1 σ2 _ H1 [] F2 := .sto (X1.ste S) S2 s2 t (inPin_not hp)
        exact ⟨_, _, rfl, hs, by rw [dps_len ha]; exact bindN_len h4, r _ (q σ2 H1 [] F2 ((X1.toS S).tr Y) rfl)⟩
    · cases h2
def fSetI (k : Nat) (fi fa : Slots → Option (RV × Slots)) (e : Slots) : Option (Fl × Slots) :=
  (fa e).bind fun r => match r.2[k]? with
    | some (some (.lst _)) => (fi r.2).bind fun q => match r.1, q.1, q.2[k]? with
      | .ow (.d y), .ow (.d (.int n)), some (some (.lst xs)) => (ixN xs.length n).map fun j => (.nx, q.2.set k (some (.lst (xs.set j y))))
      | _, _, _ => none
    | _ => none
theorem s_setI {k : Nat} {fi : Slots → Option (RV × Slots)} (h : tS K pin (fSetI k fi fa) D σ H) : tAsg (tE K fa) (gSub (tVar k) (tE K fi) rSetL) D σ H := by
  obtain ⟨L, e, F, fl0, e', S, he, q⟩ := h
  unfold fSetI at he
  obtain ⟨⟨ra, e1⟩, h1, h2⟩ := Option.bind_eq_some_iff.mp he
  dsimp only at h2
  split at h2
  · rename_i xs0 hk0
    obtain ⟨⟨ri, e2⟩, h3, h2⟩ := Option.bind_eq_some_iff.mp h2
    dsimp only at h2 h3
    split at h2
    · rename_i y n xs hk _
      obtain ⟨j, hj, h5⟩ := Option.map_eq_some_iff.mp h2
      cases h5
      refine ⟨L, e, F, _, e1, S, h1, fun v H1 X => ?_⟩
      obtain ⟨hd, hpy, F1, X1⟩ := X.pd
      have S1 := X1.ste S
      obtain ⟨a0, vs0, ha0, _⟩ := S1.at hk0
      refine ⟨.ref a0, ha0, L, e1, F1, _, e2, S1, h3, fun v2 H2 X2 => ?_⟩
      obtain ⟨rfl, F2, X2⟩ := X2.it
      have S2 := X2.ste S1
      obtain ⟨a, ws, ha, hH, hd2, hp2, _⟩ := S2.at hk
      rw [ha0] at ha
      cases ha
      have W := S2.put (ws := ws.set j v) hk ha0 (dps_set hd2 (dp_frm X2.frm S1.mutAt _ _ hpy hd)) (by
        rw [pureL_iff] at hp2 ⊢
        intro z hz
        rcases List.mem_or_eq_of_mem_set hz with k | k
        · exact hp2 z k
        · rw [k]; exact hpy)
      exact ⟨a0, ws, n, j, rfl, rfl, hH, by rw [dps_len hd2]; exact hj, q σ _ [] F2 ((XPw.toS S (tr0 S X1 (tr0 S1 X2 W)))) rfl⟩
    · cases h2
  · cases h2
end

section
variable {K : PySem.W.Frag} {L L' A : List Addr} {H H' H1 H2 : Hp} {F F' F1 F2 G G1 G2 : List Addr} {σ σ' σ1 σ2 : L2.St} {e e' e1 e2 : Slots} {r : RV} {v : V} {Q : VK} {fa fb fc fe : Slots → Option (RV × Slots)} {ps : List PyData} {vs : List V} {lk : Option Nat} {D : Ends} {pin : List Nat} {f g : Slots → Option (Fl × Slots)}
/-! ## x op= e -/
def fAug (pin : List Nat) (o : O2) (i : Nat) (fa : Slots → Option (RV × Slots)) (e : Slots) : Option (Fl × Slots) :=
  (fa e).bind fun r => match e[i]?, r.1 with
    | some (some (.d (.int x))), .ow (.d (.int y)) => if i ∈ pin || shAt r.2 i then none else (aug2 o x y).map fun z => (.nx, r.2.set i (some (dI z)))
    | some (some (.lst _)), .ow (.lst ys) => match o, r.2[i]? with
      | .add, some (some (.lst xs)) => if xs.length + ys.length ≤ sizeLine then some (.nx, r.2.set i (some (.lst (xs ++ ys)))) else none
      | _, _ => none
    | some (some (.lst _)), .ow (.d (.tuple ys)) => match o, r.2[i]? with
      | .add, some (some (.lst xs)) => if xs.length + ys.length ≤ sizeLine then some (.nx, r.2.set i (some (.lst (xs ++ ys)))) else none
      | _, _ => none
    | _, _ => none
def rAug (K : PySem.W.Frag) (o : O2) : TIp := fun x y H Q => (∃ i j z, x = .int i ∧ y = .int j ∧ aug2 o i j = some z ∧ Q (.int z) H) ∨ (o = .add ∧ (rExt2 x y H Q ∨ rExtT K x y H Q))
theorem s_aug {o : O2} {i : Nat} (h : tS K pin (fAug pin o i fa) D σ H) : tAug i (tE K fa) (rAug K o) D σ H := by
  obtain ⟨L, e, F, fl0, e', S, he, q⟩ := h
  unfold fAug at he
  obtain ⟨⟨ra, e1⟩, h1, h2⟩ := Option.bind_eq_some_iff.mp he
  dsimp only at h2
  split at h2
  · rename_i x y hx
    split at h2
    · cases h2
    · rename_i hp
      simp only [Bool.or_eq_true, decide_eq_true_eq, not_or, Bool.not_eq_true] at hp
      obtain ⟨z, hz, h5⟩ := Option.map_eq_some_iff.mp h2
      cases h5
      obtain ⟨F0, er, _⟩ := S.er
      obtain ⟨w, hw, hr⟩ := shRep er hx rfl
      have ew : w = .int x := dp_int hr.2.1
      subst ew
      refine ⟨_, hw, L, e, F, _, e1, S, h1, fun v H1 X => ?_⟩
      obtain ⟨rfl, F1, X1⟩ := X.it
      have S1 := X1.ste S
      obtain ⟨F2, S2, s2⟩ := S1.setD (i := i) (v := .int z) (.int z) rfl
      have t : Sto [i] σ e1 (σ.set i (some (.int z))) (e1.set i (some (dI z))) := set_one rfl
      have Y : XS K L H1 F1 pin σ e1 _ _ H1 [] F2 := .sto S1 S2 s2 t fun j hj k => hp.1 (by rw [← List.mem_singleton.mp k]; exact hj)
      exact .inl ⟨x, y, z, rfl, rfl, hz, q _ H1 [] F2 ((X1.toS S).tr Y) rfl⟩
  · rename_i ys0 ys hx
    split at h2
    · rename_i xs hk
      split at h2
      · rename_i hz
        cases h2
        obtain ⟨a0, vs0, ha0, _⟩ := S.at hx
        refine ⟨.ref a0, ha0, L, e, F, _, e1, S, h1, fun v H1 ⟨G, F1, X, hh⟩ => ?_⟩
        obtain ⟨b, ws, rfl, rfl, k1, k2, k3⟩ := hh
        have S1 := X.ste S
        obtain ⟨a, vs, ha, hH, hd, hp, _⟩ := S1.at hk
        rw [ha0] at ha
        cases ha
        have W := S1.put (ws := vs ++ ws) hk ha0 (dps_app hd k2) (pureL_app hp k3)
        have Z : XS K L H F pin σ e σ _ (upd H1 a0 (.lst (vs ++ ws))) [] F1 :=
          ⟨W.ste S1, by simpa using (W.ste S1).nd, fun c hc => X.new c (List.mem_append_right _ (by simpa using hc)), X.frm.tr W.frm fun c hc => X.new c (List.mem_append_right _ hc), fun j m h q => ⟨X.sh j m (W.sh j m h q) q, rfl⟩, fun _ _ => rfl, rfl⟩
        refine .inr ⟨rfl, .inl ⟨a0, b, vs, ws, rfl, rfl, hH, k1, by rw [dps_len hd, dps_len k2]; exact hz, ?_⟩⟩
        show D.nx (σ.set i (some (.ref a0))) _
        rw [st_set_self ha0]
        exact q σ _ [] F1 Z rfl
      · cases h2
    · cases h2
  · rename_i ys0 ys hx
    split at h2
    · rename_i xs hk
      split at h2
      · rename_i hz
        cases h2
        obtain ⟨a0, vs0, ha0, _⟩ := S.at hx
        refine ⟨.ref a0, ha0, L, e, F, _, e1, S, h1, fun v H1 ⟨G, F1, X, hh⟩ => ?_⟩
        obtain ⟨rfl, hh⟩ := hh
        obtain ⟨b, ws, rfl, k1, k2, k3⟩ := repR_tup hh
        have S1 := X.ste S
        obtain ⟨a, vs, ha, hH, hd, hp, _⟩ := S1.at hk
        rw [ha0] at ha
        cases ha
        have W := S1.put (ws := vs ++ ws) hk ha0 (dps_app hd k2) (pureL_app hp k3)
        have Z : XS K L H F pin σ e σ _ (upd H1 a0 (.lst (vs ++ ws))) [] F1 :=
          ⟨W.ste S1, by simpa using (W.ste S1).nd, fun c hc => X.new c (List.mem_append_right _ (by simpa using hc)), X.frm.tr W.frm fun c hc => X.new c (List.mem_append_right _ hc), fun j m h q => ⟨X.sh j m (W.sh j m h q) q, rfl⟩, fun _ _ => rfl, rfl⟩
        refine .inr ⟨rfl, .inr ⟨a0, b, vs, ws, rfl, rfl, hH, k1, by rw [dps_len hd, dps_len k2]; exact hz, ?_⟩⟩
        show D.nx (σ.set i (some (.ref a0))) _
        rw [st_set_self ha0]
        exact q σ _ [] F1 Z rfl
      · cases h2
    · cases h2
  · cases h2

/-! ## an expression alone, return, if -/
theorem s_ex (h : tS K pin (fun e => (fa e).map fun r => (.nx, r.2)) D σ H) : tDrop (tE K fa) D σ H := by
  obtain ⟨L, e, F, fl0, e', S, he, q⟩ := h
  obtain ⟨⟨ra, e1⟩, h1, h5⟩ := Option.map_eq_some_iff.mp he
  cases h5
  refine ⟨L, e, F, _, e1, S, h1, fun v H1 ⟨G, F1, X, _⟩ => ?_⟩
  exact q σ H1 [] F1 ⟨X.ste S, by simpa using (X.ste S).nd, fun a ha => X.new a (List.mem_append_right _ (by simpa using ha)), X.frm, fun j m h q => ⟨X.sh j m h q, rfl⟩, fun _ _ => rfl, rfl⟩ rfl
def fRet (pin : List Nat) (fa : Slots → Option (RV × Slots)) (e : Slots) : Option (Fl × Slots) :=
  (fa e).bind fun r => match r.1 with
    | .ow m => some (.rt m, r.2)
    | .al k => match r.2[k]? with
      | some (some (.lst xs)) => if k ∈ pin then none else some (.rt (.lst xs), r.2.set k none)
      | _ => none
theorem s_ret (h : tS K pin (fRet pin fa) D σ H) : tRet (tE K fa) D σ H := by
  obtain ⟨L, e, F, fl0, e', S, he, q⟩ := h
  unfold fRet at he
  obtain ⟨⟨ra, e1⟩, h1, h2⟩ := Option.bind_eq_some_iff.mp he
  dsimp only at h2
  refine ⟨L, e, F, _, e1, S, h1, fun v H1 ⟨G, F1, X, hh⟩ => ?_⟩
  split at h2
  · cases h2
    exact q σ H1 G F1 (X.toS S) v hh
  · rename_i k _
    split at h2
    · rename_i xs hk
      split at h2
      · cases h2
      · rename_i hp
        cases h2
        obtain ⟨rfl, hv⟩ := hh
        have S1 := X.ste S
        obtain ⟨F0, er, p⟩ := S1.er
        obtain ⟨w, G, F2, k1, k2, k3, k4⟩ := er.at hk
        rw [hv] at k1
        cases k1
        have hF : (G ++ F2).Perm F1 := k4.symm.trans p
        have nd : (G ++ F2).Nodup := hF.nodup_iff.mpr S1.nd
        have hkl : k < e1.length := (List.getElem?_eq_some_iff.mp hk).1
        refine q σ H1 G F2 ⟨⟨⟨F2, k3, .refl _⟩, (List.nodup_append.mp nd).2.1, fun a ha => S1.dj a (hF.mem_iff.mp (List.mem_append_right _ ha)), S1.lt⟩, nd, fun a ha => X.new a (by simpa using hF.mem_iff.mp ha), X.frm, fun j m hj hm => ?_, fun _ _ => rfl, rfl⟩ v k2
        by_cases hkj : k = j
        · subst hkj; rw [List.getElem?_set_self hkl] at hj; cases hj
        · rw [List.getElem?_set_ne hkj] at hj; exact ⟨X.sh j m hj hm, rfl⟩
    · cases h2
theorem s_retN (h : tS K pin (fun e => some (.rt (.d .none), e)) D σ H) : tRetN D σ H := by
  obtain ⟨L, e, F, fl, e', S, he, q⟩ := h
  cases he
  exact q σ H [] F (.refl S) .non rep_non
def fIf (fc : Slots → Option (RV × Slots)) (f g : Slots → Option (Fl × Slots)) (e : Slots) : Option (Fl × Slots) :=
  (fc e).bind fun r => match r.1 with
    | .ow (.d (.bool true)) => f r.2
    | .ow (.d (.bool false)) => g r.2
    | _ => none
theorem s_if (h : tS K pin (fIf fc f g) D σ H) : tIfS (tT K fc) (tS K pin f) (tS K pin g) D σ H := by
  obtain ⟨L, e, F, fl, e', S, he, q⟩ := h
  obtain ⟨⟨ra, e1⟩, h1, h2⟩ := Option.bind_eq_some_iff.mp he
  obtain ⟨b, e0, h2⟩ := cut_bool (C := none) h2
  dsimp only at e0 h2
  subst e0
  refine ⟨L, e, F, b, e1, S, h1, fun H1 F1 w => ?_⟩
  cases b with
  | true => exact ⟨L, e1, F1, fl, e', w.ste S, h2, fun σ2 H2 G F2 Y => q σ2 H2 G F2 ((w.toS S).tr Y)⟩
  | false => exact ⟨L, e1, F1, fl, e', w.ste S, h2, fun σ2 H2 G F2 Y => q σ2 H2 G F2 ((w.toS S).tr Y)⟩

/-! ## while -/
theorem s_while {wf : Nat} (h : tS K pin (whl fc f wf) D σ H) : tWhile (tT K fc) (tS K pin f) D σ H := by
  obtain ⟨L, e, F, fl, e', S, he, q⟩ := h
  refine ⟨fun m σc Hc => ∃ ec Fc, XS K L H F pin σ e σc ec Hc [] Fc ∧ whl fc f m ec = some (fl, e'), ⟨wf, e, F, .refl S, he⟩, ?_⟩
  rintro m σc Hc ⟨ec, Fc, X, hw⟩
  cases m with
  | zero => cases hw
  | succ m =>
    rw [whl] at hw
    obtain ⟨⟨rc, e1⟩, h1, h2⟩ := Option.bind_eq_some_iff.mp hw
    obtain ⟨b, e0, h2⟩ := cut_bool (C := none) h2
    dsimp only at e0 h2
    subst e0
    refine ⟨L, ec, Fc, b, e1, X.st, h1, fun H1 F1 w => ?_⟩
    have Y := X.tr (w.toS X.st)
    cases b with
    | false => cases h2; exact q σc H1 [] F1 Y rfl
    | true =>
      obtain ⟨⟨fl1, e2⟩, h3, h4⟩ := Option.bind_eq_some_iff.mp h2
      refine ⟨fun σ' H' => ∃ ec Fc, XS K L H F pin σ e σ' ec H' [] Fc ∧ whl fc f m ec = some (fl, e'), fun σ' H' hN => ⟨m, Nat.lt_succ_self m, hN⟩, L, e1, F1, fl1, e2, Y.st, h3, fun σ2 H2 G F2 Z => ?_⟩
      have T := Y.tr Z
      cases fl1 with
      | nx => intro hG; subst hG; exact ⟨e2, F2, T, h4⟩
      | ct => intro hG; subst hG; exact ⟨e2, F2, T, h4⟩
      | bk => intro hG; subst hG; cases h4; exact q σ2 H2 [] F2 T rfl
      | rt m' => cases h4; exact q σ2 H2 G F2 T

/-! ## for -/
def fFor (pin : List Nat) (tg : Tg) (fI : Slots → Option (IV × Slots)) (fb : List Nat → Slots → Option (Fl × Slots)) (e : Slots) : Option (Fl × Slots) :=
  (fI e).bind fun r => (forL (fun x e1 => (bindT (r.1.2.toList ++ pin) tg x e1).bind fun e2 => fb (r.1.2.toList ++ pin) e2) r.1.1 (lockE r.1.2 r.1.1 r.2)).map fun q => (q.1, openE r.1.2 r.1.1 q.2)
theorem s_for {tg : Tg} {fI : Slots → Option (IV × Slots)} {fb : List Nat → Slots → Option (Fl × Slots)} {tb : TS} (hb : ∀ p D σ H, tS K p (fb p) D σ H → tb D σ H) (h : tS K pin (fFor pin tg fI fb) D σ H) :
    tFor (tI K fI) (gT K tg) tb D σ H := by
  obtain ⟨L, e, F, fl, e', S, he, q⟩ := h
  unfold fFor at he
  obtain ⟨⟨⟨xs, lk⟩, e1⟩, h1, he⟩ := Option.bind_eq_some_iff.mp he
  obtain ⟨⟨fl', e2⟩, h2, he⟩ := Option.map_eq_some_iff.mp he
  cases he
  dsimp only at h2
  refine ⟨L, e, F, xs, lk, e1, S, h1, fun J H1 G F1 vs st A W wk hd hp hst stab lo => ?_⟩
  obtain ⟨Fl, Sl, sl⟩ := lock_in S W lo hd hp
  have hl := dps_len hd
  -- out of the loop
  have finish : ∀ {σ2 : L2.St} {H2 : Hp} {e3 : Slots} {G2 F2 : List Addr}, XS K (A ++ L) H1 Fl (lk.toList ++ pin) σ (lockE lk xs e1) σ2 e3 H2 G2 F2 → ∃ F3, XS K L H F pin σ e σ2 (openE lk xs e3) H2 G2 F3 := by
    intro σ2 H2 e3 G2 F2 X
    obtain ⟨F3, er3, nd3, in3, inA⟩ := lock_out S W lo hd hp Sl X.frm X.st X.sh (fun k hk => ⟨X.pin k (by rw [hk]; simp), by
      rw [← X.st.lenE, X.len, (W.ste S).lenE]
      subst hk
      obtain ⟨_, a, _, _, _, hk1⟩ := lo
      exact (List.getElem?_eq_some_iff.mp hk1).1⟩)
    have hDn : ∀ a, H1 a = none → a ∈ F ∨ H a = none := fun a ha => by
      by_cases hf : a ∈ F
      · exact .inl hf
      · cases hH : H a with
        | none => exact .inr rfl
        | some o => rw [W.frm a o hH hf] at ha; cases ha
    have up : ∀ a ∈ G2 ++ F2, a ∈ F ∨ H a = none := fun a ha => by
      rcases X.new a ha with k | k
      · exact W.new a (List.mem_append_right _ (sl a k))
      · exact hDn a k
    have new : ∀ a ∈ G2 ++ F3, a ∈ F ∨ H a = none := fun a ha => by
      rcases List.mem_append.mp ha with z | z
      · exact up a (List.mem_append_left _ z)
      · rcases in3 a z with k | k
        · exact up a (List.mem_append_right _ k)
        · exact W.new a (List.mem_append_right _ (inA a k))
    have trA : ∀ a ∈ lkA lk A, ∃ o, H1 a = some o := fun a ha => (W.ste S).trk (inA a ha)
    have nA : ∀ a ∈ lkA lk A, a ∈ A ++ L := fun a ha => by
      cases lk with
      | none => cases ha
      | some k => exact List.mem_append_left _ ha
    refine ⟨F3, ⟨⟨F3, er3, .refl _⟩, nd3, fun a ha z => ?_, fun a ha => ?_⟩, ?_, new, W.frm.tr X.frm fun a ha => W.new a (List.mem_append_right _ (sl a ha)), fun j m hj hm => ?_, fun j hj => X.pin j (List.mem_append_right _ hj), X.len⟩
    · rcases new a (List.mem_append_right _ ha) with k | k
      · exact S.dj a k z
      · obtain ⟨o, ho⟩ := S.lt a z
        rw [k] at ho; cases ho
    · exact X.st.lt a (List.mem_append_right _ ha)
    · refine List.nodup_append.mpr ⟨(List.nodup_append.mp X.nd).1, nd3, fun a ha b hb z => ?_⟩
      subst z
      rcases in3 a hb with k | k
      · exact (List.nodup_append.mp X.nd).2.2 a ha a k rfl
      · rcases X.new a (List.mem_append_left _ ha) with k2 | k2
        · exact Sl.dj a k2 (nA a k)
        · obtain ⟨o, ho⟩ := trA a k
          rw [k2] at ho; cases ho
    · obtain ⟨k1, k2⟩ := openE_sh hj hm
      obtain ⟨k3, k4⟩ := X.sh j m k1 hm
      exact ⟨W.sh j m (lockE_sh k3 k2) hm, k4⟩
  let Pv : Nat → L2.St → Hp → Prop := fun i σc Hc => st Hc ∧ ∃ ec Fc, XS K (A ++ L) H1 Fl (lk.toList ++ pin) σ (lockE lk xs e1) σc ec Hc [] Fc ∧
    forL (fun x e1 => (bindT (lk.toList ++ pin) tg x e1).bind fun e2 => fb (lk.toList ++ pin) e2) (xs.drop i) ec = some (fl', e2)
  refine ⟨fun i m σc Hc => m = vs.length - i ∧ i ≤ vs.length ∧ Pv i σc Hc, ⟨_, rfl, Nat.zero_le _, hst, _, Fl, .refl Sl, h2⟩, ?_⟩
  rintro i m σc Hc ⟨rfl, hi, hsc, ec, Fc, X, hc⟩
  by_cases hlt : i < vs.length
  · refine .inr ⟨wk.go i Hc hsc hlt, Pv (i + 1), fun σ' H' p' => ⟨vs.length - (i + 1), by omega, rfl, hlt, p'⟩, fun x Hx hyl => ?_⟩
    obtain ⟨e0, hx⟩ := wk.yld i Hc x Hx hsc hyl
    subst e0
    have hx := hx hlt
    have hdc : DpAll K Hx vs xs := dps_frm X.frm Sl.mutAt _ _ hp hd
    have hix : i < xs.length := by omega
    have hdrop : xs.drop i = xs[i] :: xs.drop (i + 1) := List.drop_eq_getElem_cons hix
    obtain ⟨x', hx', hdx⟩ := dps_get hdc (List.getElem?_eq_getElem hix)
    rw [hx] at hx'; cases hx'
    have hpx : pureD xs[i] = true := pureL_get hp (List.getElem?_eq_getElem hix)
    rw [hdrop, forL] at hc
    obtain ⟨⟨fl1, e4⟩, c1, c2⟩ := Option.bind_eq_some_iff.mp hc
    obtain ⟨eb, b1, c1⟩ := Option.bind_eq_some_iff.mp c1
    obtain ⟨σb, Fb, gg, Sb, sb, to, np⟩ := bindT_ok X.st b1 hdx hpx
    have Y : XS K (A ++ L) Hx Fc (lk.toList ++ pin) σc ec σb eb Hx [] Fb := .sto X.st Sb sb to np
    refine gg _ (hb (lk.toList ++ pin) _ _ _ ⟨A ++ L, eb, Fb, fl1, e4, Sb, c1, fun σ2 H2 G2 F2 Z => ?_⟩)
    have T := (X.tr Y).tr Z
    have st2 : st H2 := stab _ _ Fl T.frm Sl.mutAt Sl.dj hst
    cases fl1 with
    | nx => intro hG; subst hG; exact ⟨st2, e4, F2, T, c2⟩
    | ct => intro hG; subst hG; exact ⟨st2, e4, F2, T, c2⟩
    | bk =>
      intro hG; subst hG; cases c2
      obtain ⟨F3, U⟩ := finish T
      exact q σ2 H2 [] F3 U rfl
    | rt m' =>
      dsimp only at c2
      split at c2
      · cases c2
      · rename_i hs
        cases c2
        obtain ⟨F3, U⟩ := finish T
        intro v hv
        exact q σ2 H2 G2 F3 U v (hv.own (by simpa using hs))
  · have ei : i = vs.length := by omega
    subst ei
    rw [List.drop_eq_nil_of_le (by omega), forL] at hc
    cases hc
    obtain ⟨F3, U⟩ := finish X
    exact .inl ⟨wk.stop _ Hc hsc (Nat.le_refl _), q σc Hc [] F3 U rfl⟩
end

/-! ## the translation -/
def slotOf : List Str → Str → Option Nat
  | [], _ => none
  | y :: ys, x => if y = x then some 0 else (slotOf ys x).map (· + 1)
theorem slotOf_at : ∀ {N : List Str} {x : Str} {i : Nat}, slotOf N x = some i → N[i]? = some x
  | [], _, _, h => by cases h
  | y :: ys, x, i, h => by
    rw [slotOf] at h
    split at h
    · rename_i e; cases h; rw [e]; rfl
    · obtain ⟨j, h1, rfl⟩ := Option.map_eq_some_iff.mp h
      simpa using slotOf_at h1
def visC (sc : Scope) (x : Str) : Bool :=
  (match sc.names.lookup x with
  | some .local => true
  | some .cell => true
  | some .free => true
  | _ => false) && !(x == ("__debug__" : Str)) && !(x == ("__classdict__" : Str))
def locC (sc : Scope) (x : Str) : Bool :=
  match sc.names.lookup x with
  | some .local => true
  | some .cell => true
  | _ => false
def glC (sc : Scope) (x : Str) : Bool := (match sc.names.lookup x with | some .globalImplicit => true | _ => false) && !(x == ("__debug__" : Str))
def trCst : Const → Option PyData
  | .none => some .none
  | .bool b => some (.bool b)
  | .int i => some (.int i)
  | .str s => some (.str s)
  | _ => none
def trOp : Operator → Option O2
  | .Add => some .add
  | .Sub => some .sub
  | .Mult => some .mul
  | .FloorDiv => some .fdiv
  | .Mod => some .mod
  | .Pow => some .pow
  | _ => none
def trCmp : CmpOp → Option O2
  | .Eq => some .eq
  | .NotEq => some .ne
  | .Lt => some .lt
  | .LtE => some .le
  | .Gt => some .gt
  | .GtE => some .ge
  | .In => some .mem
  | .NotIn => some .nmem
  | _ => none
def nst : Expr → Bool
  | .Starred .. => false
  | _ => true
def noSet : Expr → Bool
  | .Set .. => false
  | _ => true
/-- a[::-1] -/
def isRev : Expr → Bool
  | .Slice none none (some (.UnaryOp .USub (.Constant (.int i) _ _) _)) _ => decide (i = 1)
  | _ => false
def sliceOf : Expr → Option (Option Expr × Option Expr)
  | .Slice lo hi none _ => some (lo, hi)
  | _ => none
def isSlice : Expr → Bool
  | .Slice .. => true
  | _ => false
def cstOf : Expr → Option Const
  | .Constant c _ _ => some c
  | _ => none
def nameOf : Expr → Option Str
  | .Name x _ => some x
  | _ => none
/-- the built-in functions and types of one argument -/
def blt1 (f : Str) : Option O1 :=
  if f = "len" then some .len else if f = "tuple" then some .tuple else if f = "list" then some .list else if f = "abs" then some .abs else if f = "int" then some .int else if f = "sum" then some .sum
  else if f = "max" then some .max else if f = "min" then some .min else if f = "all" then some .all else if f = "any" then some .any else if f = "sorted" then some .sorted else none
def bltNames : List Str := ["len", "tuple", "list", "abs", "int", "sum", "max", "min", "all", "any", "sorted", "range", "isinstance", "bool", "str"]
def blt2 (f : Str) : Option O2 := if f = "max" then some .maxm else if f = "min" then some .minm else none
theorem ite_some {α : Type} {c : Prop} [Decidable c] {x y : α} {r : Option α} (h : (if c then some x else r) = some y) : (c ∧ x = y) ∨ r = some y := by
  by_cases hc : c
  · rw [if_pos hc] at h; exact .inl ⟨hc, Option.some.inj h⟩
  · rw [if_neg hc] at h; exact .inr h
def isiOf (T : Str) : Option O1 := if T = "int" then some .isInt else if T = "bool" then some .isBool else if T = "str" then some .isStr else if T = "tuple" then some .isTuple else none
def fnAt : List (Str × Nat) → Str → Option (Nat × Nat)
  | [], _ => none
  | (y, np) :: ys, x => if y = x then some (0, np) else (fnAt ys x).map fun q => (q.1 + 1, q.2)
theorem fnAt_at : ∀ {fs : List (Str × Nat)} {x : Str} {i np : Nat}, fnAt fs x = some (i, np) → fs[i]? = some (x, np)
  | [], _, _, _, h => by cases h
  | (y, n) :: ys, x, i, np, h => by
    rw [fnAt] at h
    split at h
    · rename_i e; cases h; rw [e]; rfl
    · obtain ⟨⟨j, m⟩, h1, h2⟩ := Option.map_eq_some_iff.mp h
      cases h2
      simpa using fnAt_at h1
def mtd0 (m : Str) : Option Mt := if m = "pop" then some .pop else if m = "reverse" then some .reverse else none
def mtd1 (m : Str) : Option Mt := if m = "append" then some .append else if m = "remove" then some .remove else none
def ownOf (N : List Str) (scope : Scope) : List (Str × Nat) := scope.names.filterMap fun y => match y.2 with
  | .local => (slotOf N y.1).map fun i => (y.1, i)
  | .cell => (slotOf N y.1).map fun i => (y.1, i)
  | _ => none
def trNames (N : List Str) (sc : Scope) : List Expr → Option (List Nat)
  | [] => some []
  | .Name x _ :: es => if locC sc x then (slotOf N x).bind fun i => (trNames N sc es).map (i :: ·) else none
  | _ => none
def trT (N : List Str) (sc : Scope) : Expr → Option Tg
  | .Name x _ => if locC sc x then (slotOf N x).map .n else none
  | .Tuple es _ _ => (trNames N sc es).map .t
  | _ => none
section
variable (N : List Str) (fns : List (Str × Nat))
mutual
def trE : Nat → Scope → Expr → Option Tm
  | 0, _, _ => none
  | n + 1, sc, .Name x _ => if visC sc x then (slotOf N x).map .var else none
  | n + 1, sc, .Constant c _ _ => (trCst c).map .cst
  | n + 1, sc, .BinOp a op b _ => (trOp op).bind fun o => (trE n sc a).bind fun ta => (trE n sc b).map fun tb => .bin o ta tb
  | n + 1, sc, .UnaryOp .USub a _ => (trE n sc a).map (.un .neg)
  | n + 1, sc, .UnaryOp .Not a _ => (trE n sc a).map .not_
  | n + 1, sc, .BoolOp op [a] _ => trE n sc a
  | n + 1, sc, .BoolOp .And (a :: b :: r) pos => (trE n sc a).bind fun ta => (trE n sc (.BoolOp .And (b :: r) pos)).map fun tb => .and_ ta tb
  | n + 1, sc, .BoolOp .Or (a :: b :: r) pos => (trE n sc a).bind fun ta => (trE n sc (.BoolOp .Or (b :: r) pos)).map fun tb => .or_ ta tb
  | n + 1, sc, .Compare a [.Is] [b] _ => match cstOf b with
    | some .none => (trE n sc a).map (.un .isN)
    | some (.bool k) => (trE n sc a).map (.un (.isB k))
    | _ => none
  | n + 1, sc, .Compare a [.IsNot] [b] _ => match cstOf b with
    | some .none => (trE n sc a).map (.un .notN)
    | some (.bool k) => (trE n sc a).map (.un (.notB k))
    | _ => none
  | n + 1, sc, .Compare a [op] [b] _ => if noSet b then (trCmp op).bind fun o => (trE n sc a).bind fun ta => (trE n sc b).map fun tb => .bin o ta tb else none
  | n + 1, sc, .IfExp c a b _ => (trE n sc c).bind fun tc => (trE n sc a).bind fun ta => (trE n sc b).map fun tb => .ite tc ta tb
  | n + 1, sc, .Tuple es _ _ => (trL n sc es).map .tup
  | n + 1, sc, .List es _ => (trL n sc es).map .lst
  | n + 1, sc, .Subscript a s _ => if isRev s then (trE n sc a).map (.un .rev) else match sliceOf s with
    | some (lo, hi) => (trE n sc a).bind fun ta => (trP n sc lo).bind fun tl => (trP n sc hi).map fun th => .slice ta tl th
    | none => if isSlice s then none else (trE n sc a).bind fun ta => (trE n sc s).map fun tb => .bin .idx ta tb
  | n + 1, sc, .Call (.Name f _) as [] _ => if glC sc f then (match fnAt fns f with
    | some (j, np) => if decide (as.length = np) then (trL n sc as).map (.call j) else none
    | none => trB n sc f as) else none
  | n + 1, sc, .Call (.Attribute (.Name x _) m ap) [] [] cp => if visC sc x && ap.endLine == cp.line then (mtd0 m).bind fun o => (slotOf N x).map fun k => .mt0 o k else none
  | n + 1, sc, .Call (.Attribute (.Name x _) m ap) [a] [] cp => if visC sc x && ap.endLine == cp.line && nst a then (mtd1 m).bind fun o => (slotOf N x).bind fun k => (trE n sc a).map fun ta => .mt1 o k ta else none
  | n + 1, sc, .ListComp elt [g] scope _ => if decide (g.is_async = 0) && (blkC N sc scope (ownOf N scope) && noSet g.iter) then
      (trI n sc g.iter).bind fun ti => (trT N scope g.target).bind fun tt => if (tgSlots tt).all (fun i => decide (i ∈ (ownOf N scope).map (·.2))) then
        (match g.ifs with
        | [] => (trE n (relS scope sc) elt).map fun te => .comp ((ownOf N scope).map (·.2)) tt ti (.cst (.bool true)) te
        | [c] => (trE n (relS scope sc) c).bind fun tc => (trE n (relS scope sc) elt).map fun te => .comp ((ownOf N scope).map (·.2)) tt ti tc te
        | _ => none) else none
      else none
  | _, _, _ => none
/-- arguments, items -/
def trL : Nat → Scope → List Expr → Option Tm
  | 0, _, _ => none
  | _ + 1, _, [] => some .nil
  | n + 1, sc, e :: es => if nst e then (trE n sc e).bind fun t => (trL n sc es).map fun r => .cons t r else none
/-- an end of a slice -/
def trP : Nat → Scope → Option Expr → Option Tm
  | 0, _, _ => none
  | _ + 1, _, none => some .nil
  | n + 1, sc, some e => (trE n sc e).map .sm
/-- a built-in function -/
def trB : Nat → Scope → Str → List Expr → Option Tm
  | 0, _, _, _ => none
  | n + 1, sc, f, [a] => if nst a then (match trR n sc a with
    | some r => if f = "list" then some (.lrng r) else if f = "tuple" then some (.trng r) else none
    | none => (blt1 f).bind fun o => (trE n sc a).map fun ta => .un o ta) else none
  | n + 1, sc, f, [a, b] => if nst a && nst b then (if f = "isinstance" then (nameOf b).bind fun T => if glC sc T then (isiOf T).bind fun o => (trE n sc a).map fun ta => .un o ta else none
      else (blt2 f).bind fun o => (trE n sc a).bind fun ta => (trE n sc b).map fun tb => .bin o ta tb) else none
  | _, _, _, _ => none
/-- a range -/
def trR : Nat → Scope → Expr → Option Tm
  | 0, _, _ => none
  | n + 1, sc, .Call (.Name f _) [a] [] _ => if glC sc f && decide (f = "range") && nst a then (trE n sc a).map .rng1 else none
  | n + 1, sc, .Call (.Name f _) [a, b] [] _ => if glC sc f && decide (f = "range") && nst a && nst b then (trE n sc a).bind fun ta => (trE n sc b).map fun tb => .rng2 ta tb else none
  | _, _, _ => none
/-- what is walked -/
def trI : Nat → Scope → Expr → Option Tm
  | 0, _, _ => none
  | n + 1, sc, e => match trR n sc e with
    | some t => some t
    | none => (trE n sc e).map .sq
end
end

/-! ## the evaluator's arms, by name -/
section
variable (C : Nat → List M → Option (M × List M))
theorem ev_var (k : Nat) : ev C (.var k) = fVar k := by funext e; rw [ev]; rfl
theorem ev_cst (x : PyData) : ev C (.cst x) = fun e => some (.ow (.d x), e) := by funext e; rw [ev]
theorem ev_bin (o : O2) (a b : Tm) : ev C (.bin o a b) = fBin (p2 o) (ev C a) (ev C b) := by funext e; rw [ev]; rfl
theorem ev_un (o : O1) (a : Tm) : ev C (.un o a) = fUn (p1 o) (ev C a) := by funext e; rw [ev]; rfl
theorem ev_and (a b : Tm) : ev C (.and_ a b) = fAnd (ev C a) (ev C b) := by funext e; rw [ev]; rfl
theorem ev_or (a b : Tm) : ev C (.or_ a b) = fOr (ev C a) (ev C b) := by funext e; rw [ev]; rfl
theorem ev_not (a : Tm) : ev C (.not_ a) = fNot (ev C a) := by funext e; rw [ev]; rfl
theorem ev_ite (c a b : Tm) : ev C (.ite c a b) = fIte (ev C c) (ev C a) (ev C b) := by funext e; rw [ev]; rfl
theorem ev_tup (a : Tm) : ev C (.tup a) = fTup (evL C a) := by funext e; rw [ev]; rfl
theorem ev_lst (a : Tm) : ev C (.lst a) = fLst (evL C a) := by funext e; rw [ev]; rfl
theorem ev_slice (a l h : Tm) : ev C (.slice a l h) = fSl (ev C a) (evP C l) (evP C h) := by funext e; rw [ev]; rfl
theorem ev_call (f : Nat) (as : Tm) : ev C (.call f as) = fCall (C f) (evL C as) := by funext e; rw [ev]; rfl
theorem ev_mt0 (o : Mt) (k : Nat) : ev C (.mt0 o k) = fMt0 o k := by funext e; rw [ev]; rfl
theorem ev_mt1 (o : Mt) (k : Nat) (a : Tm) : ev C (.mt1 o k a) = fMt1 o k (ev C a) := by funext e; rw [ev]; rfl
theorem ev_comp (own : List Nat) (tg : Tg) (it c elt : Tm) : ev C (.comp own tg it c elt) = fComp own tg (evI C it) (ev C c) (ev C elt) := by funext e; rw [ev]; rfl
theorem evL_nil : evL C .nil = fun e => some ([], e) := by funext e; rw [evL]
theorem evL_cons (a r : Tm) : evL C (.cons a r) = fCons (ev C a) (evL C r) := by funext e; rw [evL]; rfl
theorem evP_nil : evP C .nil = fun e => some (none, e) := by funext e; rw [evP]
theorem evP_sm (a : Tm) : evP C (.sm a) = fPart (ev C a) := by funext e; rw [evP]; rfl
theorem evI_rng1 (a : Tm) : evI C (.rng1 a) = fRng1 (ev C a) := by funext e; rw [evI]; rfl
theorem evI_rng2 (a b : Tm) : evI C (.rng2 a b) = fRng2 (ev C a) (ev C b) := by funext e; rw [evI]; rfl
theorem evI_sq (a : Tm) : evI C (.sq a) = fSeq (ev C a) := by funext e; rw [evI]; rfl
def fLrng (tup : Bool) (fI : Slots → Option (IV × Slots)) (e : Slots) : Option (RV × Slots) :=
  (fI e).bind fun r => match r.1 with
    | (xs, none) => if xs.length ≤ sizeLine then some (.ow (if tup then .d (.tuple xs) else .lst xs), r.2) else none
    | _ => none
theorem ev_lrng (a : Tm) : ev C (.lrng a) = fLrng false (evI C a) := by funext e; rw [ev]; rfl
theorem ev_trng (a : Tm) : ev C (.trng a) = fLrng true (evI C a) := by funext e; rw [ev]; rfl
end
section
variable {K : PySem.W.Frag} {σ : L2.St} {H : Hp} {Q : VK} {fa fb : Slots → Option (RV × Slots)}
theorem rngL_len (lo hi : Int) : (rngL lo hi).length = (hi - lo).toNat := by unfold rngL; simp
theorem rngOk {lo hi : Int} (h1 : inRng lo = true) (h2 : inRng hi = true) (h : (rngL lo hi).length ≤ sizeLine) : RgOk lo hi := by
  simp only [inRng, Bool.and_eq_true, decide_eq_true_eq] at h1 h2
  rw [rngL_len] at h
  exact ⟨h1.1, h1.2, h2.1, h2.2, by unfold sizeLine at h; omega⟩
theorem t_lrng1 (h : tE K (fLrng false (fRng1 fa)) σ H Q) : tLstRg (tRg1 (tE K fa)) σ H Q := by
  obtain ⟨L, e, F, r, e', S, he, q⟩ := h
  unfold fLrng at he
  obtain ⟨⟨⟨xs, lk⟩, e1⟩, h1, h2⟩ := Option.bind_eq_some_iff.mp he
  unfold fRng1 at h1
  obtain ⟨⟨ra, e2⟩, h3, h4⟩ := Option.bind_eq_some_iff.mp h1
  dsimp only at h4
  split at h4
  · rename_i i
    split at h4
    · rename_i hi
      cases h4
      dsimp only at h2
      split at h2
      · rename_i hz
        cases h2
        refine ⟨L, e, F, _, _, S, h3, fun v H1 X => ?_⟩
        obtain ⟨rfl, F1, w⟩ := X.it
        exact ⟨i, rfl, rngOk rfl hi hz, fun p hn => q _ _ (w.fin S (Frm.new hn []) (one_new hn) (newLst hn (rngL_dps 0 i) (rngL_pure 0 i)))⟩
      · cases h2
    · cases h4
  · cases h4
theorem t_trng1 (h : tE K (fLrng true (fRng1 fa)) σ H Q) : tTupRg (tRg1 (tE K fa)) σ H Q := by
  obtain ⟨L, e, F, r, e', S, he, q⟩ := h
  unfold fLrng at he
  obtain ⟨⟨⟨xs, lk⟩, e1⟩, h1, h2⟩ := Option.bind_eq_some_iff.mp he
  unfold fRng1 at h1
  obtain ⟨⟨ra, e2⟩, h3, h4⟩ := Option.bind_eq_some_iff.mp h1
  dsimp only at h4
  split at h4
  · rename_i i
    split at h4
    · rename_i hi
      cases h4
      dsimp only at h2
      split at h2
      · rename_i hz
        cases h2
        refine ⟨L, e, F, _, _, S, h3, fun v H1 X => ?_⟩
        obtain ⟨rfl, F1, w⟩ := X.it
        exact ⟨i, rfl, rngOk rfl hi hz, fun p hn => q _ _ (w.fin S (Frm.new hn []) no_new (newTup hn (rngL_dps 0 i) (rngL_pure 0 i)))⟩
      · cases h2
    · cases h4
  · cases h4
theorem t_lrng2 (h : tE K (fLrng false (fRng2 fa fb)) σ H Q) : tLstRg (tRg2 (tE K fa) (tE K fb)) σ H Q := by
  obtain ⟨L, e, F, r, e', S, he, q⟩ := h
  unfold fLrng at he
  obtain ⟨⟨⟨xs, lk⟩, e1⟩, h1, h2⟩ := Option.bind_eq_some_iff.mp he
  unfold fRng2 at h1
  obtain ⟨⟨ra, e2⟩, h3, h4⟩ := Option.bind_eq_some_iff.mp h1
  obtain ⟨⟨rb, e3⟩, h5, h4⟩ := Option.bind_eq_some_iff.mp h4
  dsimp only at h4 h5
  split at h4
  · rename_i i j _
    split at h4
    · rename_i hi
      cases h4
      dsimp only at h2
      split at h2
      · rename_i hz
        cases h2
        simp only [Bool.and_eq_true] at hi
        refine ⟨L, e, F, _, _, S, h3, fun v H1 X => ?_⟩
        obtain ⟨rfl, F1, w⟩ := X.it
        refine ⟨L, e2, F1, _, _, w.ste S, h5, fun v2 H2 X2 => ?_⟩
        obtain ⟨rfl, F2, w2⟩ := X2.it
        exact ⟨i, j, rfl, rfl, rngOk hi.1 hi.2 hz, fun p hn => q _ _ ((tr0 S w w2).fin S (Frm.new hn []) (one_new hn) (newLst hn (rngL_dps i j) (rngL_pure i j)))⟩
      · cases h2
    · cases h4
  · cases h4
theorem t_trng2 (h : tE K (fLrng true (fRng2 fa fb)) σ H Q) : tTupRg (tRg2 (tE K fa) (tE K fb)) σ H Q := by
  obtain ⟨L, e, F, r, e', S, he, q⟩ := h
  unfold fLrng at he
  obtain ⟨⟨⟨xs, lk⟩, e1⟩, h1, h2⟩ := Option.bind_eq_some_iff.mp he
  unfold fRng2 at h1
  obtain ⟨⟨ra, e2⟩, h3, h4⟩ := Option.bind_eq_some_iff.mp h1
  obtain ⟨⟨rb, e3⟩, h5, h4⟩ := Option.bind_eq_some_iff.mp h4
  dsimp only at h4 h5
  split at h4
  · rename_i i j _
    split at h4
    · rename_i hi
      cases h4
      dsimp only at h2
      split at h2
      · rename_i hz
        cases h2
        simp only [Bool.and_eq_true] at hi
        refine ⟨L, e, F, _, _, S, h3, fun v H1 X => ?_⟩
        obtain ⟨rfl, F1, w⟩ := X.it
        refine ⟨L, e2, F1, _, _, w.ste S, h5, fun v2 H2 X2 => ?_⟩
        obtain ⟨rfl, F2, w2⟩ := X2.it
        exact ⟨i, j, rfl, rfl, rngOk hi.1 hi.2 hz, fun p hn => q _ _ ((tr0 S w w2).fin S (Frm.new hn []) no_new (newTup hn (rngL_dps i j) (rngL_pure i j)))⟩
      · cases h2
    · cases h4
  · cases h4
end

/-! ## the model's trees keep what the evaluator says -/
theorem _root_.L2.PE.weak {X : Cx} {e : Expr} {t t' : TE} (h : PE X e t) (w : ∀ σ H Q, t' σ H Q → t σ H Q) : PE X e t' := ⟨fun pins s σ H Q I q => h.run pins s σ H Q I (w σ H Q q)⟩
theorem _root_.L2.PT.weak {X : Cx} {e : Expr} {t t' : TT} (h : PT X e t) (w : ∀ σ H Q, t' σ H Q → t σ H Q) : PT X e t' := ⟨fun pins s σ H Q I q => h.run pins s σ H Q I (w σ H Q q)⟩
theorem _root_.L2.PW.weak {X : Cx} {e : Expr} {t t' : TT} (h : PW X e t) (w : ∀ σ H Q, t' σ H Q → t σ H Q) : PW X e t' := ⟨fun wh pins s σ H Q I q => h.run wh pins s σ H Q I (w σ H Q q)⟩
theorem _root_.L2.PA.weak {X : Cx} {e : List Expr} {t t' : TA} (h : PA X e t) (w : ∀ σ H Q, t' σ H Q → t σ H Q) : PA X e t' := ⟨fun pos pins s σ H Q I q => h.run pos pins s σ H Q I (w σ H Q q)⟩
theorem _root_.L2.PI.weak {X : Cx} {tg e : Expr} {t t' : TI} (h : PI X tg e t) (w : ∀ σ H Q, t' σ H Q → t σ H Q) : PI X tg e t' := ⟨fun pins s σ H Q I q => h.run pins s σ H Q I (w σ H Q q)⟩
theorem _root_.L2.PS.weak {X : Cx} {e : Stmt} {t t' : TS} (h : PS X e t) (w : ∀ D σ H, σ.length = X.N.length → t' D σ H → t D σ H) : PS X e t' := ⟨fun pins s σ H D I q => h.run pins s σ H D I (w D σ H I.len q)⟩
theorem _root_.L2.PSs.weak {X : Cx} {e : List Stmt} {t t' : TS} (h : PSs X e t) (w : ∀ D σ H, t' D σ H → t D σ H) : PSs X e t' := ⟨fun pins s σ H D I q => h.run pins s σ H D I (w D σ H q)⟩
structure Good (C : Nat → List M → Option (M × List M)) (fns : List (Str × Nat)) (N : List Str) (sc0 sc : Scope) (X : Cx) : Prop where
  hN : X.N = N
  nd : N.Nodup
  hsc : X.env.scope = sc
  calm : X.calm = true
  xe : X.xe = fun _ _ => False
  raw : ∀ x k, k ≠ .free → sc0.names.lookup x = some k → sc.names.lookup x = some k
  fn : ∀ x, sc0.names.lookup x = some .cell → X.fn x = true
  units : X.A.units + 65 < cLine
  blt : ∀ x ∈ bltNames, X.mg x = none
  fns : ∀ j nm np, fns[j]? = some (nm, np) → ∃ k f fd ps, Room k X.A ∧ X.mg nm = some (.ref f) ∧ PySem.W.keepIn X.K (.ref f) = true ∧ Binds X.K fd ps [] ∧ FnOk X.prog X.w X.K X.mg X.base CX0 k f fd ps (spOf X.K (C j) np)
structure PX (X : Cx) (e : Expr) (f : Slots → Option (RV × Slots)) : Prop where
  pe : PE X e (tE X.K f)
  pt : PT X e (tT X.K f)
  pw : (∃ op vs pos, e = .BoolOp op vs pos) → PW X e (tT X.K f)
section
variable {C : Nat → List M → Option (M × List M)} {fns : List (Str × Nat)} {N : List Str} {sc0 sc : Scope} {X : Cx} {pos : Pos} {a b c e : Expr} {fa fb fc : Slots → Option (RV × Slots)}
theorem px_val (h : PE X e (tE X.K fa)) (he : ∀ whole, isTrue e X.env whole = (do let v ← whole; standAt e.pos; holding [v] (truthy v))) (hb : ∀ op vs pos, e ≠ .BoolOp op vs pos := by intros; intro h; cases h) : PX X e fa :=
  ⟨h, (pt_val h he).weak fun _ _ _ q => t_test q, fun ⟨op, vs, pos, h⟩ => absurd h (hb op vs pos)⟩
theorem vis_of {x : Str} (g : Good C fns N sc0 sc X) (h : visC sc x = true) : Vis X.env.scope x ∧ (x == ("__debug__" : Str)) = false ∧ (x == ("__classdict__" : Str)) = false := by
  unfold visC at h
  simp only [Bool.and_eq_true, Bool.not_eq_true'] at h
  refine ⟨?_, h.1.2, h.2⟩
  rw [g.hsc]
  have h1 := h.1.1
  split at h1
  · exact .inl (by assumption)
  · exact .inr (.inl (by assumption))
  · exact .inr (.inr (by assumption))
  · cases h1
theorem gl_of {x : Str} (g : Good C fns N sc0 sc X) (h : glC sc x = true) : Gl X x ∧ (x == ("__debug__" : Str)) = false := by
  unfold glC at h
  simp only [Bool.and_eq_true, Bool.not_eq_true'] at h
  refine ⟨?_, h.2⟩
  have h1 := h.1
  split at h1
  · show X.env.scope.names.lookup x = some .globalImplicit
    rw [g.hsc]; assumption
  · cases h1
theorem px_var {x : Str} {k : Nat} (g : Good C fns N sc0 sc X) (h : visC sc x = true) (hk : slotOf N x = some k) : PX X (.Name x pos) (fVar k) := by
  obtain ⟨h1, h2, h3⟩ := vis_of g h
  refine px_val ((pe_var (by rw [g.hN]; exact slotOf_at hk) h1 h2 h3).weak fun _ _ _ q => t_var q) fun _ => rfl
theorem px_cst {c : Const} {k : Nat} {x : PyData} (h : trCst c = some x) : PX X (.Constant c k pos) (fun e => some (.ow (.d x), e)) := by
  cases c <;> cases h
  · exact px_val (pe_non.weak fun _ _ _ q => t_cst q (fun _ => .non) rfl) fun _ => rfl
  · exact px_val (pe_bl.weak fun _ _ _ q => t_cst q (fun _ => .bl _) rfl) fun _ => rfl
  · exact px_val (pe_int.weak fun _ _ _ q => t_cst q (fun _ => .int _) rfl) fun _ => rfl
  · exact px_val (pe_str.weak fun _ _ _ q => t_cst q (fun _ => .str _) rfl) fun _ => rfl
theorem px_op {op : Operator} {o : O2} (h : trOp op = some o) (ha : PX X a fa) (hb : PX X b fb) : PX X (.BinOp a op b pos) (fBin (p2 o) fa fb) := by
  cases op <;> cases h
  · exact px_val ((pe_op op_add3 ha.pe hb.pe).weak fun _ _ _ q => t_bin ok_add q) fun _ => rfl
  · exact px_val ((pe_op op_sub ha.pe hb.pe).weak fun _ _ _ q => t_bin ok_sub q) fun _ => rfl
  · exact px_val ((pe_op op_mul3 ha.pe hb.pe).weak fun _ _ _ q => t_bin ok_mul q) fun _ => rfl
  · exact px_val ((pe_op op_mod ha.pe hb.pe).weak fun _ _ _ q => t_bin ok_mod q) fun _ => rfl
  · exact px_val ((pe_op op_pow ha.pe hb.pe).weak fun _ _ _ q => t_bin ok_pow q) fun _ => rfl
  · exact px_val ((pe_op op_fdiv ha.pe hb.pe).weak fun _ _ _ q => t_bin ok_fdiv q) fun _ => rfl
theorem noSet_marks {op : CmpOp} (h : noSet b = true) : behindInMarks op b = false := by
  cases b <;> first | rfl | cases h
theorem px_cmpR {op : CmpOp} {r : R2} {p : M → M → Option M} (ho : OpR X (compareOp op) r) (ok : P2ok X.K r p) (hm : behindInMarks op b = false) (ha : PX X a fa) (hb : PX X b fb) : PX X (.Compare a [op] [b] pos) (fBin p fa fb) :=
  ⟨(pe_cmpR ho ha.pe hb.pe hm).weak fun _ _ _ q => t_bin ok q, (pt_cmpR ho ha.pe hb.pe hm).weak fun σ H Q q => by
    obtain ⟨L, e, F, b, e', S, he, k⟩ := q
    refine t_bin ok ⟨L, e, F, _, e', S, he, fun v H' X => ?_⟩
    obtain ⟨rfl, F', w⟩ := X.bl
    exact ⟨b, rfl, k H' F' w⟩, fun ⟨op, vs, pos, h⟩ => by cases h⟩
theorem px_cmp {op : CmpOp} {o : O2} (g : Good C fns N sc0 sc X) (h : trCmp op = some o) (hs : noSet b = true) (ha : PX X a fa) (hb : PX X b fb) : PX X (.Compare a [op] [b] pos) (fBin (p2 o) fa fb) := by
  have hu := g.units
  have hm : behindInMarks op b = false := noSet_marks hs
  cases op <;> cases h
  · exact px_cmpR (op_eqD (by omega)) ok_eq hm ha hb
  · exact px_cmpR (op_neD (by omega)) ok_ne hm ha hb
  · exact px_cmpR op_lt ok_lt hm ha hb
  · exact px_cmpR op_le ok_le hm ha hb
  · exact px_cmpR op_gt ok_gt hm ha hb
  · exact px_cmpR op_ge ok_ge hm ha hb
  · exact px_cmpR (op_memA hu) (ok_memA false) hm ha hb
  · exact px_cmpR (op_nmemA hu) (ok_memA true) hm ha hb
/-- x is None .. -/
theorem px_is {op : CmpOp} {r : R2} {p : M → Option M} {v : V} (ho : OpR X (compareOp op) r) (hb : PE X b (tC v)) (ok : P1ok X.K (fun x H Q => r x v H Q) p) (hm : behindInMarks op b = false) (ha : PX X a fa) : PX X (.Compare a [op] [b] pos) (fUn p fa) :=
  ⟨(pe_cmpR ho ha.pe hb hm).weak fun _ _ _ q => t_un ok q, (pt_cmpR ho ha.pe hb hm).weak fun σ H Q q => by
    obtain ⟨L, e, F, b, e', S, he, k⟩ := q
    refine t_un (Q := fun x H' => ∃ k, x = .bl k ∧ Q k H') ok ⟨L, e, F, _, e', S, he, fun v H' X => ?_⟩
    obtain ⟨rfl, F', w⟩ := X.bl
    exact ⟨b, rfl, k H' F' w⟩, fun ⟨op, vs, pos, h⟩ => by cases h⟩
theorem px_un {op : UnaryOp} {r : V → Hp → VK → Prop} {p : M → Option M} (ho : UnR X (unaryOp op) r) (ok : P1ok X.K r p) (ha : PX X a fa) (he : ∀ whole, isTrue (.UnaryOp op a pos) X.env whole = (do let v ← whole; standAt (Expr.UnaryOp op a pos).pos; holding [v] (truthy v))) : PX X (.UnaryOp op a pos) (fUn p fa) :=
  px_val ((pe_un ho ha.pe).weak fun _ _ _ q => t_un ok q) he
theorem px_not (ha : PX X a fa) : PX X (.UnaryOp .Not a pos) (fNot fa) :=
  ⟨(pe_not ha.pe).weak fun _ _ _ q => t_not q, (pt_not ha.pt).weak fun _ _ _ q => tt_not q, fun ⟨op, vs, pos, h⟩ => by cases h⟩
theorem px_one {op : BoolOp} (ha : PX X a fa) : PX X (.BoolOp op [a] pos) fa := by
  have w : PW X (.BoolOp op [a] pos) (tT X.K fa) := by
    cases op
    · exact pw_and1 ha.pt
    · exact pw_or1 ha.pt
  exact ⟨pe_one ha.pe, w.pt, fun _ => w⟩
theorem px_and {r : List Expr} (ha : PX X a fa) (hb : PX X (.BoolOp .And (b :: r) pos) fb) : PX X (.BoolOp .And (a :: b :: r) pos) (fAnd fa fb) := by
  have w : PW X (.BoolOp .And (a :: b :: r) pos) (tT X.K (fAnd fa fb)) := (pw_and ha.pt (hb.pw ⟨_, _, _, rfl⟩)).weak fun _ _ _ q => tt_and q
  exact ⟨(pe_and ha.pe hb.pe).weak fun _ _ _ q => t_and q, w.pt, fun _ => w⟩
theorem px_or {r : List Expr} (ha : PX X a fa) (hb : PX X (.BoolOp .Or (b :: r) pos) fb) : PX X (.BoolOp .Or (a :: b :: r) pos) (fOr fa fb) := by
  have w : PW X (.BoolOp .Or (a :: b :: r) pos) (tT X.K (fOr fa fb)) := (pw_or ha.pt (hb.pw ⟨_, _, _, rfl⟩)).weak fun _ _ _ q => tt_or q
  exact ⟨(pe_or ha.pe hb.pe).weak fun _ _ _ q => t_or q, w.pt, fun _ => w⟩
theorem px_ite (hc : PX X c fc) (ha : PX X a fa) (hb : PX X b fb) : PX X (.IfExp c a b pos) (fIte fc fa fb) := by
  refine ⟨(pe_ifExp hc.pt ha.pe hb.pe).weak fun _ _ _ q => t_ite q, ⟨fun pins s σ H Q I q => ?_⟩, fun ⟨op, vs, pos, h⟩ => by cases h⟩
  obtain ⟨L, e, F, bb, e', S, he, k⟩ := q
  obtain ⟨⟨ra, e1⟩, h1, h2⟩ := Option.bind_eq_some_iff.mp he
  obtain ⟨b0, e0, h2⟩ := cut_bool (C := none) h2
  dsimp only at e0 h2
  subst e0
  rw [PySem.isTrue]
  refine wpAny_bind (thn (hc.pt.run pins s σ H (fun d H1 => d = b0 ∧ ∃ F1, XPw X.K L H F σ e e1 H1 [] F1) I ⟨L, e, F, b0, e1, S, h1, fun H1 F1 w => ⟨rfl, F1, w⟩⟩) fun d s1 ⟨H1, I1, hd, F1, w⟩ => ?_)
  subst hd
  cases d with
  | true => exact ha.pt.run pins s1 σ H1 Q I1 ⟨L, e1, F1, bb, e', w.ste S, h2, fun H2 F2 Y => k H2 F2 (tr0 S w Y)⟩
  | false => exact hb.pt.run pins s1 σ H1 Q I1 ⟨L, e1, F1, bb, e', w.ste S, h2, fun H2 F2 Y => k H2 F2 (tr0 S w Y)⟩
end

section
variable {C : Nat → List M → Option (M × List M)} {fns : List (Str × Nat)} {N : List Str} {sc0 sc : Scope} {X : Cx} {pos : Pos} {a b c e : Expr} {es : List Expr} {fa fb fc : Slots → Option (RV × Slots)} {fl : Slots → Option (List RV × Slots)}
theorem star_cons {env : PySem.Env} (h : nst e = true) : starEach (e :: es) env = (false, eval e env) :: starEach es env := by
  cases e <;> first | rfl | cases h
theorem star_any {env : PySem.Env} : ∀ {es : List Expr}, (es.all nst) = true → (backTo pos (starEach es env)).any (·.1) = false
  | [], _ => rfl
  | e :: es, h => by
    simp only [List.all_cons, Bool.and_eq_true] at h
    rw [star_cons h.1]
    have ih := star_any (env := env) h.2
    unfold backTo at ih ⊢
    rw [List.map_cons, List.any_cons, ih]
    rfl
theorem pa_nl : PA X [] (tL X.K fun e => some ([], e)) := pa_nil.weak fun _ _ _ q => t_nil q
theorem pa_cn (h : nst e = true) (ha : PX X e fa) (hr : PA X es (tL X.K fl)) : PA X (e :: es) (tL X.K (fCons fa fl)) := (pa_cons ha.pe hr (star_cons h)).weak fun _ _ _ q => t_cons q
theorem px_tup {k : Nat} (h : PA X es (tL X.K fl)) : PX X (.Tuple es k pos) (fTup fl) := px_val ((pe_tup h).weak fun _ _ _ q => t_tup q) fun _ => rfl
theorem px_lst (h : PA X es (tL X.K fl)) : PX X (.List es pos) (fLst fl) := px_val ((pe_lst h).weak fun _ _ _ q => t_lst q) fun _ => rfl
theorem px_rev {s : Expr} (hs : isRev s = true) (ha : PX X a fa) : PX X (.Subscript a s pos) (fUn (p1 .rev) fa) := by
  unfold isRev at hs
  split at hs
  · rw [of_decide_eq_true hs]
    exact px_val ((pe_back ha.pe).weak fun _ _ _ q => t_un ok_rev q) fun _ => rfl
  · cases hs
theorem px_slice {s : Expr} {lo hi : Option Expr} {fl fh : Slots → Option (Option Int × Slots)} (hs : sliceOf s = some (lo, hi)) (ha : PX X a fa) (hl : PO X lo (tO X.K fl)) (hh : PO X hi (tO X.K fh)) : PX X (.Subscript a s pos) (fSl fa fl fh) := by
  unfold sliceOf at hs
  split at hs
  · cases hs
    exact px_val ((pe_slice sl_cut ha.pe hl hh).weak fun _ _ _ q => t_slice q) fun _ => rfl
  · cases hs
theorem px_idx (hs : isSlice b = false) (ha : PX X a fa) (hb : PX X b fb) : PX X (.Subscript a b pos) (fBin (p2 .idx) fa fb) := by
  have hp : PlainIx b := fun o i => by cases b <;> first | rfl | cases hs
  exact px_val ((pe_ix ix_any ha.pe hb.pe hp).weak fun _ _ _ q => t_bin ok_idx q) fun _ => rfl
theorem po_no : PO X none (tO X.K fun e => some (none, e)) := ⟨fun pins s σ H Q I q => po_none.run pins s σ H Q I (t_noPart q)⟩
theorem po_sm (ha : PX X a fa) : PO X (some a) (tO X.K (fPart fa)) := ⟨fun pins s σ H Q I q => (po_some ha.pe).run pins s σ H Q I (t_part q)⟩
theorem call_true {f : Expr} {kws : List Keyword} : ∀ whole, PySem.isTrue (.Call f es kws pos) X.env whole = (do let v ← whole; standAt (Expr.Call f es kws pos).pos; holding [v] (truthy v)) := fun _ => rfl
theorem px_call0 {f : Str} {j np : Nat} {p : Pos} (g : Good C fns N sc0 sc X) (hg : glC sc f = true) (hf : fnAt fns f = some (j, np)) (hn : 0 = np) : PX X (.Call (.Name f p) [] [] pos) (fCall (C j) fun e => some ([], e)) := by
  obtain ⟨k, fa, fd, ps, hr, hm, hk, hb, F⟩ := g.fns j f np (fnAt_at hf)
  obtain ⟨h1, h2⟩ := gl_of g hg
  refine px_val ((pe_call0 F hr h1 hm hk hb .nil pass0 h2).weak fun σ H Q q => ?_) call_true
  have := t_call (np := np) (E := E0) (fun e rs e' h => by cases h; exact hn) q
  exact t_nil this
theorem px_call {f : Str} {j np : Nat} {p : Pos} (g : Good C fns N sc0 sc X) (hg : glC sc f = true) (hf : fnAt fns f = some (j, np)) (hn : (e :: es).length = np) (hs : (e :: es).all nst = true) (ha : PA X (e :: es) (tL X.K fl))
    (hl : ∀ s rs e', fl s = some (rs, e') → rs.length = (e :: es).length) : PX X (.Call (.Name f p) (e :: es) [] pos) (fCall (C j) fl) := by
  obtain ⟨k, fa, fd, ps, hr, hm, hk, hb, F⟩ := g.fns j f np (fnAt_at hf)
  obtain ⟨h1, h2⟩ := gl_of g hg
  simp only [List.all_cons, Bool.and_eq_true] at hs
  exact px_val ((pe_call F hr h1 hm hk hb .nil pass0 ha h2 (star_cons hs.1) (star_any hs.2)).weak fun _ _ _ q => t_call (fun s rs e' h => (hl s rs e' h).trans hn) q) call_true
theorem bt_abs : bootBuiltins "abs" = some (.builtin "abs") := by decide +kernel
theorem bt_sum : bootBuiltins "sum" = some (.builtin "sum") := by decide +kernel
theorem bt_max : bootBuiltins "max" = some (.builtin "max") := by decide +kernel
theorem bt_min : bootBuiltins "min" = some (.builtin "min") := by decide +kernel
theorem bt_all : bootBuiltins "all" = some (.builtin "all") := by decide +kernel
theorem bt_any : bootBuiltins "any" = some (.builtin "any") := by decide +kernel
theorem bt_sorted : bootBuiltins "sorted" = some (.builtin "sorted") := by decide +kernel
theorem bt_isi : bootBuiltins "isinstance" = some (.builtin "isinstance") := by decide +kernel
theorem px_b1 {f : Str} {id : String} {r : List V → Hp → VK → Prop} {p : M → Option M} {p' : Pos} (g : Good C fns N sc0 sc X) (hg : glC sc f = true) (hn : f ∈ bltNames) (hc : CallR X (.builtin id) r) (hv : bootBuiltins f = some (.builtin id)) (ok : P1ok X.K (fun x H Q => r [x] H Q) p) (ha : PX X a fa) (hs : nst a = true)
    (hne : f ≠ "__name__") : PX X (.Call (.Name f p') [a] [] pos) (fUn p fa) := by
  obtain ⟨h1, h2⟩ := gl_of g hg
  exact px_val ((pe_callB hc h1 (g.blt f hn) hv (pa_cons ha.pe pa_nil (star_cons hs)) hne h2 (star_cons hs) rfl).weak fun _ _ _ q => t_un ok q) call_true
theorem px_t1 {f : Str} {id : String} {r : List V → Hp → VK → Prop} {p : M → Option M} {p' : Pos} (g : Good C fns N sc0 sc X) (hg : glC sc f = true) (hn : f ∈ bltNames) (hc : CallR X (.type id) r) (hv : bootBuiltins f = some (.type id)) (ok : P1ok X.K (fun x H Q => r [x] H Q) p) (ha : PX X a fa) (hs : nst a = true)
    (hne : f ≠ "__name__") : PX X (.Call (.Name f p') [a] [] pos) (fUn p fa) := by
  obtain ⟨h1, h2⟩ := gl_of g hg
  exact px_val ((pe_callTy hc h1 (g.blt f hn) hv (pa_cons ha.pe pa_nil (star_cons hs)) hne h2 (star_cons hs) rfl).weak fun _ _ _ q => t_un ok q) call_true
theorem px_blt1 {f : Str} {o : O1} {p' : Pos} (g : Good C fns N sc0 sc X) (hg : glC sc f = true) (ho : blt1 f = some o) (ha : PX X a fa) (hs : nst a = true) : PX X (.Call (.Name f p') [a] [] pos) (fUn (p1 o) fa) := by
  unfold blt1 at ho
  rcases ite_some ho with ⟨e, e2⟩ | ho
  · subst e; subst e2
    exact px_b1 g hg (by decide +kernel) call_len_seq PySem.boot_len ok_len ha hs (by decide +kernel)
  rcases ite_some ho with ⟨e, e2⟩ | ho
  · subst e; subst e2
    exact px_t1 g hg (by decide +kernel) call_tuple_of PyProof.Rows.boot_tuple ok_tuple ha hs (by decide +kernel)
  rcases ite_some ho with ⟨e, e2⟩ | ho
  · subst e; subst e2
    exact px_t1 g hg (by decide +kernel) call_list_of PyProof.Rows.boot_list ok_list ha hs (by decide +kernel)
  rcases ite_some ho with ⟨e, e2⟩ | ho
  · subst e; subst e2
    exact px_b1 g hg (by decide +kernel) call_abs bt_abs ok_abs ha hs (by decide +kernel)
  rcases ite_some ho with ⟨e, e2⟩ | ho
  · subst e; subst e2
    exact px_t1 g hg (by decide +kernel) call_int1 PyProof.Rows.boot_int ok_int ha hs (by decide +kernel)
  rcases ite_some ho with ⟨e, e2⟩ | ho
  · subst e; subst e2
    exact px_b1 g hg (by decide +kernel) (cr_sum g.calm) bt_sum ok_sum ha hs (by decide +kernel)
  rcases ite_some ho with ⟨e, e2⟩ | ho
  · subst e; subst e2
    exact px_b1 g hg (by decide +kernel) (cr_max g.calm) bt_max ok_max ha hs (by decide +kernel)
  rcases ite_some ho with ⟨e, e2⟩ | ho
  · subst e; subst e2
    exact px_b1 g hg (by decide +kernel) (cr_min g.calm) bt_min ok_min ha hs (by decide +kernel)
  rcases ite_some ho with ⟨e, e2⟩ | ho
  · subst e; subst e2
    exact px_b1 g hg (by decide +kernel) (cr_all g.calm) bt_all ok_all ha hs (by decide +kernel)
  rcases ite_some ho with ⟨e, e2⟩ | ho
  · subst e; subst e2
    exact px_b1 g hg (by decide +kernel) (cr_any g.calm) bt_any ok_any ha hs (by decide +kernel)
  rcases ite_some ho with ⟨e, e2⟩ | ho
  · subst e; subst e2
    exact px_b1 g hg (by decide +kernel) cr_sortedI bt_sorted ok_sorted ha hs (by decide +kernel)
  · cases ho
end

section
variable {C : Nat → List M → Option (M × List M)} {fns : List (Str × Nat)} {N : List Str} {sc0 sc : Scope} {X : Cx} {pos : Pos} {a b c e : Expr} {es : List Expr} {fa fb fc : Slots → Option (RV × Slots)} {fl : Slots → Option (List RV × Slots)}
theorem ok_max2 {K : PySem.W.Frag} : P2ok K (fun x y H Q => ∃ i j, [x, y] = [V.int i, V.int j] ∧ Q (.int (if j > i then j else i)) H) (p2 .maxm) := by
  intro L H v1 v2 m1 m2 m Q h1 h2 hp k
  obtain ⟨i, j, rfl, rfl, e⟩ := pI_of h1 h2 hp
  cases e
  exact ⟨i, j, rfl, k _ _ [] (rep_int _) no_new Frm.refl⟩
theorem ok_min2 {K : PySem.W.Frag} : P2ok K (fun x y H Q => ∃ i j, [x, y] = [V.int i, V.int j] ∧ Q (.int (if j < i then j else i)) H) (p2 .minm) := by
  intro L H v1 v2 m1 m2 m Q h1 h2 hp k
  obtain ⟨i, j, rfl, rfl, e⟩ := pI_of h1 h2 hp
  cases e
  exact ⟨i, j, rfl, k _ _ [] (rep_int _) no_new Frm.refl⟩
theorem px_blt2 {f : Str} {o : O2} {p' : Pos} (g : Good C fns N sc0 sc X) (hg : glC sc f = true) (ho : blt2 f = some o) (ha : PX X a fa) (hb : PX X b fb) (hs : nst a = true) (hs2 : nst b = true) : PX X (.Call (.Name f p') [a, b] [] pos) (fBin (p2 o) fa fb) := by
  obtain ⟨h1, h2⟩ := gl_of g hg
  have hA : PA X [a, b] (tCons (tE X.K fa) (tCons (tE X.K fb) tNil)) := pa_cons ha.pe (pa_cons hb.pe pa_nil (star_cons hs2)) (star_cons hs)
  have hst : (backTo pos (starEach [a, b] X.env)).any (·.1) = false := star_any (by simp [hs, hs2])
  unfold blt2 at ho
  rcases ite_some ho with ⟨e, e2⟩ | ho
  · subst e; subst e2
    exact px_val ((pe_callB (call_max2 g.calm) h1 (g.blt _ (by decide +kernel)) bt_max hA (by decide) h2 (star_cons hs) (by simpa [hs, hs2, star_cons] using star_any (pos := pos) (env := X.env) (es := [b]) (by simp [hs2]))).weak fun _ _ _ q => t_bin ok_max2 q) call_true
  rcases ite_some ho with ⟨e, e2⟩ | ho
  · subst e; subst e2
    exact px_val ((pe_callB (call_min2 g.calm) h1 (g.blt _ (by decide +kernel)) bt_min hA (by decide) h2 (star_cons hs) (by simpa [hs, hs2, star_cons] using star_any (pos := pos) (env := X.env) (es := [b]) (by simp [hs2]))).weak fun _ _ _ q => t_bin ok_min2 q) call_true
  · cases ho
theorem px_isiT {T : String} {p : M → Option M} {p' p2 : Pos} (g : Good C fns N sc0 sc X) (hg : glC sc "isinstance" = true) (hT : glC sc T = true) (hn : (T : Str) ∈ bltNames) (hv : bootBuiltins T = some (.type T)) (hne : (T : Str) ≠ "__name__") (ok : P1ok X.K (rIs X.K T) p) (ha : PX X a fa) (hs : nst a = true) :
    PX X (.Call (.Name "isinstance" p') [a, .Name T p2] [] pos) (fUn p fa) := by
  obtain ⟨h1, h2⟩ := gl_of g hg
  obtain ⟨h3, h4⟩ := gl_of g hT
  have hb : PE X (.Name T p2) (tC (.ty T)) := pe_bltn h3 (g.blt _ hn) hv rfl hne h4
  have hA : PA X [a, .Name T p2] (tCons (tE X.K fa) (tCons (tC (.ty T)) tNil)) := pa_cons ha.pe (pa_cons hb pa_nil rfl) (star_cons hs)
  refine px_val ((pe_callB call_isi h1 (g.blt _ (by decide +kernel)) bt_isi hA (by decide) h2 (star_cons hs) rfl).weak fun σ H Q q => ?_) call_true
  refine t_un (Q := Q) (r := fun x H Q => rIsi X.K [x, .ty T] H Q) (fun L H v m1 m Q h hp k => ?_) q
  obtain ⟨t, b, k1, k2, k3⟩ := ok L H v m1 m Q h hp k
  exact ⟨v, .ty T, .type t, .type T, b, rfl, .ty T, k1, k2, k3⟩
theorem px_isi {T : Str} {o : O1} {p' p2 : Pos} (g : Good C fns N sc0 sc X) (hg : glC sc "isinstance" = true) (hT : glC sc T = true) (ho : isiOf T = some o) (ha : PX X a fa) (hs : nst a = true) : PX X (.Call (.Name "isinstance" p') [a, .Name T p2] [] pos) (fUn (p1 o) fa) := by
  unfold isiOf at ho
  rcases ite_some ho with ⟨e, e2⟩ | ho
  · subst e; subst e2
    exact px_isiT g hg hT (by decide +kernel) PyProof.Rows.boot_int (by decide) ok_isInt ha hs
  rcases ite_some ho with ⟨e, e2⟩ | ho
  · subst e; subst e2
    exact px_isiT g hg hT (by decide +kernel) PyProof.Rows.boot_bool (by decide) ok_isBool ha hs
  rcases ite_some ho with ⟨e, e2⟩ | ho
  · subst e; subst e2
    exact px_isiT g hg hT (by decide +kernel) PyProof.Rows.boot_str (by decide) ok_isStr ha hs
  rcases ite_some ho with ⟨e, e2⟩ | ho
  · subst e; subst e2
    exact px_isiT g hg hT (by decide +kernel) PyProof.Rows.boot_tuple (by decide) ok_isTuple ha hs
  · cases ho
/-! ranges -/
structure PR (X : Cx) (e : Expr) (fI : Slots → Option (IV × Slots)) : Prop where
  it : ∀ tg, PI X tg e (tI X.K fI)
  ls : ∀ pos p, Gl X "list" → X.mg "list" = none → PX X (.Call (.Name "list" p) [e] [] pos) (fLrng false fI)
  tp : ∀ pos p, Gl X "tuple" → X.mg "tuple" = none → PX X (.Call (.Name "tuple" p) [e] [] pos) (fLrng true fI)
  ns : noSet e = true
theorem pr_1 {p : Pos} (g : Good C fns N sc0 sc X) (hg : glC sc "range" = true) (ha : PX X a fa) (hs : nst a = true) : PR X (.Call (.Name "range" p) [a] [] pos) (fRng1 fa) := by
  obtain ⟨h1, h2⟩ := gl_of g hg
  have hm := g.blt "range" (by decide +kernel)
  refine ⟨fun tg => (pi_range1 h1 hm (pa_cons ha.pe pa_nil (star_cons hs)) (star_cons hs)).weak fun _ _ _ q => t_rng1 q, fun pos p h hm2 => ?_, fun pos p h hm2 => ?_, rfl⟩
  · exact px_val ((pe_listRg g.calm h hm2 (prg_1 h1 hm ha.pe (star_cons hs)) rfl).weak fun _ _ _ q => t_lrng1 q) call_true
  · exact px_val ((pe_tupRg g.calm h hm2 (prg_1 h1 hm ha.pe (star_cons hs)) rfl).weak fun _ _ _ q => t_trng1 q) call_true
theorem pr_2 {p : Pos} (g : Good C fns N sc0 sc X) (hg : glC sc "range" = true) (ha : PX X a fa) (hb : PX X b fb) (hs : nst a = true) (hs2 : nst b = true) : PR X (.Call (.Name "range" p) [a, b] [] pos) (fRng2 fa fb) := by
  obtain ⟨h1, h2⟩ := gl_of g hg
  have hm := g.blt "range" (by decide +kernel)
  have st2 : starEach [a, b] X.env = [(false, eval a X.env), (false, eval b X.env)] := by rw [star_cons hs, star_cons hs2]; rfl
  have st1 : starEach [b] X.env = [(false, eval b X.env)] := by rw [star_cons hs2]; rfl
  have pr := prg_2 (p := p) (pos := pos) h1 hm ha.pe hb.pe (star_cons hs) (star_cons hs2) (by rw [st1]; rfl)
  refine ⟨fun tg => (pi_range2 h1 hm (pa_cons ha.pe (pa_cons hb.pe pa_nil (star_cons hs2)) (star_cons hs)) st2 st1).weak fun _ _ _ q => t_rng2 q, fun pos p h hm2 => ?_, fun pos p h hm2 => ?_, rfl⟩
  · exact px_val ((pe_listRg g.calm h hm2 pr rfl).weak fun _ _ _ q => t_lrng2 q) call_true
  · exact px_val ((pe_tupRg g.calm h hm2 pr rfl).weak fun _ _ _ q => t_trng2 q) call_true
theorem pi_sq {tg : Expr} (ha : PX X a fa) : PI X tg a (tI X.K (fSeq fa)) := (pi_seq ha.pe).weak fun _ _ _ q => t_seq q
/-! methods -/
theorem er_ix : ∀ {ns : List Int} {k : Int}, k ∈ ns → ∃ j, ns[j]? = some k ∧ (∀ m : Nat, m < j → ns[m]? ≠ some k) ∧ ns.erase k = ns.eraseIdx j
  | [], k, h => by cases h
  | n :: ns, k, h => by
    by_cases hn : n = k
    · subst hn
      exact ⟨0, rfl, fun m hm => by omega, by simp⟩
    · have h2 : k ∈ ns := (List.mem_cons.mp h).elim (fun z => absurd z.symm hn) id
      obtain ⟨j, h3, h4, h5⟩ := er_ix h2
      refine ⟨j + 1, by simpa using h3, fun m hm => ?_, ?_⟩
      · cases m with
        | zero => intro q; exact hn (by simpa using q)
        | succ m => intro q; exact h4 m (by omega) (by simpa using q)
      · rw [List.erase_cons_tail (by simpa using hn), List.eraseIdx_cons_succ, h5]
theorem mt_rem : MtR X "list.remove" (rMt1 .remove) := by
  intro pins s σ H x xs v us Q I rx rxs h
  obtain ⟨a, ns, k, h1, h2, h3, h4, h5⟩ := h
  obtain ⟨j, k1, k2, k3⟩ := er_ix h4
  rw [k3] at h5
  exact mt_remove pins s σ H x xs v us Q I rx rxs ⟨a, ns, k, j, h1, h2, h3, k1, k2, h5⟩
theorem px_mt0 {x m : Str} {k : Nat} {o : Mt} {p ap cp : Pos} (g : Good C fns N sc0 sc X) (hx : visC sc x = true) (hl : (ap.endLine == cp.line) = true) (ho : mtd0 m = some o) (hk : slotOf N x = some k) : PX X (.Call (.Attribute (.Name x p) m ap) [] [] cp) (fMt0 o k) := by
  obtain ⟨h1, h2, h3⟩ := vis_of g hx
  have hv : PE X (.Name x p) (tVar k) := pe_var (by rw [g.hN]; exact slotOf_at hk) h1 h2 h3
  unfold mtd0 at ho
  rcases ite_some ho with ⟨e, e2⟩ | ho
  · subst e; subst e2
    exact px_val ((pe_bm0 PySem.F.plainAttrs_list PySem.F.slot_list_pop PySem.F.type_list_pop mt_pop hv rfl hl).weak fun _ _ _ q => t_mt0 q) call_true
  rcases ite_some ho with ⟨e, e2⟩ | ho
  · subst e; subst e2
    exact px_val ((pe_bm0 PySem.F.plainAttrs_list PySem.F.slot_list_reverse PySem.F.type_list_reverse mt_reverse hv rfl hl).weak fun _ _ _ q => t_mt0 q) call_true
  · cases ho
theorem px_mt1 {x m : Str} {k : Nat} {o : Mt} {p ap cp : Pos} (g : Good C fns N sc0 sc X) (hx : visC sc x = true) (hl : (ap.endLine == cp.line) = true) (ho : mtd1 m = some o) (hk : slotOf N x = some k) (ha : PX X a fa) (hs : nst a = true) : PX X (.Call (.Attribute (.Name x p) m ap) [a] [] cp) (fMt1 o k fa) := by
  obtain ⟨h1, h2, h3⟩ := vis_of g hx
  have hv : PE X (.Name x p) (tVar k) := pe_var (by rw [g.hN]; exact slotOf_at hk) h1 h2 h3
  have hA : PA X [a] (tCons (tE X.K fa) tNil) := pa_cons ha.pe pa_nil (star_cons hs)
  unfold mtd1 at ho
  rcases ite_some ho with ⟨e, e2⟩ | ho
  · subst e; subst e2
    exact px_val ((pe_bm PySem.F.plainAttrs_list PySem.F.slot_list_append PySem.F.type_list_append mt_append hv hA (hfew := by rw [star_cons hs]; rfl) (hline := hl) (hs := star_cons hs)).weak fun _ _ _ q => t_mt1 q) call_true
  rcases ite_some ho with ⟨e, e2⟩ | ho
  · subst e; subst e2
    exact px_val ((pe_bm PySem.F.plainAttrs_list PySem.F.slot_list_remove PySem.F.type_list_remove mt_rem hv hA (hfew := by rw [star_cons hs]; rfl) (hline := hl) (hs := star_cons hs)).weak fun _ _ _ q => t_mt1 q) call_true
  · cases ho
end

section
variable {C : Nat → List M → Option (M × List M)} {fns : List (Str × Nat)} {N : List Str} {sc0 sc : Scope} {X : Cx} {pos : Pos} {a b c e : Expr} {es : List Expr} {fa fb fc fe : Slots → Option (RV × Slots)} {fl : Slots → Option (List RV × Slots)}
theorem good_blk (g : Good C fns N sc0 sc X) (scope : Scope) (s : Shared) (H : Hp) (Cc : Addr) (cl : List (Str × Addr)) (fp : List Addr) : Good C fns N scope (relS scope sc) (X.blk s H scope (compEnvC scope cl Cc X.env) fp) where
  hN := g.hN
  nd := g.nd
  hsc := by
    show relS scope X.env.scope = relS scope sc
    rw [g.hsc]
  calm := g.calm
  xe := rfl
  raw := fun x k hk h => lookup_relS_keep hk h
  fn := fun x h => by
    show (scope.names.lookup x == some .cell) = true
    rw [h]; rfl
  units := g.units
  blt := g.blt
  fns := g.fns
theorem loc_of {x : Str} (g : Good C fns N sc0 sc X) (h : locC sc0 x = true) : Loc X.env.scope x ∧ (X.fn x = true ∨ X.env.scope.names.lookup x = some .local) := by
  unfold locC at h
  split at h
  · rename_i q
    have := g.raw x _ (by decide) q
    rw [← g.hsc] at this
    exact ⟨.inl this, .inr this⟩
  · rename_i q
    have := g.raw x _ (by decide) q
    rw [← g.hsc] at this
    exact ⟨.inr this, .inl (g.fn x q)⟩
  · cases h
theorem pg_nm {x : Str} {i : Nat} {p : Pos} (g : Good C fns N sc0 sc X) (h : locC sc0 x = true) (hi : slotOf N x = some i) : PG X (.Name x p) (gName i) := by
  obtain ⟨h1, h2⟩ := loc_of g h
  exact pg_name (by rw [g.hN]; exact g.nd) (by rw [g.hN]; exact slotOf_at hi) h1 h2
theorem asn_cons {env : PySem.Env} (h : nst e = true) : assignEach (e :: es) env = (false, assign e env) :: assignEach es env := by
  cases e <;> first | rfl | cases h
theorem names_ok : ∀ {es : List Expr} {is : List Nat}, Good C fns N sc0 sc X → trNames N sc0 es = some is → PGs X es (gNames is) ∧ (assignEach es X.env).length = is.length ∧ (assignEach es X.env).findIdx? (·.1) = none ∧ is.length = es.length
  | [], is, g, h => by cases h; exact ⟨pgs_nil, rfl, rfl, rfl⟩
  | e :: es, is, g, h => by
    cases e <;> first | exact (nomatch (show (none : Option (List Nat)) = some is from h)) | skip
    rename_i x p
    simp only [trNames] at h
    split at h
    · rename_i hx
      obtain ⟨i, hi, h⟩ := Option.bind_eq_some_iff.mp h
      obtain ⟨js, hj, rfl⟩ := Option.map_eq_some_iff.mp h
      obtain ⟨k1, k2, k3, k4⟩ := names_ok g hj
      have hc : assignEach (.Name x p :: es) X.env = (false, assign (.Name x p) X.env) :: assignEach es X.env := asn_cons rfl
      refine ⟨pgs_cons (pg_nm g hx hi) k1 (by rw [hc]; rfl), by rw [hc]; simp [k2], ?_, by simp [k4]⟩
      rw [hc, List.findIdx?_cons, k3]
      rfl
    · cases h
theorem tg_ok {tg : Expr} {t : Tg} (g : Good C fns N sc0 sc X) (h : trT N sc0 tg = some t) : PG X tg (gT X.K t) := by
  cases tg <;> first | exact (nomatch (show (none : Option Tg) = some t from h)) | skip
  · rename_i x p
    simp only [trT] at h
    split at h
    · rename_i hx
      obtain ⟨i, hi, rfl⟩ := Option.map_eq_some_iff.mp h
      exact pg_nm g hx hi
    · cases h
  · rename_i es k p
    simp only [trT] at h
    obtain ⟨is, hi, rfl⟩ := Option.map_eq_some_iff.mp h
    obtain ⟨k1, k2, k3, _⟩ := names_ok g hi
    exact pg_tup g.calm k1 k2 k3
theorem noSet_fold {env : PySem.Env} (h : noSet e = true) : ∀ x, foldedSetIterable e env x = pure x := fun x => by
  cases e <;> first | rfl | cases h
theorem tT_yes {K : PySem.W.Frag} {σ : L2.St} {H : Hp} {Q : Bool → Hp → Prop} (h : tT K (fun e => some (.ow (.d (.bool true)), e)) σ H Q) : tYes σ H Q := by
  obtain ⟨L, e, F, b, e', S, he, q⟩ := h
  cases he
  exact q H F S.xpw
theorem gNames_mono {R R' : L2.St → Hp → Prop} (h : ∀ σ H, R σ H → R' σ H) : ∀ {is : List Nat} {vs : List V} {σ : L2.St} {H : Hp}, gNames is vs σ H R → gNames is vs σ H R'
  | [], vs, σ, H, q => ⟨q.1, h _ _ q.2⟩
  | i :: is, vs, σ, H, ⟨v, r, e, q⟩ => ⟨v, r, e, gNames_mono (is := is) h q⟩
theorem gT_mono {K : PySem.W.Frag} {R R' : L2.St → Hp → Prop} (h : ∀ σ H, R σ H → R' σ H) {tt : Tg} {v : V} {σ : L2.St} {H : Hp} (q : gT K tt v σ H R) : gT K tt v σ H R' := by
  cases tt with
  | n i => exact h _ _ q
  | t is =>
    obtain ⟨a, xs, e1, e2, e3, q⟩ := q
    exact ⟨a, xs, e1, e2, e3, gNames_mono h q⟩
/-- a comprehension, with its parts -/
structure PC' (X : Cx) (elt : Expr) (gs : List Comprehension) (scope : Scope) (f : Slots → Option (RV × Slots)) : Prop where
  px : ∀ pos, PX X (.ListComp elt gs scope pos) f
  set : ∀ (i : Nat) (y : Str) (py pos spos : Pos), X.N[i]? = some y → X.env.scope.names.lookup y = some .local → swapsWith (.ListComp elt gs scope pos) (some (.Name y py)) spos.line X.env = pure true →
    ∃ te, PS X (.Assign [.Name y py] (.ListComp elt gs scope pos) spos) (tAsg te (gName i)) ∧ ∀ σ H Q, tE X.K f σ H Q → te σ H Q
theorem px_comp {elt tg iter : Expr} {ifs : List Expr} {scope : Scope} {own : List (Str × Nat)} {tt : Tg} {fI : Slots → Option (IV × Slots)} {ty : TT} (g : Good C fns N sc0 sc X) (hb : blkC N sc scope own = true) (hs : noSet iter = true)
    (hi : ∀ tg, PI X tg iter (tI X.K fI)) (ht : trT N scope tg = some tt) (hin : (tgSlots tt).all (fun i => decide (i ∈ own.map (·.2))) = true)
    (hc : ∀ X', Good C fns N scope (relS scope sc) X' → X'.K = X.K → PTs X' ifs ty) (hty : ∀ σ H Q, tT X.K fc σ H Q → ty σ H Q) (he : ∀ X', Good C fns N scope (relS scope sc) X' → X'.K = X.K → PE X' elt (tE X.K fe)) :
    PC' X elt [⟨tg, iter, ifs, 0⟩] scope (fComp (own.map (·.2)) tt fI fc fe) := by
  have ok : BlkOk X.N X.env.scope scope own := by rw [g.hN, g.hsc]; exact blkOk_by hb
  have hin' : ∀ i ∈ tgSlots tt, i ∈ own.map (·.2) := fun i hi => by
    have := List.all_eq_true.mp hin i hi
    exact of_decide_eq_true this
  have hN : X.N.Nodup := by rw [g.hN]; exact g.nd
  have w : ∀ σ H Q, tE X.K (fComp (own.map (·.2)) tt fI fc fe) σ H Q → tLc (tI X.K fI) (gT X.K tt) ty (tE X.K fe) (own.map (·.2)) σ H Q := fun σ H Q q => by
    have := t_comp hin' q
    obtain ⟨L, e, F, xs, lk, e', S, h1, k⟩ := this
    refine ⟨L, e, F, xs, lk, e', S, h1, fun J H' G F' vs st A a1 a2 a3 a4 a5 a6 a7 D hD => ?_⟩
    obtain ⟨W, w0, turn⟩ := k J H' G F' vs st A a1 a2 a3 a4 a5 a6 a7 D hD
    refine ⟨W, w0, fun i m H hw => ?_⟩
    rcases turn i m H hw with z | ⟨go, Nx, hn, step⟩
    · exact .inl z
    · refine .inr ⟨go, Nx, hn, fun x H' hy => ?_⟩
      have := step x H' hy
      refine gT_mono (fun σ2 H2 q => ?_) this
      exact ⟨q.1, hty _ _ _ q.2⟩
  refine ⟨fun pos => px_val ((pe_lc g.calm hN (hi tg) ok (fun s H Cc cl fp => tg_ok (good_blk g scope s H Cc cl fp) ht) (fun s H Cc cl fp => hc _ (good_blk g scope s H Cc cl fp) rfl) (fun s H Cc cl fp => he _ (good_blk g scope s H Cc cl fp) rfl) (noSet_fold hs)).weak w) fun _ => rfl, fun i y py pos spos hy hl hsw => ?_⟩
  exact ⟨_, ps_setLc g.calm hN hy hl hsw (hi tg) ok (fun s H Cc cl fp => tg_ok (good_blk g scope s H Cc cl fp) ht) (fun s H Cc cl fp => hc _ (good_blk g scope s H Cc cl fp) rfl) (fun s H Cc cl fp => he _ (good_blk g scope s H Cc cl fp) rfl) (noSet_fold hs), w⟩
end

section
variable {C : Nat → List M → Option (M × List M)} {fns : List (Str × Nat)} {N : List Str}
theorem map_some {α β : Type} {f : α → β} {x : Option α} {y : β} (h : x.map f = some y) : ∃ z, x = some z ∧ f z = y := Option.map_eq_some_iff.mp h
theorem bind_some {α β : Type} {f : α → Option β} {x : Option α} {y : β} (h : x.bind f = some y) : ∃ z, x = some z ∧ f z = some y := Option.bind_eq_some_iff.mp h
theorem if_some {α : Type} {c : Prop} [Decidable c] {x : Option α} {y : α} (h : (if c then x else none) = some y) : c ∧ x = some y := by
  by_cases hc : c
  · rw [if_pos hc] at h; exact ⟨hc, h⟩
  · rw [if_neg hc] at h; cases h
structure TrOk (C : Nat → List M → Option (M × List M)) (fns : List (Str × Nat)) (N : List Str) (n : Nat) : Prop where
  e : ∀ sc sc0 e t X, Good C fns N sc0 sc X → trE N fns n sc e = some t → PX X e (ev C t)
  l : ∀ sc sc0 es t X, Good C fns N sc0 sc X → trL N fns n sc es = some t → es.all nst = true ∧ PA X es (tL X.K (evL C t)) ∧ (∀ s rs e', evL C t s = some (rs, e') → rs.length = es.length)
  p : ∀ sc sc0 o t X, Good C fns N sc0 sc X → trP N fns n sc o = some t → PO X o (tO X.K (evP C t))
  b : ∀ sc sc0 f as t X p pos, Good C fns N sc0 sc X → glC sc f = true → trB N fns n sc f as = some t → PX X (.Call (.Name f p) as [] pos) (ev C t)
  r : ∀ sc sc0 e t X, Good C fns N sc0 sc X → trR N fns n sc e = some t → PR X e (evI C t)
  i : ∀ sc sc0 e t X, Good C fns N sc0 sc X → trI N fns n sc e = some t → ∀ tg, PI X tg e (tI X.K (evI C t))
  c : ∀ sc sc0 elt gs scope pos t X, Good C fns N sc0 sc X → trE N fns n sc (.ListComp elt gs scope pos) = some t → PC' X elt gs scope (ev C t)
theorem tr_comp {n : Nat} (ih : TrOk C fns N n) {sc sc0 : Scope} {elt : Expr} {gs : List Comprehension} {scope : Scope} {pos : Pos} {t : Tm} {X : Cx} (g : Good C fns N sc0 sc X) (h : trE N fns (n + 1) sc (.ListComp elt gs scope pos) = some t) : PC' X elt gs scope (ev C t) := by
  rcases gs with _ | ⟨⟨tg, iter, ifs, k⟩, _ | ⟨g2, gs⟩⟩
  · exact nomatch (show (none : Option Tm) = some t from h)
  · rw [trE] at h
    obtain ⟨hb, h⟩ := if_some h
    simp only [Bool.and_eq_true, decide_eq_true_eq] at hb
    obtain ⟨ti, h1, h⟩ := bind_some h
    obtain ⟨tt, h2, h⟩ := bind_some h
    obtain ⟨hin, h⟩ := if_some h
    have hk : k = 0 := hb.1
    subst hk
    rcases ifs with _ | ⟨c, _ | ⟨c2, cs⟩⟩
    · obtain ⟨te, h3, rfl⟩ := map_some h
      rw [ev_comp, ev_cst]
      exact px_comp (ty := tYes) g hb.2.1 hb.2.2 (ih.i _ _ _ _ _ g h1) h2 hin (fun X' _ _ => pts_nil) (fun _ _ _ q => tT_yes q) fun X' g' e => by rw [← e]; exact (ih.e _ _ _ _ _ g' h3).pe
    · obtain ⟨tc, h4, h⟩ := bind_some h
      obtain ⟨te, h3, rfl⟩ := map_some h
      rw [ev_comp]
      exact px_comp (ty := tT X.K (ev C tc)) g hb.2.1 hb.2.2 (ih.i _ _ _ _ _ g h1) h2 hin (fun X' g' e => by rw [← e]; exact pts_one (ih.e _ _ _ _ _ g' h4).pt) (fun _ _ _ q => q) fun X' g' e => by rw [← e]; exact (ih.e _ _ _ _ _ g' h3).pe
    · cases h
  · exact nomatch (show (none : Option Tm) = some t from h)
theorem tr_ok (C : Nat → List M → Option (M × List M)) (fns : List (Str × Nat)) (N : List Str) : ∀ n, TrOk C fns N n
  | 0 => ⟨fun _ _ _ _ _ _ h => (nomatch (show (none : Option Tm) = some _ from h)), fun _ _ _ _ _ _ h => (nomatch (show (none : Option Tm) = some _ from h)), fun _ _ _ _ _ _ h => (nomatch (show (none : Option Tm) = some _ from h)), fun _ _ _ _ _ _ _ _ _ _ h => (nomatch (show (none : Option Tm) = some _ from h)),
      fun _ _ _ _ _ _ h => (nomatch (show (none : Option Tm) = some _ from h)), fun _ _ _ _ _ _ h => (nomatch (show (none : Option Tm) = some _ from h)), fun _ _ _ _ _ _ _ _ _ h => (nomatch (show (none : Option Tm) = some _ from h))⟩
  | n + 1 => by
    have ih := tr_ok C fns N n
    refine ⟨fun sc sc0 e t X g h => ?_, fun sc sc0 es t X g h => ?_, fun sc sc0 o t X g h => ?_, fun sc sc0 f as t X p pos g hg h => ?_, fun sc sc0 e t X g h => ?_, fun sc sc0 e t X g h tg => ?_, fun sc sc0 elt gs scope pos t X g h => tr_comp ih g h⟩
    · cases e <;> first | exact (nomatch (show (none : Option Tm) = some t from h)) | skip
      · rename_i op vs pos
        rcases vs with _ | ⟨a, _ | ⟨b, r⟩⟩
        · cases op <;> exact (nomatch (show (none : Option Tm) = some t from h))
        · rw [trE] at h
          exact px_one (ih.e _ _ _ _ _ g h)
        · cases op
          · rw [trE] at h
            obtain ⟨ta, h1, hb⟩ := bind_some h
            obtain ⟨tb, h2, rfl⟩ := map_some hb
            rw [ev_and]
            exact px_and (ih.e _ _ _ _ _ g h1) (ih.e _ _ _ _ _ g h2)
          · rw [trE] at h
            obtain ⟨ta, h1, hb⟩ := bind_some h
            obtain ⟨tb, h2, rfl⟩ := map_some hb
            rw [ev_or]
            exact px_or (ih.e _ _ _ _ _ g h1) (ih.e _ _ _ _ _ g h2)
      · rename_i a op b pos
        rw [trE] at h
        obtain ⟨o, h0, ha⟩ := bind_some h
        obtain ⟨ta, h1, hb⟩ := bind_some ha
        obtain ⟨tb, h2, rfl⟩ := map_some hb
        rw [ev_bin]
        exact px_op h0 (ih.e _ _ _ _ _ g h1) (ih.e _ _ _ _ _ g h2)
      · rename_i op a pos
        cases op <;> first | exact (nomatch (show (none : Option Tm) = some t from h)) | skip
        · rw [trE] at h
          obtain ⟨ta, h1, rfl⟩ := map_some h
          rw [ev_not]
          exact px_not (ih.e _ _ _ _ _ g h1)
        · rw [trE] at h
          obtain ⟨ta, h1, rfl⟩ := map_some h
          rw [ev_un]
          exact px_un un_neg ok_neg (ih.e _ _ _ _ _ g h1) fun _ => rfl
      · rename_i c a b pos
        rw [trE] at h
        obtain ⟨tc, h0, ha⟩ := bind_some h
        obtain ⟨ta, h1, hb⟩ := bind_some ha
        obtain ⟨tb, h2, rfl⟩ := map_some hb
        rw [ev_ite]
        exact px_ite (ih.e _ _ _ _ _ g h0) (ih.e _ _ _ _ _ g h1) (ih.e _ _ _ _ _ g h2)
      · exact (tr_comp ih g h).px _
      · rename_i a ops cs pos
        rcases ops with _ | ⟨op, _ | ⟨op2, ops⟩⟩
        · exact (nomatch (show (none : Option Tm) = some t from h))
        · rcases cs with _ | ⟨b, _ | ⟨b2, cs⟩⟩
          · cases op <;> exact (nomatch (show (none : Option Tm) = some t from h))
          · by_cases hi : op = .Is
            · subst hi
              rw [trE] at h
              cases b <;> first | exact (nomatch (show (none : Option Tm) = some t from h)) | skip
              rename_i c k p
              cases c <;> first | exact (nomatch (show (none : Option Tm) = some t from h)) | skip
              · obtain ⟨ta, h1, rfl⟩ := map_some (show (trE N fns n sc a).map (.un .isN) = some t from h)
                rw [ev_un]
                exact px_is op_isN pe_non (fun L H v m1 m Q h hp k => ⟨rfl, ok_isN L H v m1 m Q h hp k⟩) rfl (ih.e _ _ _ _ _ g h1)
              · rename_i bb
                obtain ⟨ta, h1, rfl⟩ := map_some (show (trE N fns n sc a).map (.un (.isB bb)) = some t from h)
                rw [ev_un]
                exact px_is op_isBl pe_bl (ok_isB bb) rfl (ih.e _ _ _ _ _ g h1)
            · by_cases hi2 : op = .IsNot
              · subst hi2
                rw [trE] at h
                cases b <;> first | exact (nomatch (show (none : Option Tm) = some t from h)) | skip
                rename_i c k p
                cases c <;> first | exact (nomatch (show (none : Option Tm) = some t from h)) | skip
                · obtain ⟨ta, h1, rfl⟩ := map_some (show (trE N fns n sc a).map (.un .notN) = some t from h)
                  rw [ev_un]
                  exact px_is op_notN pe_non (fun L H v m1 m Q h hp k => ⟨rfl, ok_notN L H v m1 m Q h hp k⟩) rfl (ih.e _ _ _ _ _ g h1)
                · rename_i bb
                  obtain ⟨ta, h1, rfl⟩ := map_some (show (trE N fns n sc a).map (.un (.notB bb)) = some t from h)
                  rw [ev_un]
                  exact px_is op_notBl pe_bl (ok_notB bb) rfl (ih.e _ _ _ _ _ g h1)
              · have h' : (if noSet b then (trCmp op).bind fun o => (trE N fns n sc a).bind fun ta => (trE N fns n sc b).map fun tb => .bin o ta tb else none) = some t := by
                  cases op <;> first | exact h | exact absurd rfl hi | exact absurd rfl hi2
                obtain ⟨hs, hq⟩ := if_some h'
                obtain ⟨o, h0, ha⟩ := bind_some hq
                obtain ⟨ta, h1, hb⟩ := bind_some ha
                obtain ⟨tb, h2, rfl⟩ := map_some hb
                rw [ev_bin]
                exact px_cmp g h0 hs (ih.e _ _ _ _ _ g h1) (ih.e _ _ _ _ _ g h2)
          · cases op <;> exact (nomatch (show (none : Option Tm) = some t from h))
        · rcases cs with _ | ⟨b, _ | ⟨b2, cs⟩⟩ <;> cases op <;> exact (nomatch (show (none : Option Tm) = some t from h))
      · rename_i fn as kws pos
        rcases kws with _ | ⟨kw, kws⟩
        · cases fn <;> first | exact (nomatch (show (none : Option Tm) = some t from h)) | skip
          · -- a method of a name's
            rename_i o m ap
            cases o <;> first | exact (nomatch (show (none : Option Tm) = some t from h)) | skip
            rename_i x p
            rcases as with _ | ⟨a, _ | ⟨b, as⟩⟩
            · rw [trE] at h
              obtain ⟨hc, ha⟩ := if_some h
              simp only [Bool.and_eq_true] at hc
              obtain ⟨o, h1, hb⟩ := bind_some ha
              obtain ⟨k, h2, rfl⟩ := map_some hb
              rw [ev_mt0]
              exact px_mt0 g hc.1 hc.2 h1 h2
            · rw [trE] at h
              obtain ⟨hc, ha⟩ := if_some h
              simp only [Bool.and_eq_true] at hc
              obtain ⟨o, h1, hb⟩ := bind_some ha
              obtain ⟨k, h2, hc2⟩ := bind_some hb
              obtain ⟨ta, h3, rfl⟩ := map_some hc2
              rw [ev_mt1]
              exact px_mt1 g hc.1.1 hc.1.2 h1 h2 (ih.e _ _ _ _ _ g h3) hc.2
            · exact (nomatch (show (none : Option Tm) = some t from h))
          · rename_i f p
            rw [trE] at h
            obtain ⟨hg, ha⟩ := if_some h
            cases hf : fnAt fns f with
            | none =>
              rw [hf] at ha
              exact ih.b _ _ _ _ _ _ _ _ g hg ha
            | some q =>
              obtain ⟨j, np⟩ := q
              rw [hf] at ha
              obtain ⟨hn, hb⟩ := if_some ha
              have hn := of_decide_eq_true hn
              obtain ⟨tl, h1, rfl⟩ := map_some hb
              obtain ⟨k1, k2, k3⟩ := ih.l _ _ _ _ _ g h1
              rw [ev_call]
              cases as with
              | nil =>
                have e0 : evL C tl = fun e => some ([], e) := by
                  cases n with
                  | zero => exact (nomatch (show (none : Option Tm) = some tl from h1))
                  | succ n => rw [trL] at h1; cases h1; exact evL_nil C
                rw [e0]
                exact px_call0 g hg hf hn
              | cons a as => exact px_call g hg hf hn k1 k2 k3
        · cases fn <;> first | exact (nomatch (show (none : Option Tm) = some t from h)) | skip
          rename_i o m ap
          cases o <;> first | exact (nomatch (show (none : Option Tm) = some t from h)) | skip
          rcases as with _ | ⟨a, _ | ⟨b, as⟩⟩ <;> exact (nomatch (show (none : Option Tm) = some t from h))
      · rename_i c k pos
        rw [trE] at h
        obtain ⟨x, h1, rfl⟩ := map_some h
        rw [ev_cst]
        exact px_cst h1
      · rename_i a s pos
        rw [trE] at h
        by_cases hr : isRev s = true
        · rw [if_pos hr] at h
          obtain ⟨ta, h1, rfl⟩ := map_some h
          rw [ev_un]
          exact px_rev hr (ih.e _ _ _ _ _ g h1)
        · rw [if_neg hr] at h
          cases hs : sliceOf s with
          | some q =>
            obtain ⟨lo, hi⟩ := q
            rw [hs] at h
            obtain ⟨ta, h1, ha⟩ := bind_some h
            obtain ⟨tl, h2, hb⟩ := bind_some ha
            obtain ⟨th, h3, rfl⟩ := map_some hb
            rw [ev_slice]
            exact px_slice hs (ih.e _ _ _ _ _ g h1) (ih.p _ _ _ _ _ g h2) (ih.p _ _ _ _ _ g h3)
          | none =>
            rw [hs] at h
            by_cases hsl : isSlice s = true
            · have h' : (if isSlice s then none else (trE N fns n sc a).bind fun ta => (trE N fns n sc s).map fun tb => .bin .idx ta tb) = some t := h
              rw [if_pos hsl] at h'
              cases h'
            · have h' : (if isSlice s then none else (trE N fns n sc a).bind fun ta => (trE N fns n sc s).map fun tb => .bin .idx ta tb) = some t := h
              rw [if_neg hsl] at h'
              obtain ⟨ta, h1, ha⟩ := bind_some h'
              obtain ⟨tb, h2, rfl⟩ := map_some ha
              rw [ev_bin]
              exact px_idx (by simpa using hsl) (ih.e _ _ _ _ _ g h1) (ih.e _ _ _ _ _ g h2)
      · rename_i x pos
        rw [trE] at h
        obtain ⟨hx, ha⟩ := if_some h
        obtain ⟨k, h1, rfl⟩ := map_some ha
        rw [ev_var]
        exact px_var g hx h1
      · rename_i es pos
        rw [trE] at h
        obtain ⟨tl, h1, rfl⟩ := map_some h
        rw [ev_lst]
        exact px_lst (ih.l _ _ _ _ _ g h1).2.1
      · rename_i es k pos
        rw [trE] at h
        obtain ⟨tl, h1, rfl⟩ := map_some h
        rw [ev_tup]
        exact px_tup (ih.l _ _ _ _ _ g h1).2.1
    · cases es with
      | nil =>
        rw [trL] at h
        cases h
        rw [evL_nil]
        exact ⟨rfl, pa_nl, fun s rs e' h => by cases h; rfl⟩
      | cons e es =>
        rw [trL] at h
        obtain ⟨hs, h⟩ := if_some h
        obtain ⟨te, h1, h⟩ := bind_some h
        obtain ⟨tr, h2, rfl⟩ := map_some h
        obtain ⟨k1, k2, k3⟩ := ih.l _ _ _ _ _ g h2
        rw [evL_cons]
        refine ⟨by simp [hs, k1], pa_cn hs (ih.e _ _ _ _ _ g h1) k2, fun s rs e' h => ?_⟩
        unfold fCons at h
        obtain ⟨ra, _, h⟩ := bind_some h
        obtain ⟨rr, h4, h5⟩ := map_some h
        cases h5
        simp [k3 _ _ _ h4]
    · cases o with
      | none => rw [trP] at h; cases h; rw [evP_nil]; exact po_no
      | some e =>
        rw [trP] at h
        obtain ⟨te, h1, rfl⟩ := map_some h
        rw [evP_sm]
        exact po_sm (ih.e _ _ _ _ _ g h1)
    · rcases as with _ | ⟨a, _ | ⟨b, _ | ⟨c, as⟩⟩⟩
      · exact nomatch (show (none : Option Tm) = some t from h)
      · rw [trB] at h
        obtain ⟨hs, ha⟩ := if_some h
        clear h
        cases hr : trR N fns n sc a with
        | some r =>
          rw [hr] at ha
          have pr := ih.r _ _ _ _ _ g hr
          obtain ⟨h1, h2⟩ := gl_of g hg
          dsimp only at ha
          by_cases e : f = "list"
          · rw [if_pos e] at ha
            cases ha
            subst e
            rw [ev_lrng]
            exact pr.ls pos p h1 (g.blt _ (by decide +kernel))
          · rw [if_neg e] at ha
            obtain ⟨e, hb⟩ := if_some ha
            clear ha
            cases hb
            subst e
            rw [ev_trng]
            exact pr.tp pos p h1 (g.blt _ (by decide +kernel))
        | none =>
          rw [hr] at ha
          obtain ⟨o, h1, hb⟩ := bind_some ha
          obtain ⟨ta, h2, rfl⟩ := map_some hb
          rw [ev_un]
          exact px_blt1 g hg h1 (ih.e _ _ _ _ _ g h2) hs
      · rw [trB] at h
        obtain ⟨hs, ha⟩ := if_some h
        clear h
        simp only [Bool.and_eq_true] at hs
        by_cases hf : f = "isinstance"
        · rw [if_pos hf] at ha
          obtain ⟨T, h1, hb⟩ := bind_some ha
          obtain ⟨hT, hc⟩ := if_some hb
          obtain ⟨o, h2, hd⟩ := bind_some hc
          obtain ⟨ta, h3, rfl⟩ := map_some hd
          subst hf
          rw [ev_un]
          cases b <;> cases h1
          exact px_isi g hg hT h2 (ih.e _ _ _ _ _ g h3) hs.1
        · rw [if_neg hf] at ha
          obtain ⟨o, h1, hb⟩ := bind_some ha
          obtain ⟨ta, h2, hc⟩ := bind_some hb
          obtain ⟨tb, h3, rfl⟩ := map_some hc
          rw [ev_bin]
          exact px_blt2 g hg h1 (ih.e _ _ _ _ _ g h2) (ih.e _ _ _ _ _ g h3) hs.1 hs.2
      · exact nomatch (show (none : Option Tm) = some t from h)
    · cases e <;> first | exact (nomatch (show (none : Option Tm) = some t from h)) | skip
      rename_i fn as kws pos
      cases fn <;> first | exact (nomatch (show (none : Option Tm) = some t from h)) | skip
      rename_i f p
      rcases as with _ | ⟨a, _ | ⟨b, _ | ⟨c, as⟩⟩⟩
      · exact (nomatch (show (none : Option Tm) = some t from h))
      · rcases kws with _ | ⟨kw, kws⟩
        · rw [trR] at h
          obtain ⟨hc, ha⟩ := if_some h
          simp only [Bool.and_eq_true, decide_eq_true_eq] at hc
          obtain ⟨ta, h1, rfl⟩ := map_some ha
          rw [evI_rng1]
          have e := hc.1.2
          subst e
          exact pr_1 g hc.1.1 (ih.e _ _ _ _ _ g h1) hc.2
        · exact (nomatch (show (none : Option Tm) = some t from h))
      · rcases kws with _ | ⟨kw, kws⟩
        · rw [trR] at h
          obtain ⟨hc, ha⟩ := if_some h
          simp only [Bool.and_eq_true, decide_eq_true_eq] at hc
          obtain ⟨ta, h1, hb⟩ := bind_some ha
          obtain ⟨tb, h2, rfl⟩ := map_some hb
          rw [evI_rng2]
          have e := hc.1.1.2
          subst e
          exact pr_2 g hc.1.1.1 (ih.e _ _ _ _ _ g h1) (ih.e _ _ _ _ _ g h2) hc.1.2 hc.2
        · exact (nomatch (show (none : Option Tm) = some t from h))
      · exact (nomatch (show (none : Option Tm) = some t from h))
    · rw [trI] at h
      cases hr : trR N fns n sc e with
      | some r =>
        rw [hr] at h
        cases h
        exact (ih.r _ _ _ _ _ g hr).it tg
      | none =>
        rw [hr] at h
        obtain ⟨te, h1, rfl⟩ := map_some h
        rw [evI_sq]
        exact pi_sq (ih.e _ _ _ _ _ g h1)
end

/-! ## statements' trees -/
def swNames (sc : Scope) (ts : List Expr) : List Str :=
  let line := (ts.head?.map (·.pos.line)).getD 0
  ts.filterMap fun
    | .Name id pos => if sc.names.lookup id == some .local && pos.line == line then some id else none
    | _ => none
def isStar : Expr → Bool
  | .Starred .. => true
  | _ => false
/-- how a, b = x, y is stored: none: not known; some none: through the pair; some names: straight -/
def swS (sc : Scope) (ts vs : List Expr) : Option (Option (List Str)) :=
  if !(ts.length == 2 || ts.length == 3) || vs.length != ts.length then some none
  else if vs.any isStar then some none
  else if (swNames sc ts).length != ts.length || (swNames sc ts).eraseDups.length != (swNames sc ts).length then some none
  else if vs.all (foldedForSure 8) then some none
  else if vs.all (constantsAlone 8) then none
  else some (some (swNames sc ts))
theorem swS_ok {env : PySem.Env} {ts vs : List Expr} {k k2 : Nat} {p p2 : Pos} {r : Option (List Str)} (hk : env.scope.kind = .function) (h : swS env.scope ts vs = some r) : swappedStores [.Tuple ts k p] (.Tuple vs k2 p2) env = pure r := by
  have hb : env.blockKind = .function := by unfold Env.blockKind; rw [hk]; rfl
  unfold swappedStores
  unfold swS at h
  simp only [hb]
  have e1 : (vs.any fun | .Starred .. => true | _ => false) = vs.any isStar := by congr 1
  by_cases c1 : (!(ts.length == 2 || ts.length == 3) || vs.length != ts.length) = true
  · rw [if_pos c1] at h; cases h
    have c1' : (!(ts.length == 2 || ts.length == 3) || vs.length != ts.length || (ScopeKind.function != .function)) = true := by rw [c1]; rfl
    simp only [c1', if_true]
  · rw [if_neg c1] at h
    have c1' : (!(ts.length == 2 || ts.length == 3) || vs.length != ts.length || (ScopeKind.function != .function)) = false := by
      rw [Bool.not_eq_true] at c1; rw [c1]; rfl
    simp only [c1', Bool.false_eq_true, if_false]
    by_cases c2 : vs.any isStar = true
    · rw [if_pos c2] at h; cases h
      exact if_pos (e1.trans c2)
    · rw [if_neg c2] at h
      refine (if_neg fun z => c2 (e1.symm.trans z)).trans ?_
      by_cases c3 : ((swNames env.scope ts).length != ts.length || (swNames env.scope ts).eraseDups.length != (swNames env.scope ts).length) = true
      · rw [if_pos c3] at h; cases h
        exact if_pos c3
      · rw [if_neg c3] at h
        refine (if_neg c3).trans ?_
        by_cases c4 : vs.all (foldedForSure 8) = true
        · rw [if_pos c4] at h; cases h
          exact if_pos c4
        · rw [if_neg c4] at h
          refine (if_neg c4).trans ?_
          by_cases c5 : vs.all (constantsAlone 8) = true
          · rw [if_pos c5] at h; cases h
          · rw [if_neg c5] at h; cases h
            exact if_neg c5
theorem tS_any {K : PySem.W.Frag} {X : Cx} {sts : List Stmt} {f : List Nat → Slots → Option (Fl × Slots)} (h : ∀ p, PSs X sts (tS K p (f p))) : PSs X sts (fun D σ H => ∃ p, tS K p (f p) D σ H) :=
  ⟨fun pins s σ H D I ⟨p, q⟩ => (h p).run pins s σ H D I q⟩
def isComp : Expr → Bool
  | .ListComp .. => true
  | .SetComp .. => true
  | .DictComp .. => true
  | _ => false
/-- name = [..]: is the name set within the comprehension's own frame? -/
def swC (sc : Scope) (y : Str) (py : Pos) (v : Expr) : Bool :=
  match v with
  | .ListComp _ _ s _ => sc.names.lookup y == some .local && py.line == v.pos.line && !(s.names.any fun q => q.1 == y && (q.2 == .local || q.2 == .cell))
  | _ => false
theorem swC_ok {env : PySem.Env} {elt : Expr} {gs : List Comprehension} {s : Scope} {pos py : Pos} {y : Str} {l : Nat} (hk : env.scope.kind = .function) :
    swapsWith (.ListComp elt gs s pos) (some (.Name y py)) l env = pure (swC env.scope y py (.ListComp elt gs s pos)) := by
  have hb : env.blockKind = .function := by unfold Env.blockKind; rw [hk]; rfl
  unfold swapsWith
  simp only [hb]
  rfl
theorem sw_no {env : PySem.Env} {e : Expr} {t : Option Expr} {l : Nat} (h : isComp e = false) : swapsWith e t l env = pure false := by
  cases e <;> first | rfl | cases h
def trAug : Operator → Option O2
  | .Add => some .add
  | .Sub => some .sub
  | _ => none
def isDoc : Expr → Bool
  | .Constant (.str _) _ _ => true
  | _ => false
section
variable (N : List Str) (fns : List (Str × Nat))
mutual
def trS : Nat → Scope → Stmt → Option Sm
  | 0, _, _ => none
  | n + 1, sc, .Pass _ => some .skip
  | n + 1, sc, .Break _ => some .brk
  | n + 1, sc, .Continue _ => some .cnt
  | n + 1, sc, .Return none _ => some .retN
  | n + 1, sc, .Return (some e) _ => (trE N fns n sc e).map .ret
  | n + 1, sc, .Expr e _ => if isDoc e then some .skip else if isComp e then none else (trE N fns n sc e).map .ex
  | n + 1, sc, .Assign [.Name x px] e _ => if locC sc x then (slotOf N x).bind fun i => (trE N fns n sc e).map fun t => .set i t else none
  | n + 1, sc, .Assign [.Tuple ts _ _] (.Tuple vs _ _) _ => match swS sc ts vs with
    | some none => (trNames N sc ts).bind fun is => (trL N fns n sc vs).map fun t => .par is t
    | some (some _) => (trNames N sc ts).bind fun is => if is.Nodup then (trL N fns n sc vs).map fun t => .par is t else none
    | none => none
  | n + 1, sc, .Assign [.Tuple ts _ _] e _ => if isComp e then none else (trNames N sc ts).bind fun is => (trE N fns n sc e).map fun t => .unp is t
  | n + 1, sc, .Assign [.Subscript (.Name x _) i _] e _ => if visC sc x && !isSlice i && !isComp e then (slotOf N x).bind fun k => (trE N fns n sc i).bind fun ti => (trE N fns n sc e).map fun t => .setI k ti t else none
  | n + 1, sc, .AugAssign (.Name x _) op e _ => if locC sc x then (trAug op).bind fun o => (slotOf N x).bind fun i => (trE N fns n sc e).map fun t => .aug o i t else none
  | n + 1, sc, .If c a b _ => (trE N fns n sc c).bind fun tc => (trSs n sc a).bind fun ta => (trSs n sc b).map fun tb => .ite tc ta tb
  | n + 1, sc, .For tg it body [] _ => if noSet it then (trT N sc tg).bind fun tt => (trI N fns n sc it).bind fun ti => (trSs n sc body).map fun tb => .for_ tt ti tb else none
  | n + 1, sc, .While c body [] _ => (trE N fns n sc c).bind fun tc => (trSs n sc body).map fun tb => .while_ tc tb
  | n + 1, sc, .Raise _ _ _ => some .fail
  | _, _, _ => none
def trSs : Nat → Scope → List Stmt → Option Sm
  | 0, _, _ => none
  | _ + 1, _, [] => some .skip
  | n + 1, sc, s :: ss => (trS n sc s).bind fun a => (trSs n sc ss).map fun b => .seq a b
end
end
section
variable (C : Nat → List M → Option (M × List M)) (wf : Nat) (pin : List Nat)
theorem xq_seq (a b : Sm) : xq C wf pin (.seq a b) = fSq (xq C wf pin a) (xq C wf pin b) := by funext e; rw [xq]; rfl
theorem xq_set (i : Nat) (t : Tm) : xq C wf pin (.set i t) = fSet pin i (ev C t) := by funext e; rw [xq]; rfl
theorem xq_par (is : List Nat) (t : Tm) : xq C wf pin (.par is t) = fPar pin is (evL C t) := by funext e; rw [xq]; rfl
theorem xq_unp (is : List Nat) (t : Tm) : xq C wf pin (.unp is t) = fUnp pin is (ev C t) := by funext e; rw [xq]; rfl
theorem xq_setI (k : Nat) (i t : Tm) : xq C wf pin (.setI k i t) = fSetI k (ev C i) (ev C t) := by funext e; rw [xq]; rfl
theorem xq_aug (o : O2) (i : Nat) (t : Tm) : xq C wf pin (.aug o i t) = fAug pin o i (ev C t) := by funext e; rw [xq]; rfl
theorem xq_ret (t : Tm) : xq C wf pin (.ret t) = fRet pin (ev C t) := by funext e; rw [xq]; rfl
theorem xq_ite (c : Tm) (a b : Sm) : xq C wf pin (.ite c a b) = fIf (ev C c) (xq C wf pin a) (xq C wf pin b) := by funext e; rw [xq]; rfl
theorem xq_for (tg : Tg) (it : Tm) (b : Sm) : xq C wf pin (.for_ tg it b) = fFor pin tg (evI C it) (fun p => xq C wf p b) := by funext e; rw [xq]; rfl
theorem xq_while (c : Tm) (b : Sm) : xq C wf pin (.while_ c b) = whl (ev C c) (xq C wf pin b) wf := by funext e; rw [xq]
theorem xq_ex (t : Tm) : xq C wf pin (.ex t) = fun e => (ev C t e).map fun r => (.nx, r.2) := by funext e; rw [xq]
theorem xq_skip : xq C wf pin .skip = fun e => some (.nx, e) := by funext e; rw [xq]
theorem xq_brk : xq C wf pin .brk = fun e => some (.bk, e) := by funext e; rw [xq]
theorem xq_cnt : xq C wf pin .cnt = fun e => some (.ct, e) := by funext e; rw [xq]
theorem xq_retN : xq C wf pin .retN = fun e => some (.rt (.d .none), e) := by funext e; rw [xq]
theorem xq_fail : xq C wf pin .fail = fun _ => none := by funext e; rw [xq]
end
section
variable {C : Nat → List M → Option (M × List M)} {fns : List (Str × Nat)} {N : List Str} {wf : Nat} {sc : Scope} {X : Cx}
theorem slots_lt : ∀ {es : List Expr} {is : List Nat}, trNames N sc es = some is → ∀ i ∈ is, i < N.length
  | [], is, h => by cases h; exact fun i hi => by cases hi
  | e :: es, is, h => by
    cases e <;> first | exact (nomatch (show (none : Option (List Nat)) = some is from h)) | skip
    rename_i x p
    simp only [trNames] at h
    split at h
    · obtain ⟨i, hi, h⟩ := bind_some h
      obtain ⟨js, hj, rfl⟩ := map_some h
      intro k hk
      rcases List.mem_cons.mp hk with z | z
      · rw [z]; exact (List.getElem?_eq_some_iff.mp (slotOf_at hi)).1
      · exact slots_lt hj k z
    · cases h
theorem ps_dest {t e : Expr} {pos : Pos} {te : TE} {g : TG} (he : PE X e te) (hg : PG X t g) (hc : isComp e = false) (hw : swappedStores [t] e X.env = pure none) (h1 : (assignEach [t] X.env).map (·.2) = [assign t X.env]) : PS X (.Assign [t] e pos) (tAsg te g) :=
  ps_asg he hg (sw_no hc) hw h1
theorem stores_none {ts : List Expr} {k : Nat} {p : Pos} {e : Expr} {env : PySem.Env} (h : ∀ vs k2 p2, e ≠ .Tuple vs k2 p2) : swappedStores [.Tuple ts k p] e env = pure none := by
  unfold swappedStores
  cases e <;> first | rfl | (exact absurd rfl (h _ _ _))
/-- the names of a straight store -/
theorem names_of : ∀ {ts : List Expr} {is : List Nat}, trNames N sc ts = some is → ∃ xs : List (Str × Pos), ts = xs.map (fun q => Expr.Name q.1 q.2) ∧ xs.length = is.length
  | [], is, h => by cases h; exact ⟨[], rfl, rfl⟩
  | e :: es, is, h => by
    cases e <;> first | exact (nomatch (show (none : Option (List Nat)) = some is from h)) | skip
    rename_i x p
    simp only [trNames] at h
    split at h
    · obtain ⟨i, hi, h⟩ := bind_some h
      obtain ⟨js, hj, rfl⟩ := map_some h
      obtain ⟨xs, h1, h2⟩ := names_of hj
      exact ⟨(x, p) :: xs, by rw [h1]; rfl, by simp [h2]⟩
    · cases h
end

section
variable {K : PySem.W.Frag} {σ : L2.St} {H : Hp} {D : Ends} {pin : List Nat}
theorem s_par3 {i j l : Nat} {fl : Slots → Option (List RV × Slots)} (hi : ∀ k ∈ [i, j, l], k < σ.length) (h : tS K pin (fPar pin [i, j, l] fl) D σ H) : tPar3 i j l (tL K fl) D σ H := by
  obtain ⟨L, e, F, fl0, e', S, he, q⟩ := h
  unfold fPar at he
  split at he
  · cases he
  · rename_i hp
    simp only [Bool.or_eq_true, not_or, Bool.not_eq_true', decide_eq_false_iff_not, Classical.not_not] at hp
    obtain ⟨⟨rs, e1⟩, h1, h2⟩ := Option.bind_eq_some_iff.mp he
    obtain ⟨ms, h3, h2⟩ := Option.bind_eq_some_iff.mp h2
    obtain ⟨e2, h4, h5⟩ := Option.map_eq_some_iff.mp h2
    cases h5
    refine ⟨L, e, F, rs, e1, S, h1, fun vs H1 G F1 X hh => ?_⟩
    obtain ⟨σ2, F2, r, S2, s2, t⟩ := bindM_ok (X.ste S) hh h3 h4 hi X.nd fun a ha => X.dj S a (List.mem_append_left _ ha)
    have fin : D.nx σ2 H1 := q σ2 _ [] F2 ⟨S2, by simpa using S2.nd, fun a ha => by
        rcases s2 a (by simpa using ha) with z | z
        · exact X.new a (List.mem_append_left _ z)
        · exact X.new a (List.mem_append_right _ z), X.frm, fun j k hj hk => by
        obtain ⟨k1, k2⟩ := t.sh j k hj hk
        exact ⟨X.sh j k k1 hk, k2⟩, fun j hj => (t.out j (inPin_not hp.1 j hj)).1, t.len.1⟩ rfl
    obtain ⟨v, r1, e0, w, r2, e3, u, r3, e4, e5, fin'⟩ := r D.nx fin
    subst e0 e3 e4 e5
    exact ⟨v, w, u, rfl, fin'⟩
end
section
variable {C : Nat → List M → Option (M × List M)} {fns : List (Str × Nat)} {N : List Str} {wf : Nat} {sc : Scope} {X : Cx}
theorem swS_some {ts vs : List Expr} {ns : List Str} (h : swS sc ts vs = some (some ns)) : (ts.length = 2 ∨ ts.length = 3) ∧ vs.length = ts.length ∧ (swNames sc ts).length = ts.length ∧ ns = swNames sc ts := by
  unfold swS at h
  by_cases c1 : (!(ts.length == 2 || ts.length == 3) || vs.length != ts.length) = true
  · rw [if_pos c1] at h; cases h
  · rw [if_neg c1] at h
    by_cases c2 : vs.any isStar = true
    · rw [if_pos c2] at h; cases h
    · rw [if_neg c2] at h
      by_cases c3 : ((swNames sc ts).length != ts.length || (swNames sc ts).eraseDups.length != (swNames sc ts).length) = true
      · rw [if_pos c3] at h; cases h
      · rw [if_neg c3] at h
        by_cases c4 : vs.all (foldedForSure 8) = true
        · rw [if_pos c4] at h; cases h
        · rw [if_neg c4] at h
          by_cases c5 : vs.all (constantsAlone 8) = true
          · rw [if_pos c5] at h; cases h
          · rw [if_neg c5] at h; cases h
            simp only [Bool.or_eq_true, not_or, Bool.not_eq_true', Bool.not_eq_true, bne_eq_false_iff_eq, Bool.not_eq_false, beq_iff_eq] at c1 c3
            refine ⟨?_, c1.2, c3.1, rfl⟩
            have := c1.1
            simpa using this
def pk (sc : Scope) (line : Nat) : Expr → Option Str
  | .Name id pos => if sc.names.lookup id == some .local && pos.line == line then some id else none
  | _ => none
theorem filter_all {α β : Type} {f : α → Option β} : ∀ {xs : List α}, (xs.filterMap f).length = xs.length → ∀ x ∈ xs, ∃ y, f x = some y
  | [], _, x, hx => by cases hx
  | a :: xs, h, x, hx => by
    have hle := List.length_filterMap_le f xs
    cases ha : f a with
    | none =>
      rw [List.filterMap_cons, ha] at h
      simp only [List.length_cons] at h
      omega
    | some y =>
      rw [List.filterMap_cons, ha] at h
      rcases List.mem_cons.mp hx with z | z
      · rw [z]; exact ⟨y, ha⟩
      · exact filter_all (by simpa using h) x z
theorem sw_local {xs : List (Str × Pos)} (h : (swNames sc (xs.map fun q => Expr.Name q.1 q.2)).length = (xs.map fun q => Expr.Name q.1 q.2).length) : (∀ q ∈ xs, sc.names.lookup q.1 = some .local) ∧ swNames sc (xs.map fun q => Expr.Name q.1 q.2) = xs.map (·.1) := by
  have key : ∀ q ∈ xs, sc.names.lookup q.1 = some .local ∧ (q.2.line == (((xs.map fun q => Expr.Name q.1 q.2).head?.map (·.pos.line)).getD 0)) = true := fun q hq => by
    obtain ⟨y, hy⟩ := filter_all h _ (List.mem_map.mpr ⟨q, hq, rfl⟩)
    dsimp only at hy
    split at hy
    · rename_i hc
      simp only [Bool.and_eq_true, beq_iff_eq] at hc
      exact ⟨hc.1, by simpa using hc.2⟩
    · cases hy
  refine ⟨fun q hq => (key q hq).1, ?_⟩
  unfold swNames
  generalize ((xs.map fun q => Expr.Name q.1 q.2).head?.map (·.pos.line)).getD 0 = line at key
  clear h
  induction xs with
  | nil => rfl
  | cons q xs ih =>
    obtain ⟨k1, k2⟩ := key q List.mem_cons_self
    rw [List.map_cons, List.filterMap_cons]
    simp only [k1, beq_self_eq_true, k2, Bool.and_self, if_true]
    rw [List.map_cons, ih fun p hp => key p (List.mem_cons_of_mem _ hp)]
structure SOk (C : Nat → List M → Option (M × List M)) (fns : List (Str × Nat)) (N : List Str) (wf : Nat) (sc : Scope) (X : Cx) (n : Nat) : Prop where
  s : ∀ st t pin, trS N fns n sc st = some t → PS X st (tS X.K pin (xq C wf pin t))
  ss : ∀ st t pin, trSs N fns n sc st = some t → PSs X st (tS X.K pin (xq C wf pin t))
theorem never_of {st : Stmt} {K : PySem.W.Frag} {pin : List Nat} : PS X st (tS K pin fun _ => none) := ⟨fun _ _ _ _ _ _ h => by
  obtain ⟨L, e, F, fl, e', S, he, q⟩ := h
  cases he⟩
theorem tr_par {ts vs : List Expr} {is : List Nat} {r : Option (List Str)} {fl : Slots → Option (List RV × Slots)} {kt kv : Nat} {pt pv pos : Pos} {pin : List Nat} (g : Good C fns N sc sc X) (hk : sc.kind = .function) (hs : swS sc ts vs = some r) (hn : trNames N sc ts = some is) (hnd : r ≠ none → is.Nodup)
    (ha : PA X vs (tL X.K fl)) : PS X (.Assign [.Tuple ts kt pt] (.Tuple vs kv pv) pos) (tS X.K pin (fPar pin is fl)) := by
  have hk' : X.env.scope.kind = .function := by rw [g.hsc]; exact hk
  have hsw : swappedStores [.Tuple ts kt pt] (.Tuple vs kv pv) X.env = pure r := swS_ok hk' (by rw [g.hsc]; exact hs)
  have lt := slots_lt hn
  obtain ⟨k1, k2, k3, k4⟩ := names_ok g hn
  cases r with
  | none =>
    refine (ps_dest (pe_tup ha) (pg_tup g.calm k1 k2 k3) rfl hsw rfl).weak fun D σ H hl q => s_par (fun i hi => by rw [hl, g.hN]; exact lt i hi) q
  | some ns =>
    obtain ⟨h1, h2, h3, h4⟩ := swS_some hs
    obtain ⟨xs, e1, e2⟩ := names_of hn
    subst e1
    obtain ⟨l1, l2⟩ := sw_local h3
    rw [l2] at h4
    subst h4
    have nd := hnd (by intro z; cases z)
    have sl : ∀ {xs : List (Str × Pos)} {is : List Nat}, trNames N sc (xs.map fun q => Expr.Name q.1 q.2) = some is → ∀ (i : Nat) (q : Str × Pos), xs[i]? = some q → ∃ k, is[i]? = some k ∧ N[k]? = some q.1 := by
      intro xs
      induction xs with
      | nil => intro is h i q hq; simp at hq
      | cons p xs ih =>
        intro is h i q hq
        simp only [List.map_cons, trNames] at h
        split at h
        · obtain ⟨j, hj, h⟩ := bind_some h
          obtain ⟨js, hjs, rfl⟩ := map_some h
          cases i with
          | zero => simp at hq; subst hq; exact ⟨j, rfl, slotOf_at hj⟩
          | succ i => simpa using ih hjs i q (by simpa using hq)
        · cases h
    have hN : X.N.Nodup := by rw [g.hN]; exact g.nd
    rw [List.length_map] at h1 h2
    rcases h1 with h1 | h1
    · match xs, is, vs, h1, h2, e2 with
      | [x, y], [i, j], [a, b], _, _, _ =>
        obtain ⟨i', p1, p2⟩ := sl hn 0 x rfl
        obtain ⟨j', p3, p4⟩ := sl hn 1 y rfl
        cases p1; cases p3
        have hij : i ≠ j := by simpa using nd
        refine (ps_par g.calm hN (by rw [g.hN]; exact p2) (by rw [g.hN]; exact p4) hij (by rw [g.hsc]; exact l1 x (by simp)) (by rw [g.hsc]; exact l1 y (by simp)) ha hsw).weak fun D σ H hl q => s_par2 (fun i hi => by rw [hl, g.hN]; exact lt i hi) q
    · match xs, is, vs, h1, h2, e2 with
      | [x, y, z], [i, j, l], [a, b, c], _, _, _ =>
        obtain ⟨i', p1, p2⟩ := sl hn 0 x rfl
        obtain ⟨j', p3, p4⟩ := sl hn 1 y rfl
        obtain ⟨l', p5, p6⟩ := sl hn 2 z rfl
        cases p1; cases p3; cases p5
        have hd : (i ≠ j ∧ i ≠ l) ∧ j ≠ l := by simpa using nd
        refine (ps_par3 g.calm hN (by rw [g.hN]; exact p2) (by rw [g.hN]; exact p4) (by rw [g.hN]; exact p6) hd.1.1 hd.1.2 hd.2 (by rw [g.hsc]; exact l1 x (by simp)) (by rw [g.hsc]; exact l1 y (by simp)) (by rw [g.hsc]; exact l1 z (by simp)) ha hsw).weak fun D σ H hl q => s_par3 (fun i hi => by rw [hl, g.hN]; exact lt i hi) q
end

section
variable {C : Nat → List M → Option (M × List M)} {fns : List (Str × Nat)} {N : List Str} {wf : Nat} {sc : Scope} {X : Cx}
theorem ip_ok {op : Operator} {o : O2} (h : trAug op = some o) : PIp X op (rAug X.K o) := by
  cases op <;> cases h
  · intro pins s σ H x y v u Q I r1 r2 h
    rcases h with ⟨i, j, z, e1, e2, e3, q⟩ | ⟨_, q | q⟩
    · cases e3
      exact iop_add pins s σ H x y v u Q I r1 r2 ⟨i, j, e1, e2, q⟩
    · exact iop_ext pins s σ H x y v u Q I r1 r2 q
    · exact iop_extT pins s σ H x y v u Q I r1 r2 q
  · intro pins s σ H x y v u Q I r1 r2 h
    rcases h with ⟨i, j, z, e1, e2, e3, q⟩ | ⟨e, _⟩
    · cases e3
      exact iop_sub pins s σ H x y v u Q I r1 r2 ⟨i, j, e1, e2, q⟩
    · cases e
theorem trS_ok (g : Good C fns N sc sc X) (hk : sc.kind = .function) : ∀ n, SOk C fns N wf sc X n
  | 0 => ⟨fun _ _ _ h => (nomatch (show (none : Option Sm) = some _ from h)), fun _ _ _ h => (nomatch (show (none : Option Sm) = some _ from h))⟩
  | n + 1 => by
    have ih := trS_ok g hk n
    have T := tr_ok C fns N n
    have hk' : X.env.scope.kind = .function := by rw [g.hsc]; exact hk
    have hN : X.N.Nodup := by rw [g.hN]; exact g.nd
    have hP : PassesOwn (model X.prog X.w) X.A X.env X.xe := by rw [g.xe]; exact PassesOwn.never
    refine ⟨fun st t pin h => ?_, fun st t pin h => ?_⟩
    · cases st <;> first | exact (nomatch (show (none : Option Sm) = some t from h)) | skip
      · rename_i v pos
        cases v with
        | none => rw [trS] at h; cases h; rw [xq_retN]; exact ps_retN.weak fun _ _ _ _ q => s_retN q
        | some e =>
          rw [trS] at h
          obtain ⟨te, h1, rfl⟩ := map_some h
          rw [xq_ret]
          exact (ps_ret (T.e _ _ _ _ _ g h1).pe).weak fun _ _ _ _ q => s_ret q
      · rename_i tgs e pos
        rcases tgs with _ | ⟨tg, _ | ⟨t2, ts⟩⟩
        · exact (nomatch (show (none : Option Sm) = some t from h))
        · cases tg <;> first | exact (nomatch (show (none : Option Sm) = some t from h)) | skip
          · rename_i o i p
            cases o <;> first | exact (nomatch (show (none : Option Sm) = some t from h)) | skip
            rename_i x px
            rw [trS] at h
            obtain ⟨hc, ha⟩ := if_some h
            simp only [Bool.and_eq_true, Bool.not_eq_true'] at hc
            obtain ⟨k, h1, hb⟩ := bind_some ha
            obtain ⟨ti, h2, hd⟩ := bind_some hb
            obtain ⟨te, h3, rfl⟩ := map_some hd
            obtain ⟨v1, v2, v3⟩ := vis_of g hc.1.1
            have hv : PE X (.Name x px) (tVar k) := pe_var (by rw [g.hN]; exact slotOf_at h1) v1 v2 v3
            rw [xq_setI]
            have hg : PG X (.Subscript (.Name x px) i p) (gSub (tVar k) (tE X.K (ev C ti)) rSetL) := pg_sub hv (T.e _ _ _ _ _ g h2).pe set_list (fun _ => by
              cases i <;> first | rfl | (cases hc.1.2; done))
            refine (ps_dest (T.e _ _ _ _ _ g h3).pe hg hc.2 (by unfold swappedStores; rfl) rfl).weak fun _ _ _ _ q => s_setI q
          · rename_i x px
            rw [trS] at h
            obtain ⟨hc, ha⟩ := if_some h
            obtain ⟨i, h1, hb⟩ := bind_some ha
            obtain ⟨te, h2, rfl⟩ := map_some hb
            obtain ⟨l1, l2⟩ := loc_of g hc
            have hi : X.N[i]? = some x := by rw [g.hN]; exact slotOf_at h1
            rw [xq_set]
            have lt : ∀ {σ : L2.St}, σ.length = X.N.length → i < σ.length := fun hl => by rw [hl]; exact (List.getElem?_eq_some_iff.mp hi).1
            by_cases hcp : isComp e = true
            · cases e <;> first | (cases hcp; done) | skip
              · rename_i elt gs scope p
                have P := T.c _ _ _ _ _ _ _ _ g h2
                have hsw := swC_ok (env := X.env) (elt := elt) (gs := gs) (s := scope) (pos := p) (py := px) (y := x) (l := pos.line) hk'
                cases hs : swC X.env.scope x px (.ListComp elt gs scope p) with
                | true =>
                  rw [hs] at hsw
                  have hl : X.env.scope.names.lookup x = some .local := by
                    simp only [swC, Bool.and_eq_true, beq_iff_eq] at hs
                    exact hs.1.1
                  obtain ⟨te', p1, p2⟩ := P.set i x px p pos hi hl hsw
                  exact p1.weak fun D σ H hl q => s_set p2 (lt hl) q
                | false =>
                  rw [hs] at hsw
                  exact (ps_set hN hi l1 (P.px p).pe hsw l2).weak fun D σ H hl q => s_set (fun _ _ _ z => z) (lt hl) q
              · cases n with
                | zero => exact (nomatch (show (none : Option Tm) = some te from h2))
                | succ n => exact (nomatch (show (none : Option Tm) = some te from h2))
              · cases n with
                | zero => exact (nomatch (show (none : Option Tm) = some te from h2))
                | succ n => exact (nomatch (show (none : Option Tm) = some te from h2))
            · exact (ps_set hN hi l1 (T.e _ _ _ _ _ g h2).pe (sw_no (by simpa using hcp)) l2).weak fun D σ H hl q => s_set (fun _ _ _ z => z) (lt hl) q
          · rename_i ts kt pt
            by_cases ht : ∃ vs kv pv, e = .Tuple vs kv pv
            · obtain ⟨vs, kv, pv, rfl⟩ := ht
              rw [trS] at h
              cases hs : swS sc ts vs with
              | none => rw [hs] at h; cases h
              | some r =>
                rw [hs] at h
                cases r with
                | none =>
                  obtain ⟨is, h1, hb⟩ := bind_some h
                  obtain ⟨tl, h2, rfl⟩ := map_some hb
                  rw [xq_par]
                  exact tr_par g hk hs h1 (fun z => absurd rfl z) (T.l _ _ _ _ _ g h2).2.1
                | some ns =>
                  obtain ⟨is, h1, hb⟩ := bind_some h
                  obtain ⟨nd, hc⟩ := if_some hb
                  obtain ⟨tl, h2, rfl⟩ := map_some hc
                  rw [xq_par]
                  exact tr_par g hk hs h1 (fun _ => nd) (T.l _ _ _ _ _ g h2).2.1
            · have ht' : ∀ vs kv pv, e ≠ .Tuple vs kv pv := fun vs kv pv z => ht ⟨vs, kv, pv, z⟩
              have h' : (if isComp e then none else (trNames N sc ts).bind fun is => (trE N fns n sc e).map fun t => Sm.unp is t) = some t := by
                cases e <;> first | exact h | exact absurd rfl (ht' _ _ _)
              by_cases hcp : isComp e = true
              · rw [if_pos hcp] at h'; cases h'
              · rw [if_neg hcp] at h'
                obtain ⟨is, h1, hb⟩ := bind_some h'
                obtain ⟨te, h2, rfl⟩ := map_some hb
                obtain ⟨k1, k2, k3, k4⟩ := names_ok g h1
                rw [xq_unp]
                exact (ps_dest (T.e _ _ _ _ _ g h2).pe (pg_tup g.calm k1 k2 k3) (by simpa using hcp) (stores_none ht') rfl).weak fun _ _ _ _ q => s_unp q
        · cases tg <;> first | exact (nomatch (show (none : Option Sm) = some t from h)) | skip
          rename_i o i p
          cases o <;> exact (nomatch (show (none : Option Sm) = some t from h))
      · rename_i tg op e pos
        cases tg <;> first | exact (nomatch (show (none : Option Sm) = some t from h)) | skip
        rename_i x px
        rw [trS] at h
        obtain ⟨hc, ha⟩ := if_some h
        obtain ⟨o, h0, hb⟩ := bind_some ha
        obtain ⟨i, h1, hd⟩ := bind_some hb
        obtain ⟨te, h2, rfl⟩ := map_some hd
        obtain ⟨l1, l2⟩ := loc_of g hc
        rw [xq_aug]
        exact (ps_aug hN (by rw [g.hN]; exact slotOf_at h1) l1 (T.e _ _ _ _ _ g h2).pe (ip_ok h0) l2).weak fun _ _ _ _ q => s_aug q
      · rename_i tg it body els pos
        cases els with
        | cons a as => exact (nomatch (show (none : Option Sm) = some t from h))
        | nil =>
          rw [trS] at h
          obtain ⟨hs, ha⟩ := if_some h
          obtain ⟨tt, h1, hb⟩ := bind_some ha
          obtain ⟨ti, h2, hd⟩ := bind_some hb
          obtain ⟨tb, h3, rfl⟩ := map_some hd
          rw [xq_for]
          exact (ps_for hP g.calm (T.i _ _ _ _ _ g h2 tg) (tg_ok g h1) (tS_any fun p => ih.ss _ _ p h3) (noSet_fold hs)).weak fun _ _ _ _ q => s_for (fun p _ _ _ z => ⟨p, z⟩) q
      · rename_i c body els pos
        cases els with
        | cons a as => exact (nomatch (show (none : Option Sm) = some t from h))
        | nil =>
          rw [trS] at h
          obtain ⟨tc, h1, ha⟩ := bind_some h
          obtain ⟨tb, h2, rfl⟩ := map_some ha
          rw [xq_while]
          exact (ps_while hP (T.e _ _ _ _ _ g h1).pt (ih.ss _ _ pin h2)).weak fun _ _ _ _ q => s_while q
      · rename_i c a b pos
        rw [trS] at h
        obtain ⟨tc, h1, ha⟩ := bind_some h
        obtain ⟨ta, h2, hb⟩ := bind_some ha
        obtain ⟨tb, h3, rfl⟩ := map_some hb
        rw [xq_ite]
        exact (ps_if (T.e _ _ _ _ _ g h1).pt (ih.ss _ _ pin h2) (ih.ss _ _ pin h3)).weak fun _ _ _ _ q => s_if q
      · rw [trS] at h; cases h; rw [xq_fail]; exact never_of
      · rename_i e pos
        rw [trS] at h
        by_cases hd : isDoc e = true
        · rw [if_pos hd] at h
          cases h
          rw [xq_skip]
          cases e <;> first | (cases hd; done) | skip
          rename_i c k p
          cases c <;> first | (cases hd; done) | skip
          exact ps_doc.weak fun _ _ _ _ q => s_skip q
        · rw [if_neg hd] at h
          by_cases hc : isComp e = true
          · rw [if_pos hc] at h; cases h
          · rw [if_neg hc] at h
            obtain ⟨te, h1, rfl⟩ := map_some h
            rw [xq_ex]
            exact (ps_expr (T.e _ _ _ _ _ g h1).pe (sw_no (by simpa using hc))).weak fun _ _ _ _ q => s_ex q
      · rw [trS] at h; cases h; rw [xq_skip]; exact ps_pass.weak fun _ _ _ _ q => s_skip q
      · rw [trS] at h; cases h; rw [xq_brk]; exact ps_break.weak fun _ _ _ _ q => s_brk q
      · rw [trS] at h; cases h; rw [xq_cnt]; exact ps_continue.weak fun _ _ _ _ q => s_cnt q
    · cases st with
      | nil => rw [trSs] at h; cases h; rw [xq_skip]; exact pss_nil.weak fun _ _ _ q => s_skip q
      | cons s ss =>
        rw [trSs] at h
        obtain ⟨a, h1, ha⟩ := bind_some h
        obtain ⟨b, h2, rfl⟩ := map_some ha
        rw [xq_seq]
        exact (pss_cons (ih.s _ _ pin h1) (ih.ss _ _ pin h2)).weak fun _ _ _ q => s_seq q
end

/-! ## defs -/
structure Ent where
  name : Str
  st : Stmt
  N : List Str
  ps : List Str
  fn : Fn
section
variable {K : PySem.W.Frag} {L : List Addr} {H H' : Hp} {σ : L2.St} {e : Slots} {F : List Addr}
theorem EnvR.pad (n : Nat) : ∀ {σ : L2.St} {e : Slots} {F : List Addr}, EnvR K L H σ e F → EnvR K L H (σ ++ List.replicate n none) (e ++ List.replicate n none) F
  | _, _, _, .nil => by
    induction n with
    | zero => exact .nil
    | succ n ih => rw [List.replicate_succ]; exact .no ih
  | _, _, _, .no r => .no (r.pad n)
  | _, _, _, .so p r => .so p (r.pad n)
theorem outs_ok : ∀ {ms ms' : List M} {vs : List V} {σ : L2.St} {e : Slots} {F : List Addr}, EnvR K L H σ e F → outs ms e = some ms' → vs.length = ms.length → (∀ (i : Nat) (m : M) (v : V), ms[i]? = some m → vs[i]? = some v → isLst m = true → σ[i]? = some (some v)) →
    (∀ (i : Nat) (m : M) (v : V), ms[i]? = some m → vs[i]? = some v → isLst m = false → Rep K L H v m []) →
    ∃ F2, EnvR K L H (vs.map some) (ms'.map some) F2 ∧ F2.Sublist F ∧ ms'.length = ms.length ∧ ∀ (j : Nat) (m : M), ms'[j]? = some m → isSh m = true → ms[j]? = some m ∨ e[j]? = some (some m)
  | [], ms', [], σ, e, F, er, h, _, _, _ => by
    cases h
    exact ⟨[], .nil, List.nil_sublist _, rfl, fun j m hj => by simp at hj⟩
  | [], _, _ :: _, _, _, _, _, _, hl, _, _ => by simp at hl
  | _ :: _, _, [], _, _, _, _, _, hl, _, _ => by simp at hl
  | m :: ms, ms', v :: vs, σ, [], F, er, h, _, _, _ => by cases m <;> cases h
  | m :: ms, ms', v :: vs, σ, x :: e, F, er, h, hl, hp, hr => by
    have step : ∀ {σ2 : L2.St} {F1 : List Addr} {m1 : M} {ms2 : List M} {G : List Addr}, EnvR K L H σ2 e F1 → (∀ (i : Nat) (m : M) (v : V), ms[i]? = some m → vs[i]? = some v → isLst m = true → σ2[i]? = some (some v)) → outs ms e = some ms2 → Rep K L H v m1 G → (isSh m1 = true → m1 = m ∨ x = some m1) →
        ∃ F2, EnvR K L H ((v :: vs).map some) ((m1 :: ms2).map some) F2 ∧ F2.Sublist (G ++ F1) ∧ (m1 :: ms2).length = (m :: ms).length ∧ ∀ (j : Nat) (k : M), (m1 :: ms2)[j]? = some k → isSh k = true → (m :: ms)[j]? = some k ∨ (x :: e)[j]? = some (some k) := by
      intro σ2 F1 m1 ms2 G er2 hp2 h2 hrep hsh
      obtain ⟨F2, h3, h4, h5, h6⟩ := outs_ok er2 h2 (by simpa using hl) hp2 fun i k w hi hw hk => hr (i + 1) k w (by simpa using hi) (by simpa using hw) hk
      refine ⟨G ++ F2, .so hrep h3, List.Sublist.append (.refl _) h4, by simp [h5], fun j k hj hk => ?_⟩
      cases j with
      | zero =>
        simp only [List.getElem?_cons_zero, Option.some.injEq] at hj
        subst hj
        rcases hsh hk with q | q
        · exact .inl (by rw [q]; rfl)
        · exact .inr (by rw [q]; rfl)
      | succ j => simpa using h6 j k (by simpa using hj) hk
    have hp2 : ∀ {y : Option V} {σ2 : L2.St}, σ = y :: σ2 → ∀ (i : Nat) (k : M) (w : V), ms[i]? = some k → vs[i]? = some w → isLst k = true → σ2[i]? = some (some w) := fun e0 i k w hi hw hk => by
      have := hp (i + 1) k w (by simpa using hi) (by simpa using hw) hk
      rw [e0] at this
      simpa using this
    have other : isLst m = false → (∃ ms2, outs ms e = some ms2 ∧ ms' = m :: ms2) → ∃ F2, EnvR K L H ((v :: vs).map some) (ms'.map some) F2 ∧ F2.Sublist F ∧ ms'.length = (m :: ms).length ∧ ∀ (j : Nat) (k : M), ms'[j]? = some k → isSh k = true → (m :: ms)[j]? = some k ∨ (x :: e)[j]? = some (some k) := by
      rintro hm ⟨ms2, h2, rfl⟩
      have rep := hr 0 m v rfl rfl hm
      cases er with
      | no r => exact step r (hp2 rfl) h2 rep fun _ => .inl rfl
      | so p r =>
        obtain ⟨F2, k1, k2, k3, k4⟩ := step r (hp2 rfl) h2 rep fun _ => .inl rfl
        exact ⟨F2, k1, k2.trans (List.sublist_append_right _ _), k3, k4⟩
    cases m with
    | lst xs =>
      cases x with
      | none => cases h
      | some m1 =>
        obtain ⟨ms2, h2, rfl⟩ := map_some (show (outs ms e).map (m1 :: ·) = some ms' from h)
        cases er with
        | so p r =>
          have hv := hp 0 (.lst xs) v rfl rfl rfl
          simp only [List.getElem?_cons_zero, Option.some.injEq] at hv
          subst hv
          exact step r (hp2 rfl) h2 p fun _ => .inr rfl
    | d y => exact other rfl ((map_some (show (outs ms e).map (M.d y :: ·) = some ms' from h)).imp fun _ q => ⟨q.1, q.2.symm⟩)
    | sh y => exact other rfl ((map_some (show (outs ms e).map (M.sh y :: ·) = some ms' from h)).imp fun _ q => ⟨q.1, q.2.symm⟩)
    | fz y => exact other rfl ((map_some (show (outs ms e).map (M.fz y :: ·) = some ms' from h)).imp fun _ q => ⟨q.1, q.2.symm⟩)
theorem pinsOf_mem : ∀ {ms : List M} {b i : Nat} {m : M}, ms[i]? = some m → (∀ x, m ≠ .d x) → b + i ∈ pinsOf b ms
  | [], _, _, _, h, _ => by simp at h
  | k :: ms, b, 0, m, h, hm => by
    simp only [List.getElem?_cons_zero, Option.some.injEq] at h
    subst h
    cases k with
    | d x => exact absurd rfl (hm x)
    | lst x => exact List.mem_cons_self
    | sh x => exact List.mem_cons_self
    | fz x => exact List.mem_cons_self
  | k :: ms, b, i + 1, m, h, hm => by
    have ih := pinsOf_mem (b := b + 1) (i := i) (by simpa using h) hm
    have e0 : b + 1 + i = b + (i + 1) := by omega
    rw [e0] at ih
    cases k with
    | d x => exact ih
    | lst x => exact List.mem_cons_of_mem _ ih
    | sh x => exact List.mem_cons_of_mem _ ih
    | fz x => exact List.mem_cons_of_mem _ ih
theorem envR_get : ∀ {σ : L2.St} {e : Slots} {F : List Addr} {i : Nat} {m : M}, EnvR K L H σ e F → e[i]? = some (some m) → ∃ v G, σ[i]? = some (some v) ∧ Rep K L H v m G := fun er h => by
  obtain ⟨v, G, F', h1, h2, _⟩ := er.at h
  exact ⟨v, G, h1, h2⟩
end
/-- a def's body keeps what the evaluator says of it -/
theorem body_ok {K : PySem.W.Frag} {C : Nat → List M → Option (M × List M)} {wf : Nat} {fd : Fn} {N ps : List Str} {X : Cx} {body : List Stmt} {vs : List V} {H : Hp} {Q : VK} {E : XK} (hK : X.K = K) (hnp : fd.np = ps.length) (hns : fd.ns = N.length)
    (hb : ∀ pin, PSs X body (tS X.K pin (xq C wf pin fd.body))) (h : spOf K (run1 C wf fd) ps.length vs H Q E) : ∃ t, PSs X body t ∧ t { nx := fun _ H' => Q .non H', rt := Q } (L2.start N vs) H := by
  subst hK
  obtain ⟨hl, L, ms, F, r, ms', S, hc, q⟩ := h
  unfold run1 at hc
  obtain ⟨hlen, hc⟩ := if_some hc
  obtain ⟨⟨fl, e'⟩, h1, h2⟩ := bind_some hc
  refine ⟨_, hb (pinsOf 0 ms), L, ms.map some ++ List.replicate (fd.ns - fd.np) none, F, fl, e', ?_, h1, fun σ' H' G F' X' => ?_⟩
  · obtain ⟨F0, er, p⟩ := S.er
    refine ⟨⟨F0, ?_, p⟩, S.nd, S.dj, S.lt⟩
    unfold L2.start
    rw [hns, hnp, hl]
    exact er.pad _
  · obtain ⟨F0, er, p⟩ := S.er
    have hst : ∀ (i : Nat) (v : V), vs[i]? = some v → (L2.start N vs)[i]? = some (some v) := fun i v hv => by
      unfold L2.start
      have hi : i < vs.length := (List.getElem?_eq_some_iff.mp hv).1
      rw [List.getElem?_append_left (by simpa using hi), List.getElem?_map, hv]
      rfl
    have main : ∀ ms'', outs ms e' = some ms'' → ∃ F2, XPw X.K L H F (vs.map some) (ms.map some) (ms''.map some) H' G F2 ∨ ¬ MutAt H' G := by
      intro ms'' ho
      by_cases hmu : MutAt H' G
      · obtain ⟨F1, er1, p1⟩ := X'.st.er
        have hvl : vs.length = ms.length := by rw [hl, hlen, hnp]
        obtain ⟨F2, k1, k2, k3, k4⟩ := outs_ok er1 ho hvl (fun i m v hi hv hm => by
            rw [X'.pin i (by simpa using pinsOf_mem (b := 0) hi (fun x z => by rw [z] at hm; cases hm))]
            exact hst i v hv) fun i m v hi hv hm => by
            obtain ⟨w, G0, h3, h4⟩ := envR_get er (show (ms.map some)[i]? = some (some m) by rw [List.getElem?_map, hi]; rfl)
            rw [List.getElem?_map, hv] at h3
            cases h3
            rw [h4.shNil hm] at h4
            exact h4.frm X'.frm S.mutAt (fun a ha z => by cases z) S.dj
        refine ⟨F2, .inl ⟨⟨F2, k1, .refl _⟩, ?_, fun a ha => ?_, X'.frm, hmu, fun j m hj hm => ?_⟩⟩
        · have n1 := List.nodup_append.mp X'.nd
          exact List.nodup_append.mpr ⟨n1.1, (p1.nodup_iff.mpr n1.2.1).sublist k2, fun a ha b hb z => n1.2.2 a ha b (p1.mem_iff.mp (k2.subset hb)) z⟩
        · rcases List.mem_append.mp ha with z | z
          · exact X'.new a (List.mem_append_left _ z)
          · exact X'.new a (List.mem_append_right _ (p1.mem_iff.mp (k2.subset z)))
        · rw [List.getElem?_map] at hj
          obtain ⟨m0, hm0, e0⟩ := Option.map_eq_some_iff.mp hj
          cases e0
          rcases k4 j m hm0 hm with z | z
          · rw [List.getElem?_map, z]; rfl
          · have k5 := (X'.sh j m z hm).1
            have hjl : j < ms.length := by rw [← k3]; exact (List.getElem?_eq_some_iff.mp hm0).1
            rw [List.getElem?_append_left (by simpa using hjl)] at k5
            exact k5
      · exact ⟨[], .inr hmu⟩
    cases fl with
    | nx =>
      intro hG
      subst hG
      obtain ⟨ms'', ho, e0⟩ := map_some h2
      cases e0
      obtain ⟨F2, k | k⟩ := main ms' ho
      · exact q .non H' [] F2 k rep_non
      · exact absurd (fun a ha => by cases ha) k
    | rt m =>
      intro v hv
      obtain ⟨ms'', ho, e0⟩ := map_some h2
      cases e0
      obtain ⟨F2, k | k⟩ := main ms' ho
      · exact q v H' G F2 k hv
      · exact absurd hv.mutAt k
    | bk => cases h2
    | ct => cases h2
/-- what the written part says of a def -/
structure FactK (K : PySem.W.Frag) (x : Str) (st : Stmt) (ps : List Str) : Prop where
  ex : ∃ f fd, PySem.W.nsIn K mainGlobals x = some (some (.ref f)) ∧ Fun K x x st f fd ∧ Binds K fd ps []
theorem fact_mk {K : PySem.W.Frag} {x : Str} {st : Stmt} {ps : List Str} {f : Addr} {oc : Value} {od an : Option Addr} {osl : Array (Option Value)} {kV doc pm cdv ct : Value}
    (hb : ∀ (kV doc pm : Value) (an : Option Addr) (cdv ct : Value) (us : List Value), us.length = ps.length → bindArgs (PySem.W.fnOf x x (defArgs st) (defBody st) (defScope st) .none kV doc pm an cdv ct) ⟨us, []⟩ = pure (ps.zip us))
    (a : PySem.W.nsIn K mainGlobals x = some (some (.ref f))) (l : K.lookup f = some ⟨oc, od, .func (PySem.W.fnOf x x (defArgs st) (defBody st) (defScope st) .none kV doc pm an cdv ct), osl⟩) (c : PySem.W.codeIn K cdv x = true) (k : PySem.W.keepIn K (.ref f) = true) : FactK K x st ps := by
  have F := fun_mk (st := st) l c k
  exact ⟨f, _, a, F, F.binds hb⟩
def Facts (K : PySem.W.Frag) (tbl : List Ent) : Prop := ∀ t ∈ tbl, FactK K t.name t.st t.ps
theorem facts_nil {K : PySem.W.Frag} : Facts K [] := fun t h => by cases h
theorem facts_cons {K : PySem.W.Frag} {t : Ent} {ts : List Ent} (h : FactK K t.name t.st t.ps) (r : Facts K ts) : Facts K (t :: ts) := fun s hs => by
  rcases List.mem_cons.mp hs with z | z
  · rw [z]; exact h
  · exact r s z
/-- what the translation must say of a def -/
structure EntOk (fns : List (Str × Nat)) (t : Ent) : Prop where
  sc : FnScope t.N t.ps (defScope t.st)
  tr : trSs t.N fns 100 (defScope t.st) (defBody t.st) = some t.fn.body
  np : t.fn.np = t.ps.length
  ns : t.fn.ns = t.N.length
def Ents (fns : List (Str × Nat)) (tbl : List Ent) : Prop := ∀ t ∈ tbl, EntOk fns t
theorem ents_nil {fns : List (Str × Nat)} : Ents fns [] := fun t h => by cases h
theorem ents_cons {fns : List (Str × Nat)} {t : Ent} {ts : List Ent} (h : EntOk fns t) (r : Ents fns ts) : Ents fns (t :: ts) := fun s hs => by
  rcases List.mem_cons.mp hs with z | z
  · rw [z]; exact h
  · exact r s z
def NoneIn (K : PySem.W.Frag) (xs : List Str) : Prop := ∀ x ∈ xs, PySem.W.nsIn K mainGlobals x = some none
theorem noneIn_nil {K : PySem.W.Frag} : NoneIn K [] := fun t h => by cases h
theorem noneIn_cons {K : PySem.W.Frag} {t : Str} {ts : List Str} (h : PySem.W.nsIn K mainGlobals t = some none) (r : NoneIn K ts) : NoneIn K (t :: ts) := fun s hs => by
  rcases List.mem_cons.mp hs with z | z
  · rw [z]; exact h
  · exact r s z
theorem fns_ok {P : Program} {w : World} {K : PySem.W.Frag} {mg : Str → Option Value} {base : Heap} {wf : Nat} {fns : List (Str × Nat)} {tbl : List Ent} (hf : fns = tbl.map fun t => (t.name, t.ps.length)) (ents : Ents fns tbl) (facts : Facts K tbl)
    (hmg : ∀ x v, PySem.W.nsIn K mainGlobals x = some (some v) → mg x = some v) (blt : ∀ x ∈ bltNames, mg x = none) : ∀ (k j : Nat) (t : Ent), tbl[j]? = some t → ∀ f fd, Fun K t.name t.name t.st f fd →
      FnOk P w K mg base CX0 k f fd t.ps (spOf K (callF wf (tbl.map (·.fn)) k j) t.ps.length)
  | 0, j, t, ht, f, fd, F => ⟨fun vs H Q E h => h.1, fun A outer s H args us vs Q E hr e0 hb r h => by
      obtain ⟨_, L, ms, F', r', ms', S, hc, q⟩ := h
      cases hc⟩
  | k + 1, j, t, ht, f, fd, F => by
    have mem : t ∈ tbl := List.mem_of_getElem? ht
    have en := ents t mem
    refine F.ok en.sc (fun vs H Q E h => h.1) fun cdv A outer s H vs Q E hr h => ?_
    have hX : Good (callF wf (tbl.map (·.fn)) k) fns t.N (defScope t.st) (defScope t.st) (cxOf CX0 P w K mg base t.N t.name (defScope t.st) f cdv A outer s H E).nox :=
      { hN := rfl, nd := en.sc.nd, hsc := rfl, calm := rfl, xe := rfl, raw := fun _ _ _ h => h, fn := fun _ _ => rfl,
        units := by have := hr.un; show (A.deeper _).units + 65 < cLine; omega
        blt := blt
        fns := fun j' nm np hj => by
          rw [hf, List.getElem?_map] at hj
          obtain ⟨t', ht', e⟩ := Option.map_eq_some_iff.mp hj
          cases e
          obtain ⟨f', fd', a', F', b'⟩ := (facts t' (List.mem_of_getElem? ht')).ex
          exact ⟨k, f', fd', t'.ps, hr, hmg _ _ a', F'.kp, b', fns_ok hf ents facts hmg blt k j' t' ht' f' fd' F'⟩ }
    have hk : (defScope t.st).kind = .function := en.sc.kind
    have hbody : ∀ pin, PSs (cxOf CX0 P w K mg base t.N t.name (defScope t.st) f cdv A outer s H E).nox (defBody t.st) (tS K pin (xq (callF wf (tbl.map (·.fn)) k) wf pin t.fn.body)) := fun pin => (trS_ok (wf := wf) hX hk 100).ss _ _ pin en.tr
    refine body_ok (fd := t.fn) (ps := t.ps) (E := E) rfl en.np en.ns hbody ?_
    have e1 : callF wf (tbl.map (·.fn)) (k + 1) j = run1 (callF wf (tbl.map (·.fn)) k) wf t.fn := by
      funext ms
      rw [callF, List.getElem?_map, ht]
      rfl
    rw [e1] at h
    exact h
/-- the law itself: what is asked of the evaluator alone -/
theorem law_sp {K : PySem.W.Frag} {c : List M → Option (M × List M)} {H : Hp} {a : Addr} {ns : List Int} {Q : VK} {E : XK} (hS : SqL K H a (ns.map V.int)) (hc : ∃ ms', c [.fz (ns.map .int)] = some (dB true, ms')) (q : ∀ H', Q (.bl true) H') : spOf K c 1 [.ref a] H Q E := by
  obtain ⟨ms', hc⟩ := hc
  have fin : ∀ L : List Addr, StL K L H a (ns.map V.int) → (∀ b ∈ L, ∃ o, H b = some o) → spOf K c 1 [.ref a] H Q E := fun L hL hlt => by
    refine ⟨rfl, L, [.fz (ns.map .int)], [], dB true, ms', ⟨⟨[], ?_, .refl _⟩, List.nodup_nil, (fun b hb => by cases hb), hlt⟩, hc, fun v H' G F' X hr => ?_⟩
    · have := EnvR.so (K := K) (L := L) (H := H) (σ := []) (e := []) (F := []) (v := .ref a) (m := .fz (ns.map .int)) (G := []) ⟨rfl, a, _, rfl, hL, dps_of_ints ns, pure_ints ns⟩ .nil
      simpa using this
    · have e : v = .bl true := dp_bool hr.2.1
      rw [e]
      exact q H'
  rcases hS with (h | ⟨o, h⟩) | h
  · exact fin [a] (.inr (.inl ⟨by simp, h⟩)) fun b hb => by rw [List.mem_singleton.mp hb]; exact ⟨_, h⟩
  · exact fin [] (.inl ⟨o, h⟩) fun b hb => by cases hb
  · exact fin [] (.inr (.inr h)) fun b hb => by cases hb

end Cs
namespace Cs
open PySem PySem.Spec PyProof.Rows L2
/-! ## running by hand: a set of equations that open one step where the slots stand as a list -/
theorem szl : sizeLine = 16777216 := sizeLine_eq
def wp {α : Type} (o : Option α) (Q : α → Prop) : Prop := ∃ a, o = some a ∧ Q a
theorem wp_some {α : Type} {a : α} {Q : α → Prop} : wp (some a) Q ↔ Q a := ⟨fun ⟨_, h, q⟩ => by cases h; exact q, fun q => ⟨a, rfl, q⟩⟩
theorem wp_none {α : Type} {Q : α → Prop} : wp none Q ↔ False := ⟨fun ⟨_, h, _⟩ => (nomatch h), False.elim⟩
theorem wp_bind {α β : Type} {o : Option α} {f : α → Option β} {Q : β → Prop} : wp (o.bind f) Q ↔ wp o fun a => wp (f a) Q := by
  cases o with
  | none => simp [wp]
  | some a => simp [wp]
theorem wp_map {α β : Type} {o : Option α} {f : α → β} {Q : β → Prop} : wp (o.map f) Q ↔ wp o fun a => Q (f a) := by
  cases o with
  | none => simp [wp]
  | some a => simp [wp]
theorem wp_ite {α : Type} {c : Prop} [Decidable c] {x y : Option α} {Q : α → Prop} : wp (if c then x else y) Q ↔ (c → wp x Q) ∧ (¬c → wp y Q) := by
  by_cases h : c
  · simp [h]
  · simp [h]
theorem wp_eq {α : Type} {o : Option α} {a : α} : o = some a ↔ wp o fun b => b = a := ⟨fun h => ⟨a, h, rfl⟩, fun ⟨b, h, e⟩ => by rw [h, e]⟩
theorem wp_imp {α : Type} {o : Option α} {P Q : α → Prop} (h : wp o P) (i : ∀ a, P a → Q a) : wp o Q := let ⟨a, e, p⟩ := h; ⟨a, e, i a p⟩
def bR : RV → Option Bool
  | .ow (.d (.bool b)) => some b
  | _ => none
def iR : RV → Option Int
  | .ow (.d (.int i)) => some i
  | _ => none
def dR : RV → Option PyData
  | .ow (.d x) => some x
  | _ => none
def mR : RV → Option M
  | .ow m => some m
  | _ => none
theorem bR_b (b : Bool) : bR (.ow (.d (.bool b))) = some b := rfl
theorem iR_i (i : Int) : iR (.ow (.d (.int i))) = some i := rfl
theorem dR_d (x : PyData) : dR (.ow (.d x)) = some x := rfl
theorem mR_m (m : M) : mR (.ow m) = some m := rfl
def look (o : Option (Option M)) (k : Nat) (e : Slots) : Option (RV × Slots) :=
  match o with
  | some (some (.d x)) => some (.ow (.d x), e)
  | some (some _) => some (.al k, e)
  | _ => none
theorem look_d (x : PyData) (k : Nat) (e : Slots) : look (some (some (.d x))) k e = some (.ow (.d x), e) := rfl
theorem look_l (x : List PyData) (k : Nat) (e : Slots) : look (some (some (.lst x))) k e = some (.al k, e) := rfl
theorem look_s (x : List PyData) (k : Nat) (e : Slots) : look (some (some (.sh x))) k e = some (.al k, e) := rfl
theorem look_f (x : List PyData) (k : Nat) (e : Slots) : look (some (some (.fz x))) k e = some (.al k, e) := rfl
def unal (o : Option (Option M)) : Option M :=
  match o with
  | some (some (.sh xs)) => some (.lst xs)
  | some (some m) => some m
  | _ => none
theorem unal_l (xs : List PyData) : unal (some (some (.lst xs))) = some (.lst xs) := rfl
theorem unal_s (xs : List PyData) : unal (some (some (.sh xs))) = some (.lst xs) := rfl
theorem unal_f (xs : List PyData) : unal (some (some (.fz xs))) = some (.fz xs) := rfl
theorem val_ow (m : M) (e : Slots) : val (.ow m) e = some m := rfl
theorem val_al (k : Nat) (x : Option M) (e : Slots) : val (.al k) (x :: e) = unal ((x :: e)[k]?) := rfl
section
variable {C : Nat → List M → Option (M × List M)} {x : Option M} {e : Slots} {wf : Nat} {pin : List Nat}
theorem c_var (k : Nat) : ev C (.var k) (x :: e) = look ((x :: e)[k]?) k (x :: e) := by rw [ev]; rfl
theorem c_cst (d : PyData) : ev C (.cst d) (x :: e) = some (.ow (.d d), x :: e) := by rw [ev]
theorem c_bin (o : O2) (a b : Tm) : ev C (.bin o a b) (x :: e) = (ev C a (x :: e)).bind fun ra => (ev C b ra.2).bind fun rb => (val ra.1 rb.2).bind fun ma => (val rb.1 rb.2).bind fun mb => (p2 o ma mb).bind fun m => some (.ow m, rb.2) := by
  rw [ev]; simp only [Option.map_eq_bind]; rfl
theorem c_un (o : O1) (a : Tm) : ev C (.un o a) (x :: e) = (ev C a (x :: e)).bind fun ra => (val ra.1 ra.2).bind fun ma => (p1 o ma).bind fun m => some (.ow m, ra.2) := by
  rw [ev]; simp only [Option.map_eq_bind]; rfl
theorem bR_m {α : Type} (r : RV) (f g : Option α) : (match r with | .ow (.d (.bool true)) => f | .ow (.d (.bool false)) => g | _ => none) = (bR r).bind fun b => if b then f else g := by
  cases r with
  | al k => rfl
  | ow m =>
    cases m with
    | d x =>
      cases x with
      | bool b => cases b <;> rfl
      | _ => rfl
    | _ => rfl
theorem c_and (a b : Tm) : ev C (.and_ a b) (x :: e) = (ev C a (x :: e)).bind fun ra => (bR ra.1).bind fun k => if k then ev C b ra.2 else some (.ow (.d (.bool false)), ra.2) := by
  rw [ev]; exact congrArg _ (funext fun ra => bR_m _ _ _)
theorem c_or (a b : Tm) : ev C (.or_ a b) (x :: e) = (ev C a (x :: e)).bind fun ra => (bR ra.1).bind fun k => if k then some (.ow (.d (.bool true)), ra.2) else ev C b ra.2 := by
  rw [ev]
  refine congrArg _ (funext fun ra => ?_)
  rw [← bR_m]
  cases ra.1 with
  | al k => rfl
  | ow m =>
    cases m with
    | d x =>
      cases x with
      | bool b => cases b <;> rfl
      | _ => rfl
    | _ => rfl
theorem c_not (a : Tm) : ev C (.not_ a) (x :: e) = (ev C a (x :: e)).bind fun ra => (bR ra.1).bind fun k => some (.ow (.d (.bool (!k))), ra.2) := by
  rw [ev]
  refine congrArg _ (funext fun ra => ?_)
  cases ra.1 with
  | al k => rfl
  | ow m =>
    cases m with
    | d x =>
      cases x with
      | bool b => rfl
      | _ => rfl
    | _ => rfl
theorem c_ite (c a b : Tm) : ev C (.ite c a b) (x :: e) = (ev C c (x :: e)).bind fun ra => (bR ra.1).bind fun k => if k then ev C a ra.2 else ev C b ra.2 := by
  rw [ev]; exact congrArg _ (funext fun ra => bR_m _ _ _)
theorem c_tup (as : Tm) : ev C (.tup as) (x :: e) = (evL C as (x :: e)).bind fun r => (owD r.1).bind fun xs => if xs.length ≤ sizeLine then some (.ow (.d (.tuple xs)), r.2) else none := by rw [ev]
theorem c_lst (as : Tm) : ev C (.lst as) (x :: e) = (evL C as (x :: e)).bind fun r => (owD r.1).bind fun xs => if xs.length ≤ sizeLine then some (.ow (.lst xs), r.2) else none := by rw [ev]
theorem c_slice (a lo hi : Tm) : ev C (.slice a lo hi) (x :: e) = (ev C a (x :: e)).bind fun ra => (evP C lo ra.2).bind fun rl => (evP C hi rl.2).bind fun rh => (val ra.1 rh.2).bind fun m => (cut? m rl.1 rh.1).bind fun m => some (.ow m, rh.2) := by
  rw [ev]; simp only [Option.map_eq_bind]; rfl
def rngV (tup : Bool) (e : Slots) (v : IV) : Option (RV × Slots) :=
  match v with
  | (xs, none) => if xs.length ≤ sizeLine then some (.ow (if tup then .d (.tuple xs) else .lst xs), e) else none
  | _ => none
theorem c_lrng (a : Tm) : ev C (.lrng a) (x :: e) = (evI C a (x :: e)).bind fun r => rngV false r.2 r.1 := by
  rw [ev]; rfl
theorem c_trng (a : Tm) : ev C (.trng a) (x :: e) = (evI C a (x :: e)).bind fun r => rngV true r.2 r.1 := by
  rw [ev]; rfl
theorem rngV_n (tup : Bool) (xs : List PyData) (e : Slots) : rngV tup e (xs, none) = if xs.length ≤ sizeLine then some (.ow (if tup then .d (.tuple xs) else .lst xs), e) else none := rfl
theorem c_call (f : Nat) (as : Tm) : ev C (.call f as) (x :: e) = (evL C as (x :: e)).bind fun r => if (alK r.1).Nodup then (raws r.1 r.2).bind fun ms => (C f ms).bind fun q => (back r.1 ms q.2 r.2).bind fun e2 => some (.ow q.1, e2) else none := by
  rw [ev]; simp only [Option.map_eq_bind]; rfl
def lstAt (o : Option (Option M)) : Option (List PyData) :=
  match o with
  | some (some (.lst xs)) => some xs
  | _ => none
theorem lstAt_l (xs : List PyData) : lstAt (some (some (.lst xs))) = some xs := rfl
theorem c_mt0 (o : Mt) (k : Nat) : ev C (.mt0 o k) (x :: e) = (lstAt ((x :: e)[k]?)).bind fun xs => (mt0? o xs).bind fun q => some (.ow q.1, (x :: e).set k (some (.lst q.2))) := by
  rw [ev]
  generalize (x :: e)[k]? = z
  cases z with
  | none => rfl
  | some z =>
    cases z with
    | none => rfl
    | some m =>
      cases m with
      | lst xs => simp only [Option.map_eq_bind, lstAt, Option.bind_some]; rfl
      | _ => rfl
theorem c_mt1 (o : Mt) (k : Nat) (a : Tm) : ev C (.mt1 o k a) (x :: e) = (lstAt ((x :: e)[k]?)).bind fun _ => (ev C a (x :: e)).bind fun r => (dR r.1).bind fun y => (lstAt (r.2[k]?)).bind fun xs => (mt1? o xs y).bind fun q => some (.ow q.1, r.2.set k (some (.lst q.2))) := by
  rw [ev]
  generalize (x :: e)[k]? = z
  cases z with
  | none => rfl
  | some z =>
    cases z with
    | none => rfl
    | some m =>
      cases m with
      | lst xs =>
        simp only [lstAt, Option.bind_some]
        refine congrArg _ (funext fun r => ?_)
        obtain ⟨r1, r2⟩ := r
        dsimp only
        generalize r2[k]? = z
        cases r1 with
        | al j => rfl
        | ow m =>
          cases m with
          | d y =>
            cases z with
            | none => rfl
            | some z =>
              cases z with
              | none => rfl
              | some m =>
                cases m with
                | lst xs => simp only [dR, Option.map_eq_bind, Option.bind_some]; rfl
                | _ => rfl
          | _ => rfl
      | _ => rfl
/-- one turn of a comprehension -/
def turn (C : Nat → List M → Option (M × List M)) (own : List Nat) (tg : Tg) (cond elt : Tm) (x : PyData) (e1 : Slots) : Option (Option PyData × Slots) :=
  (bindT [] tg x e1).bind fun e2 => (ev C cond e2).bind fun c => (bR c.1).bind fun k => if k then (ev C elt c.2).bind fun y => (dR y.1).bind fun y0 => some (some y0, wipeE y.2 own) else some (none, wipeE c.2 own)
theorem c_comp (own : List Nat) (tg : Tg) (it cond elt : Tm) : ev C (.comp own tg it cond elt) (x :: e) = (evI C it (x :: e)).bind fun r => (compL (turn C own tg cond elt) r.1.1 (wipeE (lockE r.1.2 r.1.1 r.2) own)).bind fun q =>
      if q.1.length ≤ sizeLine then some (.ow (.lst q.1), openE r.1.2 r.1.1 (fillE q.2 r.2 own)) else none := by
  rw [ev]
  refine congrArg _ (funext fun r => congrArg (fun f => Option.bind (compL f r.1.1 (wipeE (lockE r.1.2 r.1.1 r.2) own)) _) (funext fun y => funext fun e1 => ?_))
  unfold turn
  refine congrArg _ (funext fun e2 => congrArg _ (funext fun c => ?_))
  rw [← bR_m]
  cases c.1 with
  | al k => rfl
  | ow m =>
    cases m with
    | d z =>
      cases z with
      | bool b =>
        cases b with
        | false => rfl
        | true =>
          show ((ev C elt c.snd).bind fun y => _) = (ev C elt c.snd).bind fun y => _
          refine congrArg _ (funext fun y => ?_)
          cases y.1 with
          | al k => rfl
          | ow m => cases m <;> rfl
      | _ => rfl
    | _ => rfl
theorem cL_nil (e : Slots) : evL C .nil e = some ([], e) := by rw [evL]
theorem cL_cons (a r : Tm) : evL C (.cons a r) (x :: e) = (ev C a (x :: e)).bind fun ra => (evL C r ra.2).bind fun rr => some (ra.1 :: rr.1, rr.2) := by
  rw [evL]; simp only [Option.map_eq_bind]; rfl
theorem cP_nil (e : Slots) : evP C .nil e = some (none, e) := by rw [evP]
theorem cP_sm (t : Tm) : evP C (.sm t) (x :: e) = (ev C t (x :: e)).bind fun r => (iR r.1).bind fun i => some (some i, r.2) := by
  rw [evP]
  refine congrArg _ (funext fun ra => ?_)
  cases ra.1 with
  | al k => rfl
  | ow m =>
    cases m with
    | d x =>
      cases x with
      | int b => rfl
      | _ => rfl
    | _ => rfl
theorem cI_r1 (a : Tm) : evI C (.rng1 a) (x :: e) = (ev C a (x :: e)).bind fun r => (iR r.1).bind fun i => if inRng i then some ((rngL 0 i, none), r.2) else none := by
  rw [evI]
  refine congrArg _ (funext fun ra => ?_)
  cases ra.1 with
  | al k => rfl
  | ow m =>
    cases m with
    | d x =>
      cases x with
      | int b => rfl
      | _ => rfl
    | _ => rfl
theorem cI_r2 (a b : Tm) : evI C (.rng2 a b) (x :: e) = (ev C a (x :: e)).bind fun r => (ev C b r.2).bind fun q => (iR r.1).bind fun i => (iR q.1).bind fun j => if inRng i && inRng j then some ((rngL i j, none), q.2) else none := by
  rw [evI]
  refine congrArg _ (funext fun ra => congrArg _ (funext fun rb => ?_))
  cases ra.1 with
  | al k => rfl
  | ow m =>
    cases m with
    | d x =>
      cases x with
      | int b =>
        cases rb.1 with
        | al k => rfl
        | ow m =>
          cases m with
          | d x =>
            cases x with
            | int b => rfl
            | _ => rfl
          | _ => rfl
      | _ => rfl
    | _ => rfl
theorem cI_sq (t : Tm) : evI C (.sq t) (x :: e) = (ev C t (x :: e)).bind fun r => (iter? r.1 r.2).bind fun v => some (v, r.2) := by
  rw [evI]; simp only [Option.map_eq_bind]; rfl
def walkAt (k : Nat) (o : Option (Option M)) : Option IV :=
  match o with
  | some (some (.lst xs)) => some (xs, some k)
  | some (some (.sh xs)) => some (xs, none)
  | some (some (.fz xs)) => some (xs, none)
  | _ => none
theorem walkAt_l (k : Nat) (xs : List PyData) : walkAt k (some (some (.lst xs))) = some (xs, some k) := rfl
theorem walkAt_s (k : Nat) (xs : List PyData) : walkAt k (some (some (.sh xs))) = some (xs, none) := rfl
theorem walkAt_f (k : Nat) (xs : List PyData) : walkAt k (some (some (.fz xs))) = some (xs, none) := rfl
theorem iter_t (xs : List PyData) (e : Slots) : iter? (.ow (.d (.tuple xs))) e = some (xs, none) := rfl
theorem iter_l (xs : List PyData) (e : Slots) : iter? (.ow (.lst xs)) e = some (xs, none) := rfl
theorem iter_a (k : Nat) : iter? (.al k) (x :: e) = walkAt k ((x :: e)[k]?) := rfl
/-! statements -/
def nxt (f : Slots → Option (Fl × Slots)) (fl : Fl) (e : Slots) : Option (Fl × Slots) :=
  match fl with
  | .nx => f e
  | .rt m => some (.rt m, e)
  | .bk => some (.bk, e)
  | .ct => some (.ct, e)
theorem nxt_nx (f : Slots → Option (Fl × Slots)) (e : Slots) : nxt f .nx e = f e := rfl
theorem nxt_rt (f : Slots → Option (Fl × Slots)) (m : M) (e : Slots) : nxt f (.rt m) e = some (.rt m, e) := rfl
theorem nxt_bk (f : Slots → Option (Fl × Slots)) (e : Slots) : nxt f .bk e = some (.bk, e) := rfl
theorem nxt_ct (f : Slots → Option (Fl × Slots)) (e : Slots) : nxt f .ct e = some (.ct, e) := rfl
theorem q_skip (e : Slots) : xq C wf pin .skip e = some (.nx, e) := by rw [xq]
theorem q_seq (a b : Sm) : xq C wf pin (.seq a b) (x :: e) = (xq C wf pin a (x :: e)).bind fun r => nxt (xq C wf pin b) r.1 r.2 := by
  rw [xq]
  refine congrArg _ (funext fun r => ?_)
  obtain ⟨f, e⟩ := r
  cases f <;> rfl
theorem q_set (i : Nat) (t : Tm) : xq C wf pin (.set i t) (x :: e) = if i ∈ pin then none else (ev C t (x :: e)).bind fun r => (mR r.1).bind fun m => if shAt r.2 i || isSh m then none else some (.nx, r.2.set i (some m)) := by
  rw [xq]
  split
  · rfl
  · refine congrArg _ (funext fun r => ?_)
    cases r.1 <;> rfl
theorem q_par (is : List Nat) (as : Tm) : xq C wf pin (.par is as) (x :: e) = if inPin pin is || !decide (is.length ≤ sizeLine) then none else (evL C as (x :: e)).bind fun r => (owM r.1).bind fun ms => (bindM is ms r.2).bind fun e => some (.nx, e) := by
  rw [xq]; simp only [Option.map_eq_bind]; rfl
def tR : RV → Option (List PyData)
  | .ow (.d (.tuple xs)) => some xs
  | _ => none
theorem tR_t (xs : List PyData) : tR (.ow (.d (.tuple xs))) = some xs := rfl
theorem q_unp (is : List Nat) (t : Tm) : xq C wf pin (.unp is t) (x :: e) = if inPin pin is then none else (ev C t (x :: e)).bind fun r => (tR r.1).bind fun xs => (bindN is xs r.2).bind fun e => some (.nx, e) := by
  rw [xq]
  split
  · rfl
  · refine congrArg _ (funext fun ra => ?_)
    cases ra.1 with
    | al k => rfl
    | ow m =>
      cases m with
      | d x =>
        cases x with
        | tuple b => simp only [Option.map_eq_bind, tR, Option.bind_some]; rfl
        | _ => rfl
      | _ => rfl
theorem q_setI (k : Nat) (i t : Tm) : xq C wf pin (.setI k i t) (x :: e) = (ev C t (x :: e)).bind fun r => (lstAt (r.2[k]?)).bind fun _ => (ev C i r.2).bind fun q => (dR r.1).bind fun y => (iR q.1).bind fun n => (lstAt (q.2[k]?)).bind fun xs => (ixN xs.length n).bind fun j => some (.nx, q.2.set k (some (.lst (xs.set j y)))) := by
  rw [xq]
  refine congrArg _ (funext fun r => ?_)
  generalize r.2[k]? = z
  cases z with
  | none => rfl
  | some z =>
    cases z with
    | none => rfl
    | some m =>
      cases m with
      | lst xs =>
        simp only [lstAt, Option.bind_some]
        refine congrArg _ (funext fun q => ?_)
        generalize q.2[k]? = z
        cases r.1 with
        | al j => rfl
        | ow m =>
          cases m with
          | d y =>
            cases q.1 with
            | al j => rfl
            | ow m =>
              cases m with
              | d n =>
                cases n with
                | int n =>
                  cases z with
                  | none => rfl
                  | some z =>
                    cases z with
                    | none => rfl
                    | some m =>
                      cases m with
                      | lst xs => simp only [dR, iR, Option.map_eq_bind, Option.bind_some]; rfl
                      | _ => rfl
                | _ => rfl
              | _ => rfl
          | _ => rfl
      | _ => rfl
theorem q_ex2 (t : Tm) : xq C wf pin (.ex t) (x :: e) = (ev C t (x :: e)).bind fun r => some (.nx, r.2) := by
  rw [xq]; simp only [Option.map_eq_bind]; rfl
def retV (pin : List Nat) (r : RV) (e : Slots) : Option (Fl × Slots) :=
  match r with
  | .ow m => some (.rt m, e)
  | .al k => (lstAt (e[k]?)).bind fun xs => if k ∈ pin then none else some (.rt (.lst xs), e.set k none)
theorem retV_ow (m : M) (e : Slots) : retV pin (.ow m) e = some (.rt m, e) := rfl
theorem retV_al (k : Nat) : retV pin (.al k) (x :: e) = (lstAt ((x :: e)[k]?)).bind fun xs => if k ∈ pin then none else some (.rt (.lst xs), (x :: e).set k none) := rfl
theorem q_ret2 (t : Tm) : xq C wf pin (.ret t) (x :: e) = (ev C t (x :: e)).bind fun r => retV pin r.1 r.2 := by
  rw [xq]
  refine congrArg _ (funext fun r => ?_)
  cases r.1 with
  | ow m => rfl
  | al k =>
    dsimp only [retV]
    generalize r.2[k]? = z
    cases z with
    | none => rfl
    | some z =>
      cases z with
      | none => rfl
      | some m => cases m <;> rfl
theorem q_retN (e : Slots) : xq C wf pin .retN e = some (.rt (.d .none), e) := by rw [xq]
theorem q_if (c : Tm) (a b : Sm) : xq C wf pin (.ite c a b) (x :: e) = (ev C c (x :: e)).bind fun r => (bR r.1).bind fun k => if k then xq C wf pin a r.2 else xq C wf pin b r.2 := by
  rw [xq]; exact congrArg _ (funext fun ra => bR_m _ _ _)
/-- one turn of a loop -/
def fturn (C : Nat → List M → Option (M × List M)) (wf : Nat) (pin : List Nat) (tg : Tg) (b : Sm) (x : PyData) (e1 : Slots) : Option (Fl × Slots) := (bindT pin tg x e1).bind fun e2 => xq C wf pin b e2
theorem q_for (tg : Tg) (it : Tm) (b : Sm) : xq C wf pin (.for_ tg it b) (x :: e) = (evI C it (x :: e)).bind fun r => (forL (fturn C wf (r.1.2.toList ++ pin) tg b) r.1.1 (lockE r.1.2 r.1.1 r.2)).bind fun q => some (q.1, openE r.1.2 r.1.1 q.2) := by
  rw [xq]; simp only [Option.map_eq_bind]; rfl
theorem q_while (c : Tm) (b : Sm) : xq C wf pin (.while_ c b) (x :: e) = whl (ev C c) (xq C wf pin b) wf (x :: e) := by rw [xq]
theorem q_brk (e : Slots) : xq C wf pin .brk e = some (.bk, e) := by rw [xq]
theorem q_cnt (e : Slots) : xq C wf pin .cnt e = some (.ct, e) := by rw [xq]
def augV (pin : List Nat) (o : O2) (i : Nat) (old : Option (Option M)) (r : RV) (e : Slots) : Option (Fl × Slots) :=
  match old, r with
    | some (some (.d (.int x))), .ow (.d (.int y)) => if i ∈ pin || shAt e i then none else (aug2 o x y).map fun z => (.nx, e.set i (some (dI z)))
    | some (some (.lst _)), .ow (.lst ys) => match o, e[i]? with
      | .add, some (some (.lst xs)) => if xs.length + ys.length ≤ sizeLine then some (.nx, e.set i (some (.lst (xs ++ ys)))) else none
      | _, _ => none
    | some (some (.lst _)), .ow (.d (.tuple ys)) => match o, e[i]? with
      | .add, some (some (.lst xs)) => if xs.length + ys.length ≤ sizeLine then some (.nx, e.set i (some (.lst (xs ++ ys)))) else none
      | _, _ => none
    | _, _ => none
theorem augV_i (o : O2) (i : Nat) (n j : Int) (e : Slots) : augV pin o i (some (some (.d (.int n)))) (.ow (.d (.int j))) e = if i ∈ pin || shAt e i then none else (aug2 o n j).bind fun z => some (.nx, e.set i (some (.d (.int z)))) := by
  show (if i ∈ pin || shAt e i then none else (aug2 o n j).map fun z => (Fl.nx, e.set i (some (dI z)))) = _
  simp only [Option.map_eq_bind]; rfl
theorem augV_l (i : Nat) (ws ys : List PyData) : augV pin .add i (some (some (.lst ws))) (.ow (.lst ys)) (x :: e) = (lstAt ((x :: e)[i]?)).bind fun xs => if xs.length + ys.length ≤ sizeLine then some (.nx, (x :: e).set i (some (.lst (xs ++ ys)))) else none := by
  dsimp only [augV]
  generalize (x :: e)[i]? = z
  cases z with
  | none => rfl
  | some z =>
    cases z with
    | none => rfl
    | some m => cases m <;> rfl
theorem augV_t (i : Nat) (ws ys : List PyData) : augV pin .add i (some (some (.lst ws))) (.ow (.d (.tuple ys))) (x :: e) = (lstAt ((x :: e)[i]?)).bind fun xs => if xs.length + ys.length ≤ sizeLine then some (.nx, (x :: e).set i (some (.lst (xs ++ ys)))) else none := by
  dsimp only [augV]
  generalize (x :: e)[i]? = z
  cases z with
  | none => rfl
  | some z =>
    cases z with
    | none => rfl
    | some m => cases m <;> rfl
theorem q_aug2 (o : O2) (i : Nat) (t : Tm) : xq C wf pin (.aug o i t) (x :: e) = (ev C t (x :: e)).bind fun r => augV pin o i ((x :: e)[i]?) r.1 r.2 := by
  rw [xq]; rfl
end

/-! ## operators on data -/
theorem e_dB (b : Bool) : dB b = .d (.bool b) := rfl
theorem e_dI (i : Int) : dI i = .d (.int i) := rfl
/-- how plain things stand as data -/
class Enc {α : Type} (f : α → PyData) (n : outParam Nat) : Prop where
  eqv : ∀ a b, PyData.eqv (f a) (f b) = true ↔ a = b
  lay : ∀ a, (f a).canLay0 = true
  dep : ∀ a, (f a).depth ≤ n
instance : Enc PyData.int 0 where
  eqv a b := by simp [PyData.eqv]
  lay a := rfl
  dep a := Nat.le_refl _
instance : Enc PyData.bool 0 where
  eqv a b := by simp [PyData.eqv]
  lay a := rfl
  dep a := Nat.le_refl _
theorem eqvAll_map {α : Type} {f : α → PyData} {n : Nat} [h : Enc f n] : ∀ xs ys : List α, PyData.eqvAll (xs.map f) (ys.map f) = true ↔ xs = ys
  | [], [] => by simp [PyData.eqvAll]
  | [], y :: ys => by simp [PyData.eqvAll]
  | x :: xs, [] => by simp [PyData.eqvAll]
  | x :: xs, y :: ys => by simp [PyData.eqvAll, h.eqv, eqvAll_map xs ys]
theorem lay_map {α : Type} {f : α → PyData} {n : Nat} [h : Enc f n] : ∀ xs : List α, PyData.canLayAll0 (xs.map f) = true
  | [] => rfl
  | x :: xs => by simp [PyData.canLayAll0, h.lay, lay_map xs]
theorem dep_map {α : Type} {f : α → PyData} {n : Nat} [h : Enc f n] : ∀ xs : List α, PyData.depthAll (xs.map f) ≤ n
  | [] => Nat.zero_le _
  | x :: xs => by
    rw [List.map_cons, PyData.depthAll]
    exact Nat.max_le.mpr ⟨h.dep x, dep_map xs⟩
instance {α : Type} {f : α → PyData} {n : Nat} [h : Enc f n] : Enc (fun w : List α => PyData.tuple (w.map f)) (n + 1) where
  eqv a b := by rw [PyData.eqv]; exact eqvAll_map a b
  lay a := by rw [PyData.canLay0]; exact lay_map a
  dep a := by rw [PyData.depth]; exact Nat.succ_le_succ (dep_map a)
instance {α β : Type} {f : α → PyData} {g : β → PyData} {n m : Nat} [h : Enc f n] [k : Enc g m] : Enc (fun w : α × β => PyData.tuple [f w.1, g w.2]) (max n m + 1) where
  eqv a b := by
    rw [PyData.eqv, PyData.eqvAll, PyData.eqvAll, PyData.eqvAll, Bool.and_true, Bool.and_eq_true, h.eqv, k.eqv]
    exact Prod.ext_iff.symm
  lay a := by simp [PyData.canLay0, PyData.canLayAll0, h.lay, k.lay]
  dep a := by
    have h1 := h.dep a.1
    have h2 := k.dep a.2
    simp only [PyData.depth, PyData.depthAll]
    omega
theorem shaped_t {α : Type} {f : α → PyData} {n : Nat} [h : Enc f n] (hn : n < 64) (xs : List α) : SeqAt.shaped (.tuple (xs.map f)) = true := by
  have h1 := dep_map (f := f) xs
  simp only [SeqAt.shaped, PyData.canLay0, lay_map, Bool.true_and, decide_eq_true_eq]
  rw [PyData.depth]; omega
theorem shaped_ls {α : Type} {f : α → PyData} {n : Nat} [h : Enc f n] (hn : n < 64) (xs : List α) : SeqAt.shaped (.list (xs.map f)) = true := by
  have h1 := dep_map (f := f) xs
  simp only [SeqAt.shaped, PyData.canLay0, lay_map, Bool.true_and, decide_eq_true_eq]
  rw [PyData.depth]; omega
theorem shaped_f {α : Type} {f : α → PyData} {n : Nat} [h : Enc f n] (hn : n ≤ 64) (a : α) : SeqAt.shaped (f a) = true := by
  have h1 := h.dep a
  simp only [SeqAt.shaped, h.lay, Bool.true_and, decide_eq_true_eq]
  omega
theorem eqv_t {α : Type} {f : α → PyData} {n : Nat} [Enc f n] [DecidableEq α] (xs ys : List α) : PyData.eqv (.tuple (xs.map f)) (.tuple (ys.map f)) = decide (xs = ys) := by
  rw [PyData.eqv]
  exact Bool.eq_iff_iff.mpr (by rw [eqvAll_map]; simp)
theorem eqv_l {α : Type} {f : α → PyData} {n : Nat} [Enc f n] [DecidableEq α] (xs ys : List α) : PyData.eqv (.list (xs.map f)) (.list (ys.map f)) = decide (xs = ys) := by
  rw [PyData.eqv]
  exact Bool.eq_iff_iff.mpr (by rw [eqvAll_map]; simp)
theorem eqv_f {α : Type} {f : α → PyData} {n : Nat} [h : Enc f n] [DecidableEq α] (a b : α) : PyData.eqv (f a) (f b) = decide (a = b) :=
  Bool.eq_iff_iff.mpr (by rw [h.eqv]; simp)
/-! == and != -/
theorem eq_ii (i j : Int) : eq? (.d (.int i)) (.d (.int j)) = some (decide (i = j)) := by
  simp only [eq?, data, shaped_f (f := PyData.int) (Nat.zero_le _), Bool.and_self, if_true, eqv_f (f := PyData.int)]
theorem eq_bb (i j : Bool) : eq? (.d (.bool i)) (.d (.bool j)) = some (decide (i = j)) := by
  simp only [eq?, data, shaped_f (f := PyData.bool) (Nat.zero_le _), Bool.and_self, if_true, eqv_f (f := PyData.bool)]
section
variable {α : Type} {f : α → PyData} {n : Nat} [h : Enc f n] [DecidableEq α]
theorem eq_tt (xs ys : List α) (hn : n < 64 := by decide) : eq? (.d (.tuple (xs.map f))) (.d (.tuple (ys.map f))) = some (decide (xs = ys)) := by
  simp only [eq?, data, shaped_t hn, Bool.and_self, if_true, eqv_t]
theorem eq_ll (xs ys : List α) (hn : n < 64 := by decide) : eq? (.lst (xs.map f)) (.lst (ys.map f)) = some (decide (xs = ys)) := by
  simp only [eq?, data, shaped_ls hn, Bool.and_self, if_true, eqv_l]
include h in
theorem any_eqv (xs : List α) (a : α) : ((xs.map f).any fun z => PyData.eqv z (f a)) = decide (a ∈ xs) := by
  rw [List.any_map]
  refine Bool.eq_iff_iff.mpr ?_
  rw [List.any_eq_true, decide_eq_true_eq]
  constructor
  · rintro ⟨x, hx, e⟩
    rw [Function.comp_apply, h.eqv] at e
    exact e ▸ hx
  · intro ha
    exact ⟨a, ha, by rw [Function.comp_apply, h.eqv]⟩
theorem mem_t (neg : Bool) (a : α) (xs : List α) (hn : n < 64 := by decide) : pMem neg (.d (f a)) (.d (.tuple (xs.map f))) = some (.d (.bool (if neg then !decide (a ∈ xs) else decide (a ∈ xs)))) := by
  simp only [pMem, seq?, data, shaped_ls hn, shaped_f (f := f) (Nat.le_of_lt hn), Bool.and_self, if_true, any_eqv, dB]
theorem mem_l (neg : Bool) (a : α) (xs : List α) (hn : n < 64 := by decide) : pMem neg (.d (f a)) (.lst (xs.map f)) = some (.d (.bool (if neg then !decide (a ∈ xs) else decide (a ∈ xs)))) := by
  simp only [pMem, seq?, data, shaped_ls hn, shaped_f (f := f) (Nat.le_of_lt hn), Bool.and_self, if_true, any_eqv, dB]
end
theorem mem_ti (neg : Bool) (a : Int) (xs : List Int) : pMem neg (.d (.int a)) (.d (.tuple (xs.map .int))) = some (.d (.bool (if neg then !decide (a ∈ xs) else decide (a ∈ xs)))) := mem_t (f := PyData.int) neg a xs
theorem mem_li (neg : Bool) (a : Int) (xs : List Int) : pMem neg (.d (.int a)) (.lst (xs.map .int)) = some (.d (.bool (if neg then !decide (a ∈ xs) else decide (a ∈ xs)))) := mem_l (f := PyData.int) neg a xs
/-! a[i] -/
theorem atI_map {α β : Type} (f : α → β) (xs : List α) (i : Int) : atI (xs.map f) i = (atI xs i).map f := by
  unfold atI
  rw [List.length_map]
  cases ixN xs.length i with
  | none => rfl
  | some j => simp
theorem atI_nat {α : Type} {xs : List α} {i : Int} (h0 : 0 ≤ i) (h : i < xs.length) : atI xs i = xs[i.toNat]? := by
  unfold atI ixN
  rw [if_pos h0, if_pos h]; rfl
theorem atI_getD {α : Type} {xs : List α} {i : Int} (d : α) (h0 : 0 ≤ i) (h : i < xs.length) : atI xs i = some (xs.getD i.toNat d) := by
  rw [atI_nat h0 h, List.getD_eq_getElem?_getD, List.getElem?_eq_getElem (by omega)]; rfl
theorem atI_last {α : Type} {xs : List α} {x : α} (h : xs.getLast? = some x) : atI xs (-1) = some x := by
  have hn : xs ≠ [] := fun e => by subst e; cases h
  have hl := List.length_pos_iff.mpr hn
  rw [List.getLast?_eq_getElem?] at h
  unfold atI ixN
  rw [if_neg (by omega), if_pos (by omega), ← h]
  show xs[((-1 : Int) + xs.length).toNat]? = _
  congr 1; omega
theorem le_line {n : Nat} (h : n ≤ 16000000) : n ≤ sizeLine := by rw [szl]; omega
theorem lt_line {n : Nat} (h : n ≤ 16000000) : n < sizeLine := by rw [szl]; omega
theorem atI_neg {α : Type} {xs : List α} {i : Int} (h0 : i < 0) (h : -(xs.length : Int) ≤ i) : atI xs i = xs[(i + xs.length).toNat]? := by
  unfold atI ixN
  rw [if_neg (by omega), if_pos h]; rfl
theorem idx_t (xs : List PyData) (i : Int) : pIdx (.d (.tuple xs)) (.d (.int i)) = (atI xs i).bind fun x => some (.d x) := by simp only [pIdx, seq?, Option.map_eq_bind]; rfl
theorem idx_l (xs : List PyData) (i : Int) : pIdx (.lst xs) (.d (.int i)) = (atI xs i).bind fun x => some (.d x) := by simp only [pIdx, seq?, Option.map_eq_bind]; rfl
theorem idx_f (xs : List PyData) (i : Int) : pIdx (.fz xs) (.d (.int i)) = (atI xs i).bind fun x => some (.d x) := by simp only [pIdx, seq?, Option.map_eq_bind]; rfl
/-! ints of a list -/
theorem ints_map : ∀ xs : List Int, ints? (xs.map .int) = some xs
  | [] => rfl
  | x :: xs => by simp [ints?, int?, ints_map xs]
theorem bools_map : ∀ xs : List Bool, bools? (xs.map .bool) = some xs
  | [] => rfl
  | x :: xs => by simp [bools?, bool?, bools_map xs]
/-! slices -/
def sl {α : Type} (xs : List α) (lo hi : Option Int) : List α := (xs.drop (HT.sIx xs.length 0 lo)).take (HT.sIx xs.length xs.length hi - HT.sIx xs.length 0 lo)
theorem cut_t (xs : List PyData) (lo hi : Option Int) : cut? (.d (.tuple xs)) lo hi = some (.d (.tuple (sl xs lo hi))) := rfl
theorem cut_l (xs : List PyData) (lo hi : Option Int) : cut? (.lst xs) lo hi = some (.lst (sl xs lo hi)) := rfl
theorem sl_map {α β : Type} (f : α → β) (xs : List α) (lo hi : Option Int) : sl (xs.map f) lo hi = (sl xs lo hi).map f := by
  unfold sl; rw [List.length_map, List.map_take, List.map_drop]
theorem sl_from {α : Type} (xs : List α) {i : Int} (h : 0 ≤ i) : sl xs (some i) none = xs.drop i.toNat := by
  unfold sl HT.sIx
  simp only [if_neg (show ¬ i < 0 by omega)]
  by_cases hl : i.toNat ≤ xs.length
  · rw [Nat.min_eq_left hl]
    exact List.take_of_length_le (by rw [List.length_drop]; omega)
  · rw [Nat.min_eq_right (by omega), List.drop_length, List.drop_eq_nil_of_le (by omega), List.take_nil]
theorem sl_to {α : Type} (xs : List α) {i : Int} (h : 0 ≤ i) : sl xs none (some i) = xs.take i.toNat := by
  unfold sl HT.sIx
  simp only [if_neg (show ¬ i < 0 by omega), List.drop_zero, Nat.sub_zero]
  by_cases hl : i.toNat ≤ xs.length
  · rw [Nat.min_eq_left hl]
  · rw [Nat.min_eq_right (by omega), List.take_length, List.take_of_length_le (by omega)]
theorem sl_toNeg {α : Type} (xs : List α) {i : Int} (h : i < 0) : sl xs none (some i) = xs.take (i + xs.length).toNat := by
  unfold sl HT.sIx
  simp only [if_pos h, List.drop_zero, Nat.sub_zero]
theorem sl_mid {α : Type} (xs : List α) {i j : Int} (h : 0 ≤ i) (hj : 0 ≤ j) : sl xs (some i) (some j) = (xs.take j.toNat).drop i.toNat := by
  unfold sl HT.sIx
  simp only [if_neg (show ¬ i < 0 by omega), if_neg (show ¬ j < 0 by omega)]
  rw [List.drop_take]
  by_cases hl : i.toNat ≤ xs.length
  · rw [Nat.min_eq_left hl]
    by_cases hk : j.toNat ≤ xs.length
    · rw [Nat.min_eq_left hk]
    · rw [Nat.min_eq_right (by omega), List.take_of_length_le (by rw [List.length_drop]; omega), List.take_of_length_le (by rw [List.length_drop]; omega)]
  · rw [Nat.min_eq_right (show xs.length ≤ i.toNat by omega), List.drop_length, List.drop_eq_nil_of_le (show xs.length ≤ i.toNat by omega), List.take_nil, List.take_nil]
/-! ranges -/
def rg (lo hi : Int) : List Int := (List.range (hi - lo).toNat).map fun k : Nat => lo + (k : Int)
theorem rngL_rg (lo hi : Int) : rngL lo hi = (rg lo hi).map .int := by unfold rngL rg; rw [List.map_map]; rfl
theorem rg_len (lo hi : Int) : (rg lo hi).length = (hi - lo).toNat := by simp [rg]
theorem rg_mem {lo hi i : Int} : i ∈ rg lo hi ↔ lo ≤ i ∧ i < hi := by
  simp only [rg, List.mem_map, List.mem_range]
  constructor
  · rintro ⟨k, hk, rfl⟩; omega
  · intro h; exact ⟨(i - lo).toNat, by omega, by omega⟩
theorem rg_nil {lo hi : Int} (h : hi ≤ lo) : rg lo hi = [] := by unfold rg; rw [Int.toNat_of_nonpos (by omega)]; rfl
theorem rg_cons {lo hi : Int} (h : lo < hi) : rg lo hi = lo :: rg (lo + 1) hi := by
  unfold rg
  have e : (hi - lo).toNat = (hi - (lo + 1)).toNat + 1 := by omega
  rw [e, List.range_succ_eq_map, List.map_cons, List.map_map]
  refine List.cons_eq_cons.mpr ⟨by simp, List.map_congr_left fun k _ => ?_⟩
  simp only [Function.comp_apply]; omega
theorem inRng_of {i : Int} (h : -(2 ^ 62) ≤ i ∧ i < 2 ^ 62) : inRng i = true := by simp only [inRng, Bool.and_eq_true, decide_eq_true_eq]; exact h
/-! the shape of operators on plain data -/
theorem p_eq (a b : M) : p2 .eq a b = (eq? a b).bind fun k => some (.d (.bool k)) := by simp only [p2, Option.map_eq_bind]; rfl
theorem p_ne (a b : M) : p2 .ne a b = (eq? a b).bind fun k => some (.d (.bool (!k))) := by simp only [p2, Option.map_eq_bind]; rfl
theorem p_mem (a b : M) : p2 .mem a b = pMem false a b := rfl
theorem p_nmem (a b : M) : p2 .nmem a b = pMem true a b := rfl
theorem p_idx (a b : M) : p2 .idx a b = pIdx a b := rfl
theorem p_add (i j : Int) : p2 .add (.d (.int i)) (.d (.int j)) = some (.d (.int (i + j))) := rfl
theorem p_addT (xs ys : List PyData) : p2 .add (.d (.tuple xs)) (.d (.tuple ys)) = if xs.length + ys.length ≤ sizeLine then some (.d (.tuple (xs ++ ys))) else none := rfl
theorem p_addL (xs ys : List PyData) : p2 .add (.lst xs) (.lst ys) = if xs.length + ys.length ≤ sizeLine then some (.lst (xs ++ ys)) else none := rfl
theorem p_sub (i j : Int) : p2 .sub (.d (.int i)) (.d (.int j)) = some (.d (.int (i - j))) := rfl
theorem p_mul (i j : Int) : p2 .mul (.d (.int i)) (.d (.int j)) = if small i || small j || decide (i.natAbs.log2 + j.natAbs.log2 < 1000000) then some (.d (.int (i * j))) else none := rfl
theorem mul_sl {i : Int} (j : Int) (h : -(2 ^ 64) < i ∧ i < 2 ^ 64) : p2 .mul (.d (.int i)) (.d (.int j)) = some (.d (.int (i * j))) := by rw [p_mul]; simp only [small, h.1, h.2, decide_true, Bool.and_self, Bool.true_or, if_true]
theorem mul_sr (i : Int) {j : Int} (h : -(2 ^ 64) < j ∧ j < 2 ^ 64) : p2 .mul (.d (.int i)) (.d (.int j)) = some (.d (.int (i * j))) := by rw [p_mul]; simp only [small, h.1, h.2, decide_true, Bool.and_self, Bool.true_or, Bool.or_true, if_true]
theorem mul_bd {i j : Int} (a b : Nat) (hi : i.natAbs < 2 ^ a) (hj : j.natAbs < 2 ^ b) (h0 : 0 < a) (h1 : 0 < b) (h : a + b ≤ 1000000) : p2 .mul (.d (.int i)) (.d (.int j)) = some (.d (.int (i * j))) := by rw [p_mul, decide_eq_true (show i.natAbs.log2 + j.natAbs.log2 < 1000000 from wide_mul hi hj h0 h1 h), Bool.or_true, if_pos rfl]
theorem p_mulT (xs : List PyData) (j : Int) : p2 .mul (.d (.tuple xs)) (.d (.int j)) = if decide (-(2 ^ 62) ≤ j) && decide (j ≤ 1000) && decide (xs.length ≤ 1000) then some (.d (.tuple (List.replicate j.toNat xs).flatten)) else none := rfl
theorem p_mulL (xs : List PyData) (j : Int) : p2 .mul (.lst xs) (.d (.int j)) = if decide (-(2 ^ 63) ≤ j) && decide (j < 2 ^ 63) && decide (xs.length * j.toNat ≤ sizeLine) then some (.lst (List.replicate j.toNat xs).flatten) else none := rfl
theorem p_fdiv (i j : Int) : p2 .fdiv (.d (.int i)) (.d (.int j)) = if decide (0 < j) && decide (j < 1073741824) then some (.d (.int (i / j))) else none := rfl
theorem p_mod (i j : Int) : p2 .mod (.d (.int i)) (.d (.int j)) = if 0 < j then some (.d (.int (i % j))) else none := rfl
theorem p_pow (i j : Int) : p2 .pow (.d (.int i)) (.d (.int j)) = if decide (0 ≤ j) && decide (j ≤ 1000000) && decide (i.natAbs < 2 ^ 64) then some (.d (.int (i ^ j.toNat))) else none := rfl
theorem p_lt (i j : Int) : p2 .lt (.d (.int i)) (.d (.int j)) = some (.d (.bool (decide (i < j)))) := rfl
theorem p_le (i j : Int) : p2 .le (.d (.int i)) (.d (.int j)) = some (.d (.bool (decide (i ≤ j)))) := rfl
theorem p_gt (i j : Int) : p2 .gt (.d (.int i)) (.d (.int j)) = some (.d (.bool (decide (j < i)))) := rfl
theorem p_ge (i j : Int) : p2 .ge (.d (.int i)) (.d (.int j)) = some (.d (.bool (decide (j ≤ i)))) := rfl
theorem p_maxm (i j : Int) : p2 .maxm (.d (.int i)) (.d (.int j)) = some (.d (.int (if j > i then j else i))) := rfl
theorem p_minm (i j : Int) : p2 .minm (.d (.int i)) (.d (.int j)) = some (.d (.int (if j < i then j else i))) := rfl
theorem p_neg (i : Int) : p1 .neg (.d (.int i)) = some (.d (.int (-i))) := rfl
theorem p_isN (x : PyData) : p1 .isN (.d x) = some (.d (.bool (isNoneD x))) := rfl
theorem p_notN (x : PyData) : p1 .notN (.d x) = some (.d (.bool (!isNoneD x))) := rfl
theorem p_isB (b c : Bool) : p1 (.isB b) (.d (.bool c)) = some (.d (.bool (decide (c = b)))) := rfl
theorem p_notB (b c : Bool) : p1 (.notB b) (.d (.bool c)) = some (.d (.bool (!decide (c = b)))) := rfl
theorem p_lenT (xs : List PyData) : p1 .len (.d (.tuple xs)) = some (.d (.int xs.length)) := rfl
theorem p_lenL (xs : List PyData) : p1 .len (.lst xs) = some (.d (.int xs.length)) := rfl
theorem p_lenF (xs : List PyData) : p1 .len (.fz xs) = some (.d (.int xs.length)) := rfl
theorem p_tupL (xs : List PyData) : p1 .tuple (.lst xs) = some (.d (.tuple xs)) := rfl
theorem p_tupT (xs : List PyData) : p1 .tuple (.d (.tuple xs)) = some (.d (.tuple xs)) := rfl
theorem p_listT (xs : List PyData) : p1 .list (.d (.tuple xs)) = some (.lst xs) := rfl
theorem p_listL (xs : List PyData) : p1 .list (.lst xs) = some (.lst xs) := rfl
theorem p_abs (i : Int) : p1 .abs (.d (.int i)) = some (.d (.int (if i < 0 then -i else i))) := rfl
theorem p_int (i : Int) : p1 .int (.d (.int i)) = some (.d (.int i)) := rfl
theorem p_intB (b : Bool) : p1 .int (.d (.bool b)) = some (.d (.int (if b then 1 else 0))) := rfl
theorem p_sum (xs : List Int) : p1 .sum (.lst (xs.map .int)) = some (.d (.int xs.sum)) := by
  show (ints? (xs.map .int)).map (fun ns => dI ns.sum) = _
  rw [ints_map]; rfl
theorem p_max (x : Int) (xs : List Int) : p1 .max (.lst ((x :: xs).map .int)) = some (.d (.int (maxL xs x))) := by
  show (ints? ((x :: xs).map .int)).bind _ = _
  rw [ints_map]; rfl
theorem p_min (x : Int) (xs : List Int) : p1 .min (.lst ((x :: xs).map .int)) = some (.d (.int (minL xs x))) := by
  show (ints? ((x :: xs).map .int)).bind _ = _
  rw [ints_map]; rfl
theorem p_revT (xs : List PyData) : p1 .rev (.d (.tuple xs)) = some (.d (.tuple xs.reverse)) := rfl
theorem p_revL (xs : List PyData) : p1 .rev (.lst xs) = some (.lst xs.reverse) := rfl
theorem p_isInt (x : PyData) : p1 .isInt (.d x) = some (.d (.bool (isIntD x))) := rfl
theorem p_isBool (x : PyData) : p1 .isBool (.d x) = some (.d (.bool (isBoolD x))) := rfl
theorem p_isStr (x : PyData) : p1 .isStr (.d x) = some (.d (.bool (isStrD x))) := rfl
theorem p_isTuple (x : PyData) : p1 .isTuple (.d x) = some (.d (.bool (isTupD x))) := rfl
theorem p_all (xs : List Bool) : p1 .all (.lst (xs.map .bool)) = some (.d (.bool (xs.all id))) := by
  show (bools? (xs.map .bool)).map (fun ns => dB (ns.all id)) = _
  rw [bools_map]; rfl
theorem p_any (xs : List Bool) : p1 .any (.lst (xs.map .bool)) = some (.d (.bool (xs.any id))) := by
  show (bools? (xs.map .bool)).map (fun ns => dB (ns.any id)) = _
  rw [bools_map]; rfl
theorem m_append (xs : List PyData) (y : PyData) : mt1? .append xs y = if xs.length < sizeLine then some (.d .none, xs ++ [y]) else none := rfl
theorem m_rev (xs : List PyData) : mt0? .reverse xs = some (.d .none, xs.reverse) := rfl
theorem m_pop {α : Type} {f : α → PyData} (xs : List α) (x : α) (h : xs.getLast? = some x) : mt0? .pop (xs.map f) = some (.d (f x), xs.dropLast.map f) := by
  have e : (xs.map f)[(xs.map f).length - 1]? = some (f x) := by
    rw [List.length_map, List.getElem?_map, ← List.getLast?_eq_getElem?, h]; rfl
  simp only [mt0?, e, List.map_dropLast]
/-! loops -/
theorem compL_pure {f : PyData → Slots → Option (Option PyData × Slots)} {e : Slots} (g : PyData → Option PyData) : ∀ xs : List PyData, (∀ x ∈ xs, f x e = some (g x, e)) → compL f xs e = some (xs.filterMap g, e)
  | [], _ => rfl
  | x :: xs, h => by
    rw [compL, h x (List.mem_cons_self ..)]
    simp only [Option.bind_some]
    rw [compL_pure g xs fun y hy => h y (List.mem_cons_of_mem _ hy)]
    cases hg : g x with
    | none => simp [List.filterMap_cons, hg]
    | some z => simp [List.filterMap_cons, hg]
/-- every one is taken -/
theorem compL_map {α β : Type} {f : PyData → Slots → Option (Option PyData × Slots)} {e : Slots} {d : α → PyData} {r : β → PyData} (g : α → β) (xs : List α) (h : ∀ x ∈ xs, f (d x) e = some (some (r (g x)), e)) : compL f (xs.map d) e = some ((xs.map g).map r, e) := by
  induction xs with
  | nil => rfl
  | cons x xs ih =>
    rw [List.map_cons, compL, h x (List.mem_cons_self ..)]
    simp only [Option.bind_some]
    rw [ih fun y hy => h y (List.mem_cons_of_mem _ hy)]
    rfl
/-- some are taken -/
theorem compL_filter {α β : Type} {f : PyData → Slots → Option (Option PyData × Slots)} {e : Slots} {d : α → PyData} {r : β → PyData} (p : α → Bool) (g : α → β) (xs : List α) (h : ∀ x ∈ xs, f (d x) e = some (if p x then some (r (g x)) else none, e)) : compL f (xs.map d) e = some (((xs.filter p).map g).map r, e) := by
  induction xs with
  | nil => rfl
  | cons x xs ih =>
    rw [List.map_cons, compL, h x (List.mem_cons_self ..)]
    simp only [Option.bind_some]
    rw [ih fun y hy => h y (List.mem_cons_of_mem _ hy), List.filter_cons]
    cases p x <;> rfl
/-- a loop with what holds before each turn -/
theorem forL_inv {α : Type} {f : PyData → Slots → Option (Fl × Slots)} {d : α → PyData} (I : List α → Slots → Prop) {Q : Fl × Slots → Prop} (hE : ∀ e, I [] e → Q (.nx, e)) : ∀ (xs : List α) (e : Slots), I xs e →
    (∀ x ys e, I (x :: ys) e → wp (f (d x) e) fun r => (match r.1 with | .nx => I ys r.2 | .ct => I ys r.2 | .bk => Q (.nx, r.2) | .rt m => isSh m = false ∧ Q (.rt m, r.2))) → wp (forL f (xs.map d) e) Q
  | [], e, h, _ => ⟨_, rfl, hE e h⟩
  | x :: xs, e, h, hs => by
    obtain ⟨⟨fl, e1⟩, h1, h2⟩ := hs x xs e h
    rw [List.map_cons, forL, h1]
    simp only [Option.bind_some]
    cases fl with
    | nx => exact forL_inv I hE xs e1 h2 hs
    | ct => exact forL_inv I hE xs e1 h2 hs
    | bk => exact ⟨_, rfl, h2⟩
    | rt m => obtain ⟨h3, h4⟩ := h2; simp only [h3]; exact ⟨_, rfl, h4⟩
/-- while, with what holds before each turn and a measure -/
theorem whl_inv {c : Slots → Option (RV × Slots)} {b : Slots → Option (Fl × Slots)} (I : Nat → Slots → Prop) {Q : Fl × Slots → Prop} (hs : ∀ n e, I n e → wp (c e) fun t => wp (bR t.1) fun k => (k = true → wp (b t.2) fun r => (match r.1 with | .nx => ∃ m, m < n ∧ I m r.2 | .ct => ∃ m, m < n ∧ I m r.2 | .bk => Q (.nx, r.2) | .rt m => Q (.rt m, r.2))) ∧ (k = false → Q (.nx, t.2))) : ∀ (fuel n : Nat) (e : Slots), n < fuel → I n e → wp (whl c b fuel e) Q
  | 0, _, _, h, _ => absurd h (Nat.not_lt_zero _)
  | fuel + 1, n, e, h, hI => by
    obtain ⟨⟨r, e1⟩, h1, k, h2, h3⟩ := hs n e hI
    rw [whl, h1]
    simp only [Option.bind_some]
    have hr : r = .ow (.d (.bool k)) := by
      cases r with
      | al j => cases h2
      | ow m =>
        cases m with
        | d x =>
          cases x with
          | bool q => cases h2; rfl
          | _ => cases h2
        | _ => cases h2
    subst hr
    cases k with
    | false => exact ⟨_, rfl, h3.2 rfl⟩
    | true =>
      obtain ⟨⟨fl, e2⟩, h4, h5⟩ := h3.1 rfl
      simp only [h4, Option.bind_some]
      cases fl with
      | nx => obtain ⟨m, hm, hI⟩ := h5; exact whl_inv I hs fuel m e2 (by omega) hI
      | ct => obtain ⟨m, hm, hI⟩ := h5; exact whl_inv I hs fuel m e2 (by omega) hI
      | bk => exact ⟨_, rfl, h5⟩
      | rt m => exact ⟨_, rfl, h5⟩

/-! ## the rest of the equations -/
def shO : Option (Option M) → Bool
  | some (some m) => isSh m
  | _ => false
theorem shO_n : shO (some none) = false := rfl
theorem shO_s (m : M) : shO (some (some m)) = isSh m := rfl
section
variable {x : Option M} {e : Slots}
theorem shAt_c (i : Nat) : shAt (x :: e) i = shO ((x :: e)[i]?) := by
  unfold shAt shO
  generalize (x :: e)[i]? = z
  cases z with
  | none => rfl
  | some z => cases z <;> rfl
theorem isSh_d (y : PyData) : isSh (.d y) = false := rfl
theorem isSh_l (y : List PyData) : isSh (.lst y) = false := rfl
theorem isSh_s (y : List PyData) : isSh (.sh y) = true := rfl
theorem isSh_f (y : List PyData) : isSh (.fz y) = true := rfl
theorem raw_ow (m : M) (e : Slots) : raw (.ow m) e = some m := rfl
theorem raw_al (k : Nat) : raw (.al k) (x :: e) = ((x :: e)[k]?).bind id := rfl
theorem raws_n (e : Slots) : raws [] e = some [] := rfl
theorem raws_c (r : RV) (rs : List RV) : raws (r :: rs) (x :: e) = (raw r (x :: e)).bind fun m => (raws rs (x :: e)).bind fun ms => some (m :: ms) := by simp only [raws, Option.map_eq_bind]; rfl
theorem alK_n : alK [] = [] := rfl
theorem alK_o (m : M) (rs : List RV) : alK (.ow m :: rs) = alK rs := rfl
theorem alK_a (k : Nat) (rs : List RV) : alK (.al k :: rs) = k :: alK rs := rfl
theorem back_n (e : Slots) : back [] [] [] e = some e := rfl
theorem back_o (m m' m2 : M) (rs : List RV) (ms ms' : List M) (e : Slots) : back (.ow m2 :: rs) (m :: ms) (m' :: ms') e = back rs ms ms' e := by rw [back] <;> simp
theorem back_l (k : Nat) (xs ys : List PyData) (rs : List RV) (ms ms' : List M) (e : Slots) : back (.al k :: rs) (.lst xs :: ms) (.lst ys :: ms') e = back rs ms ms' (e.set k (some (.lst ys))) := by rw [back]
theorem back_s (k : Nat) (xs : List PyData) (m' : M) (rs : List RV) (ms ms' : List M) (e : Slots) : back (.al k :: rs) (.sh xs :: ms) (m' :: ms') e = back rs ms ms' e := by rw [back] <;> simp
theorem back_f (k : Nat) (xs : List PyData) (m' : M) (rs : List RV) (ms ms' : List M) (e : Slots) : back (.al k :: rs) (.fz xs :: ms) (m' :: ms') e = back rs ms ms' e := by rw [back] <;> simp
theorem owD_n : owD [] = some [] := rfl
theorem owD_c (y : PyData) (rs : List RV) : owD (.ow (.d y) :: rs) = (owD rs).bind fun xs => some (y :: xs) := by simp only [owD, Option.map_eq_bind]; rfl
theorem owM_n : owM [] = some [] := rfl
theorem owM_c (y : M) (rs : List RV) : owM (.ow y :: rs) = (owM rs).bind fun xs => some (y :: xs) := by simp only [owM, Option.map_eq_bind]; rfl
theorem bindM_n (e : Slots) : bindM [] [] e = some e := rfl
theorem bindM_c (i : Nat) (is : List Nat) (y : M) (ys : List M) : bindM (i :: is) (y :: ys) (x :: e) = if shAt (x :: e) i || isSh y then none else bindM is ys ((x :: e).set i (some y)) := rfl
theorem bindN_n (e : Slots) : bindN [] [] e = some e := rfl
theorem bindN_c (i : Nat) (is : List Nat) (y : PyData) (ys : List PyData) : bindN (i :: is) (y :: ys) (x :: e) = if shAt (x :: e) i then none else bindN is ys ((x :: e).set i (some (.d y))) := rfl
theorem bindT_n (pin : List Nat) (i : Nat) (y : PyData) : bindT pin (.n i) y (x :: e) = if decide (i ∈ pin) || shAt (x :: e) i then none else some ((x :: e).set i (some (.d y))) := rfl
theorem bindT_t (pin is : List Nat) (ys : List PyData) : bindT pin (.t is) (.tuple ys) (x :: e) = if is.any fun i => decide (i ∈ pin) then none else bindN is ys (x :: e) := rfl
theorem wipe_n : wipeE e [] = e := rfl
theorem wipe_c (v : Nat) (vs : List Nat) : wipeE (x :: e) (v :: vs) = (wipeE (x :: e) vs).set v none := rfl
theorem fill_n (e0 : Slots) : fillE e e0 [] = e := rfl
def fillO (z : Option (Option M)) : Option M :=
  match z with
  | some (some (.d x)) => some (.d x)
  | _ => none
theorem fillO_d (y : PyData) : fillO (some (some (.d y))) = some (.d y) := rfl
theorem fillO_n : fillO (some none) = none := rfl
theorem fillO_l (y : List PyData) : fillO (some (some (.lst y))) = none := rfl
theorem fill_c (y : Option M) (e0 : Slots) (v : Nat) (vs : List Nat) : fillE (x :: e) (y :: e0) (v :: vs) = (fillE (x :: e) (y :: e0) vs).set v (fillO ((y :: e0)[v]?)) := rfl
theorem lock_n (xs : List PyData) (e : Slots) : lockE none xs e = e := rfl
theorem lock_s (k : Nat) (xs : List PyData) (e : Slots) : lockE (some k) xs e = e.set k (some (.sh xs)) := rfl
theorem open_n (xs : List PyData) (e : Slots) : openE none xs e = e := rfl
theorem open_s (k : Nat) (xs : List PyData) (e : Slots) : openE (some k) xs e = e.set k (some (.lst xs)) := rfl
theorem aug_add (i j : Int) : aug2 .add i j = some (i + j) := rfl
theorem aug_sub (i j : Int) : aug2 .sub i j = some (i - j) := rfl
theorem fturn_c {C : Nat → List M → Option (M × List M)} {wf : Nat} {pin : List Nat} (tg : Tg) (b : Sm) (y : PyData) : fturn C wf pin tg b y (x :: e) = (bindT pin tg y (x :: e)).bind fun e2 => xq C wf pin b e2 := rfl
theorem turn_c {C : Nat → List M → Option (M × List M)} {own : List Nat} {tg : Tg} {cond elt : Tm} (y : PyData) : turn C own tg cond elt y (x :: e) = (bindT [] tg y (x :: e)).bind fun e2 => (ev C cond e2).bind fun c => (bR c.1).bind fun k => if k then (ev C elt c.2).bind fun y => (dR y.1).bind fun y0 => some (some y0, wipeE y.2 own) else some (none, wipeE c.2 own) := rfl
end
/-! a def -/
def fin (ms : List M) (fl : Fl) (e : Slots) : Option (M × List M) :=
  match fl with
  | .nx => (outs ms e).map fun o => (.d .none, o)
  | .rt m => (outs ms e).map fun o => (m, o)
  | _ => none
theorem fin_nx (ms : List M) (e : Slots) : fin ms .nx e = (outs ms e).bind fun o => some (.d .none, o) := by simp only [fin, Option.map_eq_bind]; rfl
theorem fin_rt (ms : List M) (m : M) (e : Slots) : fin ms (.rt m) e = (outs ms e).bind fun o => some (m, o) := by simp only [fin, Option.map_eq_bind]; rfl
def ini : List M → Nat → Slots
  | [], n => List.replicate n none
  | m :: ms, n => some m :: ini ms n
theorem ini_n (n : Nat) : ini [] n = List.replicate n none := by rw [ini]
theorem ini_c (m : M) (ms : List M) (n : Nat) : ini (m :: ms) n = some m :: ini ms n := by rw [ini]
theorem ini_eq : ∀ (ms : List M) (n : Nat), ms.map some ++ List.replicate n none = ini ms n
  | [], n => rfl
  | m :: ms, n => by rw [ini_c, ← ini_eq ms n]; rfl
theorem run_1 (C : Nat → List M → Option (M × List M)) (wf np ns : Nat) (b : Sm) (ms : List M) : run1 C wf ⟨np, ns, b⟩ ms = if ms.length = np then (xq C wf (pinsOf 0 ms) b (ini ms (ns - np))).bind fun r => fin ms r.1 r.2 else none := by
  rw [← ini_eq]
  unfold run1
  split
  · refine congrArg _ (funext fun r => ?_)
    obtain ⟨f, e⟩ := r
    cases f <;> rfl
  · rfl
theorem outs_n (e : Slots) : outs [] e = some [] := rfl
theorem outs_d (y : PyData) (ms : List M) (z : Option M) (e : Slots) : outs (.d y :: ms) (z :: e) = (outs ms e).bind fun o => some (.d y :: o) := by rw [outs, Option.map_eq_bind] <;> first | rfl | simp
theorem outs_l (y : List PyData) (ms : List M) (m : M) (e : Slots) : outs (.lst y :: ms) (some m :: e) = (outs ms e).bind fun o => some (m :: o) := by rw [outs, Option.map_eq_bind]; rfl
theorem outs_s (y : List PyData) (ms : List M) (z : Option M) (e : Slots) : outs (.sh y :: ms) (z :: e) = (outs ms e).bind fun o => some (.sh y :: o) := by rw [outs, Option.map_eq_bind] <;> first | rfl | simp
theorem outs_f (y : List PyData) (ms : List M) (z : Option M) (e : Slots) : outs (.fz y :: ms) (z :: e) = (outs ms e).bind fun o => some (.fz y :: o) := by rw [outs, Option.map_eq_bind] <;> first | rfl | simp
theorem pins_n (i : Nat) : pinsOf i [] = [] := rfl
theorem pins_d (i : Nat) (y : PyData) (ms : List M) : pinsOf i (.d y :: ms) = pinsOf (i + 1) ms := rfl
theorem pins_l (i : Nat) (y : List PyData) (ms : List M) : pinsOf i (.lst y :: ms) = i :: pinsOf (i + 1) ms := rfl
theorem pins_s (i : Nat) (y : List PyData) (ms : List M) : pinsOf i (.sh y :: ms) = i :: pinsOf (i + 1) ms := rfl
theorem pins_f (i : Nat) (y : List PyData) (ms : List M) : pinsOf i (.fz y :: ms) = i :: pinsOf (i + 1) ms := rfl
theorem inRng_0 : inRng 0 = true := by decide +kernel
theorem inRng_1 : inRng 1 = true := by decide +kernel
theorem inRng_2 : inRng 2 = true := by decide +kernel
theorem eq_ti (xs ys : List Int) : eq? (.d (.tuple (xs.map .int))) (.d (.tuple (ys.map .int))) = some (decide (xs = ys)) := eq_tt xs ys
theorem eq_li (xs ys : List Int) : eq? (.lst (xs.map .int)) (.lst (ys.map .int)) = some (decide (xs = ys)) := eq_ll xs ys
theorem atI_0 {α : Type} (x : α) (xs : List α) : atI (x :: xs) 0 = some x := by
  rw [atI_nat (by omega) (by rw [List.length_cons]; omega)]; rfl
theorem atI_1 {α : Type} (x y : α) (xs : List α) : atI (x :: y :: xs) 1 = some y := by
  rw [atI_nat (by omega) (by rw [List.length_cons, List.length_cons]; omega)]; rfl
theorem atI_2 {α : Type} (x y z : α) (xs : List α) : atI (x :: y :: z :: xs) 2 = some z := by
  rw [atI_nat (by omega) (by rw [List.length_cons, List.length_cons, List.length_cons]; omega)]; rfl
theorem atI_3 {α : Type} (x y z u : α) (xs : List α) : atI (x :: y :: z :: u :: xs) 3 = some u := by
  rw [atI_nat (by omega) (by rw [List.length_cons, List.length_cons, List.length_cons, List.length_cons]; omega)]; rfl
theorem line_1 : 1 ≤ sizeLine := le_line (by decide)
theorem line_2 : 2 ≤ sizeLine := le_line (by decide)
theorem line_3 : 3 ≤ sizeLine := le_line (by decide)
theorem line_4 : 4 ≤ sizeLine := le_line (by decide)
theorem line_5 : 5 ≤ sizeLine := le_line (by decide)
theorem line_6 : 6 ≤ sizeLine := le_line (by decide)
theorem line_7 : 7 ≤ sizeLine := le_line (by decide)
theorem line_8 : 8 ≤ sizeLine := le_line (by decide)
theorem line_9 : 9 ≤ sizeLine := le_line (by decide)
theorem line_10 : 10 ≤ sizeLine := le_line (by decide)
theorem line_11 : 11 ≤ sizeLine := le_line (by decide)
theorem line_12 : 12 ≤ sizeLine := le_line (by decide)

end Cs
namespace Law
open Cs
open PySem PySem.Spec PyProof.Rows L2
def topS (i : Nat) : Stmt := PySem.Challenge.pw_cutandsewn_k00_whole_words_as_tables.main.body.getD i (.Pass ⟨0, 0, 0, 0⟩)
abbrev fns : List (Str × Nat) := [("undone_word", 1), ("is_reduced_word", 1), ("cancelling_places", 1), ("cancelled_at", 2), ("reduced_word", 1), ("least_cancellings", 1), ("are_words_same", 2), ("word_behind_row", 2), ("judge_same_words", 3), ("joined_letters", 1), ("product_of_words", 1), ("word_power", 2), ("commutator_word", 2), ("_law_draws", 2), ("_law_take", 2), ("_law_same", 2), ("_law_undone", 1), ("_law_word", 3), ("_law_times", 2), ("_law_table", 1), ("_law_is_word", 2), ("_law_back", 1), ("_law_often", 2), ("_law_beside", 3), ("_law_is_one_right", 2), ("_law_is_told", 3), ("_law_are_two_right", 4), ("law", 1)]

/-- undone_word -/
def b_undone_word : Sm :=
  ((Sm.ret (Tm.un O1.tuple (Tm.comp [1] (Tg.n 1) (Tm.un O1.rev (Cs.Tm.var 0)).sq (Tm.cst (PyData.bool true)) (Tm.un O1.neg (Cs.Tm.var 1))))).seq Sm.skip)
def f_undone_word : Fn := ⟨1, 2, b_undone_word⟩
def e_undone_word : Ent := ⟨"undone_word", topS 1, ["word", "letter"], ["word"], f_undone_word⟩
/-- is_reduced_word -/
def b_is_reduced_word : Sm :=
  ((Sm.ret (Tm.un O1.all (Tm.comp [1] (Tg.n 1) ((Tm.cst (PyData.int (1))).rng2 (Tm.un O1.len (Cs.Tm.var 0))) (Tm.cst (PyData.bool true)) (Tm.bin O2.ne (Tm.bin O2.idx (Cs.Tm.var 0) (Tm.bin O2.sub (Cs.Tm.var 1) (Tm.cst (PyData.int (1))))) (Tm.un O1.neg (Tm.bin O2.idx (Cs.Tm.var 0) (Cs.Tm.var 1))))))).seq Sm.skip)
def f_is_reduced_word : Fn := ⟨1, 2, b_is_reduced_word⟩
def e_is_reduced_word : Ent := ⟨"is_reduced_word", topS 2, ["word", "k"], ["word"], f_is_reduced_word⟩
/-- cancelling_places -/
def b_cancelling_places : Sm :=
  ((Sm.ret (Tm.un O1.tuple (Tm.comp [1] (Tg.n 1) (Tm.bin O2.sub (Tm.un O1.len (Cs.Tm.var 0)) (Tm.cst (PyData.int (1)))).rng1 (Tm.bin O2.eq (Tm.bin O2.idx (Cs.Tm.var 0) (Cs.Tm.var 1)) (Tm.un O1.neg (Tm.bin O2.idx (Cs.Tm.var 0) (Tm.bin O2.add (Cs.Tm.var 1) (Tm.cst (PyData.int (1))))))) (Cs.Tm.var 1)))).seq Sm.skip)
def f_cancelling_places : Fn := ⟨1, 2, b_cancelling_places⟩
def e_cancelling_places : Ent := ⟨"cancelling_places", topS 4, ["word", "k"], ["word"], f_cancelling_places⟩
/-- cancelled_at -/
def b_cancelled_at : Sm :=
  ((Sm.ret (Tm.bin O2.add ((Cs.Tm.var 0).slice Tm.nil (Cs.Tm.var 1).sm) ((Cs.Tm.var 0).slice (Tm.bin O2.add (Cs.Tm.var 1) (Tm.cst (PyData.int (2)))).sm Tm.nil))).seq Sm.skip)
def f_cancelled_at : Fn := ⟨2, 2, b_cancelled_at⟩
def e_cancelled_at : Ent := ⟨"cancelled_at", topS 5, ["word", "place"], ["word", "place"], f_cancelled_at⟩
/-- reduced_word -/
def b_reduced_word : Sm :=
  ((Sm.set 1 Tm.nil.lst).seq ((Sm.for_ (Tg.n 2) (Cs.Tm.var 0).sq ((Sm.ite ((Tm.bin O2.gt (Tm.un O1.len (Cs.Tm.var 1)) (Tm.cst (PyData.int (0)))).and_ (Tm.bin O2.eq (Tm.bin O2.idx (Cs.Tm.var 1) (Tm.un O1.neg (Tm.cst (PyData.int (1))))) (Tm.un O1.neg (Cs.Tm.var 2)))) ((Sm.ex (Tm.mt0 Mt.pop 1)).seq Sm.skip) ((Sm.ex (Tm.mt1 Mt.append 1 (Cs.Tm.var 2))).seq Sm.skip)).seq Sm.skip)).seq ((Sm.ret (Tm.un O1.tuple (Cs.Tm.var 1))).seq Sm.skip)))
def f_reduced_word : Fn := ⟨1, 3, b_reduced_word⟩
def e_reduced_word : Ent := ⟨"reduced_word", topS 6, ["word", "found", "letter"], ["word"], f_reduced_word⟩
/-- least_cancellings -/
def b_least_cancellings : Sm :=
  ((Sm.set 1 Tm.nil.lst).seq ((Sm.set 2 (Tm.call 2 ((Cs.Tm.var 0).cons Tm.nil))).seq ((Sm.while_ (Tm.bin O2.gt (Tm.un O1.len (Cs.Tm.var 2)) (Tm.cst (PyData.int (0)))) ((Sm.ex (Tm.mt1 Mt.append 1 (Tm.bin O2.idx (Cs.Tm.var 2) (Tm.cst (PyData.int (0)))))).seq ((Sm.set 0 (Tm.call 3 ((Cs.Tm.var 0).cons ((Tm.bin O2.idx (Cs.Tm.var 2) (Tm.cst (PyData.int (0)))).cons Tm.nil)))).seq ((Sm.set 2 (Tm.call 2 ((Cs.Tm.var 0).cons Tm.nil))).seq Sm.skip)))).seq ((Sm.ret (Tm.un O1.tuple (Cs.Tm.var 1))).seq Sm.skip))))
def f_least_cancellings : Fn := ⟨1, 3, b_least_cancellings⟩
def e_least_cancellings : Ent := ⟨"least_cancellings", topS 7, ["word", "row", "places"], ["word"], f_least_cancellings⟩
/-- are_words_same -/
def b_are_words_same : Sm :=
  ((Sm.ret (Tm.bin O2.eq (Tm.call 4 ((Cs.Tm.var 0).cons Tm.nil)) (Tm.call 4 ((Cs.Tm.var 1).cons Tm.nil)))).seq Sm.skip)
def f_are_words_same : Fn := ⟨2, 2, b_are_words_same⟩
def e_are_words_same : Ent := ⟨"are_words_same", topS 8, ["one", "other"], ["one", "other"], f_are_words_same⟩
/-- word_behind_row -/
def b_word_behind_row : Sm :=
  ((Sm.for_ (Tg.n 2) (Cs.Tm.var 1).sq ((Sm.ite (Tm.bin O2.nmem (Cs.Tm.var 2) (Tm.call 2 ((Cs.Tm.var 0).cons Tm.nil))) ((Sm.ret (Tm.cst PyData.none)).seq Sm.skip) Sm.skip).seq ((Sm.set 0 (Tm.call 3 ((Cs.Tm.var 0).cons ((Cs.Tm.var 2).cons Tm.nil)))).seq Sm.skip))).seq ((Sm.ret (Cs.Tm.var 0)).seq Sm.skip))
def f_word_behind_row : Fn := ⟨2, 3, b_word_behind_row⟩
def e_word_behind_row : Ent := ⟨"word_behind_row", topS 9, ["word", "row", "place"], ["word", "row"], f_word_behind_row⟩
/-- judge_same_words -/
def b_judge_same_words : Sm :=
  ((Sm.par [3, 4] ((Tm.call 7 ((Cs.Tm.var 0).cons ((Tm.bin O2.idx (Cs.Tm.var 2) (Tm.cst (PyData.int (0)))).cons Tm.nil))).cons ((Tm.call 7 ((Cs.Tm.var 1).cons ((Tm.bin O2.idx (Cs.Tm.var 2) (Tm.cst (PyData.int (1)))).cons Tm.nil))).cons Tm.nil))).seq ((Sm.ret ((Tm.un O1.notN (Cs.Tm.var 3)).and_ (Tm.bin O2.eq (Cs.Tm.var 3) (Cs.Tm.var 4)))).seq Sm.skip))
def f_judge_same_words : Fn := ⟨3, 5, b_judge_same_words⟩
def e_judge_same_words : Ent := ⟨"judge_same_words", topS 10, ["one", "other", "paper", "first", "second"], ["one", "other", "paper"], f_judge_same_words⟩
/-- joined_letters -/
def b_joined_letters : Sm :=
  ((Sm.set 1 Tm.nil.lst).seq ((Sm.for_ (Tg.n 2) (Cs.Tm.var 0).sq ((Sm.aug O2.add 1 (Cs.Tm.var 2)).seq Sm.skip)).seq ((Sm.ret (Tm.un O1.tuple (Cs.Tm.var 1))).seq Sm.skip)))
def f_joined_letters : Fn := ⟨1, 3, b_joined_letters⟩
def e_joined_letters : Ent := ⟨"joined_letters", topS 11, ["words", "found", "word"], ["words"], f_joined_letters⟩
/-- product_of_words -/
def b_product_of_words : Sm :=
  ((Sm.ret (Tm.call 4 ((Tm.call 9 ((Cs.Tm.var 0).cons Tm.nil)).cons Tm.nil))).seq Sm.skip)
def f_product_of_words : Fn := ⟨1, 1, b_product_of_words⟩
def e_product_of_words : Ent := ⟨"product_of_words", topS 12, ["words"], ["words"], f_product_of_words⟩
/-- word_power -/
def b_word_power : Sm :=
  ((Sm.set 0 (Tm.call 4 ((Cs.Tm.var 0).cons Tm.nil))).seq ((Sm.ite (Tm.bin O2.eq (Tm.un O1.len (Cs.Tm.var 0)) (Tm.cst (PyData.int (0)))) ((Sm.ret Tm.nil.tup).seq Sm.skip) Sm.skip).seq ((Sm.ite (Tm.bin O2.lt (Cs.Tm.var 1) (Tm.cst (PyData.int (0)))) ((Sm.ret (Tm.call 4 ((Tm.bin O2.mul (Tm.call 0 ((Cs.Tm.var 0).cons Tm.nil)) (Tm.un O1.neg (Cs.Tm.var 1))).cons Tm.nil))).seq Sm.skip) Sm.skip).seq ((Sm.ret (Tm.call 4 ((Tm.bin O2.mul (Cs.Tm.var 0) (Cs.Tm.var 1)).cons Tm.nil))).seq Sm.skip))))
def f_word_power : Fn := ⟨2, 2, b_word_power⟩
def e_word_power : Ent := ⟨"word_power", topS 13, ["word", "n"], ["word", "n"], f_word_power⟩
/-- commutator_word -/
def b_commutator_word : Sm :=
  ((Sm.ret (Tm.call 10 (((Cs.Tm.var 0).cons ((Cs.Tm.var 1).cons ((Tm.call 0 ((Cs.Tm.var 0).cons Tm.nil)).cons ((Tm.call 0 ((Cs.Tm.var 1).cons Tm.nil)).cons Tm.nil)))).tup.cons Tm.nil))).seq Sm.skip)
def f_commutator_word : Fn := ⟨2, 2, b_commutator_word⟩
def e_commutator_word : Ent := ⟨"commutator_word", topS 15, ["one", "other"], ["one", "other"], f_commutator_word⟩
/-- _law_draws -/
def b_law_draws : Sm :=
  ((Sm.set 2 (Tm.comp [3] (Tg.n 3) (Cs.Tm.var 0).sq (Tm.cst (PyData.bool true)) (Tm.un O1.int (Cs.Tm.var 3)))).seq ((Sm.ite (Tm.bin O2.eq (Tm.un O1.len (Cs.Tm.var 2)) (Tm.cst (PyData.int (0)))) ((Sm.ex (Tm.mt1 Mt.append 2 (Tm.cst (PyData.int (0))))).seq Sm.skip) Sm.skip).seq ((Sm.set 4 (Tm.un O1.list (Cs.Tm.var 2))).seq ((Sm.set 5 Tm.nil.lst).seq ((Sm.for_ (Tg.n 6) (Cs.Tm.var 1).rng1 ((Sm.set 7 (Tm.bin O2.mod (Cs.Tm.var 6) (Tm.un O1.len (Cs.Tm.var 2)))).seq ((Sm.ite ((Tm.bin O2.ge (Tm.bin O2.idx (Cs.Tm.var 2) (Cs.Tm.var 7)) (Tm.bin O2.pow (Tm.cst (PyData.int (10))) (Tm.cst (PyData.int (18))))).and_ (Tm.bin O2.gt (Tm.bin O2.idx (Cs.Tm.var 4) (Cs.Tm.var 7)) (Tm.cst (PyData.int (0))))) ((Sm.ex (Tm.mt1 Mt.append 5 (Tm.bin O2.mod (Tm.un O1.int (Tm.bin O2.idx (Cs.Tm.var 4) (Cs.Tm.var 7))) (Tm.cst (PyData.int (1000)))))).seq ((Sm.setI 4 (Cs.Tm.var 7) (Tm.bin O2.fdiv (Tm.bin O2.idx (Cs.Tm.var 4) (Cs.Tm.var 7)) (Tm.cst (PyData.int (1000))))).seq Sm.skip)) ((Sm.set 8 (Tm.bin O2.mod (Tm.un O1.int (Tm.bin O2.add (Tm.bin O2.add (Tm.bin O2.mul (Tm.bin O2.idx (Cs.Tm.var 2) (Cs.Tm.var 7)) (Tm.cst (PyData.int (48271)))) (Tm.bin O2.mul (Cs.Tm.var 6) (Tm.cst (PyData.int (69621))))) (Tm.cst (PyData.int (11))))) (Tm.cst (PyData.int (2147483647))))).seq ((Sm.ex (Tm.mt1 Mt.append 5 (Tm.bin O2.mod (Tm.un O1.int (Tm.bin O2.add (Tm.bin O2.add (Tm.bin O2.mul (Cs.Tm.var 8) (Cs.Tm.var 8)) (Tm.bin O2.mul (Tm.cst (PyData.int (3))) (Cs.Tm.var 8))) (Cs.Tm.var 6))) (Tm.cst (PyData.int (1000003)))))).seq Sm.skip))).seq Sm.skip))).seq ((Sm.ex (Tm.mt0 Mt.reverse 5)).seq ((Sm.ret (Cs.Tm.var 5)).seq Sm.skip)))))))
def f_law_draws : Fn := ⟨2, 9, b_law_draws⟩
def e_law_draws : Ent := ⟨"_law_draws", topS 17, ["script", "many", "cells", "cell", "rest", "draws", "k", "at", "once"], ["script", "many"], f_law_draws⟩
/-- _law_take -/
def b_law_take : Sm :=
  ((Sm.ite (Tm.bin O2.eq (Tm.un O1.len (Cs.Tm.var 0)) (Tm.cst (PyData.int (0)))) ((Sm.ret (Tm.cst (PyData.int (0)))).seq Sm.skip) Sm.skip).seq ((Sm.ret (Tm.bin O2.mod (Tm.un O1.int (Tm.mt0 Mt.pop 0)) (Cs.Tm.var 1))).seq Sm.skip))
def f_law_take : Fn := ⟨2, 2, b_law_take⟩
def e_law_take : Ent := ⟨"_law_take", topS 18, ["draws", "many"], ["draws", "many"], f_law_take⟩
/-- _law_same -/
def b_law_same : Sm :=
  ((Sm.ite (Tm.un O1.isBool (Cs.Tm.var 1)) ((Sm.ret ((Tm.un O1.isBool (Cs.Tm.var 0)).and_ (Tm.bin O2.eq (Cs.Tm.var 0) (Cs.Tm.var 1)))).seq Sm.skip) Sm.skip).seq ((Sm.ite (Tm.un O1.isInt (Cs.Tm.var 1)) ((Sm.ret ((Tm.un O1.isInt (Cs.Tm.var 0)).and_ ((Tm.un O1.isBool (Cs.Tm.var 0)).not_.and_ (Tm.bin O2.eq (Cs.Tm.var 0) (Cs.Tm.var 1))))).seq Sm.skip) Sm.skip).seq ((Sm.ite (Tm.un O1.isStr (Cs.Tm.var 1)) ((Sm.ret ((Tm.un O1.isStr (Cs.Tm.var 0)).and_ (Tm.bin O2.eq (Cs.Tm.var 0) (Cs.Tm.var 1)))).seq Sm.skip) Sm.skip).seq ((Sm.ite (Tm.un O1.isN (Cs.Tm.var 1)) ((Sm.ret (Tm.un O1.isN (Cs.Tm.var 0))).seq Sm.skip) Sm.skip).seq ((Sm.ite ((Tm.un O1.isTuple (Cs.Tm.var 0)).not_.or_ (Tm.bin O2.ne (Tm.un O1.len (Cs.Tm.var 0)) (Tm.un O1.len (Cs.Tm.var 1)))) ((Sm.ret (Tm.cst (PyData.bool false))).seq Sm.skip) Sm.skip).seq ((Sm.for_ (Tg.n 2) (Tm.un O1.len (Cs.Tm.var 1)).rng1 ((Sm.ite (Tm.call 15 ((Tm.bin O2.idx (Cs.Tm.var 0) (Cs.Tm.var 2)).cons ((Tm.bin O2.idx (Cs.Tm.var 1) (Cs.Tm.var 2)).cons Tm.nil))).not_ ((Sm.ret (Tm.cst (PyData.bool false))).seq Sm.skip) Sm.skip).seq Sm.skip)).seq ((Sm.ret (Tm.cst (PyData.bool true))).seq Sm.skip)))))))
def f_law_same : Fn := ⟨2, 3, b_law_same⟩
def e_law_same : Ent := ⟨"_law_same", topS 19, ["actual", "due", "k"], ["actual", "due"], f_law_same⟩
/-- _law_undone -/
def b_law_undone : Sm :=
  ((Sm.ret (Tm.un O1.tuple (Tm.comp [1] (Tg.n 1) (Tm.un O1.rev (Cs.Tm.var 0)).sq (Tm.cst (PyData.bool true)) (Tm.un O1.neg (Cs.Tm.var 1))))).seq Sm.skip)
def f_law_undone : Fn := ⟨1, 2, b_law_undone⟩
def e_law_undone : Ent := ⟨"_law_undone", topS 20, ["word", "letter"], ["word"], f_law_undone⟩
/-- _law_word -/
def b_law_word : Sm :=
  ((Sm.set 3 Tm.nil.lst).seq ((Sm.for_ (Tg.n 4) (Tm.call 14 ((Cs.Tm.var 0).cons ((Tm.bin O2.add (Cs.Tm.var 2) (Tm.cst (PyData.int (1)))).cons Tm.nil))).rng1 ((Sm.set 5 (Tm.bin O2.mul (Tm.bin O2.add (Tm.cst (PyData.int (1))) (Tm.call 14 ((Cs.Tm.var 0).cons ((Cs.Tm.var 1).cons Tm.nil)))) (Tm.bin O2.sub (Tm.cst (PyData.int (1))) (Tm.bin O2.mul (Tm.cst (PyData.int (2))) (Tm.call 14 ((Cs.Tm.var 0).cons ((Tm.cst (PyData.int (2))).cons Tm.nil))))))).seq ((Sm.ite ((Tm.bin O2.gt (Tm.un O1.len (Cs.Tm.var 3)) (Tm.cst (PyData.int (0)))).and_ (Tm.bin O2.eq (Tm.call 14 ((Cs.Tm.var 0).cons ((Tm.cst (PyData.int (6))).cons Tm.nil))) (Tm.cst (PyData.int (0))))) ((Sm.set 5 (Tm.un O1.neg (Tm.bin O2.idx (Cs.Tm.var 3) (Tm.un O1.neg (Tm.cst (PyData.int (1))))))).seq Sm.skip) Sm.skip).seq ((Sm.ex (Tm.mt1 Mt.append 3 (Cs.Tm.var 5))).seq Sm.skip)))).seq ((Sm.ret (Tm.un O1.tuple (Cs.Tm.var 3))).seq Sm.skip)))
def f_law_word : Fn := ⟨3, 6, b_law_word⟩
def e_law_word : Ent := ⟨"_law_word", topS 21, ["draws", "many", "length", "word", "k", "letter"], ["draws", "many", "length"], f_law_word⟩
/-- _law_times -/
def b_law_times : Sm :=
  ((Sm.set 2 ((Tm.bin O2.add (Tm.bin O2.mul (Tm.bin O2.idx (Cs.Tm.var 0) (Tm.cst (PyData.int (0)))) (Tm.bin O2.idx (Cs.Tm.var 1) (Tm.cst (PyData.int (0))))) (Tm.bin O2.mul (Tm.bin O2.idx (Cs.Tm.var 0) (Tm.cst (PyData.int (1)))) (Tm.bin O2.idx (Cs.Tm.var 1) (Tm.cst (PyData.int (2)))))).cons ((Tm.bin O2.add (Tm.bin O2.mul (Tm.bin O2.idx (Cs.Tm.var 0) (Tm.cst (PyData.int (0)))) (Tm.bin O2.idx (Cs.Tm.var 1) (Tm.cst (PyData.int (1))))) (Tm.bin O2.mul (Tm.bin O2.idx (Cs.Tm.var 0) (Tm.cst (PyData.int (1)))) (Tm.bin O2.idx (Cs.Tm.var 1) (Tm.cst (PyData.int (3)))))).cons Tm.nil)).tup).seq ((Sm.ret (Tm.bin O2.add (Cs.Tm.var 2) ((Tm.bin O2.add (Tm.bin O2.mul (Tm.bin O2.idx (Cs.Tm.var 0) (Tm.cst (PyData.int (2)))) (Tm.bin O2.idx (Cs.Tm.var 1) (Tm.cst (PyData.int (0))))) (Tm.bin O2.mul (Tm.bin O2.idx (Cs.Tm.var 0) (Tm.cst (PyData.int (3)))) (Tm.bin O2.idx (Cs.Tm.var 1) (Tm.cst (PyData.int (2)))))).cons ((Tm.bin O2.add (Tm.bin O2.mul (Tm.bin O2.idx (Cs.Tm.var 0) (Tm.cst (PyData.int (2)))) (Tm.bin O2.idx (Cs.Tm.var 1) (Tm.cst (PyData.int (1))))) (Tm.bin O2.mul (Tm.bin O2.idx (Cs.Tm.var 0) (Tm.cst (PyData.int (3)))) (Tm.bin O2.idx (Cs.Tm.var 1) (Tm.cst (PyData.int (3)))))).cons Tm.nil)).tup)).seq Sm.skip))
def f_law_times : Fn := ⟨2, 3, b_law_times⟩
def e_law_times : Ent := ⟨"_law_times", topS 22, ["one", "other", "first"], ["one", "other"], f_law_times⟩
/-- _law_table -/
def b_law_table : Sm :=
  ((Sm.set 1 ((Tm.cst (PyData.int (1))).cons ((Tm.cst (PyData.int (0))).cons ((Tm.cst (PyData.int (0))).cons ((Tm.cst (PyData.int (1))).cons Tm.nil)))).tup).seq ((Sm.for_ (Tg.n 2) (Cs.Tm.var 0).sq ((Sm.par [3, 4] ((Tm.un O1.abs (Cs.Tm.var 2)).cons ((Tm.bin O2.sub (Tm.cst (PyData.int (1))) (Tm.bin O2.mul (Tm.cst (PyData.int (2))) (Tm.un O1.int (Tm.bin O2.lt (Cs.Tm.var 2) (Tm.cst (PyData.int (0))))))).cons Tm.nil))).seq ((Sm.set 1 (Tm.call 18 ((Cs.Tm.var 1).cons (((Tm.bin O2.add (Tm.cst (PyData.int (1))) (Tm.bin O2.mul (Tm.bin O2.mul (Tm.cst (PyData.int (4))) (Cs.Tm.var 3)) (Cs.Tm.var 4))).cons ((Tm.bin O2.mul (Tm.bin O2.mul (Tm.bin O2.mul (Tm.un O1.neg (Tm.cst (PyData.int (8)))) (Cs.Tm.var 3)) (Cs.Tm.var 3)) (Cs.Tm.var 4)).cons ((Tm.bin O2.mul (Tm.cst (PyData.int (2))) (Cs.Tm.var 4)).cons ((Tm.bin O2.sub (Tm.cst (PyData.int (1))) (Tm.bin O2.mul (Tm.bin O2.mul (Tm.cst (PyData.int (4))) (Cs.Tm.var 3)) (Cs.Tm.var 4))).cons Tm.nil)))).tup.cons Tm.nil)))).seq Sm.skip))).seq ((Sm.ret (Cs.Tm.var 1)).seq Sm.skip)))
def f_law_table : Fn := ⟨1, 5, b_law_table⟩
def e_law_table : Ent := ⟨"_law_table", topS 23, ["word", "table", "letter", "k", "e"], ["word"], f_law_table⟩
/-- _law_is_word -/
def b_law_is_word : Sm :=
  ((Sm.ite (Tm.un O1.isTuple (Cs.Tm.var 0)).not_ ((Sm.ret (Tm.cst (PyData.bool false))).seq Sm.skip) Sm.skip).seq ((Sm.for_ (Tg.n 2) (Cs.Tm.var 0).sq ((Sm.ite ((Tm.un O1.isInt (Cs.Tm.var 2)).not_.or_ ((Tm.un O1.isBool (Cs.Tm.var 2)).or_ ((Tm.bin O2.eq (Cs.Tm.var 2) (Tm.cst (PyData.int (0)))).or_ (Tm.bin O2.gt (Tm.un O1.abs (Cs.Tm.var 2)) (Cs.Tm.var 1))))) ((Sm.ret (Tm.cst (PyData.bool false))).seq Sm.skip) Sm.skip).seq Sm.skip)).seq ((Sm.ret (Tm.bin O2.eq (Tm.un O1.len (Tm.comp [3] (Tg.n 3) ((Tm.cst (PyData.int (1))).rng2 (Tm.un O1.len (Cs.Tm.var 0))) (Tm.bin O2.eq (Tm.bin O2.add (Tm.bin O2.idx (Cs.Tm.var 0) (Cs.Tm.var 3)) (Tm.bin O2.idx (Cs.Tm.var 0) (Tm.bin O2.sub (Cs.Tm.var 3) (Tm.cst (PyData.int (1)))))) (Tm.cst (PyData.int (0)))) (Cs.Tm.var 3))) (Tm.cst (PyData.int (0))))).seq Sm.skip)))
def f_law_is_word : Fn := ⟨2, 4, b_law_is_word⟩
def e_law_is_word : Ent := ⟨"_law_is_word", topS 24, ["word", "many", "letter", "k"], ["word", "many"], f_law_is_word⟩
/-- _law_back -/
def b_law_back : Sm :=
  ((Sm.ret ((Tm.bin O2.idx (Cs.Tm.var 0) (Tm.cst (PyData.int (3)))).cons ((Tm.un O1.neg (Tm.bin O2.idx (Cs.Tm.var 0) (Tm.cst (PyData.int (1))))).cons ((Tm.un O1.neg (Tm.bin O2.idx (Cs.Tm.var 0) (Tm.cst (PyData.int (2))))).cons ((Tm.bin O2.idx (Cs.Tm.var 0) (Tm.cst (PyData.int (0)))).cons Tm.nil)))).tup).seq Sm.skip)
def f_law_back : Fn := ⟨1, 1, b_law_back⟩
def e_law_back : Ent := ⟨"_law_back", topS 25, ["table"], ["table"], f_law_back⟩
/-- _law_often -/
def b_law_often : Sm :=
  ((Sm.set 2 ((Tm.cst (PyData.int (1))).cons ((Tm.cst (PyData.int (0))).cons ((Tm.cst (PyData.int (0))).cons ((Tm.cst (PyData.int (1))).cons Tm.nil)))).tup).seq ((Sm.ite (Tm.bin O2.lt (Cs.Tm.var 1) (Tm.cst (PyData.int (0)))) ((Sm.set 0 (Tm.call 21 ((Cs.Tm.var 0).cons Tm.nil))).seq Sm.skip) Sm.skip).seq ((Sm.for_ (Tg.n 3) (Tm.un O1.abs (Cs.Tm.var 1)).rng1 ((Sm.set 2 (Tm.call 18 ((Cs.Tm.var 2).cons ((Cs.Tm.var 0).cons Tm.nil)))).seq Sm.skip)).seq ((Sm.ret (Cs.Tm.var 2)).seq Sm.skip))))
def f_law_often : Fn := ⟨2, 4, b_law_often⟩
def e_law_often : Ent := ⟨"_law_often", topS 26, ["table", "n", "found", "k"], ["table", "n"], f_law_often⟩
/-- _law_beside -/
def b_law_beside : Sm :=
  ((Sm.set 3 (Tm.un O1.list (Cs.Tm.var 2))).seq ((Sm.set 4 (Tm.call 14 ((Cs.Tm.var 0).cons ((Tm.cst (PyData.int (5))).cons Tm.nil)))).seq ((Sm.ite (Tm.bin O2.eq (Cs.Tm.var 4) (Tm.cst (PyData.int (0)))) ((Sm.ret (Tm.call 17 ((Cs.Tm.var 0).cons ((Cs.Tm.var 1).cons ((Tm.cst (PyData.int (24))).cons Tm.nil))))).seq Sm.skip) Sm.skip).seq ((Sm.for_ (Tg.n 5) (Tm.call 14 ((Cs.Tm.var 0).cons ((Tm.cst (PyData.int (6))).cons Tm.nil))).rng1 ((Sm.set 6 (Tm.call 14 ((Cs.Tm.var 0).cons ((Tm.bin O2.add (Tm.un O1.len (Cs.Tm.var 3)) (Tm.cst (PyData.int (1)))).cons Tm.nil)))).seq ((Sm.set 7 (Tm.bin O2.mul (Tm.bin O2.add (Tm.cst (PyData.int (1))) (Tm.call 14 ((Cs.Tm.var 0).cons ((Cs.Tm.var 1).cons Tm.nil)))) (Tm.bin O2.sub (Tm.cst (PyData.int (1))) (Tm.bin O2.mul (Tm.cst (PyData.int (2))) (Tm.call 14 ((Cs.Tm.var 0).cons ((Tm.cst (PyData.int (2))).cons Tm.nil))))))).seq ((Sm.ite (Tm.bin O2.lt (Tm.un O1.len (Cs.Tm.var 3)) (Tm.cst (PyData.int (23)))) ((Sm.set 3 (Tm.bin O2.add (Tm.bin O2.add ((Cs.Tm.var 3).slice Tm.nil (Cs.Tm.var 6).sm) ((Cs.Tm.var 7).cons ((Tm.un O1.neg (Cs.Tm.var 7)).cons Tm.nil)).lst) ((Cs.Tm.var 3).slice (Cs.Tm.var 6).sm Tm.nil))).seq Sm.skip) Sm.skip).seq Sm.skip)))).seq ((Sm.set 6 (Tm.call 14 ((Cs.Tm.var 0).cons ((Tm.bin O2.maxm (Tm.cst (PyData.int (1))) (Tm.bin O2.sub (Tm.un O1.len (Cs.Tm.var 3)) (Tm.cst (PyData.int (1))))).cons Tm.nil)))).seq ((Sm.ite ((Tm.bin O2.eq (Cs.Tm.var 4) (Tm.cst (PyData.int (1)))).and_ (Tm.bin O2.gt (Tm.un O1.len (Cs.Tm.var 3)) (Tm.cst (PyData.int (0))))) ((Sm.setI 3 (Cs.Tm.var 6) (Tm.un O1.neg (Tm.bin O2.idx (Cs.Tm.var 3) (Cs.Tm.var 6)))).seq Sm.skip) Sm.skip).seq ((Sm.ite ((Tm.bin O2.eq (Cs.Tm.var 4) (Tm.cst (PyData.int (2)))).and_ (Tm.bin O2.gt (Tm.un O1.len (Cs.Tm.var 3)) (Tm.cst (PyData.int (1))))) ((Sm.set 3 (Tm.bin O2.add (Tm.bin O2.add ((Cs.Tm.var 3).slice Tm.nil (Cs.Tm.var 6).sm) ((Tm.bin O2.idx (Cs.Tm.var 3) (Tm.bin O2.add (Cs.Tm.var 6) (Tm.cst (PyData.int (1))))).cons ((Tm.bin O2.idx (Cs.Tm.var 3) (Cs.Tm.var 6)).cons Tm.nil)).lst) ((Cs.Tm.var 3).slice (Tm.bin O2.add (Cs.Tm.var 6) (Tm.cst (PyData.int (2)))).sm Tm.nil))).seq Sm.skip) Sm.skip).seq ((Sm.ret (Tm.un O1.tuple (Cs.Tm.var 3))).seq Sm.skip))))))))
def f_law_beside : Fn := ⟨3, 8, b_law_beside⟩
def e_law_beside : Ent := ⟨"_law_beside", topS 27, ["draws", "many", "word", "found", "kind", "k", "at", "letter"], ["draws", "many", "word"], f_law_beside⟩
/-- _law_is_one_right -/
def b_law_is_one_right : Sm :=
  ((Sm.set 2 (Tm.call 4 ((Cs.Tm.var 1).cons Tm.nil))).seq ((Sm.ite ((Tm.call 20 ((Cs.Tm.var 2).cons ((Cs.Tm.var 0).cons Tm.nil))).not_.or_ (Tm.bin O2.ne (Tm.call 19 ((Cs.Tm.var 2).cons Tm.nil)) (Tm.call 19 ((Cs.Tm.var 1).cons Tm.nil)))) ((Sm.ret (Tm.cst (PyData.bool false))).seq Sm.skip) Sm.skip).seq ((Sm.ite ((Tm.bin O2.gt (Tm.un O1.len (Cs.Tm.var 2)) (Tm.un O1.len (Cs.Tm.var 1))).or_ ((Tm.bin O2.eq (Tm.bin O2.mod (Tm.un O1.int (Tm.bin O2.sub (Tm.un O1.len (Cs.Tm.var 1)) (Tm.un O1.len (Cs.Tm.var 2)))) (Tm.cst (PyData.int (2)))) (Tm.cst (PyData.int (1)))).or_ (Tm.un (O1.notB true) (Tm.call 1 ((Cs.Tm.var 2).cons Tm.nil))))) ((Sm.ret (Tm.cst (PyData.bool false))).seq Sm.skip) Sm.skip).seq ((Sm.set 3 (Tm.comp [4] (Tg.n 4) ((Tm.cst (PyData.int (1))).rng2 (Tm.un O1.len (Cs.Tm.var 1))) (Tm.bin O2.eq (Tm.bin O2.add (Tm.bin O2.idx (Cs.Tm.var 1) (Cs.Tm.var 4)) (Tm.bin O2.idx (Cs.Tm.var 1) (Tm.bin O2.sub (Cs.Tm.var 4) (Tm.cst (PyData.int (1)))))) (Tm.cst (PyData.int (0)))) (Cs.Tm.var 4))).seq ((Sm.ite ((Tm.call 15 ((Tm.call 1 ((Cs.Tm.var 1).cons Tm.nil)).cons ((Tm.bin O2.eq (Tm.un O1.len (Cs.Tm.var 3)) (Tm.cst (PyData.int (0)))).cons Tm.nil))).not_.or_ (Tm.call 15 ((Tm.call 0 ((Cs.Tm.var 1).cons Tm.nil)).cons ((Tm.call 16 ((Cs.Tm.var 1).cons Tm.nil)).cons Tm.nil))).not_) ((Sm.ret (Tm.cst (PyData.bool false))).seq Sm.skip) Sm.skip).seq ((Sm.set 5 (Tm.call 5 ((Cs.Tm.var 1).cons Tm.nil))).seq ((Sm.ite ((Tm.un O1.isTuple (Cs.Tm.var 5)).not_.or_ ((Tm.bin O2.ne (Tm.bin O2.mul (Tm.cst (PyData.int (2))) (Tm.un O1.len (Cs.Tm.var 5))) (Tm.bin O2.sub (Tm.un O1.len (Cs.Tm.var 1)) (Tm.un O1.len (Cs.Tm.var 2)))).or_ (Tm.bin O2.ne ((Cs.Tm.var 5).slice Tm.nil (Tm.cst (PyData.int (1))).sm) (Tm.un O1.tuple (Tm.comp [4] (Tg.n 4) ((Cs.Tm.var 3).slice Tm.nil (Tm.cst (PyData.int (1))).sm).sq (Tm.cst (PyData.bool true)) (Tm.bin O2.sub (Cs.Tm.var 4) (Tm.cst (PyData.int (1))))))))) ((Sm.ret (Tm.cst (PyData.bool false))).seq Sm.skip) Sm.skip).seq ((Sm.ret (Tm.un (O1.isB true) (Tm.call 8 ((Cs.Tm.var 1).cons ((Cs.Tm.var 2).cons (((Cs.Tm.var 5).cons (Tm.nil.tup.cons Tm.nil)).tup.cons Tm.nil)))))).seq Sm.skip))))))))
def f_law_is_one_right : Fn := ⟨2, 6, b_law_is_one_right⟩
def e_law_is_one_right : Ent := ⟨"_law_is_one_right", topS 28, ["many", "word", "told", "beside", "k", "row"], ["many", "word"], f_law_is_one_right⟩
/-- _law_is_told -/
def b_law_is_told : Sm :=
  ((Sm.ret ((Tm.call 20 ((Cs.Tm.var 1).cons ((Cs.Tm.var 0).cons Tm.nil))).and_ (Tm.bin O2.eq (Tm.call 19 ((Cs.Tm.var 1).cons Tm.nil)) (Cs.Tm.var 2)))).seq Sm.skip)
def f_law_is_told : Fn := ⟨3, 3, b_law_is_told⟩
def e_law_is_told : Ent := ⟨"_law_is_told", topS 29, ["many", "told", "table"], ["many", "told", "table"], f_law_is_told⟩
/-- _law_are_two_right -/
def b_law_are_two_right : Sm :=
  ((Sm.par [4, 5] ((Tm.call 19 ((Cs.Tm.var 2).cons Tm.nil)).cons ((Tm.call 19 ((Cs.Tm.var 3).cons Tm.nil)).cons Tm.nil))).seq ((Sm.ite (Tm.call 15 ((Tm.call 6 ((Cs.Tm.var 2).cons ((Cs.Tm.var 3).cons Tm.nil))).cons ((Tm.bin O2.eq (Cs.Tm.var 4) (Cs.Tm.var 5)).cons Tm.nil))).not_ ((Sm.ret (Tm.cst (PyData.bool false))).seq Sm.skip) Sm.skip).seq ((Sm.set 6 (Tm.call 18 ((Cs.Tm.var 4).cons ((Cs.Tm.var 5).cons Tm.nil)))).seq ((Sm.ite (Tm.call 25 ((Cs.Tm.var 1).cons ((Tm.call 10 (((Cs.Tm.var 2).cons ((Cs.Tm.var 3).cons Tm.nil)).tup.cons Tm.nil)).cons ((Cs.Tm.var 6).cons Tm.nil)))).not_ ((Sm.ret (Tm.cst (PyData.bool false))).seq Sm.skip) Sm.skip).seq ((Sm.ite (Tm.call 25 ((Cs.Tm.var 1).cons ((Tm.call 10 (((Cs.Tm.var 2).cons ((Cs.Tm.var 3).cons ((Tm.call 16 ((Cs.Tm.var 2).cons Tm.nil)).cons ((Cs.Tm.var 2).cons Tm.nil)))).tup.cons Tm.nil)).cons ((Cs.Tm.var 6).cons Tm.nil)))).not_ ((Sm.ret (Tm.cst (PyData.bool false))).seq Sm.skip) Sm.skip).seq ((Sm.set 7 (Tm.bin O2.sub (Tm.call 14 ((Cs.Tm.var 0).cons ((Tm.cst (PyData.int (13))).cons Tm.nil))) (Tm.cst (PyData.int (6))))).seq ((Sm.ite (Tm.call 25 ((Cs.Tm.var 1).cons ((Tm.call 11 ((Cs.Tm.var 2).cons ((Cs.Tm.var 7).cons Tm.nil))).cons ((Tm.call 22 ((Cs.Tm.var 4).cons ((Cs.Tm.var 7).cons Tm.nil))).cons Tm.nil)))).not_ ((Sm.ret (Tm.cst (PyData.bool false))).seq Sm.skip) Sm.skip).seq ((Sm.set 8 (Tm.call 12 ((Cs.Tm.var 2).cons ((Cs.Tm.var 3).cons Tm.nil)))).seq ((Sm.set 9 (Tm.call 18 ((Tm.call 18 ((Cs.Tm.var 6).cons ((Tm.call 21 ((Cs.Tm.var 4).cons Tm.nil)).cons Tm.nil))).cons ((Tm.call 21 ((Cs.Tm.var 5).cons Tm.nil)).cons Tm.nil)))).seq ((Sm.ite (Tm.call 25 ((Cs.Tm.var 1).cons ((Cs.Tm.var 8).cons ((Cs.Tm.var 9).cons Tm.nil)))).not_ ((Sm.ret (Tm.cst (PyData.bool false))).seq Sm.skip) Sm.skip).seq ((Sm.ret (Tm.bin O2.eq (Tm.bin O2.eq (Tm.un O1.len (Cs.Tm.var 8)) (Tm.cst (PyData.int (0)))) (Tm.bin O2.eq (Cs.Tm.var 6) (Tm.call 18 ((Cs.Tm.var 5).cons ((Cs.Tm.var 4).cons Tm.nil)))))).seq Sm.skip)))))))))))
def f_law_are_two_right : Fn := ⟨4, 10, b_law_are_two_right⟩
def e_law_are_two_right : Ent := ⟨"_law_are_two_right", topS 30, ["draws", "many", "one", "other", "first", "second", "both", "n", "told", "due"], ["draws", "many", "one", "other"], f_law_are_two_right⟩
/-- law -/
def b_law : Sm :=
  ((Sm.set 1 (Tm.call 13 ((Cs.Tm.var 0).cons ((Tm.cst (PyData.int (400))).cons Tm.nil)))).seq ((Sm.set 2 (Tm.bin O2.add (Tm.cst (PyData.int (1))) (Tm.call 14 ((Cs.Tm.var 1).cons ((Tm.cst (PyData.int (6))).cons Tm.nil))))).seq ((Sm.for_ (Tg.n 3) (Tm.cst (PyData.int (2))).rng1 ((Sm.set 4 (Tm.call 17 ((Cs.Tm.var 1).cons ((Cs.Tm.var 2).cons ((Tm.cst (PyData.int (24))).cons Tm.nil))))).seq ((Sm.set 5 (Tm.call 23 ((Cs.Tm.var 1).cons ((Cs.Tm.var 2).cons ((Cs.Tm.var 4).cons Tm.nil))))).seq ((Sm.ite ((Tm.call 24 ((Cs.Tm.var 2).cons ((Cs.Tm.var 4).cons Tm.nil))).not_.or_ (Tm.call 24 ((Cs.Tm.var 2).cons ((Cs.Tm.var 5).cons Tm.nil))).not_) ((Sm.ret (Tm.cst (PyData.bool false))).seq Sm.skip) Sm.skip).seq ((Sm.ite ((Tm.call 26 ((Cs.Tm.var 1).cons ((Cs.Tm.var 2).cons ((Cs.Tm.var 4).cons ((Cs.Tm.var 5).cons Tm.nil))))).not_.or_ (Tm.call 26 ((Cs.Tm.var 1).cons ((Cs.Tm.var 2).cons ((Cs.Tm.var 5).cons ((Cs.Tm.var 4).cons Tm.nil))))).not_) ((Sm.ret (Tm.cst (PyData.bool false))).seq Sm.skip) Sm.skip).seq Sm.skip))))).seq ((Sm.ite ((Tm.call 15 ((Tm.call 10 (Tm.nil.tup.cons Tm.nil)).cons (Tm.nil.tup.cons Tm.nil))).not_.or_ (Tm.call 15 ((Tm.call 12 (((Tm.cst (PyData.int (1))).cons ((Tm.cst (PyData.int (2))).cons ((Tm.un O1.neg (Tm.cst (PyData.int (2)))).cons Tm.nil))).tup.cons (((Tm.cst (PyData.int (2))).cons Tm.nil).tup.cons Tm.nil))).cons (((Tm.cst (PyData.int (1))).cons ((Tm.cst (PyData.int (2))).cons ((Tm.un O1.neg (Tm.cst (PyData.int (1)))).cons ((Tm.un O1.neg (Tm.cst (PyData.int (2)))).cons Tm.nil)))).tup.cons Tm.nil))).not_) ((Sm.ret (Tm.cst (PyData.bool false))).seq Sm.skip) Sm.skip).seq ((Sm.set 6 (Tm.bin O2.mul ((Tm.cst (PyData.int (1))).cons ((Tm.cst (PyData.int (2))).cons ((Tm.cst (PyData.int (3))).cons ((Tm.cst (PyData.int (4))).cons ((Tm.cst (PyData.int (5))).cons ((Tm.cst (PyData.int (6))).cons Tm.nil)))))).tup (Tm.cst (PyData.int (2))))).seq ((Sm.ite ((Tm.call 15 ((Tm.call 6 ((Tm.bin O2.add (Cs.Tm.var 6) ((Tm.cst (PyData.int (1))).cons Tm.nil).tup).cons ((Tm.bin O2.add (Cs.Tm.var 6) ((Tm.un O1.neg (Tm.cst (PyData.int (1)))).cons Tm.nil).tup).cons Tm.nil))).cons ((Tm.cst (PyData.bool false)).cons Tm.nil))).not_.or_ (Tm.call 15 ((Tm.call 4 ((Tm.bin O2.add (Cs.Tm.var 6) (Tm.call 16 ((Cs.Tm.var 6).cons Tm.nil))).cons Tm.nil)).cons (Tm.nil.tup.cons Tm.nil))).not_) ((Sm.ret (Tm.cst (PyData.bool false))).seq Sm.skip) Sm.skip).seq ((Sm.ret ((Tm.call 15 ((Tm.call 11 (((Tm.cst (PyData.int (6))).cons ((Tm.cst (PyData.int (1))).cons ((Tm.un O1.neg (Tm.cst (PyData.int (6)))).cons Tm.nil))).tup.cons ((Tm.cst (PyData.int (3))).cons Tm.nil))).cons (((Tm.cst (PyData.int (6))).cons ((Tm.cst (PyData.int (1))).cons ((Tm.cst (PyData.int (1))).cons ((Tm.cst (PyData.int (1))).cons ((Tm.un O1.neg (Tm.cst (PyData.int (6)))).cons Tm.nil))))).tup.cons Tm.nil))).and_ (Tm.call 24 ((Cs.Tm.var 2).cons ((Cs.Tm.var 4).cons Tm.nil))))).seq Sm.skip)))))))
def f_law : Fn := ⟨1, 7, b_law⟩
def e_law : Ent := ⟨"law", topS 31, ["script", "draws", "many", "turn", "one", "other", "six"], ["script"], f_law⟩
def tbl : List Ent := [e_undone_word, e_is_reduced_word, e_cancelling_places, e_cancelled_at, e_reduced_word, e_least_cancellings, e_are_words_same, e_word_behind_row, e_judge_same_words, e_joined_letters, e_product_of_words, e_word_power, e_commutator_word, e_law_draws, e_law_take, e_law_same, e_law_undone, e_law_word, e_law_times, e_law_table, e_law_is_word, e_law_back, e_law_often, e_law_beside, e_law_is_one_right, e_law_is_told, e_law_are_two_right, e_law]
theorem ok_undone_word : EntOk fns e_undone_word := ⟨⟨rfl, rfl, rfl, by decide +kernel, rfl, by decide +kernel, by decide +kernel⟩, by kernel_rfl, rfl, rfl⟩
theorem ok_is_reduced_word : EntOk fns e_is_reduced_word := ⟨⟨rfl, rfl, rfl, by decide +kernel, rfl, by decide +kernel, by decide +kernel⟩, by kernel_rfl, rfl, rfl⟩
theorem ok_cancelling_places : EntOk fns e_cancelling_places := ⟨⟨rfl, rfl, rfl, by decide +kernel, rfl, by decide +kernel, by decide +kernel⟩, by kernel_rfl, rfl, rfl⟩
theorem ok_cancelled_at : EntOk fns e_cancelled_at := ⟨⟨rfl, rfl, rfl, by decide +kernel, rfl, by decide +kernel, by decide +kernel⟩, by kernel_rfl, rfl, rfl⟩
theorem ok_reduced_word : EntOk fns e_reduced_word := ⟨⟨rfl, rfl, rfl, by decide +kernel, rfl, by decide +kernel, by decide +kernel⟩, by kernel_rfl, rfl, rfl⟩
theorem ok_least_cancellings : EntOk fns e_least_cancellings := ⟨⟨rfl, rfl, rfl, by decide +kernel, rfl, by decide +kernel, by decide +kernel⟩, by kernel_rfl, rfl, rfl⟩
theorem ok_are_words_same : EntOk fns e_are_words_same := ⟨⟨rfl, rfl, rfl, by decide +kernel, rfl, by decide +kernel, by decide +kernel⟩, by kernel_rfl, rfl, rfl⟩
theorem ok_word_behind_row : EntOk fns e_word_behind_row := ⟨⟨rfl, rfl, rfl, by decide +kernel, rfl, by decide +kernel, by decide +kernel⟩, by kernel_rfl, rfl, rfl⟩
theorem ok_judge_same_words : EntOk fns e_judge_same_words := ⟨⟨rfl, rfl, rfl, by decide +kernel, rfl, by decide +kernel, by decide +kernel⟩, by kernel_rfl, rfl, rfl⟩
theorem ok_joined_letters : EntOk fns e_joined_letters := ⟨⟨rfl, rfl, rfl, by decide +kernel, rfl, by decide +kernel, by decide +kernel⟩, by kernel_rfl, rfl, rfl⟩
theorem ok_product_of_words : EntOk fns e_product_of_words := ⟨⟨rfl, rfl, rfl, by decide +kernel, rfl, by decide +kernel, by decide +kernel⟩, by kernel_rfl, rfl, rfl⟩
theorem ok_word_power : EntOk fns e_word_power := ⟨⟨rfl, rfl, rfl, by decide +kernel, rfl, by decide +kernel, by decide +kernel⟩, by kernel_rfl, rfl, rfl⟩
theorem ok_commutator_word : EntOk fns e_commutator_word := ⟨⟨rfl, rfl, rfl, by decide +kernel, rfl, by decide +kernel, by decide +kernel⟩, by kernel_rfl, rfl, rfl⟩
theorem ok_law_draws : EntOk fns e_law_draws := ⟨⟨rfl, rfl, rfl, by decide +kernel, rfl, by decide +kernel, by decide +kernel⟩, by kernel_rfl, rfl, rfl⟩
theorem ok_law_take : EntOk fns e_law_take := ⟨⟨rfl, rfl, rfl, by decide +kernel, rfl, by decide +kernel, by decide +kernel⟩, by kernel_rfl, rfl, rfl⟩
theorem ok_law_same : EntOk fns e_law_same := ⟨⟨rfl, rfl, rfl, by decide +kernel, rfl, by decide +kernel, by decide +kernel⟩, by kernel_rfl, rfl, rfl⟩
theorem ok_law_undone : EntOk fns e_law_undone := ⟨⟨rfl, rfl, rfl, by decide +kernel, rfl, by decide +kernel, by decide +kernel⟩, by kernel_rfl, rfl, rfl⟩
theorem ok_law_word : EntOk fns e_law_word := ⟨⟨rfl, rfl, rfl, by decide +kernel, rfl, by decide +kernel, by decide +kernel⟩, by kernel_rfl, rfl, rfl⟩
theorem ok_law_times : EntOk fns e_law_times := ⟨⟨rfl, rfl, rfl, by decide +kernel, rfl, by decide +kernel, by decide +kernel⟩, by kernel_rfl, rfl, rfl⟩
theorem ok_law_table : EntOk fns e_law_table := ⟨⟨rfl, rfl, rfl, by decide +kernel, rfl, by decide +kernel, by decide +kernel⟩, by kernel_rfl, rfl, rfl⟩
theorem ok_law_is_word : EntOk fns e_law_is_word := ⟨⟨rfl, rfl, rfl, by decide +kernel, rfl, by decide +kernel, by decide +kernel⟩, by kernel_rfl, rfl, rfl⟩
theorem ok_law_back : EntOk fns e_law_back := ⟨⟨rfl, rfl, rfl, by decide +kernel, rfl, by decide +kernel, by decide +kernel⟩, by kernel_rfl, rfl, rfl⟩
theorem ok_law_often : EntOk fns e_law_often := ⟨⟨rfl, rfl, rfl, by decide +kernel, rfl, by decide +kernel, by decide +kernel⟩, by kernel_rfl, rfl, rfl⟩
theorem ok_law_beside : EntOk fns e_law_beside := ⟨⟨rfl, rfl, rfl, by decide +kernel, rfl, by decide +kernel, by decide +kernel⟩, by kernel_rfl, rfl, rfl⟩
theorem ok_law_is_one_right : EntOk fns e_law_is_one_right := ⟨⟨rfl, rfl, rfl, by decide +kernel, rfl, by decide +kernel, by decide +kernel⟩, by kernel_rfl, rfl, rfl⟩
theorem ok_law_is_told : EntOk fns e_law_is_told := ⟨⟨rfl, rfl, rfl, by decide +kernel, rfl, by decide +kernel, by decide +kernel⟩, by kernel_rfl, rfl, rfl⟩
theorem ok_law_are_two_right : EntOk fns e_law_are_two_right := ⟨⟨rfl, rfl, rfl, by decide +kernel, rfl, by decide +kernel, by decide +kernel⟩, by kernel_rfl, rfl, rfl⟩
theorem ok_law : EntOk fns e_law := ⟨⟨rfl, rfl, rfl, by decide +kernel, rfl, by decide +kernel, by decide +kernel⟩, by kernel_rfl, rfl, rfl⟩
theorem ents : Ents fns tbl := ents_cons ok_undone_word <| ents_cons ok_is_reduced_word <| ents_cons ok_cancelling_places <| ents_cons ok_cancelled_at <| ents_cons ok_reduced_word <| ents_cons ok_least_cancellings <| ents_cons ok_are_words_same <| ents_cons ok_word_behind_row <| ents_cons ok_judge_same_words <| ents_cons ok_joined_letters <| ents_cons ok_product_of_words <| ents_cons ok_word_power <| ents_cons ok_commutator_word <| ents_cons ok_law_draws <| ents_cons ok_law_take <| ents_cons ok_law_same <| ents_cons ok_law_undone <| ents_cons ok_law_word <| ents_cons ok_law_times <| ents_cons ok_law_table <| ents_cons ok_law_is_word <| ents_cons ok_law_back <| ents_cons ok_law_often <| ents_cons ok_law_beside <| ents_cons ok_law_is_one_right <| ents_cons ok_law_is_told <| ents_cons ok_law_are_two_right <| ents_cons ok_law <| ents_nil
abbrev FS : List Fn := [f_undone_word, f_is_reduced_word, f_cancelling_places, f_cancelled_at, f_reduced_word, f_least_cancellings, f_are_words_same, f_word_behind_row, f_judge_same_words, f_joined_letters, f_product_of_words, f_word_power, f_commutator_word, f_law_draws, f_law_take, f_law_same, f_law_undone, f_law_word, f_law_times, f_law_table, f_law_is_word, f_law_back, f_law_often, f_law_beside, f_law_is_one_right, f_law_is_told, f_law_are_two_right, f_law]
theorem FS_eq : tbl.map (·.fn) = FS := rfl
theorem call_undone_word (wf k : Nat) (ms : List M) : callF wf FS (k + 1) 0 ms = run1 (callF wf FS k) wf f_undone_word ms := rfl
theorem call_is_reduced_word (wf k : Nat) (ms : List M) : callF wf FS (k + 1) 1 ms = run1 (callF wf FS k) wf f_is_reduced_word ms := rfl
theorem call_cancelling_places (wf k : Nat) (ms : List M) : callF wf FS (k + 1) 2 ms = run1 (callF wf FS k) wf f_cancelling_places ms := rfl
theorem call_cancelled_at (wf k : Nat) (ms : List M) : callF wf FS (k + 1) 3 ms = run1 (callF wf FS k) wf f_cancelled_at ms := rfl
theorem call_reduced_word (wf k : Nat) (ms : List M) : callF wf FS (k + 1) 4 ms = run1 (callF wf FS k) wf f_reduced_word ms := rfl
theorem call_least_cancellings (wf k : Nat) (ms : List M) : callF wf FS (k + 1) 5 ms = run1 (callF wf FS k) wf f_least_cancellings ms := rfl
theorem call_are_words_same (wf k : Nat) (ms : List M) : callF wf FS (k + 1) 6 ms = run1 (callF wf FS k) wf f_are_words_same ms := rfl
theorem call_word_behind_row (wf k : Nat) (ms : List M) : callF wf FS (k + 1) 7 ms = run1 (callF wf FS k) wf f_word_behind_row ms := rfl
theorem call_judge_same_words (wf k : Nat) (ms : List M) : callF wf FS (k + 1) 8 ms = run1 (callF wf FS k) wf f_judge_same_words ms := rfl
theorem call_joined_letters (wf k : Nat) (ms : List M) : callF wf FS (k + 1) 9 ms = run1 (callF wf FS k) wf f_joined_letters ms := rfl
theorem call_product_of_words (wf k : Nat) (ms : List M) : callF wf FS (k + 1) 10 ms = run1 (callF wf FS k) wf f_product_of_words ms := rfl
theorem call_word_power (wf k : Nat) (ms : List M) : callF wf FS (k + 1) 11 ms = run1 (callF wf FS k) wf f_word_power ms := rfl
theorem call_commutator_word (wf k : Nat) (ms : List M) : callF wf FS (k + 1) 12 ms = run1 (callF wf FS k) wf f_commutator_word ms := rfl
theorem call_law_draws (wf k : Nat) (ms : List M) : callF wf FS (k + 1) 13 ms = run1 (callF wf FS k) wf f_law_draws ms := rfl
theorem call_law_take (wf k : Nat) (ms : List M) : callF wf FS (k + 1) 14 ms = run1 (callF wf FS k) wf f_law_take ms := rfl
theorem call_law_same (wf k : Nat) (ms : List M) : callF wf FS (k + 1) 15 ms = run1 (callF wf FS k) wf f_law_same ms := rfl
theorem call_law_undone (wf k : Nat) (ms : List M) : callF wf FS (k + 1) 16 ms = run1 (callF wf FS k) wf f_law_undone ms := rfl
theorem call_law_word (wf k : Nat) (ms : List M) : callF wf FS (k + 1) 17 ms = run1 (callF wf FS k) wf f_law_word ms := rfl
theorem call_law_times (wf k : Nat) (ms : List M) : callF wf FS (k + 1) 18 ms = run1 (callF wf FS k) wf f_law_times ms := rfl
theorem call_law_table (wf k : Nat) (ms : List M) : callF wf FS (k + 1) 19 ms = run1 (callF wf FS k) wf f_law_table ms := rfl
theorem call_law_is_word (wf k : Nat) (ms : List M) : callF wf FS (k + 1) 20 ms = run1 (callF wf FS k) wf f_law_is_word ms := rfl
theorem call_law_back (wf k : Nat) (ms : List M) : callF wf FS (k + 1) 21 ms = run1 (callF wf FS k) wf f_law_back ms := rfl
theorem call_law_often (wf k : Nat) (ms : List M) : callF wf FS (k + 1) 22 ms = run1 (callF wf FS k) wf f_law_often ms := rfl
theorem call_law_beside (wf k : Nat) (ms : List M) : callF wf FS (k + 1) 23 ms = run1 (callF wf FS k) wf f_law_beside ms := rfl
theorem call_law_is_one_right (wf k : Nat) (ms : List M) : callF wf FS (k + 1) 24 ms = run1 (callF wf FS k) wf f_law_is_one_right ms := rfl
theorem call_law_is_told (wf k : Nat) (ms : List M) : callF wf FS (k + 1) 25 ms = run1 (callF wf FS k) wf f_law_is_told ms := rfl
theorem call_law_are_two_right (wf k : Nat) (ms : List M) : callF wf FS (k + 1) 26 ms = run1 (callF wf FS k) wf f_law_are_two_right ms := rfl
theorem call_law (wf k : Nat) (ms : List M) : callF wf FS (k + 1) 27 ms = run1 (callF wf FS k) wf f_law ms := rfl

end Law
section
set_option maxHeartbeats 4000000
namespace Law
open Cs PySem
abbrev tI (w : List Int) : PyData := .tuple (w.map .int)
abbrev iat (w : List Int) (i : Int) : Int := w.getD i.toNat 0
def und (w : List Int) : List Int := w.reverse.map fun x => -x
theorem und_len (w : List Int) : (und w).length = w.length := by simp [und]
theorem undone_word_sp (wf k : Nat) (w : List Int) (hw : w.length ≤ 10000) : callF wf FS (k + 1) 0 [.d (tI w)] = some (.d (tI (und w)), [.d (tI w)]) := by
  rw [call_undone_word]
  unfold f_undone_word b_undone_word
  have hl : w.length ≤ sizeLine := le_line (by omega)
  simp -implicitDefEqProofs only [run_1, wp_some, wp_none, wp_bind, wp_map, wp_ite, bR_b, iR_i, dR_d, mR_m, look_d, look_l, look_s, look_f, unal_l, unal_s, unal_f, val_ow, val_al, c_var, c_cst, c_bin, c_un, c_and, c_or, c_not, c_ite, c_tup, c_lst, c_slice, c_lrng, c_trng, rngV_n, c_call, lstAt_l, c_mt0, c_mt1, cL_nil, cL_cons, cP_nil, cP_sm, cI_r1, cI_r2, cI_sq, walkAt_l, walkAt_s, walkAt_f, iter_t, iter_l, iter_a, nxt_nx, nxt_rt, nxt_bk, nxt_ct, q_skip, q_seq, q_set, q_par, tR_t, q_unp, q_setI, q_ex2, retV_ow, retV_al, q_ret2, q_retN, q_if, q_brk, q_cnt, augV_i, augV_l, augV_t, q_aug2, e_dB, e_dI, eq_ii, eq_bb, mem_ti, mem_li, atI_map, idx_t, idx_l, idx_f, cut_t, cut_l, sl_map, p_eq, p_ne, p_mem, p_nmem, p_idx, p_add, p_addT, p_addL, p_sub, p_mulT, p_mulL, p_fdiv, p_mod, p_pow, p_lt, p_le, p_gt, p_ge, p_maxm, p_minm, p_neg, p_isN, p_notN, p_isB, p_notB, p_lenT, p_lenL, p_lenF, p_tupL, p_tupT, p_listT, p_listL, p_abs, p_int, p_intB, p_revT, p_revL, p_isInt, p_isBool, p_isStr, p_isTuple, m_append, m_rev, shO_n, shO_s, shAt_c, isSh_d, isSh_l, isSh_s, isSh_f, raw_ow, raw_al, raws_n, raws_c, alK_n, alK_o, alK_a, back_n, back_o, back_l, back_s, back_f, owD_n, owD_c, owM_n, owM_c, bindM_n, bindM_c, bindN_n, bindN_c, bindT_n, bindT_t, wipe_n, wipe_c, fill_n, fillO_d, fillO_n, fillO_l, fill_c, lock_n, lock_s, open_n, open_s, aug_add, aug_sub, fturn_c, turn_c, fin_nx, fin_rt, ini_n, ini_c, outs_n, outs_d, outs_l, outs_s, outs_f, pins_n, pins_d, pins_l, pins_s, pins_f, inRng_0, inRng_1, inRng_2, eq_ti, eq_li, atI_0, atI_1, atI_2, atI_3, line_1, line_2, line_3, line_4, line_5, line_6, line_7, line_8, line_9, line_10, line_11, line_12, List.getElem?_cons_zero, List.getElem?_cons_succ, List.set_cons_zero, List.set_cons_succ, List.length_map, List.length_cons, List.length_nil, Option.bind_some, Option.bind_none, id, List.mem_cons, List.not_mem_nil, List.replicate_succ, List.replicate_zero, List.nil_append, List.cons_append, if_true, if_false, ite_true, ite_false, Bool.false_eq_true, Bool.or_false, Bool.false_or, Bool.or_true, Bool.true_or, Bool.and_true, Bool.true_and, Bool.and_false, Bool.false_and, Bool.not_true, Bool.not_false, decide_true, decide_false, or_false, false_or, or_true, true_or, and_true, true_and, List.nodup_cons, List.nodup_nil, not_false_eq_true, not_true_eq_false, decide_eq_true_eq, Bool.not_eq_true', decide_eq_false_iff_not, inPin, List.any_cons, List.any_nil, isTupD, isIntD, isBoolD, isStrD, isNoneD, Nat.reduceSub, Nat.reduceAdd, Nat.reduceLeDiff, Nat.reduceEqDiff, Nat.reduceMul, Nat.reducePow, Nat.sub_self, Nat.sub_zero, Int.reduceLT, Int.reduceLE, Int.reduceNeg, Int.reduceToNat, Int.reduceEq, Bool.and_self, decide_not, reduceCtorEq, Nat.zero_le, Option.toList_none, Option.toList_some, List.append_nil, true_implies, false_implies, implies_true, not_true, not_false_eq_true, Option.map_some, c_comp]
  rw [← List.map_reverse, compL_map (f := turn _ _ _ _ _) (r := PyData.int) (fun x => -x)]
  · simp -implicitDefEqProofs only [run_1, wp_some, wp_none, wp_bind, wp_map, wp_ite, bR_b, iR_i, dR_d, mR_m, look_d, look_l, look_s, look_f, unal_l, unal_s, unal_f, val_ow, val_al, c_var, c_cst, c_bin, c_un, c_and, c_or, c_not, c_ite, c_tup, c_lst, c_slice, c_lrng, c_trng, rngV_n, c_call, lstAt_l, c_mt0, c_mt1, cL_nil, cL_cons, cP_nil, cP_sm, cI_r1, cI_r2, cI_sq, walkAt_l, walkAt_s, walkAt_f, iter_t, iter_l, iter_a, nxt_nx, nxt_rt, nxt_bk, nxt_ct, q_skip, q_seq, q_set, q_par, tR_t, q_unp, q_setI, q_ex2, retV_ow, retV_al, q_ret2, q_retN, q_if, q_brk, q_cnt, augV_i, augV_l, augV_t, q_aug2, e_dB, e_dI, eq_ii, eq_bb, mem_ti, mem_li, atI_map, idx_t, idx_l, idx_f, cut_t, cut_l, sl_map, p_eq, p_ne, p_mem, p_nmem, p_idx, p_add, p_addT, p_addL, p_sub, p_mulT, p_mulL, p_fdiv, p_mod, p_pow, p_lt, p_le, p_gt, p_ge, p_maxm, p_minm, p_neg, p_isN, p_notN, p_isB, p_notB, p_lenT, p_lenL, p_lenF, p_tupL, p_tupT, p_listT, p_listL, p_abs, p_int, p_intB, p_revT, p_revL, p_isInt, p_isBool, p_isStr, p_isTuple, m_append, m_rev, shO_n, shO_s, shAt_c, isSh_d, isSh_l, isSh_s, isSh_f, raw_ow, raw_al, raws_n, raws_c, alK_n, alK_o, alK_a, back_n, back_o, back_l, back_s, back_f, owD_n, owD_c, owM_n, owM_c, bindM_n, bindM_c, bindN_n, bindN_c, bindT_n, bindT_t, wipe_n, wipe_c, fill_n, fillO_d, fillO_n, fillO_l, fill_c, lock_n, lock_s, open_n, open_s, aug_add, aug_sub, fturn_c, turn_c, fin_nx, fin_rt, ini_n, ini_c, outs_n, outs_d, outs_l, outs_s, outs_f, pins_n, pins_d, pins_l, pins_s, pins_f, inRng_0, inRng_1, inRng_2, eq_ti, eq_li, atI_0, atI_1, atI_2, atI_3, line_1, line_2, line_3, line_4, line_5, line_6, line_7, line_8, line_9, line_10, line_11, line_12, List.getElem?_cons_zero, List.getElem?_cons_succ, List.set_cons_zero, List.set_cons_succ, List.length_map, List.length_cons, List.length_nil, Option.bind_some, Option.bind_none, id, List.mem_cons, List.not_mem_nil, List.replicate_succ, List.replicate_zero, List.nil_append, List.cons_append, if_true, if_false, ite_true, ite_false, Bool.false_eq_true, Bool.or_false, Bool.false_or, Bool.or_true, Bool.true_or, Bool.and_true, Bool.true_and, Bool.and_false, Bool.false_and, Bool.not_true, Bool.not_false, decide_true, decide_false, or_false, false_or, or_true, true_or, and_true, true_and, List.nodup_cons, List.nodup_nil, not_false_eq_true, not_true_eq_false, decide_eq_true_eq, Bool.not_eq_true', decide_eq_false_iff_not, inPin, List.any_cons, List.any_nil, isTupD, isIntD, isBoolD, isStrD, isNoneD, Nat.reduceSub, Nat.reduceAdd, Nat.reduceLeDiff, Nat.reduceEqDiff, Nat.reduceMul, Nat.reducePow, Nat.sub_self, Nat.sub_zero, Int.reduceLT, Int.reduceLE, Int.reduceNeg, Int.reduceToNat, Int.reduceEq, Bool.and_self, decide_not, reduceCtorEq, Nat.zero_le, Option.toList_none, Option.toList_some, List.append_nil, true_implies, false_implies, implies_true, not_true, not_false_eq_true, Option.map_some, List.length_reverse, hl]
    rfl
  · intro x hx
    simp -implicitDefEqProofs only [run_1, wp_some, wp_none, wp_bind, wp_map, wp_ite, bR_b, iR_i, dR_d, mR_m, look_d, look_l, look_s, look_f, unal_l, unal_s, unal_f, val_ow, val_al, c_var, c_cst, c_bin, c_un, c_and, c_or, c_not, c_ite, c_tup, c_lst, c_slice, c_lrng, c_trng, rngV_n, c_call, lstAt_l, c_mt0, c_mt1, cL_nil, cL_cons, cP_nil, cP_sm, cI_r1, cI_r2, cI_sq, walkAt_l, walkAt_s, walkAt_f, iter_t, iter_l, iter_a, nxt_nx, nxt_rt, nxt_bk, nxt_ct, q_skip, q_seq, q_set, q_par, tR_t, q_unp, q_setI, q_ex2, retV_ow, retV_al, q_ret2, q_retN, q_if, q_brk, q_cnt, augV_i, augV_l, augV_t, q_aug2, e_dB, e_dI, eq_ii, eq_bb, mem_ti, mem_li, atI_map, idx_t, idx_l, idx_f, cut_t, cut_l, sl_map, p_eq, p_ne, p_mem, p_nmem, p_idx, p_add, p_addT, p_addL, p_sub, p_mulT, p_mulL, p_fdiv, p_mod, p_pow, p_lt, p_le, p_gt, p_ge, p_maxm, p_minm, p_neg, p_isN, p_notN, p_isB, p_notB, p_lenT, p_lenL, p_lenF, p_tupL, p_tupT, p_listT, p_listL, p_abs, p_int, p_intB, p_revT, p_revL, p_isInt, p_isBool, p_isStr, p_isTuple, m_append, m_rev, shO_n, shO_s, shAt_c, isSh_d, isSh_l, isSh_s, isSh_f, raw_ow, raw_al, raws_n, raws_c, alK_n, alK_o, alK_a, back_n, back_o, back_l, back_s, back_f, owD_n, owD_c, owM_n, owM_c, bindM_n, bindM_c, bindN_n, bindN_c, bindT_n, bindT_t, wipe_n, wipe_c, fill_n, fillO_d, fillO_n, fillO_l, fill_c, lock_n, lock_s, open_n, open_s, aug_add, aug_sub, fturn_c, turn_c, fin_nx, fin_rt, ini_n, ini_c, outs_n, outs_d, outs_l, outs_s, outs_f, pins_n, pins_d, pins_l, pins_s, pins_f, inRng_0, inRng_1, inRng_2, eq_ti, eq_li, atI_0, atI_1, atI_2, atI_3, line_1, line_2, line_3, line_4, line_5, line_6, line_7, line_8, line_9, line_10, line_11, line_12, List.getElem?_cons_zero, List.getElem?_cons_succ, List.set_cons_zero, List.set_cons_succ, List.length_map, List.length_cons, List.length_nil, Option.bind_some, Option.bind_none, id, List.mem_cons, List.not_mem_nil, List.replicate_succ, List.replicate_zero, List.nil_append, List.cons_append, if_true, if_false, ite_true, ite_false, Bool.false_eq_true, Bool.or_false, Bool.false_or, Bool.or_true, Bool.true_or, Bool.and_true, Bool.true_and, Bool.and_false, Bool.false_and, Bool.not_true, Bool.not_false, decide_true, decide_false, or_false, false_or, or_true, true_or, and_true, true_and, List.nodup_cons, List.nodup_nil, not_false_eq_true, not_true_eq_false, decide_eq_true_eq, Bool.not_eq_true', decide_eq_false_iff_not, inPin, List.any_cons, List.any_nil, isTupD, isIntD, isBoolD, isStrD, isNoneD, Nat.reduceSub, Nat.reduceAdd, Nat.reduceLeDiff, Nat.reduceEqDiff, Nat.reduceMul, Nat.reducePow, Nat.sub_self, Nat.sub_zero, Int.reduceLT, Int.reduceLE, Int.reduceNeg, Int.reduceToNat, Int.reduceEq, Bool.and_self, decide_not, reduceCtorEq, Nat.zero_le, Option.toList_none, Option.toList_some, List.append_nil, true_implies, false_implies, implies_true, not_true, not_false_eq_true, Option.map_some]
theorem law_take_sp (wf k : Nat) (ds : List Int) (m : Int) (hm : 0 < m) : callF wf FS (k + 1) 14 [.lst (ds.map .int), .d (.int m)] = some (.d (.int (ds.getLastD 0 % m)), [.lst (ds.dropLast.map .int), .d (.int m)]) := by
  rw [call_law_take, wp_eq]
  unfold f_law_take b_law_take
  simp -implicitDefEqProofs only [run_1, wp_some, wp_none, wp_bind, wp_map, wp_ite, bR_b, iR_i, dR_d, mR_m, look_d, look_l, look_s, look_f, unal_l, unal_s, unal_f, val_ow, val_al, c_var, c_cst, c_bin, c_un, c_and, c_or, c_not, c_ite, c_tup, c_lst, c_slice, c_lrng, c_trng, rngV_n, c_call, lstAt_l, c_mt0, c_mt1, cL_nil, cL_cons, cP_nil, cP_sm, cI_r1, cI_r2, cI_sq, walkAt_l, walkAt_s, walkAt_f, iter_t, iter_l, iter_a, nxt_nx, nxt_rt, nxt_bk, nxt_ct, q_skip, q_seq, q_set, q_par, tR_t, q_unp, q_setI, q_ex2, retV_ow, retV_al, q_ret2, q_retN, q_if, q_brk, q_cnt, augV_i, augV_l, augV_t, q_aug2, e_dB, e_dI, eq_ii, eq_bb, mem_ti, mem_li, atI_map, idx_t, idx_l, idx_f, cut_t, cut_l, sl_map, p_eq, p_ne, p_mem, p_nmem, p_idx, p_add, p_addT, p_addL, p_sub, p_mulT, p_mulL, p_fdiv, p_mod, p_pow, p_lt, p_le, p_gt, p_ge, p_maxm, p_minm, p_neg, p_isN, p_notN, p_isB, p_notB, p_lenT, p_lenL, p_lenF, p_tupL, p_tupT, p_listT, p_listL, p_abs, p_int, p_intB, p_revT, p_revL, p_isInt, p_isBool, p_isStr, p_isTuple, m_append, m_rev, shO_n, shO_s, shAt_c, isSh_d, isSh_l, isSh_s, isSh_f, raw_ow, raw_al, raws_n, raws_c, alK_n, alK_o, alK_a, back_n, back_o, back_l, back_s, back_f, owD_n, owD_c, owM_n, owM_c, bindM_n, bindM_c, bindN_n, bindN_c, bindT_n, bindT_t, wipe_n, wipe_c, fill_n, fillO_d, fillO_n, fillO_l, fill_c, lock_n, lock_s, open_n, open_s, aug_add, aug_sub, fturn_c, turn_c, fin_nx, fin_rt, ini_n, ini_c, outs_n, outs_d, outs_l, outs_s, outs_f, pins_n, pins_d, pins_l, pins_s, pins_f, inRng_0, inRng_1, inRng_2, eq_ti, eq_li, atI_0, atI_1, atI_2, atI_3, line_1, line_2, line_3, line_4, line_5, line_6, line_7, line_8, line_9, line_10, line_11, line_12, List.getElem?_cons_zero, List.getElem?_cons_succ, List.set_cons_zero, List.set_cons_succ, List.length_map, List.length_cons, List.length_nil, Option.bind_some, Option.bind_none, id, List.mem_cons, List.not_mem_nil, List.replicate_succ, List.replicate_zero, List.nil_append, List.cons_append, if_true, if_false, ite_true, ite_false, Bool.false_eq_true, Bool.or_false, Bool.false_or, Bool.or_true, Bool.true_or, Bool.and_true, Bool.true_and, Bool.and_false, Bool.false_and, Bool.not_true, Bool.not_false, decide_true, decide_false, or_false, false_or, or_true, true_or, and_true, true_and, List.nodup_cons, List.nodup_nil, not_false_eq_true, not_true_eq_false, decide_eq_true_eq, Bool.not_eq_true', decide_eq_false_iff_not, inPin, List.any_cons, List.any_nil, isTupD, isIntD, isBoolD, isStrD, isNoneD, Nat.reduceSub, Nat.reduceAdd, Nat.reduceLeDiff, Nat.reduceEqDiff, Nat.reduceMul, Nat.reducePow, Nat.sub_self, Nat.sub_zero, Int.reduceLT, Int.reduceLE, Int.reduceNeg, Int.reduceToNat, Int.reduceEq, Bool.and_self, decide_not, reduceCtorEq, Nat.zero_le, Option.toList_none, Option.toList_some, List.append_nil, true_implies, false_implies, implies_true, not_true, not_false_eq_true, Option.map_some]
  refine ⟨fun h => ?_, fun h => ?_⟩
  · have e : ds = [] := List.eq_nil_of_length_eq_zero (by omega)
    subst e; simp
  · cases hd : ds.getLast? with
    | none => simp at hd; subst hd; simp at h
    | some x =>
      rw [m_pop ds x hd]
      simp -implicitDefEqProofs only [run_1, wp_some, wp_none, wp_bind, wp_map, wp_ite, bR_b, iR_i, dR_d, mR_m, look_d, look_l, look_s, look_f, unal_l, unal_s, unal_f, val_ow, val_al, c_var, c_cst, c_bin, c_un, c_and, c_or, c_not, c_ite, c_tup, c_lst, c_slice, c_lrng, c_trng, rngV_n, c_call, lstAt_l, c_mt0, c_mt1, cL_nil, cL_cons, cP_nil, cP_sm, cI_r1, cI_r2, cI_sq, walkAt_l, walkAt_s, walkAt_f, iter_t, iter_l, iter_a, nxt_nx, nxt_rt, nxt_bk, nxt_ct, q_skip, q_seq, q_set, q_par, tR_t, q_unp, q_setI, q_ex2, retV_ow, retV_al, q_ret2, q_retN, q_if, q_brk, q_cnt, augV_i, augV_l, augV_t, q_aug2, e_dB, e_dI, eq_ii, eq_bb, mem_ti, mem_li, atI_map, idx_t, idx_l, idx_f, cut_t, cut_l, sl_map, p_eq, p_ne, p_mem, p_nmem, p_idx, p_add, p_addT, p_addL, p_sub, p_mulT, p_mulL, p_fdiv, p_mod, p_pow, p_lt, p_le, p_gt, p_ge, p_maxm, p_minm, p_neg, p_isN, p_notN, p_isB, p_notB, p_lenT, p_lenL, p_lenF, p_tupL, p_tupT, p_listT, p_listL, p_abs, p_int, p_intB, p_revT, p_revL, p_isInt, p_isBool, p_isStr, p_isTuple, m_append, m_rev, shO_n, shO_s, shAt_c, isSh_d, isSh_l, isSh_s, isSh_f, raw_ow, raw_al, raws_n, raws_c, alK_n, alK_o, alK_a, back_n, back_o, back_l, back_s, back_f, owD_n, owD_c, owM_n, owM_c, bindM_n, bindM_c, bindN_n, bindN_c, bindT_n, bindT_t, wipe_n, wipe_c, fill_n, fillO_d, fillO_n, fillO_l, fill_c, lock_n, lock_s, open_n, open_s, aug_add, aug_sub, fturn_c, turn_c, fin_nx, fin_rt, ini_n, ini_c, outs_n, outs_d, outs_l, outs_s, outs_f, pins_n, pins_d, pins_l, pins_s, pins_f, inRng_0, inRng_1, inRng_2, eq_ti, eq_li, atI_0, atI_1, atI_2, atI_3, line_1, line_2, line_3, line_4, line_5, line_6, line_7, line_8, line_9, line_10, line_11, line_12, List.getElem?_cons_zero, List.getElem?_cons_succ, List.set_cons_zero, List.set_cons_succ, List.length_map, List.length_cons, List.length_nil, Option.bind_some, Option.bind_none, id, List.mem_cons, List.not_mem_nil, List.replicate_succ, List.replicate_zero, List.nil_append, List.cons_append, if_true, if_false, ite_true, ite_false, Bool.false_eq_true, Bool.or_false, Bool.false_or, Bool.or_true, Bool.true_or, Bool.and_true, Bool.true_and, Bool.and_false, Bool.false_and, Bool.not_true, Bool.not_false, decide_true, decide_false, or_false, false_or, or_true, true_or, and_true, true_and, List.nodup_cons, List.nodup_nil, not_false_eq_true, not_true_eq_false, decide_eq_true_eq, Bool.not_eq_true', decide_eq_false_iff_not, inPin, List.any_cons, List.any_nil, isTupD, isIntD, isBoolD, isStrD, isNoneD, Nat.reduceSub, Nat.reduceAdd, Nat.reduceLeDiff, Nat.reduceEqDiff, Nat.reduceMul, Nat.reducePow, Nat.sub_self, Nat.sub_zero, Int.reduceLT, Int.reduceLE, Int.reduceNeg, Int.reduceToNat, Int.reduceEq, Bool.and_self, decide_not, reduceCtorEq, Nat.zero_le, Option.toList_none, Option.toList_some, List.append_nil, true_implies, false_implies, implies_true, not_true, not_false_eq_true, Option.map_some, hm, List.getLastD_eq_getLast?, hd, Option.getD_some]
def cpl (w : List Int) : List Int := (rg 0 (w.length - 1)).filter fun k => decide (iat w k = - iat w (k + 1))
def cnl (w : List Int) (p : Int) : List Int := w.take p.toNat ++ w.drop (p + 2).toNat
theorem is_reduced_word_sp (wf k : Nat) (w : List Int) (hw : w.length ≤ 10000) : callF wf FS (k + 1) 1 [.d (tI w)] = some (.d (.bool ((rg 1 w.length).all fun k => decide (iat w (k - 1) ≠ - iat w k))), [.d (tI w)]) := by
  rw [call_is_reduced_word]
  unfold f_is_reduced_word b_is_reduced_word
  have hl : (rg 1 w.length).length ≤ sizeLine := le_line (by rw [rg_len]; omega)
  simp -implicitDefEqProofs only [run_1, wp_some, wp_none, wp_bind, wp_map, wp_ite, bR_b, iR_i, dR_d, mR_m, look_d, look_l, look_s, look_f, unal_l, unal_s, unal_f, val_ow, val_al, c_var, c_cst, c_bin, c_un, c_and, c_or, c_not, c_ite, c_tup, c_lst, c_slice, c_lrng, c_trng, rngV_n, c_call, lstAt_l, c_mt0, c_mt1, cL_nil, cL_cons, cP_nil, cP_sm, cI_r1, cI_r2, cI_sq, walkAt_l, walkAt_s, walkAt_f, iter_t, iter_l, iter_a, nxt_nx, nxt_rt, nxt_bk, nxt_ct, q_skip, q_seq, q_set, q_par, tR_t, q_unp, q_setI, q_ex2, retV_ow, retV_al, q_ret2, q_retN, q_if, q_brk, q_cnt, augV_i, augV_l, augV_t, q_aug2, e_dB, e_dI, eq_ii, eq_bb, mem_ti, mem_li, atI_map, idx_t, idx_l, idx_f, cut_t, cut_l, sl_map, p_eq, p_ne, p_mem, p_nmem, p_idx, p_add, p_addT, p_addL, p_sub, p_mulT, p_mulL, p_fdiv, p_mod, p_pow, p_lt, p_le, p_gt, p_ge, p_maxm, p_minm, p_neg, p_isN, p_notN, p_isB, p_notB, p_lenT, p_lenL, p_lenF, p_tupL, p_tupT, p_listT, p_listL, p_abs, p_int, p_intB, p_revT, p_revL, p_isInt, p_isBool, p_isStr, p_isTuple, m_append, m_rev, shO_n, shO_s, shAt_c, isSh_d, isSh_l, isSh_s, isSh_f, raw_ow, raw_al, raws_n, raws_c, alK_n, alK_o, alK_a, back_n, back_o, back_l, back_s, back_f, owD_n, owD_c, owM_n, owM_c, bindM_n, bindM_c, bindN_n, bindN_c, bindT_n, bindT_t, wipe_n, wipe_c, fill_n, fillO_d, fillO_n, fillO_l, fill_c, lock_n, lock_s, open_n, open_s, aug_add, aug_sub, fturn_c, turn_c, fin_nx, fin_rt, ini_n, ini_c, outs_n, outs_d, outs_l, outs_s, outs_f, pins_n, pins_d, pins_l, pins_s, pins_f, inRng_0, inRng_1, inRng_2, eq_ti, eq_li, atI_0, atI_1, atI_2, atI_3, line_1, line_2, line_3, line_4, line_5, line_6, line_7, line_8, line_9, line_10, line_11, line_12, List.getElem?_cons_zero, List.getElem?_cons_succ, List.set_cons_zero, List.set_cons_succ, List.length_map, List.length_cons, List.length_nil, Option.bind_some, Option.bind_none, id, List.mem_cons, List.not_mem_nil, List.replicate_succ, List.replicate_zero, List.nil_append, List.cons_append, if_true, if_false, ite_true, ite_false, Bool.false_eq_true, Bool.or_false, Bool.false_or, Bool.or_true, Bool.true_or, Bool.and_true, Bool.true_and, Bool.and_false, Bool.false_and, Bool.not_true, Bool.not_false, decide_true, decide_false, or_false, false_or, or_true, true_or, and_true, true_and, List.nodup_cons, List.nodup_nil, not_false_eq_true, not_true_eq_false, decide_eq_true_eq, Bool.not_eq_true', decide_eq_false_iff_not, inPin, List.any_cons, List.any_nil, isTupD, isIntD, isBoolD, isStrD, isNoneD, Nat.reduceSub, Nat.reduceAdd, Nat.reduceLeDiff, Nat.reduceEqDiff, Nat.reduceMul, Nat.reducePow, Nat.sub_self, Nat.sub_zero, Int.reduceLT, Int.reduceLE, Int.reduceNeg, Int.reduceToNat, Int.reduceEq, Bool.and_self, decide_not, reduceCtorEq, Nat.zero_le, Option.toList_none, Option.toList_some, List.append_nil, true_implies, false_implies, implies_true, not_true, not_false_eq_true, Option.map_some, c_comp, rngL_rg, inRng_of (i := (w.length : Int)) (by omega)]
  rw [compL_map (f := turn _ _ _ _ _) (r := PyData.bool) (fun k => decide (iat w (k - 1) ≠ - iat w k))]
  · simp -implicitDefEqProofs only [run_1, wp_some, wp_none, wp_bind, wp_map, wp_ite, bR_b, iR_i, dR_d, mR_m, look_d, look_l, look_s, look_f, unal_l, unal_s, unal_f, val_ow, val_al, c_var, c_cst, c_bin, c_un, c_and, c_or, c_not, c_ite, c_tup, c_lst, c_slice, c_lrng, c_trng, rngV_n, c_call, lstAt_l, c_mt0, c_mt1, cL_nil, cL_cons, cP_nil, cP_sm, cI_r1, cI_r2, cI_sq, walkAt_l, walkAt_s, walkAt_f, iter_t, iter_l, iter_a, nxt_nx, nxt_rt, nxt_bk, nxt_ct, q_skip, q_seq, q_set, q_par, tR_t, q_unp, q_setI, q_ex2, retV_ow, retV_al, q_ret2, q_retN, q_if, q_brk, q_cnt, augV_i, augV_l, augV_t, q_aug2, e_dB, e_dI, eq_ii, eq_bb, mem_ti, mem_li, atI_map, idx_t, idx_l, idx_f, cut_t, cut_l, sl_map, p_eq, p_ne, p_mem, p_nmem, p_idx, p_add, p_addT, p_addL, p_sub, p_mulT, p_mulL, p_fdiv, p_mod, p_pow, p_lt, p_le, p_gt, p_ge, p_maxm, p_minm, p_neg, p_isN, p_notN, p_isB, p_notB, p_lenT, p_lenL, p_lenF, p_tupL, p_tupT, p_listT, p_listL, p_abs, p_int, p_intB, p_revT, p_revL, p_isInt, p_isBool, p_isStr, p_isTuple, m_append, m_rev, shO_n, shO_s, shAt_c, isSh_d, isSh_l, isSh_s, isSh_f, raw_ow, raw_al, raws_n, raws_c, alK_n, alK_o, alK_a, back_n, back_o, back_l, back_s, back_f, owD_n, owD_c, owM_n, owM_c, bindM_n, bindM_c, bindN_n, bindN_c, bindT_n, bindT_t, wipe_n, wipe_c, fill_n, fillO_d, fillO_n, fillO_l, fill_c, lock_n, lock_s, open_n, open_s, aug_add, aug_sub, fturn_c, turn_c, fin_nx, fin_rt, ini_n, ini_c, outs_n, outs_d, outs_l, outs_s, outs_f, pins_n, pins_d, pins_l, pins_s, pins_f, inRng_0, inRng_1, inRng_2, eq_ti, eq_li, atI_0, atI_1, atI_2, atI_3, line_1, line_2, line_3, line_4, line_5, line_6, line_7, line_8, line_9, line_10, line_11, line_12, List.getElem?_cons_zero, List.getElem?_cons_succ, List.set_cons_zero, List.set_cons_succ, List.length_map, List.length_cons, List.length_nil, Option.bind_some, Option.bind_none, id, List.mem_cons, List.not_mem_nil, List.replicate_succ, List.replicate_zero, List.nil_append, List.cons_append, if_true, if_false, ite_true, ite_false, Bool.false_eq_true, Bool.or_false, Bool.false_or, Bool.or_true, Bool.true_or, Bool.and_true, Bool.true_and, Bool.and_false, Bool.false_and, Bool.not_true, Bool.not_false, decide_true, decide_false, or_false, false_or, or_true, true_or, and_true, true_and, List.nodup_cons, List.nodup_nil, not_false_eq_true, not_true_eq_false, decide_eq_true_eq, Bool.not_eq_true', decide_eq_false_iff_not, inPin, List.any_cons, List.any_nil, isTupD, isIntD, isBoolD, isStrD, isNoneD, Nat.reduceSub, Nat.reduceAdd, Nat.reduceLeDiff, Nat.reduceEqDiff, Nat.reduceMul, Nat.reducePow, Nat.sub_self, Nat.sub_zero, Int.reduceLT, Int.reduceLE, Int.reduceNeg, Int.reduceToNat, Int.reduceEq, Bool.and_self, decide_not, reduceCtorEq, Nat.zero_le, Option.toList_none, Option.toList_some, List.append_nil, true_implies, false_implies, implies_true, not_true, not_false_eq_true, Option.map_some, hl, p_all, List.all_map, Function.comp_def]
  · intro x hx
    rw [rg_mem] at hx
    simp -implicitDefEqProofs only [run_1, wp_some, wp_none, wp_bind, wp_map, wp_ite, bR_b, iR_i, dR_d, mR_m, look_d, look_l, look_s, look_f, unal_l, unal_s, unal_f, val_ow, val_al, c_var, c_cst, c_bin, c_un, c_and, c_or, c_not, c_ite, c_tup, c_lst, c_slice, c_lrng, c_trng, rngV_n, c_call, lstAt_l, c_mt0, c_mt1, cL_nil, cL_cons, cP_nil, cP_sm, cI_r1, cI_r2, cI_sq, walkAt_l, walkAt_s, walkAt_f, iter_t, iter_l, iter_a, nxt_nx, nxt_rt, nxt_bk, nxt_ct, q_skip, q_seq, q_set, q_par, tR_t, q_unp, q_setI, q_ex2, retV_ow, retV_al, q_ret2, q_retN, q_if, q_brk, q_cnt, augV_i, augV_l, augV_t, q_aug2, e_dB, e_dI, eq_ii, eq_bb, mem_ti, mem_li, atI_map, idx_t, idx_l, idx_f, cut_t, cut_l, sl_map, p_eq, p_ne, p_mem, p_nmem, p_idx, p_add, p_addT, p_addL, p_sub, p_mulT, p_mulL, p_fdiv, p_mod, p_pow, p_lt, p_le, p_gt, p_ge, p_maxm, p_minm, p_neg, p_isN, p_notN, p_isB, p_notB, p_lenT, p_lenL, p_lenF, p_tupL, p_tupT, p_listT, p_listL, p_abs, p_int, p_intB, p_revT, p_revL, p_isInt, p_isBool, p_isStr, p_isTuple, m_append, m_rev, shO_n, shO_s, shAt_c, isSh_d, isSh_l, isSh_s, isSh_f, raw_ow, raw_al, raws_n, raws_c, alK_n, alK_o, alK_a, back_n, back_o, back_l, back_s, back_f, owD_n, owD_c, owM_n, owM_c, bindM_n, bindM_c, bindN_n, bindN_c, bindT_n, bindT_t, wipe_n, wipe_c, fill_n, fillO_d, fillO_n, fillO_l, fill_c, lock_n, lock_s, open_n, open_s, aug_add, aug_sub, fturn_c, turn_c, fin_nx, fin_rt, ini_n, ini_c, outs_n, outs_d, outs_l, outs_s, outs_f, pins_n, pins_d, pins_l, pins_s, pins_f, inRng_0, inRng_1, inRng_2, eq_ti, eq_li, atI_0, atI_1, atI_2, atI_3, line_1, line_2, line_3, line_4, line_5, line_6, line_7, line_8, line_9, line_10, line_11, line_12, List.getElem?_cons_zero, List.getElem?_cons_succ, List.set_cons_zero, List.set_cons_succ, List.length_map, List.length_cons, List.length_nil, Option.bind_some, Option.bind_none, id, List.mem_cons, List.not_mem_nil, List.replicate_succ, List.replicate_zero, List.nil_append, List.cons_append, if_true, if_false, ite_true, ite_false, Bool.false_eq_true, Bool.or_false, Bool.false_or, Bool.or_true, Bool.true_or, Bool.and_true, Bool.true_and, Bool.and_false, Bool.false_and, Bool.not_true, Bool.not_false, decide_true, decide_false, or_false, false_or, or_true, true_or, and_true, true_and, List.nodup_cons, List.nodup_nil, not_false_eq_true, not_true_eq_false, decide_eq_true_eq, Bool.not_eq_true', decide_eq_false_iff_not, inPin, List.any_cons, List.any_nil, isTupD, isIntD, isBoolD, isStrD, isNoneD, Nat.reduceSub, Nat.reduceAdd, Nat.reduceLeDiff, Nat.reduceEqDiff, Nat.reduceMul, Nat.reducePow, Nat.sub_self, Nat.sub_zero, Int.reduceLT, Int.reduceLE, Int.reduceNeg, Int.reduceToNat, Int.reduceEq, Bool.and_self, decide_not, reduceCtorEq, Nat.zero_le, Option.toList_none, Option.toList_some, List.append_nil, true_implies, false_implies, implies_true, not_true, not_false_eq_true, Option.map_some, atI_getD (xs := w) (i := x) 0 (by omega) (by omega), atI_getD (xs := w) (i := x - 1) 0 (by omega) (by omega), ne_eq, decide_not]
theorem cancelling_places_sp (wf k : Nat) (w : List Int) (hw : w.length ≤ 10000) : callF wf FS (k + 1) 2 [.d (tI w)] = some (.d (tI (cpl w)), [.d (tI w)]) := by
  rw [call_cancelling_places]
  unfold f_cancelling_places b_cancelling_places
  have hl : ((rg 0 (w.length - 1)).filter fun k => decide (iat w k = - iat w (k + 1))).length ≤ sizeLine := le_line (by
    refine Nat.le_trans (List.length_filter_le _ _) ?_
    rw [rg_len]; omega)
  simp -implicitDefEqProofs only [run_1, wp_some, wp_none, wp_bind, wp_map, wp_ite, bR_b, iR_i, dR_d, mR_m, look_d, look_l, look_s, look_f, unal_l, unal_s, unal_f, val_ow, val_al, c_var, c_cst, c_bin, c_un, c_and, c_or, c_not, c_ite, c_tup, c_lst, c_slice, c_lrng, c_trng, rngV_n, c_call, lstAt_l, c_mt0, c_mt1, cL_nil, cL_cons, cP_nil, cP_sm, cI_r1, cI_r2, cI_sq, walkAt_l, walkAt_s, walkAt_f, iter_t, iter_l, iter_a, nxt_nx, nxt_rt, nxt_bk, nxt_ct, q_skip, q_seq, q_set, q_par, tR_t, q_unp, q_setI, q_ex2, retV_ow, retV_al, q_ret2, q_retN, q_if, q_brk, q_cnt, augV_i, augV_l, augV_t, q_aug2, e_dB, e_dI, eq_ii, eq_bb, mem_ti, mem_li, atI_map, idx_t, idx_l, idx_f, cut_t, cut_l, sl_map, p_eq, p_ne, p_mem, p_nmem, p_idx, p_add, p_addT, p_addL, p_sub, p_mulT, p_mulL, p_fdiv, p_mod, p_pow, p_lt, p_le, p_gt, p_ge, p_maxm, p_minm, p_neg, p_isN, p_notN, p_isB, p_notB, p_lenT, p_lenL, p_lenF, p_tupL, p_tupT, p_listT, p_listL, p_abs, p_int, p_intB, p_revT, p_revL, p_isInt, p_isBool, p_isStr, p_isTuple, m_append, m_rev, shO_n, shO_s, shAt_c, isSh_d, isSh_l, isSh_s, isSh_f, raw_ow, raw_al, raws_n, raws_c, alK_n, alK_o, alK_a, back_n, back_o, back_l, back_s, back_f, owD_n, owD_c, owM_n, owM_c, bindM_n, bindM_c, bindN_n, bindN_c, bindT_n, bindT_t, wipe_n, wipe_c, fill_n, fillO_d, fillO_n, fillO_l, fill_c, lock_n, lock_s, open_n, open_s, aug_add, aug_sub, fturn_c, turn_c, fin_nx, fin_rt, ini_n, ini_c, outs_n, outs_d, outs_l, outs_s, outs_f, pins_n, pins_d, pins_l, pins_s, pins_f, inRng_0, inRng_1, inRng_2, eq_ti, eq_li, atI_0, atI_1, atI_2, atI_3, line_1, line_2, line_3, line_4, line_5, line_6, line_7, line_8, line_9, line_10, line_11, line_12, List.getElem?_cons_zero, List.getElem?_cons_succ, List.set_cons_zero, List.set_cons_succ, List.length_map, List.length_cons, List.length_nil, Option.bind_some, Option.bind_none, id, List.mem_cons, List.not_mem_nil, List.replicate_succ, List.replicate_zero, List.nil_append, List.cons_append, if_true, if_false, ite_true, ite_false, Bool.false_eq_true, Bool.or_false, Bool.false_or, Bool.or_true, Bool.true_or, Bool.and_true, Bool.true_and, Bool.and_false, Bool.false_and, Bool.not_true, Bool.not_false, decide_true, decide_false, or_false, false_or, or_true, true_or, and_true, true_and, List.nodup_cons, List.nodup_nil, not_false_eq_true, not_true_eq_false, decide_eq_true_eq, Bool.not_eq_true', decide_eq_false_iff_not, inPin, List.any_cons, List.any_nil, isTupD, isIntD, isBoolD, isStrD, isNoneD, Nat.reduceSub, Nat.reduceAdd, Nat.reduceLeDiff, Nat.reduceEqDiff, Nat.reduceMul, Nat.reducePow, Nat.sub_self, Nat.sub_zero, Int.reduceLT, Int.reduceLE, Int.reduceNeg, Int.reduceToNat, Int.reduceEq, Bool.and_self, decide_not, reduceCtorEq, Nat.zero_le, Option.toList_none, Option.toList_some, List.append_nil, true_implies, false_implies, implies_true, not_true, not_false_eq_true, Option.map_some, c_comp, rngL_rg, inRng_of (i := (w.length : Int) - 1) (by omega)]
  rw [compL_filter (f := turn _ _ _ _ _) (r := PyData.int) (fun k => decide (iat w k = - iat w (k + 1))) (fun x => x)]
  · simp -implicitDefEqProofs only [run_1, wp_some, wp_none, wp_bind, wp_map, wp_ite, bR_b, iR_i, dR_d, mR_m, look_d, look_l, look_s, look_f, unal_l, unal_s, unal_f, val_ow, val_al, c_var, c_cst, c_bin, c_un, c_and, c_or, c_not, c_ite, c_tup, c_lst, c_slice, c_lrng, c_trng, rngV_n, c_call, lstAt_l, c_mt0, c_mt1, cL_nil, cL_cons, cP_nil, cP_sm, cI_r1, cI_r2, cI_sq, walkAt_l, walkAt_s, walkAt_f, iter_t, iter_l, iter_a, nxt_nx, nxt_rt, nxt_bk, nxt_ct, q_skip, q_seq, q_set, q_par, tR_t, q_unp, q_setI, q_ex2, retV_ow, retV_al, q_ret2, q_retN, q_if, q_brk, q_cnt, augV_i, augV_l, augV_t, q_aug2, e_dB, e_dI, eq_ii, eq_bb, mem_ti, mem_li, atI_map, idx_t, idx_l, idx_f, cut_t, cut_l, sl_map, p_eq, p_ne, p_mem, p_nmem, p_idx, p_add, p_addT, p_addL, p_sub, p_mulT, p_mulL, p_fdiv, p_mod, p_pow, p_lt, p_le, p_gt, p_ge, p_maxm, p_minm, p_neg, p_isN, p_notN, p_isB, p_notB, p_lenT, p_lenL, p_lenF, p_tupL, p_tupT, p_listT, p_listL, p_abs, p_int, p_intB, p_revT, p_revL, p_isInt, p_isBool, p_isStr, p_isTuple, m_append, m_rev, shO_n, shO_s, shAt_c, isSh_d, isSh_l, isSh_s, isSh_f, raw_ow, raw_al, raws_n, raws_c, alK_n, alK_o, alK_a, back_n, back_o, back_l, back_s, back_f, owD_n, owD_c, owM_n, owM_c, bindM_n, bindM_c, bindN_n, bindN_c, bindT_n, bindT_t, wipe_n, wipe_c, fill_n, fillO_d, fillO_n, fillO_l, fill_c, lock_n, lock_s, open_n, open_s, aug_add, aug_sub, fturn_c, turn_c, fin_nx, fin_rt, ini_n, ini_c, outs_n, outs_d, outs_l, outs_s, outs_f, pins_n, pins_d, pins_l, pins_s, pins_f, inRng_0, inRng_1, inRng_2, eq_ti, eq_li, atI_0, atI_1, atI_2, atI_3, line_1, line_2, line_3, line_4, line_5, line_6, line_7, line_8, line_9, line_10, line_11, line_12, List.getElem?_cons_zero, List.getElem?_cons_succ, List.set_cons_zero, List.set_cons_succ, List.length_map, List.length_cons, List.length_nil, Option.bind_some, Option.bind_none, id, List.mem_cons, List.not_mem_nil, List.replicate_succ, List.replicate_zero, List.nil_append, List.cons_append, if_true, if_false, ite_true, ite_false, Bool.false_eq_true, Bool.or_false, Bool.false_or, Bool.or_true, Bool.true_or, Bool.and_true, Bool.true_and, Bool.and_false, Bool.false_and, Bool.not_true, Bool.not_false, decide_true, decide_false, or_false, false_or, or_true, true_or, and_true, true_and, List.nodup_cons, List.nodup_nil, not_false_eq_true, not_true_eq_false, decide_eq_true_eq, Bool.not_eq_true', decide_eq_false_iff_not, inPin, List.any_cons, List.any_nil, isTupD, isIntD, isBoolD, isStrD, isNoneD, Nat.reduceSub, Nat.reduceAdd, Nat.reduceLeDiff, Nat.reduceEqDiff, Nat.reduceMul, Nat.reducePow, Nat.sub_self, Nat.sub_zero, Int.reduceLT, Int.reduceLE, Int.reduceNeg, Int.reduceToNat, Int.reduceEq, Bool.and_self, decide_not, reduceCtorEq, Nat.zero_le, Option.toList_none, Option.toList_some, List.append_nil, true_implies, false_implies, implies_true, not_true, not_false_eq_true, Option.map_some, hl, List.map_id', cpl]
  · intro x hx
    rw [rg_mem] at hx
    simp -implicitDefEqProofs only [run_1, wp_some, wp_none, wp_bind, wp_map, wp_ite, bR_b, iR_i, dR_d, mR_m, look_d, look_l, look_s, look_f, unal_l, unal_s, unal_f, val_ow, val_al, c_var, c_cst, c_bin, c_un, c_and, c_or, c_not, c_ite, c_tup, c_lst, c_slice, c_lrng, c_trng, rngV_n, c_call, lstAt_l, c_mt0, c_mt1, cL_nil, cL_cons, cP_nil, cP_sm, cI_r1, cI_r2, cI_sq, walkAt_l, walkAt_s, walkAt_f, iter_t, iter_l, iter_a, nxt_nx, nxt_rt, nxt_bk, nxt_ct, q_skip, q_seq, q_set, q_par, tR_t, q_unp, q_setI, q_ex2, retV_ow, retV_al, q_ret2, q_retN, q_if, q_brk, q_cnt, augV_i, augV_l, augV_t, q_aug2, e_dB, e_dI, eq_ii, eq_bb, mem_ti, mem_li, atI_map, idx_t, idx_l, idx_f, cut_t, cut_l, sl_map, p_eq, p_ne, p_mem, p_nmem, p_idx, p_add, p_addT, p_addL, p_sub, p_mulT, p_mulL, p_fdiv, p_mod, p_pow, p_lt, p_le, p_gt, p_ge, p_maxm, p_minm, p_neg, p_isN, p_notN, p_isB, p_notB, p_lenT, p_lenL, p_lenF, p_tupL, p_tupT, p_listT, p_listL, p_abs, p_int, p_intB, p_revT, p_revL, p_isInt, p_isBool, p_isStr, p_isTuple, m_append, m_rev, shO_n, shO_s, shAt_c, isSh_d, isSh_l, isSh_s, isSh_f, raw_ow, raw_al, raws_n, raws_c, alK_n, alK_o, alK_a, back_n, back_o, back_l, back_s, back_f, owD_n, owD_c, owM_n, owM_c, bindM_n, bindM_c, bindN_n, bindN_c, bindT_n, bindT_t, wipe_n, wipe_c, fill_n, fillO_d, fillO_n, fillO_l, fill_c, lock_n, lock_s, open_n, open_s, aug_add, aug_sub, fturn_c, turn_c, fin_nx, fin_rt, ini_n, ini_c, outs_n, outs_d, outs_l, outs_s, outs_f, pins_n, pins_d, pins_l, pins_s, pins_f, inRng_0, inRng_1, inRng_2, eq_ti, eq_li, atI_0, atI_1, atI_2, atI_3, line_1, line_2, line_3, line_4, line_5, line_6, line_7, line_8, line_9, line_10, line_11, line_12, List.getElem?_cons_zero, List.getElem?_cons_succ, List.set_cons_zero, List.set_cons_succ, List.length_map, List.length_cons, List.length_nil, Option.bind_some, Option.bind_none, id, List.mem_cons, List.not_mem_nil, List.replicate_succ, List.replicate_zero, List.nil_append, List.cons_append, if_true, if_false, ite_true, ite_false, Bool.false_eq_true, Bool.or_false, Bool.false_or, Bool.or_true, Bool.true_or, Bool.and_true, Bool.true_and, Bool.and_false, Bool.false_and, Bool.not_true, Bool.not_false, decide_true, decide_false, or_false, false_or, or_true, true_or, and_true, true_and, List.nodup_cons, List.nodup_nil, not_false_eq_true, not_true_eq_false, decide_eq_true_eq, Bool.not_eq_true', decide_eq_false_iff_not, inPin, List.any_cons, List.any_nil, isTupD, isIntD, isBoolD, isStrD, isNoneD, Nat.reduceSub, Nat.reduceAdd, Nat.reduceLeDiff, Nat.reduceEqDiff, Nat.reduceMul, Nat.reducePow, Nat.sub_self, Nat.sub_zero, Int.reduceLT, Int.reduceLE, Int.reduceNeg, Int.reduceToNat, Int.reduceEq, Bool.and_self, decide_not, reduceCtorEq, Nat.zero_le, Option.toList_none, Option.toList_some, List.append_nil, true_implies, false_implies, implies_true, not_true, not_false_eq_true, Option.map_some, atI_getD (xs := w) (i := x) 0 (by omega) (by omega), atI_getD (xs := w) (i := x + 1) 0 (by omega) (by omega)]
    split <;> rfl
theorem cancelled_at_sp (wf k : Nat) (w : List Int) (p : Int) (h0 : 0 ≤ p) (hw : w.length ≤ 10000) : callF wf FS (k + 1) 3 [.d (tI w), .d (.int p)] = some (.d (tI (cnl w p)), [.d (tI w), .d (.int p)]) := by
  rw [call_cancelled_at]
  unfold f_cancelled_at b_cancelled_at
  have hl : (w.take p.toNat).length + (w.drop (p + 2).toNat).length ≤ sizeLine := le_line (by
    rw [List.length_take, List.length_drop]; omega)
  simp -implicitDefEqProofs only [run_1, wp_some, wp_none, wp_bind, wp_map, wp_ite, bR_b, iR_i, dR_d, mR_m, look_d, look_l, look_s, look_f, unal_l, unal_s, unal_f, val_ow, val_al, c_var, c_cst, c_bin, c_un, c_and, c_or, c_not, c_ite, c_tup, c_lst, c_slice, c_lrng, c_trng, rngV_n, c_call, lstAt_l, c_mt0, c_mt1, cL_nil, cL_cons, cP_nil, cP_sm, cI_r1, cI_r2, cI_sq, walkAt_l, walkAt_s, walkAt_f, iter_t, iter_l, iter_a, nxt_nx, nxt_rt, nxt_bk, nxt_ct, q_skip, q_seq, q_set, q_par, tR_t, q_unp, q_setI, q_ex2, retV_ow, retV_al, q_ret2, q_retN, q_if, q_brk, q_cnt, augV_i, augV_l, augV_t, q_aug2, e_dB, e_dI, eq_ii, eq_bb, mem_ti, mem_li, atI_map, idx_t, idx_l, idx_f, cut_t, cut_l, sl_map, p_eq, p_ne, p_mem, p_nmem, p_idx, p_add, p_addT, p_addL, p_sub, p_mulT, p_mulL, p_fdiv, p_mod, p_pow, p_lt, p_le, p_gt, p_ge, p_maxm, p_minm, p_neg, p_isN, p_notN, p_isB, p_notB, p_lenT, p_lenL, p_lenF, p_tupL, p_tupT, p_listT, p_listL, p_abs, p_int, p_intB, p_revT, p_revL, p_isInt, p_isBool, p_isStr, p_isTuple, m_append, m_rev, shO_n, shO_s, shAt_c, isSh_d, isSh_l, isSh_s, isSh_f, raw_ow, raw_al, raws_n, raws_c, alK_n, alK_o, alK_a, back_n, back_o, back_l, back_s, back_f, owD_n, owD_c, owM_n, owM_c, bindM_n, bindM_c, bindN_n, bindN_c, bindT_n, bindT_t, wipe_n, wipe_c, fill_n, fillO_d, fillO_n, fillO_l, fill_c, lock_n, lock_s, open_n, open_s, aug_add, aug_sub, fturn_c, turn_c, fin_nx, fin_rt, ini_n, ini_c, outs_n, outs_d, outs_l, outs_s, outs_f, pins_n, pins_d, pins_l, pins_s, pins_f, inRng_0, inRng_1, inRng_2, eq_ti, eq_li, atI_0, atI_1, atI_2, atI_3, line_1, line_2, line_3, line_4, line_5, line_6, line_7, line_8, line_9, line_10, line_11, line_12, List.getElem?_cons_zero, List.getElem?_cons_succ, List.set_cons_zero, List.set_cons_succ, List.length_map, List.length_cons, List.length_nil, Option.bind_some, Option.bind_none, id, List.mem_cons, List.not_mem_nil, List.replicate_succ, List.replicate_zero, List.nil_append, List.cons_append, if_true, if_false, ite_true, ite_false, Bool.false_eq_true, Bool.or_false, Bool.false_or, Bool.or_true, Bool.true_or, Bool.and_true, Bool.true_and, Bool.and_false, Bool.false_and, Bool.not_true, Bool.not_false, decide_true, decide_false, or_false, false_or, or_true, true_or, and_true, true_and, List.nodup_cons, List.nodup_nil, not_false_eq_true, not_true_eq_false, decide_eq_true_eq, Bool.not_eq_true', decide_eq_false_iff_not, inPin, List.any_cons, List.any_nil, isTupD, isIntD, isBoolD, isStrD, isNoneD, Nat.reduceSub, Nat.reduceAdd, Nat.reduceLeDiff, Nat.reduceEqDiff, Nat.reduceMul, Nat.reducePow, Nat.sub_self, Nat.sub_zero, Int.reduceLT, Int.reduceLE, Int.reduceNeg, Int.reduceToNat, Int.reduceEq, Bool.and_self, decide_not, reduceCtorEq, Nat.zero_le, Option.toList_none, Option.toList_some, List.append_nil, true_implies, false_implies, implies_true, not_true, not_false_eq_true, Option.map_some, sl_to w h0, sl_from w (show 0 ≤ p + 2 by omega), hl, tI, cnl, List.map_append]
def push (s : List Int) (x : Int) : List Int := if s ≠ [] ∧ s.getLastD 0 = -x then s.dropLast else s ++ [x]
def red (w : List Int) : List Int := w.foldl push []
theorem reduced_word_sp (wf k : Nat) (w : List Int) (hw : w.length ≤ 10000) : callF wf FS (k + 1) 4 [.d (tI w)] = some (.d (tI (red w)), [.d (tI w)]) := by
  rw [call_reduced_word, wp_eq]
  unfold f_reduced_word b_reduced_word
  simp -implicitDefEqProofs only [run_1, wp_some, wp_none, wp_bind, wp_map, wp_ite, bR_b, iR_i, dR_d, mR_m, look_d, look_l, look_s, look_f, unal_l, unal_s, unal_f, val_ow, val_al, c_var, c_cst, c_bin, c_un, c_and, c_or, c_not, c_ite, c_tup, c_lst, c_slice, c_lrng, c_trng, rngV_n, c_call, lstAt_l, c_mt0, c_mt1, cL_nil, cL_cons, cP_nil, cP_sm, cI_r1, cI_r2, cI_sq, walkAt_l, walkAt_s, walkAt_f, iter_t, iter_l, iter_a, nxt_nx, nxt_rt, nxt_bk, nxt_ct, q_skip, q_seq, q_set, q_par, tR_t, q_unp, q_setI, q_ex2, retV_ow, retV_al, q_ret2, q_retN, q_if, q_brk, q_cnt, augV_i, augV_l, augV_t, q_aug2, e_dB, e_dI, eq_ii, eq_bb, mem_ti, mem_li, atI_map, idx_t, idx_l, idx_f, cut_t, cut_l, sl_map, p_eq, p_ne, p_mem, p_nmem, p_idx, p_add, p_addT, p_addL, p_sub, p_mulT, p_mulL, p_fdiv, p_mod, p_pow, p_lt, p_le, p_gt, p_ge, p_maxm, p_minm, p_neg, p_isN, p_notN, p_isB, p_notB, p_lenT, p_lenL, p_lenF, p_tupL, p_tupT, p_listT, p_listL, p_abs, p_int, p_intB, p_revT, p_revL, p_isInt, p_isBool, p_isStr, p_isTuple, m_append, m_rev, shO_n, shO_s, shAt_c, isSh_d, isSh_l, isSh_s, isSh_f, raw_ow, raw_al, raws_n, raws_c, alK_n, alK_o, alK_a, back_n, back_o, back_l, back_s, back_f, owD_n, owD_c, owM_n, owM_c, bindM_n, bindM_c, bindN_n, bindN_c, bindT_n, bindT_t, wipe_n, wipe_c, fill_n, fillO_d, fillO_n, fillO_l, fill_c, lock_n, lock_s, open_n, open_s, aug_add, aug_sub, fturn_c, turn_c, fin_nx, fin_rt, ini_n, ini_c, outs_n, outs_d, outs_l, outs_s, outs_f, pins_n, pins_d, pins_l, pins_s, pins_f, inRng_0, inRng_1, inRng_2, eq_ti, eq_li, atI_0, atI_1, atI_2, atI_3, line_1, line_2, line_3, line_4, line_5, line_6, line_7, line_8, line_9, line_10, line_11, line_12, List.getElem?_cons_zero, List.getElem?_cons_succ, List.set_cons_zero, List.set_cons_succ, List.length_map, List.length_cons, List.length_nil, Option.bind_some, Option.bind_none, id, List.mem_cons, List.not_mem_nil, List.replicate_succ, List.replicate_zero, List.nil_append, List.cons_append, if_true, if_false, ite_true, ite_false, Bool.false_eq_true, Bool.or_false, Bool.false_or, Bool.or_true, Bool.true_or, Bool.and_true, Bool.true_and, Bool.and_false, Bool.false_and, Bool.not_true, Bool.not_false, decide_true, decide_false, or_false, false_or, or_true, true_or, and_true, true_and, List.nodup_cons, List.nodup_nil, not_false_eq_true, not_true_eq_false, decide_eq_true_eq, Bool.not_eq_true', decide_eq_false_iff_not, inPin, List.any_cons, List.any_nil, isTupD, isIntD, isBoolD, isStrD, isNoneD, Nat.reduceSub, Nat.reduceAdd, Nat.reduceLeDiff, Nat.reduceEqDiff, Nat.reduceMul, Nat.reducePow, Nat.sub_self, Nat.sub_zero, Int.reduceLT, Int.reduceLE, Int.reduceNeg, Int.reduceToNat, Int.reduceEq, Bool.and_self, decide_not, reduceCtorEq, Nat.zero_le, Option.toList_none, Option.toList_some, List.append_nil, true_implies, false_implies, implies_true, not_true, not_false_eq_true, Option.map_some, q_for]
  refine wp_imp (forL_inv (f := fturn _ _ _ _ _) (d := PyData.int) (fun ys e => ∃ (s : List Int) (z : Option M), e = [some (.d (tI w)), some (.lst (s.map .int)), z] ∧ (z = none ∨ ∃ y, z = some (.d y)) ∧ ys.foldl push s = red w ∧ s.length + ys.length ≤ w.length) (Q := fun r => r.1 = .nx ∧ ∃ z, r.2 = [some (.d (tI w)), some (.lst ((red w).map .int)), z]) ?_ w _ ⟨[], none, rfl, .inl rfl, rfl, by simp⟩ ?_) ?_
  · rintro e ⟨s, z, rfl, hz, h1, h2⟩
    exact ⟨rfl, z, by rw [← h1]; rfl⟩
  · rintro x ys e ⟨s, z, rfl, hz, h1, h2⟩
    have hz' : shO (some z) = false := by rcases hz with rfl | ⟨y, rfl⟩ <;> rfl
    have hs : s.length < sizeLine := lt_line (by rw [List.length_cons] at h2; omega)
    rw [List.length_cons] at h2
    have h3 : x :: ys = [x] ++ ys := rfl
    rw [List.foldl_cons] at h1
    have key : ∀ s' : List Int, push s x = s' → s'.length ≤ s.length + 1 → ∃ (s_1 : List Int) (z : Option M), [some (M.d (tI w)), some (M.lst (s'.map .int)), some (M.d (PyData.int x))] = [some (M.d (tI w)), some (M.lst (s_1.map .int)), z] ∧ (z = none ∨ ∃ y, z = some (M.d y)) ∧ List.foldl push s_1 ys = red w ∧ s_1.length + ys.length ≤ w.length := fun s' e hl => ⟨s', _, rfl, .inr ⟨_, rfl⟩, by rw [← e]; exact h1, by omega⟩
    simp -implicitDefEqProofs only [run_1, wp_some, wp_none, wp_bind, wp_map, wp_ite, bR_b, iR_i, dR_d, mR_m, look_d, look_l, look_s, look_f, unal_l, unal_s, unal_f, val_ow, val_al, c_var, c_cst, c_bin, c_un, c_and, c_or, c_not, c_ite, c_tup, c_lst, c_slice, c_lrng, c_trng, rngV_n, c_call, lstAt_l, c_mt0, c_mt1, cL_nil, cL_cons, cP_nil, cP_sm, cI_r1, cI_r2, cI_sq, walkAt_l, walkAt_s, walkAt_f, iter_t, iter_l, iter_a, nxt_nx, nxt_rt, nxt_bk, nxt_ct, q_skip, q_seq, q_set, q_par, tR_t, q_unp, q_setI, q_ex2, retV_ow, retV_al, q_ret2, q_retN, q_if, q_brk, q_cnt, augV_i, augV_l, augV_t, q_aug2, e_dB, e_dI, eq_ii, eq_bb, mem_ti, mem_li, atI_map, idx_t, idx_l, idx_f, cut_t, cut_l, sl_map, p_eq, p_ne, p_mem, p_nmem, p_idx, p_add, p_addT, p_addL, p_sub, p_mulT, p_mulL, p_fdiv, p_mod, p_pow, p_lt, p_le, p_gt, p_ge, p_maxm, p_minm, p_neg, p_isN, p_notN, p_isB, p_notB, p_lenT, p_lenL, p_lenF, p_tupL, p_tupT, p_listT, p_listL, p_abs, p_int, p_intB, p_revT, p_revL, p_isInt, p_isBool, p_isStr, p_isTuple, m_append, m_rev, shO_n, shO_s, shAt_c, isSh_d, isSh_l, isSh_s, isSh_f, raw_ow, raw_al, raws_n, raws_c, alK_n, alK_o, alK_a, back_n, back_o, back_l, back_s, back_f, owD_n, owD_c, owM_n, owM_c, bindM_n, bindM_c, bindN_n, bindN_c, bindT_n, bindT_t, wipe_n, wipe_c, fill_n, fillO_d, fillO_n, fillO_l, fill_c, lock_n, lock_s, open_n, open_s, aug_add, aug_sub, fturn_c, turn_c, fin_nx, fin_rt, ini_n, ini_c, outs_n, outs_d, outs_l, outs_s, outs_f, pins_n, pins_d, pins_l, pins_s, pins_f, inRng_0, inRng_1, inRng_2, eq_ti, eq_li, atI_0, atI_1, atI_2, atI_3, line_1, line_2, line_3, line_4, line_5, line_6, line_7, line_8, line_9, line_10, line_11, line_12, List.getElem?_cons_zero, List.getElem?_cons_succ, List.set_cons_zero, List.set_cons_succ, List.length_map, List.length_cons, List.length_nil, Option.bind_some, Option.bind_none, id, List.mem_cons, List.not_mem_nil, List.replicate_succ, List.replicate_zero, List.nil_append, List.cons_append, if_true, if_false, ite_true, ite_false, Bool.false_eq_true, Bool.or_false, Bool.false_or, Bool.or_true, Bool.true_or, Bool.and_true, Bool.true_and, Bool.and_false, Bool.false_and, Bool.not_true, Bool.not_false, decide_true, decide_false, or_false, false_or, or_true, true_or, and_true, true_and, List.nodup_cons, List.nodup_nil, not_false_eq_true, not_true_eq_false, decide_eq_true_eq, Bool.not_eq_true', decide_eq_false_iff_not, inPin, List.any_cons, List.any_nil, isTupD, isIntD, isBoolD, isStrD, isNoneD, Nat.reduceSub, Nat.reduceAdd, Nat.reduceLeDiff, Nat.reduceEqDiff, Nat.reduceMul, Nat.reducePow, Nat.sub_self, Nat.sub_zero, Int.reduceLT, Int.reduceLE, Int.reduceNeg, Int.reduceToNat, Int.reduceEq, Bool.and_self, decide_not, reduceCtorEq, Nat.zero_le, Option.toList_none, Option.toList_some, List.append_nil, true_implies, false_implies, implies_true, not_true, not_false_eq_true, Option.map_some, hz', hs]
    refine ⟨fun h0 => ?_, fun h0 => ?_⟩
    · cases hd : s.getLast? with
      | none => simp at hd; subst hd; simp at h0
      | some y =>
        have hn : s ≠ [] := fun e => by subst e; cases hd
        rw [atI_last hd]
        have hg : s.getLastD 0 = y := by rw [List.getLastD_eq_getLast?, hd]; rfl
        simp -implicitDefEqProofs only [run_1, wp_some, wp_none, wp_bind, wp_map, wp_ite, bR_b, iR_i, dR_d, mR_m, look_d, look_l, look_s, look_f, unal_l, unal_s, unal_f, val_ow, val_al, c_var, c_cst, c_bin, c_un, c_and, c_or, c_not, c_ite, c_tup, c_lst, c_slice, c_lrng, c_trng, rngV_n, c_call, lstAt_l, c_mt0, c_mt1, cL_nil, cL_cons, cP_nil, cP_sm, cI_r1, cI_r2, cI_sq, walkAt_l, walkAt_s, walkAt_f, iter_t, iter_l, iter_a, nxt_nx, nxt_rt, nxt_bk, nxt_ct, q_skip, q_seq, q_set, q_par, tR_t, q_unp, q_setI, q_ex2, retV_ow, retV_al, q_ret2, q_retN, q_if, q_brk, q_cnt, augV_i, augV_l, augV_t, q_aug2, e_dB, e_dI, eq_ii, eq_bb, mem_ti, mem_li, atI_map, idx_t, idx_l, idx_f, cut_t, cut_l, sl_map, p_eq, p_ne, p_mem, p_nmem, p_idx, p_add, p_addT, p_addL, p_sub, p_mulT, p_mulL, p_fdiv, p_mod, p_pow, p_lt, p_le, p_gt, p_ge, p_maxm, p_minm, p_neg, p_isN, p_notN, p_isB, p_notB, p_lenT, p_lenL, p_lenF, p_tupL, p_tupT, p_listT, p_listL, p_abs, p_int, p_intB, p_revT, p_revL, p_isInt, p_isBool, p_isStr, p_isTuple, m_append, m_rev, shO_n, shO_s, shAt_c, isSh_d, isSh_l, isSh_s, isSh_f, raw_ow, raw_al, raws_n, raws_c, alK_n, alK_o, alK_a, back_n, back_o, back_l, back_s, back_f, owD_n, owD_c, owM_n, owM_c, bindM_n, bindM_c, bindN_n, bindN_c, bindT_n, bindT_t, wipe_n, wipe_c, fill_n, fillO_d, fillO_n, fillO_l, fill_c, lock_n, lock_s, open_n, open_s, aug_add, aug_sub, fturn_c, turn_c, fin_nx, fin_rt, ini_n, ini_c, outs_n, outs_d, outs_l, outs_s, outs_f, pins_n, pins_d, pins_l, pins_s, pins_f, inRng_0, inRng_1, inRng_2, eq_ti, eq_li, atI_0, atI_1, atI_2, atI_3, line_1, line_2, line_3, line_4, line_5, line_6, line_7, line_8, line_9, line_10, line_11, line_12, List.getElem?_cons_zero, List.getElem?_cons_succ, List.set_cons_zero, List.set_cons_succ, List.length_map, List.length_cons, List.length_nil, Option.bind_some, Option.bind_none, id, List.mem_cons, List.not_mem_nil, List.replicate_succ, List.replicate_zero, List.nil_append, List.cons_append, if_true, if_false, ite_true, ite_false, Bool.false_eq_true, Bool.or_false, Bool.false_or, Bool.or_true, Bool.true_or, Bool.and_true, Bool.true_and, Bool.and_false, Bool.false_and, Bool.not_true, Bool.not_false, decide_true, decide_false, or_false, false_or, or_true, true_or, and_true, true_and, List.nodup_cons, List.nodup_nil, not_false_eq_true, not_true_eq_false, decide_eq_true_eq, Bool.not_eq_true', decide_eq_false_iff_not, inPin, List.any_cons, List.any_nil, isTupD, isIntD, isBoolD, isStrD, isNoneD, Nat.reduceSub, Nat.reduceAdd, Nat.reduceLeDiff, Nat.reduceEqDiff, Nat.reduceMul, Nat.reducePow, Nat.sub_self, Nat.sub_zero, Int.reduceLT, Int.reduceLE, Int.reduceNeg, Int.reduceToNat, Int.reduceEq, Bool.and_self, decide_not, reduceCtorEq, Nat.zero_le, Option.toList_none, Option.toList_some, List.append_nil, true_implies, false_implies, implies_true, not_true, not_false_eq_true, Option.map_some]
        refine ⟨fun e => ?_, fun e => ?_⟩
        · rw [m_pop s y hd]
          simp -implicitDefEqProofs only [run_1, wp_some, wp_none, wp_bind, wp_map, wp_ite, bR_b, iR_i, dR_d, mR_m, look_d, look_l, look_s, look_f, unal_l, unal_s, unal_f, val_ow, val_al, c_var, c_cst, c_bin, c_un, c_and, c_or, c_not, c_ite, c_tup, c_lst, c_slice, c_lrng, c_trng, rngV_n, c_call, lstAt_l, c_mt0, c_mt1, cL_nil, cL_cons, cP_nil, cP_sm, cI_r1, cI_r2, cI_sq, walkAt_l, walkAt_s, walkAt_f, iter_t, iter_l, iter_a, nxt_nx, nxt_rt, nxt_bk, nxt_ct, q_skip, q_seq, q_set, q_par, tR_t, q_unp, q_setI, q_ex2, retV_ow, retV_al, q_ret2, q_retN, q_if, q_brk, q_cnt, augV_i, augV_l, augV_t, q_aug2, e_dB, e_dI, eq_ii, eq_bb, mem_ti, mem_li, atI_map, idx_t, idx_l, idx_f, cut_t, cut_l, sl_map, p_eq, p_ne, p_mem, p_nmem, p_idx, p_add, p_addT, p_addL, p_sub, p_mulT, p_mulL, p_fdiv, p_mod, p_pow, p_lt, p_le, p_gt, p_ge, p_maxm, p_minm, p_neg, p_isN, p_notN, p_isB, p_notB, p_lenT, p_lenL, p_lenF, p_tupL, p_tupT, p_listT, p_listL, p_abs, p_int, p_intB, p_revT, p_revL, p_isInt, p_isBool, p_isStr, p_isTuple, m_append, m_rev, shO_n, shO_s, shAt_c, isSh_d, isSh_l, isSh_s, isSh_f, raw_ow, raw_al, raws_n, raws_c, alK_n, alK_o, alK_a, back_n, back_o, back_l, back_s, back_f, owD_n, owD_c, owM_n, owM_c, bindM_n, bindM_c, bindN_n, bindN_c, bindT_n, bindT_t, wipe_n, wipe_c, fill_n, fillO_d, fillO_n, fillO_l, fill_c, lock_n, lock_s, open_n, open_s, aug_add, aug_sub, fturn_c, turn_c, fin_nx, fin_rt, ini_n, ini_c, outs_n, outs_d, outs_l, outs_s, outs_f, pins_n, pins_d, pins_l, pins_s, pins_f, inRng_0, inRng_1, inRng_2, eq_ti, eq_li, atI_0, atI_1, atI_2, atI_3, line_1, line_2, line_3, line_4, line_5, line_6, line_7, line_8, line_9, line_10, line_11, line_12, List.getElem?_cons_zero, List.getElem?_cons_succ, List.set_cons_zero, List.set_cons_succ, List.length_map, List.length_cons, List.length_nil, Option.bind_some, Option.bind_none, id, List.mem_cons, List.not_mem_nil, List.replicate_succ, List.replicate_zero, List.nil_append, List.cons_append, if_true, if_false, ite_true, ite_false, Bool.false_eq_true, Bool.or_false, Bool.false_or, Bool.or_true, Bool.true_or, Bool.and_true, Bool.true_and, Bool.and_false, Bool.false_and, Bool.not_true, Bool.not_false, decide_true, decide_false, or_false, false_or, or_true, true_or, and_true, true_and, List.nodup_cons, List.nodup_nil, not_false_eq_true, not_true_eq_false, decide_eq_true_eq, Bool.not_eq_true', decide_eq_false_iff_not, inPin, List.any_cons, List.any_nil, isTupD, isIntD, isBoolD, isStrD, isNoneD, Nat.reduceSub, Nat.reduceAdd, Nat.reduceLeDiff, Nat.reduceEqDiff, Nat.reduceMul, Nat.reducePow, Nat.sub_self, Nat.sub_zero, Int.reduceLT, Int.reduceLE, Int.reduceNeg, Int.reduceToNat, Int.reduceEq, Bool.and_self, decide_not, reduceCtorEq, Nat.zero_le, Option.toList_none, Option.toList_some, List.append_nil, true_implies, false_implies, implies_true, not_true, not_false_eq_true, Option.map_some]
          exact key _ (by unfold push; rw [if_pos ⟨hn, by rw [hg, e]⟩]) (by rw [List.length_dropLast]; omega)
        · have := key (s ++ [x]) (by unfold push; rw [if_neg fun q => e (by rw [← hg]; exact q.2)]) (by simp)
          simpa using this
    · have e : s = [] := List.eq_nil_of_length_eq_zero (by omega)
      have := key (s ++ [x]) (by unfold push; rw [if_neg fun q => q.1 e]) (by simp)
      simpa using this
  · rintro ⟨fl, e⟩ ⟨rfl, z, rfl⟩
    simp -implicitDefEqProofs only [run_1, wp_some, wp_none, wp_bind, wp_map, wp_ite, bR_b, iR_i, dR_d, mR_m, look_d, look_l, look_s, look_f, unal_l, unal_s, unal_f, val_ow, val_al, c_var, c_cst, c_bin, c_un, c_and, c_or, c_not, c_ite, c_tup, c_lst, c_slice, c_lrng, c_trng, rngV_n, c_call, lstAt_l, c_mt0, c_mt1, cL_nil, cL_cons, cP_nil, cP_sm, cI_r1, cI_r2, cI_sq, walkAt_l, walkAt_s, walkAt_f, iter_t, iter_l, iter_a, nxt_nx, nxt_rt, nxt_bk, nxt_ct, q_skip, q_seq, q_set, q_par, tR_t, q_unp, q_setI, q_ex2, retV_ow, retV_al, q_ret2, q_retN, q_if, q_brk, q_cnt, augV_i, augV_l, augV_t, q_aug2, e_dB, e_dI, eq_ii, eq_bb, mem_ti, mem_li, atI_map, idx_t, idx_l, idx_f, cut_t, cut_l, sl_map, p_eq, p_ne, p_mem, p_nmem, p_idx, p_add, p_addT, p_addL, p_sub, p_mulT, p_mulL, p_fdiv, p_mod, p_pow, p_lt, p_le, p_gt, p_ge, p_maxm, p_minm, p_neg, p_isN, p_notN, p_isB, p_notB, p_lenT, p_lenL, p_lenF, p_tupL, p_tupT, p_listT, p_listL, p_abs, p_int, p_intB, p_revT, p_revL, p_isInt, p_isBool, p_isStr, p_isTuple, m_append, m_rev, shO_n, shO_s, shAt_c, isSh_d, isSh_l, isSh_s, isSh_f, raw_ow, raw_al, raws_n, raws_c, alK_n, alK_o, alK_a, back_n, back_o, back_l, back_s, back_f, owD_n, owD_c, owM_n, owM_c, bindM_n, bindM_c, bindN_n, bindN_c, bindT_n, bindT_t, wipe_n, wipe_c, fill_n, fillO_d, fillO_n, fillO_l, fill_c, lock_n, lock_s, open_n, open_s, aug_add, aug_sub, fturn_c, turn_c, fin_nx, fin_rt, ini_n, ini_c, outs_n, outs_d, outs_l, outs_s, outs_f, pins_n, pins_d, pins_l, pins_s, pins_f, inRng_0, inRng_1, inRng_2, eq_ti, eq_li, atI_0, atI_1, atI_2, atI_3, line_1, line_2, line_3, line_4, line_5, line_6, line_7, line_8, line_9, line_10, line_11, line_12, List.getElem?_cons_zero, List.getElem?_cons_succ, List.set_cons_zero, List.set_cons_succ, List.length_map, List.length_cons, List.length_nil, Option.bind_some, Option.bind_none, id, List.mem_cons, List.not_mem_nil, List.replicate_succ, List.replicate_zero, List.nil_append, List.cons_append, if_true, if_false, ite_true, ite_false, Bool.false_eq_true, Bool.or_false, Bool.false_or, Bool.or_true, Bool.true_or, Bool.and_true, Bool.true_and, Bool.and_false, Bool.false_and, Bool.not_true, Bool.not_false, decide_true, decide_false, or_false, false_or, or_true, true_or, and_true, true_and, List.nodup_cons, List.nodup_nil, not_false_eq_true, not_true_eq_false, decide_eq_true_eq, Bool.not_eq_true', decide_eq_false_iff_not, inPin, List.any_cons, List.any_nil, isTupD, isIntD, isBoolD, isStrD, isNoneD, Nat.reduceSub, Nat.reduceAdd, Nat.reduceLeDiff, Nat.reduceEqDiff, Nat.reduceMul, Nat.reducePow, Nat.sub_self, Nat.sub_zero, Int.reduceLT, Int.reduceLE, Int.reduceNeg, Int.reduceToNat, Int.reduceEq, Bool.and_self, decide_not, reduceCtorEq, Nat.zero_le, Option.toList_none, Option.toList_some, List.append_nil, true_implies, false_implies, implies_true, not_true, not_false_eq_true, Option.map_some]
end Law

end
section
set_option maxHeartbeats 4000000
namespace Law
open Cs PySem
theorem cpl_mem {w : List Int} {p : Int} (h : p ∈ cpl w) : 0 ≤ p ∧ p + 1 < w.length ∧ iat w p = - iat w (p + 1) := by
  have h2 := List.mem_filter.mp h
  have h3 := rg_mem.mp h2.1
  exact ⟨h3.1, by omega, of_decide_eq_true h2.2⟩
theorem cnl_len {w : List Int} {p : Int} (h0 : 0 ≤ p) (h : p + 1 < w.length) : (cnl w p).length + 2 = w.length := by
  unfold cnl
  rw [List.length_append, List.length_take, List.length_drop]; omega
def lcF : Nat → List Int → List Int × List Int
  | 0, w => ([], w)
  | n + 1, w => match cpl w with
    | [] => ([], w)
    | p :: _ => (p :: (lcF n (cnl w p)).1, (lcF n (cnl w p)).2)
theorem lcF_nil {n : Nat} {w : List Int} (h : cpl w = []) : lcF n w = ([], w) := by
  cases n with
  | zero => rfl
  | succ n => rw [lcF, h]
theorem lcF_cons {n : Nat} {w : List Int} {p : Int} {r : List Int} (h : cpl w = p :: r) : lcF (n + 1) w = (p :: (lcF n (cnl w p)).1, (lcF n (cnl w p)).2) := by rw [lcF, h]
theorem lcF_len : ∀ (n : Nat) (w : List Int), 2 * (lcF n w).1.length + (lcF n w).2.length = w.length
  | 0, w => by simp [lcF]
  | n + 1, w => by
    cases h : cpl w with
    | nil => rw [lcF_nil h]; simp
    | cons p r =>
      obtain ⟨h0, h1, _⟩ := cpl_mem (w := w) (p := p) (by rw [h]; exact List.mem_cons_self ..)
      have a := lcF_len n (cnl w p)
      have b := cnl_len h0 h1
      rw [lcF_cons h, List.length_cons]
      dsimp only
      omega
theorem least_cancellings_sp (wf k : Nat) (hwf : wf = 1000000) (w : List Int) (hw : w.length ≤ 10000) : callF wf FS (k + 2) 5 [.d (tI w)] = some (.d (tI (lcF w.length w).1), [.d (tI w)]) := by
  rw [call_least_cancellings, wp_eq]
  unfold f_least_cancellings b_least_cancellings
  simp -implicitDefEqProofs only [run_1, wp_some, wp_none, wp_bind, wp_map, wp_ite, bR_b, iR_i, dR_d, mR_m, look_d, look_l, look_s, look_f, unal_l, unal_s, unal_f, val_ow, val_al, c_var, c_cst, c_bin, c_un, c_and, c_or, c_not, c_ite, c_tup, c_lst, c_slice, c_lrng, c_trng, rngV_n, c_call, lstAt_l, c_mt0, c_mt1, cL_nil, cL_cons, cP_nil, cP_sm, cI_r1, cI_r2, cI_sq, walkAt_l, walkAt_s, walkAt_f, iter_t, iter_l, iter_a, nxt_nx, nxt_rt, nxt_bk, nxt_ct, q_skip, q_seq, q_set, q_par, tR_t, q_unp, q_setI, q_ex2, retV_ow, retV_al, q_ret2, q_retN, q_if, q_brk, q_cnt, augV_i, augV_l, augV_t, q_aug2, e_dB, e_dI, eq_ii, eq_bb, mem_ti, mem_li, atI_map, idx_t, idx_l, idx_f, cut_t, cut_l, sl_map, p_eq, p_ne, p_mem, p_nmem, p_idx, p_add, p_addT, p_addL, p_sub, p_mulT, p_mulL, p_fdiv, p_mod, p_pow, p_lt, p_le, p_gt, p_ge, p_maxm, p_minm, p_neg, p_isN, p_notN, p_isB, p_notB, p_lenT, p_lenL, p_lenF, p_tupL, p_tupT, p_listT, p_listL, p_abs, p_int, p_intB, p_revT, p_revL, p_isInt, p_isBool, p_isStr, p_isTuple, m_append, m_rev, shO_n, shO_s, shAt_c, isSh_d, isSh_l, isSh_s, isSh_f, raw_ow, raw_al, raws_n, raws_c, alK_n, alK_o, alK_a, back_n, back_o, back_l, back_s, back_f, owD_n, owD_c, owM_n, owM_c, bindM_n, bindM_c, bindN_n, bindN_c, bindT_n, bindT_t, wipe_n, wipe_c, fill_n, fillO_d, fillO_n, fillO_l, fill_c, lock_n, lock_s, open_n, open_s, aug_add, aug_sub, fturn_c, turn_c, fin_nx, fin_rt, ini_n, ini_c, outs_n, outs_d, outs_l, outs_s, outs_f, pins_n, pins_d, pins_l, pins_s, pins_f, inRng_0, inRng_1, inRng_2, eq_ti, eq_li, atI_0, atI_1, atI_2, atI_3, line_1, line_2, line_3, line_4, line_5, line_6, line_7, line_8, line_9, line_10, line_11, line_12, List.getElem?_cons_zero, List.getElem?_cons_succ, List.set_cons_zero, List.set_cons_succ, List.length_map, List.length_cons, List.length_nil, Option.bind_some, Option.bind_none, id, List.mem_cons, List.not_mem_nil, List.replicate_succ, List.replicate_zero, List.nil_append, List.cons_append, if_true, if_false, ite_true, ite_false, Bool.false_eq_true, Bool.or_false, Bool.false_or, Bool.or_true, Bool.true_or, Bool.and_true, Bool.true_and, Bool.and_false, Bool.false_and, Bool.not_true, Bool.not_false, decide_true, decide_false, or_false, false_or, or_true, true_or, and_true, true_and, List.nodup_cons, List.nodup_nil, not_false_eq_true, not_true_eq_false, decide_eq_true_eq, Bool.not_eq_true', decide_eq_false_iff_not, inPin, List.any_cons, List.any_nil, isTupD, isIntD, isBoolD, isStrD, isNoneD, Nat.reduceSub, Nat.reduceAdd, Nat.reduceLeDiff, Nat.reduceEqDiff, Nat.reduceMul, Nat.reducePow, Nat.sub_self, Nat.sub_zero, Int.reduceLT, Int.reduceLE, Int.reduceNeg, Int.reduceToNat, Int.reduceEq, Bool.and_self, decide_not, reduceCtorEq, Nat.zero_le, Option.toList_none, Option.toList_some, List.append_nil, true_implies, false_implies, implies_true, not_true, not_false_eq_true, Option.map_some, q_while, cancelling_places_sp wf k w hw]
  refine wp_imp (whl_inv (fun n e => ∃ w' row : List Int, e = [some (.d (tI w')), some (.lst (row.map .int)), some (.d (tI (cpl w')))] ∧ w'.length ≤ n ∧ n ≤ w.length ∧ row ++ (lcF n w').1 = (lcF w.length w).1) (Q := fun r => r.1 = .nx ∧ ∃ w', r.2 = [some (.d (tI w')), some (.lst ((lcF w.length w).1.map .int)), some (.d (tI (cpl w')))]) ?_ wf w.length _ (by omega) ⟨w, [], rfl, Nat.le_refl _, Nat.le_refl _, rfl⟩) ?_
  · rintro n e ⟨w', row, rfl, h1, h2, h3⟩
    simp -implicitDefEqProofs only [run_1, wp_some, wp_none, wp_bind, wp_map, wp_ite, bR_b, iR_i, dR_d, mR_m, look_d, look_l, look_s, look_f, unal_l, unal_s, unal_f, val_ow, val_al, c_var, c_cst, c_bin, c_un, c_and, c_or, c_not, c_ite, c_tup, c_lst, c_slice, c_lrng, c_trng, rngV_n, c_call, lstAt_l, c_mt0, c_mt1, cL_nil, cL_cons, cP_nil, cP_sm, cI_r1, cI_r2, cI_sq, walkAt_l, walkAt_s, walkAt_f, iter_t, iter_l, iter_a, nxt_nx, nxt_rt, nxt_bk, nxt_ct, q_skip, q_seq, q_set, q_par, tR_t, q_unp, q_setI, q_ex2, retV_ow, retV_al, q_ret2, q_retN, q_if, q_brk, q_cnt, augV_i, augV_l, augV_t, q_aug2, e_dB, e_dI, eq_ii, eq_bb, mem_ti, mem_li, atI_map, idx_t, idx_l, idx_f, cut_t, cut_l, sl_map, p_eq, p_ne, p_mem, p_nmem, p_idx, p_add, p_addT, p_addL, p_sub, p_mulT, p_mulL, p_fdiv, p_mod, p_pow, p_lt, p_le, p_gt, p_ge, p_maxm, p_minm, p_neg, p_isN, p_notN, p_isB, p_notB, p_lenT, p_lenL, p_lenF, p_tupL, p_tupT, p_listT, p_listL, p_abs, p_int, p_intB, p_revT, p_revL, p_isInt, p_isBool, p_isStr, p_isTuple, m_append, m_rev, shO_n, shO_s, shAt_c, isSh_d, isSh_l, isSh_s, isSh_f, raw_ow, raw_al, raws_n, raws_c, alK_n, alK_o, alK_a, back_n, back_o, back_l, back_s, back_f, owD_n, owD_c, owM_n, owM_c, bindM_n, bindM_c, bindN_n, bindN_c, bindT_n, bindT_t, wipe_n, wipe_c, fill_n, fillO_d, fillO_n, fillO_l, fill_c, lock_n, lock_s, open_n, open_s, aug_add, aug_sub, fturn_c, turn_c, fin_nx, fin_rt, ini_n, ini_c, outs_n, outs_d, outs_l, outs_s, outs_f, pins_n, pins_d, pins_l, pins_s, pins_f, inRng_0, inRng_1, inRng_2, eq_ti, eq_li, atI_0, atI_1, atI_2, atI_3, line_1, line_2, line_3, line_4, line_5, line_6, line_7, line_8, line_9, line_10, line_11, line_12, List.getElem?_cons_zero, List.getElem?_cons_succ, List.set_cons_zero, List.set_cons_succ, List.length_map, List.length_cons, List.length_nil, Option.bind_some, Option.bind_none, id, List.mem_cons, List.not_mem_nil, List.replicate_succ, List.replicate_zero, List.nil_append, List.cons_append, if_true, if_false, ite_true, ite_false, Bool.false_eq_true, Bool.or_false, Bool.false_or, Bool.or_true, Bool.true_or, Bool.and_true, Bool.true_and, Bool.and_false, Bool.false_and, Bool.not_true, Bool.not_false, decide_true, decide_false, or_false, false_or, or_true, true_or, and_true, true_and, List.nodup_cons, List.nodup_nil, not_false_eq_true, not_true_eq_false, decide_eq_true_eq, Bool.not_eq_true', decide_eq_false_iff_not, inPin, List.any_cons, List.any_nil, isTupD, isIntD, isBoolD, isStrD, isNoneD, Nat.reduceSub, Nat.reduceAdd, Nat.reduceLeDiff, Nat.reduceEqDiff, Nat.reduceMul, Nat.reducePow, Nat.sub_self, Nat.sub_zero, Int.reduceLT, Int.reduceLE, Int.reduceNeg, Int.reduceToNat, Int.reduceEq, Bool.and_self, decide_not, reduceCtorEq, Nat.zero_le, Option.toList_none, Option.toList_some, List.append_nil, true_implies, false_implies, implies_true, not_true, not_false_eq_true, Option.map_some]
    cases hc : cpl w' with
    | nil =>
      rw [lcF_nil hc] at h3
      simp -implicitDefEqProofs only [run_1, wp_some, wp_none, wp_bind, wp_map, wp_ite, bR_b, iR_i, dR_d, mR_m, look_d, look_l, look_s, look_f, unal_l, unal_s, unal_f, val_ow, val_al, c_var, c_cst, c_bin, c_un, c_and, c_or, c_not, c_ite, c_tup, c_lst, c_slice, c_lrng, c_trng, rngV_n, c_call, lstAt_l, c_mt0, c_mt1, cL_nil, cL_cons, cP_nil, cP_sm, cI_r1, cI_r2, cI_sq, walkAt_l, walkAt_s, walkAt_f, iter_t, iter_l, iter_a, nxt_nx, nxt_rt, nxt_bk, nxt_ct, q_skip, q_seq, q_set, q_par, tR_t, q_unp, q_setI, q_ex2, retV_ow, retV_al, q_ret2, q_retN, q_if, q_brk, q_cnt, augV_i, augV_l, augV_t, q_aug2, e_dB, e_dI, eq_ii, eq_bb, mem_ti, mem_li, atI_map, idx_t, idx_l, idx_f, cut_t, cut_l, sl_map, p_eq, p_ne, p_mem, p_nmem, p_idx, p_add, p_addT, p_addL, p_sub, p_mulT, p_mulL, p_fdiv, p_mod, p_pow, p_lt, p_le, p_gt, p_ge, p_maxm, p_minm, p_neg, p_isN, p_notN, p_isB, p_notB, p_lenT, p_lenL, p_lenF, p_tupL, p_tupT, p_listT, p_listL, p_abs, p_int, p_intB, p_revT, p_revL, p_isInt, p_isBool, p_isStr, p_isTuple, m_append, m_rev, shO_n, shO_s, shAt_c, isSh_d, isSh_l, isSh_s, isSh_f, raw_ow, raw_al, raws_n, raws_c, alK_n, alK_o, alK_a, back_n, back_o, back_l, back_s, back_f, owD_n, owD_c, owM_n, owM_c, bindM_n, bindM_c, bindN_n, bindN_c, bindT_n, bindT_t, wipe_n, wipe_c, fill_n, fillO_d, fillO_n, fillO_l, fill_c, lock_n, lock_s, open_n, open_s, aug_add, aug_sub, fturn_c, turn_c, fin_nx, fin_rt, ini_n, ini_c, outs_n, outs_d, outs_l, outs_s, outs_f, pins_n, pins_d, pins_l, pins_s, pins_f, inRng_0, inRng_1, inRng_2, eq_ti, eq_li, atI_0, atI_1, atI_2, atI_3, line_1, line_2, line_3, line_4, line_5, line_6, line_7, line_8, line_9, line_10, line_11, line_12, List.getElem?_cons_zero, List.getElem?_cons_succ, List.set_cons_zero, List.set_cons_succ, List.length_map, List.length_cons, List.length_nil, Option.bind_some, Option.bind_none, id, List.mem_cons, List.not_mem_nil, List.replicate_succ, List.replicate_zero, List.nil_append, List.cons_append, if_true, if_false, ite_true, ite_false, Bool.false_eq_true, Bool.or_false, Bool.false_or, Bool.or_true, Bool.true_or, Bool.and_true, Bool.true_and, Bool.and_false, Bool.false_and, Bool.not_true, Bool.not_false, decide_true, decide_false, or_false, false_or, or_true, true_or, and_true, true_and, List.nodup_cons, List.nodup_nil, not_false_eq_true, not_true_eq_false, decide_eq_true_eq, Bool.not_eq_true', decide_eq_false_iff_not, inPin, List.any_cons, List.any_nil, isTupD, isIntD, isBoolD, isStrD, isNoneD, Nat.reduceSub, Nat.reduceAdd, Nat.reduceLeDiff, Nat.reduceEqDiff, Nat.reduceMul, Nat.reducePow, Nat.sub_self, Nat.sub_zero, Int.reduceLT, Int.reduceLE, Int.reduceNeg, Int.reduceToNat, Int.reduceEq, Bool.and_self, decide_not, reduceCtorEq, Nat.zero_le, Option.toList_none, Option.toList_some, List.append_nil, true_implies, false_implies, implies_true, not_true, not_false_eq_true, Option.map_some, hc]
      refine ⟨fun z => absurd z (by omega), fun _ => ⟨w', ?_⟩⟩
      rw [← h3, hc]; simp
    | cons p r =>
      obtain ⟨p0, p1, _⟩ := cpl_mem (w := w') (p := p) (by rw [hc]; exact List.mem_cons_self ..)
      obtain ⟨m, rfl⟩ : ∃ m, n = m + 1 := ⟨n - 1, by omega⟩
      have hl := cnl_len p0 p1
      rw [lcF_cons hc] at h3
      have hr : row.length < sizeLine := lt_line (by
        have := congrArg List.length h3
        have hz := lcF_len w.length w
        rw [List.length_append] at this
        omega)
      simp -implicitDefEqProofs only [run_1, wp_some, wp_none, wp_bind, wp_map, wp_ite, bR_b, iR_i, dR_d, mR_m, look_d, look_l, look_s, look_f, unal_l, unal_s, unal_f, val_ow, val_al, c_var, c_cst, c_bin, c_un, c_and, c_or, c_not, c_ite, c_tup, c_lst, c_slice, c_lrng, c_trng, rngV_n, c_call, lstAt_l, c_mt0, c_mt1, cL_nil, cL_cons, cP_nil, cP_sm, cI_r1, cI_r2, cI_sq, walkAt_l, walkAt_s, walkAt_f, iter_t, iter_l, iter_a, nxt_nx, nxt_rt, nxt_bk, nxt_ct, q_skip, q_seq, q_set, q_par, tR_t, q_unp, q_setI, q_ex2, retV_ow, retV_al, q_ret2, q_retN, q_if, q_brk, q_cnt, augV_i, augV_l, augV_t, q_aug2, e_dB, e_dI, eq_ii, eq_bb, mem_ti, mem_li, atI_map, idx_t, idx_l, idx_f, cut_t, cut_l, sl_map, p_eq, p_ne, p_mem, p_nmem, p_idx, p_add, p_addT, p_addL, p_sub, p_mulT, p_mulL, p_fdiv, p_mod, p_pow, p_lt, p_le, p_gt, p_ge, p_maxm, p_minm, p_neg, p_isN, p_notN, p_isB, p_notB, p_lenT, p_lenL, p_lenF, p_tupL, p_tupT, p_listT, p_listL, p_abs, p_int, p_intB, p_revT, p_revL, p_isInt, p_isBool, p_isStr, p_isTuple, m_append, m_rev, shO_n, shO_s, shAt_c, isSh_d, isSh_l, isSh_s, isSh_f, raw_ow, raw_al, raws_n, raws_c, alK_n, alK_o, alK_a, back_n, back_o, back_l, back_s, back_f, owD_n, owD_c, owM_n, owM_c, bindM_n, bindM_c, bindN_n, bindN_c, bindT_n, bindT_t, wipe_n, wipe_c, fill_n, fillO_d, fillO_n, fillO_l, fill_c, lock_n, lock_s, open_n, open_s, aug_add, aug_sub, fturn_c, turn_c, fin_nx, fin_rt, ini_n, ini_c, outs_n, outs_d, outs_l, outs_s, outs_f, pins_n, pins_d, pins_l, pins_s, pins_f, inRng_0, inRng_1, inRng_2, eq_ti, eq_li, atI_0, atI_1, atI_2, atI_3, line_1, line_2, line_3, line_4, line_5, line_6, line_7, line_8, line_9, line_10, line_11, line_12, List.getElem?_cons_zero, List.getElem?_cons_succ, List.set_cons_zero, List.set_cons_succ, List.length_map, List.length_cons, List.length_nil, Option.bind_some, Option.bind_none, id, List.mem_cons, List.not_mem_nil, List.replicate_succ, List.replicate_zero, List.nil_append, List.cons_append, if_true, if_false, ite_true, ite_false, Bool.false_eq_true, Bool.or_false, Bool.false_or, Bool.or_true, Bool.true_or, Bool.and_true, Bool.true_and, Bool.and_false, Bool.false_and, Bool.not_true, Bool.not_false, decide_true, decide_false, or_false, false_or, or_true, true_or, and_true, true_and, List.nodup_cons, List.nodup_nil, not_false_eq_true, not_true_eq_false, decide_eq_true_eq, Bool.not_eq_true', decide_eq_false_iff_not, inPin, List.any_cons, List.any_nil, isTupD, isIntD, isBoolD, isStrD, isNoneD, Nat.reduceSub, Nat.reduceAdd, Nat.reduceLeDiff, Nat.reduceEqDiff, Nat.reduceMul, Nat.reducePow, Nat.sub_self, Nat.sub_zero, Int.reduceLT, Int.reduceLE, Int.reduceNeg, Int.reduceToNat, Int.reduceEq, Bool.and_self, decide_not, reduceCtorEq, Nat.zero_le, Option.toList_none, Option.toList_some, List.append_nil, true_implies, false_implies, implies_true, not_true, not_false_eq_true, Option.map_some, hc, List.map_cons, atI_0, hr, cancelled_at_sp wf k w' p p0 (by omega), cancelling_places_sp wf k (cnl w' p) (by omega)]
      refine ⟨fun _ => ⟨m, by omega, cnl w' p, row ++ [p], ?_, by omega, by omega, by rw [← h3]; simp⟩, fun z => absurd z (by omega)⟩
      simp
  · rintro ⟨fl, e⟩ ⟨rfl, w', rfl⟩
    simp -implicitDefEqProofs only [run_1, wp_some, wp_none, wp_bind, wp_map, wp_ite, bR_b, iR_i, dR_d, mR_m, look_d, look_l, look_s, look_f, unal_l, unal_s, unal_f, val_ow, val_al, c_var, c_cst, c_bin, c_un, c_and, c_or, c_not, c_ite, c_tup, c_lst, c_slice, c_lrng, c_trng, rngV_n, c_call, lstAt_l, c_mt0, c_mt1, cL_nil, cL_cons, cP_nil, cP_sm, cI_r1, cI_r2, cI_sq, walkAt_l, walkAt_s, walkAt_f, iter_t, iter_l, iter_a, nxt_nx, nxt_rt, nxt_bk, nxt_ct, q_skip, q_seq, q_set, q_par, tR_t, q_unp, q_setI, q_ex2, retV_ow, retV_al, q_ret2, q_retN, q_if, q_brk, q_cnt, augV_i, augV_l, augV_t, q_aug2, e_dB, e_dI, eq_ii, eq_bb, mem_ti, mem_li, atI_map, idx_t, idx_l, idx_f, cut_t, cut_l, sl_map, p_eq, p_ne, p_mem, p_nmem, p_idx, p_add, p_addT, p_addL, p_sub, p_mulT, p_mulL, p_fdiv, p_mod, p_pow, p_lt, p_le, p_gt, p_ge, p_maxm, p_minm, p_neg, p_isN, p_notN, p_isB, p_notB, p_lenT, p_lenL, p_lenF, p_tupL, p_tupT, p_listT, p_listL, p_abs, p_int, p_intB, p_revT, p_revL, p_isInt, p_isBool, p_isStr, p_isTuple, m_append, m_rev, shO_n, shO_s, shAt_c, isSh_d, isSh_l, isSh_s, isSh_f, raw_ow, raw_al, raws_n, raws_c, alK_n, alK_o, alK_a, back_n, back_o, back_l, back_s, back_f, owD_n, owD_c, owM_n, owM_c, bindM_n, bindM_c, bindN_n, bindN_c, bindT_n, bindT_t, wipe_n, wipe_c, fill_n, fillO_d, fillO_n, fillO_l, fill_c, lock_n, lock_s, open_n, open_s, aug_add, aug_sub, fturn_c, turn_c, fin_nx, fin_rt, ini_n, ini_c, outs_n, outs_d, outs_l, outs_s, outs_f, pins_n, pins_d, pins_l, pins_s, pins_f, inRng_0, inRng_1, inRng_2, eq_ti, eq_li, atI_0, atI_1, atI_2, atI_3, line_1, line_2, line_3, line_4, line_5, line_6, line_7, line_8, line_9, line_10, line_11, line_12, List.getElem?_cons_zero, List.getElem?_cons_succ, List.set_cons_zero, List.set_cons_succ, List.length_map, List.length_cons, List.length_nil, Option.bind_some, Option.bind_none, id, List.mem_cons, List.not_mem_nil, List.replicate_succ, List.replicate_zero, List.nil_append, List.cons_append, if_true, if_false, ite_true, ite_false, Bool.false_eq_true, Bool.or_false, Bool.false_or, Bool.or_true, Bool.true_or, Bool.and_true, Bool.true_and, Bool.and_false, Bool.false_and, Bool.not_true, Bool.not_false, decide_true, decide_false, or_false, false_or, or_true, true_or, and_true, true_and, List.nodup_cons, List.nodup_nil, not_false_eq_true, not_true_eq_false, decide_eq_true_eq, Bool.not_eq_true', decide_eq_false_iff_not, inPin, List.any_cons, List.any_nil, isTupD, isIntD, isBoolD, isStrD, isNoneD, Nat.reduceSub, Nat.reduceAdd, Nat.reduceLeDiff, Nat.reduceEqDiff, Nat.reduceMul, Nat.reducePow, Nat.sub_self, Nat.sub_zero, Int.reduceLT, Int.reduceLE, Int.reduceNeg, Int.reduceToNat, Int.reduceEq, Bool.and_self, decide_not, reduceCtorEq, Nat.zero_le, Option.toList_none, Option.toList_some, List.append_nil, true_implies, false_implies, implies_true, not_true, not_false_eq_true, Option.map_some]
theorem are_words_same_sp (wf k : Nat) (a b : List Int) (ha : a.length ≤ 10000) (hb : b.length ≤ 10000) : callF wf FS (k + 2) 6 [.d (tI a), .d (tI b)] = some (.d (.bool (decide (red a = red b))), [.d (tI a), .d (tI b)]) := by
  rw [call_are_words_same]
  unfold f_are_words_same b_are_words_same
  simp -implicitDefEqProofs only [run_1, wp_some, wp_none, wp_bind, wp_map, wp_ite, bR_b, iR_i, dR_d, mR_m, look_d, look_l, look_s, look_f, unal_l, unal_s, unal_f, val_ow, val_al, c_var, c_cst, c_bin, c_un, c_and, c_or, c_not, c_ite, c_tup, c_lst, c_slice, c_lrng, c_trng, rngV_n, c_call, lstAt_l, c_mt0, c_mt1, cL_nil, cL_cons, cP_nil, cP_sm, cI_r1, cI_r2, cI_sq, walkAt_l, walkAt_s, walkAt_f, iter_t, iter_l, iter_a, nxt_nx, nxt_rt, nxt_bk, nxt_ct, q_skip, q_seq, q_set, q_par, tR_t, q_unp, q_setI, q_ex2, retV_ow, retV_al, q_ret2, q_retN, q_if, q_brk, q_cnt, augV_i, augV_l, augV_t, q_aug2, e_dB, e_dI, eq_ii, eq_bb, mem_ti, mem_li, atI_map, idx_t, idx_l, idx_f, cut_t, cut_l, sl_map, p_eq, p_ne, p_mem, p_nmem, p_idx, p_add, p_addT, p_addL, p_sub, p_mulT, p_mulL, p_fdiv, p_mod, p_pow, p_lt, p_le, p_gt, p_ge, p_maxm, p_minm, p_neg, p_isN, p_notN, p_isB, p_notB, p_lenT, p_lenL, p_lenF, p_tupL, p_tupT, p_listT, p_listL, p_abs, p_int, p_intB, p_revT, p_revL, p_isInt, p_isBool, p_isStr, p_isTuple, m_append, m_rev, shO_n, shO_s, shAt_c, isSh_d, isSh_l, isSh_s, isSh_f, raw_ow, raw_al, raws_n, raws_c, alK_n, alK_o, alK_a, back_n, back_o, back_l, back_s, back_f, owD_n, owD_c, owM_n, owM_c, bindM_n, bindM_c, bindN_n, bindN_c, bindT_n, bindT_t, wipe_n, wipe_c, fill_n, fillO_d, fillO_n, fillO_l, fill_c, lock_n, lock_s, open_n, open_s, aug_add, aug_sub, fturn_c, turn_c, fin_nx, fin_rt, ini_n, ini_c, outs_n, outs_d, outs_l, outs_s, outs_f, pins_n, pins_d, pins_l, pins_s, pins_f, inRng_0, inRng_1, inRng_2, eq_ti, eq_li, atI_0, atI_1, atI_2, atI_3, line_1, line_2, line_3, line_4, line_5, line_6, line_7, line_8, line_9, line_10, line_11, line_12, List.getElem?_cons_zero, List.getElem?_cons_succ, List.set_cons_zero, List.set_cons_succ, List.length_map, List.length_cons, List.length_nil, Option.bind_some, Option.bind_none, id, List.mem_cons, List.not_mem_nil, List.replicate_succ, List.replicate_zero, List.nil_append, List.cons_append, if_true, if_false, ite_true, ite_false, Bool.false_eq_true, Bool.or_false, Bool.false_or, Bool.or_true, Bool.true_or, Bool.and_true, Bool.true_and, Bool.and_false, Bool.false_and, Bool.not_true, Bool.not_false, decide_true, decide_false, or_false, false_or, or_true, true_or, and_true, true_and, List.nodup_cons, List.nodup_nil, not_false_eq_true, not_true_eq_false, decide_eq_true_eq, Bool.not_eq_true', decide_eq_false_iff_not, inPin, List.any_cons, List.any_nil, isTupD, isIntD, isBoolD, isStrD, isNoneD, Nat.reduceSub, Nat.reduceAdd, Nat.reduceLeDiff, Nat.reduceEqDiff, Nat.reduceMul, Nat.reducePow, Nat.sub_self, Nat.sub_zero, Int.reduceLT, Int.reduceLE, Int.reduceNeg, Int.reduceToNat, Int.reduceEq, Bool.and_self, decide_not, reduceCtorEq, Nat.zero_le, Option.toList_none, Option.toList_some, List.append_nil, true_implies, false_implies, implies_true, not_true, not_false_eq_true, Option.map_some, reduced_word_sp wf k a ha, reduced_word_sp wf k b hb, eq_ti]
def wbr : List Int → List Int → Option (List Int)
  | w, [] => some w
  | w, p :: r => if p ∈ cpl w then wbr (cnl w p) r else none
theorem wbr_lc : ∀ (n : Nat) (w : List Int), wbr w (lcF n w).1 = some (lcF n w).2
  | 0, w => rfl
  | n + 1, w => by
    cases h : cpl w with
    | nil => rw [lcF_nil h]; rfl
    | cons p r => rw [lcF_cons h]; dsimp only; rw [wbr, if_pos (by rw [h]; exact List.mem_cons_self ..), wbr_lc n]
theorem word_behind_row_sp (wf k : Nat) (w r w' : List Int) (hw : w.length ≤ 10000) (h : wbr w r = some w') : callF wf FS (k + 2) 7 [.d (tI w), .d (tI r)] = some (.d (tI w'), [.d (tI w), .d (tI r)]) := by
  rw [call_word_behind_row, wp_eq]
  unfold f_word_behind_row b_word_behind_row
  simp -implicitDefEqProofs only [run_1, wp_some, wp_none, wp_bind, wp_map, wp_ite, bR_b, iR_i, dR_d, mR_m, look_d, look_l, look_s, look_f, unal_l, unal_s, unal_f, val_ow, val_al, c_var, c_cst, c_bin, c_un, c_and, c_or, c_not, c_ite, c_tup, c_lst, c_slice, c_lrng, c_trng, rngV_n, c_call, lstAt_l, c_mt0, c_mt1, cL_nil, cL_cons, cP_nil, cP_sm, cI_r1, cI_r2, cI_sq, walkAt_l, walkAt_s, walkAt_f, iter_t, iter_l, iter_a, nxt_nx, nxt_rt, nxt_bk, nxt_ct, q_skip, q_seq, q_set, q_par, tR_t, q_unp, q_setI, q_ex2, retV_ow, retV_al, q_ret2, q_retN, q_if, q_brk, q_cnt, augV_i, augV_l, augV_t, q_aug2, e_dB, e_dI, eq_ii, eq_bb, mem_ti, mem_li, atI_map, idx_t, idx_l, idx_f, cut_t, cut_l, sl_map, p_eq, p_ne, p_mem, p_nmem, p_idx, p_add, p_addT, p_addL, p_sub, p_mulT, p_mulL, p_fdiv, p_mod, p_pow, p_lt, p_le, p_gt, p_ge, p_maxm, p_minm, p_neg, p_isN, p_notN, p_isB, p_notB, p_lenT, p_lenL, p_lenF, p_tupL, p_tupT, p_listT, p_listL, p_abs, p_int, p_intB, p_revT, p_revL, p_isInt, p_isBool, p_isStr, p_isTuple, m_append, m_rev, shO_n, shO_s, shAt_c, isSh_d, isSh_l, isSh_s, isSh_f, raw_ow, raw_al, raws_n, raws_c, alK_n, alK_o, alK_a, back_n, back_o, back_l, back_s, back_f, owD_n, owD_c, owM_n, owM_c, bindM_n, bindM_c, bindN_n, bindN_c, bindT_n, bindT_t, wipe_n, wipe_c, fill_n, fillO_d, fillO_n, fillO_l, fill_c, lock_n, lock_s, open_n, open_s, aug_add, aug_sub, fturn_c, turn_c, fin_nx, fin_rt, ini_n, ini_c, outs_n, outs_d, outs_l, outs_s, outs_f, pins_n, pins_d, pins_l, pins_s, pins_f, inRng_0, inRng_1, inRng_2, eq_ti, eq_li, atI_0, atI_1, atI_2, atI_3, line_1, line_2, line_3, line_4, line_5, line_6, line_7, line_8, line_9, line_10, line_11, line_12, List.getElem?_cons_zero, List.getElem?_cons_succ, List.set_cons_zero, List.set_cons_succ, List.length_map, List.length_cons, List.length_nil, Option.bind_some, Option.bind_none, id, List.mem_cons, List.not_mem_nil, List.replicate_succ, List.replicate_zero, List.nil_append, List.cons_append, if_true, if_false, ite_true, ite_false, Bool.false_eq_true, Bool.or_false, Bool.false_or, Bool.or_true, Bool.true_or, Bool.and_true, Bool.true_and, Bool.and_false, Bool.false_and, Bool.not_true, Bool.not_false, decide_true, decide_false, or_false, false_or, or_true, true_or, and_true, true_and, List.nodup_cons, List.nodup_nil, not_false_eq_true, not_true_eq_false, decide_eq_true_eq, Bool.not_eq_true', decide_eq_false_iff_not, inPin, List.any_cons, List.any_nil, isTupD, isIntD, isBoolD, isStrD, isNoneD, Nat.reduceSub, Nat.reduceAdd, Nat.reduceLeDiff, Nat.reduceEqDiff, Nat.reduceMul, Nat.reducePow, Nat.sub_self, Nat.sub_zero, Int.reduceLT, Int.reduceLE, Int.reduceNeg, Int.reduceToNat, Int.reduceEq, Bool.and_self, decide_not, reduceCtorEq, Nat.zero_le, Option.toList_none, Option.toList_some, List.append_nil, true_implies, false_implies, implies_true, not_true, not_false_eq_true, Option.map_some, q_for]
  refine wp_imp (forL_inv (f := fturn _ _ _ _ _) (d := PyData.int) (fun ys e => ∃ (w1 : List Int) (z : Option M), e = [some (.d (tI w1)), some (.d (tI r)), z] ∧ (z = none ∨ ∃ y, z = some (.d y)) ∧ wbr w1 ys = some w' ∧ w1.length ≤ w.length) (Q := fun q => q.1 = .nx ∧ ∃ z, q.2 = [some (.d (tI w')), some (.d (tI r)), z]) ?_ r _ ⟨w, none, rfl, .inl rfl, h, by omega⟩ ?_) ?_
  · rintro e ⟨s, z, rfl, hz, h1, h2⟩
    cases h1
    exact ⟨rfl, z, rfl⟩
  · rintro x ys e ⟨w1, z, rfl, hz, h1, h2⟩
    have hz' : shO (some z) = false := by rcases hz with rfl | ⟨y, rfl⟩ <;> rfl
    rw [wbr] at h1
    split at h1
    · rename_i hx
      obtain ⟨p0, p1, _⟩ := cpl_mem hx
      have hl := cnl_len p0 p1
      simp -implicitDefEqProofs only [run_1, wp_some, wp_none, wp_bind, wp_map, wp_ite, bR_b, iR_i, dR_d, mR_m, look_d, look_l, look_s, look_f, unal_l, unal_s, unal_f, val_ow, val_al, c_var, c_cst, c_bin, c_un, c_and, c_or, c_not, c_ite, c_tup, c_lst, c_slice, c_lrng, c_trng, rngV_n, c_call, lstAt_l, c_mt0, c_mt1, cL_nil, cL_cons, cP_nil, cP_sm, cI_r1, cI_r2, cI_sq, walkAt_l, walkAt_s, walkAt_f, iter_t, iter_l, iter_a, nxt_nx, nxt_rt, nxt_bk, nxt_ct, q_skip, q_seq, q_set, q_par, tR_t, q_unp, q_setI, q_ex2, retV_ow, retV_al, q_ret2, q_retN, q_if, q_brk, q_cnt, augV_i, augV_l, augV_t, q_aug2, e_dB, e_dI, eq_ii, eq_bb, mem_ti, mem_li, atI_map, idx_t, idx_l, idx_f, cut_t, cut_l, sl_map, p_eq, p_ne, p_mem, p_nmem, p_idx, p_add, p_addT, p_addL, p_sub, p_mulT, p_mulL, p_fdiv, p_mod, p_pow, p_lt, p_le, p_gt, p_ge, p_maxm, p_minm, p_neg, p_isN, p_notN, p_isB, p_notB, p_lenT, p_lenL, p_lenF, p_tupL, p_tupT, p_listT, p_listL, p_abs, p_int, p_intB, p_revT, p_revL, p_isInt, p_isBool, p_isStr, p_isTuple, m_append, m_rev, shO_n, shO_s, shAt_c, isSh_d, isSh_l, isSh_s, isSh_f, raw_ow, raw_al, raws_n, raws_c, alK_n, alK_o, alK_a, back_n, back_o, back_l, back_s, back_f, owD_n, owD_c, owM_n, owM_c, bindM_n, bindM_c, bindN_n, bindN_c, bindT_n, bindT_t, wipe_n, wipe_c, fill_n, fillO_d, fillO_n, fillO_l, fill_c, lock_n, lock_s, open_n, open_s, aug_add, aug_sub, fturn_c, turn_c, fin_nx, fin_rt, ini_n, ini_c, outs_n, outs_d, outs_l, outs_s, outs_f, pins_n, pins_d, pins_l, pins_s, pins_f, inRng_0, inRng_1, inRng_2, eq_ti, eq_li, atI_0, atI_1, atI_2, atI_3, line_1, line_2, line_3, line_4, line_5, line_6, line_7, line_8, line_9, line_10, line_11, line_12, List.getElem?_cons_zero, List.getElem?_cons_succ, List.set_cons_zero, List.set_cons_succ, List.length_map, List.length_cons, List.length_nil, Option.bind_some, Option.bind_none, id, List.mem_cons, List.not_mem_nil, List.replicate_succ, List.replicate_zero, List.nil_append, List.cons_append, if_true, if_false, ite_true, ite_false, Bool.false_eq_true, Bool.or_false, Bool.false_or, Bool.or_true, Bool.true_or, Bool.and_true, Bool.true_and, Bool.and_false, Bool.false_and, Bool.not_true, Bool.not_false, decide_true, decide_false, or_false, false_or, or_true, true_or, and_true, true_and, List.nodup_cons, List.nodup_nil, not_false_eq_true, not_true_eq_false, decide_eq_true_eq, Bool.not_eq_true', decide_eq_false_iff_not, inPin, List.any_cons, List.any_nil, isTupD, isIntD, isBoolD, isStrD, isNoneD, Nat.reduceSub, Nat.reduceAdd, Nat.reduceLeDiff, Nat.reduceEqDiff, Nat.reduceMul, Nat.reducePow, Nat.sub_self, Nat.sub_zero, Int.reduceLT, Int.reduceLE, Int.reduceNeg, Int.reduceToNat, Int.reduceEq, Bool.and_self, decide_not, reduceCtorEq, Nat.zero_le, Option.toList_none, Option.toList_some, List.append_nil, true_implies, false_implies, implies_true, not_true, not_false_eq_true, Option.map_some, hz', cancelling_places_sp wf k w1 (by omega), hx, cancelled_at_sp wf k w1 x p0 (by omega)]
      exact ⟨_, _, rfl, .inr ⟨_, rfl⟩, h1, by omega⟩
    · cases h1
  · rintro ⟨fl, e⟩ ⟨rfl, z, rfl⟩
    simp -implicitDefEqProofs only [run_1, wp_some, wp_none, wp_bind, wp_map, wp_ite, bR_b, iR_i, dR_d, mR_m, look_d, look_l, look_s, look_f, unal_l, unal_s, unal_f, val_ow, val_al, c_var, c_cst, c_bin, c_un, c_and, c_or, c_not, c_ite, c_tup, c_lst, c_slice, c_lrng, c_trng, rngV_n, c_call, lstAt_l, c_mt0, c_mt1, cL_nil, cL_cons, cP_nil, cP_sm, cI_r1, cI_r2, cI_sq, walkAt_l, walkAt_s, walkAt_f, iter_t, iter_l, iter_a, nxt_nx, nxt_rt, nxt_bk, nxt_ct, q_skip, q_seq, q_set, q_par, tR_t, q_unp, q_setI, q_ex2, retV_ow, retV_al, q_ret2, q_retN, q_if, q_brk, q_cnt, augV_i, augV_l, augV_t, q_aug2, e_dB, e_dI, eq_ii, eq_bb, mem_ti, mem_li, atI_map, idx_t, idx_l, idx_f, cut_t, cut_l, sl_map, p_eq, p_ne, p_mem, p_nmem, p_idx, p_add, p_addT, p_addL, p_sub, p_mulT, p_mulL, p_fdiv, p_mod, p_pow, p_lt, p_le, p_gt, p_ge, p_maxm, p_minm, p_neg, p_isN, p_notN, p_isB, p_notB, p_lenT, p_lenL, p_lenF, p_tupL, p_tupT, p_listT, p_listL, p_abs, p_int, p_intB, p_revT, p_revL, p_isInt, p_isBool, p_isStr, p_isTuple, m_append, m_rev, shO_n, shO_s, shAt_c, isSh_d, isSh_l, isSh_s, isSh_f, raw_ow, raw_al, raws_n, raws_c, alK_n, alK_o, alK_a, back_n, back_o, back_l, back_s, back_f, owD_n, owD_c, owM_n, owM_c, bindM_n, bindM_c, bindN_n, bindN_c, bindT_n, bindT_t, wipe_n, wipe_c, fill_n, fillO_d, fillO_n, fillO_l, fill_c, lock_n, lock_s, open_n, open_s, aug_add, aug_sub, fturn_c, turn_c, fin_nx, fin_rt, ini_n, ini_c, outs_n, outs_d, outs_l, outs_s, outs_f, pins_n, pins_d, pins_l, pins_s, pins_f, inRng_0, inRng_1, inRng_2, eq_ti, eq_li, atI_0, atI_1, atI_2, atI_3, line_1, line_2, line_3, line_4, line_5, line_6, line_7, line_8, line_9, line_10, line_11, line_12, List.getElem?_cons_zero, List.getElem?_cons_succ, List.set_cons_zero, List.set_cons_succ, List.length_map, List.length_cons, List.length_nil, Option.bind_some, Option.bind_none, id, List.mem_cons, List.not_mem_nil, List.replicate_succ, List.replicate_zero, List.nil_append, List.cons_append, if_true, if_false, ite_true, ite_false, Bool.false_eq_true, Bool.or_false, Bool.false_or, Bool.or_true, Bool.true_or, Bool.and_true, Bool.true_and, Bool.and_false, Bool.false_and, Bool.not_true, Bool.not_false, decide_true, decide_false, or_false, false_or, or_true, true_or, and_true, true_and, List.nodup_cons, List.nodup_nil, not_false_eq_true, not_true_eq_false, decide_eq_true_eq, Bool.not_eq_true', decide_eq_false_iff_not, inPin, List.any_cons, List.any_nil, isTupD, isIntD, isBoolD, isStrD, isNoneD, Nat.reduceSub, Nat.reduceAdd, Nat.reduceLeDiff, Nat.reduceEqDiff, Nat.reduceMul, Nat.reducePow, Nat.sub_self, Nat.sub_zero, Int.reduceLT, Int.reduceLE, Int.reduceNeg, Int.reduceToNat, Int.reduceEq, Bool.and_self, decide_not, reduceCtorEq, Nat.zero_le, Option.toList_none, Option.toList_some, List.append_nil, true_implies, false_implies, implies_true, not_true, not_false_eq_true, Option.map_some]
theorem judge_same_words_sp (wf k : Nat) (a b ra rb w : List Int) (ha : a.length ≤ 10000) (hb : b.length ≤ 10000) (h1 : wbr a ra = some w) (h2 : wbr b rb = some w) : callF wf FS (k + 3) 8 [.d (tI a), .d (tI b), .d (.tuple [tI ra, tI rb])] = some (.d (.bool true), [.d (tI a), .d (tI b), .d (.tuple [tI ra, tI rb])]) := by
  rw [call_judge_same_words]
  unfold f_judge_same_words b_judge_same_words
  simp -implicitDefEqProofs only [run_1, wp_some, wp_none, wp_bind, wp_map, wp_ite, bR_b, iR_i, dR_d, mR_m, look_d, look_l, look_s, look_f, unal_l, unal_s, unal_f, val_ow, val_al, c_var, c_cst, c_bin, c_un, c_and, c_or, c_not, c_ite, c_tup, c_lst, c_slice, c_lrng, c_trng, rngV_n, c_call, lstAt_l, c_mt0, c_mt1, cL_nil, cL_cons, cP_nil, cP_sm, cI_r1, cI_r2, cI_sq, walkAt_l, walkAt_s, walkAt_f, iter_t, iter_l, iter_a, nxt_nx, nxt_rt, nxt_bk, nxt_ct, q_skip, q_seq, q_set, q_par, tR_t, q_unp, q_setI, q_ex2, retV_ow, retV_al, q_ret2, q_retN, q_if, q_brk, q_cnt, augV_i, augV_l, augV_t, q_aug2, e_dB, e_dI, eq_ii, eq_bb, mem_ti, mem_li, atI_map, idx_t, idx_l, idx_f, cut_t, cut_l, sl_map, p_eq, p_ne, p_mem, p_nmem, p_idx, p_add, p_addT, p_addL, p_sub, p_mulT, p_mulL, p_fdiv, p_mod, p_pow, p_lt, p_le, p_gt, p_ge, p_maxm, p_minm, p_neg, p_isN, p_notN, p_isB, p_notB, p_lenT, p_lenL, p_lenF, p_tupL, p_tupT, p_listT, p_listL, p_abs, p_int, p_intB, p_revT, p_revL, p_isInt, p_isBool, p_isStr, p_isTuple, m_append, m_rev, shO_n, shO_s, shAt_c, isSh_d, isSh_l, isSh_s, isSh_f, raw_ow, raw_al, raws_n, raws_c, alK_n, alK_o, alK_a, back_n, back_o, back_l, back_s, back_f, owD_n, owD_c, owM_n, owM_c, bindM_n, bindM_c, bindN_n, bindN_c, bindT_n, bindT_t, wipe_n, wipe_c, fill_n, fillO_d, fillO_n, fillO_l, fill_c, lock_n, lock_s, open_n, open_s, aug_add, aug_sub, fturn_c, turn_c, fin_nx, fin_rt, ini_n, ini_c, outs_n, outs_d, outs_l, outs_s, outs_f, pins_n, pins_d, pins_l, pins_s, pins_f, inRng_0, inRng_1, inRng_2, eq_ti, eq_li, atI_0, atI_1, atI_2, atI_3, line_1, line_2, line_3, line_4, line_5, line_6, line_7, line_8, line_9, line_10, line_11, line_12, List.getElem?_cons_zero, List.getElem?_cons_succ, List.set_cons_zero, List.set_cons_succ, List.length_map, List.length_cons, List.length_nil, Option.bind_some, Option.bind_none, id, List.mem_cons, List.not_mem_nil, List.replicate_succ, List.replicate_zero, List.nil_append, List.cons_append, if_true, if_false, ite_true, ite_false, Bool.false_eq_true, Bool.or_false, Bool.false_or, Bool.or_true, Bool.true_or, Bool.and_true, Bool.true_and, Bool.and_false, Bool.false_and, Bool.not_true, Bool.not_false, decide_true, decide_false, or_false, false_or, or_true, true_or, and_true, true_and, List.nodup_cons, List.nodup_nil, not_false_eq_true, not_true_eq_false, decide_eq_true_eq, Bool.not_eq_true', decide_eq_false_iff_not, inPin, List.any_cons, List.any_nil, isTupD, isIntD, isBoolD, isStrD, isNoneD, Nat.reduceSub, Nat.reduceAdd, Nat.reduceLeDiff, Nat.reduceEqDiff, Nat.reduceMul, Nat.reducePow, Nat.sub_self, Nat.sub_zero, Int.reduceLT, Int.reduceLE, Int.reduceNeg, Int.reduceToNat, Int.reduceEq, Bool.and_self, decide_not, reduceCtorEq, Nat.zero_le, Option.toList_none, Option.toList_some, List.append_nil, true_implies, false_implies, implies_true, not_true, not_false_eq_true, Option.map_some, atI_0, atI_1, line_2, word_behind_row_sp wf k a ra w ha h1, word_behind_row_sp wf k b rb w hb h2, eq_ti]
theorem joined_letters_sp (wf k : Nat) (ws : List (List Int)) (hw : ws.flatten.length ≤ 10000) : callF wf FS (k + 1) 9 [.d (.tuple (ws.map tI))] = some (.d (tI ws.flatten), [.d (.tuple (ws.map tI))]) := by
  rw [call_joined_letters, wp_eq]
  unfold f_joined_letters b_joined_letters
  simp -implicitDefEqProofs only [run_1, wp_some, wp_none, wp_bind, wp_map, wp_ite, bR_b, iR_i, dR_d, mR_m, look_d, look_l, look_s, look_f, unal_l, unal_s, unal_f, val_ow, val_al, c_var, c_cst, c_bin, c_un, c_and, c_or, c_not, c_ite, c_tup, c_lst, c_slice, c_lrng, c_trng, rngV_n, c_call, lstAt_l, c_mt0, c_mt1, cL_nil, cL_cons, cP_nil, cP_sm, cI_r1, cI_r2, cI_sq, walkAt_l, walkAt_s, walkAt_f, iter_t, iter_l, iter_a, nxt_nx, nxt_rt, nxt_bk, nxt_ct, q_skip, q_seq, q_set, q_par, tR_t, q_unp, q_setI, q_ex2, retV_ow, retV_al, q_ret2, q_retN, q_if, q_brk, q_cnt, augV_i, augV_l, augV_t, q_aug2, e_dB, e_dI, eq_ii, eq_bb, mem_ti, mem_li, atI_map, idx_t, idx_l, idx_f, cut_t, cut_l, sl_map, p_eq, p_ne, p_mem, p_nmem, p_idx, p_add, p_addT, p_addL, p_sub, p_mulT, p_mulL, p_fdiv, p_mod, p_pow, p_lt, p_le, p_gt, p_ge, p_maxm, p_minm, p_neg, p_isN, p_notN, p_isB, p_notB, p_lenT, p_lenL, p_lenF, p_tupL, p_tupT, p_listT, p_listL, p_abs, p_int, p_intB, p_revT, p_revL, p_isInt, p_isBool, p_isStr, p_isTuple, m_append, m_rev, shO_n, shO_s, shAt_c, isSh_d, isSh_l, isSh_s, isSh_f, raw_ow, raw_al, raws_n, raws_c, alK_n, alK_o, alK_a, back_n, back_o, back_l, back_s, back_f, owD_n, owD_c, owM_n, owM_c, bindM_n, bindM_c, bindN_n, bindN_c, bindT_n, bindT_t, wipe_n, wipe_c, fill_n, fillO_d, fillO_n, fillO_l, fill_c, lock_n, lock_s, open_n, open_s, aug_add, aug_sub, fturn_c, turn_c, fin_nx, fin_rt, ini_n, ini_c, outs_n, outs_d, outs_l, outs_s, outs_f, pins_n, pins_d, pins_l, pins_s, pins_f, inRng_0, inRng_1, inRng_2, eq_ti, eq_li, atI_0, atI_1, atI_2, atI_3, line_1, line_2, line_3, line_4, line_5, line_6, line_7, line_8, line_9, line_10, line_11, line_12, List.getElem?_cons_zero, List.getElem?_cons_succ, List.set_cons_zero, List.set_cons_succ, List.length_map, List.length_cons, List.length_nil, Option.bind_some, Option.bind_none, id, List.mem_cons, List.not_mem_nil, List.replicate_succ, List.replicate_zero, List.nil_append, List.cons_append, if_true, if_false, ite_true, ite_false, Bool.false_eq_true, Bool.or_false, Bool.false_or, Bool.or_true, Bool.true_or, Bool.and_true, Bool.true_and, Bool.and_false, Bool.false_and, Bool.not_true, Bool.not_false, decide_true, decide_false, or_false, false_or, or_true, true_or, and_true, true_and, List.nodup_cons, List.nodup_nil, not_false_eq_true, not_true_eq_false, decide_eq_true_eq, Bool.not_eq_true', decide_eq_false_iff_not, inPin, List.any_cons, List.any_nil, isTupD, isIntD, isBoolD, isStrD, isNoneD, Nat.reduceSub, Nat.reduceAdd, Nat.reduceLeDiff, Nat.reduceEqDiff, Nat.reduceMul, Nat.reducePow, Nat.sub_self, Nat.sub_zero, Int.reduceLT, Int.reduceLE, Int.reduceNeg, Int.reduceToNat, Int.reduceEq, Bool.and_self, decide_not, reduceCtorEq, Nat.zero_le, Option.toList_none, Option.toList_some, List.append_nil, true_implies, false_implies, implies_true, not_true, not_false_eq_true, Option.map_some, q_for]
  refine wp_imp (forL_inv (f := fturn _ _ _ _ _) (d := tI) (fun ys e => ∃ (s : List Int) (z : Option M), e = [some (.d (.tuple (ws.map tI))), some (.lst (s.map .int)), z] ∧ (z = none ∨ ∃ y, z = some (.d y)) ∧ s ++ ys.flatten = ws.flatten) (Q := fun q => q.1 = .nx ∧ ∃ z, q.2 = [some (.d (.tuple (ws.map tI))), some (.lst (ws.flatten.map .int)), z]) ?_ ws _ ⟨[], none, rfl, .inl rfl, rfl⟩ ?_) ?_
  · rintro e ⟨s, z, rfl, hz, h1⟩
    rw [List.flatten_nil, List.append_nil] at h1
    subst h1
    exact ⟨rfl, z, rfl⟩
  · rintro x ys e ⟨s, z, rfl, hz, h1⟩
    have hz' : shO (some z) = false := by rcases hz with rfl | ⟨y, rfl⟩ <;> rfl
    have hl := congrArg List.length h1
    simp only [List.flatten_cons, List.length_append] at hl
    have hq : s.length + x.length ≤ sizeLine := le_line (by omega)
    simp -implicitDefEqProofs only [run_1, wp_some, wp_none, wp_bind, wp_map, wp_ite, bR_b, iR_i, dR_d, mR_m, look_d, look_l, look_s, look_f, unal_l, unal_s, unal_f, val_ow, val_al, c_var, c_cst, c_bin, c_un, c_and, c_or, c_not, c_ite, c_tup, c_lst, c_slice, c_lrng, c_trng, rngV_n, c_call, lstAt_l, c_mt0, c_mt1, cL_nil, cL_cons, cP_nil, cP_sm, cI_r1, cI_r2, cI_sq, walkAt_l, walkAt_s, walkAt_f, iter_t, iter_l, iter_a, nxt_nx, nxt_rt, nxt_bk, nxt_ct, q_skip, q_seq, q_set, q_par, tR_t, q_unp, q_setI, q_ex2, retV_ow, retV_al, q_ret2, q_retN, q_if, q_brk, q_cnt, augV_i, augV_l, augV_t, q_aug2, e_dB, e_dI, eq_ii, eq_bb, mem_ti, mem_li, atI_map, idx_t, idx_l, idx_f, cut_t, cut_l, sl_map, p_eq, p_ne, p_mem, p_nmem, p_idx, p_add, p_addT, p_addL, p_sub, p_mulT, p_mulL, p_fdiv, p_mod, p_pow, p_lt, p_le, p_gt, p_ge, p_maxm, p_minm, p_neg, p_isN, p_notN, p_isB, p_notB, p_lenT, p_lenL, p_lenF, p_tupL, p_tupT, p_listT, p_listL, p_abs, p_int, p_intB, p_revT, p_revL, p_isInt, p_isBool, p_isStr, p_isTuple, m_append, m_rev, shO_n, shO_s, shAt_c, isSh_d, isSh_l, isSh_s, isSh_f, raw_ow, raw_al, raws_n, raws_c, alK_n, alK_o, alK_a, back_n, back_o, back_l, back_s, back_f, owD_n, owD_c, owM_n, owM_c, bindM_n, bindM_c, bindN_n, bindN_c, bindT_n, bindT_t, wipe_n, wipe_c, fill_n, fillO_d, fillO_n, fillO_l, fill_c, lock_n, lock_s, open_n, open_s, aug_add, aug_sub, fturn_c, turn_c, fin_nx, fin_rt, ini_n, ini_c, outs_n, outs_d, outs_l, outs_s, outs_f, pins_n, pins_d, pins_l, pins_s, pins_f, inRng_0, inRng_1, inRng_2, eq_ti, eq_li, atI_0, atI_1, atI_2, atI_3, line_1, line_2, line_3, line_4, line_5, line_6, line_7, line_8, line_9, line_10, line_11, line_12, List.getElem?_cons_zero, List.getElem?_cons_succ, List.set_cons_zero, List.set_cons_succ, List.length_map, List.length_cons, List.length_nil, Option.bind_some, Option.bind_none, id, List.mem_cons, List.not_mem_nil, List.replicate_succ, List.replicate_zero, List.nil_append, List.cons_append, if_true, if_false, ite_true, ite_false, Bool.false_eq_true, Bool.or_false, Bool.false_or, Bool.or_true, Bool.true_or, Bool.and_true, Bool.true_and, Bool.and_false, Bool.false_and, Bool.not_true, Bool.not_false, decide_true, decide_false, or_false, false_or, or_true, true_or, and_true, true_and, List.nodup_cons, List.nodup_nil, not_false_eq_true, not_true_eq_false, decide_eq_true_eq, Bool.not_eq_true', decide_eq_false_iff_not, inPin, List.any_cons, List.any_nil, isTupD, isIntD, isBoolD, isStrD, isNoneD, Nat.reduceSub, Nat.reduceAdd, Nat.reduceLeDiff, Nat.reduceEqDiff, Nat.reduceMul, Nat.reducePow, Nat.sub_self, Nat.sub_zero, Int.reduceLT, Int.reduceLE, Int.reduceNeg, Int.reduceToNat, Int.reduceEq, Bool.and_self, decide_not, reduceCtorEq, Nat.zero_le, Option.toList_none, Option.toList_some, List.append_nil, true_implies, false_implies, implies_true, not_true, not_false_eq_true, Option.map_some, hz', hq]
    exact ⟨s ++ x, _, by rw [List.map_append], .inr ⟨_, rfl⟩, by rw [← h1]; simp⟩
  · rintro ⟨fl, e⟩ ⟨rfl, z, rfl⟩
    simp -implicitDefEqProofs only [run_1, wp_some, wp_none, wp_bind, wp_map, wp_ite, bR_b, iR_i, dR_d, mR_m, look_d, look_l, look_s, look_f, unal_l, unal_s, unal_f, val_ow, val_al, c_var, c_cst, c_bin, c_un, c_and, c_or, c_not, c_ite, c_tup, c_lst, c_slice, c_lrng, c_trng, rngV_n, c_call, lstAt_l, c_mt0, c_mt1, cL_nil, cL_cons, cP_nil, cP_sm, cI_r1, cI_r2, cI_sq, walkAt_l, walkAt_s, walkAt_f, iter_t, iter_l, iter_a, nxt_nx, nxt_rt, nxt_bk, nxt_ct, q_skip, q_seq, q_set, q_par, tR_t, q_unp, q_setI, q_ex2, retV_ow, retV_al, q_ret2, q_retN, q_if, q_brk, q_cnt, augV_i, augV_l, augV_t, q_aug2, e_dB, e_dI, eq_ii, eq_bb, mem_ti, mem_li, atI_map, idx_t, idx_l, idx_f, cut_t, cut_l, sl_map, p_eq, p_ne, p_mem, p_nmem, p_idx, p_add, p_addT, p_addL, p_sub, p_mulT, p_mulL, p_fdiv, p_mod, p_pow, p_lt, p_le, p_gt, p_ge, p_maxm, p_minm, p_neg, p_isN, p_notN, p_isB, p_notB, p_lenT, p_lenL, p_lenF, p_tupL, p_tupT, p_listT, p_listL, p_abs, p_int, p_intB, p_revT, p_revL, p_isInt, p_isBool, p_isStr, p_isTuple, m_append, m_rev, shO_n, shO_s, shAt_c, isSh_d, isSh_l, isSh_s, isSh_f, raw_ow, raw_al, raws_n, raws_c, alK_n, alK_o, alK_a, back_n, back_o, back_l, back_s, back_f, owD_n, owD_c, owM_n, owM_c, bindM_n, bindM_c, bindN_n, bindN_c, bindT_n, bindT_t, wipe_n, wipe_c, fill_n, fillO_d, fillO_n, fillO_l, fill_c, lock_n, lock_s, open_n, open_s, aug_add, aug_sub, fturn_c, turn_c, fin_nx, fin_rt, ini_n, ini_c, outs_n, outs_d, outs_l, outs_s, outs_f, pins_n, pins_d, pins_l, pins_s, pins_f, inRng_0, inRng_1, inRng_2, eq_ti, eq_li, atI_0, atI_1, atI_2, atI_3, line_1, line_2, line_3, line_4, line_5, line_6, line_7, line_8, line_9, line_10, line_11, line_12, List.getElem?_cons_zero, List.getElem?_cons_succ, List.set_cons_zero, List.set_cons_succ, List.length_map, List.length_cons, List.length_nil, Option.bind_some, Option.bind_none, id, List.mem_cons, List.not_mem_nil, List.replicate_succ, List.replicate_zero, List.nil_append, List.cons_append, if_true, if_false, ite_true, ite_false, Bool.false_eq_true, Bool.or_false, Bool.false_or, Bool.or_true, Bool.true_or, Bool.and_true, Bool.true_and, Bool.and_false, Bool.false_and, Bool.not_true, Bool.not_false, decide_true, decide_false, or_false, false_or, or_true, true_or, and_true, true_and, List.nodup_cons, List.nodup_nil, not_false_eq_true, not_true_eq_false, decide_eq_true_eq, Bool.not_eq_true', decide_eq_false_iff_not, inPin, List.any_cons, List.any_nil, isTupD, isIntD, isBoolD, isStrD, isNoneD, Nat.reduceSub, Nat.reduceAdd, Nat.reduceLeDiff, Nat.reduceEqDiff, Nat.reduceMul, Nat.reducePow, Nat.sub_self, Nat.sub_zero, Int.reduceLT, Int.reduceLE, Int.reduceNeg, Int.reduceToNat, Int.reduceEq, Bool.and_self, decide_not, reduceCtorEq, Nat.zero_le, Option.toList_none, Option.toList_some, List.append_nil, true_implies, false_implies, implies_true, not_true, not_false_eq_true, Option.map_some]
theorem push_len (s : List Int) (x : Int) : (push s x).length ≤ s.length + 1 := by
  unfold push
  split
  · rw [List.length_dropLast]; omega
  · simp
theorem red_len (w : List Int) : (red w).length ≤ w.length := by
  have h : ∀ (w s : List Int), (w.foldl push s).length ≤ s.length + w.length := by
    intro w
    induction w with
    | nil => intro s; simp
    | cons x w ih =>
      intro s
      rw [List.foldl_cons]
      have := ih (push s x)
      have := push_len s x
      rw [List.length_cons]; omega
  have := h w []
  simpa [red] using this
theorem product_of_words_sp (wf k : Nat) (ws : List (List Int)) (hw : ws.flatten.length ≤ 10000) : callF wf FS (k + 2) 10 [.d (.tuple (ws.map tI))] = some (.d (tI (red ws.flatten)), [.d (.tuple (ws.map tI))]) := by
  rw [call_product_of_words]
  unfold f_product_of_words b_product_of_words
  simp -implicitDefEqProofs only [run_1, wp_some, wp_none, wp_bind, wp_map, wp_ite, bR_b, iR_i, dR_d, mR_m, look_d, look_l, look_s, look_f, unal_l, unal_s, unal_f, val_ow, val_al, c_var, c_cst, c_bin, c_un, c_and, c_or, c_not, c_ite, c_tup, c_lst, c_slice, c_lrng, c_trng, rngV_n, c_call, lstAt_l, c_mt0, c_mt1, cL_nil, cL_cons, cP_nil, cP_sm, cI_r1, cI_r2, cI_sq, walkAt_l, walkAt_s, walkAt_f, iter_t, iter_l, iter_a, nxt_nx, nxt_rt, nxt_bk, nxt_ct, q_skip, q_seq, q_set, q_par, tR_t, q_unp, q_setI, q_ex2, retV_ow, retV_al, q_ret2, q_retN, q_if, q_brk, q_cnt, augV_i, augV_l, augV_t, q_aug2, e_dB, e_dI, eq_ii, eq_bb, mem_ti, mem_li, atI_map, idx_t, idx_l, idx_f, cut_t, cut_l, sl_map, p_eq, p_ne, p_mem, p_nmem, p_idx, p_add, p_addT, p_addL, p_sub, p_mulT, p_mulL, p_fdiv, p_mod, p_pow, p_lt, p_le, p_gt, p_ge, p_maxm, p_minm, p_neg, p_isN, p_notN, p_isB, p_notB, p_lenT, p_lenL, p_lenF, p_tupL, p_tupT, p_listT, p_listL, p_abs, p_int, p_intB, p_revT, p_revL, p_isInt, p_isBool, p_isStr, p_isTuple, m_append, m_rev, shO_n, shO_s, shAt_c, isSh_d, isSh_l, isSh_s, isSh_f, raw_ow, raw_al, raws_n, raws_c, alK_n, alK_o, alK_a, back_n, back_o, back_l, back_s, back_f, owD_n, owD_c, owM_n, owM_c, bindM_n, bindM_c, bindN_n, bindN_c, bindT_n, bindT_t, wipe_n, wipe_c, fill_n, fillO_d, fillO_n, fillO_l, fill_c, lock_n, lock_s, open_n, open_s, aug_add, aug_sub, fturn_c, turn_c, fin_nx, fin_rt, ini_n, ini_c, outs_n, outs_d, outs_l, outs_s, outs_f, pins_n, pins_d, pins_l, pins_s, pins_f, inRng_0, inRng_1, inRng_2, eq_ti, eq_li, atI_0, atI_1, atI_2, atI_3, line_1, line_2, line_3, line_4, line_5, line_6, line_7, line_8, line_9, line_10, line_11, line_12, List.getElem?_cons_zero, List.getElem?_cons_succ, List.set_cons_zero, List.set_cons_succ, List.length_map, List.length_cons, List.length_nil, Option.bind_some, Option.bind_none, id, List.mem_cons, List.not_mem_nil, List.replicate_succ, List.replicate_zero, List.nil_append, List.cons_append, if_true, if_false, ite_true, ite_false, Bool.false_eq_true, Bool.or_false, Bool.false_or, Bool.or_true, Bool.true_or, Bool.and_true, Bool.true_and, Bool.and_false, Bool.false_and, Bool.not_true, Bool.not_false, decide_true, decide_false, or_false, false_or, or_true, true_or, and_true, true_and, List.nodup_cons, List.nodup_nil, not_false_eq_true, not_true_eq_false, decide_eq_true_eq, Bool.not_eq_true', decide_eq_false_iff_not, inPin, List.any_cons, List.any_nil, isTupD, isIntD, isBoolD, isStrD, isNoneD, Nat.reduceSub, Nat.reduceAdd, Nat.reduceLeDiff, Nat.reduceEqDiff, Nat.reduceMul, Nat.reducePow, Nat.sub_self, Nat.sub_zero, Int.reduceLT, Int.reduceLE, Int.reduceNeg, Int.reduceToNat, Int.reduceEq, Bool.and_self, decide_not, reduceCtorEq, Nat.zero_le, Option.toList_none, Option.toList_some, List.append_nil, true_implies, false_implies, implies_true, not_true, not_false_eq_true, Option.map_some, joined_letters_sp wf k ws hw, reduced_word_sp wf k ws.flatten hw]
def rep (w : List Int) (n : Int) : List Int := (List.replicate n.toNat w).flatten
theorem rep_len (w : List Int) (n : Int) : (rep w n).length = n.toNat * w.length := by unfold rep; simp
def pow (w : List Int) (n : Int) : List Int := if red w = [] then [] else if n < 0 then red (rep (und (red w)) (-n)) else red (rep (red w) n)
theorem word_power_sp (wf k : Nat) (w : List Int) (n : Int) (hw : w.length ≤ 100) (h0 : -100 ≤ n) (h1 : n ≤ 100) : callF wf FS (k + 2) 11 [.d (tI w), .d (.int n)] = some (.d (tI (pow w n)), [.d (tI w), .d (.int n)]) := by
  rw [call_word_power, wp_eq]
  unfold f_word_power b_word_power
  have hl := red_len w
  have hu := und_len (red w)
  have e1 : decide (-(2 ^ 62) ≤ n) = true := decide_eq_true (by omega)
  have e2 : decide (-(2 ^ 62) ≤ -n) = true := decide_eq_true (by omega)
  have e3 : decide (n ≤ 1000) = true := decide_eq_true (by omega)
  have e4 : decide (-n ≤ 1000) = true := decide_eq_true (by omega)
  have e5 : decide ((red w).length ≤ 1000) = true := decide_eq_true (by omega)
  have e6 : decide ((und (red w)).length ≤ 1000) = true := decide_eq_true (by omega)
  have g1 : (List.replicate n.toNat ((red w).map PyData.int)).flatten = (rep (red w) n).map .int := by unfold rep; rw [List.map_flatten, List.map_replicate]
  have g2 : (List.replicate (-n).toNat ((und (red w)).map PyData.int)).flatten = (rep (und (red w)) (-n)).map .int := by unfold rep; rw [List.map_flatten, List.map_replicate]
  have r1 : (rep (red w) n).length ≤ 10000 := by
    rw [rep_len]
    exact Nat.le_trans (Nat.mul_le_mul (show n.toNat ≤ 100 by omega) (show (red w).length ≤ 100 by omega)) (by decide)
  have r2 : (rep (und (red w)) (-n)).length ≤ 10000 := by
    rw [rep_len]
    exact Nat.le_trans (Nat.mul_le_mul (show (-n).toNat ≤ 100 by omega) (show (und (red w)).length ≤ 100 by omega)) (by decide)
  simp -implicitDefEqProofs only [run_1, wp_some, wp_none, wp_bind, wp_map, wp_ite, bR_b, iR_i, dR_d, mR_m, look_d, look_l, look_s, look_f, unal_l, unal_s, unal_f, val_ow, val_al, c_var, c_cst, c_bin, c_un, c_and, c_or, c_not, c_ite, c_tup, c_lst, c_slice, c_lrng, c_trng, rngV_n, c_call, lstAt_l, c_mt0, c_mt1, cL_nil, cL_cons, cP_nil, cP_sm, cI_r1, cI_r2, cI_sq, walkAt_l, walkAt_s, walkAt_f, iter_t, iter_l, iter_a, nxt_nx, nxt_rt, nxt_bk, nxt_ct, q_skip, q_seq, q_set, q_par, tR_t, q_unp, q_setI, q_ex2, retV_ow, retV_al, q_ret2, q_retN, q_if, q_brk, q_cnt, augV_i, augV_l, augV_t, q_aug2, e_dB, e_dI, eq_ii, eq_bb, mem_ti, mem_li, atI_map, idx_t, idx_l, idx_f, cut_t, cut_l, sl_map, p_eq, p_ne, p_mem, p_nmem, p_idx, p_add, p_addT, p_addL, p_sub, p_mulT, p_mulL, p_fdiv, p_mod, p_pow, p_lt, p_le, p_gt, p_ge, p_maxm, p_minm, p_neg, p_isN, p_notN, p_isB, p_notB, p_lenT, p_lenL, p_lenF, p_tupL, p_tupT, p_listT, p_listL, p_abs, p_int, p_intB, p_revT, p_revL, p_isInt, p_isBool, p_isStr, p_isTuple, m_append, m_rev, shO_n, shO_s, shAt_c, isSh_d, isSh_l, isSh_s, isSh_f, raw_ow, raw_al, raws_n, raws_c, alK_n, alK_o, alK_a, back_n, back_o, back_l, back_s, back_f, owD_n, owD_c, owM_n, owM_c, bindM_n, bindM_c, bindN_n, bindN_c, bindT_n, bindT_t, wipe_n, wipe_c, fill_n, fillO_d, fillO_n, fillO_l, fill_c, lock_n, lock_s, open_n, open_s, aug_add, aug_sub, fturn_c, turn_c, fin_nx, fin_rt, ini_n, ini_c, outs_n, outs_d, outs_l, outs_s, outs_f, pins_n, pins_d, pins_l, pins_s, pins_f, inRng_0, inRng_1, inRng_2, eq_ti, eq_li, atI_0, atI_1, atI_2, atI_3, line_1, line_2, line_3, line_4, line_5, line_6, line_7, line_8, line_9, line_10, line_11, line_12, List.getElem?_cons_zero, List.getElem?_cons_succ, List.set_cons_zero, List.set_cons_succ, List.length_map, List.length_cons, List.length_nil, Option.bind_some, Option.bind_none, id, List.mem_cons, List.not_mem_nil, List.replicate_succ, List.replicate_zero, List.nil_append, List.cons_append, if_true, if_false, ite_true, ite_false, Bool.false_eq_true, Bool.or_false, Bool.false_or, Bool.or_true, Bool.true_or, Bool.and_true, Bool.true_and, Bool.and_false, Bool.false_and, Bool.not_true, Bool.not_false, decide_true, decide_false, or_false, false_or, or_true, true_or, and_true, true_and, List.nodup_cons, List.nodup_nil, not_false_eq_true, not_true_eq_false, decide_eq_true_eq, Bool.not_eq_true', decide_eq_false_iff_not, inPin, List.any_cons, List.any_nil, isTupD, isIntD, isBoolD, isStrD, isNoneD, Nat.reduceSub, Nat.reduceAdd, Nat.reduceLeDiff, Nat.reduceEqDiff, Nat.reduceMul, Nat.reducePow, Nat.sub_self, Nat.sub_zero, Int.reduceLT, Int.reduceLE, Int.reduceNeg, Int.reduceToNat, Int.reduceEq, Bool.and_self, decide_not, reduceCtorEq, Nat.zero_le, Option.toList_none, Option.toList_some, List.append_nil, true_implies, false_implies, implies_true, not_true, not_false_eq_true, Option.map_some, reduced_word_sp wf k w (by omega), undone_word_sp wf k (red w) (by omega), e1, e2, e3, e4, e5, e6, g1, g2, reduced_word_sp wf k _ r1, reduced_word_sp wf k _ r2]
  unfold pow
  refine ⟨fun h => ?_, fun h => ⟨fun h2 => ?_, fun h2 => ?_⟩⟩
  · have e : red w = [] := List.eq_nil_of_length_eq_zero (by omega)
    rw [if_pos e]; rfl
  · have e : red w ≠ [] := fun e => h (by rw [e]; rfl)
    rw [if_neg e, if_pos h2]
  · have e : red w ≠ [] := fun e => h (by rw [e]; rfl)
    rw [if_neg e, if_neg h2]
theorem commutator_word_sp (wf k : Nat) (a b : List Int) (ha : a.length ≤ 1000) (hb : b.length ≤ 1000) : callF wf FS (k + 3) 12 [.d (tI a), .d (tI b)] = some (.d (tI (red (a ++ b ++ und a ++ und b))), [.d (tI a), .d (tI b)]) := by
  rw [call_commutator_word]
  unfold f_commutator_word b_commutator_word
  have h : [a, b, und a, und b].flatten = a ++ b ++ und a ++ und b := by simp
  have hp := product_of_words_sp wf k [a, b, und a, und b] (by
    have h1 := und_len a
    have h2 := und_len b
    rw [h]
    simp only [List.length_append]; omega)
  rw [h] at hp
  simp only [List.map_cons, List.map_nil] at hp
  simp -implicitDefEqProofs only [run_1, wp_some, wp_none, wp_bind, wp_map, wp_ite, bR_b, iR_i, dR_d, mR_m, look_d, look_l, look_s, look_f, unal_l, unal_s, unal_f, val_ow, val_al, c_var, c_cst, c_bin, c_un, c_and, c_or, c_not, c_ite, c_tup, c_lst, c_slice, c_lrng, c_trng, rngV_n, c_call, lstAt_l, c_mt0, c_mt1, cL_nil, cL_cons, cP_nil, cP_sm, cI_r1, cI_r2, cI_sq, walkAt_l, walkAt_s, walkAt_f, iter_t, iter_l, iter_a, nxt_nx, nxt_rt, nxt_bk, nxt_ct, q_skip, q_seq, q_set, q_par, tR_t, q_unp, q_setI, q_ex2, retV_ow, retV_al, q_ret2, q_retN, q_if, q_brk, q_cnt, augV_i, augV_l, augV_t, q_aug2, e_dB, e_dI, eq_ii, eq_bb, mem_ti, mem_li, atI_map, idx_t, idx_l, idx_f, cut_t, cut_l, sl_map, p_eq, p_ne, p_mem, p_nmem, p_idx, p_add, p_addT, p_addL, p_sub, p_mulT, p_mulL, p_fdiv, p_mod, p_pow, p_lt, p_le, p_gt, p_ge, p_maxm, p_minm, p_neg, p_isN, p_notN, p_isB, p_notB, p_lenT, p_lenL, p_lenF, p_tupL, p_tupT, p_listT, p_listL, p_abs, p_int, p_intB, p_revT, p_revL, p_isInt, p_isBool, p_isStr, p_isTuple, m_append, m_rev, shO_n, shO_s, shAt_c, isSh_d, isSh_l, isSh_s, isSh_f, raw_ow, raw_al, raws_n, raws_c, alK_n, alK_o, alK_a, back_n, back_o, back_l, back_s, back_f, owD_n, owD_c, owM_n, owM_c, bindM_n, bindM_c, bindN_n, bindN_c, bindT_n, bindT_t, wipe_n, wipe_c, fill_n, fillO_d, fillO_n, fillO_l, fill_c, lock_n, lock_s, open_n, open_s, aug_add, aug_sub, fturn_c, turn_c, fin_nx, fin_rt, ini_n, ini_c, outs_n, outs_d, outs_l, outs_s, outs_f, pins_n, pins_d, pins_l, pins_s, pins_f, inRng_0, inRng_1, inRng_2, eq_ti, eq_li, atI_0, atI_1, atI_2, atI_3, line_1, line_2, line_3, line_4, line_5, line_6, line_7, line_8, line_9, line_10, line_11, line_12, List.getElem?_cons_zero, List.getElem?_cons_succ, List.set_cons_zero, List.set_cons_succ, List.length_map, List.length_cons, List.length_nil, Option.bind_some, Option.bind_none, id, List.mem_cons, List.not_mem_nil, List.replicate_succ, List.replicate_zero, List.nil_append, List.cons_append, if_true, if_false, ite_true, ite_false, Bool.false_eq_true, Bool.or_false, Bool.false_or, Bool.or_true, Bool.true_or, Bool.and_true, Bool.true_and, Bool.and_false, Bool.false_and, Bool.not_true, Bool.not_false, decide_true, decide_false, or_false, false_or, or_true, true_or, and_true, true_and, List.nodup_cons, List.nodup_nil, not_false_eq_true, not_true_eq_false, decide_eq_true_eq, Bool.not_eq_true', decide_eq_false_iff_not, inPin, List.any_cons, List.any_nil, isTupD, isIntD, isBoolD, isStrD, isNoneD, Nat.reduceSub, Nat.reduceAdd, Nat.reduceLeDiff, Nat.reduceEqDiff, Nat.reduceMul, Nat.reducePow, Nat.sub_self, Nat.sub_zero, Int.reduceLT, Int.reduceLE, Int.reduceNeg, Int.reduceToNat, Int.reduceEq, Bool.and_self, decide_not, reduceCtorEq, Nat.zero_le, Option.toList_none, Option.toList_some, List.append_nil, true_implies, false_implies, implies_true, not_true, not_false_eq_true, Option.map_some, undone_word_sp wf (k + 1) a (by omega), undone_word_sp wf (k + 1) b (by omega), line_4, hp]
end Law

end
section
set_option maxHeartbeats 4000000
namespace Law
open Cs PySem
theorem law_draws_sp (wf k : Nat) (ns : List Int) (m : Int) (hn : ns.length ≤ 63) (h0 : 0 ≤ m) (hm : m ≤ 10000) : ∃ ds : List Int, callF wf FS (k + 1) 13 [.fz (ns.map .int), .d (.int m)] = some (.lst (ds.map .int), [.fz (ns.map .int), .d (.int m)]) := by
  suffices h : wp (callF wf FS (k + 1) 13 [.fz (ns.map .int), .d (.int m)]) fun r => ∃ ds : List Int, r = (.lst (ds.map .int), [.fz (ns.map .int), .d (.int m)]) by
    obtain ⟨r, h1, ds, rfl⟩ := h
    exact ⟨ds, h1⟩
  rw [call_law_draws]
  unfold f_law_draws b_law_draws
  have hl : ns.length ≤ sizeLine := le_line (by omega)
  simp -implicitDefEqProofs only [run_1, wp_some, wp_none, wp_bind, wp_map, wp_ite, bR_b, iR_i, dR_d, mR_m, look_d, look_l, look_s, look_f, unal_l, unal_s, unal_f, val_ow, val_al, c_var, c_cst, c_bin, c_un, c_and, c_or, c_not, c_ite, c_tup, c_lst, c_slice, c_lrng, c_trng, rngV_n, c_call, lstAt_l, c_mt0, c_mt1, cL_nil, cL_cons, cP_nil, cP_sm, cI_r1, cI_r2, cI_sq, walkAt_l, walkAt_s, walkAt_f, iter_t, iter_l, iter_a, nxt_nx, nxt_rt, nxt_bk, nxt_ct, q_skip, q_seq, q_set, q_par, tR_t, q_unp, q_setI, q_ex2, retV_ow, retV_al, q_ret2, q_retN, q_if, q_brk, q_cnt, augV_i, augV_l, augV_t, q_aug2, e_dB, e_dI, eq_ii, eq_bb, mem_ti, mem_li, atI_map, idx_t, idx_l, idx_f, cut_t, cut_l, sl_map, p_eq, p_ne, p_mem, p_nmem, p_idx, p_add, p_addT, p_addL, p_sub, p_mulT, p_mulL, p_fdiv, p_mod, p_pow, p_lt, p_le, p_gt, p_ge, p_maxm, p_minm, p_neg, p_isN, p_notN, p_isB, p_notB, p_lenT, p_lenL, p_lenF, p_tupL, p_tupT, p_listT, p_listL, p_abs, p_int, p_intB, p_revT, p_revL, p_isInt, p_isBool, p_isStr, p_isTuple, m_append, m_rev, shO_n, shO_s, shAt_c, isSh_d, isSh_l, isSh_s, isSh_f, raw_ow, raw_al, raws_n, raws_c, alK_n, alK_o, alK_a, back_n, back_o, back_l, back_s, back_f, owD_n, owD_c, owM_n, owM_c, bindM_n, bindM_c, bindN_n, bindN_c, bindT_n, bindT_t, wipe_n, wipe_c, fill_n, fillO_d, fillO_n, fillO_l, fill_c, lock_n, lock_s, open_n, open_s, aug_add, aug_sub, fturn_c, turn_c, fin_nx, fin_rt, ini_n, ini_c, outs_n, outs_d, outs_l, outs_s, outs_f, pins_n, pins_d, pins_l, pins_s, pins_f, inRng_0, inRng_1, inRng_2, eq_ti, eq_li, atI_0, atI_1, atI_2, atI_3, line_1, line_2, line_3, line_4, line_5, line_6, line_7, line_8, line_9, line_10, line_11, line_12, List.getElem?_cons_zero, List.getElem?_cons_succ, List.set_cons_zero, List.set_cons_succ, List.length_map, List.length_cons, List.length_nil, Option.bind_some, Option.bind_none, id, List.mem_cons, List.not_mem_nil, List.replicate_succ, List.replicate_zero, List.nil_append, List.cons_append, if_true, if_false, ite_true, ite_false, Bool.false_eq_true, Bool.or_false, Bool.false_or, Bool.or_true, Bool.true_or, Bool.and_true, Bool.true_and, Bool.and_false, Bool.false_and, Bool.not_true, Bool.not_false, decide_true, decide_false, or_false, false_or, or_true, true_or, and_true, true_and, List.nodup_cons, List.nodup_nil, not_false_eq_true, not_true_eq_false, decide_eq_true_eq, Bool.not_eq_true', decide_eq_false_iff_not, inPin, List.any_cons, List.any_nil, isTupD, isIntD, isBoolD, isStrD, isNoneD, Nat.reduceSub, Nat.reduceAdd, Nat.reduceLeDiff, Nat.reduceEqDiff, Nat.reduceMul, Nat.reducePow, Nat.sub_self, Nat.sub_zero, Int.reduceLT, Int.reduceLE, Int.reduceNeg, Int.reduceToNat, Int.reduceEq, Bool.and_self, decide_not, reduceCtorEq, Nat.zero_le, Option.toList_none, Option.toList_some, List.append_nil, true_implies, false_implies, implies_true, not_true, not_false_eq_true, Option.map_some, c_comp]
  rw [compL_map (f := turn _ _ _ _ _) (r := PyData.int) (fun x => x) ns (by intro x hx; simp -implicitDefEqProofs only [run_1, wp_some, wp_none, wp_bind, wp_map, wp_ite, bR_b, iR_i, dR_d, mR_m, look_d, look_l, look_s, look_f, unal_l, unal_s, unal_f, val_ow, val_al, c_var, c_cst, c_bin, c_un, c_and, c_or, c_not, c_ite, c_tup, c_lst, c_slice, c_lrng, c_trng, rngV_n, c_call, lstAt_l, c_mt0, c_mt1, cL_nil, cL_cons, cP_nil, cP_sm, cI_r1, cI_r2, cI_sq, walkAt_l, walkAt_s, walkAt_f, iter_t, iter_l, iter_a, nxt_nx, nxt_rt, nxt_bk, nxt_ct, q_skip, q_seq, q_set, q_par, tR_t, q_unp, q_setI, q_ex2, retV_ow, retV_al, q_ret2, q_retN, q_if, q_brk, q_cnt, augV_i, augV_l, augV_t, q_aug2, e_dB, e_dI, eq_ii, eq_bb, mem_ti, mem_li, atI_map, idx_t, idx_l, idx_f, cut_t, cut_l, sl_map, p_eq, p_ne, p_mem, p_nmem, p_idx, p_add, p_addT, p_addL, p_sub, p_mulT, p_mulL, p_fdiv, p_mod, p_pow, p_lt, p_le, p_gt, p_ge, p_maxm, p_minm, p_neg, p_isN, p_notN, p_isB, p_notB, p_lenT, p_lenL, p_lenF, p_tupL, p_tupT, p_listT, p_listL, p_abs, p_int, p_intB, p_revT, p_revL, p_isInt, p_isBool, p_isStr, p_isTuple, m_append, m_rev, shO_n, shO_s, shAt_c, isSh_d, isSh_l, isSh_s, isSh_f, raw_ow, raw_al, raws_n, raws_c, alK_n, alK_o, alK_a, back_n, back_o, back_l, back_s, back_f, owD_n, owD_c, owM_n, owM_c, bindM_n, bindM_c, bindN_n, bindN_c, bindT_n, bindT_t, wipe_n, wipe_c, fill_n, fillO_d, fillO_n, fillO_l, fill_c, lock_n, lock_s, open_n, open_s, aug_add, aug_sub, fturn_c, turn_c, fin_nx, fin_rt, ini_n, ini_c, outs_n, outs_d, outs_l, outs_s, outs_f, pins_n, pins_d, pins_l, pins_s, pins_f, inRng_0, inRng_1, inRng_2, eq_ti, eq_li, atI_0, atI_1, atI_2, atI_3, line_1, line_2, line_3, line_4, line_5, line_6, line_7, line_8, line_9, line_10, line_11, line_12, List.getElem?_cons_zero, List.getElem?_cons_succ, List.set_cons_zero, List.set_cons_succ, List.length_map, List.length_cons, List.length_nil, Option.bind_some, Option.bind_none, id, List.mem_cons, List.not_mem_nil, List.replicate_succ, List.replicate_zero, List.nil_append, List.cons_append, if_true, if_false, ite_true, ite_false, Bool.false_eq_true, Bool.or_false, Bool.false_or, Bool.or_true, Bool.true_or, Bool.and_true, Bool.true_and, Bool.and_false, Bool.false_and, Bool.not_true, Bool.not_false, decide_true, decide_false, or_false, false_or, or_true, true_or, and_true, true_and, List.nodup_cons, List.nodup_nil, not_false_eq_true, not_true_eq_false, decide_eq_true_eq, Bool.not_eq_true', decide_eq_false_iff_not, inPin, List.any_cons, List.any_nil, isTupD, isIntD, isBoolD, isStrD, isNoneD, Nat.reduceSub, Nat.reduceAdd, Nat.reduceLeDiff, Nat.reduceEqDiff, Nat.reduceMul, Nat.reducePow, Nat.sub_self, Nat.sub_zero, Int.reduceLT, Int.reduceLE, Int.reduceNeg, Int.reduceToNat, Int.reduceEq, Bool.and_self, decide_not, reduceCtorEq, Nat.zero_le, Option.toList_none, Option.toList_some, List.append_nil, true_implies, false_implies, implies_true, not_true, not_false_eq_true, Option.map_some])]
  simp -implicitDefEqProofs only [run_1, wp_some, wp_none, wp_bind, wp_map, wp_ite, bR_b, iR_i, dR_d, mR_m, look_d, look_l, look_s, look_f, unal_l, unal_s, unal_f, val_ow, val_al, c_var, c_cst, c_bin, c_un, c_and, c_or, c_not, c_ite, c_tup, c_lst, c_slice, c_lrng, c_trng, rngV_n, c_call, lstAt_l, c_mt0, c_mt1, cL_nil, cL_cons, cP_nil, cP_sm, cI_r1, cI_r2, cI_sq, walkAt_l, walkAt_s, walkAt_f, iter_t, iter_l, iter_a, nxt_nx, nxt_rt, nxt_bk, nxt_ct, q_skip, q_seq, q_set, q_par, tR_t, q_unp, q_setI, q_ex2, retV_ow, retV_al, q_ret2, q_retN, q_if, q_brk, q_cnt, augV_i, augV_l, augV_t, q_aug2, e_dB, e_dI, eq_ii, eq_bb, mem_ti, mem_li, atI_map, idx_t, idx_l, idx_f, cut_t, cut_l, sl_map, p_eq, p_ne, p_mem, p_nmem, p_idx, p_add, p_addT, p_addL, p_sub, p_mulT, p_mulL, p_fdiv, p_mod, p_pow, p_lt, p_le, p_gt, p_ge, p_maxm, p_minm, p_neg, p_isN, p_notN, p_isB, p_notB, p_lenT, p_lenL, p_lenF, p_tupL, p_tupT, p_listT, p_listL, p_abs, p_int, p_intB, p_revT, p_revL, p_isInt, p_isBool, p_isStr, p_isTuple, m_append, m_rev, shO_n, shO_s, shAt_c, isSh_d, isSh_l, isSh_s, isSh_f, raw_ow, raw_al, raws_n, raws_c, alK_n, alK_o, alK_a, back_n, back_o, back_l, back_s, back_f, owD_n, owD_c, owM_n, owM_c, bindM_n, bindM_c, bindN_n, bindN_c, bindT_n, bindT_t, wipe_n, wipe_c, fill_n, fillO_d, fillO_n, fillO_l, fill_c, lock_n, lock_s, open_n, open_s, aug_add, aug_sub, fturn_c, turn_c, fin_nx, fin_rt, ini_n, ini_c, outs_n, outs_d, outs_l, outs_s, outs_f, pins_n, pins_d, pins_l, pins_s, pins_f, inRng_0, inRng_1, inRng_2, eq_ti, eq_li, atI_0, atI_1, atI_2, atI_3, line_1, line_2, line_3, line_4, line_5, line_6, line_7, line_8, line_9, line_10, line_11, line_12, List.getElem?_cons_zero, List.getElem?_cons_succ, List.set_cons_zero, List.set_cons_succ, List.length_map, List.length_cons, List.length_nil, Option.bind_some, Option.bind_none, id, List.mem_cons, List.not_mem_nil, List.replicate_succ, List.replicate_zero, List.nil_append, List.cons_append, if_true, if_false, ite_true, ite_false, Bool.false_eq_true, Bool.or_false, Bool.false_or, Bool.or_true, Bool.true_or, Bool.and_true, Bool.true_and, Bool.and_false, Bool.false_and, Bool.not_true, Bool.not_false, decide_true, decide_false, or_false, false_or, or_true, true_or, and_true, true_and, List.nodup_cons, List.nodup_nil, not_false_eq_true, not_true_eq_false, decide_eq_true_eq, Bool.not_eq_true', decide_eq_false_iff_not, inPin, List.any_cons, List.any_nil, isTupD, isIntD, isBoolD, isStrD, isNoneD, Nat.reduceSub, Nat.reduceAdd, Nat.reduceLeDiff, Nat.reduceEqDiff, Nat.reduceMul, Nat.reducePow, Nat.sub_self, Nat.sub_zero, Int.reduceLT, Int.reduceLE, Int.reduceNeg, Int.reduceToNat, Int.reduceEq, Bool.and_self, decide_not, reduceCtorEq, Nat.zero_le, Option.toList_none, Option.toList_some, List.append_nil, true_implies, false_implies, implies_true, not_true, not_false_eq_true, Option.map_some, hl, List.map_id']
  have key : ∀ cs : List Int, 0 < cs.length → cs.length ≤ 63 → wp (xq (callF wf FS k) wf [0] (Sm.for_ (Tg.n 6) (Cs.Tm.var 1).rng1 ((Sm.set 7 (Tm.bin O2.mod (Cs.Tm.var 6) (Tm.un O1.len (Cs.Tm.var 2)))).seq ((Sm.ite ((Tm.bin O2.ge (Tm.bin O2.idx (Cs.Tm.var 2) (Cs.Tm.var 7)) (Tm.bin O2.pow (Tm.cst (PyData.int (10))) (Tm.cst (PyData.int (18))))).and_ (Tm.bin O2.gt (Tm.bin O2.idx (Cs.Tm.var 4) (Cs.Tm.var 7)) (Tm.cst (PyData.int (0))))) ((Sm.ex (Tm.mt1 Mt.append 5 (Tm.bin O2.mod (Tm.un O1.int (Tm.bin O2.idx (Cs.Tm.var 4) (Cs.Tm.var 7))) (Tm.cst (PyData.int (1000)))))).seq ((Sm.setI 4 (Cs.Tm.var 7) (Tm.bin O2.fdiv (Tm.bin O2.idx (Cs.Tm.var 4) (Cs.Tm.var 7)) (Tm.cst (PyData.int (1000))))).seq Sm.skip)) ((Sm.set 8 (Tm.bin O2.mod (Tm.un O1.int (Tm.bin O2.add (Tm.bin O2.add (Tm.bin O2.mul (Tm.bin O2.idx (Cs.Tm.var 2) (Cs.Tm.var 7)) (Tm.cst (PyData.int (48271)))) (Tm.bin O2.mul (Cs.Tm.var 6) (Tm.cst (PyData.int (69621))))) (Tm.cst (PyData.int (11))))) (Tm.cst (PyData.int (2147483647))))).seq ((Sm.ex (Tm.mt1 Mt.append 5 (Tm.bin O2.mod (Tm.un O1.int (Tm.bin O2.add (Tm.bin O2.add (Tm.bin O2.mul (Cs.Tm.var 8) (Cs.Tm.var 8)) (Tm.bin O2.mul (Tm.cst (PyData.int (3))) (Cs.Tm.var 8))) (Cs.Tm.var 6))) (Tm.cst (PyData.int (1000003)))))).seq Sm.skip))).seq Sm.skip)))
            [some (.fz (ns.map .int)), some (.d (.int m)), some (.lst (cs.map .int)), none, some (.lst (cs.map .int)), some (.lst []), none, none, none]) (fun q => q.1 = .nx ∧ ∃ (rs ds : List Int) (z1 z2 z3 : Option M), q.2 = [some (.fz (ns.map .int)), some (.d (.int m)), some (.lst (cs.map .int)), none, some (.lst (rs.map .int)), some (.lst (ds.map .int)), z1, z2, z3]) := by
    intro cs hc1 hc2
    simp -implicitDefEqProofs only [run_1, wp_some, wp_none, wp_bind, wp_map, wp_ite, bR_b, iR_i, dR_d, mR_m, look_d, look_l, look_s, look_f, unal_l, unal_s, unal_f, val_ow, val_al, c_var, c_cst, c_bin, c_un, c_and, c_or, c_not, c_ite, c_tup, c_lst, c_slice, c_lrng, c_trng, rngV_n, c_call, lstAt_l, c_mt0, c_mt1, cL_nil, cL_cons, cP_nil, cP_sm, cI_r1, cI_r2, cI_sq, walkAt_l, walkAt_s, walkAt_f, iter_t, iter_l, iter_a, nxt_nx, nxt_rt, nxt_bk, nxt_ct, q_skip, q_seq, q_set, q_par, tR_t, q_unp, q_setI, q_ex2, retV_ow, retV_al, q_ret2, q_retN, q_if, q_brk, q_cnt, augV_i, augV_l, augV_t, q_aug2, e_dB, e_dI, eq_ii, eq_bb, mem_ti, mem_li, atI_map, idx_t, idx_l, idx_f, cut_t, cut_l, sl_map, p_eq, p_ne, p_mem, p_nmem, p_idx, p_add, p_addT, p_addL, p_sub, p_mulT, p_mulL, p_fdiv, p_mod, p_pow, p_lt, p_le, p_gt, p_ge, p_maxm, p_minm, p_neg, p_isN, p_notN, p_isB, p_notB, p_lenT, p_lenL, p_lenF, p_tupL, p_tupT, p_listT, p_listL, p_abs, p_int, p_intB, p_revT, p_revL, p_isInt, p_isBool, p_isStr, p_isTuple, m_append, m_rev, shO_n, shO_s, shAt_c, isSh_d, isSh_l, isSh_s, isSh_f, raw_ow, raw_al, raws_n, raws_c, alK_n, alK_o, alK_a, back_n, back_o, back_l, back_s, back_f, owD_n, owD_c, owM_n, owM_c, bindM_n, bindM_c, bindN_n, bindN_c, bindT_n, bindT_t, wipe_n, wipe_c, fill_n, fillO_d, fillO_n, fillO_l, fill_c, lock_n, lock_s, open_n, open_s, aug_add, aug_sub, fturn_c, turn_c, fin_nx, fin_rt, ini_n, ini_c, outs_n, outs_d, outs_l, outs_s, outs_f, pins_n, pins_d, pins_l, pins_s, pins_f, inRng_0, inRng_1, inRng_2, eq_ti, eq_li, atI_0, atI_1, atI_2, atI_3, line_1, line_2, line_3, line_4, line_5, line_6, line_7, line_8, line_9, line_10, line_11, line_12, List.getElem?_cons_zero, List.getElem?_cons_succ, List.set_cons_zero, List.set_cons_succ, List.length_map, List.length_cons, List.length_nil, Option.bind_some, Option.bind_none, id, List.mem_cons, List.not_mem_nil, List.replicate_succ, List.replicate_zero, List.nil_append, List.cons_append, if_true, if_false, ite_true, ite_false, Bool.false_eq_true, Bool.or_false, Bool.false_or, Bool.or_true, Bool.true_or, Bool.and_true, Bool.true_and, Bool.and_false, Bool.false_and, Bool.not_true, Bool.not_false, decide_true, decide_false, or_false, false_or, or_true, true_or, and_true, true_and, List.nodup_cons, List.nodup_nil, not_false_eq_true, not_true_eq_false, decide_eq_true_eq, Bool.not_eq_true', decide_eq_false_iff_not, inPin, List.any_cons, List.any_nil, isTupD, isIntD, isBoolD, isStrD, isNoneD, Nat.reduceSub, Nat.reduceAdd, Nat.reduceLeDiff, Nat.reduceEqDiff, Nat.reduceMul, Nat.reducePow, Nat.sub_self, Nat.sub_zero, Int.reduceLT, Int.reduceLE, Int.reduceNeg, Int.reduceToNat, Int.reduceEq, Bool.and_self, decide_not, reduceCtorEq, Nat.zero_le, Option.toList_none, Option.toList_some, List.append_nil, true_implies, false_implies, implies_true, not_true, not_false_eq_true, Option.map_some, q_for, rngL_rg, inRng_of (i := m) (by omega)]
    refine wp_imp (forL_inv (f := fturn _ _ _ _ _) (d := PyData.int) (fun ys e => ∃ (rs ds : List Int) (z1 z2 z3 : Option M), e = [some (.fz (ns.map .int)), some (.d (.int m)), some (.lst (cs.map .int)), none, some (.lst (rs.map .int)), some (.lst (ds.map .int)), z1, z2, z3] ∧ shO (some z1) = false ∧ shO (some z2) = false ∧ shO (some z3) = false ∧ rs.length = cs.length ∧ ds.length + ys.length = (rg 0 m).length ∧ ∀ y ∈ ys, 0 ≤ y) (Q := fun q => q.1 = .nx ∧ ∃ (rs ds : List Int) (z1 z2 z3 : Option M), q.2 = [some (.fz (ns.map .int)), some (.d (.int m)), some (.lst (cs.map .int)), none, some (.lst (rs.map .int)), some (.lst (ds.map .int)), z1, z2, z3]) ?_ (rg 0 m) _ ⟨cs, [], none, none, none, rfl, rfl, rfl, rfl, rfl, by simp, fun y hy => (rg_mem.mp hy).1⟩ ?_) ?_
    · rintro e ⟨rs, ds, z1, z2, z3, rfl, _⟩
      exact ⟨rfl, rs, ds, z1, z2, z3, rfl⟩
    · rintro x ys e ⟨rs, ds, z1, z2, z3, rfl, hz1, hz2, hz3, h1, h2, h3⟩
      rw [rg_len, List.length_cons] at h2
      have hx := h3 x (List.mem_cons_self ..)
      have hcl : (0 : Int) < cs.length := by omega
      have a0 := Int.emod_nonneg x (show (cs.length : Int) ≠ 0 by omega)
      have a1 := Int.emod_lt_of_pos x hcl
      have hd : ds.length < sizeLine := lt_line (by omega)
      have mo : ∀ t : Int, p2 .mul (.d (.int (t % 2147483647))) (.d (.int (t % 2147483647))) = some (.d (.int (t % 2147483647 * (t % 2147483647)))) := fun t => mul_sl _ ⟨by omega, by omega⟩
      generalize hat : x % (cs.length : Int) = at_ at a0 a1
      have hix : L2.ixN rs.length at_ = some at_.toNat := by unfold L2.ixN; rw [if_pos a0, if_pos (by omega)]
      simp -implicitDefEqProofs only [run_1, wp_some, wp_none, wp_bind, wp_map, wp_ite, bR_b, iR_i, dR_d, mR_m, look_d, look_l, look_s, look_f, unal_l, unal_s, unal_f, val_ow, val_al, c_var, c_cst, c_bin, c_un, c_and, c_or, c_not, c_ite, c_tup, c_lst, c_slice, c_lrng, c_trng, rngV_n, c_call, lstAt_l, c_mt0, c_mt1, cL_nil, cL_cons, cP_nil, cP_sm, cI_r1, cI_r2, cI_sq, walkAt_l, walkAt_s, walkAt_f, iter_t, iter_l, iter_a, nxt_nx, nxt_rt, nxt_bk, nxt_ct, q_skip, q_seq, q_set, q_par, tR_t, q_unp, q_setI, q_ex2, retV_ow, retV_al, q_ret2, q_retN, q_if, q_brk, q_cnt, augV_i, augV_l, augV_t, q_aug2, e_dB, e_dI, eq_ii, eq_bb, mem_ti, mem_li, atI_map, idx_t, idx_l, idx_f, cut_t, cut_l, sl_map, p_eq, p_ne, p_mem, p_nmem, p_idx, p_add, p_addT, p_addL, p_sub, p_mulT, p_mulL, p_fdiv, p_mod, p_pow, p_lt, p_le, p_gt, p_ge, p_maxm, p_minm, p_neg, p_isN, p_notN, p_isB, p_notB, p_lenT, p_lenL, p_lenF, p_tupL, p_tupT, p_listT, p_listL, p_abs, p_int, p_intB, p_revT, p_revL, p_isInt, p_isBool, p_isStr, p_isTuple, m_append, m_rev, shO_n, shO_s, shAt_c, isSh_d, isSh_l, isSh_s, isSh_f, raw_ow, raw_al, raws_n, raws_c, alK_n, alK_o, alK_a, back_n, back_o, back_l, back_s, back_f, owD_n, owD_c, owM_n, owM_c, bindM_n, bindM_c, bindN_n, bindN_c, bindT_n, bindT_t, wipe_n, wipe_c, fill_n, fillO_d, fillO_n, fillO_l, fill_c, lock_n, lock_s, open_n, open_s, aug_add, aug_sub, fturn_c, turn_c, fin_nx, fin_rt, ini_n, ini_c, outs_n, outs_d, outs_l, outs_s, outs_f, pins_n, pins_d, pins_l, pins_s, pins_f, inRng_0, inRng_1, inRng_2, eq_ti, eq_li, atI_0, atI_1, atI_2, atI_3, line_1, line_2, line_3, line_4, line_5, line_6, line_7, line_8, line_9, line_10, line_11, line_12, List.getElem?_cons_zero, List.getElem?_cons_succ, List.set_cons_zero, List.set_cons_succ, List.length_map, List.length_cons, List.length_nil, Option.bind_some, Option.bind_none, id, List.mem_cons, List.not_mem_nil, List.replicate_succ, List.replicate_zero, List.nil_append, List.cons_append, if_true, if_false, ite_true, ite_false, Bool.false_eq_true, Bool.or_false, Bool.false_or, Bool.or_true, Bool.true_or, Bool.and_true, Bool.true_and, Bool.and_false, Bool.false_and, Bool.not_true, Bool.not_false, decide_true, decide_false, or_false, false_or, or_true, true_or, and_true, true_and, List.nodup_cons, List.nodup_nil, not_false_eq_true, not_true_eq_false, decide_eq_true_eq, Bool.not_eq_true', decide_eq_false_iff_not, inPin, List.any_cons, List.any_nil, isTupD, isIntD, isBoolD, isStrD, isNoneD, Nat.reduceSub, Nat.reduceAdd, Nat.reduceLeDiff, Nat.reduceEqDiff, Nat.reduceMul, Nat.reducePow, Nat.sub_self, Nat.sub_zero, Int.reduceLT, Int.reduceLE, Int.reduceNeg, Int.reduceToNat, Int.reduceEq, Bool.and_self, decide_not, reduceCtorEq, Nat.zero_le, Option.toList_none, Option.toList_some, List.append_nil, true_implies, false_implies, implies_true, not_true, not_false_eq_true, Option.map_some, hz1, hz2, hz3, hcl, hat, atI_map, atI_getD (xs := cs) (i := at_) 0 a0 a1, atI_getD (xs := rs) (i := at_) 0 a0 (by omega), mul_sr _ (j := 48271) (by decide +kernel), mul_sr _ (j := 69621) (by decide +kernel), mul_sl (i := 3) _ (by decide +kernel), mo, p_pow, hd, hix, show Int.natAbs 10 < 18446744073709551616 from by decide]
      have hy : ∀ y ∈ ys, 0 ≤ y := fun y hy => h3 y (List.mem_cons_of_mem _ hy)
      have f2 : ∀ (d : Int) (z : Option M), shO (some z) = false → ∃ (rs_1 ds_1 : List Int) (z1 z2 z3 : Option M), [some (.fz (ns.map .int)), some (.d (.int m)), some (.lst (cs.map .int)), none, some (.lst (rs.map .int)), some (.lst (ds.map .int ++ [.int d])), some (.d (.int x)), some (.d (.int at_)), z] = [some (.fz (ns.map .int)), some (.d (.int m)), some (.lst (cs.map .int)), none, some (.lst (rs_1.map .int)), some (.lst (ds_1.map .int)), z1, z2, z3] ∧ shO (some z1) = false ∧ shO (some z2) = false ∧ shO (some z3) = false ∧ rs_1.length = cs.length ∧ ds_1.length + ys.length = (rg 0 m).length ∧ ∀ y ∈ ys, 0 ≤ y := fun d z hz => by
        refine ⟨rs, ds ++ [d], some (.d (.int x)), some (.d (.int at_)), z, ?_, rfl, rfl, hz, h1, by rw [rg_len, List.length_append, List.length_singleton]; omega, hy⟩
        rw [List.map_append]; rfl
      refine ⟨fun _ => ⟨fun _ => ?_, fun _ => f2 _ _ rfl⟩, fun _ => f2 _ _ rfl⟩
      refine ⟨rs.set at_.toNat (rs.getD at_.toNat 0 / 1000), ds ++ [rs.getD at_.toNat 0 % 1000], some (.d (.int x)), some (.d (.int at_)), z3, ?_, rfl, rfl, hz3, by rw [List.length_set]; exact h1, by rw [rg_len, List.length_append, List.length_singleton]; omega, hy⟩
      rw [List.map_append, List.map_set]; rfl
    · rintro ⟨fl, e⟩ ⟨rfl, rs, ds, z1, z2, z3, rfl⟩
      exact ⟨rfl, rs, ds, z1, z2, z3, rfl⟩
  refine ⟨fun h => ?_, fun h => ?_⟩
  · have e : ns = [] := List.eq_nil_of_length_eq_zero (by omega)
    subst e
    have h0 : ([] : List Int).length < sizeLine := lt_line (by decide)
    simp only [List.length_nil] at h0
    simp -implicitDefEqProofs only [run_1, wp_some, wp_none, wp_bind, wp_map, wp_ite, bR_b, iR_i, dR_d, mR_m, look_d, look_l, look_s, look_f, unal_l, unal_s, unal_f, val_ow, val_al, c_var, c_cst, c_bin, c_un, c_and, c_or, c_not, c_ite, c_tup, c_lst, c_slice, c_lrng, c_trng, rngV_n, c_call, lstAt_l, c_mt0, c_mt1, cL_nil, cL_cons, cP_nil, cP_sm, cI_r1, cI_r2, cI_sq, walkAt_l, walkAt_s, walkAt_f, iter_t, iter_l, iter_a, nxt_nx, nxt_rt, nxt_bk, nxt_ct, q_skip, q_seq, q_set, q_par, tR_t, q_unp, q_setI, q_ex2, retV_ow, retV_al, q_ret2, q_retN, q_if, q_brk, q_cnt, augV_i, augV_l, augV_t, q_aug2, e_dB, e_dI, eq_ii, eq_bb, mem_ti, mem_li, atI_map, idx_t, idx_l, idx_f, cut_t, cut_l, sl_map, p_eq, p_ne, p_mem, p_nmem, p_idx, p_add, p_addT, p_addL, p_sub, p_mulT, p_mulL, p_fdiv, p_mod, p_pow, p_lt, p_le, p_gt, p_ge, p_maxm, p_minm, p_neg, p_isN, p_notN, p_isB, p_notB, p_lenT, p_lenL, p_lenF, p_tupL, p_tupT, p_listT, p_listL, p_abs, p_int, p_intB, p_revT, p_revL, p_isInt, p_isBool, p_isStr, p_isTuple, m_append, m_rev, shO_n, shO_s, shAt_c, isSh_d, isSh_l, isSh_s, isSh_f, raw_ow, raw_al, raws_n, raws_c, alK_n, alK_o, alK_a, back_n, back_o, back_l, back_s, back_f, owD_n, owD_c, owM_n, owM_c, bindM_n, bindM_c, bindN_n, bindN_c, bindT_n, bindT_t, wipe_n, wipe_c, fill_n, fillO_d, fillO_n, fillO_l, fill_c, lock_n, lock_s, open_n, open_s, aug_add, aug_sub, fturn_c, turn_c, fin_nx, fin_rt, ini_n, ini_c, outs_n, outs_d, outs_l, outs_s, outs_f, pins_n, pins_d, pins_l, pins_s, pins_f, inRng_0, inRng_1, inRng_2, eq_ti, eq_li, atI_0, atI_1, atI_2, atI_3, line_1, line_2, line_3, line_4, line_5, line_6, line_7, line_8, line_9, line_10, line_11, line_12, List.getElem?_cons_zero, List.getElem?_cons_succ, List.set_cons_zero, List.set_cons_succ, List.length_map, List.length_cons, List.length_nil, Option.bind_some, Option.bind_none, id, List.mem_cons, List.not_mem_nil, List.replicate_succ, List.replicate_zero, List.nil_append, List.cons_append, if_true, if_false, ite_true, ite_false, Bool.false_eq_true, Bool.or_false, Bool.false_or, Bool.or_true, Bool.true_or, Bool.and_true, Bool.true_and, Bool.and_false, Bool.false_and, Bool.not_true, Bool.not_false, decide_true, decide_false, or_false, false_or, or_true, true_or, and_true, true_and, List.nodup_cons, List.nodup_nil, not_false_eq_true, not_true_eq_false, decide_eq_true_eq, Bool.not_eq_true', decide_eq_false_iff_not, inPin, List.any_cons, List.any_nil, isTupD, isIntD, isBoolD, isStrD, isNoneD, Nat.reduceSub, Nat.reduceAdd, Nat.reduceLeDiff, Nat.reduceEqDiff, Nat.reduceMul, Nat.reducePow, Nat.sub_self, Nat.sub_zero, Int.reduceLT, Int.reduceLE, Int.reduceNeg, Int.reduceToNat, Int.reduceEq, Bool.and_self, decide_not, reduceCtorEq, Nat.zero_le, Option.toList_none, Option.toList_some, List.append_nil, true_implies, false_implies, implies_true, not_true, not_false_eq_true, Option.map_some, h0, List.length_nil, line_1]
    refine wp_imp (key [0] (by decide) (by decide)) ?_
    rintro ⟨fl, e⟩ ⟨rfl, rs, ds, z1, z2, z3, rfl⟩
    simp -implicitDefEqProofs only [run_1, wp_some, wp_none, wp_bind, wp_map, wp_ite, bR_b, iR_i, dR_d, mR_m, look_d, look_l, look_s, look_f, unal_l, unal_s, unal_f, val_ow, val_al, c_var, c_cst, c_bin, c_un, c_and, c_or, c_not, c_ite, c_tup, c_lst, c_slice, c_lrng, c_trng, rngV_n, c_call, lstAt_l, c_mt0, c_mt1, cL_nil, cL_cons, cP_nil, cP_sm, cI_r1, cI_r2, cI_sq, walkAt_l, walkAt_s, walkAt_f, iter_t, iter_l, iter_a, nxt_nx, nxt_rt, nxt_bk, nxt_ct, q_skip, q_seq, q_set, q_par, tR_t, q_unp, q_setI, q_ex2, retV_ow, retV_al, q_ret2, q_retN, q_if, q_brk, q_cnt, augV_i, augV_l, augV_t, q_aug2, e_dB, e_dI, eq_ii, eq_bb, mem_ti, mem_li, atI_map, idx_t, idx_l, idx_f, cut_t, cut_l, sl_map, p_eq, p_ne, p_mem, p_nmem, p_idx, p_add, p_addT, p_addL, p_sub, p_mulT, p_mulL, p_fdiv, p_mod, p_pow, p_lt, p_le, p_gt, p_ge, p_maxm, p_minm, p_neg, p_isN, p_notN, p_isB, p_notB, p_lenT, p_lenL, p_lenF, p_tupL, p_tupT, p_listT, p_listL, p_abs, p_int, p_intB, p_revT, p_revL, p_isInt, p_isBool, p_isStr, p_isTuple, m_append, m_rev, shO_n, shO_s, shAt_c, isSh_d, isSh_l, isSh_s, isSh_f, raw_ow, raw_al, raws_n, raws_c, alK_n, alK_o, alK_a, back_n, back_o, back_l, back_s, back_f, owD_n, owD_c, owM_n, owM_c, bindM_n, bindM_c, bindN_n, bindN_c, bindT_n, bindT_t, wipe_n, wipe_c, fill_n, fillO_d, fillO_n, fillO_l, fill_c, lock_n, lock_s, open_n, open_s, aug_add, aug_sub, fturn_c, turn_c, fin_nx, fin_rt, ini_n, ini_c, outs_n, outs_d, outs_l, outs_s, outs_f, pins_n, pins_d, pins_l, pins_s, pins_f, inRng_0, inRng_1, inRng_2, eq_ti, eq_li, atI_0, atI_1, atI_2, atI_3, line_1, line_2, line_3, line_4, line_5, line_6, line_7, line_8, line_9, line_10, line_11, line_12, List.getElem?_cons_zero, List.getElem?_cons_succ, List.set_cons_zero, List.set_cons_succ, List.length_map, List.length_cons, List.length_nil, Option.bind_some, Option.bind_none, id, List.mem_cons, List.not_mem_nil, List.replicate_succ, List.replicate_zero, List.nil_append, List.cons_append, if_true, if_false, ite_true, ite_false, Bool.false_eq_true, Bool.or_false, Bool.false_or, Bool.or_true, Bool.true_or, Bool.and_true, Bool.true_and, Bool.and_false, Bool.false_and, Bool.not_true, Bool.not_false, decide_true, decide_false, or_false, false_or, or_true, true_or, and_true, true_and, List.nodup_cons, List.nodup_nil, not_false_eq_true, not_true_eq_false, decide_eq_true_eq, Bool.not_eq_true', decide_eq_false_iff_not, inPin, List.any_cons, List.any_nil, isTupD, isIntD, isBoolD, isStrD, isNoneD, Nat.reduceSub, Nat.reduceAdd, Nat.reduceLeDiff, Nat.reduceEqDiff, Nat.reduceMul, Nat.reducePow, Nat.sub_self, Nat.sub_zero, Int.reduceLT, Int.reduceLE, Int.reduceNeg, Int.reduceToNat, Int.reduceEq, Bool.and_self, decide_not, reduceCtorEq, Nat.zero_le, Option.toList_none, Option.toList_some, List.append_nil, true_implies, false_implies, implies_true, not_true, not_false_eq_true, Option.map_some]
    exact ⟨ds.reverse, by rw [List.map_reverse]⟩
  · refine wp_imp (key ns (by omega) hn) ?_
    rintro ⟨fl, e⟩ ⟨rfl, rs, ds, z1, z2, z3, rfl⟩
    simp -implicitDefEqProofs only [run_1, wp_some, wp_none, wp_bind, wp_map, wp_ite, bR_b, iR_i, dR_d, mR_m, look_d, look_l, look_s, look_f, unal_l, unal_s, unal_f, val_ow, val_al, c_var, c_cst, c_bin, c_un, c_and, c_or, c_not, c_ite, c_tup, c_lst, c_slice, c_lrng, c_trng, rngV_n, c_call, lstAt_l, c_mt0, c_mt1, cL_nil, cL_cons, cP_nil, cP_sm, cI_r1, cI_r2, cI_sq, walkAt_l, walkAt_s, walkAt_f, iter_t, iter_l, iter_a, nxt_nx, nxt_rt, nxt_bk, nxt_ct, q_skip, q_seq, q_set, q_par, tR_t, q_unp, q_setI, q_ex2, retV_ow, retV_al, q_ret2, q_retN, q_if, q_brk, q_cnt, augV_i, augV_l, augV_t, q_aug2, e_dB, e_dI, eq_ii, eq_bb, mem_ti, mem_li, atI_map, idx_t, idx_l, idx_f, cut_t, cut_l, sl_map, p_eq, p_ne, p_mem, p_nmem, p_idx, p_add, p_addT, p_addL, p_sub, p_mulT, p_mulL, p_fdiv, p_mod, p_pow, p_lt, p_le, p_gt, p_ge, p_maxm, p_minm, p_neg, p_isN, p_notN, p_isB, p_notB, p_lenT, p_lenL, p_lenF, p_tupL, p_tupT, p_listT, p_listL, p_abs, p_int, p_intB, p_revT, p_revL, p_isInt, p_isBool, p_isStr, p_isTuple, m_append, m_rev, shO_n, shO_s, shAt_c, isSh_d, isSh_l, isSh_s, isSh_f, raw_ow, raw_al, raws_n, raws_c, alK_n, alK_o, alK_a, back_n, back_o, back_l, back_s, back_f, owD_n, owD_c, owM_n, owM_c, bindM_n, bindM_c, bindN_n, bindN_c, bindT_n, bindT_t, wipe_n, wipe_c, fill_n, fillO_d, fillO_n, fillO_l, fill_c, lock_n, lock_s, open_n, open_s, aug_add, aug_sub, fturn_c, turn_c, fin_nx, fin_rt, ini_n, ini_c, outs_n, outs_d, outs_l, outs_s, outs_f, pins_n, pins_d, pins_l, pins_s, pins_f, inRng_0, inRng_1, inRng_2, eq_ti, eq_li, atI_0, atI_1, atI_2, atI_3, line_1, line_2, line_3, line_4, line_5, line_6, line_7, line_8, line_9, line_10, line_11, line_12, List.getElem?_cons_zero, List.getElem?_cons_succ, List.set_cons_zero, List.set_cons_succ, List.length_map, List.length_cons, List.length_nil, Option.bind_some, Option.bind_none, id, List.mem_cons, List.not_mem_nil, List.replicate_succ, List.replicate_zero, List.nil_append, List.cons_append, if_true, if_false, ite_true, ite_false, Bool.false_eq_true, Bool.or_false, Bool.false_or, Bool.or_true, Bool.true_or, Bool.and_true, Bool.true_and, Bool.and_false, Bool.false_and, Bool.not_true, Bool.not_false, decide_true, decide_false, or_false, false_or, or_true, true_or, and_true, true_and, List.nodup_cons, List.nodup_nil, not_false_eq_true, not_true_eq_false, decide_eq_true_eq, Bool.not_eq_true', decide_eq_false_iff_not, inPin, List.any_cons, List.any_nil, isTupD, isIntD, isBoolD, isStrD, isNoneD, Nat.reduceSub, Nat.reduceAdd, Nat.reduceLeDiff, Nat.reduceEqDiff, Nat.reduceMul, Nat.reducePow, Nat.sub_self, Nat.sub_zero, Int.reduceLT, Int.reduceLE, Int.reduceNeg, Int.reduceToNat, Int.reduceEq, Bool.and_self, decide_not, reduceCtorEq, Nat.zero_le, Option.toList_none, Option.toList_some, List.append_nil, true_implies, false_implies, implies_true, not_true, not_false_eq_true, Option.map_some]
    exact ⟨ds.reverse, by rw [List.map_reverse]⟩
theorem law_undone_sp (wf k : Nat) (w : List Int) (hw : w.length ≤ 10000) : callF wf FS (k + 1) 16 [.d (tI w)] = some (.d (tI (und w)), [.d (tI w)]) := by
  rw [call_law_undone]
  unfold f_law_undone b_law_undone
  have hl : w.length ≤ sizeLine := le_line (by omega)
  simp -implicitDefEqProofs only [run_1, wp_some, wp_none, wp_bind, wp_map, wp_ite, bR_b, iR_i, dR_d, mR_m, look_d, look_l, look_s, look_f, unal_l, unal_s, unal_f, val_ow, val_al, c_var, c_cst, c_bin, c_un, c_and, c_or, c_not, c_ite, c_tup, c_lst, c_slice, c_lrng, c_trng, rngV_n, c_call, lstAt_l, c_mt0, c_mt1, cL_nil, cL_cons, cP_nil, cP_sm, cI_r1, cI_r2, cI_sq, walkAt_l, walkAt_s, walkAt_f, iter_t, iter_l, iter_a, nxt_nx, nxt_rt, nxt_bk, nxt_ct, q_skip, q_seq, q_set, q_par, tR_t, q_unp, q_setI, q_ex2, retV_ow, retV_al, q_ret2, q_retN, q_if, q_brk, q_cnt, augV_i, augV_l, augV_t, q_aug2, e_dB, e_dI, eq_ii, eq_bb, mem_ti, mem_li, atI_map, idx_t, idx_l, idx_f, cut_t, cut_l, sl_map, p_eq, p_ne, p_mem, p_nmem, p_idx, p_add, p_addT, p_addL, p_sub, p_mulT, p_mulL, p_fdiv, p_mod, p_pow, p_lt, p_le, p_gt, p_ge, p_maxm, p_minm, p_neg, p_isN, p_notN, p_isB, p_notB, p_lenT, p_lenL, p_lenF, p_tupL, p_tupT, p_listT, p_listL, p_abs, p_int, p_intB, p_revT, p_revL, p_isInt, p_isBool, p_isStr, p_isTuple, m_append, m_rev, shO_n, shO_s, shAt_c, isSh_d, isSh_l, isSh_s, isSh_f, raw_ow, raw_al, raws_n, raws_c, alK_n, alK_o, alK_a, back_n, back_o, back_l, back_s, back_f, owD_n, owD_c, owM_n, owM_c, bindM_n, bindM_c, bindN_n, bindN_c, bindT_n, bindT_t, wipe_n, wipe_c, fill_n, fillO_d, fillO_n, fillO_l, fill_c, lock_n, lock_s, open_n, open_s, aug_add, aug_sub, fturn_c, turn_c, fin_nx, fin_rt, ini_n, ini_c, outs_n, outs_d, outs_l, outs_s, outs_f, pins_n, pins_d, pins_l, pins_s, pins_f, inRng_0, inRng_1, inRng_2, eq_ti, eq_li, atI_0, atI_1, atI_2, atI_3, line_1, line_2, line_3, line_4, line_5, line_6, line_7, line_8, line_9, line_10, line_11, line_12, List.getElem?_cons_zero, List.getElem?_cons_succ, List.set_cons_zero, List.set_cons_succ, List.length_map, List.length_cons, List.length_nil, Option.bind_some, Option.bind_none, id, List.mem_cons, List.not_mem_nil, List.replicate_succ, List.replicate_zero, List.nil_append, List.cons_append, if_true, if_false, ite_true, ite_false, Bool.false_eq_true, Bool.or_false, Bool.false_or, Bool.or_true, Bool.true_or, Bool.and_true, Bool.true_and, Bool.and_false, Bool.false_and, Bool.not_true, Bool.not_false, decide_true, decide_false, or_false, false_or, or_true, true_or, and_true, true_and, List.nodup_cons, List.nodup_nil, not_false_eq_true, not_true_eq_false, decide_eq_true_eq, Bool.not_eq_true', decide_eq_false_iff_not, inPin, List.any_cons, List.any_nil, isTupD, isIntD, isBoolD, isStrD, isNoneD, Nat.reduceSub, Nat.reduceAdd, Nat.reduceLeDiff, Nat.reduceEqDiff, Nat.reduceMul, Nat.reducePow, Nat.sub_self, Nat.sub_zero, Int.reduceLT, Int.reduceLE, Int.reduceNeg, Int.reduceToNat, Int.reduceEq, Bool.and_self, decide_not, reduceCtorEq, Nat.zero_le, Option.toList_none, Option.toList_some, List.append_nil, true_implies, false_implies, implies_true, not_true, not_false_eq_true, Option.map_some, c_comp]
  rw [← List.map_reverse, compL_map (f := turn _ _ _ _ _) (r := PyData.int) (fun x => -x)]
  · simp -implicitDefEqProofs only [run_1, wp_some, wp_none, wp_bind, wp_map, wp_ite, bR_b, iR_i, dR_d, mR_m, look_d, look_l, look_s, look_f, unal_l, unal_s, unal_f, val_ow, val_al, c_var, c_cst, c_bin, c_un, c_and, c_or, c_not, c_ite, c_tup, c_lst, c_slice, c_lrng, c_trng, rngV_n, c_call, lstAt_l, c_mt0, c_mt1, cL_nil, cL_cons, cP_nil, cP_sm, cI_r1, cI_r2, cI_sq, walkAt_l, walkAt_s, walkAt_f, iter_t, iter_l, iter_a, nxt_nx, nxt_rt, nxt_bk, nxt_ct, q_skip, q_seq, q_set, q_par, tR_t, q_unp, q_setI, q_ex2, retV_ow, retV_al, q_ret2, q_retN, q_if, q_brk, q_cnt, augV_i, augV_l, augV_t, q_aug2, e_dB, e_dI, eq_ii, eq_bb, mem_ti, mem_li, atI_map, idx_t, idx_l, idx_f, cut_t, cut_l, sl_map, p_eq, p_ne, p_mem, p_nmem, p_idx, p_add, p_addT, p_addL, p_sub, p_mulT, p_mulL, p_fdiv, p_mod, p_pow, p_lt, p_le, p_gt, p_ge, p_maxm, p_minm, p_neg, p_isN, p_notN, p_isB, p_notB, p_lenT, p_lenL, p_lenF, p_tupL, p_tupT, p_listT, p_listL, p_abs, p_int, p_intB, p_revT, p_revL, p_isInt, p_isBool, p_isStr, p_isTuple, m_append, m_rev, shO_n, shO_s, shAt_c, isSh_d, isSh_l, isSh_s, isSh_f, raw_ow, raw_al, raws_n, raws_c, alK_n, alK_o, alK_a, back_n, back_o, back_l, back_s, back_f, owD_n, owD_c, owM_n, owM_c, bindM_n, bindM_c, bindN_n, bindN_c, bindT_n, bindT_t, wipe_n, wipe_c, fill_n, fillO_d, fillO_n, fillO_l, fill_c, lock_n, lock_s, open_n, open_s, aug_add, aug_sub, fturn_c, turn_c, fin_nx, fin_rt, ini_n, ini_c, outs_n, outs_d, outs_l, outs_s, outs_f, pins_n, pins_d, pins_l, pins_s, pins_f, inRng_0, inRng_1, inRng_2, eq_ti, eq_li, atI_0, atI_1, atI_2, atI_3, line_1, line_2, line_3, line_4, line_5, line_6, line_7, line_8, line_9, line_10, line_11, line_12, List.getElem?_cons_zero, List.getElem?_cons_succ, List.set_cons_zero, List.set_cons_succ, List.length_map, List.length_cons, List.length_nil, Option.bind_some, Option.bind_none, id, List.mem_cons, List.not_mem_nil, List.replicate_succ, List.replicate_zero, List.nil_append, List.cons_append, if_true, if_false, ite_true, ite_false, Bool.false_eq_true, Bool.or_false, Bool.false_or, Bool.or_true, Bool.true_or, Bool.and_true, Bool.true_and, Bool.and_false, Bool.false_and, Bool.not_true, Bool.not_false, decide_true, decide_false, or_false, false_or, or_true, true_or, and_true, true_and, List.nodup_cons, List.nodup_nil, not_false_eq_true, not_true_eq_false, decide_eq_true_eq, Bool.not_eq_true', decide_eq_false_iff_not, inPin, List.any_cons, List.any_nil, isTupD, isIntD, isBoolD, isStrD, isNoneD, Nat.reduceSub, Nat.reduceAdd, Nat.reduceLeDiff, Nat.reduceEqDiff, Nat.reduceMul, Nat.reducePow, Nat.sub_self, Nat.sub_zero, Int.reduceLT, Int.reduceLE, Int.reduceNeg, Int.reduceToNat, Int.reduceEq, Bool.and_self, decide_not, reduceCtorEq, Nat.zero_le, Option.toList_none, Option.toList_some, List.append_nil, true_implies, false_implies, implies_true, not_true, not_false_eq_true, Option.map_some, List.length_reverse, hl]
    rfl
  · intro x hx
    simp -implicitDefEqProofs only [run_1, wp_some, wp_none, wp_bind, wp_map, wp_ite, bR_b, iR_i, dR_d, mR_m, look_d, look_l, look_s, look_f, unal_l, unal_s, unal_f, val_ow, val_al, c_var, c_cst, c_bin, c_un, c_and, c_or, c_not, c_ite, c_tup, c_lst, c_slice, c_lrng, c_trng, rngV_n, c_call, lstAt_l, c_mt0, c_mt1, cL_nil, cL_cons, cP_nil, cP_sm, cI_r1, cI_r2, cI_sq, walkAt_l, walkAt_s, walkAt_f, iter_t, iter_l, iter_a, nxt_nx, nxt_rt, nxt_bk, nxt_ct, q_skip, q_seq, q_set, q_par, tR_t, q_unp, q_setI, q_ex2, retV_ow, retV_al, q_ret2, q_retN, q_if, q_brk, q_cnt, augV_i, augV_l, augV_t, q_aug2, e_dB, e_dI, eq_ii, eq_bb, mem_ti, mem_li, atI_map, idx_t, idx_l, idx_f, cut_t, cut_l, sl_map, p_eq, p_ne, p_mem, p_nmem, p_idx, p_add, p_addT, p_addL, p_sub, p_mulT, p_mulL, p_fdiv, p_mod, p_pow, p_lt, p_le, p_gt, p_ge, p_maxm, p_minm, p_neg, p_isN, p_notN, p_isB, p_notB, p_lenT, p_lenL, p_lenF, p_tupL, p_tupT, p_listT, p_listL, p_abs, p_int, p_intB, p_revT, p_revL, p_isInt, p_isBool, p_isStr, p_isTuple, m_append, m_rev, shO_n, shO_s, shAt_c, isSh_d, isSh_l, isSh_s, isSh_f, raw_ow, raw_al, raws_n, raws_c, alK_n, alK_o, alK_a, back_n, back_o, back_l, back_s, back_f, owD_n, owD_c, owM_n, owM_c, bindM_n, bindM_c, bindN_n, bindN_c, bindT_n, bindT_t, wipe_n, wipe_c, fill_n, fillO_d, fillO_n, fillO_l, fill_c, lock_n, lock_s, open_n, open_s, aug_add, aug_sub, fturn_c, turn_c, fin_nx, fin_rt, ini_n, ini_c, outs_n, outs_d, outs_l, outs_s, outs_f, pins_n, pins_d, pins_l, pins_s, pins_f, inRng_0, inRng_1, inRng_2, eq_ti, eq_li, atI_0, atI_1, atI_2, atI_3, line_1, line_2, line_3, line_4, line_5, line_6, line_7, line_8, line_9, line_10, line_11, line_12, List.getElem?_cons_zero, List.getElem?_cons_succ, List.set_cons_zero, List.set_cons_succ, List.length_map, List.length_cons, List.length_nil, Option.bind_some, Option.bind_none, id, List.mem_cons, List.not_mem_nil, List.replicate_succ, List.replicate_zero, List.nil_append, List.cons_append, if_true, if_false, ite_true, ite_false, Bool.false_eq_true, Bool.or_false, Bool.false_or, Bool.or_true, Bool.true_or, Bool.and_true, Bool.true_and, Bool.and_false, Bool.false_and, Bool.not_true, Bool.not_false, decide_true, decide_false, or_false, false_or, or_true, true_or, and_true, true_and, List.nodup_cons, List.nodup_nil, not_false_eq_true, not_true_eq_false, decide_eq_true_eq, Bool.not_eq_true', decide_eq_false_iff_not, inPin, List.any_cons, List.any_nil, isTupD, isIntD, isBoolD, isStrD, isNoneD, Nat.reduceSub, Nat.reduceAdd, Nat.reduceLeDiff, Nat.reduceEqDiff, Nat.reduceMul, Nat.reducePow, Nat.sub_self, Nat.sub_zero, Int.reduceLT, Int.reduceLE, Int.reduceNeg, Int.reduceToNat, Int.reduceEq, Bool.and_self, decide_not, reduceCtorEq, Nat.zero_le, Option.toList_none, Option.toList_some, List.append_nil, true_implies, false_implies, implies_true, not_true, not_false_eq_true, Option.map_some]
/-- how a table of four numbers stands -/
structure M2 where
  a : Int
  b : Int
  c : Int
  d : Int
  deriving DecidableEq
def M2.l (m : M2) : List Int := [m.a, m.b, m.c, m.d]
theorem M2.l_inj {m n : M2} : m.l = n.l ↔ m = n := by
  cases m; cases n; simp [M2.l]
def M2.mul (m n : M2) : M2 := ⟨m.a * n.a + m.b * n.c, m.a * n.b + m.b * n.d, m.c * n.a + m.d * n.c, m.c * n.b + m.d * n.d⟩
def M2.one : M2 := ⟨1, 0, 0, 1⟩
def M2.adj (m : M2) : M2 := ⟨m.d, -m.b, -m.c, m.a⟩
abbrev tM (m : M2) : PyData := .tuple [.int m.a, .int m.b, .int m.c, .int m.d]
theorem tM_l (m : M2) : tM m = tI m.l := rfl
theorem eq_tM (m n : M2) : eq? (.d (tM m)) (.d (tM n)) = some (decide (m = n)) := by
  rw [tM_l, tM_l, eq_ti]
  exact congrArg some (decide_eq_decide.mpr M2.l_inj)
def M2.Bd (p : Nat) (m : M2) : Prop := m.a.natAbs < 2 ^ p ∧ m.b.natAbs < 2 ^ p ∧ m.c.natAbs < 2 ^ p ∧ m.d.natAbs < 2 ^ p
theorem bd_step {x y u v : Int} {p q : Nat} (h1 : x.natAbs < 2 ^ p) (h2 : y.natAbs < 2 ^ p) (h3 : u.natAbs < 2 ^ q) (h4 : v.natAbs < 2 ^ q) : (x * u + y * v).natAbs < 2 ^ (p + q + 1) := by
  have a1 : (x * u).natAbs < 2 ^ (p + q) := L2.wide_lt h1 h3
  have a2 : (y * v).natAbs < 2 ^ (p + q) := L2.wide_lt h2 h4
  have : (2 : Nat) ^ (p + q + 1) = 2 * 2 ^ (p + q) := by rw [Nat.pow_succ, Nat.mul_comm]
  omega
theorem M2.Bd.mul {m n : M2} {p q : Nat} (h : m.Bd p) (k : n.Bd q) : (m.mul n).Bd (p + q + 1) :=
  ⟨bd_step h.1 h.2.1 k.1 k.2.2.1, bd_step h.1 h.2.1 k.2.1 k.2.2.2, bd_step h.2.2.1 h.2.2.2 k.1 k.2.2.1, bd_step h.2.2.1 h.2.2.2 k.2.1 k.2.2.2⟩
theorem M2.Bd.adj {m : M2} {p : Nat} (h : m.Bd p) : m.adj.Bd p := ⟨h.2.2.2, by simpa [M2.adj] using h.2.1, by simpa [M2.adj] using h.2.2.1, h.1⟩
theorem M2.Bd.le {m : M2} {p q : Nat} (h : m.Bd p) (hq : p ≤ q) : m.Bd q := by
  have e : (2 : Nat) ^ p ≤ 2 ^ q := Nat.pow_le_pow_right (by decide) hq
  exact ⟨Nat.lt_of_lt_of_le h.1 e, Nat.lt_of_lt_of_le h.2.1 e, Nat.lt_of_lt_of_le h.2.2.1 e, Nat.lt_of_lt_of_le h.2.2.2 e⟩
theorem law_times_sp (wf k : Nat) (m n : M2) (p q : Nat) (hp : m.Bd p) (hq : n.Bd q) (p0 : 0 < p) (q0 : 0 < q) (h : p + q ≤ 100000) : callF wf FS (k + 1) 18 [.d (tM m), .d (tM n)] = some (.d (tM (m.mul n)), [.d (tM m), .d (tM n)]) := by
  rw [call_law_times]
  unfold f_law_times b_law_times
  have hb : ∀ x y : Int, x.natAbs < 2 ^ p → y.natAbs < 2 ^ q → p2 .mul (.d (.int x)) (.d (.int y)) = some (.d (.int (x * y))) := fun x y h1 h2 => mul_bd p q h1 h2 p0 q0 (by omega)
  obtain ⟨a1, a2, a3, a4⟩ := hp
  obtain ⟨b1, b2, b3, b4⟩ := hq
  simp -implicitDefEqProofs only [run_1, wp_some, wp_none, wp_bind, wp_map, wp_ite, bR_b, iR_i, dR_d, mR_m, look_d, look_l, look_s, look_f, unal_l, unal_s, unal_f, val_ow, val_al, c_var, c_cst, c_bin, c_un, c_and, c_or, c_not, c_ite, c_tup, c_lst, c_slice, c_lrng, c_trng, rngV_n, c_call, lstAt_l, c_mt0, c_mt1, cL_nil, cL_cons, cP_nil, cP_sm, cI_r1, cI_r2, cI_sq, walkAt_l, walkAt_s, walkAt_f, iter_t, iter_l, iter_a, nxt_nx, nxt_rt, nxt_bk, nxt_ct, q_skip, q_seq, q_set, q_par, tR_t, q_unp, q_setI, q_ex2, retV_ow, retV_al, q_ret2, q_retN, q_if, q_brk, q_cnt, augV_i, augV_l, augV_t, q_aug2, e_dB, e_dI, eq_ii, eq_bb, mem_ti, mem_li, atI_map, idx_t, idx_l, idx_f, cut_t, cut_l, sl_map, p_eq, p_ne, p_mem, p_nmem, p_idx, p_add, p_addT, p_addL, p_sub, p_mulT, p_mulL, p_fdiv, p_mod, p_pow, p_lt, p_le, p_gt, p_ge, p_maxm, p_minm, p_neg, p_isN, p_notN, p_isB, p_notB, p_lenT, p_lenL, p_lenF, p_tupL, p_tupT, p_listT, p_listL, p_abs, p_int, p_intB, p_revT, p_revL, p_isInt, p_isBool, p_isStr, p_isTuple, m_append, m_rev, shO_n, shO_s, shAt_c, isSh_d, isSh_l, isSh_s, isSh_f, raw_ow, raw_al, raws_n, raws_c, alK_n, alK_o, alK_a, back_n, back_o, back_l, back_s, back_f, owD_n, owD_c, owM_n, owM_c, bindM_n, bindM_c, bindN_n, bindN_c, bindT_n, bindT_t, wipe_n, wipe_c, fill_n, fillO_d, fillO_n, fillO_l, fill_c, lock_n, lock_s, open_n, open_s, aug_add, aug_sub, fturn_c, turn_c, fin_nx, fin_rt, ini_n, ini_c, outs_n, outs_d, outs_l, outs_s, outs_f, pins_n, pins_d, pins_l, pins_s, pins_f, inRng_0, inRng_1, inRng_2, eq_ti, eq_li, atI_0, atI_1, atI_2, atI_3, line_1, line_2, line_3, line_4, line_5, line_6, line_7, line_8, line_9, line_10, line_11, line_12, List.getElem?_cons_zero, List.getElem?_cons_succ, List.set_cons_zero, List.set_cons_succ, List.length_map, List.length_cons, List.length_nil, Option.bind_some, Option.bind_none, id, List.mem_cons, List.not_mem_nil, List.replicate_succ, List.replicate_zero, List.nil_append, List.cons_append, if_true, if_false, ite_true, ite_false, Bool.false_eq_true, Bool.or_false, Bool.false_or, Bool.or_true, Bool.true_or, Bool.and_true, Bool.true_and, Bool.and_false, Bool.false_and, Bool.not_true, Bool.not_false, decide_true, decide_false, or_false, false_or, or_true, true_or, and_true, true_and, List.nodup_cons, List.nodup_nil, not_false_eq_true, not_true_eq_false, decide_eq_true_eq, Bool.not_eq_true', decide_eq_false_iff_not, inPin, List.any_cons, List.any_nil, isTupD, isIntD, isBoolD, isStrD, isNoneD, Nat.reduceSub, Nat.reduceAdd, Nat.reduceLeDiff, Nat.reduceEqDiff, Nat.reduceMul, Nat.reducePow, Nat.sub_self, Nat.sub_zero, Int.reduceLT, Int.reduceLE, Int.reduceNeg, Int.reduceToNat, Int.reduceEq, Bool.and_self, decide_not, reduceCtorEq, Nat.zero_le, Option.toList_none, Option.toList_some, List.append_nil, true_implies, false_implies, implies_true, not_true, not_false_eq_true, Option.map_some, atI_0, atI_1, atI_2, atI_3, line_2, line_4, hb _ _ a1 b1, hb _ _ a1 b2, hb _ _ a2 b3, hb _ _ a2 b4, hb _ _ a3 b1, hb _ _ a3 b2, hb _ _ a4 b3, hb _ _ a4 b4]
  rfl
theorem law_back_sp (wf k : Nat) (m : M2) : callF wf FS (k + 1) 21 [.d (tM m)] = some (.d (tM m.adj), [.d (tM m)]) := by
  rw [call_law_back]
  unfold f_law_back b_law_back
  simp -implicitDefEqProofs only [run_1, wp_some, wp_none, wp_bind, wp_map, wp_ite, bR_b, iR_i, dR_d, mR_m, look_d, look_l, look_s, look_f, unal_l, unal_s, unal_f, val_ow, val_al, c_var, c_cst, c_bin, c_un, c_and, c_or, c_not, c_ite, c_tup, c_lst, c_slice, c_lrng, c_trng, rngV_n, c_call, lstAt_l, c_mt0, c_mt1, cL_nil, cL_cons, cP_nil, cP_sm, cI_r1, cI_r2, cI_sq, walkAt_l, walkAt_s, walkAt_f, iter_t, iter_l, iter_a, nxt_nx, nxt_rt, nxt_bk, nxt_ct, q_skip, q_seq, q_set, q_par, tR_t, q_unp, q_setI, q_ex2, retV_ow, retV_al, q_ret2, q_retN, q_if, q_brk, q_cnt, augV_i, augV_l, augV_t, q_aug2, e_dB, e_dI, eq_ii, eq_bb, mem_ti, mem_li, atI_map, idx_t, idx_l, idx_f, cut_t, cut_l, sl_map, p_eq, p_ne, p_mem, p_nmem, p_idx, p_add, p_addT, p_addL, p_sub, p_mulT, p_mulL, p_fdiv, p_mod, p_pow, p_lt, p_le, p_gt, p_ge, p_maxm, p_minm, p_neg, p_isN, p_notN, p_isB, p_notB, p_lenT, p_lenL, p_lenF, p_tupL, p_tupT, p_listT, p_listL, p_abs, p_int, p_intB, p_revT, p_revL, p_isInt, p_isBool, p_isStr, p_isTuple, m_append, m_rev, shO_n, shO_s, shAt_c, isSh_d, isSh_l, isSh_s, isSh_f, raw_ow, raw_al, raws_n, raws_c, alK_n, alK_o, alK_a, back_n, back_o, back_l, back_s, back_f, owD_n, owD_c, owM_n, owM_c, bindM_n, bindM_c, bindN_n, bindN_c, bindT_n, bindT_t, wipe_n, wipe_c, fill_n, fillO_d, fillO_n, fillO_l, fill_c, lock_n, lock_s, open_n, open_s, aug_add, aug_sub, fturn_c, turn_c, fin_nx, fin_rt, ini_n, ini_c, outs_n, outs_d, outs_l, outs_s, outs_f, pins_n, pins_d, pins_l, pins_s, pins_f, inRng_0, inRng_1, inRng_2, eq_ti, eq_li, atI_0, atI_1, atI_2, atI_3, line_1, line_2, line_3, line_4, line_5, line_6, line_7, line_8, line_9, line_10, line_11, line_12, List.getElem?_cons_zero, List.getElem?_cons_succ, List.set_cons_zero, List.set_cons_succ, List.length_map, List.length_cons, List.length_nil, Option.bind_some, Option.bind_none, id, List.mem_cons, List.not_mem_nil, List.replicate_succ, List.replicate_zero, List.nil_append, List.cons_append, if_true, if_false, ite_true, ite_false, Bool.false_eq_true, Bool.or_false, Bool.false_or, Bool.or_true, Bool.true_or, Bool.and_true, Bool.true_and, Bool.and_false, Bool.false_and, Bool.not_true, Bool.not_false, decide_true, decide_false, or_false, false_or, or_true, true_or, and_true, true_and, List.nodup_cons, List.nodup_nil, not_false_eq_true, not_true_eq_false, decide_eq_true_eq, Bool.not_eq_true', decide_eq_false_iff_not, inPin, List.any_cons, List.any_nil, isTupD, isIntD, isBoolD, isStrD, isNoneD, Nat.reduceSub, Nat.reduceAdd, Nat.reduceLeDiff, Nat.reduceEqDiff, Nat.reduceMul, Nat.reducePow, Nat.sub_self, Nat.sub_zero, Int.reduceLT, Int.reduceLE, Int.reduceNeg, Int.reduceToNat, Int.reduceEq, Bool.and_self, decide_not, reduceCtorEq, Nat.zero_le, Option.toList_none, Option.toList_some, List.append_nil, true_implies, false_implies, implies_true, not_true, not_false_eq_true, Option.map_some, atI_0, atI_1, atI_2, atI_3, line_4]
  rfl
def sgn (x : Int) : Int := if x < 0 then -1 else 1
def ab (x : Int) : Int := if x < 0 then -x else x
def Lt (x : Int) : M2 := ⟨1 + 4 * ab x * sgn x, -8 * ab x * ab x * sgn x, 2 * sgn x, 1 - 4 * ab x * sgn x⟩
end Law

end
section
set_option maxHeartbeats 4000000
namespace Law
open Cs PySem
def tab (w : List Int) : M2 := w.foldl (fun m x => m.mul (Lt x)) M2.one
def Small (w : List Int) : Prop := ∀ x ∈ w, -100 ≤ x ∧ x ≤ 100
theorem ab_le {x : Int} (h : -100 ≤ x ∧ x ≤ 100) : 0 ≤ ab x ∧ ab x ≤ 100 := by unfold ab; split <;> omega
theorem sgn_le (x : Int) : sgn x = 1 ∨ sgn x = -1 := by unfold sgn; split <;> simp
theorem sq_le {k : Int} (h : 0 ≤ k ∧ k ≤ 100) : 0 ≤ k * k ∧ k * k ≤ 10000 :=
  ⟨Int.mul_nonneg h.1 h.1, Int.le_trans (Int.mul_le_mul_of_nonneg_left h.2 h.1) (by omega)⟩
theorem Lt_bd {x : Int} (h : -100 ≤ x ∧ x ≤ 100) : (Lt x).Bd 17 := by
  have h1 := ab_le h
  have h2 := sq_le h1
  have e : -8 * ab x * ab x = -8 * (ab x * ab x) := by rw [Int.mul_assoc]
  have e3 : (2 : Nat) ^ 17 = 131072 := by decide
  unfold Lt M2.Bd
  dsimp only
  rw [e, e3]
  rcases sgn_le x with e2 | e2 <;> rw [e2] <;> refine ⟨?_, ?_, ?_, ?_⟩ <;> omega
theorem one_bd : M2.one.Bd 1 := by unfold M2.one M2.Bd; decide
theorem foldl_bd : ∀ (w : List Int) (m : M2) (p : Nat), Small w → m.Bd p → (w.foldl (fun m x => m.mul (Lt x)) m).Bd (p + 18 * w.length)
  | [], m, p, _, h => h
  | x :: w, m, p, hs, h => by
    rw [List.foldl_cons, List.length_cons]
    have := foldl_bd w (m.mul (Lt x)) (p + 17 + 1) (fun y hy => hs y (List.mem_cons_of_mem _ hy)) (h.mul (Lt_bd (hs x (List.mem_cons_self ..))))
    exact this.le (by omega)
theorem tab_bd {w : List Int} (h : Small w) : (tab w).Bd (1 + 18 * w.length) := foldl_bd w _ 1 h one_bd
theorem law_table_sp (wf k : Nat) (w : List Int) (hs : Small w) (hw : w.length ≤ 1000) : callF wf FS (k + 2) 19 [.d (tI w)] = some (.d (tM (tab w)), [.d (tI w)]) := by
  rw [call_law_table, wp_eq]
  unfold f_law_table b_law_table
  simp -implicitDefEqProofs only [run_1, wp_some, wp_none, wp_bind, wp_map, wp_ite, bR_b, iR_i, dR_d, mR_m, look_d, look_l, look_s, look_f, unal_l, unal_s, unal_f, val_ow, val_al, c_var, c_cst, c_bin, c_un, c_and, c_or, c_not, c_ite, c_tup, c_lst, c_slice, c_lrng, c_trng, rngV_n, c_call, lstAt_l, c_mt0, c_mt1, cL_nil, cL_cons, cP_nil, cP_sm, cI_r1, cI_r2, cI_sq, walkAt_l, walkAt_s, walkAt_f, iter_t, iter_l, iter_a, nxt_nx, nxt_rt, nxt_bk, nxt_ct, q_skip, q_seq, q_set, q_par, tR_t, q_unp, q_setI, q_ex2, retV_ow, retV_al, q_ret2, q_retN, q_if, q_brk, q_cnt, augV_i, augV_l, augV_t, q_aug2, e_dB, e_dI, eq_ii, eq_bb, mem_ti, mem_li, atI_map, idx_t, idx_l, idx_f, cut_t, cut_l, sl_map, p_eq, p_ne, p_mem, p_nmem, p_idx, p_add, p_addT, p_addL, p_sub, p_mulT, p_mulL, p_fdiv, p_mod, p_pow, p_lt, p_le, p_gt, p_ge, p_maxm, p_minm, p_neg, p_isN, p_notN, p_isB, p_notB, p_lenT, p_lenL, p_lenF, p_tupL, p_tupT, p_listT, p_listL, p_abs, p_int, p_intB, p_revT, p_revL, p_isInt, p_isBool, p_isStr, p_isTuple, m_append, m_rev, shO_n, shO_s, shAt_c, isSh_d, isSh_l, isSh_s, isSh_f, raw_ow, raw_al, raws_n, raws_c, alK_n, alK_o, alK_a, back_n, back_o, back_l, back_s, back_f, owD_n, owD_c, owM_n, owM_c, bindM_n, bindM_c, bindN_n, bindN_c, bindT_n, bindT_t, wipe_n, wipe_c, fill_n, fillO_d, fillO_n, fillO_l, fill_c, lock_n, lock_s, open_n, open_s, aug_add, aug_sub, fturn_c, turn_c, fin_nx, fin_rt, ini_n, ini_c, outs_n, outs_d, outs_l, outs_s, outs_f, pins_n, pins_d, pins_l, pins_s, pins_f, inRng_0, inRng_1, inRng_2, eq_ti, eq_li, atI_0, atI_1, atI_2, atI_3, line_1, line_2, line_3, line_4, line_5, line_6, line_7, line_8, line_9, line_10, line_11, line_12, List.getElem?_cons_zero, List.getElem?_cons_succ, List.set_cons_zero, List.set_cons_succ, List.length_map, List.length_cons, List.length_nil, Option.bind_some, Option.bind_none, id, List.mem_cons, List.not_mem_nil, List.replicate_succ, List.replicate_zero, List.nil_append, List.cons_append, if_true, if_false, ite_true, ite_false, Bool.false_eq_true, Bool.or_false, Bool.false_or, Bool.or_true, Bool.true_or, Bool.and_true, Bool.true_and, Bool.and_false, Bool.false_and, Bool.not_true, Bool.not_false, decide_true, decide_false, or_false, false_or, or_true, true_or, and_true, true_and, List.nodup_cons, List.nodup_nil, not_false_eq_true, not_true_eq_false, decide_eq_true_eq, Bool.not_eq_true', decide_eq_false_iff_not, inPin, List.any_cons, List.any_nil, isTupD, isIntD, isBoolD, isStrD, isNoneD, Nat.reduceSub, Nat.reduceAdd, Nat.reduceLeDiff, Nat.reduceEqDiff, Nat.reduceMul, Nat.reducePow, Nat.sub_self, Nat.sub_zero, Int.reduceLT, Int.reduceLE, Int.reduceNeg, Int.reduceToNat, Int.reduceEq, Bool.and_self, decide_not, reduceCtorEq, Nat.zero_le, Option.toList_none, Option.toList_some, List.append_nil, true_implies, false_implies, implies_true, not_true, not_false_eq_true, Option.map_some, q_for, line_4]
  refine wp_imp (forL_inv (f := fturn _ _ _ _ _) (d := PyData.int) (fun ys e => ∃ (m : M2) (z1 z2 z3 : Option M), e = [some (.d (tI w)), some (.d (tM m)), z1, z2, z3] ∧ shO (some z1) = false ∧ shO (some z2) = false ∧ shO (some z3) = false ∧ (∃ p, m.Bd p ∧ 0 < p ∧ p + 18 * ys.length ≤ 50000) ∧ Small ys ∧ ys.foldl (fun m x => m.mul (Lt x)) m = tab w) (Q := fun q => q.1 = .nx ∧ ∃ (z1 z2 z3 : Option M), q.2 = [some (.d (tI w)), some (.d (tM (tab w))), z1, z2, z3]) ?_ w _ ⟨M2.one, none, none, none, rfl, rfl, rfl, rfl, ⟨1, one_bd, by decide, by omega⟩, hs, rfl⟩ ?_) ?_
  · rintro e ⟨m, z1, z2, z3, rfl, _, _, _, _, _, h⟩
    cases h
    exact ⟨rfl, z1, z2, z3, rfl⟩
  · rintro x ys e ⟨m, z1, z2, z3, rfl, h1, h2, h3, ⟨p, hp, hp0, hpl⟩, hsm, h⟩
    have hx := hsm x (List.mem_cons_self ..)
    have ha := ab_le hx
    have hq := sq_le ha
    rw [List.length_cons] at hpl
    have hsg : (1 : Int) - 2 * (if x < 0 then 1 else 0) = sgn x := by unfold sgn; split <;> rfl
    have hab : (if x < 0 then -x else x) = ab x := rfl
    have hL : (tM (Lt x)) = .tuple [.int (1 + 4 * ab x * sgn x), .int (-8 * ab x * ab x * sgn x), .int (2 * sgn x), .int (1 - 4 * ab x * sgn x)] := rfl
    have ht := law_times_sp wf k m (Lt x) p 17 hp (Lt_bd hx) hp0 (by decide) (by omega)
    rw [hL] at ht
    have sg : -(2 ^ 64) < sgn x ∧ sgn x < 2 ^ 64 := by rcases sgn_le x with e | e <;> rw [e] <;> decide +kernel
    simp -implicitDefEqProofs only [run_1, wp_some, wp_none, wp_bind, wp_map, wp_ite, bR_b, iR_i, dR_d, mR_m, look_d, look_l, look_s, look_f, unal_l, unal_s, unal_f, val_ow, val_al, c_var, c_cst, c_bin, c_un, c_and, c_or, c_not, c_ite, c_tup, c_lst, c_slice, c_lrng, c_trng, rngV_n, c_call, lstAt_l, c_mt0, c_mt1, cL_nil, cL_cons, cP_nil, cP_sm, cI_r1, cI_r2, cI_sq, walkAt_l, walkAt_s, walkAt_f, iter_t, iter_l, iter_a, nxt_nx, nxt_rt, nxt_bk, nxt_ct, q_skip, q_seq, q_set, q_par, tR_t, q_unp, q_setI, q_ex2, retV_ow, retV_al, q_ret2, q_retN, q_if, q_brk, q_cnt, augV_i, augV_l, augV_t, q_aug2, e_dB, e_dI, eq_ii, eq_bb, mem_ti, mem_li, atI_map, idx_t, idx_l, idx_f, cut_t, cut_l, sl_map, p_eq, p_ne, p_mem, p_nmem, p_idx, p_add, p_addT, p_addL, p_sub, p_mulT, p_mulL, p_fdiv, p_mod, p_pow, p_lt, p_le, p_gt, p_ge, p_maxm, p_minm, p_neg, p_isN, p_notN, p_isB, p_notB, p_lenT, p_lenL, p_lenF, p_tupL, p_tupT, p_listT, p_listL, p_abs, p_int, p_intB, p_revT, p_revL, p_isInt, p_isBool, p_isStr, p_isTuple, m_append, m_rev, shO_n, shO_s, shAt_c, isSh_d, isSh_l, isSh_s, isSh_f, raw_ow, raw_al, raws_n, raws_c, alK_n, alK_o, alK_a, back_n, back_o, back_l, back_s, back_f, owD_n, owD_c, owM_n, owM_c, bindM_n, bindM_c, bindN_n, bindN_c, bindT_n, bindT_t, wipe_n, wipe_c, fill_n, fillO_d, fillO_n, fillO_l, fill_c, lock_n, lock_s, open_n, open_s, aug_add, aug_sub, fturn_c, turn_c, fin_nx, fin_rt, ini_n, ini_c, outs_n, outs_d, outs_l, outs_s, outs_f, pins_n, pins_d, pins_l, pins_s, pins_f, inRng_0, inRng_1, inRng_2, eq_ti, eq_li, atI_0, atI_1, atI_2, atI_3, line_1, line_2, line_3, line_4, line_5, line_6, line_7, line_8, line_9, line_10, line_11, line_12, List.getElem?_cons_zero, List.getElem?_cons_succ, List.set_cons_zero, List.set_cons_succ, List.length_map, List.length_cons, List.length_nil, Option.bind_some, Option.bind_none, id, List.mem_cons, List.not_mem_nil, List.replicate_succ, List.replicate_zero, List.nil_append, List.cons_append, if_true, if_false, ite_true, ite_false, Bool.false_eq_true, Bool.or_false, Bool.false_or, Bool.or_true, Bool.true_or, Bool.and_true, Bool.true_and, Bool.and_false, Bool.false_and, Bool.not_true, Bool.not_false, decide_true, decide_false, or_false, false_or, or_true, true_or, and_true, true_and, List.nodup_cons, List.nodup_nil, not_false_eq_true, not_true_eq_false, decide_eq_true_eq, Bool.not_eq_true', decide_eq_false_iff_not, inPin, List.any_cons, List.any_nil, isTupD, isIntD, isBoolD, isStrD, isNoneD, Nat.reduceSub, Nat.reduceAdd, Nat.reduceLeDiff, Nat.reduceEqDiff, Nat.reduceMul, Nat.reducePow, Nat.sub_self, Nat.sub_zero, Int.reduceLT, Int.reduceLE, Int.reduceNeg, Int.reduceToNat, Int.reduceEq, Bool.and_self, decide_not, reduceCtorEq, Nat.zero_le, Option.toList_none, Option.toList_some, List.append_nil, true_implies, false_implies, implies_true, not_true, not_false_eq_true, Option.map_some, h1, h2, h3, line_2, line_4, hab, hsg, mul_sl (i := 2) _ (by decide +kernel), mul_sl (i := 4) _ (by decide +kernel), mul_sl (i := -8) _ (by decide +kernel), mul_sr _ (j := sgn x) sg, mul_sr _ (j := ab x) ⟨by omega, by omega⟩, ht]
    rw [List.foldl_cons] at h
    exact ⟨m.mul (Lt x), _, _, _, rfl, rfl, rfl, rfl, ⟨p + 17 + 1, hp.mul (Lt_bd hx), by omega, by omega⟩, fun y hy => hsm y (List.mem_cons_of_mem _ hy), h⟩
  · rintro ⟨fl, e⟩ ⟨rfl, z1, z2, z3, rfl⟩
    simp -implicitDefEqProofs only [run_1, wp_some, wp_none, wp_bind, wp_map, wp_ite, bR_b, iR_i, dR_d, mR_m, look_d, look_l, look_s, look_f, unal_l, unal_s, unal_f, val_ow, val_al, c_var, c_cst, c_bin, c_un, c_and, c_or, c_not, c_ite, c_tup, c_lst, c_slice, c_lrng, c_trng, rngV_n, c_call, lstAt_l, c_mt0, c_mt1, cL_nil, cL_cons, cP_nil, cP_sm, cI_r1, cI_r2, cI_sq, walkAt_l, walkAt_s, walkAt_f, iter_t, iter_l, iter_a, nxt_nx, nxt_rt, nxt_bk, nxt_ct, q_skip, q_seq, q_set, q_par, tR_t, q_unp, q_setI, q_ex2, retV_ow, retV_al, q_ret2, q_retN, q_if, q_brk, q_cnt, augV_i, augV_l, augV_t, q_aug2, e_dB, e_dI, eq_ii, eq_bb, mem_ti, mem_li, atI_map, idx_t, idx_l, idx_f, cut_t, cut_l, sl_map, p_eq, p_ne, p_mem, p_nmem, p_idx, p_add, p_addT, p_addL, p_sub, p_mulT, p_mulL, p_fdiv, p_mod, p_pow, p_lt, p_le, p_gt, p_ge, p_maxm, p_minm, p_neg, p_isN, p_notN, p_isB, p_notB, p_lenT, p_lenL, p_lenF, p_tupL, p_tupT, p_listT, p_listL, p_abs, p_int, p_intB, p_revT, p_revL, p_isInt, p_isBool, p_isStr, p_isTuple, m_append, m_rev, shO_n, shO_s, shAt_c, isSh_d, isSh_l, isSh_s, isSh_f, raw_ow, raw_al, raws_n, raws_c, alK_n, alK_o, alK_a, back_n, back_o, back_l, back_s, back_f, owD_n, owD_c, owM_n, owM_c, bindM_n, bindM_c, bindN_n, bindN_c, bindT_n, bindT_t, wipe_n, wipe_c, fill_n, fillO_d, fillO_n, fillO_l, fill_c, lock_n, lock_s, open_n, open_s, aug_add, aug_sub, fturn_c, turn_c, fin_nx, fin_rt, ini_n, ini_c, outs_n, outs_d, outs_l, outs_s, outs_f, pins_n, pins_d, pins_l, pins_s, pins_f, inRng_0, inRng_1, inRng_2, eq_ti, eq_li, atI_0, atI_1, atI_2, atI_3, line_1, line_2, line_3, line_4, line_5, line_6, line_7, line_8, line_9, line_10, line_11, line_12, List.getElem?_cons_zero, List.getElem?_cons_succ, List.set_cons_zero, List.set_cons_succ, List.length_map, List.length_cons, List.length_nil, Option.bind_some, Option.bind_none, id, List.mem_cons, List.not_mem_nil, List.replicate_succ, List.replicate_zero, List.nil_append, List.cons_append, if_true, if_false, ite_true, ite_false, Bool.false_eq_true, Bool.or_false, Bool.false_or, Bool.or_true, Bool.true_or, Bool.and_true, Bool.true_and, Bool.and_false, Bool.false_and, Bool.not_true, Bool.not_false, decide_true, decide_false, or_false, false_or, or_true, true_or, and_true, true_and, List.nodup_cons, List.nodup_nil, not_false_eq_true, not_true_eq_false, decide_eq_true_eq, Bool.not_eq_true', decide_eq_false_iff_not, inPin, List.any_cons, List.any_nil, isTupD, isIntD, isBoolD, isStrD, isNoneD, Nat.reduceSub, Nat.reduceAdd, Nat.reduceLeDiff, Nat.reduceEqDiff, Nat.reduceMul, Nat.reducePow, Nat.sub_self, Nat.sub_zero, Int.reduceLT, Int.reduceLE, Int.reduceNeg, Int.reduceToNat, Int.reduceEq, Bool.and_self, decide_not, reduceCtorEq, Nat.zero_le, Option.toList_none, Option.toList_some, List.append_nil, true_implies, false_implies, implies_true, not_true, not_false_eq_true, Option.map_some]
def often (m : M2) (n : Int) : M2 := (List.replicate n.natAbs (if n < 0 then m.adj else m)).foldl M2.mul M2.one
theorem law_often_sp (wf k : Nat) (m : M2) (n : Int) (p : Nat) (hp : m.Bd p) (p0 : 0 < p) (hpl : p ≤ 1000) (h0 : -50 ≤ n) (h1 : n ≤ 50) : callF wf FS (k + 2) 22 [.d (tM m), .d (.int n)] = some (.d (tM (often m n)), [.d (tM m), .d (.int n)]) := by
  rw [call_law_often, wp_eq]
  unfold f_law_often b_law_often
  have key : ∀ t : M2, t.Bd p → wp (forL (fturn (callF wf FS (k + 1)) wf [] (Tg.n 3) ((Sm.set 2 (Tm.call 18 ((Cs.Tm.var 2).cons ((Cs.Tm.var 0).cons Tm.nil)))).seq Sm.skip)) ((rg 0 n.natAbs).map .int) [some (.d (tM t)), some (.d (.int n)), some (.d (tM M2.one)), none]) fun q => q.1 = .nx ∧ ∃ z, q.2 = [some (.d (tM t)), some (.d (.int n)), some (.d (tM ((List.replicate n.natAbs t).foldl M2.mul M2.one))), z] := by
    intro t ht
    refine forL_inv (f := fturn _ _ _ _ _) (d := PyData.int) (fun ys e => ∃ (r : M2) (z : Option M), e = [some (.d (tM t)), some (.d (.int n)), some (.d (tM r)), z] ∧ shO (some z) = false ∧ (∃ q, r.Bd q ∧ 0 < q ∧ q + 1001 * ys.length ≤ 60000) ∧ (List.replicate ys.length t).foldl M2.mul r = (List.replicate n.natAbs t).foldl M2.mul M2.one) ?_ (rg 0 n.natAbs) _ ⟨M2.one, none, rfl, rfl, ⟨1, one_bd, by decide, ?_⟩, ?_⟩ ?_
    · rintro e ⟨r, z, rfl, _, _, h⟩
      cases h
      exact ⟨rfl, z, rfl⟩
    · rw [rg_len]; omega
    · rw [rg_len]; congr 2
    · rintro x ys e ⟨r, z, rfl, hz, ⟨q, hq, q0, hql⟩, h⟩
      rw [List.length_cons] at hql h
      rw [List.replicate_succ, List.foldl_cons] at h
      simp -implicitDefEqProofs only [run_1, wp_some, wp_none, wp_bind, wp_map, wp_ite, bR_b, iR_i, dR_d, mR_m, look_d, look_l, look_s, look_f, unal_l, unal_s, unal_f, val_ow, val_al, c_var, c_cst, c_bin, c_un, c_and, c_or, c_not, c_ite, c_tup, c_lst, c_slice, c_lrng, c_trng, rngV_n, c_call, lstAt_l, c_mt0, c_mt1, cL_nil, cL_cons, cP_nil, cP_sm, cI_r1, cI_r2, cI_sq, walkAt_l, walkAt_s, walkAt_f, iter_t, iter_l, iter_a, nxt_nx, nxt_rt, nxt_bk, nxt_ct, q_skip, q_seq, q_set, q_par, tR_t, q_unp, q_setI, q_ex2, retV_ow, retV_al, q_ret2, q_retN, q_if, q_brk, q_cnt, augV_i, augV_l, augV_t, q_aug2, e_dB, e_dI, eq_ii, eq_bb, mem_ti, mem_li, atI_map, idx_t, idx_l, idx_f, cut_t, cut_l, sl_map, p_eq, p_ne, p_mem, p_nmem, p_idx, p_add, p_addT, p_addL, p_sub, p_mulT, p_mulL, p_fdiv, p_mod, p_pow, p_lt, p_le, p_gt, p_ge, p_maxm, p_minm, p_neg, p_isN, p_notN, p_isB, p_notB, p_lenT, p_lenL, p_lenF, p_tupL, p_tupT, p_listT, p_listL, p_abs, p_int, p_intB, p_revT, p_revL, p_isInt, p_isBool, p_isStr, p_isTuple, m_append, m_rev, shO_n, shO_s, shAt_c, isSh_d, isSh_l, isSh_s, isSh_f, raw_ow, raw_al, raws_n, raws_c, alK_n, alK_o, alK_a, back_n, back_o, back_l, back_s, back_f, owD_n, owD_c, owM_n, owM_c, bindM_n, bindM_c, bindN_n, bindN_c, bindT_n, bindT_t, wipe_n, wipe_c, fill_n, fillO_d, fillO_n, fillO_l, fill_c, lock_n, lock_s, open_n, open_s, aug_add, aug_sub, fturn_c, turn_c, fin_nx, fin_rt, ini_n, ini_c, outs_n, outs_d, outs_l, outs_s, outs_f, pins_n, pins_d, pins_l, pins_s, pins_f, inRng_0, inRng_1, inRng_2, eq_ti, eq_li, atI_0, atI_1, atI_2, atI_3, line_1, line_2, line_3, line_4, line_5, line_6, line_7, line_8, line_9, line_10, line_11, line_12, List.getElem?_cons_zero, List.getElem?_cons_succ, List.set_cons_zero, List.set_cons_succ, List.length_map, List.length_cons, List.length_nil, Option.bind_some, Option.bind_none, id, List.mem_cons, List.not_mem_nil, List.replicate_succ, List.replicate_zero, List.nil_append, List.cons_append, if_true, if_false, ite_true, ite_false, Bool.false_eq_true, Bool.or_false, Bool.false_or, Bool.or_true, Bool.true_or, Bool.and_true, Bool.true_and, Bool.and_false, Bool.false_and, Bool.not_true, Bool.not_false, decide_true, decide_false, or_false, false_or, or_true, true_or, and_true, true_and, List.nodup_cons, List.nodup_nil, not_false_eq_true, not_true_eq_false, decide_eq_true_eq, Bool.not_eq_true', decide_eq_false_iff_not, inPin, List.any_cons, List.any_nil, isTupD, isIntD, isBoolD, isStrD, isNoneD, Nat.reduceSub, Nat.reduceAdd, Nat.reduceLeDiff, Nat.reduceEqDiff, Nat.reduceMul, Nat.reducePow, Nat.sub_self, Nat.sub_zero, Int.reduceLT, Int.reduceLE, Int.reduceNeg, Int.reduceToNat, Int.reduceEq, Bool.and_self, decide_not, reduceCtorEq, Nat.zero_le, Option.toList_none, Option.toList_some, List.append_nil, true_implies, false_implies, implies_true, not_true, not_false_eq_true, Option.map_some, hz, law_times_sp wf k r t q p hq ht q0 p0 (by omega)]
      exact ⟨r.mul t, _, rfl, rfl, ⟨q + p + 1, hq.mul ht, by omega, by omega⟩, h⟩
  have hn : (if n < 0 then -n else n) = (n.natAbs : Int) := by split <;> omega
  simp -implicitDefEqProofs only [run_1, wp_some, wp_none, wp_bind, wp_map, wp_ite, bR_b, iR_i, dR_d, mR_m, look_d, look_l, look_s, look_f, unal_l, unal_s, unal_f, val_ow, val_al, c_var, c_cst, c_bin, c_un, c_and, c_or, c_not, c_ite, c_tup, c_lst, c_slice, c_lrng, c_trng, rngV_n, c_call, lstAt_l, c_mt0, c_mt1, cL_nil, cL_cons, cP_nil, cP_sm, cI_r1, cI_r2, cI_sq, walkAt_l, walkAt_s, walkAt_f, iter_t, iter_l, iter_a, nxt_nx, nxt_rt, nxt_bk, nxt_ct, q_skip, q_seq, q_set, q_par, tR_t, q_unp, q_setI, q_ex2, retV_ow, retV_al, q_ret2, q_retN, q_if, q_brk, q_cnt, augV_i, augV_l, augV_t, q_aug2, e_dB, e_dI, eq_ii, eq_bb, mem_ti, mem_li, atI_map, idx_t, idx_l, idx_f, cut_t, cut_l, sl_map, p_eq, p_ne, p_mem, p_nmem, p_idx, p_add, p_addT, p_addL, p_sub, p_mulT, p_mulL, p_fdiv, p_mod, p_pow, p_lt, p_le, p_gt, p_ge, p_maxm, p_minm, p_neg, p_isN, p_notN, p_isB, p_notB, p_lenT, p_lenL, p_lenF, p_tupL, p_tupT, p_listT, p_listL, p_abs, p_int, p_intB, p_revT, p_revL, p_isInt, p_isBool, p_isStr, p_isTuple, m_append, m_rev, shO_n, shO_s, shAt_c, isSh_d, isSh_l, isSh_s, isSh_f, raw_ow, raw_al, raws_n, raws_c, alK_n, alK_o, alK_a, back_n, back_o, back_l, back_s, back_f, owD_n, owD_c, owM_n, owM_c, bindM_n, bindM_c, bindN_n, bindN_c, bindT_n, bindT_t, wipe_n, wipe_c, fill_n, fillO_d, fillO_n, fillO_l, fill_c, lock_n, lock_s, open_n, open_s, aug_add, aug_sub, fturn_c, turn_c, fin_nx, fin_rt, ini_n, ini_c, outs_n, outs_d, outs_l, outs_s, outs_f, pins_n, pins_d, pins_l, pins_s, pins_f, inRng_0, inRng_1, inRng_2, eq_ti, eq_li, atI_0, atI_1, atI_2, atI_3, line_1, line_2, line_3, line_4, line_5, line_6, line_7, line_8, line_9, line_10, line_11, line_12, List.getElem?_cons_zero, List.getElem?_cons_succ, List.set_cons_zero, List.set_cons_succ, List.length_map, List.length_cons, List.length_nil, Option.bind_some, Option.bind_none, id, List.mem_cons, List.not_mem_nil, List.replicate_succ, List.replicate_zero, List.nil_append, List.cons_append, if_true, if_false, ite_true, ite_false, Bool.false_eq_true, Bool.or_false, Bool.false_or, Bool.or_true, Bool.true_or, Bool.and_true, Bool.true_and, Bool.and_false, Bool.false_and, Bool.not_true, Bool.not_false, decide_true, decide_false, or_false, false_or, or_true, true_or, and_true, true_and, List.nodup_cons, List.nodup_nil, not_false_eq_true, not_true_eq_false, decide_eq_true_eq, Bool.not_eq_true', decide_eq_false_iff_not, inPin, List.any_cons, List.any_nil, isTupD, isIntD, isBoolD, isStrD, isNoneD, Nat.reduceSub, Nat.reduceAdd, Nat.reduceLeDiff, Nat.reduceEqDiff, Nat.reduceMul, Nat.reducePow, Nat.sub_self, Nat.sub_zero, Int.reduceLT, Int.reduceLE, Int.reduceNeg, Int.reduceToNat, Int.reduceEq, Bool.and_self, decide_not, reduceCtorEq, Nat.zero_le, Option.toList_none, Option.toList_some, List.append_nil, true_implies, false_implies, implies_true, not_true, not_false_eq_true, Option.map_some, q_for, line_4, law_back_sp wf k m, hn, inRng_of (i := (n.natAbs : Int)) (by omega), rngL_rg]
  refine ⟨fun h => ?_, fun h => ?_⟩
  · refine wp_imp (key m.adj hp.adj) ?_
    rintro ⟨fl, e⟩ ⟨rfl, z, rfl⟩
    simp -implicitDefEqProofs only [run_1, wp_some, wp_none, wp_bind, wp_map, wp_ite, bR_b, iR_i, dR_d, mR_m, look_d, look_l, look_s, look_f, unal_l, unal_s, unal_f, val_ow, val_al, c_var, c_cst, c_bin, c_un, c_and, c_or, c_not, c_ite, c_tup, c_lst, c_slice, c_lrng, c_trng, rngV_n, c_call, lstAt_l, c_mt0, c_mt1, cL_nil, cL_cons, cP_nil, cP_sm, cI_r1, cI_r2, cI_sq, walkAt_l, walkAt_s, walkAt_f, iter_t, iter_l, iter_a, nxt_nx, nxt_rt, nxt_bk, nxt_ct, q_skip, q_seq, q_set, q_par, tR_t, q_unp, q_setI, q_ex2, retV_ow, retV_al, q_ret2, q_retN, q_if, q_brk, q_cnt, augV_i, augV_l, augV_t, q_aug2, e_dB, e_dI, eq_ii, eq_bb, mem_ti, mem_li, atI_map, idx_t, idx_l, idx_f, cut_t, cut_l, sl_map, p_eq, p_ne, p_mem, p_nmem, p_idx, p_add, p_addT, p_addL, p_sub, p_mulT, p_mulL, p_fdiv, p_mod, p_pow, p_lt, p_le, p_gt, p_ge, p_maxm, p_minm, p_neg, p_isN, p_notN, p_isB, p_notB, p_lenT, p_lenL, p_lenF, p_tupL, p_tupT, p_listT, p_listL, p_abs, p_int, p_intB, p_revT, p_revL, p_isInt, p_isBool, p_isStr, p_isTuple, m_append, m_rev, shO_n, shO_s, shAt_c, isSh_d, isSh_l, isSh_s, isSh_f, raw_ow, raw_al, raws_n, raws_c, alK_n, alK_o, alK_a, back_n, back_o, back_l, back_s, back_f, owD_n, owD_c, owM_n, owM_c, bindM_n, bindM_c, bindN_n, bindN_c, bindT_n, bindT_t, wipe_n, wipe_c, fill_n, fillO_d, fillO_n, fillO_l, fill_c, lock_n, lock_s, open_n, open_s, aug_add, aug_sub, fturn_c, turn_c, fin_nx, fin_rt, ini_n, ini_c, outs_n, outs_d, outs_l, outs_s, outs_f, pins_n, pins_d, pins_l, pins_s, pins_f, inRng_0, inRng_1, inRng_2, eq_ti, eq_li, atI_0, atI_1, atI_2, atI_3, line_1, line_2, line_3, line_4, line_5, line_6, line_7, line_8, line_9, line_10, line_11, line_12, List.getElem?_cons_zero, List.getElem?_cons_succ, List.set_cons_zero, List.set_cons_succ, List.length_map, List.length_cons, List.length_nil, Option.bind_some, Option.bind_none, id, List.mem_cons, List.not_mem_nil, List.replicate_succ, List.replicate_zero, List.nil_append, List.cons_append, if_true, if_false, ite_true, ite_false, Bool.false_eq_true, Bool.or_false, Bool.false_or, Bool.or_true, Bool.true_or, Bool.and_true, Bool.true_and, Bool.and_false, Bool.false_and, Bool.not_true, Bool.not_false, decide_true, decide_false, or_false, false_or, or_true, true_or, and_true, true_and, List.nodup_cons, List.nodup_nil, not_false_eq_true, not_true_eq_false, decide_eq_true_eq, Bool.not_eq_true', decide_eq_false_iff_not, inPin, List.any_cons, List.any_nil, isTupD, isIntD, isBoolD, isStrD, isNoneD, Nat.reduceSub, Nat.reduceAdd, Nat.reduceLeDiff, Nat.reduceEqDiff, Nat.reduceMul, Nat.reducePow, Nat.sub_self, Nat.sub_zero, Int.reduceLT, Int.reduceLE, Int.reduceNeg, Int.reduceToNat, Int.reduceEq, Bool.and_self, decide_not, reduceCtorEq, Nat.zero_le, Option.toList_none, Option.toList_some, List.append_nil, true_implies, false_implies, implies_true, not_true, not_false_eq_true, Option.map_some]
    unfold often
    rw [if_pos h]
  · refine wp_imp (key m hp) ?_
    rintro ⟨fl, e⟩ ⟨rfl, z, rfl⟩
    simp -implicitDefEqProofs only [run_1, wp_some, wp_none, wp_bind, wp_map, wp_ite, bR_b, iR_i, dR_d, mR_m, look_d, look_l, look_s, look_f, unal_l, unal_s, unal_f, val_ow, val_al, c_var, c_cst, c_bin, c_un, c_and, c_or, c_not, c_ite, c_tup, c_lst, c_slice, c_lrng, c_trng, rngV_n, c_call, lstAt_l, c_mt0, c_mt1, cL_nil, cL_cons, cP_nil, cP_sm, cI_r1, cI_r2, cI_sq, walkAt_l, walkAt_s, walkAt_f, iter_t, iter_l, iter_a, nxt_nx, nxt_rt, nxt_bk, nxt_ct, q_skip, q_seq, q_set, q_par, tR_t, q_unp, q_setI, q_ex2, retV_ow, retV_al, q_ret2, q_retN, q_if, q_brk, q_cnt, augV_i, augV_l, augV_t, q_aug2, e_dB, e_dI, eq_ii, eq_bb, mem_ti, mem_li, atI_map, idx_t, idx_l, idx_f, cut_t, cut_l, sl_map, p_eq, p_ne, p_mem, p_nmem, p_idx, p_add, p_addT, p_addL, p_sub, p_mulT, p_mulL, p_fdiv, p_mod, p_pow, p_lt, p_le, p_gt, p_ge, p_maxm, p_minm, p_neg, p_isN, p_notN, p_isB, p_notB, p_lenT, p_lenL, p_lenF, p_tupL, p_tupT, p_listT, p_listL, p_abs, p_int, p_intB, p_revT, p_revL, p_isInt, p_isBool, p_isStr, p_isTuple, m_append, m_rev, shO_n, shO_s, shAt_c, isSh_d, isSh_l, isSh_s, isSh_f, raw_ow, raw_al, raws_n, raws_c, alK_n, alK_o, alK_a, back_n, back_o, back_l, back_s, back_f, owD_n, owD_c, owM_n, owM_c, bindM_n, bindM_c, bindN_n, bindN_c, bindT_n, bindT_t, wipe_n, wipe_c, fill_n, fillO_d, fillO_n, fillO_l, fill_c, lock_n, lock_s, open_n, open_s, aug_add, aug_sub, fturn_c, turn_c, fin_nx, fin_rt, ini_n, ini_c, outs_n, outs_d, outs_l, outs_s, outs_f, pins_n, pins_d, pins_l, pins_s, pins_f, inRng_0, inRng_1, inRng_2, eq_ti, eq_li, atI_0, atI_1, atI_2, atI_3, line_1, line_2, line_3, line_4, line_5, line_6, line_7, line_8, line_9, line_10, line_11, line_12, List.getElem?_cons_zero, List.getElem?_cons_succ, List.set_cons_zero, List.set_cons_succ, List.length_map, List.length_cons, List.length_nil, Option.bind_some, Option.bind_none, id, List.mem_cons, List.not_mem_nil, List.replicate_succ, List.replicate_zero, List.nil_append, List.cons_append, if_true, if_false, ite_true, ite_false, Bool.false_eq_true, Bool.or_false, Bool.false_or, Bool.or_true, Bool.true_or, Bool.and_true, Bool.true_and, Bool.and_false, Bool.false_and, Bool.not_true, Bool.not_false, decide_true, decide_false, or_false, false_or, or_true, true_or, and_true, true_and, List.nodup_cons, List.nodup_nil, not_false_eq_true, not_true_eq_false, decide_eq_true_eq, Bool.not_eq_true', decide_eq_false_iff_not, inPin, List.any_cons, List.any_nil, isTupD, isIntD, isBoolD, isStrD, isNoneD, Nat.reduceSub, Nat.reduceAdd, Nat.reduceLeDiff, Nat.reduceEqDiff, Nat.reduceMul, Nat.reducePow, Nat.sub_self, Nat.sub_zero, Int.reduceLT, Int.reduceLE, Int.reduceNeg, Int.reduceToNat, Int.reduceEq, Bool.and_self, decide_not, reduceCtorEq, Nat.zero_le, Option.toList_none, Option.toList_some, List.append_nil, true_implies, false_implies, implies_true, not_true, not_false_eq_true, Option.map_some]
    unfold often
    rw [if_neg h]
def WordOk (w : List Int) (many : Int) : Prop := ∀ x ∈ w, x ≠ 0 ∧ ab x ≤ many
def Reduced (w : List Int) : Prop := ∀ k ∈ rg 1 w.length, iat w k + iat w (k - 1) ≠ 0
theorem isInt_i (x : Int) : p1 .isInt (.d (.int x)) = some (.d (.bool true)) := rfl
theorem isBool_i (x : Int) : p1 .isBool (.d (.int x)) = some (.d (.bool false)) := rfl
theorem isTup_t (x : List PyData) : p1 .isTuple (.d (.tuple x)) = some (.d (.bool true)) := rfl
theorem law_is_word_sp (wf k : Nat) (w : List Int) (many : Int) (hw : w.length ≤ 10000) (h1 : WordOk w many) (h2 : Reduced w) : callF wf FS (k + 1) 20 [.d (tI w), .d (.int many)] = some (.d (.bool true), [.d (tI w), .d (.int many)]) := by
  rw [call_law_is_word, wp_eq]
  unfold f_law_is_word b_law_is_word
  simp -implicitDefEqProofs only [run_1, wp_some, wp_none, wp_bind, wp_map, wp_ite, bR_b, iR_i, dR_d, mR_m, look_d, look_l, look_s, look_f, unal_l, unal_s, unal_f, val_ow, val_al, c_var, c_cst, c_bin, c_un, c_and, c_or, c_not, c_ite, c_tup, c_lst, c_slice, c_lrng, c_trng, rngV_n, c_call, lstAt_l, c_mt0, c_mt1, cL_nil, cL_cons, cP_nil, cP_sm, cI_r1, cI_r2, cI_sq, walkAt_l, walkAt_s, walkAt_f, iter_t, iter_l, iter_a, nxt_nx, nxt_rt, nxt_bk, nxt_ct, q_skip, q_seq, q_set, q_par, tR_t, q_unp, q_setI, q_ex2, retV_ow, retV_al, q_ret2, q_retN, q_if, q_brk, q_cnt, augV_i, augV_l, augV_t, q_aug2, e_dB, e_dI, eq_ii, eq_bb, mem_ti, mem_li, atI_map, idx_t, idx_l, idx_f, cut_t, cut_l, sl_map, p_eq, p_ne, p_mem, p_nmem, p_idx, p_add, p_addT, p_addL, p_sub, p_mulT, p_mulL, p_fdiv, p_mod, p_pow, p_lt, p_le, p_gt, p_ge, p_maxm, p_minm, p_neg, p_isN, p_notN, p_isB, p_notB, p_lenT, p_lenL, p_lenF, p_tupL, p_tupT, p_listT, p_listL, p_abs, p_int, p_intB, p_revT, p_revL, p_isInt, p_isBool, p_isStr, p_isTuple, m_append, m_rev, shO_n, shO_s, shAt_c, isSh_d, isSh_l, isSh_s, isSh_f, raw_ow, raw_al, raws_n, raws_c, alK_n, alK_o, alK_a, back_n, back_o, back_l, back_s, back_f, owD_n, owD_c, owM_n, owM_c, bindM_n, bindM_c, bindN_n, bindN_c, bindT_n, bindT_t, wipe_n, wipe_c, fill_n, fillO_d, fillO_n, fillO_l, fill_c, lock_n, lock_s, open_n, open_s, aug_add, aug_sub, fturn_c, turn_c, fin_nx, fin_rt, ini_n, ini_c, outs_n, outs_d, outs_l, outs_s, outs_f, pins_n, pins_d, pins_l, pins_s, pins_f, inRng_0, inRng_1, inRng_2, eq_ti, eq_li, atI_0, atI_1, atI_2, atI_3, line_1, line_2, line_3, line_4, line_5, line_6, line_7, line_8, line_9, line_10, line_11, line_12, List.getElem?_cons_zero, List.getElem?_cons_succ, List.set_cons_zero, List.set_cons_succ, List.length_map, List.length_cons, List.length_nil, Option.bind_some, Option.bind_none, id, List.mem_cons, List.not_mem_nil, List.replicate_succ, List.replicate_zero, List.nil_append, List.cons_append, if_true, if_false, ite_true, ite_false, Bool.false_eq_true, Bool.or_false, Bool.false_or, Bool.or_true, Bool.true_or, Bool.and_true, Bool.true_and, Bool.and_false, Bool.false_and, Bool.not_true, Bool.not_false, decide_true, decide_false, or_false, false_or, or_true, true_or, and_true, true_and, List.nodup_cons, List.nodup_nil, not_false_eq_true, not_true_eq_false, decide_eq_true_eq, Bool.not_eq_true', decide_eq_false_iff_not, inPin, List.any_cons, List.any_nil, isTupD, isIntD, isBoolD, isStrD, isNoneD, Nat.reduceSub, Nat.reduceAdd, Nat.reduceLeDiff, Nat.reduceEqDiff, Nat.reduceMul, Nat.reducePow, Nat.sub_self, Nat.sub_zero, Int.reduceLT, Int.reduceLE, Int.reduceNeg, Int.reduceToNat, Int.reduceEq, Bool.and_self, decide_not, reduceCtorEq, Nat.zero_le, Option.toList_none, Option.toList_some, List.append_nil, true_implies, false_implies, implies_true, not_true, not_false_eq_true, Option.map_some, q_for, isTup_t]
  refine wp_imp (forL_inv (f := fturn _ _ _ _ _) (d := PyData.int) (fun ys e => ∃ (z : Option M), e = [some (.d (tI w)), some (.d (.int many)), z, none] ∧ shO (some z) = false ∧ ∀ y ∈ ys, y ∈ w) (Q := fun q => q.1 = .nx ∧ ∃ z, shO (some z) = false ∧ q.2 = [some (.d (tI w)), some (.d (.int many)), z, none]) ?_ w _ ⟨none, rfl, rfl, fun y hy => hy⟩ ?_) ?_
  · rintro e ⟨z, rfl, hz, _⟩
    exact ⟨rfl, z, hz, rfl⟩
  · rintro x ys e ⟨z, rfl, hz, hy⟩
    obtain ⟨x0, xm⟩ := h1 x (hy x (List.mem_cons_self ..))
    have hab : (if x < 0 then -x else x) = ab x := rfl
    simp -implicitDefEqProofs only [run_1, wp_some, wp_none, wp_bind, wp_map, wp_ite, bR_b, iR_i, dR_d, mR_m, look_d, look_l, look_s, look_f, unal_l, unal_s, unal_f, val_ow, val_al, c_var, c_cst, c_bin, c_un, c_and, c_or, c_not, c_ite, c_tup, c_lst, c_slice, c_lrng, c_trng, rngV_n, c_call, lstAt_l, c_mt0, c_mt1, cL_nil, cL_cons, cP_nil, cP_sm, cI_r1, cI_r2, cI_sq, walkAt_l, walkAt_s, walkAt_f, iter_t, iter_l, iter_a, nxt_nx, nxt_rt, nxt_bk, nxt_ct, q_skip, q_seq, q_set, q_par, tR_t, q_unp, q_setI, q_ex2, retV_ow, retV_al, q_ret2, q_retN, q_if, q_brk, q_cnt, augV_i, augV_l, augV_t, q_aug2, e_dB, e_dI, eq_ii, eq_bb, mem_ti, mem_li, atI_map, idx_t, idx_l, idx_f, cut_t, cut_l, sl_map, p_eq, p_ne, p_mem, p_nmem, p_idx, p_add, p_addT, p_addL, p_sub, p_mulT, p_mulL, p_fdiv, p_mod, p_pow, p_lt, p_le, p_gt, p_ge, p_maxm, p_minm, p_neg, p_isN, p_notN, p_isB, p_notB, p_lenT, p_lenL, p_lenF, p_tupL, p_tupT, p_listT, p_listL, p_abs, p_int, p_intB, p_revT, p_revL, p_isInt, p_isBool, p_isStr, p_isTuple, m_append, m_rev, shO_n, shO_s, shAt_c, isSh_d, isSh_l, isSh_s, isSh_f, raw_ow, raw_al, raws_n, raws_c, alK_n, alK_o, alK_a, back_n, back_o, back_l, back_s, back_f, owD_n, owD_c, owM_n, owM_c, bindM_n, bindM_c, bindN_n, bindN_c, bindT_n, bindT_t, wipe_n, wipe_c, fill_n, fillO_d, fillO_n, fillO_l, fill_c, lock_n, lock_s, open_n, open_s, aug_add, aug_sub, fturn_c, turn_c, fin_nx, fin_rt, ini_n, ini_c, outs_n, outs_d, outs_l, outs_s, outs_f, pins_n, pins_d, pins_l, pins_s, pins_f, inRng_0, inRng_1, inRng_2, eq_ti, eq_li, atI_0, atI_1, atI_2, atI_3, line_1, line_2, line_3, line_4, line_5, line_6, line_7, line_8, line_9, line_10, line_11, line_12, List.getElem?_cons_zero, List.getElem?_cons_succ, List.set_cons_zero, List.set_cons_succ, List.length_map, List.length_cons, List.length_nil, Option.bind_some, Option.bind_none, id, List.mem_cons, List.not_mem_nil, List.replicate_succ, List.replicate_zero, List.nil_append, List.cons_append, if_true, if_false, ite_true, ite_false, Bool.false_eq_true, Bool.or_false, Bool.false_or, Bool.or_true, Bool.true_or, Bool.and_true, Bool.true_and, Bool.and_false, Bool.false_and, Bool.not_true, Bool.not_false, decide_true, decide_false, or_false, false_or, or_true, true_or, and_true, true_and, List.nodup_cons, List.nodup_nil, not_false_eq_true, not_true_eq_false, decide_eq_true_eq, Bool.not_eq_true', decide_eq_false_iff_not, inPin, List.any_cons, List.any_nil, isTupD, isIntD, isBoolD, isStrD, isNoneD, Nat.reduceSub, Nat.reduceAdd, Nat.reduceLeDiff, Nat.reduceEqDiff, Nat.reduceMul, Nat.reducePow, Nat.sub_self, Nat.sub_zero, Int.reduceLT, Int.reduceLE, Int.reduceNeg, Int.reduceToNat, Int.reduceEq, Bool.and_self, decide_not, reduceCtorEq, Nat.zero_le, Option.toList_none, Option.toList_some, List.append_nil, true_implies, false_implies, implies_true, not_true, not_false_eq_true, Option.map_some, hz, isInt_i, isBool_i, hab, show ¬ (x = 0) from x0, show ¬ (many < ab x) by omega]
    exact ⟨_, rfl, rfl, fun y hq => hy y (List.mem_cons_of_mem _ hq)⟩
  · rintro ⟨fl, e⟩ ⟨rfl, z, hz, rfl⟩
    simp -implicitDefEqProofs only [run_1, wp_some, wp_none, wp_bind, wp_map, wp_ite, bR_b, iR_i, dR_d, mR_m, look_d, look_l, look_s, look_f, unal_l, unal_s, unal_f, val_ow, val_al, c_var, c_cst, c_bin, c_un, c_and, c_or, c_not, c_ite, c_tup, c_lst, c_slice, c_lrng, c_trng, rngV_n, c_call, lstAt_l, c_mt0, c_mt1, cL_nil, cL_cons, cP_nil, cP_sm, cI_r1, cI_r2, cI_sq, walkAt_l, walkAt_s, walkAt_f, iter_t, iter_l, iter_a, nxt_nx, nxt_rt, nxt_bk, nxt_ct, q_skip, q_seq, q_set, q_par, tR_t, q_unp, q_setI, q_ex2, retV_ow, retV_al, q_ret2, q_retN, q_if, q_brk, q_cnt, augV_i, augV_l, augV_t, q_aug2, e_dB, e_dI, eq_ii, eq_bb, mem_ti, mem_li, atI_map, idx_t, idx_l, idx_f, cut_t, cut_l, sl_map, p_eq, p_ne, p_mem, p_nmem, p_idx, p_add, p_addT, p_addL, p_sub, p_mulT, p_mulL, p_fdiv, p_mod, p_pow, p_lt, p_le, p_gt, p_ge, p_maxm, p_minm, p_neg, p_isN, p_notN, p_isB, p_notB, p_lenT, p_lenL, p_lenF, p_tupL, p_tupT, p_listT, p_listL, p_abs, p_int, p_intB, p_revT, p_revL, p_isInt, p_isBool, p_isStr, p_isTuple, m_append, m_rev, shO_n, shO_s, shAt_c, isSh_d, isSh_l, isSh_s, isSh_f, raw_ow, raw_al, raws_n, raws_c, alK_n, alK_o, alK_a, back_n, back_o, back_l, back_s, back_f, owD_n, owD_c, owM_n, owM_c, bindM_n, bindM_c, bindN_n, bindN_c, bindT_n, bindT_t, wipe_n, wipe_c, fill_n, fillO_d, fillO_n, fillO_l, fill_c, lock_n, lock_s, open_n, open_s, aug_add, aug_sub, fturn_c, turn_c, fin_nx, fin_rt, ini_n, ini_c, outs_n, outs_d, outs_l, outs_s, outs_f, pins_n, pins_d, pins_l, pins_s, pins_f, inRng_0, inRng_1, inRng_2, eq_ti, eq_li, atI_0, atI_1, atI_2, atI_3, line_1, line_2, line_3, line_4, line_5, line_6, line_7, line_8, line_9, line_10, line_11, line_12, List.getElem?_cons_zero, List.getElem?_cons_succ, List.set_cons_zero, List.set_cons_succ, List.length_map, List.length_cons, List.length_nil, Option.bind_some, Option.bind_none, id, List.mem_cons, List.not_mem_nil, List.replicate_succ, List.replicate_zero, List.nil_append, List.cons_append, if_true, if_false, ite_true, ite_false, Bool.false_eq_true, Bool.or_false, Bool.false_or, Bool.or_true, Bool.true_or, Bool.and_true, Bool.true_and, Bool.and_false, Bool.false_and, Bool.not_true, Bool.not_false, decide_true, decide_false, or_false, false_or, or_true, true_or, and_true, true_and, List.nodup_cons, List.nodup_nil, not_false_eq_true, not_true_eq_false, decide_eq_true_eq, Bool.not_eq_true', decide_eq_false_iff_not, inPin, List.any_cons, List.any_nil, isTupD, isIntD, isBoolD, isStrD, isNoneD, Nat.reduceSub, Nat.reduceAdd, Nat.reduceLeDiff, Nat.reduceEqDiff, Nat.reduceMul, Nat.reducePow, Nat.sub_self, Nat.sub_zero, Int.reduceLT, Int.reduceLE, Int.reduceNeg, Int.reduceToNat, Int.reduceEq, Bool.and_self, decide_not, reduceCtorEq, Nat.zero_le, Option.toList_none, Option.toList_some, List.append_nil, true_implies, false_implies, implies_true, not_true, not_false_eq_true, Option.map_some, c_comp, rngL_rg, inRng_of (i := (w.length : Int)) (by omega)]
    rw [compL_filter (f := turn _ _ _ _ _) (r := PyData.int) (fun k => decide (iat w k + iat w (k - 1) = 0)) (fun x => x)]
    · have e : (rg 1 w.length).filter (fun k => decide (iat w k + iat w (k - 1) = 0)) = [] := List.filter_eq_nil_iff.mpr fun a ha => by
        rw [decide_eq_true_eq]; exact h2 a ha
      rw [e]
      simp -implicitDefEqProofs only [run_1, wp_some, wp_none, wp_bind, wp_map, wp_ite, bR_b, iR_i, dR_d, mR_m, look_d, look_l, look_s, look_f, unal_l, unal_s, unal_f, val_ow, val_al, c_var, c_cst, c_bin, c_un, c_and, c_or, c_not, c_ite, c_tup, c_lst, c_slice, c_lrng, c_trng, rngV_n, c_call, lstAt_l, c_mt0, c_mt1, cL_nil, cL_cons, cP_nil, cP_sm, cI_r1, cI_r2, cI_sq, walkAt_l, walkAt_s, walkAt_f, iter_t, iter_l, iter_a, nxt_nx, nxt_rt, nxt_bk, nxt_ct, q_skip, q_seq, q_set, q_par, tR_t, q_unp, q_setI, q_ex2, retV_ow, retV_al, q_ret2, q_retN, q_if, q_brk, q_cnt, augV_i, augV_l, augV_t, q_aug2, e_dB, e_dI, eq_ii, eq_bb, mem_ti, mem_li, atI_map, idx_t, idx_l, idx_f, cut_t, cut_l, sl_map, p_eq, p_ne, p_mem, p_nmem, p_idx, p_add, p_addT, p_addL, p_sub, p_mulT, p_mulL, p_fdiv, p_mod, p_pow, p_lt, p_le, p_gt, p_ge, p_maxm, p_minm, p_neg, p_isN, p_notN, p_isB, p_notB, p_lenT, p_lenL, p_lenF, p_tupL, p_tupT, p_listT, p_listL, p_abs, p_int, p_intB, p_revT, p_revL, p_isInt, p_isBool, p_isStr, p_isTuple, m_append, m_rev, shO_n, shO_s, shAt_c, isSh_d, isSh_l, isSh_s, isSh_f, raw_ow, raw_al, raws_n, raws_c, alK_n, alK_o, alK_a, back_n, back_o, back_l, back_s, back_f, owD_n, owD_c, owM_n, owM_c, bindM_n, bindM_c, bindN_n, bindN_c, bindT_n, bindT_t, wipe_n, wipe_c, fill_n, fillO_d, fillO_n, fillO_l, fill_c, lock_n, lock_s, open_n, open_s, aug_add, aug_sub, fturn_c, turn_c, fin_nx, fin_rt, ini_n, ini_c, outs_n, outs_d, outs_l, outs_s, outs_f, pins_n, pins_d, pins_l, pins_s, pins_f, inRng_0, inRng_1, inRng_2, eq_ti, eq_li, atI_0, atI_1, atI_2, atI_3, line_1, line_2, line_3, line_4, line_5, line_6, line_7, line_8, line_9, line_10, line_11, line_12, List.getElem?_cons_zero, List.getElem?_cons_succ, List.set_cons_zero, List.set_cons_succ, List.length_map, List.length_cons, List.length_nil, Option.bind_some, Option.bind_none, id, List.mem_cons, List.not_mem_nil, List.replicate_succ, List.replicate_zero, List.nil_append, List.cons_append, if_true, if_false, ite_true, ite_false, Bool.false_eq_true, Bool.or_false, Bool.false_or, Bool.or_true, Bool.true_or, Bool.and_true, Bool.true_and, Bool.and_false, Bool.false_and, Bool.not_true, Bool.not_false, decide_true, decide_false, or_false, false_or, or_true, true_or, and_true, true_and, List.nodup_cons, List.nodup_nil, not_false_eq_true, not_true_eq_false, decide_eq_true_eq, Bool.not_eq_true', decide_eq_false_iff_not, inPin, List.any_cons, List.any_nil, isTupD, isIntD, isBoolD, isStrD, isNoneD, Nat.reduceSub, Nat.reduceAdd, Nat.reduceLeDiff, Nat.reduceEqDiff, Nat.reduceMul, Nat.reducePow, Nat.sub_self, Nat.sub_zero, Int.reduceLT, Int.reduceLE, Int.reduceNeg, Int.reduceToNat, Int.reduceEq, Bool.and_self, decide_not, reduceCtorEq, Nat.zero_le, Option.toList_none, Option.toList_some, List.append_nil, true_implies, false_implies, implies_true, not_true, not_false_eq_true, Option.map_some, List.map_nil, line_1]
      rfl
    · intro x hx
      rw [rg_mem] at hx
      simp -implicitDefEqProofs only [run_1, wp_some, wp_none, wp_bind, wp_map, wp_ite, bR_b, iR_i, dR_d, mR_m, look_d, look_l, look_s, look_f, unal_l, unal_s, unal_f, val_ow, val_al, c_var, c_cst, c_bin, c_un, c_and, c_or, c_not, c_ite, c_tup, c_lst, c_slice, c_lrng, c_trng, rngV_n, c_call, lstAt_l, c_mt0, c_mt1, cL_nil, cL_cons, cP_nil, cP_sm, cI_r1, cI_r2, cI_sq, walkAt_l, walkAt_s, walkAt_f, iter_t, iter_l, iter_a, nxt_nx, nxt_rt, nxt_bk, nxt_ct, q_skip, q_seq, q_set, q_par, tR_t, q_unp, q_setI, q_ex2, retV_ow, retV_al, q_ret2, q_retN, q_if, q_brk, q_cnt, augV_i, augV_l, augV_t, q_aug2, e_dB, e_dI, eq_ii, eq_bb, mem_ti, mem_li, atI_map, idx_t, idx_l, idx_f, cut_t, cut_l, sl_map, p_eq, p_ne, p_mem, p_nmem, p_idx, p_add, p_addT, p_addL, p_sub, p_mulT, p_mulL, p_fdiv, p_mod, p_pow, p_lt, p_le, p_gt, p_ge, p_maxm, p_minm, p_neg, p_isN, p_notN, p_isB, p_notB, p_lenT, p_lenL, p_lenF, p_tupL, p_tupT, p_listT, p_listL, p_abs, p_int, p_intB, p_revT, p_revL, p_isInt, p_isBool, p_isStr, p_isTuple, m_append, m_rev, shO_n, shO_s, shAt_c, isSh_d, isSh_l, isSh_s, isSh_f, raw_ow, raw_al, raws_n, raws_c, alK_n, alK_o, alK_a, back_n, back_o, back_l, back_s, back_f, owD_n, owD_c, owM_n, owM_c, bindM_n, bindM_c, bindN_n, bindN_c, bindT_n, bindT_t, wipe_n, wipe_c, fill_n, fillO_d, fillO_n, fillO_l, fill_c, lock_n, lock_s, open_n, open_s, aug_add, aug_sub, fturn_c, turn_c, fin_nx, fin_rt, ini_n, ini_c, outs_n, outs_d, outs_l, outs_s, outs_f, pins_n, pins_d, pins_l, pins_s, pins_f, inRng_0, inRng_1, inRng_2, eq_ti, eq_li, atI_0, atI_1, atI_2, atI_3, line_1, line_2, line_3, line_4, line_5, line_6, line_7, line_8, line_9, line_10, line_11, line_12, List.getElem?_cons_zero, List.getElem?_cons_succ, List.set_cons_zero, List.set_cons_succ, List.length_map, List.length_cons, List.length_nil, Option.bind_some, Option.bind_none, id, List.mem_cons, List.not_mem_nil, List.replicate_succ, List.replicate_zero, List.nil_append, List.cons_append, if_true, if_false, ite_true, ite_false, Bool.false_eq_true, Bool.or_false, Bool.false_or, Bool.or_true, Bool.true_or, Bool.and_true, Bool.true_and, Bool.and_false, Bool.false_and, Bool.not_true, Bool.not_false, decide_true, decide_false, or_false, false_or, or_true, true_or, and_true, true_and, List.nodup_cons, List.nodup_nil, not_false_eq_true, not_true_eq_false, decide_eq_true_eq, Bool.not_eq_true', decide_eq_false_iff_not, inPin, List.any_cons, List.any_nil, isTupD, isIntD, isBoolD, isStrD, isNoneD, Nat.reduceSub, Nat.reduceAdd, Nat.reduceLeDiff, Nat.reduceEqDiff, Nat.reduceMul, Nat.reducePow, Nat.sub_self, Nat.sub_zero, Int.reduceLT, Int.reduceLE, Int.reduceNeg, Int.reduceToNat, Int.reduceEq, Bool.and_self, decide_not, reduceCtorEq, Nat.zero_le, Option.toList_none, Option.toList_some, List.append_nil, true_implies, false_implies, implies_true, not_true, not_false_eq_true, Option.map_some, atI_getD (xs := w) (i := x) 0 (by omega) (by omega), atI_getD (xs := w) (i := x - 1) 0 (by omega) (by omega)]
      split <;> rfl
end Law

end
section
set_option maxHeartbeats 4000000
namespace Law
open Cs PySem
theorem atI_lastD {xs : List Int} (h : 0 < xs.length) : L2.atI xs (-1) = some (xs.getLastD 0) := by
  cases hd : xs.getLast? with
  | none => simp at hd; subst hd; simp at h
  | some x => rw [atI_last hd, List.getLastD_eq_getLast?, hd]; rfl
theorem lastD_mem {xs : List Int} (h : 0 < xs.length) : xs.getLastD 0 ∈ xs := by
  cases hd : xs.getLast? with
  | none => simp at hd; subst hd; simp at h
  | some x => rw [List.getLastD_eq_getLast?, hd]; exact List.mem_of_getLast? hd
theorem ab_neg (x : Int) : ab (-x) = ab x := by unfold ab; split <;> split <;> omega
theorem letter_ok {many t u : Int} (h0 : 0 ≤ t) (h1 : t < many) : (1 + t) * (1 - 2 * (u % 2)) ≠ 0 ∧ ab ((1 + t) * (1 - 2 * (u % 2))) ≤ many := by
  have : u % 2 = 0 ∨ u % 2 = 1 := by omega
  rcases this with e | e <;> rw [e]
  · simp only [Int.mul_zero, Int.sub_zero, Int.mul_one]
    unfold ab; rw [if_neg (by omega)]; omega
  · have : (1 + t) * (1 - 2 * 1) = -(1 + t) := by omega
    rw [this, ab_neg]
    unfold ab; rw [if_neg (by omega)]; omega
theorem wordOk_snoc {w : List Int} {x many : Int} (h : WordOk w many) (hx : x ≠ 0 ∧ ab x ≤ many) : WordOk (w ++ [x]) many := by
  intro y hy
  rcases List.mem_append.mp hy with q | q
  · exact h y q
  · rw [List.mem_singleton.mp q]; exact hx
theorem law_word_sp (wf k : Nat) (ds : List Int) (many len : Int) (hm : 0 < many) (hl : 0 ≤ len) (hl2 : len ≤ 10000) : ∃ (ds' w : List Int), callF wf FS (k + 2) 17 [.lst (ds.map .int), .d (.int many), .d (.int len)] = some (.d (tI w), [.lst (ds'.map .int), .d (.int many), .d (.int len)]) ∧ w.length ≤ len.toNat ∧ WordOk w many := by
  suffices h : wp (callF wf FS (k + 2) 17 [.lst (ds.map .int), .d (.int many), .d (.int len)]) fun r => ∃ ds' w : List Int, r = (.d (tI w), [.lst (ds'.map .int), .d (.int many), .d (.int len)]) ∧ w.length ≤ len.toNat ∧ WordOk w many by
    obtain ⟨r, h1, ds', w, rfl, h2⟩ := h
    exact ⟨ds', w, h1, h2⟩
  rw [call_law_word]
  unfold f_law_word b_law_word
  have hb : ∀ t : Int, 0 ≤ t % (len + 1) ∧ t % (len + 1) < len + 1 := fun t => ⟨Int.emod_nonneg _ (by omega), Int.emod_lt_of_pos _ (by omega)⟩
  have hr : ∀ t : Int, inRng (t % (len + 1)) = true := fun t => inRng_of (by have := hb t; omega)
  have mo : ∀ a t : Int, p2 .mul (.d (.int a)) (.d (.int (1 - 2 * (t % 2)))) = some (.d (.int (a * (1 - 2 * (t % 2))))) := fun a t => mul_sr _ ⟨by omega, by omega⟩
  simp -implicitDefEqProofs only [run_1, wp_some, wp_none, wp_bind, wp_map, wp_ite, bR_b, iR_i, dR_d, mR_m, look_d, look_l, look_s, look_f, unal_l, unal_s, unal_f, val_ow, val_al, c_var, c_cst, c_bin, c_un, c_and, c_or, c_not, c_ite, c_tup, c_lst, c_slice, c_lrng, c_trng, rngV_n, c_call, lstAt_l, c_mt0, c_mt1, cL_nil, cL_cons, cP_nil, cP_sm, cI_r1, cI_r2, cI_sq, walkAt_l, walkAt_s, walkAt_f, iter_t, iter_l, iter_a, nxt_nx, nxt_rt, nxt_bk, nxt_ct, q_skip, q_seq, q_set, q_par, tR_t, q_unp, q_setI, q_ex2, retV_ow, retV_al, q_ret2, q_retN, q_if, q_brk, q_cnt, augV_i, augV_l, augV_t, q_aug2, e_dB, e_dI, eq_ii, eq_bb, mem_ti, mem_li, atI_map, idx_t, idx_l, idx_f, cut_t, cut_l, sl_map, p_eq, p_ne, p_mem, p_nmem, p_idx, p_add, p_addT, p_addL, p_sub, p_mulT, p_mulL, p_fdiv, p_mod, p_pow, p_lt, p_le, p_gt, p_ge, p_maxm, p_minm, p_neg, p_isN, p_notN, p_isB, p_notB, p_lenT, p_lenL, p_lenF, p_tupL, p_tupT, p_listT, p_listL, p_abs, p_int, p_intB, p_revT, p_revL, p_isInt, p_isBool, p_isStr, p_isTuple, m_append, m_rev, shO_n, shO_s, shAt_c, isSh_d, isSh_l, isSh_s, isSh_f, raw_ow, raw_al, raws_n, raws_c, alK_n, alK_o, alK_a, back_n, back_o, back_l, back_s, back_f, owD_n, owD_c, owM_n, owM_c, bindM_n, bindM_c, bindN_n, bindN_c, bindT_n, bindT_t, wipe_n, wipe_c, fill_n, fillO_d, fillO_n, fillO_l, fill_c, lock_n, lock_s, open_n, open_s, aug_add, aug_sub, fturn_c, turn_c, fin_nx, fin_rt, ini_n, ini_c, outs_n, outs_d, outs_l, outs_s, outs_f, pins_n, pins_d, pins_l, pins_s, pins_f, inRng_0, inRng_1, inRng_2, eq_ti, eq_li, atI_0, atI_1, atI_2, atI_3, line_1, line_2, line_3, line_4, line_5, line_6, line_7, line_8, line_9, line_10, line_11, line_12, List.getElem?_cons_zero, List.getElem?_cons_succ, List.set_cons_zero, List.set_cons_succ, List.length_map, List.length_cons, List.length_nil, Option.bind_some, Option.bind_none, id, List.mem_cons, List.not_mem_nil, List.replicate_succ, List.replicate_zero, List.nil_append, List.cons_append, if_true, if_false, ite_true, ite_false, Bool.false_eq_true, Bool.or_false, Bool.false_or, Bool.or_true, Bool.true_or, Bool.and_true, Bool.true_and, Bool.and_false, Bool.false_and, Bool.not_true, Bool.not_false, decide_true, decide_false, or_false, false_or, or_true, true_or, and_true, true_and, List.nodup_cons, List.nodup_nil, not_false_eq_true, not_true_eq_false, decide_eq_true_eq, Bool.not_eq_true', decide_eq_false_iff_not, inPin, List.any_cons, List.any_nil, isTupD, isIntD, isBoolD, isStrD, isNoneD, Nat.reduceSub, Nat.reduceAdd, Nat.reduceLeDiff, Nat.reduceEqDiff, Nat.reduceMul, Nat.reducePow, Nat.sub_self, Nat.sub_zero, Int.reduceLT, Int.reduceLE, Int.reduceNeg, Int.reduceToNat, Int.reduceEq, Bool.and_self, decide_not, reduceCtorEq, Nat.zero_le, Option.toList_none, Option.toList_some, List.append_nil, true_implies, false_implies, implies_true, not_true, not_false_eq_true, Option.map_some, q_for, law_take_sp wf k, show (0 : Int) < len + 1 by omega, hr, rngL_rg]
  generalize hn : rg 0 (ds.getLastD 0 % (len + 1)) = rs
  have hn2 : rs.length ≤ len.toNat := by rw [← hn, rg_len]; have := hb (ds.getLastD 0); omega
  generalize ds.dropLast = ds1
  refine wp_imp (forL_inv (f := fturn _ _ _ _ _) (d := PyData.int) (fun ys e => ∃ (ds2 w : List Int) (z1 z2 : Option M), e = [some (.lst (ds2.map .int)), some (.d (.int many)), some (.d (.int len)), some (.lst (w.map .int)), z1, z2] ∧ shO (some z1) = false ∧ shO (some z2) = false ∧ w.length + ys.length = rs.length ∧ WordOk w many) (Q := fun q => q.1 = .nx ∧ ∃ (ds2 w : List Int) (z1 z2 : Option M), q.2 = [some (.lst (ds2.map .int)), some (.d (.int many)), some (.d (.int len)), some (.lst (w.map .int)), z1, z2] ∧ w.length ≤ len.toNat ∧ WordOk w many) ?_ rs _ ⟨ds1, [], none, none, rfl, rfl, rfl, by simp, fun x hx => by cases hx⟩ ?_) ?_
  · rintro e ⟨ds2, w, z1, z2, rfl, _, _, h1, h2⟩
    rw [List.length_nil] at h1
    exact ⟨rfl, ds2, w, z1, z2, rfl, by omega, h2⟩
  · rintro x ys e ⟨ds2, w, z1, z2, rfl, hz1, hz2, h1, h2⟩
    rw [List.length_cons] at h1
    have hs : w.length < sizeLine := lt_line (by omega)
    have fin1 : ∀ (ds3 : List Int) (y : Int), y ≠ 0 ∧ ab y ≤ many → ∃ (ds2 w1 : List Int) (z1 z2 : Option M), [some (.lst (ds3.map .int)), some (.d (.int many)), some (.d (.int len)), some (.lst (w.map .int ++ [.int y])), some (.d (.int x)), some (.d (.int y))] = [some (.lst (ds2.map .int)), some (.d (.int many)), some (.d (.int len)), some (.lst (w1.map .int)), z1, z2] ∧ shO (some z1) = false ∧ shO (some z2) = false ∧ w1.length + ys.length = rs.length ∧ WordOk w1 many := fun ds3 y hy => by
      refine ⟨ds3, w ++ [y], some (.d (.int x)), some (.d (.int y)), ?_, rfl, rfl, by rw [List.length_append, List.length_singleton]; omega, wordOk_snoc h2 hy⟩
      rw [List.map_append]; rfl
    have hlet : ∀ t u : Int, (1 + t % many) * (1 - 2 * (u % 2)) ≠ 0 ∧ ab ((1 + t % many) * (1 - 2 * (u % 2))) ≤ many := fun t u => letter_ok (Int.emod_nonneg _ (by omega)) (Int.emod_lt_of_pos _ hm)
    simp -implicitDefEqProofs only [run_1, wp_some, wp_none, wp_bind, wp_map, wp_ite, bR_b, iR_i, dR_d, mR_m, look_d, look_l, look_s, look_f, unal_l, unal_s, unal_f, val_ow, val_al, c_var, c_cst, c_bin, c_un, c_and, c_or, c_not, c_ite, c_tup, c_lst, c_slice, c_lrng, c_trng, rngV_n, c_call, lstAt_l, c_mt0, c_mt1, cL_nil, cL_cons, cP_nil, cP_sm, cI_r1, cI_r2, cI_sq, walkAt_l, walkAt_s, walkAt_f, iter_t, iter_l, iter_a, nxt_nx, nxt_rt, nxt_bk, nxt_ct, q_skip, q_seq, q_set, q_par, tR_t, q_unp, q_setI, q_ex2, retV_ow, retV_al, q_ret2, q_retN, q_if, q_brk, q_cnt, augV_i, augV_l, augV_t, q_aug2, e_dB, e_dI, eq_ii, eq_bb, mem_ti, mem_li, atI_map, idx_t, idx_l, idx_f, cut_t, cut_l, sl_map, p_eq, p_ne, p_mem, p_nmem, p_idx, p_add, p_addT, p_addL, p_sub, p_mulT, p_mulL, p_fdiv, p_mod, p_pow, p_lt, p_le, p_gt, p_ge, p_maxm, p_minm, p_neg, p_isN, p_notN, p_isB, p_notB, p_lenT, p_lenL, p_lenF, p_tupL, p_tupT, p_listT, p_listL, p_abs, p_int, p_intB, p_revT, p_revL, p_isInt, p_isBool, p_isStr, p_isTuple, m_append, m_rev, shO_n, shO_s, shAt_c, isSh_d, isSh_l, isSh_s, isSh_f, raw_ow, raw_al, raws_n, raws_c, alK_n, alK_o, alK_a, back_n, back_o, back_l, back_s, back_f, owD_n, owD_c, owM_n, owM_c, bindM_n, bindM_c, bindN_n, bindN_c, bindT_n, bindT_t, wipe_n, wipe_c, fill_n, fillO_d, fillO_n, fillO_l, fill_c, lock_n, lock_s, open_n, open_s, aug_add, aug_sub, fturn_c, turn_c, fin_nx, fin_rt, ini_n, ini_c, outs_n, outs_d, outs_l, outs_s, outs_f, pins_n, pins_d, pins_l, pins_s, pins_f, inRng_0, inRng_1, inRng_2, eq_ti, eq_li, atI_0, atI_1, atI_2, atI_3, line_1, line_2, line_3, line_4, line_5, line_6, line_7, line_8, line_9, line_10, line_11, line_12, List.getElem?_cons_zero, List.getElem?_cons_succ, List.set_cons_zero, List.set_cons_succ, List.length_map, List.length_cons, List.length_nil, Option.bind_some, Option.bind_none, id, List.mem_cons, List.not_mem_nil, List.replicate_succ, List.replicate_zero, List.nil_append, List.cons_append, if_true, if_false, ite_true, ite_false, Bool.false_eq_true, Bool.or_false, Bool.false_or, Bool.or_true, Bool.true_or, Bool.and_true, Bool.true_and, Bool.and_false, Bool.false_and, Bool.not_true, Bool.not_false, decide_true, decide_false, or_false, false_or, or_true, true_or, and_true, true_and, List.nodup_cons, List.nodup_nil, not_false_eq_true, not_true_eq_false, decide_eq_true_eq, Bool.not_eq_true', decide_eq_false_iff_not, inPin, List.any_cons, List.any_nil, isTupD, isIntD, isBoolD, isStrD, isNoneD, Nat.reduceSub, Nat.reduceAdd, Nat.reduceLeDiff, Nat.reduceEqDiff, Nat.reduceMul, Nat.reducePow, Nat.sub_self, Nat.sub_zero, Int.reduceLT, Int.reduceLE, Int.reduceNeg, Int.reduceToNat, Int.reduceEq, Bool.and_self, decide_not, reduceCtorEq, Nat.zero_le, Option.toList_none, Option.toList_some, List.append_nil, true_implies, false_implies, implies_true, not_true, not_false_eq_true, Option.map_some, hz1, hz2, hs, law_take_sp wf k, hm, mul_sl (i := 2) _ (by decide +kernel), mo]
    refine ⟨fun h0 => ⟨fun h6 => ?_, fun h6 => fin1 _ _ (hlet _ _)⟩, fun h0 => fin1 _ _ (hlet _ _)⟩
    have h0' : 0 < w.length := by omega
    rw [atI_lastD h0']
    simp -implicitDefEqProofs only [run_1, wp_some, wp_none, wp_bind, wp_map, wp_ite, bR_b, iR_i, dR_d, mR_m, look_d, look_l, look_s, look_f, unal_l, unal_s, unal_f, val_ow, val_al, c_var, c_cst, c_bin, c_un, c_and, c_or, c_not, c_ite, c_tup, c_lst, c_slice, c_lrng, c_trng, rngV_n, c_call, lstAt_l, c_mt0, c_mt1, cL_nil, cL_cons, cP_nil, cP_sm, cI_r1, cI_r2, cI_sq, walkAt_l, walkAt_s, walkAt_f, iter_t, iter_l, iter_a, nxt_nx, nxt_rt, nxt_bk, nxt_ct, q_skip, q_seq, q_set, q_par, tR_t, q_unp, q_setI, q_ex2, retV_ow, retV_al, q_ret2, q_retN, q_if, q_brk, q_cnt, augV_i, augV_l, augV_t, q_aug2, e_dB, e_dI, eq_ii, eq_bb, mem_ti, mem_li, atI_map, idx_t, idx_l, idx_f, cut_t, cut_l, sl_map, p_eq, p_ne, p_mem, p_nmem, p_idx, p_add, p_addT, p_addL, p_sub, p_mulT, p_mulL, p_fdiv, p_mod, p_pow, p_lt, p_le, p_gt, p_ge, p_maxm, p_minm, p_neg, p_isN, p_notN, p_isB, p_notB, p_lenT, p_lenL, p_lenF, p_tupL, p_tupT, p_listT, p_listL, p_abs, p_int, p_intB, p_revT, p_revL, p_isInt, p_isBool, p_isStr, p_isTuple, m_append, m_rev, shO_n, shO_s, shAt_c, isSh_d, isSh_l, isSh_s, isSh_f, raw_ow, raw_al, raws_n, raws_c, alK_n, alK_o, alK_a, back_n, back_o, back_l, back_s, back_f, owD_n, owD_c, owM_n, owM_c, bindM_n, bindM_c, bindN_n, bindN_c, bindT_n, bindT_t, wipe_n, wipe_c, fill_n, fillO_d, fillO_n, fillO_l, fill_c, lock_n, lock_s, open_n, open_s, aug_add, aug_sub, fturn_c, turn_c, fin_nx, fin_rt, ini_n, ini_c, outs_n, outs_d, outs_l, outs_s, outs_f, pins_n, pins_d, pins_l, pins_s, pins_f, inRng_0, inRng_1, inRng_2, eq_ti, eq_li, atI_0, atI_1, atI_2, atI_3, line_1, line_2, line_3, line_4, line_5, line_6, line_7, line_8, line_9, line_10, line_11, line_12, List.getElem?_cons_zero, List.getElem?_cons_succ, List.set_cons_zero, List.set_cons_succ, List.length_map, List.length_cons, List.length_nil, Option.bind_some, Option.bind_none, id, List.mem_cons, List.not_mem_nil, List.replicate_succ, List.replicate_zero, List.nil_append, List.cons_append, if_true, if_false, ite_true, ite_false, Bool.false_eq_true, Bool.or_false, Bool.false_or, Bool.or_true, Bool.true_or, Bool.and_true, Bool.true_and, Bool.and_false, Bool.false_and, Bool.not_true, Bool.not_false, decide_true, decide_false, or_false, false_or, or_true, true_or, and_true, true_and, List.nodup_cons, List.nodup_nil, not_false_eq_true, not_true_eq_false, decide_eq_true_eq, Bool.not_eq_true', decide_eq_false_iff_not, inPin, List.any_cons, List.any_nil, isTupD, isIntD, isBoolD, isStrD, isNoneD, Nat.reduceSub, Nat.reduceAdd, Nat.reduceLeDiff, Nat.reduceEqDiff, Nat.reduceMul, Nat.reducePow, Nat.sub_self, Nat.sub_zero, Int.reduceLT, Int.reduceLE, Int.reduceNeg, Int.reduceToNat, Int.reduceEq, Bool.and_self, decide_not, reduceCtorEq, Nat.zero_le, Option.toList_none, Option.toList_some, List.append_nil, true_implies, false_implies, implies_true, not_true, not_false_eq_true, Option.map_some, hs]
    exact fin1 _ _ (by have := h2 _ (lastD_mem h0'); rw [ab_neg]; omega)
  · rintro ⟨fl, e⟩ ⟨rfl, ds2, w, z1, z2, rfl, h1, h2⟩
    simp -implicitDefEqProofs only [run_1, wp_some, wp_none, wp_bind, wp_map, wp_ite, bR_b, iR_i, dR_d, mR_m, look_d, look_l, look_s, look_f, unal_l, unal_s, unal_f, val_ow, val_al, c_var, c_cst, c_bin, c_un, c_and, c_or, c_not, c_ite, c_tup, c_lst, c_slice, c_lrng, c_trng, rngV_n, c_call, lstAt_l, c_mt0, c_mt1, cL_nil, cL_cons, cP_nil, cP_sm, cI_r1, cI_r2, cI_sq, walkAt_l, walkAt_s, walkAt_f, iter_t, iter_l, iter_a, nxt_nx, nxt_rt, nxt_bk, nxt_ct, q_skip, q_seq, q_set, q_par, tR_t, q_unp, q_setI, q_ex2, retV_ow, retV_al, q_ret2, q_retN, q_if, q_brk, q_cnt, augV_i, augV_l, augV_t, q_aug2, e_dB, e_dI, eq_ii, eq_bb, mem_ti, mem_li, atI_map, idx_t, idx_l, idx_f, cut_t, cut_l, sl_map, p_eq, p_ne, p_mem, p_nmem, p_idx, p_add, p_addT, p_addL, p_sub, p_mulT, p_mulL, p_fdiv, p_mod, p_pow, p_lt, p_le, p_gt, p_ge, p_maxm, p_minm, p_neg, p_isN, p_notN, p_isB, p_notB, p_lenT, p_lenL, p_lenF, p_tupL, p_tupT, p_listT, p_listL, p_abs, p_int, p_intB, p_revT, p_revL, p_isInt, p_isBool, p_isStr, p_isTuple, m_append, m_rev, shO_n, shO_s, shAt_c, isSh_d, isSh_l, isSh_s, isSh_f, raw_ow, raw_al, raws_n, raws_c, alK_n, alK_o, alK_a, back_n, back_o, back_l, back_s, back_f, owD_n, owD_c, owM_n, owM_c, bindM_n, bindM_c, bindN_n, bindN_c, bindT_n, bindT_t, wipe_n, wipe_c, fill_n, fillO_d, fillO_n, fillO_l, fill_c, lock_n, lock_s, open_n, open_s, aug_add, aug_sub, fturn_c, turn_c, fin_nx, fin_rt, ini_n, ini_c, outs_n, outs_d, outs_l, outs_s, outs_f, pins_n, pins_d, pins_l, pins_s, pins_f, inRng_0, inRng_1, inRng_2, eq_ti, eq_li, atI_0, atI_1, atI_2, atI_3, line_1, line_2, line_3, line_4, line_5, line_6, line_7, line_8, line_9, line_10, line_11, line_12, List.getElem?_cons_zero, List.getElem?_cons_succ, List.set_cons_zero, List.set_cons_succ, List.length_map, List.length_cons, List.length_nil, Option.bind_some, Option.bind_none, id, List.mem_cons, List.not_mem_nil, List.replicate_succ, List.replicate_zero, List.nil_append, List.cons_append, if_true, if_false, ite_true, ite_false, Bool.false_eq_true, Bool.or_false, Bool.false_or, Bool.or_true, Bool.true_or, Bool.and_true, Bool.true_and, Bool.and_false, Bool.false_and, Bool.not_true, Bool.not_false, decide_true, decide_false, or_false, false_or, or_true, true_or, and_true, true_and, List.nodup_cons, List.nodup_nil, not_false_eq_true, not_true_eq_false, decide_eq_true_eq, Bool.not_eq_true', decide_eq_false_iff_not, inPin, List.any_cons, List.any_nil, isTupD, isIntD, isBoolD, isStrD, isNoneD, Nat.reduceSub, Nat.reduceAdd, Nat.reduceLeDiff, Nat.reduceEqDiff, Nat.reduceMul, Nat.reducePow, Nat.sub_self, Nat.sub_zero, Int.reduceLT, Int.reduceLE, Int.reduceNeg, Int.reduceToNat, Int.reduceEq, Bool.and_self, decide_not, reduceCtorEq, Nat.zero_le, Option.toList_none, Option.toList_some, List.append_nil, true_implies, false_implies, implies_true, not_true, not_false_eq_true, Option.map_some]
    exact ⟨ds2, w, rfl, h1, h2⟩
theorem wordOk_mem {w v : List Int} {many : Int} (h : WordOk w many) (k : ∀ x ∈ v, x ∈ w) : WordOk v many := fun x hx => h x (k x hx)
theorem wordOk_app {w v : List Int} {many : Int} (h : WordOk w many) (k : WordOk v many) : WordOk (w ++ v) many := fun x hx => (List.mem_append.mp hx).elim (h x) (k x)
theorem iat_mem {w : List Int} {i : Int} (h0 : 0 ≤ i) (h : i < w.length) : iat w i ∈ w := by
  unfold iat
  rw [List.getD_eq_getElem?_getD, List.getElem?_eq_getElem (by omega)]
  exact List.getElem_mem _
theorem law_beside_sp (wf k : Nat) (ds : List Int) (many : Int) (w : List Int) (hm : 0 < many) (hw : w.length ≤ 24) (hok : WordOk w many) : ∃ (ds' v : List Int), callF wf FS (k + 3) 23 [.lst (ds.map .int), .d (.int many), .d (tI w)] = some (.d (tI v), [.lst (ds'.map .int), .d (.int many), .d (tI w)]) ∧ v.length ≤ 24 ∧ WordOk v many := by
  suffices h : wp (callF wf FS (k + 3) 23 [.lst (ds.map .int), .d (.int many), .d (tI w)]) fun r => ∃ ds' v : List Int, r = (.d (tI v), [.lst (ds'.map .int), .d (.int many), .d (tI w)]) ∧ v.length ≤ 24 ∧ WordOk v many by
    obtain ⟨r, h1, ds', v, rfl, h2⟩ := h
    exact ⟨ds', v, h1, h2⟩
  rw [call_law_beside]
  unfold f_law_beside b_law_beside
  have hr : ∀ t : Int, inRng (t % 6) = true := fun t => inRng_of (by omega)
  have mo : ∀ a t : Int, p2 .mul (.d (.int a)) (.d (.int (1 - 2 * (t % 2)))) = some (.d (.int (a * (1 - 2 * (t % 2))))) := fun a t => mul_sr _ ⟨by omega, by omega⟩
  simp -implicitDefEqProofs only [run_1, wp_some, wp_none, wp_bind, wp_map, wp_ite, bR_b, iR_i, dR_d, mR_m, look_d, look_l, look_s, look_f, unal_l, unal_s, unal_f, val_ow, val_al, c_var, c_cst, c_bin, c_un, c_and, c_or, c_not, c_ite, c_tup, c_lst, c_slice, c_lrng, c_trng, rngV_n, c_call, lstAt_l, c_mt0, c_mt1, cL_nil, cL_cons, cP_nil, cP_sm, cI_r1, cI_r2, cI_sq, walkAt_l, walkAt_s, walkAt_f, iter_t, iter_l, iter_a, nxt_nx, nxt_rt, nxt_bk, nxt_ct, q_skip, q_seq, q_set, q_par, tR_t, q_unp, q_setI, q_ex2, retV_ow, retV_al, q_ret2, q_retN, q_if, q_brk, q_cnt, augV_i, augV_l, augV_t, q_aug2, e_dB, e_dI, eq_ii, eq_bb, mem_ti, mem_li, atI_map, idx_t, idx_l, idx_f, cut_t, cut_l, sl_map, p_eq, p_ne, p_mem, p_nmem, p_idx, p_add, p_addT, p_addL, p_sub, p_mulT, p_mulL, p_fdiv, p_mod, p_pow, p_lt, p_le, p_gt, p_ge, p_maxm, p_minm, p_neg, p_isN, p_notN, p_isB, p_notB, p_lenT, p_lenL, p_lenF, p_tupL, p_tupT, p_listT, p_listL, p_abs, p_int, p_intB, p_revT, p_revL, p_isInt, p_isBool, p_isStr, p_isTuple, m_append, m_rev, shO_n, shO_s, shAt_c, isSh_d, isSh_l, isSh_s, isSh_f, raw_ow, raw_al, raws_n, raws_c, alK_n, alK_o, alK_a, back_n, back_o, back_l, back_s, back_f, owD_n, owD_c, owM_n, owM_c, bindM_n, bindM_c, bindN_n, bindN_c, bindT_n, bindT_t, wipe_n, wipe_c, fill_n, fillO_d, fillO_n, fillO_l, fill_c, lock_n, lock_s, open_n, open_s, aug_add, aug_sub, fturn_c, turn_c, fin_nx, fin_rt, ini_n, ini_c, outs_n, outs_d, outs_l, outs_s, outs_f, pins_n, pins_d, pins_l, pins_s, pins_f, inRng_0, inRng_1, inRng_2, eq_ti, eq_li, atI_0, atI_1, atI_2, atI_3, line_1, line_2, line_3, line_4, line_5, line_6, line_7, line_8, line_9, line_10, line_11, line_12, List.getElem?_cons_zero, List.getElem?_cons_succ, List.set_cons_zero, List.set_cons_succ, List.length_map, List.length_cons, List.length_nil, Option.bind_some, Option.bind_none, id, List.mem_cons, List.not_mem_nil, List.replicate_succ, List.replicate_zero, List.nil_append, List.cons_append, if_true, if_false, ite_true, ite_false, Bool.false_eq_true, Bool.or_false, Bool.false_or, Bool.or_true, Bool.true_or, Bool.and_true, Bool.true_and, Bool.and_false, Bool.false_and, Bool.not_true, Bool.not_false, decide_true, decide_false, or_false, false_or, or_true, true_or, and_true, true_and, List.nodup_cons, List.nodup_nil, not_false_eq_true, not_true_eq_false, decide_eq_true_eq, Bool.not_eq_true', decide_eq_false_iff_not, inPin, List.any_cons, List.any_nil, isTupD, isIntD, isBoolD, isStrD, isNoneD, Nat.reduceSub, Nat.reduceAdd, Nat.reduceLeDiff, Nat.reduceEqDiff, Nat.reduceMul, Nat.reducePow, Nat.sub_self, Nat.sub_zero, Int.reduceLT, Int.reduceLE, Int.reduceNeg, Int.reduceToNat, Int.reduceEq, Bool.and_self, decide_not, reduceCtorEq, Nat.zero_le, Option.toList_none, Option.toList_some, List.append_nil, true_implies, false_implies, implies_true, not_true, not_false_eq_true, Option.map_some, law_take_sp wf (k + 1)]
  refine ⟨fun h0 => ?_, fun h0 => ?_⟩
  · obtain ⟨ds', v, h1, h2, h3⟩ := law_word_sp wf k ds.dropLast many 24 hm (by decide) (by decide)
    simp -implicitDefEqProofs only [run_1, wp_some, wp_none, wp_bind, wp_map, wp_ite, bR_b, iR_i, dR_d, mR_m, look_d, look_l, look_s, look_f, unal_l, unal_s, unal_f, val_ow, val_al, c_var, c_cst, c_bin, c_un, c_and, c_or, c_not, c_ite, c_tup, c_lst, c_slice, c_lrng, c_trng, rngV_n, c_call, lstAt_l, c_mt0, c_mt1, cL_nil, cL_cons, cP_nil, cP_sm, cI_r1, cI_r2, cI_sq, walkAt_l, walkAt_s, walkAt_f, iter_t, iter_l, iter_a, nxt_nx, nxt_rt, nxt_bk, nxt_ct, q_skip, q_seq, q_set, q_par, tR_t, q_unp, q_setI, q_ex2, retV_ow, retV_al, q_ret2, q_retN, q_if, q_brk, q_cnt, augV_i, augV_l, augV_t, q_aug2, e_dB, e_dI, eq_ii, eq_bb, mem_ti, mem_li, atI_map, idx_t, idx_l, idx_f, cut_t, cut_l, sl_map, p_eq, p_ne, p_mem, p_nmem, p_idx, p_add, p_addT, p_addL, p_sub, p_mulT, p_mulL, p_fdiv, p_mod, p_pow, p_lt, p_le, p_gt, p_ge, p_maxm, p_minm, p_neg, p_isN, p_notN, p_isB, p_notB, p_lenT, p_lenL, p_lenF, p_tupL, p_tupT, p_listT, p_listL, p_abs, p_int, p_intB, p_revT, p_revL, p_isInt, p_isBool, p_isStr, p_isTuple, m_append, m_rev, shO_n, shO_s, shAt_c, isSh_d, isSh_l, isSh_s, isSh_f, raw_ow, raw_al, raws_n, raws_c, alK_n, alK_o, alK_a, back_n, back_o, back_l, back_s, back_f, owD_n, owD_c, owM_n, owM_c, bindM_n, bindM_c, bindN_n, bindN_c, bindT_n, bindT_t, wipe_n, wipe_c, fill_n, fillO_d, fillO_n, fillO_l, fill_c, lock_n, lock_s, open_n, open_s, aug_add, aug_sub, fturn_c, turn_c, fin_nx, fin_rt, ini_n, ini_c, outs_n, outs_d, outs_l, outs_s, outs_f, pins_n, pins_d, pins_l, pins_s, pins_f, inRng_0, inRng_1, inRng_2, eq_ti, eq_li, atI_0, atI_1, atI_2, atI_3, line_1, line_2, line_3, line_4, line_5, line_6, line_7, line_8, line_9, line_10, line_11, line_12, List.getElem?_cons_zero, List.getElem?_cons_succ, List.set_cons_zero, List.set_cons_succ, List.length_map, List.length_cons, List.length_nil, Option.bind_some, Option.bind_none, id, List.mem_cons, List.not_mem_nil, List.replicate_succ, List.replicate_zero, List.nil_append, List.cons_append, if_true, if_false, ite_true, ite_false, Bool.false_eq_true, Bool.or_false, Bool.false_or, Bool.or_true, Bool.true_or, Bool.and_true, Bool.true_and, Bool.and_false, Bool.false_and, Bool.not_true, Bool.not_false, decide_true, decide_false, or_false, false_or, or_true, true_or, and_true, true_and, List.nodup_cons, List.nodup_nil, not_false_eq_true, not_true_eq_false, decide_eq_true_eq, Bool.not_eq_true', decide_eq_false_iff_not, inPin, List.any_cons, List.any_nil, isTupD, isIntD, isBoolD, isStrD, isNoneD, Nat.reduceSub, Nat.reduceAdd, Nat.reduceLeDiff, Nat.reduceEqDiff, Nat.reduceMul, Nat.reducePow, Nat.sub_self, Nat.sub_zero, Int.reduceLT, Int.reduceLE, Int.reduceNeg, Int.reduceToNat, Int.reduceEq, Bool.and_self, decide_not, reduceCtorEq, Nat.zero_le, Option.toList_none, Option.toList_some, List.append_nil, true_implies, false_implies, implies_true, not_true, not_false_eq_true, Option.map_some, h1]
    exact ⟨ds', v, rfl, h2, h3⟩
  · generalize ds.getLastD 0 % 5 = kind
    generalize ds.dropLast = ds1
    simp -implicitDefEqProofs only [run_1, wp_some, wp_none, wp_bind, wp_map, wp_ite, bR_b, iR_i, dR_d, mR_m, look_d, look_l, look_s, look_f, unal_l, unal_s, unal_f, val_ow, val_al, c_var, c_cst, c_bin, c_un, c_and, c_or, c_not, c_ite, c_tup, c_lst, c_slice, c_lrng, c_trng, rngV_n, c_call, lstAt_l, c_mt0, c_mt1, cL_nil, cL_cons, cP_nil, cP_sm, cI_r1, cI_r2, cI_sq, walkAt_l, walkAt_s, walkAt_f, iter_t, iter_l, iter_a, nxt_nx, nxt_rt, nxt_bk, nxt_ct, q_skip, q_seq, q_set, q_par, tR_t, q_unp, q_setI, q_ex2, retV_ow, retV_al, q_ret2, q_retN, q_if, q_brk, q_cnt, augV_i, augV_l, augV_t, q_aug2, e_dB, e_dI, eq_ii, eq_bb, mem_ti, mem_li, atI_map, idx_t, idx_l, idx_f, cut_t, cut_l, sl_map, p_eq, p_ne, p_mem, p_nmem, p_idx, p_add, p_addT, p_addL, p_sub, p_mulT, p_mulL, p_fdiv, p_mod, p_pow, p_lt, p_le, p_gt, p_ge, p_maxm, p_minm, p_neg, p_isN, p_notN, p_isB, p_notB, p_lenT, p_lenL, p_lenF, p_tupL, p_tupT, p_listT, p_listL, p_abs, p_int, p_intB, p_revT, p_revL, p_isInt, p_isBool, p_isStr, p_isTuple, m_append, m_rev, shO_n, shO_s, shAt_c, isSh_d, isSh_l, isSh_s, isSh_f, raw_ow, raw_al, raws_n, raws_c, alK_n, alK_o, alK_a, back_n, back_o, back_l, back_s, back_f, owD_n, owD_c, owM_n, owM_c, bindM_n, bindM_c, bindN_n, bindN_c, bindT_n, bindT_t, wipe_n, wipe_c, fill_n, fillO_d, fillO_n, fillO_l, fill_c, lock_n, lock_s, open_n, open_s, aug_add, aug_sub, fturn_c, turn_c, fin_nx, fin_rt, ini_n, ini_c, outs_n, outs_d, outs_l, outs_s, outs_f, pins_n, pins_d, pins_l, pins_s, pins_f, inRng_0, inRng_1, inRng_2, eq_ti, eq_li, atI_0, atI_1, atI_2, atI_3, line_1, line_2, line_3, line_4, line_5, line_6, line_7, line_8, line_9, line_10, line_11, line_12, List.getElem?_cons_zero, List.getElem?_cons_succ, List.set_cons_zero, List.set_cons_succ, List.length_map, List.length_cons, List.length_nil, Option.bind_some, Option.bind_none, id, List.mem_cons, List.not_mem_nil, List.replicate_succ, List.replicate_zero, List.nil_append, List.cons_append, if_true, if_false, ite_true, ite_false, Bool.false_eq_true, Bool.or_false, Bool.false_or, Bool.or_true, Bool.true_or, Bool.and_true, Bool.true_and, Bool.and_false, Bool.false_and, Bool.not_true, Bool.not_false, decide_true, decide_false, or_false, false_or, or_true, true_or, and_true, true_and, List.nodup_cons, List.nodup_nil, not_false_eq_true, not_true_eq_false, decide_eq_true_eq, Bool.not_eq_true', decide_eq_false_iff_not, inPin, List.any_cons, List.any_nil, isTupD, isIntD, isBoolD, isStrD, isNoneD, Nat.reduceSub, Nat.reduceAdd, Nat.reduceLeDiff, Nat.reduceEqDiff, Nat.reduceMul, Nat.reducePow, Nat.sub_self, Nat.sub_zero, Int.reduceLT, Int.reduceLE, Int.reduceNeg, Int.reduceToNat, Int.reduceEq, Bool.and_self, decide_not, reduceCtorEq, Nat.zero_le, Option.toList_none, Option.toList_some, List.append_nil, true_implies, false_implies, implies_true, not_true, not_false_eq_true, Option.map_some, q_for, hr, rngL_rg, law_take_sp wf (k + 1)]
    refine wp_imp (forL_inv (f := fturn _ _ _ _ _) (d := PyData.int) (fun ys e => ∃ (ds2 v : List Int) (z1 z2 z3 : Option M), e = [some (.lst (ds2.map .int)), some (.d (.int many)), some (.d (tI w)), some (.lst (v.map .int)), some (.d (.int kind)), z1, z2, z3] ∧ shO (some z1) = false ∧ shO (some z2) = false ∧ shO (some z3) = false ∧ v.length ≤ 24 ∧ WordOk v many) (Q := fun q => q.1 = .nx ∧ ∃ (ds2 v : List Int) (z1 z2 z3 : Option M), q.2 = [some (.lst (ds2.map .int)), some (.d (.int many)), some (.d (tI w)), some (.lst (v.map .int)), some (.d (.int kind)), z1, z2, z3] ∧ shO (some z1) = false ∧ shO (some z2) = false ∧ shO (some z3) = false ∧ v.length ≤ 24 ∧ WordOk v many) ?_ _ _ ⟨_, w, none, none, none, rfl, rfl, rfl, rfl, hw, hok⟩ ?_) ?_
    · rintro e ⟨ds2, v, z1, z2, z3, rfl, h1, h2, h3, h4, h5⟩
      exact ⟨rfl, ds2, v, z1, z2, z3, rfl, h1, h2, h3, h4, h5⟩
    · rintro x ys e ⟨ds2, v, z1, z2, z3, rfl, h1, h2, h3, h4, h5⟩
      have hv : (0 : Int) < v.length + 1 := by omega
      have hb : ∀ t : Int, 0 ≤ t % ((v.length : Int) + 1) ∧ t % ((v.length : Int) + 1) < v.length + 1 := fun t => ⟨Int.emod_nonneg _ (by omega), Int.emod_lt_of_pos _ (by omega)⟩
      simp -implicitDefEqProofs only [run_1, wp_some, wp_none, wp_bind, wp_map, wp_ite, bR_b, iR_i, dR_d, mR_m, look_d, look_l, look_s, look_f, unal_l, unal_s, unal_f, val_ow, val_al, c_var, c_cst, c_bin, c_un, c_and, c_or, c_not, c_ite, c_tup, c_lst, c_slice, c_lrng, c_trng, rngV_n, c_call, lstAt_l, c_mt0, c_mt1, cL_nil, cL_cons, cP_nil, cP_sm, cI_r1, cI_r2, cI_sq, walkAt_l, walkAt_s, walkAt_f, iter_t, iter_l, iter_a, nxt_nx, nxt_rt, nxt_bk, nxt_ct, q_skip, q_seq, q_set, q_par, tR_t, q_unp, q_setI, q_ex2, retV_ow, retV_al, q_ret2, q_retN, q_if, q_brk, q_cnt, augV_i, augV_l, augV_t, q_aug2, e_dB, e_dI, eq_ii, eq_bb, mem_ti, mem_li, atI_map, idx_t, idx_l, idx_f, cut_t, cut_l, sl_map, p_eq, p_ne, p_mem, p_nmem, p_idx, p_add, p_addT, p_addL, p_sub, p_mulT, p_mulL, p_fdiv, p_mod, p_pow, p_lt, p_le, p_gt, p_ge, p_maxm, p_minm, p_neg, p_isN, p_notN, p_isB, p_notB, p_lenT, p_lenL, p_lenF, p_tupL, p_tupT, p_listT, p_listL, p_abs, p_int, p_intB, p_revT, p_revL, p_isInt, p_isBool, p_isStr, p_isTuple, m_append, m_rev, shO_n, shO_s, shAt_c, isSh_d, isSh_l, isSh_s, isSh_f, raw_ow, raw_al, raws_n, raws_c, alK_n, alK_o, alK_a, back_n, back_o, back_l, back_s, back_f, owD_n, owD_c, owM_n, owM_c, bindM_n, bindM_c, bindN_n, bindN_c, bindT_n, bindT_t, wipe_n, wipe_c, fill_n, fillO_d, fillO_n, fillO_l, fill_c, lock_n, lock_s, open_n, open_s, aug_add, aug_sub, fturn_c, turn_c, fin_nx, fin_rt, ini_n, ini_c, outs_n, outs_d, outs_l, outs_s, outs_f, pins_n, pins_d, pins_l, pins_s, pins_f, inRng_0, inRng_1, inRng_2, eq_ti, eq_li, atI_0, atI_1, atI_2, atI_3, line_1, line_2, line_3, line_4, line_5, line_6, line_7, line_8, line_9, line_10, line_11, line_12, List.getElem?_cons_zero, List.getElem?_cons_succ, List.set_cons_zero, List.set_cons_succ, List.length_map, List.length_cons, List.length_nil, Option.bind_some, Option.bind_none, id, List.mem_cons, List.not_mem_nil, List.replicate_succ, List.replicate_zero, List.nil_append, List.cons_append, if_true, if_false, ite_true, ite_false, Bool.false_eq_true, Bool.or_false, Bool.false_or, Bool.or_true, Bool.true_or, Bool.and_true, Bool.true_and, Bool.and_false, Bool.false_and, Bool.not_true, Bool.not_false, decide_true, decide_false, or_false, false_or, or_true, true_or, and_true, true_and, List.nodup_cons, List.nodup_nil, not_false_eq_true, not_true_eq_false, decide_eq_true_eq, Bool.not_eq_true', decide_eq_false_iff_not, inPin, List.any_cons, List.any_nil, isTupD, isIntD, isBoolD, isStrD, isNoneD, Nat.reduceSub, Nat.reduceAdd, Nat.reduceLeDiff, Nat.reduceEqDiff, Nat.reduceMul, Nat.reducePow, Nat.sub_self, Nat.sub_zero, Int.reduceLT, Int.reduceLE, Int.reduceNeg, Int.reduceToNat, Int.reduceEq, Bool.and_self, decide_not, reduceCtorEq, Nat.zero_le, Option.toList_none, Option.toList_some, List.append_nil, true_implies, false_implies, implies_true, not_true, not_false_eq_true, Option.map_some, h1, h2, h3, law_take_sp wf (k + 1), hm, hv, mul_sl (i := 2) _ (by decide +kernel), mo, line_2]
      have hat := hb (ds2.getLastD 0)
      generalize ds2.getLastD 0 % ((v.length : Int) + 1) = at_ at hat
      have hlet : ∀ t u : Int, (1 + t % many) * (1 - 2 * (u % 2)) ≠ 0 ∧ ab ((1 + t % many) * (1 - 2 * (u % 2))) ≤ many := fun t u => letter_ok (Int.emod_nonneg _ (by omega)) (Int.emod_lt_of_pos _ hm)
      have hl := hlet (ds2.dropLast.getLastD 0) (ds2.dropLast.dropLast.getLastD 0)
      generalize (1 + ds2.dropLast.getLastD 0 % many) * (1 - 2 * (ds2.dropLast.dropLast.getLastD 0 % 2)) = y at hl
      simp -implicitDefEqProofs only [run_1, wp_some, wp_none, wp_bind, wp_map, wp_ite, bR_b, iR_i, dR_d, mR_m, look_d, look_l, look_s, look_f, unal_l, unal_s, unal_f, val_ow, val_al, c_var, c_cst, c_bin, c_un, c_and, c_or, c_not, c_ite, c_tup, c_lst, c_slice, c_lrng, c_trng, rngV_n, c_call, lstAt_l, c_mt0, c_mt1, cL_nil, cL_cons, cP_nil, cP_sm, cI_r1, cI_r2, cI_sq, walkAt_l, walkAt_s, walkAt_f, iter_t, iter_l, iter_a, nxt_nx, nxt_rt, nxt_bk, nxt_ct, q_skip, q_seq, q_set, q_par, tR_t, q_unp, q_setI, q_ex2, retV_ow, retV_al, q_ret2, q_retN, q_if, q_brk, q_cnt, augV_i, augV_l, augV_t, q_aug2, e_dB, e_dI, eq_ii, eq_bb, mem_ti, mem_li, atI_map, idx_t, idx_l, idx_f, cut_t, cut_l, sl_map, p_eq, p_ne, p_mem, p_nmem, p_idx, p_add, p_addT, p_addL, p_sub, p_mulT, p_mulL, p_fdiv, p_mod, p_pow, p_lt, p_le, p_gt, p_ge, p_maxm, p_minm, p_neg, p_isN, p_notN, p_isB, p_notB, p_lenT, p_lenL, p_lenF, p_tupL, p_tupT, p_listT, p_listL, p_abs, p_int, p_intB, p_revT, p_revL, p_isInt, p_isBool, p_isStr, p_isTuple, m_append, m_rev, shO_n, shO_s, shAt_c, isSh_d, isSh_l, isSh_s, isSh_f, raw_ow, raw_al, raws_n, raws_c, alK_n, alK_o, alK_a, back_n, back_o, back_l, back_s, back_f, owD_n, owD_c, owM_n, owM_c, bindM_n, bindM_c, bindN_n, bindN_c, bindT_n, bindT_t, wipe_n, wipe_c, fill_n, fillO_d, fillO_n, fillO_l, fill_c, lock_n, lock_s, open_n, open_s, aug_add, aug_sub, fturn_c, turn_c, fin_nx, fin_rt, ini_n, ini_c, outs_n, outs_d, outs_l, outs_s, outs_f, pins_n, pins_d, pins_l, pins_s, pins_f, inRng_0, inRng_1, inRng_2, eq_ti, eq_li, atI_0, atI_1, atI_2, atI_3, line_1, line_2, line_3, line_4, line_5, line_6, line_7, line_8, line_9, line_10, line_11, line_12, List.getElem?_cons_zero, List.getElem?_cons_succ, List.set_cons_zero, List.set_cons_succ, List.length_map, List.length_cons, List.length_nil, Option.bind_some, Option.bind_none, id, List.mem_cons, List.not_mem_nil, List.replicate_succ, List.replicate_zero, List.nil_append, List.cons_append, if_true, if_false, ite_true, ite_false, Bool.false_eq_true, Bool.or_false, Bool.false_or, Bool.or_true, Bool.true_or, Bool.and_true, Bool.true_and, Bool.and_false, Bool.false_and, Bool.not_true, Bool.not_false, decide_true, decide_false, or_false, false_or, or_true, true_or, and_true, true_and, List.nodup_cons, List.nodup_nil, not_false_eq_true, not_true_eq_false, decide_eq_true_eq, Bool.not_eq_true', decide_eq_false_iff_not, inPin, List.any_cons, List.any_nil, isTupD, isIntD, isBoolD, isStrD, isNoneD, Nat.reduceSub, Nat.reduceAdd, Nat.reduceLeDiff, Nat.reduceEqDiff, Nat.reduceMul, Nat.reducePow, Nat.sub_self, Nat.sub_zero, Int.reduceLT, Int.reduceLE, Int.reduceNeg, Int.reduceToNat, Int.reduceEq, Bool.and_self, decide_not, reduceCtorEq, Nat.zero_le, Option.toList_none, Option.toList_some, List.append_nil, true_implies, false_implies, implies_true, not_true, not_false_eq_true, Option.map_some, sl_to v hat.1, sl_from v hat.1]
      have e1 : (v.take at_.toNat).length + 2 ≤ sizeLine := le_line (by rw [List.length_take]; omega)
      have e2 : ((v.take at_.toNat).map PyData.int ++ [PyData.int y, PyData.int (-y)]).length + (v.drop at_.toNat).length ≤ sizeLine := le_line (by
        simp only [List.length_append, List.length_map, List.length_take, List.length_drop, List.length_cons, List.length_nil]; omega)
      refine ⟨fun hlt => ⟨fun _ => ⟨fun _ => ?_, fun q => absurd e2 q⟩, fun q => absurd e1 q⟩, fun _ => ⟨_, v, _, _, _, rfl, rfl, rfl, rfl, h4, h5⟩⟩
      refine ⟨ds2.dropLast.dropLast.dropLast, v.take at_.toNat ++ [y, -y] ++ v.drop at_.toNat, some (.d (.int x)), some (.d (.int at_)), some (.d (.int y)), by simp only [List.map_append, List.map_cons, List.map_nil], rfl, rfl, rfl, ?_, ?_⟩
      · simp only [List.length_append, List.length_take, List.length_drop, List.length_cons, List.length_nil]; omega
      · refine wordOk_app (wordOk_app (wordOk_mem h5 fun x hx => List.mem_of_mem_take hx) fun x hx => ?_) (wordOk_mem h5 fun x hx => List.mem_of_mem_drop hx)
        simp only [List.mem_cons, List.not_mem_nil, or_false] at hx
        rcases hx with rfl | rfl
        · exact hl
        · rw [ab_neg]; exact ⟨by omega, hl.2⟩
    · rintro ⟨fl, e⟩ ⟨rfl, ds2, v, z1, z2, z3, rfl, h1, h2, h3, h4, h5⟩
      have hv : (0 : Int) < (if (v.length : Int) - 1 > 1 then (v.length : Int) - 1 else 1) := by split <;> omega
      have hp : 0 ≤ ds2.getLastD 0 % (if (v.length : Int) - 1 > 1 then (v.length : Int) - 1 else 1) ∧ ds2.getLastD 0 % (if (v.length : Int) - 1 > 1 then (v.length : Int) - 1 else 1) < (if (v.length : Int) - 1 > 1 then (v.length : Int) - 1 else 1) := ⟨Int.emod_nonneg _ (by omega), Int.emod_lt_of_pos _ hv⟩
      have ht := law_take_sp wf (k + 1) ds2 _ hv
      generalize ds2.getLastD 0 % (if (v.length : Int) - 1 > 1 then (v.length : Int) - 1 else 1) = p at hp ht
      have hpl : 0 < v.length → p < v.length := fun q => by have := hp.2; split at this <;> omega
      have hpl2 : 1 < v.length → p + 1 < v.length := fun q => by have := hp.2; split at this <;> omega
      by_cases k1 : kind = 1
      · subst k1
        simp -implicitDefEqProofs only [run_1, wp_some, wp_none, wp_bind, wp_map, wp_ite, bR_b, iR_i, dR_d, mR_m, look_d, look_l, look_s, look_f, unal_l, unal_s, unal_f, val_ow, val_al, c_var, c_cst, c_bin, c_un, c_and, c_or, c_not, c_ite, c_tup, c_lst, c_slice, c_lrng, c_trng, rngV_n, c_call, lstAt_l, c_mt0, c_mt1, cL_nil, cL_cons, cP_nil, cP_sm, cI_r1, cI_r2, cI_sq, walkAt_l, walkAt_s, walkAt_f, iter_t, iter_l, iter_a, nxt_nx, nxt_rt, nxt_bk, nxt_ct, q_skip, q_seq, q_set, q_par, tR_t, q_unp, q_setI, q_ex2, retV_ow, retV_al, q_ret2, q_retN, q_if, q_brk, q_cnt, augV_i, augV_l, augV_t, q_aug2, e_dB, e_dI, eq_ii, eq_bb, mem_ti, mem_li, atI_map, idx_t, idx_l, idx_f, cut_t, cut_l, sl_map, p_eq, p_ne, p_mem, p_nmem, p_idx, p_add, p_addT, p_addL, p_sub, p_mulT, p_mulL, p_fdiv, p_mod, p_pow, p_lt, p_le, p_gt, p_ge, p_maxm, p_minm, p_neg, p_isN, p_notN, p_isB, p_notB, p_lenT, p_lenL, p_lenF, p_tupL, p_tupT, p_listT, p_listL, p_abs, p_int, p_intB, p_revT, p_revL, p_isInt, p_isBool, p_isStr, p_isTuple, m_append, m_rev, shO_n, shO_s, shAt_c, isSh_d, isSh_l, isSh_s, isSh_f, raw_ow, raw_al, raws_n, raws_c, alK_n, alK_o, alK_a, back_n, back_o, back_l, back_s, back_f, owD_n, owD_c, owM_n, owM_c, bindM_n, bindM_c, bindN_n, bindN_c, bindT_n, bindT_t, wipe_n, wipe_c, fill_n, fillO_d, fillO_n, fillO_l, fill_c, lock_n, lock_s, open_n, open_s, aug_add, aug_sub, fturn_c, turn_c, fin_nx, fin_rt, ini_n, ini_c, outs_n, outs_d, outs_l, outs_s, outs_f, pins_n, pins_d, pins_l, pins_s, pins_f, inRng_0, inRng_1, inRng_2, eq_ti, eq_li, atI_0, atI_1, atI_2, atI_3, line_1, line_2, line_3, line_4, line_5, line_6, line_7, line_8, line_9, line_10, line_11, line_12, List.getElem?_cons_zero, List.getElem?_cons_succ, List.set_cons_zero, List.set_cons_succ, List.length_map, List.length_cons, List.length_nil, Option.bind_some, Option.bind_none, id, List.mem_cons, List.not_mem_nil, List.replicate_succ, List.replicate_zero, List.nil_append, List.cons_append, if_true, if_false, ite_true, ite_false, Bool.false_eq_true, Bool.or_false, Bool.false_or, Bool.or_true, Bool.true_or, Bool.and_true, Bool.true_and, Bool.and_false, Bool.false_and, Bool.not_true, Bool.not_false, decide_true, decide_false, or_false, false_or, or_true, true_or, and_true, true_and, List.nodup_cons, List.nodup_nil, not_false_eq_true, not_true_eq_false, decide_eq_true_eq, Bool.not_eq_true', decide_eq_false_iff_not, inPin, List.any_cons, List.any_nil, isTupD, isIntD, isBoolD, isStrD, isNoneD, Nat.reduceSub, Nat.reduceAdd, Nat.reduceLeDiff, Nat.reduceEqDiff, Nat.reduceMul, Nat.reducePow, Nat.sub_self, Nat.sub_zero, Int.reduceLT, Int.reduceLE, Int.reduceNeg, Int.reduceToNat, Int.reduceEq, Bool.and_self, decide_not, reduceCtorEq, Nat.zero_le, Option.toList_none, Option.toList_some, List.append_nil, true_implies, false_implies, implies_true, not_true, not_false_eq_true, Option.map_some, h1, h2, h3, ht]
        refine ⟨fun q => ?_, fun _ => ⟨_, v, rfl, h4, h5⟩⟩
        have q1 := hpl (by omega)
        have hix : L2.ixN v.length p = some p.toNat := by unfold L2.ixN; rw [if_pos hp.1, if_pos (by omega)]
        simp -implicitDefEqProofs only [run_1, wp_some, wp_none, wp_bind, wp_map, wp_ite, bR_b, iR_i, dR_d, mR_m, look_d, look_l, look_s, look_f, unal_l, unal_s, unal_f, val_ow, val_al, c_var, c_cst, c_bin, c_un, c_and, c_or, c_not, c_ite, c_tup, c_lst, c_slice, c_lrng, c_trng, rngV_n, c_call, lstAt_l, c_mt0, c_mt1, cL_nil, cL_cons, cP_nil, cP_sm, cI_r1, cI_r2, cI_sq, walkAt_l, walkAt_s, walkAt_f, iter_t, iter_l, iter_a, nxt_nx, nxt_rt, nxt_bk, nxt_ct, q_skip, q_seq, q_set, q_par, tR_t, q_unp, q_setI, q_ex2, retV_ow, retV_al, q_ret2, q_retN, q_if, q_brk, q_cnt, augV_i, augV_l, augV_t, q_aug2, e_dB, e_dI, eq_ii, eq_bb, mem_ti, mem_li, atI_map, idx_t, idx_l, idx_f, cut_t, cut_l, sl_map, p_eq, p_ne, p_mem, p_nmem, p_idx, p_add, p_addT, p_addL, p_sub, p_mulT, p_mulL, p_fdiv, p_mod, p_pow, p_lt, p_le, p_gt, p_ge, p_maxm, p_minm, p_neg, p_isN, p_notN, p_isB, p_notB, p_lenT, p_lenL, p_lenF, p_tupL, p_tupT, p_listT, p_listL, p_abs, p_int, p_intB, p_revT, p_revL, p_isInt, p_isBool, p_isStr, p_isTuple, m_append, m_rev, shO_n, shO_s, shAt_c, isSh_d, isSh_l, isSh_s, isSh_f, raw_ow, raw_al, raws_n, raws_c, alK_n, alK_o, alK_a, back_n, back_o, back_l, back_s, back_f, owD_n, owD_c, owM_n, owM_c, bindM_n, bindM_c, bindN_n, bindN_c, bindT_n, bindT_t, wipe_n, wipe_c, fill_n, fillO_d, fillO_n, fillO_l, fill_c, lock_n, lock_s, open_n, open_s, aug_add, aug_sub, fturn_c, turn_c, fin_nx, fin_rt, ini_n, ini_c, outs_n, outs_d, outs_l, outs_s, outs_f, pins_n, pins_d, pins_l, pins_s, pins_f, inRng_0, inRng_1, inRng_2, eq_ti, eq_li, atI_0, atI_1, atI_2, atI_3, line_1, line_2, line_3, line_4, line_5, line_6, line_7, line_8, line_9, line_10, line_11, line_12, List.getElem?_cons_zero, List.getElem?_cons_succ, List.set_cons_zero, List.set_cons_succ, List.length_map, List.length_cons, List.length_nil, Option.bind_some, Option.bind_none, id, List.mem_cons, List.not_mem_nil, List.replicate_succ, List.replicate_zero, List.nil_append, List.cons_append, if_true, if_false, ite_true, ite_false, Bool.false_eq_true, Bool.or_false, Bool.false_or, Bool.or_true, Bool.true_or, Bool.and_true, Bool.true_and, Bool.and_false, Bool.false_and, Bool.not_true, Bool.not_false, decide_true, decide_false, or_false, false_or, or_true, true_or, and_true, true_and, List.nodup_cons, List.nodup_nil, not_false_eq_true, not_true_eq_false, decide_eq_true_eq, Bool.not_eq_true', decide_eq_false_iff_not, inPin, List.any_cons, List.any_nil, isTupD, isIntD, isBoolD, isStrD, isNoneD, Nat.reduceSub, Nat.reduceAdd, Nat.reduceLeDiff, Nat.reduceEqDiff, Nat.reduceMul, Nat.reducePow, Nat.sub_self, Nat.sub_zero, Int.reduceLT, Int.reduceLE, Int.reduceNeg, Int.reduceToNat, Int.reduceEq, Bool.and_self, decide_not, reduceCtorEq, Nat.zero_le, Option.toList_none, Option.toList_some, List.append_nil, true_implies, false_implies, implies_true, not_true, not_false_eq_true, Option.map_some, atI_getD (xs := v) (i := p) 0 hp.1 q1, hix]
        refine ⟨ds2.dropLast, v.set p.toNat (- iat v p), by simp only [tI, List.map_set], by rw [List.length_set]; exact h4, ?_⟩
        intro x hx
        rcases List.mem_or_eq_of_mem_set hx with hx | rfl
        · exact h5 x hx
        · have := h5 _ (iat_mem hp.1 q1)
          rw [ab_neg]; exact ⟨by omega, this.2⟩
      · by_cases k2 : kind = 2
        · subst k2
          simp -implicitDefEqProofs only [run_1, wp_some, wp_none, wp_bind, wp_map, wp_ite, bR_b, iR_i, dR_d, mR_m, look_d, look_l, look_s, look_f, unal_l, unal_s, unal_f, val_ow, val_al, c_var, c_cst, c_bin, c_un, c_and, c_or, c_not, c_ite, c_tup, c_lst, c_slice, c_lrng, c_trng, rngV_n, c_call, lstAt_l, c_mt0, c_mt1, cL_nil, cL_cons, cP_nil, cP_sm, cI_r1, cI_r2, cI_sq, walkAt_l, walkAt_s, walkAt_f, iter_t, iter_l, iter_a, nxt_nx, nxt_rt, nxt_bk, nxt_ct, q_skip, q_seq, q_set, q_par, tR_t, q_unp, q_setI, q_ex2, retV_ow, retV_al, q_ret2, q_retN, q_if, q_brk, q_cnt, augV_i, augV_l, augV_t, q_aug2, e_dB, e_dI, eq_ii, eq_bb, mem_ti, mem_li, atI_map, idx_t, idx_l, idx_f, cut_t, cut_l, sl_map, p_eq, p_ne, p_mem, p_nmem, p_idx, p_add, p_addT, p_addL, p_sub, p_mulT, p_mulL, p_fdiv, p_mod, p_pow, p_lt, p_le, p_gt, p_ge, p_maxm, p_minm, p_neg, p_isN, p_notN, p_isB, p_notB, p_lenT, p_lenL, p_lenF, p_tupL, p_tupT, p_listT, p_listL, p_abs, p_int, p_intB, p_revT, p_revL, p_isInt, p_isBool, p_isStr, p_isTuple, m_append, m_rev, shO_n, shO_s, shAt_c, isSh_d, isSh_l, isSh_s, isSh_f, raw_ow, raw_al, raws_n, raws_c, alK_n, alK_o, alK_a, back_n, back_o, back_l, back_s, back_f, owD_n, owD_c, owM_n, owM_c, bindM_n, bindM_c, bindN_n, bindN_c, bindT_n, bindT_t, wipe_n, wipe_c, fill_n, fillO_d, fillO_n, fillO_l, fill_c, lock_n, lock_s, open_n, open_s, aug_add, aug_sub, fturn_c, turn_c, fin_nx, fin_rt, ini_n, ini_c, outs_n, outs_d, outs_l, outs_s, outs_f, pins_n, pins_d, pins_l, pins_s, pins_f, inRng_0, inRng_1, inRng_2, eq_ti, eq_li, atI_0, atI_1, atI_2, atI_3, line_1, line_2, line_3, line_4, line_5, line_6, line_7, line_8, line_9, line_10, line_11, line_12, List.getElem?_cons_zero, List.getElem?_cons_succ, List.set_cons_zero, List.set_cons_succ, List.length_map, List.length_cons, List.length_nil, Option.bind_some, Option.bind_none, id, List.mem_cons, List.not_mem_nil, List.replicate_succ, List.replicate_zero, List.nil_append, List.cons_append, if_true, if_false, ite_true, ite_false, Bool.false_eq_true, Bool.or_false, Bool.false_or, Bool.or_true, Bool.true_or, Bool.and_true, Bool.true_and, Bool.and_false, Bool.false_and, Bool.not_true, Bool.not_false, decide_true, decide_false, or_false, false_or, or_true, true_or, and_true, true_and, List.nodup_cons, List.nodup_nil, not_false_eq_true, not_true_eq_false, decide_eq_true_eq, Bool.not_eq_true', decide_eq_false_iff_not, inPin, List.any_cons, List.any_nil, isTupD, isIntD, isBoolD, isStrD, isNoneD, Nat.reduceSub, Nat.reduceAdd, Nat.reduceLeDiff, Nat.reduceEqDiff, Nat.reduceMul, Nat.reducePow, Nat.sub_self, Nat.sub_zero, Int.reduceLT, Int.reduceLE, Int.reduceNeg, Int.reduceToNat, Int.reduceEq, Bool.and_self, decide_not, reduceCtorEq, Nat.zero_le, Option.toList_none, Option.toList_some, List.append_nil, true_implies, false_implies, implies_true, not_true, not_false_eq_true, Option.map_some, h1, h2, h3, ht]
          refine ⟨fun q => ?_, fun _ => ⟨_, v, rfl, h4, h5⟩⟩
          have q1 := hpl (by omega)
          have q2 := hpl2 (by omega)
          have e1 : (v.take p.toNat).length + 2 ≤ sizeLine := le_line (by rw [List.length_take]; omega)
          have e2 : ((v.take p.toNat).map PyData.int ++ [PyData.int (iat v (p + 1)), PyData.int (iat v p)]).length + (v.drop (p + 2).toNat).length ≤ sizeLine := le_line (by
            simp only [List.length_append, List.length_map, List.length_take, List.length_drop, List.length_cons, List.length_nil]; omega)
          simp -implicitDefEqProofs only [run_1, wp_some, wp_none, wp_bind, wp_map, wp_ite, bR_b, iR_i, dR_d, mR_m, look_d, look_l, look_s, look_f, unal_l, unal_s, unal_f, val_ow, val_al, c_var, c_cst, c_bin, c_un, c_and, c_or, c_not, c_ite, c_tup, c_lst, c_slice, c_lrng, c_trng, rngV_n, c_call, lstAt_l, c_mt0, c_mt1, cL_nil, cL_cons, cP_nil, cP_sm, cI_r1, cI_r2, cI_sq, walkAt_l, walkAt_s, walkAt_f, iter_t, iter_l, iter_a, nxt_nx, nxt_rt, nxt_bk, nxt_ct, q_skip, q_seq, q_set, q_par, tR_t, q_unp, q_setI, q_ex2, retV_ow, retV_al, q_ret2, q_retN, q_if, q_brk, q_cnt, augV_i, augV_l, augV_t, q_aug2, e_dB, e_dI, eq_ii, eq_bb, mem_ti, mem_li, atI_map, idx_t, idx_l, idx_f, cut_t, cut_l, sl_map, p_eq, p_ne, p_mem, p_nmem, p_idx, p_add, p_addT, p_addL, p_sub, p_mulT, p_mulL, p_fdiv, p_mod, p_pow, p_lt, p_le, p_gt, p_ge, p_maxm, p_minm, p_neg, p_isN, p_notN, p_isB, p_notB, p_lenT, p_lenL, p_lenF, p_tupL, p_tupT, p_listT, p_listL, p_abs, p_int, p_intB, p_revT, p_revL, p_isInt, p_isBool, p_isStr, p_isTuple, m_append, m_rev, shO_n, shO_s, shAt_c, isSh_d, isSh_l, isSh_s, isSh_f, raw_ow, raw_al, raws_n, raws_c, alK_n, alK_o, alK_a, back_n, back_o, back_l, back_s, back_f, owD_n, owD_c, owM_n, owM_c, bindM_n, bindM_c, bindN_n, bindN_c, bindT_n, bindT_t, wipe_n, wipe_c, fill_n, fillO_d, fillO_n, fillO_l, fill_c, lock_n, lock_s, open_n, open_s, aug_add, aug_sub, fturn_c, turn_c, fin_nx, fin_rt, ini_n, ini_c, outs_n, outs_d, outs_l, outs_s, outs_f, pins_n, pins_d, pins_l, pins_s, pins_f, inRng_0, inRng_1, inRng_2, eq_ti, eq_li, atI_0, atI_1, atI_2, atI_3, line_1, line_2, line_3, line_4, line_5, line_6, line_7, line_8, line_9, line_10, line_11, line_12, List.getElem?_cons_zero, List.getElem?_cons_succ, List.set_cons_zero, List.set_cons_succ, List.length_map, List.length_cons, List.length_nil, Option.bind_some, Option.bind_none, id, List.mem_cons, List.not_mem_nil, List.replicate_succ, List.replicate_zero, List.nil_append, List.cons_append, if_true, if_false, ite_true, ite_false, Bool.false_eq_true, Bool.or_false, Bool.false_or, Bool.or_true, Bool.true_or, Bool.and_true, Bool.true_and, Bool.and_false, Bool.false_and, Bool.not_true, Bool.not_false, decide_true, decide_false, or_false, false_or, or_true, true_or, and_true, true_and, List.nodup_cons, List.nodup_nil, not_false_eq_true, not_true_eq_false, decide_eq_true_eq, Bool.not_eq_true', decide_eq_false_iff_not, inPin, List.any_cons, List.any_nil, isTupD, isIntD, isBoolD, isStrD, isNoneD, Nat.reduceSub, Nat.reduceAdd, Nat.reduceLeDiff, Nat.reduceEqDiff, Nat.reduceMul, Nat.reducePow, Nat.sub_self, Nat.sub_zero, Int.reduceLT, Int.reduceLE, Int.reduceNeg, Int.reduceToNat, Int.reduceEq, Bool.and_self, decide_not, reduceCtorEq, Nat.zero_le, Option.toList_none, Option.toList_some, List.append_nil, true_implies, false_implies, implies_true, not_true, not_false_eq_true, Option.map_some, atI_getD (xs := v) (i := p) 0 hp.1 q1, atI_getD (xs := v) (i := p + 1) 0 (by omega) q2, sl_to v hp.1, sl_from v (show 0 ≤ p + 2 by omega), e1, e2, line_2]
          refine ⟨ds2.dropLast, v.take p.toNat ++ [iat v (p + 1), iat v p] ++ v.drop (p + 2).toNat, by simp only [tI, List.map_append, List.map_cons, List.map_nil], ?_, ?_⟩
          · simp only [List.length_append, List.length_take, List.length_drop, List.length_cons, List.length_nil]; omega
          · refine wordOk_app (wordOk_app (wordOk_mem h5 fun x hx => List.mem_of_mem_take hx) fun x hx => ?_) (wordOk_mem h5 fun x hx => List.mem_of_mem_drop hx)
            simp only [List.mem_cons, List.not_mem_nil, or_false] at hx
            rcases hx with rfl | rfl
            · exact h5 _ (iat_mem (by omega) q2)
            · exact h5 _ (iat_mem hp.1 q1)
        · simp -implicitDefEqProofs only [run_1, wp_some, wp_none, wp_bind, wp_map, wp_ite, bR_b, iR_i, dR_d, mR_m, look_d, look_l, look_s, look_f, unal_l, unal_s, unal_f, val_ow, val_al, c_var, c_cst, c_bin, c_un, c_and, c_or, c_not, c_ite, c_tup, c_lst, c_slice, c_lrng, c_trng, rngV_n, c_call, lstAt_l, c_mt0, c_mt1, cL_nil, cL_cons, cP_nil, cP_sm, cI_r1, cI_r2, cI_sq, walkAt_l, walkAt_s, walkAt_f, iter_t, iter_l, iter_a, nxt_nx, nxt_rt, nxt_bk, nxt_ct, q_skip, q_seq, q_set, q_par, tR_t, q_unp, q_setI, q_ex2, retV_ow, retV_al, q_ret2, q_retN, q_if, q_brk, q_cnt, augV_i, augV_l, augV_t, q_aug2, e_dB, e_dI, eq_ii, eq_bb, mem_ti, mem_li, atI_map, idx_t, idx_l, idx_f, cut_t, cut_l, sl_map, p_eq, p_ne, p_mem, p_nmem, p_idx, p_add, p_addT, p_addL, p_sub, p_mulT, p_mulL, p_fdiv, p_mod, p_pow, p_lt, p_le, p_gt, p_ge, p_maxm, p_minm, p_neg, p_isN, p_notN, p_isB, p_notB, p_lenT, p_lenL, p_lenF, p_tupL, p_tupT, p_listT, p_listL, p_abs, p_int, p_intB, p_revT, p_revL, p_isInt, p_isBool, p_isStr, p_isTuple, m_append, m_rev, shO_n, shO_s, shAt_c, isSh_d, isSh_l, isSh_s, isSh_f, raw_ow, raw_al, raws_n, raws_c, alK_n, alK_o, alK_a, back_n, back_o, back_l, back_s, back_f, owD_n, owD_c, owM_n, owM_c, bindM_n, bindM_c, bindN_n, bindN_c, bindT_n, bindT_t, wipe_n, wipe_c, fill_n, fillO_d, fillO_n, fillO_l, fill_c, lock_n, lock_s, open_n, open_s, aug_add, aug_sub, fturn_c, turn_c, fin_nx, fin_rt, ini_n, ini_c, outs_n, outs_d, outs_l, outs_s, outs_f, pins_n, pins_d, pins_l, pins_s, pins_f, inRng_0, inRng_1, inRng_2, eq_ti, eq_li, atI_0, atI_1, atI_2, atI_3, line_1, line_2, line_3, line_4, line_5, line_6, line_7, line_8, line_9, line_10, line_11, line_12, List.getElem?_cons_zero, List.getElem?_cons_succ, List.set_cons_zero, List.set_cons_succ, List.length_map, List.length_cons, List.length_nil, Option.bind_some, Option.bind_none, id, List.mem_cons, List.not_mem_nil, List.replicate_succ, List.replicate_zero, List.nil_append, List.cons_append, if_true, if_false, ite_true, ite_false, Bool.false_eq_true, Bool.or_false, Bool.false_or, Bool.or_true, Bool.true_or, Bool.and_true, Bool.true_and, Bool.and_false, Bool.false_and, Bool.not_true, Bool.not_false, decide_true, decide_false, or_false, false_or, or_true, true_or, and_true, true_and, List.nodup_cons, List.nodup_nil, not_false_eq_true, not_true_eq_false, decide_eq_true_eq, Bool.not_eq_true', decide_eq_false_iff_not, inPin, List.any_cons, List.any_nil, isTupD, isIntD, isBoolD, isStrD, isNoneD, Nat.reduceSub, Nat.reduceAdd, Nat.reduceLeDiff, Nat.reduceEqDiff, Nat.reduceMul, Nat.reducePow, Nat.sub_self, Nat.sub_zero, Int.reduceLT, Int.reduceLE, Int.reduceNeg, Int.reduceToNat, Int.reduceEq, Bool.and_self, decide_not, reduceCtorEq, Nat.zero_le, Option.toList_none, Option.toList_some, List.append_nil, true_implies, false_implies, implies_true, not_true, not_false_eq_true, Option.map_some, h1, h2, h3, ht, k1, k2]
          exact ⟨ds2.dropLast, v, rfl, h4, h5⟩
end Law

end
section
set_option maxHeartbeats 4000000
namespace Law
open Cs PySem
theorem isInt_b (x : Bool) : p1 .isInt (.d (.bool x)) = some (.d (.bool true)) := rfl
theorem isBool_b (x : Bool) : p1 .isBool (.d (.bool x)) = some (.d (.bool true)) := rfl
theorem isBool_t (x : List PyData) : p1 .isBool (.d (.tuple x)) = some (.d (.bool false)) := rfl
theorem isInt_t (x : List PyData) : p1 .isInt (.d (.tuple x)) = some (.d (.bool false)) := rfl
theorem isStr_t (x : List PyData) : p1 .isStr (.d (.tuple x)) = some (.d (.bool false)) := rfl
theorem isN_t (x : List PyData) : p1 .isN (.d (.tuple x)) = some (.d (.bool false)) := rfl
theorem same_b (wf k : Nat) (b c : Bool) : callF wf FS (k + 1) 15 [.d (.bool b), .d (.bool c)] = some (.d (.bool (decide (b = c))), [.d (.bool b), .d (.bool c)]) := by
  rw [call_law_same]
  unfold f_law_same b_law_same
  simp -implicitDefEqProofs only [run_1, wp_some, wp_none, wp_bind, wp_map, wp_ite, bR_b, iR_i, dR_d, mR_m, look_d, look_l, look_s, look_f, unal_l, unal_s, unal_f, val_ow, val_al, c_var, c_cst, c_bin, c_un, c_and, c_or, c_not, c_ite, c_tup, c_lst, c_slice, c_lrng, c_trng, rngV_n, c_call, lstAt_l, c_mt0, c_mt1, cL_nil, cL_cons, cP_nil, cP_sm, cI_r1, cI_r2, cI_sq, walkAt_l, walkAt_s, walkAt_f, iter_t, iter_l, iter_a, nxt_nx, nxt_rt, nxt_bk, nxt_ct, q_skip, q_seq, q_set, q_par, tR_t, q_unp, q_setI, q_ex2, retV_ow, retV_al, q_ret2, q_retN, q_if, q_brk, q_cnt, augV_i, augV_l, augV_t, q_aug2, e_dB, e_dI, eq_ii, eq_bb, mem_ti, mem_li, atI_map, idx_t, idx_l, idx_f, cut_t, cut_l, sl_map, p_eq, p_ne, p_mem, p_nmem, p_idx, p_add, p_addT, p_addL, p_sub, p_mulT, p_mulL, p_fdiv, p_mod, p_pow, p_lt, p_le, p_gt, p_ge, p_maxm, p_minm, p_neg, p_isN, p_notN, p_isB, p_notB, p_lenT, p_lenL, p_lenF, p_tupL, p_tupT, p_listT, p_listL, p_abs, p_int, p_intB, p_revT, p_revL, p_isInt, p_isBool, p_isStr, p_isTuple, m_append, m_rev, shO_n, shO_s, shAt_c, isSh_d, isSh_l, isSh_s, isSh_f, raw_ow, raw_al, raws_n, raws_c, alK_n, alK_o, alK_a, back_n, back_o, back_l, back_s, back_f, owD_n, owD_c, owM_n, owM_c, bindM_n, bindM_c, bindN_n, bindN_c, bindT_n, bindT_t, wipe_n, wipe_c, fill_n, fillO_d, fillO_n, fillO_l, fill_c, lock_n, lock_s, open_n, open_s, aug_add, aug_sub, fturn_c, turn_c, fin_nx, fin_rt, ini_n, ini_c, outs_n, outs_d, outs_l, outs_s, outs_f, pins_n, pins_d, pins_l, pins_s, pins_f, inRng_0, inRng_1, inRng_2, eq_ti, eq_li, atI_0, atI_1, atI_2, atI_3, line_1, line_2, line_3, line_4, line_5, line_6, line_7, line_8, line_9, line_10, line_11, line_12, List.getElem?_cons_zero, List.getElem?_cons_succ, List.set_cons_zero, List.set_cons_succ, List.length_map, List.length_cons, List.length_nil, Option.bind_some, Option.bind_none, id, List.mem_cons, List.not_mem_nil, List.replicate_succ, List.replicate_zero, List.nil_append, List.cons_append, if_true, if_false, ite_true, ite_false, Bool.false_eq_true, Bool.or_false, Bool.false_or, Bool.or_true, Bool.true_or, Bool.and_true, Bool.true_and, Bool.and_false, Bool.false_and, Bool.not_true, Bool.not_false, decide_true, decide_false, or_false, false_or, or_true, true_or, and_true, true_and, List.nodup_cons, List.nodup_nil, not_false_eq_true, not_true_eq_false, decide_eq_true_eq, Bool.not_eq_true', decide_eq_false_iff_not, inPin, List.any_cons, List.any_nil, isTupD, isIntD, isBoolD, isStrD, isNoneD, Nat.reduceSub, Nat.reduceAdd, Nat.reduceLeDiff, Nat.reduceEqDiff, Nat.reduceMul, Nat.reducePow, Nat.sub_self, Nat.sub_zero, Int.reduceLT, Int.reduceLE, Int.reduceNeg, Int.reduceToNat, Int.reduceEq, Bool.and_self, decide_not, reduceCtorEq, Nat.zero_le, Option.toList_none, Option.toList_some, List.append_nil, true_implies, false_implies, implies_true, not_true, not_false_eq_true, Option.map_some, isBool_b]
theorem same_i (wf k : Nat) (b c : Int) : callF wf FS (k + 1) 15 [.d (.int b), .d (.int c)] = some (.d (.bool (decide (b = c))), [.d (.int b), .d (.int c)]) := by
  rw [call_law_same]
  unfold f_law_same b_law_same
  simp -implicitDefEqProofs only [run_1, wp_some, wp_none, wp_bind, wp_map, wp_ite, bR_b, iR_i, dR_d, mR_m, look_d, look_l, look_s, look_f, unal_l, unal_s, unal_f, val_ow, val_al, c_var, c_cst, c_bin, c_un, c_and, c_or, c_not, c_ite, c_tup, c_lst, c_slice, c_lrng, c_trng, rngV_n, c_call, lstAt_l, c_mt0, c_mt1, cL_nil, cL_cons, cP_nil, cP_sm, cI_r1, cI_r2, cI_sq, walkAt_l, walkAt_s, walkAt_f, iter_t, iter_l, iter_a, nxt_nx, nxt_rt, nxt_bk, nxt_ct, q_skip, q_seq, q_set, q_par, tR_t, q_unp, q_setI, q_ex2, retV_ow, retV_al, q_ret2, q_retN, q_if, q_brk, q_cnt, augV_i, augV_l, augV_t, q_aug2, e_dB, e_dI, eq_ii, eq_bb, mem_ti, mem_li, atI_map, idx_t, idx_l, idx_f, cut_t, cut_l, sl_map, p_eq, p_ne, p_mem, p_nmem, p_idx, p_add, p_addT, p_addL, p_sub, p_mulT, p_mulL, p_fdiv, p_mod, p_pow, p_lt, p_le, p_gt, p_ge, p_maxm, p_minm, p_neg, p_isN, p_notN, p_isB, p_notB, p_lenT, p_lenL, p_lenF, p_tupL, p_tupT, p_listT, p_listL, p_abs, p_int, p_intB, p_revT, p_revL, p_isInt, p_isBool, p_isStr, p_isTuple, m_append, m_rev, shO_n, shO_s, shAt_c, isSh_d, isSh_l, isSh_s, isSh_f, raw_ow, raw_al, raws_n, raws_c, alK_n, alK_o, alK_a, back_n, back_o, back_l, back_s, back_f, owD_n, owD_c, owM_n, owM_c, bindM_n, bindM_c, bindN_n, bindN_c, bindT_n, bindT_t, wipe_n, wipe_c, fill_n, fillO_d, fillO_n, fillO_l, fill_c, lock_n, lock_s, open_n, open_s, aug_add, aug_sub, fturn_c, turn_c, fin_nx, fin_rt, ini_n, ini_c, outs_n, outs_d, outs_l, outs_s, outs_f, pins_n, pins_d, pins_l, pins_s, pins_f, inRng_0, inRng_1, inRng_2, eq_ti, eq_li, atI_0, atI_1, atI_2, atI_3, line_1, line_2, line_3, line_4, line_5, line_6, line_7, line_8, line_9, line_10, line_11, line_12, List.getElem?_cons_zero, List.getElem?_cons_succ, List.set_cons_zero, List.set_cons_succ, List.length_map, List.length_cons, List.length_nil, Option.bind_some, Option.bind_none, id, List.mem_cons, List.not_mem_nil, List.replicate_succ, List.replicate_zero, List.nil_append, List.cons_append, if_true, if_false, ite_true, ite_false, Bool.false_eq_true, Bool.or_false, Bool.false_or, Bool.or_true, Bool.true_or, Bool.and_true, Bool.true_and, Bool.and_false, Bool.false_and, Bool.not_true, Bool.not_false, decide_true, decide_false, or_false, false_or, or_true, true_or, and_true, true_and, List.nodup_cons, List.nodup_nil, not_false_eq_true, not_true_eq_false, decide_eq_true_eq, Bool.not_eq_true', decide_eq_false_iff_not, inPin, List.any_cons, List.any_nil, isTupD, isIntD, isBoolD, isStrD, isNoneD, Nat.reduceSub, Nat.reduceAdd, Nat.reduceLeDiff, Nat.reduceEqDiff, Nat.reduceMul, Nat.reducePow, Nat.sub_self, Nat.sub_zero, Int.reduceLT, Int.reduceLE, Int.reduceNeg, Int.reduceToNat, Int.reduceEq, Bool.and_self, decide_not, reduceCtorEq, Nat.zero_le, Option.toList_none, Option.toList_some, List.append_nil, true_implies, false_implies, implies_true, not_true, not_false_eq_true, Option.map_some, isBool_i, isInt_i]
theorem same_t (wf k : Nat) (xs : List PyData) (hl : xs.length ≤ 10000) (h : ∀ x ∈ xs, callF wf FS (k + 1) 15 [.d x, .d x] = some (.d (.bool true), [.d x, .d x])) : callF wf FS (k + 2) 15 [.d (.tuple xs), .d (.tuple xs)] = some (.d (.bool true), [.d (.tuple xs), .d (.tuple xs)]) := by
  rw [call_law_same, wp_eq]
  unfold f_law_same b_law_same
  simp -implicitDefEqProofs only [run_1, wp_some, wp_none, wp_bind, wp_map, wp_ite, bR_b, iR_i, dR_d, mR_m, look_d, look_l, look_s, look_f, unal_l, unal_s, unal_f, val_ow, val_al, c_var, c_cst, c_bin, c_un, c_and, c_or, c_not, c_ite, c_tup, c_lst, c_slice, c_lrng, c_trng, rngV_n, c_call, lstAt_l, c_mt0, c_mt1, cL_nil, cL_cons, cP_nil, cP_sm, cI_r1, cI_r2, cI_sq, walkAt_l, walkAt_s, walkAt_f, iter_t, iter_l, iter_a, nxt_nx, nxt_rt, nxt_bk, nxt_ct, q_skip, q_seq, q_set, q_par, tR_t, q_unp, q_setI, q_ex2, retV_ow, retV_al, q_ret2, q_retN, q_if, q_brk, q_cnt, augV_i, augV_l, augV_t, q_aug2, e_dB, e_dI, eq_ii, eq_bb, mem_ti, mem_li, atI_map, idx_t, idx_l, idx_f, cut_t, cut_l, sl_map, p_eq, p_ne, p_mem, p_nmem, p_idx, p_add, p_addT, p_addL, p_sub, p_mulT, p_mulL, p_fdiv, p_mod, p_pow, p_lt, p_le, p_gt, p_ge, p_maxm, p_minm, p_neg, p_isN, p_notN, p_isB, p_notB, p_lenT, p_lenL, p_lenF, p_tupL, p_tupT, p_listT, p_listL, p_abs, p_int, p_intB, p_revT, p_revL, p_isInt, p_isBool, p_isStr, p_isTuple, m_append, m_rev, shO_n, shO_s, shAt_c, isSh_d, isSh_l, isSh_s, isSh_f, raw_ow, raw_al, raws_n, raws_c, alK_n, alK_o, alK_a, back_n, back_o, back_l, back_s, back_f, owD_n, owD_c, owM_n, owM_c, bindM_n, bindM_c, bindN_n, bindN_c, bindT_n, bindT_t, wipe_n, wipe_c, fill_n, fillO_d, fillO_n, fillO_l, fill_c, lock_n, lock_s, open_n, open_s, aug_add, aug_sub, fturn_c, turn_c, fin_nx, fin_rt, ini_n, ini_c, outs_n, outs_d, outs_l, outs_s, outs_f, pins_n, pins_d, pins_l, pins_s, pins_f, inRng_0, inRng_1, inRng_2, eq_ti, eq_li, atI_0, atI_1, atI_2, atI_3, line_1, line_2, line_3, line_4, line_5, line_6, line_7, line_8, line_9, line_10, line_11, line_12, List.getElem?_cons_zero, List.getElem?_cons_succ, List.set_cons_zero, List.set_cons_succ, List.length_map, List.length_cons, List.length_nil, Option.bind_some, Option.bind_none, id, List.mem_cons, List.not_mem_nil, List.replicate_succ, List.replicate_zero, List.nil_append, List.cons_append, if_true, if_false, ite_true, ite_false, Bool.false_eq_true, Bool.or_false, Bool.false_or, Bool.or_true, Bool.true_or, Bool.and_true, Bool.true_and, Bool.and_false, Bool.false_and, Bool.not_true, Bool.not_false, decide_true, decide_false, or_false, false_or, or_true, true_or, and_true, true_and, List.nodup_cons, List.nodup_nil, not_false_eq_true, not_true_eq_false, decide_eq_true_eq, Bool.not_eq_true', decide_eq_false_iff_not, inPin, List.any_cons, List.any_nil, isTupD, isIntD, isBoolD, isStrD, isNoneD, Nat.reduceSub, Nat.reduceAdd, Nat.reduceLeDiff, Nat.reduceEqDiff, Nat.reduceMul, Nat.reducePow, Nat.sub_self, Nat.sub_zero, Int.reduceLT, Int.reduceLE, Int.reduceNeg, Int.reduceToNat, Int.reduceEq, Bool.and_self, decide_not, reduceCtorEq, Nat.zero_le, Option.toList_none, Option.toList_some, List.append_nil, true_implies, false_implies, implies_true, not_true, not_false_eq_true, Option.map_some, isBool_t, isInt_t, isStr_t, isN_t, isTup_t, q_for, inRng_of (i := (xs.length : Int)) (by omega), rngL_rg]
  refine wp_imp (forL_inv (f := fturn _ _ _ _ _) (d := PyData.int) (fun ys e => ∃ z : Option M, e = [some (.d (.tuple xs)), some (.d (.tuple xs)), z] ∧ shO (some z) = false ∧ ∀ y ∈ ys, 0 ≤ y ∧ y < xs.length) (Q := fun q => q.1 = .nx ∧ ∃ z : Option M, q.2 = [some (.d (.tuple xs)), some (.d (.tuple xs)), z]) ?_ _ _ ⟨none, rfl, rfl, fun y hy => rg_mem.mp hy⟩ ?_) ?_
  · rintro e ⟨z, rfl, _, _⟩
    exact ⟨rfl, z, rfl⟩
  · rintro x ys e ⟨z, rfl, hz, hy⟩
    obtain ⟨y0, y1⟩ := hy x (List.mem_cons_self ..)
    have hx : L2.atI xs x = some (xs.getD x.toNat .none) := atI_getD .none y0 y1
    have hm : xs.getD x.toNat .none ∈ xs := by
      rw [List.getD_eq_getElem?_getD, List.getElem?_eq_getElem (by omega)]
      exact List.getElem_mem _
    simp -implicitDefEqProofs only [run_1, wp_some, wp_none, wp_bind, wp_map, wp_ite, bR_b, iR_i, dR_d, mR_m, look_d, look_l, look_s, look_f, unal_l, unal_s, unal_f, val_ow, val_al, c_var, c_cst, c_bin, c_un, c_and, c_or, c_not, c_ite, c_tup, c_lst, c_slice, c_lrng, c_trng, rngV_n, c_call, lstAt_l, c_mt0, c_mt1, cL_nil, cL_cons, cP_nil, cP_sm, cI_r1, cI_r2, cI_sq, walkAt_l, walkAt_s, walkAt_f, iter_t, iter_l, iter_a, nxt_nx, nxt_rt, nxt_bk, nxt_ct, q_skip, q_seq, q_set, q_par, tR_t, q_unp, q_setI, q_ex2, retV_ow, retV_al, q_ret2, q_retN, q_if, q_brk, q_cnt, augV_i, augV_l, augV_t, q_aug2, e_dB, e_dI, eq_ii, eq_bb, mem_ti, mem_li, atI_map, idx_t, idx_l, idx_f, cut_t, cut_l, sl_map, p_eq, p_ne, p_mem, p_nmem, p_idx, p_add, p_addT, p_addL, p_sub, p_mulT, p_mulL, p_fdiv, p_mod, p_pow, p_lt, p_le, p_gt, p_ge, p_maxm, p_minm, p_neg, p_isN, p_notN, p_isB, p_notB, p_lenT, p_lenL, p_lenF, p_tupL, p_tupT, p_listT, p_listL, p_abs, p_int, p_intB, p_revT, p_revL, p_isInt, p_isBool, p_isStr, p_isTuple, m_append, m_rev, shO_n, shO_s, shAt_c, isSh_d, isSh_l, isSh_s, isSh_f, raw_ow, raw_al, raws_n, raws_c, alK_n, alK_o, alK_a, back_n, back_o, back_l, back_s, back_f, owD_n, owD_c, owM_n, owM_c, bindM_n, bindM_c, bindN_n, bindN_c, bindT_n, bindT_t, wipe_n, wipe_c, fill_n, fillO_d, fillO_n, fillO_l, fill_c, lock_n, lock_s, open_n, open_s, aug_add, aug_sub, fturn_c, turn_c, fin_nx, fin_rt, ini_n, ini_c, outs_n, outs_d, outs_l, outs_s, outs_f, pins_n, pins_d, pins_l, pins_s, pins_f, inRng_0, inRng_1, inRng_2, eq_ti, eq_li, atI_0, atI_1, atI_2, atI_3, line_1, line_2, line_3, line_4, line_5, line_6, line_7, line_8, line_9, line_10, line_11, line_12, List.getElem?_cons_zero, List.getElem?_cons_succ, List.set_cons_zero, List.set_cons_succ, List.length_map, List.length_cons, List.length_nil, Option.bind_some, Option.bind_none, id, List.mem_cons, List.not_mem_nil, List.replicate_succ, List.replicate_zero, List.nil_append, List.cons_append, if_true, if_false, ite_true, ite_false, Bool.false_eq_true, Bool.or_false, Bool.false_or, Bool.or_true, Bool.true_or, Bool.and_true, Bool.true_and, Bool.and_false, Bool.false_and, Bool.not_true, Bool.not_false, decide_true, decide_false, or_false, false_or, or_true, true_or, and_true, true_and, List.nodup_cons, List.nodup_nil, not_false_eq_true, not_true_eq_false, decide_eq_true_eq, Bool.not_eq_true', decide_eq_false_iff_not, inPin, List.any_cons, List.any_nil, isTupD, isIntD, isBoolD, isStrD, isNoneD, Nat.reduceSub, Nat.reduceAdd, Nat.reduceLeDiff, Nat.reduceEqDiff, Nat.reduceMul, Nat.reducePow, Nat.sub_self, Nat.sub_zero, Int.reduceLT, Int.reduceLE, Int.reduceNeg, Int.reduceToNat, Int.reduceEq, Bool.and_self, decide_not, reduceCtorEq, Nat.zero_le, Option.toList_none, Option.toList_some, List.append_nil, true_implies, false_implies, implies_true, not_true, not_false_eq_true, Option.map_some, hz, hx, h _ hm]
    exact ⟨_, rfl, rfl, fun y hq => hy y (List.mem_cons_of_mem _ hq)⟩
  · rintro ⟨fl, e⟩ ⟨rfl, z, rfl⟩
    simp -implicitDefEqProofs only [run_1, wp_some, wp_none, wp_bind, wp_map, wp_ite, bR_b, iR_i, dR_d, mR_m, look_d, look_l, look_s, look_f, unal_l, unal_s, unal_f, val_ow, val_al, c_var, c_cst, c_bin, c_un, c_and, c_or, c_not, c_ite, c_tup, c_lst, c_slice, c_lrng, c_trng, rngV_n, c_call, lstAt_l, c_mt0, c_mt1, cL_nil, cL_cons, cP_nil, cP_sm, cI_r1, cI_r2, cI_sq, walkAt_l, walkAt_s, walkAt_f, iter_t, iter_l, iter_a, nxt_nx, nxt_rt, nxt_bk, nxt_ct, q_skip, q_seq, q_set, q_par, tR_t, q_unp, q_setI, q_ex2, retV_ow, retV_al, q_ret2, q_retN, q_if, q_brk, q_cnt, augV_i, augV_l, augV_t, q_aug2, e_dB, e_dI, eq_ii, eq_bb, mem_ti, mem_li, atI_map, idx_t, idx_l, idx_f, cut_t, cut_l, sl_map, p_eq, p_ne, p_mem, p_nmem, p_idx, p_add, p_addT, p_addL, p_sub, p_mulT, p_mulL, p_fdiv, p_mod, p_pow, p_lt, p_le, p_gt, p_ge, p_maxm, p_minm, p_neg, p_isN, p_notN, p_isB, p_notB, p_lenT, p_lenL, p_lenF, p_tupL, p_tupT, p_listT, p_listL, p_abs, p_int, p_intB, p_revT, p_revL, p_isInt, p_isBool, p_isStr, p_isTuple, m_append, m_rev, shO_n, shO_s, shAt_c, isSh_d, isSh_l, isSh_s, isSh_f, raw_ow, raw_al, raws_n, raws_c, alK_n, alK_o, alK_a, back_n, back_o, back_l, back_s, back_f, owD_n, owD_c, owM_n, owM_c, bindM_n, bindM_c, bindN_n, bindN_c, bindT_n, bindT_t, wipe_n, wipe_c, fill_n, fillO_d, fillO_n, fillO_l, fill_c, lock_n, lock_s, open_n, open_s, aug_add, aug_sub, fturn_c, turn_c, fin_nx, fin_rt, ini_n, ini_c, outs_n, outs_d, outs_l, outs_s, outs_f, pins_n, pins_d, pins_l, pins_s, pins_f, inRng_0, inRng_1, inRng_2, eq_ti, eq_li, atI_0, atI_1, atI_2, atI_3, line_1, line_2, line_3, line_4, line_5, line_6, line_7, line_8, line_9, line_10, line_11, line_12, List.getElem?_cons_zero, List.getElem?_cons_succ, List.set_cons_zero, List.set_cons_succ, List.length_map, List.length_cons, List.length_nil, Option.bind_some, Option.bind_none, id, List.mem_cons, List.not_mem_nil, List.replicate_succ, List.replicate_zero, List.nil_append, List.cons_append, if_true, if_false, ite_true, ite_false, Bool.false_eq_true, Bool.or_false, Bool.false_or, Bool.or_true, Bool.true_or, Bool.and_true, Bool.true_and, Bool.and_false, Bool.false_and, Bool.not_true, Bool.not_false, decide_true, decide_false, or_false, false_or, or_true, true_or, and_true, true_and, List.nodup_cons, List.nodup_nil, not_false_eq_true, not_true_eq_false, decide_eq_true_eq, Bool.not_eq_true', decide_eq_false_iff_not, inPin, List.any_cons, List.any_nil, isTupD, isIntD, isBoolD, isStrD, isNoneD, Nat.reduceSub, Nat.reduceAdd, Nat.reduceLeDiff, Nat.reduceEqDiff, Nat.reduceMul, Nat.reducePow, Nat.sub_self, Nat.sub_zero, Int.reduceLT, Int.reduceLE, Int.reduceNeg, Int.reduceToNat, Int.reduceEq, Bool.and_self, decide_not, reduceCtorEq, Nat.zero_le, Option.toList_none, Option.toList_some, List.append_nil, true_implies, false_implies, implies_true, not_true, not_false_eq_true, Option.map_some]
theorem same_ti (wf k : Nat) (w : List Int) (hl : w.length ≤ 10000) : callF wf FS (k + 2) 15 [.d (tI w), .d (tI w)] = some (.d (.bool true), [.d (tI w), .d (tI w)]) :=
  same_t wf k _ (by rw [List.length_map]; exact hl) fun x hx => by
    obtain ⟨i, _, rfl⟩ := List.mem_map.mp hx
    rw [same_i, decide_eq_true rfl]
theorem law_is_told_sp (wf k : Nat) (many : Int) (w : List Int) (m : M2) (hw : w.length ≤ 1000) (h1 : WordOk w many) (h2 : Reduced w) (hs : Small w) (hm : tab w = m) : callF wf FS (k + 3) 25 [.d (.int many), .d (tI w), .d (tM m)] = some (.d (.bool true), [.d (.int many), .d (tI w), .d (tM m)]) := by
  rw [call_law_is_told]
  unfold f_law_is_told b_law_is_told
  simp -implicitDefEqProofs only [run_1, wp_some, wp_none, wp_bind, wp_map, wp_ite, bR_b, iR_i, dR_d, mR_m, look_d, look_l, look_s, look_f, unal_l, unal_s, unal_f, val_ow, val_al, c_var, c_cst, c_bin, c_un, c_and, c_or, c_not, c_ite, c_tup, c_lst, c_slice, c_lrng, c_trng, rngV_n, c_call, lstAt_l, c_mt0, c_mt1, cL_nil, cL_cons, cP_nil, cP_sm, cI_r1, cI_r2, cI_sq, walkAt_l, walkAt_s, walkAt_f, iter_t, iter_l, iter_a, nxt_nx, nxt_rt, nxt_bk, nxt_ct, q_skip, q_seq, q_set, q_par, tR_t, q_unp, q_setI, q_ex2, retV_ow, retV_al, q_ret2, q_retN, q_if, q_brk, q_cnt, augV_i, augV_l, augV_t, q_aug2, e_dB, e_dI, eq_ii, eq_bb, mem_ti, mem_li, atI_map, idx_t, idx_l, idx_f, cut_t, cut_l, sl_map, p_eq, p_ne, p_mem, p_nmem, p_idx, p_add, p_addT, p_addL, p_sub, p_mulT, p_mulL, p_fdiv, p_mod, p_pow, p_lt, p_le, p_gt, p_ge, p_maxm, p_minm, p_neg, p_isN, p_notN, p_isB, p_notB, p_lenT, p_lenL, p_lenF, p_tupL, p_tupT, p_listT, p_listL, p_abs, p_int, p_intB, p_revT, p_revL, p_isInt, p_isBool, p_isStr, p_isTuple, m_append, m_rev, shO_n, shO_s, shAt_c, isSh_d, isSh_l, isSh_s, isSh_f, raw_ow, raw_al, raws_n, raws_c, alK_n, alK_o, alK_a, back_n, back_o, back_l, back_s, back_f, owD_n, owD_c, owM_n, owM_c, bindM_n, bindM_c, bindN_n, bindN_c, bindT_n, bindT_t, wipe_n, wipe_c, fill_n, fillO_d, fillO_n, fillO_l, fill_c, lock_n, lock_s, open_n, open_s, aug_add, aug_sub, fturn_c, turn_c, fin_nx, fin_rt, ini_n, ini_c, outs_n, outs_d, outs_l, outs_s, outs_f, pins_n, pins_d, pins_l, pins_s, pins_f, inRng_0, inRng_1, inRng_2, eq_ti, eq_li, atI_0, atI_1, atI_2, atI_3, line_1, line_2, line_3, line_4, line_5, line_6, line_7, line_8, line_9, line_10, line_11, line_12, List.getElem?_cons_zero, List.getElem?_cons_succ, List.set_cons_zero, List.set_cons_succ, List.length_map, List.length_cons, List.length_nil, Option.bind_some, Option.bind_none, id, List.mem_cons, List.not_mem_nil, List.replicate_succ, List.replicate_zero, List.nil_append, List.cons_append, if_true, if_false, ite_true, ite_false, Bool.false_eq_true, Bool.or_false, Bool.false_or, Bool.or_true, Bool.true_or, Bool.and_true, Bool.true_and, Bool.and_false, Bool.false_and, Bool.not_true, Bool.not_false, decide_true, decide_false, or_false, false_or, or_true, true_or, and_true, true_and, List.nodup_cons, List.nodup_nil, not_false_eq_true, not_true_eq_false, decide_eq_true_eq, Bool.not_eq_true', decide_eq_false_iff_not, inPin, List.any_cons, List.any_nil, isTupD, isIntD, isBoolD, isStrD, isNoneD, Nat.reduceSub, Nat.reduceAdd, Nat.reduceLeDiff, Nat.reduceEqDiff, Nat.reduceMul, Nat.reducePow, Nat.sub_self, Nat.sub_zero, Int.reduceLT, Int.reduceLE, Int.reduceNeg, Int.reduceToNat, Int.reduceEq, Bool.and_self, decide_not, reduceCtorEq, Nat.zero_le, Option.toList_none, Option.toList_some, List.append_nil, true_implies, false_implies, implies_true, not_true, not_false_eq_true, Option.map_some, law_is_word_sp wf (k + 1) w many (by omega) h1 h2, law_table_sp wf k w hs hw, eq_tM, hm]
end Law

end
section
set_option maxHeartbeats 4000000
namespace Law
open Cs PySem
def RedL : List Int → Prop
  | x :: y :: w => x + y ≠ 0 ∧ RedL (y :: w)
  | _ => True
theorem RedL.tail {x : Int} {w : List Int} (h : RedL (x :: w)) : RedL w := by
  cases w with
  | nil => trivial
  | cons y w => exact h.2
theorem RedL_iff : ∀ w : List Int, RedL w ↔ ∀ i : Nat, i + 1 < w.length → w.getD i 0 + w.getD (i + 1) 0 ≠ 0
  | [] => by simp [RedL]
  | [x] => by simp [RedL]
  | x :: y :: w => by
    rw [RedL, RedL_iff (y :: w)]
    constructor
    · rintro ⟨h1, h2⟩ i hi
      cases i with
      | zero => exact h1
      | succ i => exact h2 i (by simp only [List.length_cons] at hi ⊢; omega)
    · intro h
      exact ⟨h 0 (by simp), fun i hi => h (i + 1) (by simp only [List.length_cons] at hi ⊢; omega)⟩
def rp (s : List Int) (x : Int) : List Int :=
  match s with
  | [] => [x]
  | y :: t => if y = -x then t else x :: y :: t
theorem rp_cons (y : Int) (t : List Int) (x : Int) : rp (y :: t) x = if y = -x then t else x :: y :: t := rfl
theorem push_rp (t : List Int) (x : Int) : push t.reverse x = (rp t x).reverse := by
  cases t with
  | nil => rfl
  | cons y t =>
    rw [rp_cons]
    unfold push
    rw [List.reverse_cons]
    have h1 : (t.reverse ++ [y]).getLastD 0 = y := by simp
    have h2 : t.reverse ++ [y] ≠ [] := by simp
    rw [h1]
    by_cases h : y = -x
    · rw [if_pos ⟨h2, h⟩, if_pos h, List.dropLast_concat]
    · rw [if_neg fun q => h q.2, if_neg h]; simp
def red0 (w : List Int) : List Int := w.foldl rp []
theorem red_red0 (w : List Int) : red w = (red0 w).reverse := by
  have h : ∀ (w t : List Int), w.foldl push t.reverse = (w.foldl rp t).reverse := by
    intro w
    induction w with
    | nil => intro t; rfl
    | cons x w ih => intro t; rw [List.foldl_cons, List.foldl_cons, push_rp, ih]
  exact h w []
theorem rp_red {s : List Int} (x : Int) (h : RedL s) : RedL (rp s x) := by
  cases s with
  | nil => trivial
  | cons y t =>
    rw [rp_cons]
    split
    · exact h.tail
    · exact ⟨by omega, h⟩
theorem foldl_red : ∀ (w s : List Int), RedL s → RedL (w.foldl rp s)
  | [], _, h => h
  | x :: w, s, h => foldl_red w _ (rp_red x h)
theorem rp_rp {s : List Int} {x y : Int} (h : RedL s) (e : x = -y) : rp (rp s x) y = s := by
  cases s with
  | nil => unfold rp; simp [e]
  | cons z t =>
    by_cases hz : z = -x
    · have e1 : rp (z :: t) x = t := by unfold rp; simp [hz]
      rw [e1]
      cases t with
      | nil => unfold rp; simp; omega
      | cons u t =>
        have h1 : z + u ≠ 0 := h.1
        unfold rp
        simp only
        rw [if_neg (by omega)]
        rw [show y = z by omega]
    · have e1 : rp (z :: t) x = x :: z :: t := by unfold rp; simp [hz]
      rw [e1]
      unfold rp
      simp [e]
theorem red0_cancel (a b : List Int) {x y : Int} (e : x = -y) : red0 (a ++ x :: y :: b) = red0 (a ++ b) := by
  unfold red0
  rw [List.foldl_append, List.foldl_cons, List.foldl_cons, List.foldl_append, rp_rp (foldl_red a [] trivial) e]
theorem red0_same : ∀ (w s : List Int), (∀ y t, s = y :: t → ∀ x v, w = x :: v → y + x ≠ 0) → RedL w → w.foldl rp s = w.reverse ++ s
  | [], s, _, _ => rfl
  | x :: w, s, h, hr => by
    have e : rp s x = x :: s := by
      cases s with
      | nil => rfl
      | cons y t =>
        have := h y t rfl x w rfl
        unfold rp
        simp only
        rw [if_neg (by omega)]
    rw [List.foldl_cons, e, red0_same w (x :: s) (fun y t q x' v q' => by cases q; subst q'; exact hr.1) hr.tail]
    simp
theorem red_same {w : List Int} (h : RedL w) : red w = w := by
  rw [red_red0, red0, red0_same w [] (fun y t q => by cases q) h]; simp
theorem RedL_rev {w : List Int} (h : RedL w) : RedL w.reverse := by
  rw [RedL_iff] at h ⊢
  intro i hi
  rw [List.length_reverse] at hi
  have := h (w.length - 1 - (i + 1)) (by omega)
  rw [List.getD_eq_getElem?_getD, List.getD_eq_getElem?_getD] at this ⊢
  rw [List.getElem?_reverse (by omega), List.getElem?_reverse (by omega)]
  have e : w.length - 1 - (i + 1) + 1 = w.length - 1 - i := by omega
  rw [e] at this
  rw [Int.add_comm]; exact this
theorem red_RedL (w : List Int) : RedL (red w) := by rw [red_red0]; exact RedL_rev (foldl_red w [] trivial)
theorem rp_mem {s : List Int} {x y : Int} (h : y ∈ rp s x) : y ∈ s ∨ y = x := by
  cases s with
  | nil => exact .inr (List.mem_singleton.mp h)
  | cons z t =>
    unfold rp at h
    simp only at h
    split at h
    · exact .inl (List.mem_cons_of_mem _ h)
    · rcases List.mem_cons.mp h with rfl | h
      · exact .inr rfl
      · exact .inl h
theorem red_mem {w : List Int} {y : Int} (h : y ∈ red w) : y ∈ w := by
  have k : ∀ (w s : List Int), y ∈ w.foldl rp s → y ∈ s ∨ y ∈ w := by
    intro w
    induction w with
    | nil => intro s h; exact .inl h
    | cons x w ih =>
      intro s h
      rcases ih _ h with q | q
      · rcases rp_mem q with q | rfl
        · exact .inl q
        · exact .inr (List.mem_cons_self ..)
      · exact .inr (List.mem_cons_of_mem _ q)
  rw [red_red0, List.mem_reverse] at h
  exact (k w [] h).elim (fun q => by cases q) id
theorem Reduced_of {w : List Int} (h : RedL w) : Reduced w := by
  intro k hk
  rw [rg_mem] at hk
  rw [RedL_iff] at h
  have := h (k - 1).toNat (by omega)
  have e : (k - 1).toNat + 1 = k.toNat := by omega
  rw [e] at this
  unfold iat
  omega
/-! the least places -/
theorem cpl_nil {w : List Int} (h : cpl w = []) : RedL w := by
  rw [RedL_iff]
  intro i hi q
  have := List.filter_eq_nil_iff.mp h (i : Int) (rg_mem.mpr (by omega))
  rw [decide_eq_true_eq] at this
  refine this ?_
  unfold iat
  have e : ((i : Int) + 1).toNat = i + 1 := by omega
  rw [e, Int.toNat_natCast]; omega
theorem red_cnl {w : List Int} {p : Int} (h : p ∈ cpl w) : red (cnl w p) = red w := by
  obtain ⟨h0, h1, h2⟩ := cpl_mem h
  have d1 : w.drop p.toNat = iat w p :: w.drop (p.toNat + 1) := by
    rw [List.drop_eq_getElem_cons (by omega)]
    unfold iat
    rw [List.getD_eq_getElem?_getD, List.getElem?_eq_getElem (by omega)]; rfl
  have d2 : w.drop (p.toNat + 1) = iat w (p + 1) :: w.drop (p + 2).toNat := by
    rw [List.drop_eq_getElem_cons (by omega)]
    unfold iat
    have e : (p + 1).toNat = p.toNat + 1 := by omega
    have e2 : (p + 2).toNat = p.toNat + 1 + 1 := by omega
    rw [e, e2, List.getD_eq_getElem?_getD, List.getElem?_eq_getElem (by omega)]; rfl
  have e : w = w.take p.toNat ++ iat w p :: iat w (p + 1) :: w.drop (p + 2).toNat := by
    rw [← d2, ← d1, List.take_append_drop]
  rw [red_red0, red_red0]
  conv => rhs; rw [e]
  rw [red0_cancel _ _ h2]; rfl
theorem lcF_red : ∀ (n : Nat) (w : List Int), w.length ≤ n → (lcF n w).2 = red w
  | 0, w, h => by
    have : w = [] := List.eq_nil_of_length_eq_zero (by omega)
    subst this; rfl
  | n + 1, w, h => by
    cases hc : cpl w with
    | nil => rw [lcF_nil hc, red_same (cpl_nil hc)]
    | cons p r =>
      have hm : p ∈ cpl w := by rw [hc]; exact List.mem_cons_self ..
      obtain ⟨h0, h1, _⟩ := cpl_mem hm
      have := cnl_len h0 h1
      rw [lcF_cons hc]
      dsimp only
      rw [lcF_red n _ (by omega), red_cnl hm]
abbrev bes (w : List Int) : List Int := (rg 1 w.length).filter fun k => decide (iat w k + iat w (k - 1) = 0)
theorem rg_shift (n : Int) : rg 1 n = (rg 0 (n - 1)).map (· + 1) := by
  unfold rg
  rw [List.map_map, Int.sub_zero]
  exact List.map_congr_left fun k _ => by simp only [Function.comp_apply]; omega
theorem bes_cpl (w : List Int) : bes w = (cpl w).map (· + 1) := by
  unfold bes cpl
  rw [rg_shift, List.filter_map]
  congr 1
  refine List.filter_congr fun k hk => ?_
  have := rg_mem.mp hk
  simp only [Function.comp_apply]
  refine decide_eq_decide.mpr ?_
  have e : k + 1 - 1 = k := by omega
  rw [e]; omega
theorem row_head (w : List Int) : (lcF w.length w).1.take 1 = ((bes w).take 1).map (· - 1) := by
  rw [bes_cpl]
  cases hc : cpl w with
  | nil => rw [lcF_nil hc]; rfl
  | cons p r =>
    have hm : p ∈ cpl w := by rw [hc]; exact List.mem_cons_self ..
    obtain ⟨h0, h1, _⟩ := cpl_mem hm
    obtain ⟨n, hn⟩ : ∃ n, w.length = n + 1 := ⟨w.length - 1, by omega⟩
    rw [hn, lcF_cons hc]
    simp
theorem isred_bes (w : List Int) : ((rg 1 w.length).all fun k => decide (iat w (k - 1) ≠ - iat w k)) = decide (bes w = []) := by
  refine Bool.eq_iff_iff.mpr ?_
  rw [List.all_eq_true, decide_eq_true_eq, List.filter_eq_nil_iff]
  refine forall_congr' fun k => forall_congr' fun hk => ?_
  rw [decide_eq_true_eq, decide_eq_true_eq]
  omega
end Law

end
section
set_option maxHeartbeats 4000000
namespace Law
open Cs PySem
theorem M2.assoc (a b c : M2) : (a.mul b).mul c = a.mul (b.mul c) := by
  cases a; cases b; cases c
  simp only [M2.mul, M2.mk.injEq]
  refine ⟨?_, ?_, ?_, ?_⟩ <;> grind
theorem M2.one_mul (a : M2) : M2.one.mul a = a := by
  cases a
  simp only [M2.mul, M2.one, M2.mk.injEq]
  refine ⟨?_, ?_, ?_, ?_⟩ <;> omega
theorem M2.mul_one (a : M2) : a.mul M2.one = a := by
  cases a
  simp only [M2.mul, M2.one, M2.mk.injEq]
  refine ⟨?_, ?_, ?_, ?_⟩ <;> omega
theorem M2.adj_mul (a b : M2) : (a.mul b).adj = b.adj.mul a.adj := by
  cases a; cases b
  simp only [M2.mul, M2.adj, M2.mk.injEq]
  refine ⟨?_, ?_, ?_, ?_⟩ <;> grind
theorem sgn_neg {x : Int} (h : x ≠ 0) : sgn (-x) = - sgn x := by unfold sgn; split <;> split <;> omega
theorem sgn_sq (x : Int) : sgn x * sgn x = 1 := by rcases sgn_le x with e | e <;> rw [e] <;> rfl
theorem sgn_ab (x : Int) : sgn x * ab x = x := by unfold sgn ab; split <;> omega
theorem Lt_adj {x : Int} (h : x ≠ 0) : (Lt x).adj = Lt (-x) := by
  unfold Lt M2.adj
  rw [sgn_neg h, ab_neg]
  simp only [M2.mk.injEq]
  refine ⟨?_, ?_, ?_, ?_⟩ <;> grind
theorem Lt_inv {x : Int} (h : x ≠ 0) : (Lt x).mul (Lt (-x)) = M2.one := by
  have e := sgn_sq x
  unfold Lt M2.mul M2.one
  rw [sgn_neg h, ab_neg]
  simp only [M2.mk.injEq]
  generalize sgn x = s at e
  generalize ab x = k
  refine ⟨?_, ?_, ?_, ?_⟩ <;> grind
theorem tab_from : ∀ (w : List Int) (m : M2), w.foldl (fun m x => m.mul (Lt x)) m = m.mul (tab w)
  | [], m => (M2.mul_one m).symm
  | x :: w, m => by
    unfold tab
    rw [List.foldl_cons, List.foldl_cons, tab_from w, tab_from w (M2.one.mul (Lt x)), M2.one_mul, M2.assoc]
theorem tab_nil : tab [] = M2.one := rfl
theorem tab_cons (x : Int) (w : List Int) : tab (x :: w) = (Lt x).mul (tab w) := by
  have := tab_from w (M2.one.mul (Lt x))
  rw [M2.one_mul] at this
  rw [← this]; unfold tab; rw [List.foldl_cons, M2.one_mul]
theorem tab_app (u v : List Int) : tab (u ++ v) = (tab u).mul (tab v) := by
  conv => lhs; unfold tab
  rw [List.foldl_append, tab_from]; rfl
theorem tab_one (x : Int) : tab [x] = Lt x := by rw [tab_cons, tab_nil, M2.mul_one]
def NZ (w : List Int) : Prop := ∀ x ∈ w, x ≠ 0
theorem NZ.tail {x : Int} {w : List Int} (h : NZ (x :: w)) : NZ w := fun y hy => h y (List.mem_cons_of_mem _ hy)
theorem NZ.head {x : Int} {w : List Int} (h : NZ (x :: w)) : x ≠ 0 := h x (List.mem_cons_self ..)
theorem tab_rp {t : List Int} {x : Int} (hx : x ≠ 0) : tab (rp t x).reverse = (tab t.reverse).mul (Lt x) := by
  cases t with
  | nil => show tab [x] = (tab []).mul (Lt x); rw [tab_one, tab_nil, M2.one_mul]
  | cons y t =>
    rw [rp_cons]
    split
    · rename_i e
      have e2 := Lt_inv (x := -x) (by omega)
      rw [Int.neg_neg] at e2
      rw [List.reverse_cons, tab_app, tab_one, e, M2.assoc, e2, M2.mul_one]
    · rw [List.reverse_cons, tab_app, tab_one]
theorem tab_red {w : List Int} (h : NZ w) : tab (red w) = tab w := by
  have k : ∀ (w t : List Int), NZ w → tab (w.foldl rp t).reverse = (tab t.reverse).mul (tab w) := by
    intro w
    induction w with
    | nil => intro t _; exact (M2.mul_one _).symm
    | cons x w ih => intro t h; rw [List.foldl_cons, ih _ h.tail, tab_rp h.head, tab_cons, M2.assoc]
  rw [red_red0, red0, k w [] h]
  show M2.one.mul (tab w) = _
  rw [M2.one_mul]
theorem und_cons (x : Int) (w : List Int) : und (x :: w) = und w ++ [-x] := by unfold und; simp
theorem tab_und : ∀ {w : List Int}, NZ w → tab (und w) = (tab w).adj
  | [], _ => rfl
  | x :: w, h => by rw [und_cons, tab_app, tab_und h.tail, tab_one, ← Lt_adj h.head, tab_cons, M2.adj_mul]
def Good (x p q : Int) : Prop := (0 < p - 2 * (ab x * q) ∧ p - 2 * (ab x * q) < sgn x * q) ∨ (p - 2 * (ab x * q) < 0 ∧ sgn x * q < p - 2 * (ab x * q))
theorem dq_bd {d q : Int} (hd : d ≠ 0) : (0 < q → d * q ≥ q ∨ d * q ≤ -q) ∧ (q < 0 → d * q ≤ q ∨ d * q ≥ -q) := by
  refine ⟨fun hq => ?_, fun hq => ?_⟩
  · rcases Int.lt_or_gt_of_ne hd with h | h
    · right
      have := Int.mul_le_mul_of_nonneg_right (show d ≤ -1 by omega) (show 0 ≤ q by omega)
      omega
    · left
      have := Int.mul_le_mul_of_nonneg_right (show 1 ≤ d by omega) (show 0 ≤ q by omega)
      omega
  · rcases Int.lt_or_gt_of_ne hd with h | h
    · right
      have := Int.mul_le_mul_of_nonpos_right (show d ≤ -1 by omega) (show q ≤ 0 by omega)
      omega
    · left
      have := Int.mul_le_mul_of_nonpos_right (show 1 ≤ d by omega) (show q ≤ 0 by omega)
      omega
theorem good_step {x p q : Int} (h : (0 < p - 2 * (ab x * q) ∧ -(p - 2 * (ab x * q)) < sgn x * q) ∨ (p - 2 * (ab x * q) < 0 ∧ sgn x * q < -(p - 2 * (ab x * q)))) :
    Good x ((1 + 4 * ab x * sgn x) * p + -8 * ab x * ab x * sgn x * q) (2 * sgn x * p + (1 - 4 * ab x * sgn x) * q) := by
  have e := sgn_sq x
  unfold Good
  generalize sgn x = s at e h ⊢
  generalize ab x = k at h ⊢
  have e1 : (1 + 4 * k * s) * p + -8 * k * k * s * q - 2 * (k * (2 * s * p + (1 - 4 * k * s) * q)) = p - 2 * (k * q) := by grind
  have e2 : s * (2 * s * p + (1 - 4 * k * s) * q) = s * q + 2 * (p - 2 * (k * q)) := by grind
  rw [e1, e2]
  omega
theorem good_tab : ∀ (w : List Int) (x : Int), RedL (x :: w) → NZ (x :: w) → Good x (tab (x :: w)).a (tab (x :: w)).c
  | [], x, _, _ => by
    rw [tab_cons]
    exact good_step (x := x) (p := 1) (q := 0) (by simp)
  | z :: w, x, hr, hn => by
    have g := good_tab w z hr.tail hn.tail
    have hxz := hr.1
    rw [tab_cons]
    refine good_step (x := x) (p := (tab (z :: w)).a) (q := (tab (z :: w)).c) ?_
    unfold Good at g
    generalize (tab (z :: w)).a = p at g ⊢
    generalize (tab (z :: w)).c = q at g ⊢
    by_cases hk : ab x = ab z
    · have hs : sgn x = sgn z := by
        have a1 := sgn_ab x
        have a2 := sgn_ab z
        rcases sgn_le x with e | e <;> rcases sgn_le z with e' | e' <;> rw [e] at a1 <;> rw [e'] at a2 <;> rw [e, e'] <;> omega
      rw [hk, hs]
      omega
    · have hd := dq_bd (q := q) (show ab x - ab z ≠ 0 by omega)
      have e3 : (ab x - ab z) * q = ab x * q - ab z * q := by grind
      rw [e3] at hd
      rcases sgn_le x with e | e <;> rcases sgn_le z with e' | e' <;> rw [e'] at g <;> rw [e] <;> omega
theorem good_inj {x z p q : Int} (h : Good x p q) (g : Good z p q) : x = z := by
  unfold Good at h g
  by_cases hk : ab x = ab z
  · rw [hk] at h
    have a1 := sgn_ab x
    have a2 := sgn_ab z
    rcases sgn_le x with e | e <;> rcases sgn_le z with e' | e' <;> rw [e] at a1 h <;> rw [e'] at a2 g <;> omega
  · have hd := dq_bd (q := q) (show ab x - ab z ≠ 0 by omega)
    have e3 : (ab x - ab z) * q = ab x * q - ab z * q := by grind
    rw [e3] at hd
    rcases sgn_le x with e | e <;> rcases sgn_le z with e' | e' <;> rw [e'] at g <;> rw [e] at h <;> omega
theorem good_one {x : Int} (h : Good x 1 0) : False := by
  unfold Good at h
  simp at h
theorem free : ∀ (u v : List Int), RedL u → RedL v → NZ u → NZ v → tab u = tab v → u = v
  | [], [], _, _, _, _, _ => rfl
  | [], z :: v, _, hv, _, nv, e => by
    have g := good_tab v z hv nv
    rw [← e] at g
    exact (good_one g).elim
  | x :: u, [], hu, _, nu, _, e => by
    have g := good_tab u x hu nu
    rw [e] at g
    exact (good_one g).elim
  | x :: u, z :: v, hu, hv, nu, nv, e => by
    have g1 := good_tab u x hu nu
    have g2 := good_tab v z hv nv
    rw [e] at g1
    have exz := good_inj g1 g2
    subst exz
    have e2 : tab u = tab v := by
      rw [tab_cons, tab_cons] at e
      have := congrArg (fun m => (Lt (-x)).mul m) e
      have i := Lt_inv (x := -x) (by have := nu.head; omega)
      rw [Int.neg_neg] at i
      rw [← M2.assoc, ← M2.assoc, i, M2.one_mul, M2.one_mul] at this
      exact this
    rw [free u v hu.tail hv.tail nu.tail nv.tail e2]
theorem NZ_red {w : List Int} (h : NZ w) : NZ (red w) := fun x hx => h x (red_mem hx)
theorem red_iff {u v : List Int} (hu : NZ u) (hv : NZ v) : red u = red v ↔ tab u = tab v := by
  constructor
  · intro h
    rw [← tab_red hu, ← tab_red hv, h]
  · intro h
    exact free _ _ (red_RedL u) (red_RedL v) (NZ_red hu) (NZ_red hv) (by rw [tab_red hu, tab_red hv, h])
theorem NZ_und {w : List Int} (h : NZ w) : NZ (und w) := by
  intro x hx
  unfold und at hx
  obtain ⟨y, hy, rfl⟩ := List.mem_map.mp hx
  have := h y (List.mem_reverse.mp hy)
  omega
theorem NZ_app {u v : List Int} (h : NZ u) (k : NZ v) : NZ (u ++ v) := fun x hx => (List.mem_append.mp hx).elim (h x) (k x)
end Law

end
section
set_option maxHeartbeats 4000000
namespace Law
open Cs PySem
theorem wordOk_NZ {w : List Int} {many : Int} (h : WordOk w many) : NZ w := fun x hx => (h x hx).1
theorem wordOk_small {w : List Int} {many : Int} (h : WordOk w many) (hm : many ≤ 100) : Small w := fun x hx => by
  have := (h x hx).2
  unfold ab at this
  split at this <;> omega
theorem wordOk_red {w : List Int} {many : Int} (h : WordOk w many) : WordOk (red w) many := fun x hx => h x (red_mem hx)
theorem wordOk_und {w : List Int} {many : Int} (h : WordOk w many) : WordOk (und w) many := fun x hx => by
  unfold und at hx
  obtain ⟨y, hy, rfl⟩ := List.mem_map.mp hx
  have := h y (List.mem_reverse.mp hy)
  rw [ab_neg]; exact ⟨by omega, this.2⟩
theorem law_is_one_right_sp (wf k : Nat) (hwf : wf = 1000000) (many : Int) (w : List Int) (hm : many ≤ 6) (hw : w.length ≤ 24) (hok : WordOk w many) : callF wf FS (k + 4) 24 [.d (.int many), .d (tI w)] = some (.d (.bool true), [.d (.int many), .d (tI w)]) := by
  rw [call_law_is_one_right, wp_eq]
  unfold f_law_is_one_right b_law_is_one_right
  have hl := red_len w
  have hs := wordOk_small hok (by omega)
  have hs2 := wordOk_small (wordOk_red hok) (by omega)
  have ht := tab_red (wordOk_NZ hok)
  have hrow := lcF_len w.length w
  rw [lcF_red w.length w (Nat.le_refl _)] at hrow
  have hbl : (bes w).length ≤ 24 := by
    refine Nat.le_trans (List.length_filter_le _ _) ?_
    rw [rg_len]; omega
  have hbl2 : (bes w).length ≤ sizeLine := le_line (by omega)
  have hpar : ¬ ((w.length : Int) - (red w).length) % 2 = 1 := by omega
  have hred : ((rg 1 (red w).length).all fun k => decide (iat (red w) (k - 1) ≠ - iat (red w) k)) = true := by
    rw [List.all_eq_true]
    intro x hx
    have := Reduced_of (red_RedL w) x hx
    rw [decide_eq_true_eq]
    omega
  have hcomp : compL (turn (callF wf FS (k + 3)) [4] (Tg.n 4) (Tm.bin O2.eq (Tm.bin O2.add (Tm.bin O2.idx (Tm.var 1) (Tm.var 4)) (Tm.bin O2.idx (Tm.var 1) (Tm.bin O2.sub (Tm.var 4) (Tm.cst (PyData.int 1))))) (Tm.cst (PyData.int 0))) (Tm.var 4)) ((rg 1 w.length).map .int) [some (.d (.int many)), some (.d (tI w)), some (.d (tI (red w))), none, none, none] = some ((bes w).map .int, [some (.d (.int many)), some (.d (tI w)), some (.d (tI (red w))), none, none, none]) := by
    rw [compL_filter (f := turn _ _ _ _ _) (r := PyData.int) (fun k => decide (iat w k + iat w (k - 1) = 0)) (fun x => x), List.map_id']
    intro x hx
    rw [rg_mem] at hx
    simp -implicitDefEqProofs only [run_1, wp_some, wp_none, wp_bind, wp_map, wp_ite, bR_b, iR_i, dR_d, mR_m, look_d, look_l, look_s, look_f, unal_l, unal_s, unal_f, val_ow, val_al, c_var, c_cst, c_bin, c_un, c_and, c_or, c_not, c_ite, c_tup, c_lst, c_slice, c_lrng, c_trng, rngV_n, c_call, lstAt_l, c_mt0, c_mt1, cL_nil, cL_cons, cP_nil, cP_sm, cI_r1, cI_r2, cI_sq, walkAt_l, walkAt_s, walkAt_f, iter_t, iter_l, iter_a, nxt_nx, nxt_rt, nxt_bk, nxt_ct, q_skip, q_seq, q_set, q_par, tR_t, q_unp, q_setI, q_ex2, retV_ow, retV_al, q_ret2, q_retN, q_if, q_brk, q_cnt, augV_i, augV_l, augV_t, q_aug2, e_dB, e_dI, eq_ii, eq_bb, mem_ti, mem_li, atI_map, idx_t, idx_l, idx_f, cut_t, cut_l, sl_map, p_eq, p_ne, p_mem, p_nmem, p_idx, p_add, p_addT, p_addL, p_sub, p_mulT, p_mulL, p_fdiv, p_mod, p_pow, p_lt, p_le, p_gt, p_ge, p_maxm, p_minm, p_neg, p_isN, p_notN, p_isB, p_notB, p_lenT, p_lenL, p_lenF, p_tupL, p_tupT, p_listT, p_listL, p_abs, p_int, p_intB, p_revT, p_revL, p_isInt, p_isBool, p_isStr, p_isTuple, m_append, m_rev, shO_n, shO_s, shAt_c, isSh_d, isSh_l, isSh_s, isSh_f, raw_ow, raw_al, raws_n, raws_c, alK_n, alK_o, alK_a, back_n, back_o, back_l, back_s, back_f, owD_n, owD_c, owM_n, owM_c, bindM_n, bindM_c, bindN_n, bindN_c, bindT_n, bindT_t, wipe_n, wipe_c, fill_n, fillO_d, fillO_n, fillO_l, fill_c, lock_n, lock_s, open_n, open_s, aug_add, aug_sub, fturn_c, turn_c, fin_nx, fin_rt, ini_n, ini_c, outs_n, outs_d, outs_l, outs_s, outs_f, pins_n, pins_d, pins_l, pins_s, pins_f, inRng_0, inRng_1, inRng_2, eq_ti, eq_li, atI_0, atI_1, atI_2, atI_3, line_1, line_2, line_3, line_4, line_5, line_6, line_7, line_8, line_9, line_10, line_11, line_12, List.getElem?_cons_zero, List.getElem?_cons_succ, List.set_cons_zero, List.set_cons_succ, List.length_map, List.length_cons, List.length_nil, Option.bind_some, Option.bind_none, id, List.mem_cons, List.not_mem_nil, List.replicate_succ, List.replicate_zero, List.nil_append, List.cons_append, if_true, if_false, ite_true, ite_false, Bool.false_eq_true, Bool.or_false, Bool.false_or, Bool.or_true, Bool.true_or, Bool.and_true, Bool.true_and, Bool.and_false, Bool.false_and, Bool.not_true, Bool.not_false, decide_true, decide_false, or_false, false_or, or_true, true_or, and_true, true_and, List.nodup_cons, List.nodup_nil, not_false_eq_true, not_true_eq_false, decide_eq_true_eq, Bool.not_eq_true', decide_eq_false_iff_not, inPin, List.any_cons, List.any_nil, isTupD, isIntD, isBoolD, isStrD, isNoneD, Nat.reduceSub, Nat.reduceAdd, Nat.reduceLeDiff, Nat.reduceEqDiff, Nat.reduceMul, Nat.reducePow, Nat.sub_self, Nat.sub_zero, Int.reduceLT, Int.reduceLE, Int.reduceNeg, Int.reduceToNat, Int.reduceEq, Bool.and_self, decide_not, reduceCtorEq, Nat.zero_le, Option.toList_none, Option.toList_some, List.append_nil, true_implies, false_implies, implies_true, not_true, not_false_eq_true, Option.map_some, atI_getD (xs := w) (i := x) 0 (by omega) (by omega), atI_getD (xs := w) (i := x - 1) 0 (by omega) (by omega)]
    split <;> rfl
  have hb0 : (decide (((bes w).length : Int) = 0)) = decide (bes w = []) := decide_eq_decide.mpr ⟨fun h => List.eq_nil_of_length_eq_zero (by omega), fun h => by rw [h]; rfl⟩
  have hi1 := is_reduced_word_sp wf (k + 2) w (by omega)
  rw [isred_bes] at hi1
  have hi2 := is_reduced_word_sp wf (k + 2) (red w) (by omega)
  rw [hred] at hi2
  have hrow2 : (lcF w.length w).1.length = (lcF w.length w).1.length := rfl
  simp -implicitDefEqProofs only [run_1, wp_some, wp_none, wp_bind, wp_map, wp_ite, bR_b, iR_i, dR_d, mR_m, look_d, look_l, look_s, look_f, unal_l, unal_s, unal_f, val_ow, val_al, c_var, c_cst, c_bin, c_un, c_and, c_or, c_not, c_ite, c_tup, c_lst, c_slice, c_lrng, c_trng, rngV_n, c_call, lstAt_l, c_mt0, c_mt1, cL_nil, cL_cons, cP_nil, cP_sm, cI_r1, cI_r2, cI_sq, walkAt_l, walkAt_s, walkAt_f, iter_t, iter_l, iter_a, nxt_nx, nxt_rt, nxt_bk, nxt_ct, q_skip, q_seq, q_set, q_par, tR_t, q_unp, q_setI, q_ex2, retV_ow, retV_al, q_ret2, q_retN, q_if, q_brk, q_cnt, augV_i, augV_l, augV_t, q_aug2, e_dB, e_dI, eq_ii, eq_bb, mem_ti, mem_li, atI_map, idx_t, idx_l, idx_f, cut_t, cut_l, sl_map, p_eq, p_ne, p_mem, p_nmem, p_idx, p_add, p_addT, p_addL, p_sub, p_mulT, p_mulL, p_fdiv, p_mod, p_pow, p_lt, p_le, p_gt, p_ge, p_maxm, p_minm, p_neg, p_isN, p_notN, p_isB, p_notB, p_lenT, p_lenL, p_lenF, p_tupL, p_tupT, p_listT, p_listL, p_abs, p_int, p_intB, p_revT, p_revL, p_isInt, p_isBool, p_isStr, p_isTuple, m_append, m_rev, shO_n, shO_s, shAt_c, isSh_d, isSh_l, isSh_s, isSh_f, raw_ow, raw_al, raws_n, raws_c, alK_n, alK_o, alK_a, back_n, back_o, back_l, back_s, back_f, owD_n, owD_c, owM_n, owM_c, bindM_n, bindM_c, bindN_n, bindN_c, bindT_n, bindT_t, wipe_n, wipe_c, fill_n, fillO_d, fillO_n, fillO_l, fill_c, lock_n, lock_s, open_n, open_s, aug_add, aug_sub, fturn_c, turn_c, fin_nx, fin_rt, ini_n, ini_c, outs_n, outs_d, outs_l, outs_s, outs_f, pins_n, pins_d, pins_l, pins_s, pins_f, inRng_0, inRng_1, inRng_2, eq_ti, eq_li, atI_0, atI_1, atI_2, atI_3, line_1, line_2, line_3, line_4, line_5, line_6, line_7, line_8, line_9, line_10, line_11, line_12, List.getElem?_cons_zero, List.getElem?_cons_succ, List.set_cons_zero, List.set_cons_succ, List.length_map, List.length_cons, List.length_nil, Option.bind_some, Option.bind_none, id, List.mem_cons, List.not_mem_nil, List.replicate_succ, List.replicate_zero, List.nil_append, List.cons_append, if_true, if_false, ite_true, ite_false, Bool.false_eq_true, Bool.or_false, Bool.false_or, Bool.or_true, Bool.true_or, Bool.and_true, Bool.true_and, Bool.and_false, Bool.false_and, Bool.not_true, Bool.not_false, decide_true, decide_false, or_false, false_or, or_true, true_or, and_true, true_and, List.nodup_cons, List.nodup_nil, not_false_eq_true, not_true_eq_false, decide_eq_true_eq, Bool.not_eq_true', decide_eq_false_iff_not, inPin, List.any_cons, List.any_nil, isTupD, isIntD, isBoolD, isStrD, isNoneD, Nat.reduceSub, Nat.reduceAdd, Nat.reduceLeDiff, Nat.reduceEqDiff, Nat.reduceMul, Nat.reducePow, Nat.sub_self, Nat.sub_zero, Int.reduceLT, Int.reduceLE, Int.reduceNeg, Int.reduceToNat, Int.reduceEq, Bool.and_self, decide_not, reduceCtorEq, Nat.zero_le, Option.toList_none, Option.toList_some, List.append_nil, true_implies, false_implies, implies_true, not_true, not_false_eq_true, Option.map_some, reduced_word_sp wf (k + 2) w (by omega), law_is_word_sp wf (k + 2) (red w) many (by omega) (wordOk_red hok) (Reduced_of (red_RedL w)), law_table_sp wf (k + 1) w hs (by omega), law_table_sp wf (k + 1) (red w) hs2 (by omega), eq_tM, ht, hpar, hi1, hi2, show ¬ ((w.length : Int) < (red w).length) by omega, c_comp, inRng_of (i := (w.length : Int)) (by omega), rngL_rg, hcomp, hbl2, hb0, same_b wf (k + 2), undone_word_sp wf (k + 2) w (by omega), law_undone_sp wf (k + 2) w (by omega), same_ti wf (k + 1) (und w) (by rw [und_len]; omega), least_cancellings_sp wf (k + 1) hwf w (by omega), isTup_t, mul_sl (i := 2) _ (by decide +kernel), show (2 * ((lcF w.length w).1.length : Int) = (w.length : Int) - (red w).length) by omega, sl_to _ (show (0 : Int) ≤ 1 by decide)]
  have hj : callF wf FS (k + 3) 8 [.d (tI w), .d (tI (red w)), .d (.tuple [tI (lcF w.length w).1, .tuple []])] = some (.d (.bool true), [.d (tI w), .d (tI (red w)), .d (.tuple [tI (lcF w.length w).1, .tuple []])]) :=
    judge_same_words_sp wf k w (red w) (lcF w.length w).1 [] (red w) (by omega) (by omega) (by rw [wbr_lc, lcF_red w.length w (Nat.le_refl _)]) rfl
  have hb3 : (((bes w).take 1).map (· - 1)).length ≤ sizeLine := le_line (by rw [List.length_map, List.length_take]; omega)
  rw [← List.map_take, compL_map (f := turn _ _ _ _ _) (r := PyData.int) (fun x => x - 1) ((bes w).take 1) (by intro x hx; simp -implicitDefEqProofs only [run_1, wp_some, wp_none, wp_bind, wp_map, wp_ite, bR_b, iR_i, dR_d, mR_m, look_d, look_l, look_s, look_f, unal_l, unal_s, unal_f, val_ow, val_al, c_var, c_cst, c_bin, c_un, c_and, c_or, c_not, c_ite, c_tup, c_lst, c_slice, c_lrng, c_trng, rngV_n, c_call, lstAt_l, c_mt0, c_mt1, cL_nil, cL_cons, cP_nil, cP_sm, cI_r1, cI_r2, cI_sq, walkAt_l, walkAt_s, walkAt_f, iter_t, iter_l, iter_a, nxt_nx, nxt_rt, nxt_bk, nxt_ct, q_skip, q_seq, q_set, q_par, tR_t, q_unp, q_setI, q_ex2, retV_ow, retV_al, q_ret2, q_retN, q_if, q_brk, q_cnt, augV_i, augV_l, augV_t, q_aug2, e_dB, e_dI, eq_ii, eq_bb, mem_ti, mem_li, atI_map, idx_t, idx_l, idx_f, cut_t, cut_l, sl_map, p_eq, p_ne, p_mem, p_nmem, p_idx, p_add, p_addT, p_addL, p_sub, p_mulT, p_mulL, p_fdiv, p_mod, p_pow, p_lt, p_le, p_gt, p_ge, p_maxm, p_minm, p_neg, p_isN, p_notN, p_isB, p_notB, p_lenT, p_lenL, p_lenF, p_tupL, p_tupT, p_listT, p_listL, p_abs, p_int, p_intB, p_revT, p_revL, p_isInt, p_isBool, p_isStr, p_isTuple, m_append, m_rev, shO_n, shO_s, shAt_c, isSh_d, isSh_l, isSh_s, isSh_f, raw_ow, raw_al, raws_n, raws_c, alK_n, alK_o, alK_a, back_n, back_o, back_l, back_s, back_f, owD_n, owD_c, owM_n, owM_c, bindM_n, bindM_c, bindN_n, bindN_c, bindT_n, bindT_t, wipe_n, wipe_c, fill_n, fillO_d, fillO_n, fillO_l, fill_c, lock_n, lock_s, open_n, open_s, aug_add, aug_sub, fturn_c, turn_c, fin_nx, fin_rt, ini_n, ini_c, outs_n, outs_d, outs_l, outs_s, outs_f, pins_n, pins_d, pins_l, pins_s, pins_f, inRng_0, inRng_1, inRng_2, eq_ti, eq_li, atI_0, atI_1, atI_2, atI_3, line_1, line_2, line_3, line_4, line_5, line_6, line_7, line_8, line_9, line_10, line_11, line_12, List.getElem?_cons_zero, List.getElem?_cons_succ, List.set_cons_zero, List.set_cons_succ, List.length_map, List.length_cons, List.length_nil, Option.bind_some, Option.bind_none, id, List.mem_cons, List.not_mem_nil, List.replicate_succ, List.replicate_zero, List.nil_append, List.cons_append, if_true, if_false, ite_true, ite_false, Bool.false_eq_true, Bool.or_false, Bool.false_or, Bool.or_true, Bool.true_or, Bool.and_true, Bool.true_and, Bool.and_false, Bool.false_and, Bool.not_true, Bool.not_false, decide_true, decide_false, or_false, false_or, or_true, true_or, and_true, true_and, List.nodup_cons, List.nodup_nil, not_false_eq_true, not_true_eq_false, decide_eq_true_eq, Bool.not_eq_true', decide_eq_false_iff_not, inPin, List.any_cons, List.any_nil, isTupD, isIntD, isBoolD, isStrD, isNoneD, Nat.reduceSub, Nat.reduceAdd, Nat.reduceLeDiff, Nat.reduceEqDiff, Nat.reduceMul, Nat.reducePow, Nat.sub_self, Nat.sub_zero, Int.reduceLT, Int.reduceLE, Int.reduceNeg, Int.reduceToNat, Int.reduceEq, Bool.and_self, decide_not, reduceCtorEq, Nat.zero_le, Option.toList_none, Option.toList_some, List.append_nil, true_implies, false_implies, implies_true, not_true, not_false_eq_true, Option.map_some])]
  rw [List.length_map] at hb3
  simp -implicitDefEqProofs only [run_1, wp_some, wp_none, wp_bind, wp_map, wp_ite, bR_b, iR_i, dR_d, mR_m, look_d, look_l, look_s, look_f, unal_l, unal_s, unal_f, val_ow, val_al, c_var, c_cst, c_bin, c_un, c_and, c_or, c_not, c_ite, c_tup, c_lst, c_slice, c_lrng, c_trng, rngV_n, c_call, lstAt_l, c_mt0, c_mt1, cL_nil, cL_cons, cP_nil, cP_sm, cI_r1, cI_r2, cI_sq, walkAt_l, walkAt_s, walkAt_f, iter_t, iter_l, iter_a, nxt_nx, nxt_rt, nxt_bk, nxt_ct, q_skip, q_seq, q_set, q_par, tR_t, q_unp, q_setI, q_ex2, retV_ow, retV_al, q_ret2, q_retN, q_if, q_brk, q_cnt, augV_i, augV_l, augV_t, q_aug2, e_dB, e_dI, eq_ii, eq_bb, mem_ti, mem_li, atI_map, idx_t, idx_l, idx_f, cut_t, cut_l, sl_map, p_eq, p_ne, p_mem, p_nmem, p_idx, p_add, p_addT, p_addL, p_sub, p_mulT, p_mulL, p_fdiv, p_mod, p_pow, p_lt, p_le, p_gt, p_ge, p_maxm, p_minm, p_neg, p_isN, p_notN, p_isB, p_notB, p_lenT, p_lenL, p_lenF, p_tupL, p_tupT, p_listT, p_listL, p_abs, p_int, p_intB, p_revT, p_revL, p_isInt, p_isBool, p_isStr, p_isTuple, m_append, m_rev, shO_n, shO_s, shAt_c, isSh_d, isSh_l, isSh_s, isSh_f, raw_ow, raw_al, raws_n, raws_c, alK_n, alK_o, alK_a, back_n, back_o, back_l, back_s, back_f, owD_n, owD_c, owM_n, owM_c, bindM_n, bindM_c, bindN_n, bindN_c, bindT_n, bindT_t, wipe_n, wipe_c, fill_n, fillO_d, fillO_n, fillO_l, fill_c, lock_n, lock_s, open_n, open_s, aug_add, aug_sub, fturn_c, turn_c, fin_nx, fin_rt, ini_n, ini_c, outs_n, outs_d, outs_l, outs_s, outs_f, pins_n, pins_d, pins_l, pins_s, pins_f, inRng_0, inRng_1, inRng_2, eq_ti, eq_li, atI_0, atI_1, atI_2, atI_3, line_1, line_2, line_3, line_4, line_5, line_6, line_7, line_8, line_9, line_10, line_11, line_12, List.getElem?_cons_zero, List.getElem?_cons_succ, List.set_cons_zero, List.set_cons_succ, List.length_map, List.length_cons, List.length_nil, Option.bind_some, Option.bind_none, id, List.mem_cons, List.not_mem_nil, List.replicate_succ, List.replicate_zero, List.nil_append, List.cons_append, if_true, if_false, ite_true, ite_false, Bool.false_eq_true, Bool.or_false, Bool.false_or, Bool.or_true, Bool.true_or, Bool.and_true, Bool.true_and, Bool.and_false, Bool.false_and, Bool.not_true, Bool.not_false, decide_true, decide_false, or_false, false_or, or_true, true_or, and_true, true_and, List.nodup_cons, List.nodup_nil, not_false_eq_true, not_true_eq_false, decide_eq_true_eq, Bool.not_eq_true', decide_eq_false_iff_not, inPin, List.any_cons, List.any_nil, isTupD, isIntD, isBoolD, isStrD, isNoneD, Nat.reduceSub, Nat.reduceAdd, Nat.reduceLeDiff, Nat.reduceEqDiff, Nat.reduceMul, Nat.reducePow, Nat.sub_self, Nat.sub_zero, Int.reduceLT, Int.reduceLE, Int.reduceNeg, Int.reduceToNat, Int.reduceEq, Bool.and_self, decide_not, reduceCtorEq, Nat.zero_le, Option.toList_none, Option.toList_some, List.append_nil, true_implies, false_implies, implies_true, not_true, not_false_eq_true, Option.map_some, hb3, row_head, eq_ti, line_2, Nat.zero_le, hj, List.length_nil]
theorem Bd_pos {w : List Int} : 0 < 1 + 18 * w.length := by omega
theorem tab_rep (w : List Int) (n : Int) : tab (rep w n) = (List.replicate n.toNat (tab w)).foldl M2.mul M2.one := by
  unfold rep
  generalize n.toNat = m
  have h : ∀ (m : Nat) (a : M2), (List.replicate m (tab w)).foldl M2.mul a = a.mul (tab (List.replicate m w).flatten) := by
    intro m
    induction m with
    | zero => intro a; exact (M2.mul_one a).symm
    | succ m ih => intro a; rw [List.replicate_succ, List.foldl_cons, ih, List.replicate_succ, List.flatten_cons, tab_app, M2.assoc]
  rw [h, M2.one_mul]
theorem wordOk_rep {w : List Int} {many : Int} (h : WordOk w many) (n : Int) : WordOk (rep w n) many := fun x hx => by
  unfold rep at hx
  obtain ⟨l, hl, hx⟩ := List.mem_flatten.mp hx
  rw [(List.mem_replicate.mp hl).2] at hx
  exact h x hx
theorem often_one (n : Int) : often M2.one n = M2.one := by
  have h : ∀ m : Nat, (List.replicate m M2.one).foldl M2.mul M2.one = M2.one := by
    intro m
    induction m with
    | zero => rfl
    | succ m ih => rw [List.replicate_succ, List.foldl_cons, M2.one_mul, ih]
  unfold often
  have e : M2.one.adj = M2.one := rfl
  rw [e]
  split <;> exact h _
theorem pow_ok {w : List Int} {many : Int} (h : WordOk w many) (n : Int) : WordOk (pow w n) many ∧ RedL (pow w n) ∧ tab (pow w n) = often (tab w) n := by
  have hr := wordOk_red h
  have ht := tab_red (wordOk_NZ h)
  unfold pow
  split
  · rename_i e
    refine ⟨fun x hx => (by cases hx), trivial, ?_⟩
    rw [← ht, e, tab_nil, often_one]
  · split
    · rename_i e hn
      have hp := wordOk_rep (wordOk_und hr) (-n)
      refine ⟨wordOk_red hp, red_RedL _, ?_⟩
      rw [tab_red (wordOk_NZ hp), tab_rep, tab_und (wordOk_NZ hr), ht]
      unfold often
      rw [if_pos hn]
      congr 2; omega
    · rename_i e hn
      have hp := wordOk_rep hr n
      refine ⟨wordOk_red hp, red_RedL _, ?_⟩
      rw [tab_red (wordOk_NZ hp), tab_rep, ht]
      unfold often
      rw [if_neg hn]
      congr 2; omega
theorem pow_len {w : List Int} {n : Int} (hw : w.length ≤ 24) (h0 : -6 ≤ n) (h1 : n ≤ 6) : (pow w n).length ≤ 144 := by
  have hl := red_len w
  have hu := und_len (red w)
  unfold pow
  split
  · simp
  · split
    · refine Nat.le_trans (red_len _) ?_
      rw [rep_len, hu]
      exact Nat.le_trans (Nat.mul_le_mul (show (-n).toNat ≤ 6 by omega) (show (red w).length ≤ 24 by omega)) (by decide)
    · refine Nat.le_trans (red_len _) ?_
      rw [rep_len]
      exact Nat.le_trans (Nat.mul_le_mul (show n.toNat ≤ 6 by omega) (show (red w).length ≤ 24 by omega)) (by decide)
theorem M2.mul_adj_cancel {a b : M2} (h : b.a * b.d - b.b * b.c = 1) : (a.mul b).mul b.adj = a := by
  cases a; cases b
  simp only [M2.mul, M2.adj, M2.mk.injEq] at *
  refine ⟨?_, ?_, ?_, ?_⟩ <;> grind
theorem M2.mul_cancel_adj {a b : M2} (h : b.a * b.d - b.b * b.c = 1) : (a.mul b.adj).mul b = a := by
  cases a; cases b
  simp only [M2.mul, M2.adj, M2.mk.injEq] at *
  refine ⟨?_, ?_, ?_, ?_⟩ <;> grind
theorem det_tab : ∀ w : List Int, (tab w).a * (tab w).d - (tab w).b * (tab w).c = 1
  | [] => rfl
  | x :: w => by
    have ih := det_tab w
    have e := sgn_sq x
    rw [tab_cons]
    generalize tab w = m at ih
    cases m
    simp only [M2.mul, Lt] at *
    generalize sgn x = s at e
    generalize ab x = k
    grind
theorem law_are_two_right_sp (wf k : Nat) (ds : List Int) (many : Int) (u v : List Int) (hm : many ≤ 6) (hu : u.length ≤ 24) (hv : v.length ≤ 24) (uok : WordOk u many) (vok : WordOk v many) : ∃ ds' : List Int, callF wf FS (k + 5) 26 [.lst (ds.map .int), .d (.int many), .d (tI u), .d (tI v)] = some (.d (.bool true), [.lst (ds'.map .int), .d (.int many), .d (tI u), .d (tI v)]) := by
  suffices h : wp (callF wf FS (k + 5) 26 [.lst (ds.map .int), .d (.int many), .d (tI u), .d (tI v)]) fun r => ∃ ds' : List Int, r = (.d (.bool true), [.lst (ds'.map .int), .d (.int many), .d (tI u), .d (tI v)]) by
    obtain ⟨r, h1, ds', rfl⟩ := h
    exact ⟨ds', h1⟩
  rw [call_law_are_two_right]
  unfold f_law_are_two_right b_law_are_two_right
  have su := wordOk_small uok (by omega)
  have sv := wordOk_small vok (by omega)
  have nu := wordOk_NZ uok
  have nv := wordOk_NZ vok
  have bu := (tab_bd su).le (show 1 + 18 * u.length ≤ 1000 by omega)
  have bv := (tab_bd sv).le (show 1 + 18 * v.length ≤ 1000 by omega)
  have lu := und_len u
  have lv := und_len v
  have ri := red_iff nu nv
  have ok1 := wordOk_app uok vok
  have p1 : callF wf FS (k + 4) 10 [.d (.tuple [tI u, tI v])] = some (.d (tI (red (u ++ v))), [.d (.tuple [tI u, tI v])]) := by
    have := product_of_words_sp wf (k + 2) [u, v] (by simp only [List.flatten_cons, List.flatten_nil, List.length_append, List.length_nil]; omega)
    simpa using this
  have ok2 := wordOk_app ok1 (wordOk_app (wordOk_und uok) uok)
  have p2 : callF wf FS (k + 4) 10 [.d (.tuple [tI u, tI v, tI (und u), tI u])] = some (.d (tI (red (u ++ v ++ (und u ++ u)))), [.d (.tuple [tI u, tI v, tI (und u), tI u])]) := by
    have := product_of_words_sp wf (k + 2) [u, v, und u, u] (by simp only [List.flatten_cons, List.flatten_nil, List.length_append, List.length_nil]; omega)
    simpa using this
  have ok3 := wordOk_app (wordOk_app ok1 (wordOk_und uok)) (wordOk_und vok)
  have t1 : tab (red (u ++ v)) = (tab u).mul (tab v) := by rw [tab_red (wordOk_NZ ok1), tab_app]
  have t2 : tab (red (u ++ v ++ (und u ++ u))) = (tab u).mul (tab v) := by
    rw [tab_red (wordOk_NZ ok2), tab_app, tab_app, tab_app, tab_und nu]
    have := M2.mul_cancel_adj (a := (tab u).mul (tab v)) (det_tab u)
    rw [← M2.assoc]; exact this
  have t3 : tab (red (u ++ v ++ und u ++ und v)) = (((tab u).mul (tab v)).mul (tab u).adj).mul (tab v).adj := by
    rw [tab_red (wordOk_NZ ok3), tab_app, tab_app, tab_app, tab_und nu, tab_und nv]
  have told := fun (x : List Int) (m : M2) (h1 : WordOk x many) (h2 : RedL x) (h3 : x.length ≤ 1000) (h4 : tab x = m) => law_is_told_sp wf (k + 1) many x m h3 h1 (Reduced_of h2) (wordOk_small h1 (by omega)) h4
  have l1 : (red (u ++ v)).length ≤ 1000 := Nat.le_trans (red_len _) (by rw [List.length_append]; omega)
  have l2 : (red (u ++ v ++ (und u ++ u))).length ≤ 1000 := Nat.le_trans (red_len _) (by simp only [List.length_append]; omega)
  have l3 : (red (u ++ v ++ und u ++ und v)).length ≤ 1000 := Nat.le_trans (red_len _) (by simp only [List.length_append]; omega)
  have hn : ∀ t : Int, -6 ≤ t % 13 - 6 ∧ t % 13 - 6 ≤ 6 := fun t => by omega
  have b12 := bu.mul bv
  have last : decide (decide (((red (u ++ v ++ und u ++ und v)).length : Int) = 0) = decide ((tab u).mul (tab v) = (tab v).mul (tab u))) = true := by
    rw [decide_eq_true_eq]
    refine decide_eq_decide.mpr ⟨fun h => ?_, fun h => ?_⟩
    · have e : red (u ++ v ++ und u ++ und v) = [] := List.eq_nil_of_length_eq_zero (by omega)
      rw [e, tab_nil] at t3
      have a1 := M2.mul_cancel_adj (a := ((tab u).mul (tab v)).mul (tab u).adj) (det_tab v)
      rw [← t3, M2.one_mul] at a1
      have a2 := M2.mul_cancel_adj (a := (tab u).mul (tab v)) (det_tab u)
      rw [← a1] at a2
      exact a2.symm
    · rw [h, M2.mul_adj_cancel (det_tab u)] at t3
      have a1 := M2.mul_adj_cancel (a := M2.one) (det_tab v)
      rw [M2.one_mul] at a1
      rw [a1] at t3
      have := free _ [] (red_RedL (u ++ v ++ und u ++ und v)) trivial (wordOk_NZ (wordOk_red ok3)) (fun x hx => by cases hx) (by rw [t3]; rfl)
      rw [this]; rfl
  simp -implicitDefEqProofs only [run_1, wp_some, wp_none, wp_bind, wp_map, wp_ite, bR_b, iR_i, dR_d, mR_m, look_d, look_l, look_s, look_f, unal_l, unal_s, unal_f, val_ow, val_al, c_var, c_cst, c_bin, c_un, c_and, c_or, c_not, c_ite, c_tup, c_lst, c_slice, c_lrng, c_trng, rngV_n, c_call, lstAt_l, c_mt0, c_mt1, cL_nil, cL_cons, cP_nil, cP_sm, cI_r1, cI_r2, cI_sq, walkAt_l, walkAt_s, walkAt_f, iter_t, iter_l, iter_a, nxt_nx, nxt_rt, nxt_bk, nxt_ct, q_skip, q_seq, q_set, q_par, tR_t, q_unp, q_setI, q_ex2, retV_ow, retV_al, q_ret2, q_retN, q_if, q_brk, q_cnt, augV_i, augV_l, augV_t, q_aug2, e_dB, e_dI, eq_ii, eq_bb, mem_ti, mem_li, atI_map, idx_t, idx_l, idx_f, cut_t, cut_l, sl_map, p_eq, p_ne, p_mem, p_nmem, p_idx, p_add, p_addT, p_addL, p_sub, p_mulT, p_mulL, p_fdiv, p_mod, p_pow, p_lt, p_le, p_gt, p_ge, p_maxm, p_minm, p_neg, p_isN, p_notN, p_isB, p_notB, p_lenT, p_lenL, p_lenF, p_tupL, p_tupT, p_listT, p_listL, p_abs, p_int, p_intB, p_revT, p_revL, p_isInt, p_isBool, p_isStr, p_isTuple, m_append, m_rev, shO_n, shO_s, shAt_c, isSh_d, isSh_l, isSh_s, isSh_f, raw_ow, raw_al, raws_n, raws_c, alK_n, alK_o, alK_a, back_n, back_o, back_l, back_s, back_f, owD_n, owD_c, owM_n, owM_c, bindM_n, bindM_c, bindN_n, bindN_c, bindT_n, bindT_t, wipe_n, wipe_c, fill_n, fillO_d, fillO_n, fillO_l, fill_c, lock_n, lock_s, open_n, open_s, aug_add, aug_sub, fturn_c, turn_c, fin_nx, fin_rt, ini_n, ini_c, outs_n, outs_d, outs_l, outs_s, outs_f, pins_n, pins_d, pins_l, pins_s, pins_f, inRng_0, inRng_1, inRng_2, eq_ti, eq_li, atI_0, atI_1, atI_2, atI_3, line_1, line_2, line_3, line_4, line_5, line_6, line_7, line_8, line_9, line_10, line_11, line_12, List.getElem?_cons_zero, List.getElem?_cons_succ, List.set_cons_zero, List.set_cons_succ, List.length_map, List.length_cons, List.length_nil, Option.bind_some, Option.bind_none, id, List.mem_cons, List.not_mem_nil, List.replicate_succ, List.replicate_zero, List.nil_append, List.cons_append, if_true, if_false, ite_true, ite_false, Bool.false_eq_true, Bool.or_false, Bool.false_or, Bool.or_true, Bool.true_or, Bool.and_true, Bool.true_and, Bool.and_false, Bool.false_and, Bool.not_true, Bool.not_false, decide_true, decide_false, or_false, false_or, or_true, true_or, and_true, true_and, List.nodup_cons, List.nodup_nil, not_false_eq_true, not_true_eq_false, decide_eq_true_eq, Bool.not_eq_true', decide_eq_false_iff_not, inPin, List.any_cons, List.any_nil, isTupD, isIntD, isBoolD, isStrD, isNoneD, Nat.reduceSub, Nat.reduceAdd, Nat.reduceLeDiff, Nat.reduceEqDiff, Nat.reduceMul, Nat.reducePow, Nat.sub_self, Nat.sub_zero, Int.reduceLT, Int.reduceLE, Int.reduceNeg, Int.reduceToNat, Int.reduceEq, Bool.and_self, decide_not, reduceCtorEq, Nat.zero_le, Option.toList_none, Option.toList_some, List.append_nil, true_implies, false_implies, implies_true, not_true, not_false_eq_true, Option.map_some, law_table_sp wf (k + 2) u su (by omega), law_table_sp wf (k + 2) v sv (by omega), line_2, line_4, are_words_same_sp wf (k + 2) u v (by omega) (by omega), eq_tM, same_b wf (k + 3), ri, law_times_sp wf (k + 3) _ _ 1000 1000 bu bv (by decide) (by decide) (by decide), p1, p2, law_undone_sp wf (k + 3) u (by omega), told _ _ (wordOk_red ok1) (red_RedL _) l1 t1, told _ _ (wordOk_red ok2) (red_RedL _) l2 t2, law_take_sp wf (k + 3)]
  generalize ds.getLastD 0 = d0
  have hd := hn d0
  generalize d0 % 13 - 6 = n at hd
  obtain ⟨q1, q2, q3⟩ := pow_ok uok n
  simp -implicitDefEqProofs only [run_1, wp_some, wp_none, wp_bind, wp_map, wp_ite, bR_b, iR_i, dR_d, mR_m, look_d, look_l, look_s, look_f, unal_l, unal_s, unal_f, val_ow, val_al, c_var, c_cst, c_bin, c_un, c_and, c_or, c_not, c_ite, c_tup, c_lst, c_slice, c_lrng, c_trng, rngV_n, c_call, lstAt_l, c_mt0, c_mt1, cL_nil, cL_cons, cP_nil, cP_sm, cI_r1, cI_r2, cI_sq, walkAt_l, walkAt_s, walkAt_f, iter_t, iter_l, iter_a, nxt_nx, nxt_rt, nxt_bk, nxt_ct, q_skip, q_seq, q_set, q_par, tR_t, q_unp, q_setI, q_ex2, retV_ow, retV_al, q_ret2, q_retN, q_if, q_brk, q_cnt, augV_i, augV_l, augV_t, q_aug2, e_dB, e_dI, eq_ii, eq_bb, mem_ti, mem_li, atI_map, idx_t, idx_l, idx_f, cut_t, cut_l, sl_map, p_eq, p_ne, p_mem, p_nmem, p_idx, p_add, p_addT, p_addL, p_sub, p_mulT, p_mulL, p_fdiv, p_mod, p_pow, p_lt, p_le, p_gt, p_ge, p_maxm, p_minm, p_neg, p_isN, p_notN, p_isB, p_notB, p_lenT, p_lenL, p_lenF, p_tupL, p_tupT, p_listT, p_listL, p_abs, p_int, p_intB, p_revT, p_revL, p_isInt, p_isBool, p_isStr, p_isTuple, m_append, m_rev, shO_n, shO_s, shAt_c, isSh_d, isSh_l, isSh_s, isSh_f, raw_ow, raw_al, raws_n, raws_c, alK_n, alK_o, alK_a, back_n, back_o, back_l, back_s, back_f, owD_n, owD_c, owM_n, owM_c, bindM_n, bindM_c, bindN_n, bindN_c, bindT_n, bindT_t, wipe_n, wipe_c, fill_n, fillO_d, fillO_n, fillO_l, fill_c, lock_n, lock_s, open_n, open_s, aug_add, aug_sub, fturn_c, turn_c, fin_nx, fin_rt, ini_n, ini_c, outs_n, outs_d, outs_l, outs_s, outs_f, pins_n, pins_d, pins_l, pins_s, pins_f, inRng_0, inRng_1, inRng_2, eq_ti, eq_li, atI_0, atI_1, atI_2, atI_3, line_1, line_2, line_3, line_4, line_5, line_6, line_7, line_8, line_9, line_10, line_11, line_12, List.getElem?_cons_zero, List.getElem?_cons_succ, List.set_cons_zero, List.set_cons_succ, List.length_map, List.length_cons, List.length_nil, Option.bind_some, Option.bind_none, id, List.mem_cons, List.not_mem_nil, List.replicate_succ, List.replicate_zero, List.nil_append, List.cons_append, if_true, if_false, ite_true, ite_false, Bool.false_eq_true, Bool.or_false, Bool.false_or, Bool.or_true, Bool.true_or, Bool.and_true, Bool.true_and, Bool.and_false, Bool.false_and, Bool.not_true, Bool.not_false, decide_true, decide_false, or_false, false_or, or_true, true_or, and_true, true_and, List.nodup_cons, List.nodup_nil, not_false_eq_true, not_true_eq_false, decide_eq_true_eq, Bool.not_eq_true', decide_eq_false_iff_not, inPin, List.any_cons, List.any_nil, isTupD, isIntD, isBoolD, isStrD, isNoneD, Nat.reduceSub, Nat.reduceAdd, Nat.reduceLeDiff, Nat.reduceEqDiff, Nat.reduceMul, Nat.reducePow, Nat.sub_self, Nat.sub_zero, Int.reduceLT, Int.reduceLE, Int.reduceNeg, Int.reduceToNat, Int.reduceEq, Bool.and_self, decide_not, reduceCtorEq, Nat.zero_le, Option.toList_none, Option.toList_some, List.append_nil, true_implies, false_implies, implies_true, not_true, not_false_eq_true, Option.map_some, word_power_sp wf (k + 2) u n (by omega) (by omega) (by omega), law_often_sp wf (k + 2) (tab u) n 1000 bu (by decide) (by decide) (by omega) (by omega), told _ _ q1 q2 (Nat.le_trans (pow_len hu hd.1 hd.2) (by decide)) q3, commutator_word_sp wf (k + 1) u v (by omega) (by omega), law_back_sp wf (k + 3), law_times_sp wf (k + 3) _ _ 2001 1000 b12 bu.adj (by decide) (by decide) (by decide), law_times_sp wf (k + 3) _ _ 3002 1000 (b12.mul bu.adj) bv.adj (by decide) (by decide) (by decide), told _ _ (wordOk_red ok3) (red_RedL _) l3 t3, law_times_sp wf (k + 3) _ _ 1000 1000 bv bu (by decide) (by decide) (by decide), eq_tM, eq_bb, last]
  exact ⟨_, rfl⟩
end Law

end
section
set_option maxHeartbeats 4000000
namespace Law
open Cs PySem
theorem law_run (wf k : Nat) (hwf : wf = 1000000) (ns : List Int) (hn : ns.length ≤ 63) : ∃ ms', callF wf FS (k + 6) 27 [.fz (ns.map .int)] = some (.d (.bool true), ms') := by
  suffices h : wp (callF wf FS (k + 6) 27 [.fz (ns.map .int)]) fun r => r.1 = .d (.bool true) by
    obtain ⟨⟨r, ms'⟩, h1, rfl⟩ := h
    exact ⟨ms', h1⟩
  rw [call_law]
  unfold f_law b_law
  obtain ⟨ds, hd⟩ := law_draws_sp wf (k + 4) ns 400 hn (by decide) (by decide)
  have hr2 : rngL 0 2 = ([0, 1] : List Int).map .int := rfl
  simp -implicitDefEqProofs only [run_1, wp_some, wp_none, wp_bind, wp_map, wp_ite, bR_b, iR_i, dR_d, mR_m, look_d, look_l, look_s, look_f, unal_l, unal_s, unal_f, val_ow, val_al, c_var, c_cst, c_bin, c_un, c_and, c_or, c_not, c_ite, c_tup, c_lst, c_slice, c_lrng, c_trng, rngV_n, c_call, lstAt_l, c_mt0, c_mt1, cL_nil, cL_cons, cP_nil, cP_sm, cI_r1, cI_r2, cI_sq, walkAt_l, walkAt_s, walkAt_f, iter_t, iter_l, iter_a, nxt_nx, nxt_rt, nxt_bk, nxt_ct, q_skip, q_seq, q_set, q_par, tR_t, q_unp, q_setI, q_ex2, retV_ow, retV_al, q_ret2, q_retN, q_if, q_brk, q_cnt, augV_i, augV_l, augV_t, q_aug2, e_dB, e_dI, eq_ii, eq_bb, mem_ti, mem_li, atI_map, idx_t, idx_l, idx_f, cut_t, cut_l, sl_map, p_eq, p_ne, p_mem, p_nmem, p_idx, p_add, p_addT, p_addL, p_sub, p_mulT, p_mulL, p_fdiv, p_mod, p_pow, p_lt, p_le, p_gt, p_ge, p_maxm, p_minm, p_neg, p_isN, p_notN, p_isB, p_notB, p_lenT, p_lenL, p_lenF, p_tupL, p_tupT, p_listT, p_listL, p_abs, p_int, p_intB, p_revT, p_revL, p_isInt, p_isBool, p_isStr, p_isTuple, m_append, m_rev, shO_n, shO_s, shAt_c, isSh_d, isSh_l, isSh_s, isSh_f, raw_ow, raw_al, raws_n, raws_c, alK_n, alK_o, alK_a, back_n, back_o, back_l, back_s, back_f, owD_n, owD_c, owM_n, owM_c, bindM_n, bindM_c, bindN_n, bindN_c, bindT_n, bindT_t, wipe_n, wipe_c, fill_n, fillO_d, fillO_n, fillO_l, fill_c, lock_n, lock_s, open_n, open_s, aug_add, aug_sub, fturn_c, turn_c, fin_nx, fin_rt, ini_n, ini_c, outs_n, outs_d, outs_l, outs_s, outs_f, pins_n, pins_d, pins_l, pins_s, pins_f, inRng_0, inRng_1, inRng_2, eq_ti, eq_li, atI_0, atI_1, atI_2, atI_3, line_1, line_2, line_3, line_4, line_5, line_6, line_7, line_8, line_9, line_10, line_11, line_12, List.getElem?_cons_zero, List.getElem?_cons_succ, List.set_cons_zero, List.set_cons_succ, List.length_map, List.length_cons, List.length_nil, Option.bind_some, Option.bind_none, id, List.mem_cons, List.not_mem_nil, List.replicate_succ, List.replicate_zero, List.nil_append, List.cons_append, if_true, if_false, ite_true, ite_false, Bool.false_eq_true, Bool.or_false, Bool.false_or, Bool.or_true, Bool.true_or, Bool.and_true, Bool.true_and, Bool.and_false, Bool.false_and, Bool.not_true, Bool.not_false, decide_true, decide_false, or_false, false_or, or_true, true_or, and_true, true_and, List.nodup_cons, List.nodup_nil, not_false_eq_true, not_true_eq_false, decide_eq_true_eq, Bool.not_eq_true', decide_eq_false_iff_not, inPin, List.any_cons, List.any_nil, isTupD, isIntD, isBoolD, isStrD, isNoneD, Nat.reduceSub, Nat.reduceAdd, Nat.reduceLeDiff, Nat.reduceEqDiff, Nat.reduceMul, Nat.reducePow, Nat.sub_self, Nat.sub_zero, Int.reduceLT, Int.reduceLE, Int.reduceNeg, Int.reduceToNat, Int.reduceEq, Bool.and_self, decide_not, reduceCtorEq, Nat.zero_le, Option.toList_none, Option.toList_some, List.append_nil, true_implies, false_implies, implies_true, not_true, not_false_eq_true, Option.map_some, hd, law_take_sp wf (k + 4), q_for, inRng_2, hr2]
  have hm : ∀ t : Int, 0 < 1 + t % 6 ∧ 1 + t % 6 ≤ 6 := fun t => by omega
  generalize hmany : 1 + ds.getLastD 0 % 6 = many
  have hm1 : 0 < many ∧ many ≤ 6 := by rw [← hmany]; exact hm _
  refine wp_imp (forL_inv (f := fturn _ _ _ _ _) (d := PyData.int) (fun ys e => ∃ (ds : List Int) (z1 z2 z3 : Option M), e = [some (.fz (ns.map .int)), some (.lst (ds.map .int)), some (.d (.int many)), z1, z2, z3, none] ∧ shO (some z1) = false ∧ shO (some z2) = false ∧ shO (some z3) = false ∧ (ys.length = 2 ∨ ∃ w : List Int, z2 = some (.d (tI w)) ∧ w.length ≤ 24 ∧ WordOk w many)) (Q := fun q => q.1 = .nx ∧ ∃ (ds : List Int) (z1 z3 : Option M) (w : List Int), q.2 = [some (.fz (ns.map .int)), some (.lst (ds.map .int)), some (.d (.int many)), z1, some (.d (tI w)), z3, none] ∧ w.length ≤ 24 ∧ WordOk w many) ?_ [0, 1] _ ⟨_, none, none, none, rfl, rfl, rfl, rfl, .inl rfl⟩ ?_) ?_
  · rintro e ⟨ds, z1, z2, z3, rfl, h1, h2, h3, h4⟩
    rcases h4 with h4 | ⟨w, rfl, h4, h5⟩
    · cases h4
    · exact ⟨rfl, ds, z1, z3, w, rfl, h4, h5⟩
  · rintro x ys e ⟨ds, z1, z2, z3, rfl, h1, h2, h3, _⟩
    obtain ⟨ds2, u, e1, l1, o1⟩ := law_word_sp wf (k + 3) ds many 24 hm1.1 (by decide) (by decide)
    have l1' : u.length ≤ 24 := l1
    obtain ⟨ds3, v, e2, l2, o2⟩ := law_beside_sp wf (k + 2) ds2 many u hm1.1 l1' o1
    obtain ⟨ds4, e3⟩ := law_are_two_right_sp wf k ds3 many u v hm1.2 l1' l2 o1 o2
    obtain ⟨ds5, e4⟩ := law_are_two_right_sp wf k ds4 many v u hm1.2 l2 l1' o2 o1
    simp -implicitDefEqProofs only [run_1, wp_some, wp_none, wp_bind, wp_map, wp_ite, bR_b, iR_i, dR_d, mR_m, look_d, look_l, look_s, look_f, unal_l, unal_s, unal_f, val_ow, val_al, c_var, c_cst, c_bin, c_un, c_and, c_or, c_not, c_ite, c_tup, c_lst, c_slice, c_lrng, c_trng, rngV_n, c_call, lstAt_l, c_mt0, c_mt1, cL_nil, cL_cons, cP_nil, cP_sm, cI_r1, cI_r2, cI_sq, walkAt_l, walkAt_s, walkAt_f, iter_t, iter_l, iter_a, nxt_nx, nxt_rt, nxt_bk, nxt_ct, q_skip, q_seq, q_set, q_par, tR_t, q_unp, q_setI, q_ex2, retV_ow, retV_al, q_ret2, q_retN, q_if, q_brk, q_cnt, augV_i, augV_l, augV_t, q_aug2, e_dB, e_dI, eq_ii, eq_bb, mem_ti, mem_li, atI_map, idx_t, idx_l, idx_f, cut_t, cut_l, sl_map, p_eq, p_ne, p_mem, p_nmem, p_idx, p_add, p_addT, p_addL, p_sub, p_mulT, p_mulL, p_fdiv, p_mod, p_pow, p_lt, p_le, p_gt, p_ge, p_maxm, p_minm, p_neg, p_isN, p_notN, p_isB, p_notB, p_lenT, p_lenL, p_lenF, p_tupL, p_tupT, p_listT, p_listL, p_abs, p_int, p_intB, p_revT, p_revL, p_isInt, p_isBool, p_isStr, p_isTuple, m_append, m_rev, shO_n, shO_s, shAt_c, isSh_d, isSh_l, isSh_s, isSh_f, raw_ow, raw_al, raws_n, raws_c, alK_n, alK_o, alK_a, back_n, back_o, back_l, back_s, back_f, owD_n, owD_c, owM_n, owM_c, bindM_n, bindM_c, bindN_n, bindN_c, bindT_n, bindT_t, wipe_n, wipe_c, fill_n, fillO_d, fillO_n, fillO_l, fill_c, lock_n, lock_s, open_n, open_s, aug_add, aug_sub, fturn_c, turn_c, fin_nx, fin_rt, ini_n, ini_c, outs_n, outs_d, outs_l, outs_s, outs_f, pins_n, pins_d, pins_l, pins_s, pins_f, inRng_0, inRng_1, inRng_2, eq_ti, eq_li, atI_0, atI_1, atI_2, atI_3, line_1, line_2, line_3, line_4, line_5, line_6, line_7, line_8, line_9, line_10, line_11, line_12, List.getElem?_cons_zero, List.getElem?_cons_succ, List.set_cons_zero, List.set_cons_succ, List.length_map, List.length_cons, List.length_nil, Option.bind_some, Option.bind_none, id, List.mem_cons, List.not_mem_nil, List.replicate_succ, List.replicate_zero, List.nil_append, List.cons_append, if_true, if_false, ite_true, ite_false, Bool.false_eq_true, Bool.or_false, Bool.false_or, Bool.or_true, Bool.true_or, Bool.and_true, Bool.true_and, Bool.and_false, Bool.false_and, Bool.not_true, Bool.not_false, decide_true, decide_false, or_false, false_or, or_true, true_or, and_true, true_and, List.nodup_cons, List.nodup_nil, not_false_eq_true, not_true_eq_false, decide_eq_true_eq, Bool.not_eq_true', decide_eq_false_iff_not, inPin, List.any_cons, List.any_nil, isTupD, isIntD, isBoolD, isStrD, isNoneD, Nat.reduceSub, Nat.reduceAdd, Nat.reduceLeDiff, Nat.reduceEqDiff, Nat.reduceMul, Nat.reducePow, Nat.sub_self, Nat.sub_zero, Int.reduceLT, Int.reduceLE, Int.reduceNeg, Int.reduceToNat, Int.reduceEq, Bool.and_self, decide_not, reduceCtorEq, Nat.zero_le, Option.toList_none, Option.toList_some, List.append_nil, true_implies, false_implies, implies_true, not_true, not_false_eq_true, Option.map_some, h1, h2, h3, e1, e2, law_is_one_right_sp wf (k + 1) hwf many u hm1.2 l1' o1, law_is_one_right_sp wf (k + 1) hwf many v hm1.2 l2 o2, e3, e4]
    exact ⟨ds5, _, _, _, rfl, rfl, rfl, rfl, .inr ⟨u, rfl, l1', o1⟩⟩
  · rintro ⟨fl, e⟩ ⟨rfl, ds, z1, z3, w, rfl, l1, o1⟩
    have c1 : callF wf FS (k + 5) 10 [.d (.tuple [])] = some (.d (.tuple []), [.d (.tuple [])]) := product_of_words_sp wf (k + 3) [] (by decide)
    have c2 : callF wf FS (k + 5) 15 [.d (.tuple []), .d (.tuple [])] = some (.d (.bool true), [.d (.tuple []), .d (.tuple [])]) := same_ti wf (k + 3) [] (by decide)
    have c3 : callF wf FS (k + 5) 12 [.d (.tuple [.int 1, .int 2, .int (-2)]), .d (.tuple [.int 2])] = some (.d (.tuple [.int 1, .int 2, .int (-1), .int (-2)]), [.d (.tuple [.int 1, .int 2, .int (-2)]), .d (.tuple [.int 2])]) := by
      have := commutator_word_sp wf (k + 2) [1, 2, -2] [2] (by decide) (by decide)
      rw [show red ([1, 2, -2] ++ [2] ++ und [1, 2, -2] ++ und [2]) = [1, 2, -1, -2] by decide] at this
      exact this
    have c4 : callF wf FS (k + 5) 15 [.d (.tuple [.int 1, .int 2, .int (-1), .int (-2)]), .d (.tuple [.int 1, .int 2, .int (-1), .int (-2)])] = some (.d (.bool true), [.d (.tuple [.int 1, .int 2, .int (-1), .int (-2)]), .d (.tuple [.int 1, .int 2, .int (-1), .int (-2)])]) := same_ti wf (k + 3) [1, 2, -1, -2] (by decide)
    have c5 : p2 .mul (.d (.tuple [.int 1, .int 2, .int 3, .int 4, .int 5, .int 6])) (.d (.int 2)) = some (.d (.tuple [.int 1, .int 2, .int 3, .int 4, .int 5, .int 6, .int 1, .int 2, .int 3, .int 4, .int 5, .int 6])) := by rw [p_mulT, if_pos (by decide +kernel)]; rfl
    have c6 : callF wf FS (k + 5) 6 [.d (.tuple [.int 1, .int 2, .int 3, .int 4, .int 5, .int 6, .int 1, .int 2, .int 3, .int 4, .int 5, .int 6, .int 1]), .d (.tuple [.int 1, .int 2, .int 3, .int 4, .int 5, .int 6, .int 1, .int 2, .int 3, .int 4, .int 5, .int 6, .int (-1)])] = some (.d (.bool false), [.d (.tuple [.int 1, .int 2, .int 3, .int 4, .int 5, .int 6, .int 1, .int 2, .int 3, .int 4, .int 5, .int 6, .int 1]), .d (.tuple [.int 1, .int 2, .int 3, .int 4, .int 5, .int 6, .int 1, .int 2, .int 3, .int 4, .int 5, .int 6, .int (-1)])]) := by
      have := are_words_same_sp wf (k + 3) [1, 2, 3, 4, 5, 6, 1, 2, 3, 4, 5, 6, 1] [1, 2, 3, 4, 5, 6, 1, 2, 3, 4, 5, 6, -1] (by decide) (by decide)
      rw [decide_eq_false (show ¬ red [1, 2, 3, 4, 5, 6, 1, 2, 3, 4, 5, 6, 1] = red [1, 2, 3, 4, 5, 6, 1, 2, 3, 4, 5, 6, -1] by decide)] at this
      exact this
    have c7 : callF wf FS (k + 5) 16 [.d (.tuple [.int 1, .int 2, .int 3, .int 4, .int 5, .int 6, .int 1, .int 2, .int 3, .int 4, .int 5, .int 6])] = some (.d (.tuple [.int (-6), .int (-5), .int (-4), .int (-3), .int (-2), .int (-1), .int (-6), .int (-5), .int (-4), .int (-3), .int (-2), .int (-1)]), [.d (.tuple [.int 1, .int 2, .int 3, .int 4, .int 5, .int 6, .int 1, .int 2, .int 3, .int 4, .int 5, .int 6])]) := law_undone_sp wf (k + 4) [1, 2, 3, 4, 5, 6, 1, 2, 3, 4, 5, 6] (by decide)
    have c8 : callF wf FS (k + 5) 4 [.d (.tuple [.int 1, .int 2, .int 3, .int 4, .int 5, .int 6, .int 1, .int 2, .int 3, .int 4, .int 5, .int 6, .int (-6), .int (-5), .int (-4), .int (-3), .int (-2), .int (-1), .int (-6), .int (-5), .int (-4), .int (-3), .int (-2), .int (-1)])] = some (.d (.tuple []), [.d (.tuple [.int 1, .int 2, .int 3, .int 4, .int 5, .int 6, .int 1, .int 2, .int 3, .int 4, .int 5, .int 6, .int (-6), .int (-5), .int (-4), .int (-3), .int (-2), .int (-1), .int (-6), .int (-5), .int (-4), .int (-3), .int (-2), .int (-1)])]) := by
      have := reduced_word_sp wf (k + 4) [1, 2, 3, 4, 5, 6, 1, 2, 3, 4, 5, 6, -6, -5, -4, -3, -2, -1, -6, -5, -4, -3, -2, -1] (by decide)
      rw [show red [1, 2, 3, 4, 5, 6, 1, 2, 3, 4, 5, 6, -6, -5, -4, -3, -2, -1, -6, -5, -4, -3, -2, -1] = [] by decide] at this
      exact this
    have c9 : callF wf FS (k + 5) 11 [.d (.tuple [.int 6, .int 1, .int (-6)]), .d (.int 3)] = some (.d (.tuple [.int 6, .int 1, .int 1, .int 1, .int (-6)]), [.d (.tuple [.int 6, .int 1, .int (-6)]), .d (.int 3)]) := by
      have := word_power_sp wf (k + 3) [6, 1, -6] 3 (by decide) (by decide) (by decide)
      rw [show pow [6, 1, -6] 3 = [6, 1, 1, 1, -6] by decide] at this
      exact this
    have c10 : callF wf FS (k + 5) 15 [.d (.tuple [.int 6, .int 1, .int 1, .int 1, .int (-6)]), .d (.tuple [.int 6, .int 1, .int 1, .int 1, .int (-6)])] = some (.d (.bool true), [.d (.tuple [.int 6, .int 1, .int 1, .int 1, .int (-6)]), .d (.tuple [.int 6, .int 1, .int 1, .int 1, .int (-6)])]) := same_ti wf (k + 3) [6, 1, 1, 1, -6] (by decide)
    simp -implicitDefEqProofs only [run_1, wp_some, wp_none, wp_bind, wp_map, wp_ite, bR_b, iR_i, dR_d, mR_m, look_d, look_l, look_s, look_f, unal_l, unal_s, unal_f, val_ow, val_al, c_var, c_cst, c_bin, c_un, c_and, c_or, c_not, c_ite, c_tup, c_lst, c_slice, c_lrng, c_trng, rngV_n, c_call, lstAt_l, c_mt0, c_mt1, cL_nil, cL_cons, cP_nil, cP_sm, cI_r1, cI_r2, cI_sq, walkAt_l, walkAt_s, walkAt_f, iter_t, iter_l, iter_a, nxt_nx, nxt_rt, nxt_bk, nxt_ct, q_skip, q_seq, q_set, q_par, tR_t, q_unp, q_setI, q_ex2, retV_ow, retV_al, q_ret2, q_retN, q_if, q_brk, q_cnt, augV_i, augV_l, augV_t, q_aug2, e_dB, e_dI, eq_ii, eq_bb, mem_ti, mem_li, atI_map, idx_t, idx_l, idx_f, cut_t, cut_l, sl_map, p_eq, p_ne, p_mem, p_nmem, p_idx, p_add, p_addT, p_addL, p_sub, p_mulT, p_mulL, p_fdiv, p_mod, p_pow, p_lt, p_le, p_gt, p_ge, p_maxm, p_minm, p_neg, p_isN, p_notN, p_isB, p_notB, p_lenT, p_lenL, p_lenF, p_tupL, p_tupT, p_listT, p_listL, p_abs, p_int, p_intB, p_revT, p_revL, p_isInt, p_isBool, p_isStr, p_isTuple, m_append, m_rev, shO_n, shO_s, shAt_c, isSh_d, isSh_l, isSh_s, isSh_f, raw_ow, raw_al, raws_n, raws_c, alK_n, alK_o, alK_a, back_n, back_o, back_l, back_s, back_f, owD_n, owD_c, owM_n, owM_c, bindM_n, bindM_c, bindN_n, bindN_c, bindT_n, bindT_t, wipe_n, wipe_c, fill_n, fillO_d, fillO_n, fillO_l, fill_c, lock_n, lock_s, open_n, open_s, aug_add, aug_sub, fturn_c, turn_c, fin_nx, fin_rt, ini_n, ini_c, outs_n, outs_d, outs_l, outs_s, outs_f, pins_n, pins_d, pins_l, pins_s, pins_f, inRng_0, inRng_1, inRng_2, eq_ti, eq_li, atI_0, atI_1, atI_2, atI_3, line_1, line_2, line_3, line_4, line_5, line_6, line_7, line_8, line_9, line_10, line_11, line_12, List.getElem?_cons_zero, List.getElem?_cons_succ, List.set_cons_zero, List.set_cons_succ, List.length_map, List.length_cons, List.length_nil, Option.bind_some, Option.bind_none, id, List.mem_cons, List.not_mem_nil, List.replicate_succ, List.replicate_zero, List.nil_append, List.cons_append, if_true, if_false, ite_true, ite_false, Bool.false_eq_true, Bool.or_false, Bool.false_or, Bool.or_true, Bool.true_or, Bool.and_true, Bool.true_and, Bool.and_false, Bool.false_and, Bool.not_true, Bool.not_false, decide_true, decide_false, or_false, false_or, or_true, true_or, and_true, true_and, List.nodup_cons, List.nodup_nil, not_false_eq_true, not_true_eq_false, decide_eq_true_eq, Bool.not_eq_true', decide_eq_false_iff_not, inPin, List.any_cons, List.any_nil, isTupD, isIntD, isBoolD, isStrD, isNoneD, Nat.reduceSub, Nat.reduceAdd, Nat.reduceLeDiff, Nat.reduceEqDiff, Nat.reduceMul, Nat.reducePow, Nat.sub_self, Nat.sub_zero, Int.reduceLT, Int.reduceLE, Int.reduceNeg, Int.reduceToNat, Int.reduceEq, Bool.and_self, decide_not, reduceCtorEq, Nat.zero_le, Option.toList_none, Option.toList_some, List.append_nil, true_implies, false_implies, implies_true, not_true, not_false_eq_true, Option.map_some, c1, c2, c3, c4, c5, c6, c7, c8, c9, c10, same_b wf (k + 4), line_1, line_2, line_3, line_4, line_5, line_6, show 13 ≤ sizeLine from le_line (by decide), show 24 ≤ sizeLine from le_line (by decide), law_is_one_right_sp wf (k + 1) hwf many w hm1.2 l1 o1]
theorem law_true : ∀ (wf : Nat) (ns : List Int), ns.length ≤ 63 → wf = 1000000 → ∃ ms', callF wf FS 150 27 [.fz (ns.map .int)] = some (dB true, ms') := fun wf ns hn hw => law_run wf 144 hw ns hn
end Law

end
namespace Law
open Cs PySem PySem.Spec PyProof.Rows L2
theorem law_end {w : World} {K : PySem.W.Frag} {mg : Str → Option Value} {fa : Addr} {h : Heap} (hlaw : ∀ (wf : Nat) (ns : List Int), ns.length ≤ 63 → wf = 1000000 → ∃ ms', callF wf FS 150 27 [.fz (ns.map .int)] = some (dB true, ms')) (X : K.In h) (G : h.Ns mainGlobals mg) (hfa : mg "law" = some (.ref fa)) (facts : Facts K tbl) (none : NoneIn K bltNames) :
    ∃ fd : FuncData, (∀ (s : Shared) (v : Value), BindsTo s fd ⟨[v], []⟩ [("script", v)]) ∧ ∀ base : Heap, K.In base → base.Ns mainGlobals mg → FnOk PySem.Challenge.pw_cutandsewn_k00_whole_words_as_tables w K mg base CX0 150 fa fd ["script"] (fun vs H Q E => ∃ (a : Addr) (ns : List Int), vs = [.ref a] ∧ ns.length ≤ 63 ∧ SqL K H a (ns.map V.int) ∧ ∀ H', Q (.bl true) H') := by
  obtain ⟨f, fd, a, F, b⟩ := (facts e_law (by unfold tbl; simp)).ex
  have e := hfa.symm.trans (PySem.W.mg_of X G a)
  cases e
  refine ⟨fd, fun s v => ?_, fun base _ _ => ?_⟩
  · obtain ⟨oc, od, kV, doc, pm, an, cdv, ct, osl, rfl, lk, hcd⟩ := F.ex
    exact .of_eq rfl
  · have R := fns_ok (P := PySem.Challenge.pw_cutandsewn_k00_whole_words_as_tables) (w := w) (base := base) (wf := 1000000) (fns := fns) (tbl := tbl) rfl ents facts (fun x v hx => PySem.W.mg_of X G hx) (fun x hx => PySem.W.mg_none_of X G (none x hx)) 150 27 e_law rfl _ _ F
    refine R.imp fun vs H Q E h => ?_
    obtain ⟨a, ns, rfl, hl, hS, q⟩ := h
    exact law_sp hS (hlaw 1000000 ns hl rfl) q
end Law
open PySem PySem.W PyProof.Rows
set_option maxHeartbeats 0 in
theorem PySem.Challenge.cw_cutandsewn_k00_whole_words_as_tables_holds : PySem.Challenge.rw_cutandsewn_k00_whole_words_as_tables.Holds := by
  w_on; o_law; k_head; (case hw => w_witness2)
  k_fill
  refine L2.walk_of (l := PySem.Challenge.rw_cutandsewn_k00_whole_words_as_tables) (n := 63) (k := 150) (x := "script") (CX := fun _ => L2.CX0) (sp := fun w => fun vs H Q E => ∃ (a : Addr) (ns : List Int), vs = [.ref a] ∧ ns.length ≤ 63 ∧ L2.SqL _ H a (ns.map L2.V.int) ∧ ∀ H', Q (.bl true) H') rfl (by decide) rfl ⟨rfl, by decide, by decide⟩ (fun w h Y => PySem.W.kIn_of Y) ?F (fun _ _ a ns hl _ hS => ⟨a, ns, rfl, hl, hS, fun _ => rfl⟩) (fun _ _ _ _ _ h => h)
  case F =>
    intro w mg fa h KX G hmg
    refine' Law.law_end Law.law_true KX G hmg ?_ ?_

    · refine' Cs.facts_cons (Cs.fact_mk (fun _ _ _ _ _ _ us hl => match us, hl with | [_], _ => rfl) ?a0 ?l0 ?c0 ?k0) ?r0
      (case a0 => k_is); (case l0 => k_is); (case c0 => k_is); (case k0 => k_is)
      refine' Cs.facts_cons (Cs.fact_mk (fun _ _ _ _ _ _ us hl => match us, hl with | [_], _ => rfl) ?a1 ?l1 ?c1 ?k1) ?r1
      (case a1 => k_is); (case l1 => k_is); (case c1 => k_is); (case k1 => k_is)
      refine' Cs.facts_cons (Cs.fact_mk (fun _ _ _ _ _ _ us hl => match us, hl with | [_], _ => rfl) ?a2 ?l2 ?c2 ?k2) ?r2
      (case a2 => k_is); (case l2 => k_is); (case c2 => k_is); (case k2 => k_is)
      refine' Cs.facts_cons (Cs.fact_mk (fun _ _ _ _ _ _ us hl => match us, hl with | [_, _], _ => rfl) ?a3 ?l3 ?c3 ?k3) ?r3
      (case a3 => k_is); (case l3 => k_is); (case c3 => k_is); (case k3 => k_is)
      refine' Cs.facts_cons (Cs.fact_mk (fun _ _ _ _ _ _ us hl => match us, hl with | [_], _ => rfl) ?a4 ?l4 ?c4 ?k4) ?r4
      (case a4 => k_is); (case l4 => k_is); (case c4 => k_is); (case k4 => k_is)
      refine' Cs.facts_cons (Cs.fact_mk (fun _ _ _ _ _ _ us hl => match us, hl with | [_], _ => rfl) ?a5 ?l5 ?c5 ?k5) ?r5
      (case a5 => k_is); (case l5 => k_is); (case c5 => k_is); (case k5 => k_is)
      refine' Cs.facts_cons (Cs.fact_mk (fun _ _ _ _ _ _ us hl => match us, hl with | [_, _], _ => rfl) ?a6 ?l6 ?c6 ?k6) ?r6
      (case a6 => k_is); (case l6 => k_is); (case c6 => k_is); (case k6 => k_is)
      refine' Cs.facts_cons (Cs.fact_mk (fun _ _ _ _ _ _ us hl => match us, hl with | [_, _], _ => rfl) ?a7 ?l7 ?c7 ?k7) ?r7
      (case a7 => k_is); (case l7 => k_is); (case c7 => k_is); (case k7 => k_is)
      refine' Cs.facts_cons (Cs.fact_mk (fun _ _ _ _ _ _ us hl => match us, hl with | [_, _, _], _ => rfl) ?a8 ?l8 ?c8 ?k8) ?r8
      (case a8 => k_is); (case l8 => k_is); (case c8 => k_is); (case k8 => k_is)
      refine' Cs.facts_cons (Cs.fact_mk (fun _ _ _ _ _ _ us hl => match us, hl with | [_], _ => rfl) ?a9 ?l9 ?c9 ?k9) ?r9
      (case a9 => k_is); (case l9 => k_is); (case c9 => k_is); (case k9 => k_is)
      refine' Cs.facts_cons (Cs.fact_mk (fun _ _ _ _ _ _ us hl => match us, hl with | [_], _ => rfl) ?a10 ?l10 ?c10 ?k10) ?r10
      (case a10 => k_is); (case l10 => k_is); (case c10 => k_is); (case k10 => k_is)
      refine' Cs.facts_cons (Cs.fact_mk (fun _ _ _ _ _ _ us hl => match us, hl with | [_, _], _ => rfl) ?a11 ?l11 ?c11 ?k11) ?r11
      (case a11 => k_is); (case l11 => k_is); (case c11 => k_is); (case k11 => k_is)
      refine' Cs.facts_cons (Cs.fact_mk (fun _ _ _ _ _ _ us hl => match us, hl with | [_, _], _ => rfl) ?a12 ?l12 ?c12 ?k12) ?r12
      (case a12 => k_is); (case l12 => k_is); (case c12 => k_is); (case k12 => k_is)
      refine' Cs.facts_cons (Cs.fact_mk (fun _ _ _ _ _ _ us hl => match us, hl with | [_, _], _ => rfl) ?a13 ?l13 ?c13 ?k13) ?r13
      (case a13 => k_is); (case l13 => k_is); (case c13 => k_is); (case k13 => k_is)
      refine' Cs.facts_cons (Cs.fact_mk (fun _ _ _ _ _ _ us hl => match us, hl with | [_, _], _ => rfl) ?a14 ?l14 ?c14 ?k14) ?r14
      (case a14 => k_is); (case l14 => k_is); (case c14 => k_is); (case k14 => k_is)
      refine' Cs.facts_cons (Cs.fact_mk (fun _ _ _ _ _ _ us hl => match us, hl with | [_, _], _ => rfl) ?a15 ?l15 ?c15 ?k15) ?r15
      (case a15 => k_is); (case l15 => k_is); (case c15 => k_is); (case k15 => k_is)
      refine' Cs.facts_cons (Cs.fact_mk (fun _ _ _ _ _ _ us hl => match us, hl with | [_], _ => rfl) ?a16 ?l16 ?c16 ?k16) ?r16
      (case a16 => k_is); (case l16 => k_is); (case c16 => k_is); (case k16 => k_is)
      refine' Cs.facts_cons (Cs.fact_mk (fun _ _ _ _ _ _ us hl => match us, hl with | [_, _, _], _ => rfl) ?a17 ?l17 ?c17 ?k17) ?r17
      (case a17 => k_is); (case l17 => k_is); (case c17 => k_is); (case k17 => k_is)
      refine' Cs.facts_cons (Cs.fact_mk (fun _ _ _ _ _ _ us hl => match us, hl with | [_, _], _ => rfl) ?a18 ?l18 ?c18 ?k18) ?r18
      (case a18 => k_is); (case l18 => k_is); (case c18 => k_is); (case k18 => k_is)
      refine' Cs.facts_cons (Cs.fact_mk (fun _ _ _ _ _ _ us hl => match us, hl with | [_], _ => rfl) ?a19 ?l19 ?c19 ?k19) ?r19
      (case a19 => k_is); (case l19 => k_is); (case c19 => k_is); (case k19 => k_is)
      refine' Cs.facts_cons (Cs.fact_mk (fun _ _ _ _ _ _ us hl => match us, hl with | [_, _], _ => rfl) ?a20 ?l20 ?c20 ?k20) ?r20
      (case a20 => k_is); (case l20 => k_is); (case c20 => k_is); (case k20 => k_is)
      refine' Cs.facts_cons (Cs.fact_mk (fun _ _ _ _ _ _ us hl => match us, hl with | [_], _ => rfl) ?a21 ?l21 ?c21 ?k21) ?r21
      (case a21 => k_is); (case l21 => k_is); (case c21 => k_is); (case k21 => k_is)
      refine' Cs.facts_cons (Cs.fact_mk (fun _ _ _ _ _ _ us hl => match us, hl with | [_, _], _ => rfl) ?a22 ?l22 ?c22 ?k22) ?r22
      (case a22 => k_is); (case l22 => k_is); (case c22 => k_is); (case k22 => k_is)
      refine' Cs.facts_cons (Cs.fact_mk (fun _ _ _ _ _ _ us hl => match us, hl with | [_, _, _], _ => rfl) ?a23 ?l23 ?c23 ?k23) ?r23
      (case a23 => k_is); (case l23 => k_is); (case c23 => k_is); (case k23 => k_is)
      refine' Cs.facts_cons (Cs.fact_mk (fun _ _ _ _ _ _ us hl => match us, hl with | [_, _], _ => rfl) ?a24 ?l24 ?c24 ?k24) ?r24
      (case a24 => k_is); (case l24 => k_is); (case c24 => k_is); (case k24 => k_is)
      refine' Cs.facts_cons (Cs.fact_mk (fun _ _ _ _ _ _ us hl => match us, hl with | [_, _, _], _ => rfl) ?a25 ?l25 ?c25 ?k25) ?r25
      (case a25 => k_is); (case l25 => k_is); (case c25 => k_is); (case k25 => k_is)
      refine' Cs.facts_cons (Cs.fact_mk (fun _ _ _ _ _ _ us hl => match us, hl with | [_, _, _, _], _ => rfl) ?a26 ?l26 ?c26 ?k26) ?r26
      (case a26 => k_is); (case l26 => k_is); (case c26 => k_is); (case k26 => k_is)
      refine' Cs.facts_cons (Cs.fact_mk (fun _ _ _ _ _ _ us hl => match us, hl with | [_], _ => rfl) ?a27 ?l27 ?c27 ?k27) ?r27
      (case a27 => k_is); (case l27 => k_is); (case c27 => k_is); (case k27 => k_is)
      exact Cs.facts_nil
    · refine' Cs.noneIn_cons ?z0 ?y0
      (case z0 => k_is)
      refine' Cs.noneIn_cons ?z1 ?y1
      (case z1 => k_is)
      refine' Cs.noneIn_cons ?z2 ?y2
      (case z2 => k_is)
      refine' Cs.noneIn_cons ?z3 ?y3
      (case z3 => k_is)
      refine' Cs.noneIn_cons ?z4 ?y4
      (case z4 => k_is)
      refine' Cs.noneIn_cons ?z5 ?y5
      (case z5 => k_is)
      refine' Cs.noneIn_cons ?z6 ?y6
      (case z6 => k_is)
      refine' Cs.noneIn_cons ?z7 ?y7
      (case z7 => k_is)
      refine' Cs.noneIn_cons ?z8 ?y8
      (case z8 => k_is)
      refine' Cs.noneIn_cons ?z9 ?y9
      (case z9 => k_is)
      refine' Cs.noneIn_cons ?z10 ?y10
      (case z10 => k_is)
      refine' Cs.noneIn_cons ?z11 ?y11
      (case z11 => k_is)
      refine' Cs.noneIn_cons ?z12 ?y12
      (case z12 => k_is)
      refine' Cs.noneIn_cons ?z13 ?y13
      (case z13 => k_is)
      refine' Cs.noneIn_cons ?z14 ?y14
      (case z14 => k_is)
      exact Cs.noneIn_nil


